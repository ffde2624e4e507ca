import PyProof.Rows.All
import HandS.ForMost
import HandS.ForExc
import HandS.Wide
import HandS.IsInst
import HandS.HotCalls
import HandS.Style
import HandS.Flow
import HandS.TupAny
import HandS.TupMul
import HandS.WideMore
import HandS.SetFor
import KE.KExcIs
import HandS.HeadHook2
import HandS.Zip
import HandS.Sort
import HandS.Walk
import HandS.Iter
import PyProof.Rows.SumAny
import HandS.HeadEnd
import HandS.Defaults
import HandS.Head0
import HandS.Head1
import HandS.Head2
import PySem.Challenge.RW_vatmatch_k05_whole_far_from_shades
set_option Elab.async false
set_option linter.all false
set_option maxRecDepth 100000
set_option maxHeartbeats 8000000
/-! VmA: plain data D in the place of values, a plain store in the place of the heap; what ties them to the hand layer's V and Hp; rules over them. -/
namespace Vm
open PySem PySem.Spec PyProof.Rows L2
abbrev St := L2.St

/-- built-in classes -/
inductive Bt where
  | int | bool | str | tuple | list | dict | set
  deriving DecidableEq
def Bt.name : Bt → String
  | .int => "int" | .bool => "bool" | .str => "str" | .tuple => "tuple" | .list => "list" | .dict => "dict" | .set => "set"

/-- plain data: a tuple is its items; what may change is known by its address -/
inductive D where
  | non | bl (b : Bool) | int (i : Int) | str (x : Str)
  | tup (xs : List D)
  | ref (a : Addr) | ty (n : Bt)
  /-- a class of the program, by its name -/
  | cls (x : Str)
  /-- the exception that is handled (in a slot alone): its class by its name, its fields -/
  | exn (c : Str) (fs : List (Str × D))

/-- what stands at an address -/
inductive MO where
  | lst (ds : List D)
  | scr (ds : List D)
  | dK (kvs : List (Key × D))
  | dT (kvs : List (List Key × D))
  | ins (C : Addr) (fs : List (Str × D))
abbrev Sto := Addr → Option MO
def put (S : Sto) (a : Addr) (o : MO) : Sto := fun b => if b = a then some o else S b
theorem put_same {S : Sto} {a : Addr} {o : MO} : put S a o a = some o := by unfold put; rw [if_pos rfl]
theorem put_ne {S : Sto} {a b : Addr} {o : MO} (h : b ≠ a) : put S a o b = S b := by unfold put; rw [if_neg h]
theorem put_put {S : Sto} {a : Addr} {o u : MO} : put (put S a o) a u = put S a u := by
  funext b; unfold put; split <;> rfl
theorem ne_new {S : Sto} {a b : Addr} {o : MO} (h : S a = some o) (h' : S b = none) : a ≠ b := by
  intro e; subst e; rw [h] at h'; cases h'

/-- the value that the data is, over the heap -/
inductive RV (K : PySem.W.Frag) (H : Hp) : V → D → Prop
  | non : RV K H .non .non
  | bl {b} : RV K H (.bl b) (.bl b)
  | int {i} : RV K H (.int i) (.int i)
  | str {x} : RV K H (.str x) (.str x)
  | ref {a} : RV K H (.ref a) (.ref a)
  | ty {n : Bt} : RV K H (.ty n.name) (.ty n)
  | cls {x C} : PySem.W.nsIn K mainGlobals x = some (some (.ref C)) → RV K H (.ref C) (.cls x)
  | tup {a vs ds} : SqT K H a vs → Paired (RV K H) vs ds → RV K H (.ref a) (.tup ds)
abbrev RVs (K : PySem.W.Frag) (H : Hp) : List V → List D → Prop := Paired (RV K H)

/-- tuples and frozen things stay -/
structure TK (H H' : Hp) : Prop where
  t : ∀ b xs, H b = some (.tup xs) → H' b = some (.tup xs)
  f : ∀ b o u, H b = some (.frz o u) → H' b = some (.frz o u)
  x : ∀ b fs, H b = some (.xd fs) → H' b = some (.xd fs)
theorem TK.refl {H : Hp} : TK H H := ⟨fun _ _ h => h, fun _ _ _ h => h, fun _ _ h => h⟩
theorem TK.trans {H H1 H2 : Hp} (a : TK H H1) (b : TK H1 H2) : TK H H2 := ⟨fun c x h => b.t c x (a.t c x h), fun c o u h => b.f c o u (a.f c o u h), fun c x h => b.x c x (a.x c x h)⟩
theorem TK.sqt {K : PySem.W.Frag} {H H' : Hp} {a : Addr} {xs : List V} (k : TK H H') (h : SqT K H a xs) : SqT K H' a xs := by
  rcases h with (h | ⟨o, h⟩) | h
  · exact .inl (.inl (k.t _ _ h))
  · exact .inl (.inr ⟨o, k.f _ _ _ h⟩)
  · exact .inr h
theorem TK.new {H : Hp} {a : Addr} {o : HO} (h : H a = none) : TK H (upd H a o) :=
  ⟨fun b xs e => by rw [upd_ne (ne_of_none e h)]; exact e, fun b o u e => by rw [upd_ne (ne_of_none e h)]; exact e, fun b u e => by rw [upd_ne (ne_of_none e h)]; exact e⟩
theorem TK.wr {H : Hp} {a : Addr} {o u : HO} (h : H a = some u) (n1 : ∀ xs, u ≠ .tup xs) (n2 : ∀ o v, u ≠ .frz o v) (n3 : ∀ fs, u ≠ .xd fs) : TK H (upd H a o) :=
  ⟨fun b xs e => by rw [upd_ne (fun z => by rw [z, h] at e; exact n1 xs (Option.some.inj e))]; exact e, fun b o u' e => by rw [upd_ne (fun z => by rw [z, h] at e; exact n2 o u' (Option.some.inj e))]; exact e, fun b fs e => by rw [upd_ne (fun z => by rw [z, h] at e; exact n3 fs (Option.some.inj e))]; exact e⟩

mutual
theorem RV.keep {K : PySem.W.Frag} {H H' : Hp} (k : TK H H') : ∀ {v : V} {d : D}, RV K H v d → RV K H' v d
  | _, _, .non => .non
  | _, _, .bl => .bl
  | _, _, .int => .int
  | _, _, .str => .str
  | _, _, .ref => .ref
  | _, _, .ty => .ty
  | _, _, .cls h => .cls h
  | _, _, .tup h r => .tup (k.sqt h) (RVs.keep k r)
theorem RVs.keep {K : PySem.W.Frag} {H H' : Hp} (k : TK H H') : ∀ {vs : List V} {ds : List D}, Paired (RV K H) vs ds → Paired (RV K H') vs ds
  | _, _, .nil => .nil
  | _, _, .cons r t => .cons (RV.keep k r) (RVs.keep k t)
end

theorem RVs.len {K : PySem.W.Frag} {H : Hp} {vs : List V} {ds : List D} (r : RVs K H vs ds) : vs.length = ds.length := Paired.length r
theorem RVs.at {K : PySem.W.Frag} {H : Hp} : ∀ {vs : List V} {ds : List D} {i : Nat} {d : D}, RVs K H vs ds → ds[i]? = some d → ∃ v, vs[i]? = some v ∧ RV K H v d
  | _, _, _, _, .nil, e => by simp at e
  | _, _, 0, _, .cons r _, e => by simp at e; subst e; exact ⟨_, rfl, r⟩
  | _, _, i + 1, d, .cons _ t, e => by
    obtain ⟨u, h1, h2⟩ := RVs.at (i := i) (d := d) t (by simpa using e)
    exact ⟨u, by simpa using h1, h2⟩
theorem RVs.at' {K : PySem.W.Frag} {H : Hp} : ∀ {vs : List V} {ds : List D} {i : Nat} {v : V}, RVs K H vs ds → vs[i]? = some v → ∃ d, ds[i]? = some d ∧ RV K H v d
  | _, _, _, _, .nil, e => by simp at e
  | _, _, 0, _, .cons r _, e => by simp at e; subst e; exact ⟨_, rfl, r⟩
  | _, _, i + 1, d, .cons _ t, e => by
    obtain ⟨u, h1, h2⟩ := RVs.at' (i := i) (v := d) t (by simpa using e)
    exact ⟨u, by simpa using h1, h2⟩
theorem RVs.append {K : PySem.W.Frag} {H : Hp} : ∀ {vs ws : List V} {ds es : List D}, RVs K H vs ds → RVs K H ws es → RVs K H (vs ++ ws) (ds ++ es)
  | _, _, _, _, .nil, s => s
  | _, _, _, _, .cons r t, s => .cons r (RVs.append t s)
theorem RVs.take {K : PySem.W.Frag} {H : Hp} : ∀ {vs : List V} {ds : List D} (n : Nat), RVs K H vs ds → RVs K H (vs.take n) (ds.take n)
  | _, _, 0, _ => .nil
  | _, _, _ + 1, .nil => .nil
  | _, _, n + 1, .cons r t => .cons r (RVs.take n t)
theorem RVs.drop {K : PySem.W.Frag} {H : Hp} : ∀ {vs : List V} {ds : List D} (n : Nat), RVs K H vs ds → RVs K H (vs.drop n) (ds.drop n)
  | _, _, 0, r => r
  | _, _, _ + 1, .nil => .nil
  | _, _, n + 1, .cons _ t => RVs.drop n t
theorem RVs.set {K : PySem.W.Frag} {H : Hp} {v : V} {d : D} (r : RV K H v d) : ∀ {vs : List V} {ds : List D} (i : Nat), RVs K H vs ds → RVs K H (vs.set i v) (ds.set i d)
  | _, _, _, .nil => .nil
  | _, _, 0, .cons _ t => .cons r t
  | _, _, i + 1, .cons q t => .cons q (RVs.set r i t)
theorem RVs.reverse {K : PySem.W.Frag} {H : Hp} : ∀ {vs : List V} {ds : List D}, RVs K H vs ds → RVs K H vs.reverse ds.reverse
  | _, _, .nil => .nil
  | _, _, .cons r t => by
    rw [List.reverse_cons, List.reverse_cons]
    exact RVs.append (RVs.reverse t) (.cons r .nil)

/-- the object that stands there, over the heap -/
def RO (K : PySem.W.Frag) (H : Hp) (a : Addr) : MO → Prop
  | .lst ds => ∃ xs, H a = some (.lst xs) ∧ RVs K H xs ds
  | .scr ds => (∃ o xs, H a = some (.frz o (.lst xs)) ∧ RVs K H xs ds)
  | .dK kvs => ∃ ws, H a = some (.dK ws) ∧ Paired (fun (p : Key × V) (q : Key × D) => p.1 = q.1 ∧ RV K H p.2 q.2) ws kvs
  | .dT kvs => ∃ ws, H a = some (.dT ws) ∧ Paired (fun (p : List Key × V) (q : List Key × D) => p.1 = q.1 ∧ RV K H p.2 q.2) ws kvs
  | .ins C fs => ∃ dx ws, H a = some (.ins C dx ws) ∧ Paired (fun (p : Str × V) (q : Str × D) => p.1 = q.1 ∧ RV K H p.2 q.2) ws fs
def RS (K : PySem.W.Frag) (H : Hp) (S : Sto) : Prop := ∀ a o, S a = some o → RO K H a o
theorem pk {K : PySem.W.Frag} {H H' : Hp} {κ : Type} (k : TK H H') : ∀ {ws : List (κ × V)} {kvs : List (κ × D)}, Paired (fun (p : κ × V) (q : κ × D) => p.1 = q.1 ∧ RV K H p.2 q.2) ws kvs → Paired (fun (p : κ × V) (q : κ × D) => p.1 = q.1 ∧ RV K H' p.2 q.2) ws kvs
  | _, _, .nil => .nil
  | _, _, .cons r t => .cons ⟨r.1, RV.keep k r.2⟩ (pk k t)
theorem RO.keep {K : PySem.W.Frag} {H H' : Hp} {a : Addr} {o : MO} (k : TK H H') (e : H' a = H a) (h : RO K H a o) : RO K H' a o := by
  cases o with
  | lst ds => obtain ⟨xs, h1, h2⟩ := h; exact ⟨xs, e.trans h1, RVs.keep k h2⟩
  | scr ds => obtain ⟨ob, xs, h1, h2⟩ := h; exact ⟨ob, xs, e.trans h1, RVs.keep k h2⟩
  | dK kvs => obtain ⟨ws, h1, h2⟩ := h; exact ⟨ws, e.trans h1, pk k h2⟩
  | dT kvs => obtain ⟨ws, h1, h2⟩ := h; exact ⟨ws, e.trans h1, pk k h2⟩
  | ins C fs => obtain ⟨dx, ws, h1, h2⟩ := h; exact ⟨dx, ws, e.trans h1, pk k h2⟩
theorem RO.some {K : PySem.W.Frag} {H : Hp} {a : Addr} {o : MO} (h : RO K H a o) : H a ≠ none := by
  cases o with
  | lst ds => obtain ⟨xs, h1, _⟩ := h; rw [h1]; simp
  | scr ds => obtain ⟨ob, xs, h1, _⟩ := h; rw [h1]; simp
  | dK kvs => obtain ⟨ws, h1, _⟩ := h; rw [h1]; simp
  | dT kvs => obtain ⟨ws, h1, _⟩ := h; rw [h1]; simp
  | ins C fs => obtain ⟨dx, ws, h1, _⟩ := h; rw [h1]; simp
theorem RS.free {K : PySem.W.Frag} {H : Hp} {S : Sto} {a : Addr} (r : RS K H S) (h : H a = none) : S a = none := by
  cases e : S a with
  | none => rfl
  | some o => exact absurd h (r a o e).some
/-- a new object that the store doesn't speak of (a tuple) -/
theorem RS.new {K : PySem.W.Frag} {H : Hp} {S : Sto} {a : Addr} {o : HO} (r : RS K H S) (h : H a = none) : RS K (upd H a o) S := fun b u e => by
  have ne : b ≠ a := fun z => by subst z; exact (r b u e).some h
  exact (r b u e).keep (TK.new h) (upd_ne ne)
theorem RS.put {K : PySem.W.Frag} {H : Hp} {S : Sto} {a : Addr} {o : HO} {m : MO} (r : RS K H S) (k : TK H (upd H a o)) (x : RO K (upd H a o) a m) : RS K (upd H a o) (put S a m) := fun b u e => by
  by_cases hb : b = a
  · subst hb; rw [put_same] at e; cases e; exact x
  · rw [put_ne hb] at e
    exact (r b u e).keep k (upd_ne hb)
/-- less is told -/
def Sub (S S' : Sto) : Prop := ∀ a o, S a = some o → S' a = some o
theorem Sub.refl {S : Sto} : Sub S S := fun _ _ h => h
theorem Sub.trans {S S1 S2 : Sto} (a : Sub S S1) (b : Sub S1 S2) : Sub S S2 := fun c o h => b c o (a c o h)
theorem Sub.new {S : Sto} {a : Addr} {o : MO} (h : S a = none) : Sub S (Vm.put S a o) := fun b u e => by rw [put_ne (ne_new e h)]; exact e
theorem RS.sub {K : PySem.W.Frag} {H : Hp} {S S' : Sto} (r : RS K H S') (h : Sub S S') : RS K H S := fun a o e => r a o (h a o e)

/-- an exception's class and fields -/
def RXc (K : PySem.W.Frag) (H : Hp) (cls : Value) (dd : Option Addr) (c : Str) (fs : List (Str × D)) : Prop :=
  (∃ C, cls = .ref C ∧ PySem.W.nsIn K mainGlobals c = some (some (.ref C))) ∧ ((fs = [] ∧ dd = none) ∨ ∃ d ws, dd = some d ∧ H d = some (.xd ws) ∧ Paired (fun (p : Str × V) (q : Str × D) => p.1 = q.1 ∧ RV K H p.2 q.2) ws fs)
theorem RXc.keep {K : PySem.W.Frag} {H H' : Hp} {cls : Value} {dd : Option Addr} {c : Str} {fs : List (Str × D)} (k : TK H H') (h : RXc K H cls dd c fs) : RXc K H' cls dd c fs :=
  ⟨h.1, h.2.imp id fun ⟨d, ws, e, hd, p⟩ => ⟨d, ws, e, k.x _ _ hd, pk k p⟩⟩
abbrev Pn := List (Addr × Obj)
/-- what a slot holds: data, or the handled exception -/
inductive RL (K : PySem.W.Frag) (pn : Pn) (H : Hp) : V → D → Prop
  | val {v d} : RV K H v d → RL K pn H v d
  | exn {a oe cls dd c fs} : (a, oe) ∈ pn → Zc cls dd oe → (∃ vs, oe.data = .fields vs) → RXc K H cls dd c fs → RL K pn H (.ref a) (.exn c fs)
theorem RL.keep {K : PySem.W.Frag} {pn : Pn} {H H' : Hp} {v : V} {d : D} (k : TK H H') : RL K pn H v d → RL K pn H' v d
  | .val h => .val (h.keep k)
  | .exn a b c d => .exn a b c (d.keep k)
theorem RL.mono {K : PySem.W.Frag} {pn pn' : Pn} {H : Hp} {v : V} {d : D} (h : ∀ p ∈ pn, p ∈ pn') : RL K pn H v d → RL K pn' H v d
  | .val h => .val h
  | .exn a b c d => .exn (h _ a) b c d
abbrev Gam := List (Option D)
structure RG (K : PySem.W.Frag) (pn : Pn) (H : Hp) (σ : St) (Γ : Gam) : Prop where
  len : σ.length = Γ.length
  get : ∀ (i : Nat) (d : D), Γ[i]? = some (some d) → ∃ v, σ[i]? = some (some v) ∧ RL K pn H v d
theorem RG.keep {K : PySem.W.Frag} {pn : Pn} {H H' : Hp} {σ : St} {Γ : Gam} (k : TK H H') (r : RG K pn H σ Γ) : RG K pn H' σ Γ :=
  ⟨r.len, fun i d e => let ⟨v, h1, h2⟩ := r.get i d e; ⟨v, h1, h2.keep k⟩⟩
theorem RG.mono {K : PySem.W.Frag} {pn pn' : Pn} {H : Hp} {σ : St} {Γ : Gam} (h : ∀ p ∈ pn, p ∈ pn') (r : RG K pn H σ Γ) : RG K pn' H σ Γ :=
  ⟨r.len, fun i d e => let ⟨v, h1, h2⟩ := r.get i d e; ⟨v, h1, h2.mono h⟩⟩
theorem RG.setL {K : PySem.W.Frag} {pn : Pn} {H : Hp} {σ : St} {Γ : Gam} {v : V} {d : D} {i : Nat} (r : RG K pn H σ Γ) (h : RL K pn H v d) : RG K pn H (σ.set i (some v)) (Γ.set i (some d)) :=
  ⟨by rw [List.length_set, List.length_set]; exact r.len, fun j e hj => by
    by_cases hi : i = j
    · subst hi
      have lt : i < Γ.length := by
        rcases Nat.lt_or_ge i Γ.length with z | z
        · exact z
        · rw [List.getElem?_eq_none (by simpa using z)] at hj; cases hj
      rw [List.getElem?_set_self lt] at hj
      cases hj
      exact ⟨v, List.getElem?_set_self (by rw [r.len]; exact lt), h⟩
    · rw [List.getElem?_set_ne hi] at hj ⊢
      exact r.get j e hj⟩
theorem RG.set {K : PySem.W.Frag} {pn : Pn} {H : Hp} {σ : St} {Γ : Gam} {v : V} {d : D} {i : Nat} (r : RG K pn H σ Γ) (h : RV K H v d) : RG K pn H (σ.set i (some v)) (Γ.set i (some d)) := r.setL (.val h)
theorem RG.unset {K : PySem.W.Frag} {pn : Pn} {H : Hp} {σ : St} {Γ : Gam} {i : Nat} (r : RG K pn H σ Γ) : RG K pn H (σ.set i none) (Γ.set i none) :=
  ⟨by rw [List.length_set, List.length_set]; exact r.len, fun j e hj => by
    by_cases hi : i = j
    · subst hi
      rcases Nat.lt_or_ge i Γ.length with z | z
      · rw [List.getElem?_set_self z] at hj; cases hj
      · rw [List.getElem?_eq_none (by simpa using z)] at hj; cases hj
    · rw [List.getElem?_set_ne hi] at hj ⊢
      exact r.get j e hj⟩
def wipeG (Γ : Gam) : List Nat → Gam
  | [] => Γ
  | v :: vs => (wipeG Γ vs).set v none
theorem RG.wipe {K : PySem.W.Frag} {pn : Pn} {H : Hp} {σ : St} {Γ : Gam} (r : RG K pn H σ Γ) : ∀ vs : List Nat, RG K pn H (L2.wipe σ vs) (wipeG Γ vs)
  | [] => r
  | v :: vs => (RG.wipe r vs).unset
/-- the slots without exceptions -/
def cleanO : Option D → Option D
  | some (.exn _ _) => none
  | o => o
def clean (Γ : Gam) : Gam := Γ.map cleanO
theorem RG.clean {K : PySem.W.Frag} {pn pn' : Pn} {H : Hp} {σ : St} {Γ : Gam} (r : RG K pn H σ Γ) : RG K pn' H σ (Vm.clean Γ) :=
  ⟨by unfold Vm.clean; rw [List.length_map]; exact r.len, fun i d e => by
    unfold Vm.clean at e
    rw [List.getElem?_map] at e
    cases q : Γ[i]? with
    | none => rw [q] at e; cases e
    | some o =>
      rw [q] at e
      cases o with
      | none => cases e
      | some d' =>
        obtain ⟨v, h1, h2⟩ := r.get i d' q
        cases h2 with
        | exn => cases e
        | val h =>
          have : d = d' := by
            cases h <;> (cases e; rfl)
          subst this
          exact ⟨v, h1, .val h⟩⟩

/-- an exception: its class by its name, its fields -/
structure Ex where
  cls : Str
  fs : List (Str × D)
abbrev XP := Ex → Sto → Prop
abbrev XG := Ex → Gam → Sto → Prop
def RX (K : PySem.W.Frag) (H : Hp) (cls : Value) (dd : Option Addr) (x : Ex) : Prop := RXc K H cls dd x.cls x.fs
/-- what is wanted of an exception; the handled exceptions that slots may hold -/
structure WP where
  w : WX
  pn : Pn
abbrev KE := D → Sto → Prop
abbrev WE := Gam → Sto → KE → XP → Prop
abbrev WA := Gam → Sto → (List D → Sto → Prop) → XP → Prop
abbrev WT := Gam → Sto → (Bool → Sto → Prop) → XP → Prop
structure En where
  nx : Gam → Sto → Prop
  rt : KE
abbrev WS := Gam → Sto → En → XG → Prop
abbrev WG := D → Gam → Sto → (Gam → Sto → Prop) → XG → Prop

section
variable (X : Cx) (W : WP)
/-- what is wanted of an exception, over the data -/
def XOk (E' : XP) (σ : St) (H : Hp) : Prop := ∀ x S' cls dd H', E' x S' → TK H H' → RX X.K H' cls dd x → RS X.K H' S' → W.w cls dd σ H'
def XGOk (E' : XG) (H : Hp) : Prop := ∀ x Γ' S' cls dd σ' H', E' x Γ' S' → TK H H' → RX X.K H' cls dd x → RG X.K W.pn H' σ' Γ' → RS X.K H' S' → W.w cls dd σ' H'
def tI (m : WE) : TE := fun σ H Q => ∃ Γ S Q' E', RG X.K W.pn H σ Γ ∧ RS X.K H S ∧ m Γ S Q' E' ∧ (∀ d S' v H', Q' d S' → TK H H' → RV X.K H' v d → RS X.K H' S' → Q v H') ∧ XOk X W E' σ H
def tA (m : WA) : TA := fun σ H Q => ∃ Γ S Q' E', RG X.K W.pn H σ Γ ∧ RS X.K H S ∧ m Γ S Q' E' ∧ (∀ ds S' vs H', Q' ds S' → TK H H' → RVs X.K H' vs ds → RS X.K H' S' → Q vs H') ∧ XOk X W E' σ H
def tT (m : WT) : TT := fun σ H Q => ∃ Γ S Q' E', RG X.K W.pn H σ Γ ∧ RS X.K H S ∧ m Γ S Q' E' ∧ (∀ b S' H', Q' b S' → TK H H' → RS X.K H' S' → Q b H') ∧ XOk X W E' σ H
def tS (m : WS) : TS := fun D σ H => ∃ Γ S D' E', RG X.K W.pn H σ Γ ∧ RS X.K H S ∧ m Γ S D' E' ∧ (∀ Γ' S' σ' H', D'.nx Γ' S' → TK H H' → RG X.K W.pn H' σ' Γ' → RS X.K H' S' → D.nx σ' H') ∧
  (∀ d S' v H', D'.rt d S' → TK H H' → RV X.K H' v d → RS X.K H' S' → D.rt v H') ∧ XGOk X W E' H
def tGt (m : WG) : TG := fun v σ H Q => ∃ d Γ S Q' E', RV X.K H v d ∧ RG X.K W.pn H σ Γ ∧ RS X.K H S ∧ m d Γ S Q' E' ∧ (∀ Γ' S' σ' H', Q' Γ' S' → TK H H' → RG X.K W.pn H' σ' Γ' → RS X.K H' S' → Q σ' H') ∧ XGOk X W E' H
end
variable {X : Cx} {W : WP}
theorem XOk.keep {E' : XP} {σ : St} {H H1 : Hp} (k : TK H H1) (h : XOk X W E' σ H) : XOk X W E' σ H1 := fun x S' cls dd H' e t => h x S' cls dd H' e (k.trans t)
theorem XGOk.keep {E' : XG} {H H1 : Hp} (k : TK H H1) (h : XGOk X W E' H) : XGOk X W E' H1 := fun x Γ' S' cls dd σ' H' e t => h x Γ' S' cls dd σ' H' e (k.trans t)
theorem pe_imp {e : Expr} {t t' : TE} (h : PE X e t) (i : ∀ σ H Q, t' σ H Q → t σ H Q) : PE X e t' := ⟨fun pins s σ H Q I q => h.run pins s σ H Q I (i σ H Q q)⟩
theorem pt_imp {e : Expr} {t t' : TT} (h : PT X e t) (i : ∀ σ H Q, t' σ H Q → t σ H Q) : PT X e t' := ⟨fun pins s σ H Q I q => h.run pins s σ H Q I (i σ H Q q)⟩
theorem pw_imp {e : Expr} {t t' : TT} (h : PW X e t) (i : ∀ σ H Q, t' σ H Q → t σ H Q) : PW X e t' := ⟨fun wh pins s σ H Q I q => h.run wh pins s σ H Q I (i σ H Q q)⟩
theorem pa_imp {es : List Expr} {t t' : TA} (h : PA X es t) (i : ∀ σ H Q, t' σ H Q → t σ H Q) : PA X es t' := ⟨fun pos pins s σ H Q I q => h.run pos pins s σ H Q I (i σ H Q q)⟩
theorem ps_imp {st : Stmt} {t t' : TS} (h : PS X st t) (i : ∀ D σ H, t' D σ H → t D σ H) : PS X st t' := ⟨fun pins s σ H D I q => h.run pins s σ H D I (i D σ H q)⟩
theorem pss_imp {st : List Stmt} {t t' : TS} (h : PSs X st t) (i : ∀ D σ H, t' D σ H → t D σ H) : PSs X st t' := ⟨fun pins s σ H D I q => h.run pins s σ H D I (i D σ H q)⟩
theorem pg_imp {tg : Expr} {t t' : TG} (h : PG X tg t) (i : ∀ v σ H Q, t' v σ H Q → t v σ H Q) : PG X tg t' := ⟨fun pins s σ H v u Q I r q => h.run pins s σ H v u Q I r (i v σ H Q q)⟩

/-- two expressions behind one another -/
def two (m1 m2 : WE) (k : D → D → Sto → KE → Prop) : WE := fun Γ S Q E => m1 Γ S (fun x S1 => m2 Γ S1 (fun y S2 => k x y S2 Q) E) E
theorem two_imp {m1 m2 : WE} {k : D → D → Sto → KE → Prop} {r : V → V → Hp → VK → Prop}
    (hk : ∀ {x y : D} {S : Sto} {Q' : KE} {H : Hp} {v u : V} {Q : VK}, RS X.K H S → RV X.K H v x → RV X.K H u y → k x y S Q' → (∀ d S' v' H', Q' d S' → TK H H' → RV X.K H' v' d → RS X.K H' S' → Q v' H') → r v u H Q) :
    ∀ σ H Q, tI X W (two m1 m2 k) σ H Q → tOp r (tI X W m1) (tI X W m2) σ H Q := by
  intro σ H Q ⟨Γ, S, Q', E', g, rs, hm, hq, hx⟩
  refine ⟨Γ, S, _, E', g, rs, hm, fun x S1 v H1 h1 k1 rx r1 => ?_, hx⟩
  refine ⟨Γ, S1, _, E', g.keep k1, r1, h1, fun y S2 u H2 h2 k2 ry r2 => ?_, hx.keep k1⟩
  exact hk r2 (rx.keep k2) ry h2 fun d S' v' H' hd kd rd rs' => hq d S' v' H' hd ((k1.trans k2).trans kd) rd rs'
end Vm
/-! VmB: operators over plain data. -/
namespace Vm
open PySem PySem.Spec PyProof.Rows L2
variable {X : Cx} {W : WP}

/-- what a rule of values may conclude from one of data -/
abbrev Fin1 (X : Cx) (Q' : KE) (H : Hp) (Q : VK) : Prop := ∀ d S' v' H', Q' d S' → TK H H' → RV X.K H' v' d → RS X.K H' S' → Q v' H'
/-- an operator on data, sound over the operator on values -/
def Op2 (X : Cx) (k : D → D → Sto → KE → Prop) (r : R2) : Prop :=
  ∀ {x y : D} {S : Sto} {Q' : KE} {H : Hp} {v u : V} {Q : VK}, RS X.K H S → RV X.K H v x → RV X.K H u y → k x y S Q' → Fin1 X Q' H Q → r v u H Q

theorem rv_int {K H v i} (r : RV K H v (.int i)) : v = .int i := by cases r; rfl
theorem rv_str {K H v i} (r : RV K H v (.str i)) : v = .str i := by cases r; rfl
theorem rv_bl {K H v i} (r : RV K H v (.bl i)) : v = .bl i := by cases r; rfl
theorem rv_non {K H v} (r : RV K H v .non) : v = .non := by cases r; rfl
theorem rv_ref {K H v a} (r : RV K H v (.ref a)) : v = .ref a := by cases r; rfl
theorem rv_ty {K H v n} (r : RV K H v (.ty n)) : v = .ty n.name := by cases r; rfl
theorem rv_tup {K H v ds} (r : RV K H v (.tup ds)) : ∃ a vs, v = .ref a ∧ SqT K H a vs ∧ RVs K H vs ds := by cases r with | tup h r => exact ⟨_, _, rfl, h, r⟩

/-- the list at a place -/
def onL (S : Sto) (a : Addr) (k : List D → Prop) : Prop := match S a with | some (.lst ds) => k ds | _ => False
theorem onL_of {S : Sto} {a : Addr} {ds : List D} {k : List D → Prop} (h : S a = some (.lst ds)) : onL S a k = k ds := by unfold onL; rw [h]
theorem onL_get {S : Sto} {a : Addr} {k : List D → Prop} (h : onL S a k) : ∃ ds, S a = some (.lst ds) ∧ k ds := by
  unfold onL at h
  split at h
  · rename_i ds e; exact ⟨ds, e, h⟩
  · cases h
/-- a list that is read -/
def onR (S : Sto) (a : Addr) (k : List D → Prop) : Prop := match S a with | some (.lst ds) => k ds | some (.scr ds) => k ds | _ => False
theorem onR_get {S : Sto} {a : Addr} {k : List D → Prop} (h : onR S a k) : ∃ ds, (S a = some (.lst ds) ∨ S a = some (.scr ds)) ∧ k ds := by
  unfold onR at h
  split at h
  · rename_i ds e; exact ⟨ds, .inl e, h⟩
  · rename_i ds e; exact ⟨ds, .inr e, h⟩
  · cases h
theorem RS.lst {K H S a ds} (r : RS K H S) (h : S a = some (.lst ds)) : ∃ xs, H a = some (.lst xs) ∧ RVs K H xs ds := r a _ h
theorem RS.rd {K H S a ds} (r : RS K H S) (h : S a = some (.lst ds) ∨ S a = some (.scr ds)) : ∃ xs, SqL K H a xs ∧ RVs K H xs ds := by
  rcases h with h | h
  · obtain ⟨xs, e, q⟩ := r a _ h; exact ⟨xs, .inl (.inl e), q⟩
  · obtain ⟨o, xs, e, q⟩ := r a _ h; exact ⟨xs, .inl (.inr ⟨o, e⟩), q⟩

/-! ### numbers -/
def addW (x y : D) (S : Sto) (Q : KE) : Prop := match x, y with
  | .int i, .int j => Q (.int (i + j)) S
  | .str a, .str b => a.length + b.length ≤ sizeLine ∧ Q (.str (a ++ b)) S
  | .tup xs, .tup ys => xs.length + ys.length ≤ sizeLine ∧ Q (.tup (xs ++ ys)) S
  | .ref a, .ref b => onL S a fun xs => onL S b fun ys => xs.length + ys.length ≤ sizeLine ∧ ∀ p, S p = none → Q (.ref p) (put S p (.lst (xs ++ ys)))
  | _, _ => False
def rAddA (K : PySem.W.Frag) : R2 := fun x y H Q => (∃ i j, x = .int i ∧ y = .int j ∧ Q (.int (i + j)) H) ∨ ((∃ i j, x = .str i ∧ y = .str j ∧ i.length + j.length ≤ sizeLine ∧ Q (.str (i ++ j)) H) ∨ (rCatA K x y H Q ∨ rCat x y H Q))
theorem op_addA : OpR X (binaryOp .Add) (rAddA X.K) := op_add.or (op_add_str.or (op_catA.or op_cat))
theorem o2_add : Op2 X addW (rAddA X.K) := by
  intro x y S Q' H v u Q rs rx ry h fin
  unfold addW at h
  split at h
  · cases rv_int rx; cases rv_int ry
    exact .inl ⟨_, _, rfl, rfl, fin _ _ _ _ h TK.refl .int rs⟩
  · cases rv_str rx; cases rv_str ry
    exact .inr (.inl ⟨_, _, rfl, rfl, h.1, fin _ _ _ _ h.2 TK.refl .str rs⟩)
  · rename_i xs ys
    obtain ⟨a, vs, rfl, ha, ra⟩ := rv_tup rx
    obtain ⟨b, ws, rfl, hb, rb⟩ := rv_tup ry
    refine .inr (.inr (.inl ⟨a, b, vs, ws, rfl, rfl, ha, hb, by rw [ra.len, rb.len]; exact h.1, fun e => ?_, fun _ e => ?_, fun _ _ p hp => ?_⟩))
    · subst e; cases ra; exact fin _ _ _ _ h.2 TK.refl ry rs
    · subst e; cases rb; exact fin _ _ _ _ h.2 TK.refl (by rw [List.append_nil]; exact rx) rs
    · exact fin _ _ _ _ h.2 (TK.new hp) (.tup (.inl (.inl upd_same)) (RVs.keep (TK.new hp) (ra.append rb))) (rs.new hp)
  · rename_i a b
    cases rv_ref rx; cases rv_ref ry
    obtain ⟨xs, hx, h⟩ := onL_get h
    obtain ⟨ys, hy, hz, h⟩ := onL_get h
    obtain ⟨vs, ha, ra⟩ := rs.lst hx
    obtain ⟨ws, hb, rb⟩ := rs.lst hy
    refine .inr (.inr (.inr ⟨a, b, vs, ws, rfl, rfl, ha, hb, by rw [ra.len, rb.len]; exact hz, fun p hp => ?_⟩))
    exact fin _ _ _ _ (h p (rs.free hp)) (TK.new hp) .ref (rs.put (TK.new hp) ⟨_, upd_same, RVs.keep (TK.new hp) (ra.append rb)⟩)
  · cases h
def intW (C : Int → Int → Prop) (g : Int → Int → D) (x y : D) (S : Sto) (Q : KE) : Prop := match x, y with
  | .int i, .int j => C i j ∧ Q (g i j) S
  | _, _ => False
theorem o2_int {C : Int → Int → Prop} {g : Int → Int → Int} : Op2 X (intW C fun i j => .int (g i j)) (rI C fun i j => .int (g i j)) := by
  intro x y S Q' H v u Q rs rx ry h fin
  unfold intW at h
  split at h
  · cases rv_int rx; cases rv_int ry
    exact ⟨_, _, rfl, rfl, h.1, fin _ _ _ _ h.2 TK.refl .int rs⟩
  · cases h
/-- no condition -/
def intW0 (g : Int → Int → D) (x y : D) (S : Sto) (Q : KE) : Prop := match x, y with
  | .int i, .int j => Q (g i j) S
  | _, _ => False
theorem o2_int0 {g : Int → Int → Int} : Op2 X (intW0 fun i j => .int (g i j)) (rI0 fun i j => .int (g i j)) := by
  intro x y S Q' H v u Q rs rx ry h fin
  unfold intW0 at h
  split at h
  · cases rv_int rx; cases rv_int ry
    exact ⟨_, _, rfl, rfl, fin _ _ _ _ h TK.refl .int rs⟩
  · cases h
theorem o2_bl0 {g : Int → Int → Bool} : Op2 X (intW0 fun i j => .bl (g i j)) (rI0 fun i j => .bl (g i j)) := by
  intro x y S Q' H v u Q rs rx ry h fin
  unfold intW0 at h
  split at h
  · cases rv_int rx; cases rv_int ry
    exact ⟨_, _, rfl, rfl, fin _ _ _ _ h TK.refl .bl rs⟩
  · cases h
def subW : D → D → Sto → KE → Prop := intW0 fun i j => .int (i - j)
/-- bits of both together -/
def MulOk (i j : Int) : Prop := IntMulOk i j
theorem op_mulA : OpR X (binaryOp .Mult) (rI MulOk fun i j => .int (i * j)) := opI fun _ _ _ _ _ _ _ hc q => mul_int q hc
theorem MulOk.left {i j : Int} (h1 : -(2 ^ 64) < i) (h2 : i < 2 ^ 64) : MulOk i j := .of_left (intBits_le_64 h1 h2)
theorem MulOk.right {i j : Int} (h1 : -(2 ^ 64) < j) (h2 : j < 2 ^ 64) : MulOk i j := .of_right (intBits_le_64 h1 h2)
theorem MulOk.bits {i j : Int} {a b : Nat} (ha : i.natAbs < 2 ^ a) (hb : j.natAbs < 2 ^ b) (h0 : 0 < a) (h1 : 0 < b) (h : a + b ≤ 1000000) : MulOk i j := (wide_mul ha hb h0 h1 h).ok
def mulW (x y : D) (S : Sto) (Q : KE) : Prop := match x, y with
  | .int i, .int j => MulOk i j ∧ Q (.int (i * j)) S
  | .tup xs, .int k => xs ≠ [] ∧ 2 ≤ k ∧ k ≤ 1000 ∧ xs.length ≤ 1000 ∧ Q (.tup (List.replicate k.toNat xs).flatten) S
  | _, _ => False
def rMulA (K : PySem.W.Frag) : R2 := fun x y H Q => rI MulOk (fun i j => .int (i * j)) x y H Q ∨ rRepT K x y H Q
theorem op_mulB : OpR X (binaryOp .Mult) (rMulA X.K) := op_mulA.or op_repT
theorem RVs.flat {K : PySem.W.Frag} {H : Hp} {vs : List V} {ds : List D} (r : RVs K H vs ds) : ∀ k : Nat, RVs K H (List.replicate k vs).flatten (List.replicate k ds).flatten
  | 0 => .nil
  | k + 1 => by
    rw [List.replicate_succ, List.flatten_cons, List.replicate_succ, List.flatten_cons]
    exact r.append (RVs.flat r k)
theorem o2_mul : Op2 X mulW (rMulA X.K) := by
  intro x y S Q' H v u Q rs rx ry h fin
  unfold mulW at h
  split at h
  · cases rv_int rx; cases rv_int ry
    exact .inl ⟨_, _, rfl, rfl, h.1, fin _ _ _ _ h.2 TK.refl .int rs⟩
  · rename_i xs k
    obtain ⟨a, vs, rfl, ha, ra⟩ := rv_tup rx
    cases rv_int ry
    obtain ⟨h1, h2, h3, h4, h5⟩ := h
    refine .inr ⟨a, k, vs, rfl, rfl, ha, fun e => h1 ?_, h2, h3, by rw [ra.len]; exact h4, fun p hp => ?_⟩
    · subst e; cases ra; rfl
    · exact fin _ _ _ _ h5 (TK.new hp) (.tup (.inl (.inl upd_same)) (RVs.keep (TK.new hp) (ra.flat _))) (rs.new hp)
  · cases h
/-- //: the divisor not 0, below 9000 bits -/
def DivOk (i j : Int) : Prop := j ≠ 0 ∧ Builtin.divisionGoesByPylong i j = false
theorem DivOk.bits {i j : Int} {n : Nat} (h : j ≠ 0) (hb : j.natAbs < 2 ^ n) (h0 : 0 < n) (h9 : n ≤ 9000) : DivOk i j := ⟨h, PyProof.noPylong_of_log2 (Nat.lt_of_lt_of_le (PySem.Flt.log2_lt_of h0 hb) h9)⟩
theorem DivOk.small {i j : Int} (h : j ≠ 0) (h1 : -1073741824 < j) (h2 : j < 1073741824) : DivOk i j := ⟨h, PyProof.noPylong_small (by omega)⟩
theorem op_fdivA : OpR X (binaryOp .FloorDiv) (rI DivOk fun i j => .int (i.fdiv j)) := opI fun _ _ _ _ _ _ _ hc q => floordiv_int hc.1 q (.inl hc.2)
def fdivW : D → D → Sto → KE → Prop := intW DivOk fun i j => .int (i.fdiv j)
def modW : D → D → Sto → KE → Prop := intW (fun _ j => j ≠ 0) fun i j => .int (i.fmod j)
def powW : D → D → Sto → KE → Prop := intW CPow fun i j => .int (i ^ j.toNat)

/-! ### comparisons -/
def ltW : D → D → Sto → KE → Prop := intW0 fun i j => .bl (decide (i < j))
def leW : D → D → Sto → KE → Prop := intW0 fun i j => .bl (decide (i ≤ j))
def gtW : D → D → Sto → KE → Prop := intW0 fun i j => .bl (decide (j < i))
def geW : D → D → Sto → KE → Prop := intW0 fun i j => .bl (decide (j ≤ i))
/-- data without objects, as the library's own -/
def allM {α β : Type} (f : α → Option β) : List α → Option (List β)
  | [] => some []
  | a :: r => match f a, allM f r with | some b, some bs => some (b :: bs) | _, _ => none
def pdOf (S : Sto) : Nat → D → Option PyData
  | 0, _ => none
  | n + 1, d => match d with
    | .non => some .none
    | .bl b => some (.bool b)
    | .int i => some (.int i)
    | .str x => some (.str x)
    | .tup ds => (allM (pdOf S n) ds).map .tuple
    | .ref a => (match S a with | some (.lst ds) => (allM (pdOf S n) ds).map .list | some (.scr ds) => (allM (pdOf S n) ds).map .list | _ => none)
    | _ => none
theorem dpAll_of {K : PySem.W.Frag} {H : Hp} {f : D → Option PyData} (hf : ∀ d p v, f d = some p → RV K H v d → Dp K H v p) : ∀ {ds : List D} {ps : List PyData} {vs : List V}, allM f ds = some ps → RVs K H vs ds → DpAll K H vs ps
  | [], ps, vs, h, r => by
    cases r
    cases h
    exact .nil
  | d :: ds, ps, vs, h, r => by
    cases r with
    | cons r t =>
      unfold allM at h
      split at h
      · rename_i b bs h1 h2
        cases h
        exact .cons (hf _ _ _ h1 r) (dpAll_of hf h2 t)
      · cases h
theorem dp_of {K : PySem.W.Frag} {H : Hp} {S : Sto} (rs : RS K H S) : ∀ (n : Nat) (d : D) (p : PyData) (v : V), pdOf S n d = some p → RV K H v d → Dp K H v p
  | 0, _, _, _, h, _ => by cases h
  | n + 1, d, p, v, h, r => by
    unfold pdOf at h
    split at h
    · cases h; cases rv_non r; exact .non
    · cases h; cases rv_bl r; exact .bl _
    · cases h; cases rv_int r; exact .int _
    · cases h; cases rv_str r; exact .str _
    · rename_i ds
      obtain ⟨a, vs, rfl, ha, ra⟩ := rv_tup r
      cases e : allM (pdOf S n) ds with
      | none => rw [e] at h; cases h
      | some ps =>
        rw [e] at h
        cases h
        exact .tup ha (dpAll_of (dp_of rs n) e ra)
    · rename_i a
      cases rv_ref r
      split at h
      · rename_i ds e1
        obtain ⟨xs, hx, rx⟩ := rs.rd (.inl e1)
        cases e : allM (pdOf S n) ds with
        | none => rw [e] at h; cases h
        | some ps =>
          rw [e] at h
          cases h
          exact .lst hx (dpAll_of (dp_of rs n) e rx)
      · rename_i ds e1
        obtain ⟨xs, hx, rx⟩ := rs.rd (.inr e1)
        cases e : allM (pdOf S n) ds with
        | none => rw [e] at h; cases h
        | some ps =>
          rw [e] at h
          cases h
          exact .lst hx (dpAll_of (dp_of rs n) e rx)
      · cases h
    · cases h
/-- == : of flat data at once, else by what lies within -/
def eqW (neg : Bool) (x y : D) (S : Sto) (Q : KE) : Prop := match x, y with
  | .int i, .int j => Q (.bl (neg ^^ decide (i = j))) S
  | .str i, .str j => Q (.bl (neg ^^ decide (i = j))) S
  | .non, .non => Q (.bl (neg ^^ true)) S
  | .bl i, .bl j => Q (.bl (neg ^^ decide (i = j))) S
  | _, _ => match pdOf S 24 x, pdOf S 24 y with
    | some p, some q => SeqAt.shaped p = true ∧ SeqAt.shaped q = true ∧ Q (.bl (neg ^^ PyData.eqv p q)) S
    | _, _ => False
def rEqA (K : PySem.W.Frag) (neg : Bool) : R2 := fun x y H Q => (scal x y = true ∧ Q (.bl (neg ^^ decide (x = y))) H) ∨ ∃ d e, Dp K H x d ∧ Dp K H y e ∧ SeqAt.shaped d = true ∧ SeqAt.shaped e = true ∧ Q (.bl (neg ^^ PyData.eqv d e)) H
theorem op_eqA (hu : X.A.units + 64 < cLine) : OpR X (compareOp .Eq) (rEqA X.K false) := by
  intro pins s σ H x y v u Q I rx ry h
  rcases h with ⟨h1, h2⟩ | ⟨d, e, h1, h2, h3, h4, h5⟩
  · exact op_eq pins s σ H x y v u Q I rx ry ⟨h1, by simpa using h2⟩
  · exact op_eqD hu pins s σ H x y v u Q I rx ry ⟨d, e, h1, h2, h3, h4, by simpa using h5⟩
theorem op_neA (hu : X.A.units + 64 < cLine) : OpR X (compareOp .NotEq) (rEqA X.K true) := by
  intro pins s σ H x y v u Q I rx ry h
  rcases h with ⟨h1, h2⟩ | ⟨d, e, h1, h2, h3, h4, h5⟩
  · exact op_ne pins s σ H x y v u Q I rx ry ⟨h1, by simpa using h2⟩
  · exact op_neD hu pins s σ H x y v u Q I rx ry ⟨d, e, h1, h2, h3, h4, by simpa using h5⟩
theorem o2_eq {neg : Bool} : Op2 X (eqW neg) (rEqA X.K neg) := by
  intro x y S Q' H v u Q rs rx ry h fin
  unfold eqW at h
  split at h
  · rename_i i j
    cases rv_int rx; cases rv_int ry
    have e : decide (V.int i = V.int j) = decide (i = j) := by simp
    exact .inl ⟨rfl, by rw [e]; exact fin _ _ _ _ h TK.refl .bl rs⟩
  · rename_i i j
    cases rv_str rx; cases rv_str ry
    have e : decide (V.str i = V.str j) = decide (i = j) := by simp
    exact .inl ⟨rfl, by rw [e]; exact fin _ _ _ _ h TK.refl .bl rs⟩
  · cases rv_non rx; cases rv_non ry
    have e : decide (V.non = V.non) = true := by simp
    exact .inl ⟨rfl, by rw [e]; exact fin _ _ _ _ h TK.refl .bl rs⟩
  · rename_i i j
    cases rv_bl rx; cases rv_bl ry
    have e : decide (V.bl i = V.bl j) = decide (i = j) := by simp
    exact .inl ⟨rfl, by rw [e]; exact fin _ _ _ _ h TK.refl .bl rs⟩
  · split at h
    · rename_i p q e1 e2
      exact .inr ⟨p, q, dp_of rs _ _ _ _ e1 rx, dp_of rs _ _ _ _ e2 ry, h.1, h.2.1, fin _ _ _ _ h.2.2 TK.refl .bl rs⟩
    · cases h
/-- is None, is not None -/
def isW (neg : Bool) (x y : D) (S : Sto) (Q : KE) : Prop := match y with
  | .non => (match x with | .non => Q (.bl (neg ^^ true)) S | _ => Q (.bl (neg ^^ false)) S)
  | _ => False
def rIsA (neg : Bool) : R2 := fun x y H Q => y = .non ∧ Q (.bl (neg ^^ decide (x = .non))) H
theorem op_isA : OpR X (compareOp .Is) (rIsA false) := by
  intro pins s σ H x y v u Q I rx ry h
  exact op_isN pins s σ H x y v u Q I rx ry ⟨h.1, by simpa using h.2⟩
theorem op_isnotA : OpR X (compareOp .IsNot) (rIsA true) := by
  intro pins s σ H x y v u Q I rx ry h
  exact op_notN pins s σ H x y v u Q I rx ry ⟨h.1, by simpa using h.2⟩
theorem o2_is {neg : Bool} : Op2 X (isW neg) (rIsA neg) := by
  intro x y S Q' H v u Q rs rx ry h fin
  unfold isW at h
  split at h
  · cases rv_non ry
    refine ⟨rfl, ?_⟩
    split at h
    · cases rv_non rx
      have e : decide (V.non = V.non) = true := by simp
      rw [e]
      exact fin _ _ _ _ h TK.refl .bl rs
    · rename_i n
      have e : decide (v = V.non) = false := by
        apply decide_eq_false
        intro z
        subst z
        cases rx
        exact n rfl
      rw [e]
      exact fin _ _ _ _ h TK.refl .bl rs
  · cases h
/-! ### in -/
def flatD : D → Bool
  | .non => true | .bl _ => true | .int _ => true | .str _ => true | _ => false
def eqF : D → D → Bool
  | .non, .non => true
  | .bl a, .bl b => a == b
  | .bl a, .int b => (if a then 1 else 0) == b
  | .int a, .bl b => a == (if b then 1 else 0)
  | .int a, .int b => a == b
  | .str a, .str b => a == b
  | _, _ => false
def inF (x : D) (ys : List D) : Bool := ys.any fun y => eqF y x
theorem flat_of {K : PySem.W.Frag} {H : Hp} {v : V} {d : D} (r : RV K H v d) (f : flatD d = true) : flatV v = true := by
  cases r <;> first | rfl | cases f
theorem eqF_of {K : PySem.W.Frag} {H : Hp} {v u : V} {d e : D} (r : RV K H v d) (q : RV K H u e) (f : flatD d = true) (g : flatD e = true) : eqV v u = eqF d e := by
  cases r <;> cases q <;> first | rfl | cases f | cases g
theorem flats_of {K : PySem.W.Frag} {H : Hp} : ∀ {vs : List V} {ds : List D}, RVs K H vs ds → ds.all flatD = true → vs.all flatV = true
  | _, _, .nil, _ => rfl
  | _, _, .cons r t, f => by
    rw [List.all_cons, Bool.and_eq_true] at f
    rw [List.all_cons, flat_of r f.1, flats_of t f.2] <;> rfl
theorem inF_of {K : PySem.W.Frag} {H : Hp} {u : V} {e : D} (q : RV K H u e) (g : flatD e = true) : ∀ {vs : List V} {ds : List D}, RVs K H vs ds → ds.all flatD = true → inV u vs = inF e ds
  | _, _, .nil, _ => rfl
  | _, _, .cons r t, f => by
    rw [List.all_cons, Bool.and_eq_true] at f
    show (eqV _ u || inV u _) = (eqF _ e || inF e _)
    rw [eqF_of r q f.1 g, inF_of q g t f.2]
def inW (neg : Bool) (x y : D) (S : Sto) (Q : KE) : Prop := match x, y with
  | .str i, .str j => Q (.bl (neg ^^ (!(Builtin.Str.occurrences j i 0 j.length 1).isEmpty))) S
  | x, .tup ys => flatD x = true ∧ ys.all flatD = true ∧ Q (.bl (neg ^^ inF x ys)) S
  | x, .ref a => onR S a fun ys => flatD x = true ∧ ys.all flatD = true ∧ Q (.bl (neg ^^ inF x ys)) S
  | _, _ => False
def rInA (K : PySem.W.Frag) (neg : Bool) : R2 := fun x y H Q => (∃ i j, x = .str i ∧ y = .str j ∧ Q (.bl (neg ^^ (!(Builtin.Str.occurrences j i 0 j.length 1).isEmpty))) H) ∨
  ∃ p xs, y = .ref p ∧ (SqL K H p xs ∨ SqT K H p xs) ∧ flatV x = true ∧ xs.all flatV = true ∧ Q (.bl (neg ^^ inV x xs)) H
theorem op_inA : OpR X (compareOp .In) (rInA X.K false) := by
  intro pins s σ H x y v u Q I rx ry h
  rcases h with ⟨i, j, e1, e2, q⟩ | ⟨p, xs, e1, h1, h2, h3, q⟩
  · exact op_in_str pins s σ H x y v u Q I rx ry ⟨i, j, e1, e2, by simpa using q⟩
  · exact op_in_seq pins s σ H x y v u Q I rx ry ⟨p, xs, e1, h1, h2, h3, by simpa using q⟩
theorem op_notinA : OpR X (compareOp .NotIn) (rInA X.K true) := by
  intro pins s σ H x y v u Q I rx ry h
  rcases h with ⟨i, j, e1, e2, q⟩ | ⟨p, xs, e1, h1, h2, h3, q⟩
  · exact op_notin_str pins s σ H x y v u Q I rx ry ⟨i, j, e1, e2, by simpa using q⟩
  · exact op_notIn_seq pins s σ H x y v u Q I rx ry ⟨p, xs, e1, h1, h2, h3, by simpa using q⟩
theorem o2_in {neg : Bool} : Op2 X (inW neg) (rInA X.K neg) := by
  intro x y S Q' H v u Q rs rx ry h fin
  unfold inW at h
  split at h
  · cases rv_str rx; cases rv_str ry
    exact .inl ⟨_, _, rfl, rfl, fin _ _ _ _ h TK.refl .bl rs⟩
  · obtain ⟨a, vs, rfl, ha, ra⟩ := rv_tup ry
    refine .inr ⟨a, vs, rfl, .inr ha, flat_of rx h.1, flats_of ra h.2.1, ?_⟩
    rw [inF_of rx h.1 ra h.2.1]
    exact fin _ _ _ _ h.2.2 TK.refl .bl rs
  · cases rv_ref ry
    obtain ⟨ys, hy, h1, h2, h3⟩ := onR_get h
    obtain ⟨vs, ha, ra⟩ := rs.rd hy
    refine .inr ⟨_, vs, rfl, .inl ha, flat_of rx h1, flats_of ra h2, ?_⟩
    rw [inF_of rx h1 ra h2]
    exact fin _ _ _ _ h3 TK.refl .bl rs
  · cases h

/-! ### items -/
def ixW (x y : D) (S : Sto) (Q : KE) : Prop := match x, y with
  | .tup xs, .int i => (match atI xs i with | some d => Q d S | none => False)
  | .ref a, .int i => onR S a fun xs => (match atI xs i with | some d => Q d S | none => False)
  | .str z, .int i => z.length ≤ sizeLine ∧ (match atI z.cps.toList i with | some c => Q (.str ⟨#[c]⟩) S | none => False)
  | _, _ => False
theorem atI_rvs {K : PySem.W.Frag} {H : Hp} {vs : List V} {ds : List D} {i : Int} {d : D} (r : RVs K H vs ds) (h : atI ds i = some d) : ∃ v, atI vs i = some v ∧ RV K H v d := by
  unfold atI at h ⊢
  rw [r.len]
  cases e : ixN ds.length i with
  | none => rw [e] at h; cases h
  | some j =>
    rw [e] at h
    exact r.at h
theorem o2_ix : Op2 X ixW (rIx X.K) := by
  intro x y S Q' H v u Q rs rx ry h fin
  unfold ixW at h
  split at h
  · obtain ⟨a, vs, rfl, ha, ra⟩ := rv_tup rx
    cases rv_int ry
    split at h
    · rename_i d e
      obtain ⟨w, h1, h2⟩ := atI_rvs ra e
      exact .inr (.inl ⟨a, vs, _, w, rfl, rfl, ha, h1, fin _ _ _ _ h TK.refl h2 rs⟩)
    · cases h
  · cases rv_ref rx; cases rv_int ry
    obtain ⟨ys, hy, h⟩ := onR_get h
    obtain ⟨vs, ha, ra⟩ := rs.rd hy
    split at h
    · rename_i d e
      obtain ⟨w, h1, h2⟩ := atI_rvs ra e
      exact .inl ⟨_, vs, _, w, rfl, rfl, ha, h1, fin _ _ _ _ h TK.refl h2 rs⟩
    · cases h
  · cases rv_str rx; cases rv_int ry
    obtain ⟨hz, h⟩ := h
    split at h
    · rename_i c e
      exact .inr (.inr ⟨_, _, c, rfl, rfl, hz, e, fin _ _ _ _ h TK.refl .str rs⟩)
    · cases h
  · cases h
end Vm
/-! VmC: expressions over plain data. -/
namespace Vm
open PySem PySem.Spec PyProof.Rows L2
variable {X : Cx} {W : WP}

def stuck : WE := fun _ _ _ _ => False
theorem pe_stuck {e : Expr} : PE X e (tI X W stuck) := ⟨fun _ _ _ _ _ _ h => by obtain ⟨_, _, _, _, _, _, h, _⟩ := h; exact h.elim⟩
def stuckT : WT := fun _ _ _ _ => False
theorem pt_stuck {e : Expr} : PT X e (tT X W stuckT) := ⟨fun _ _ _ _ _ _ h => by obtain ⟨_, _, _, _, _, _, h, _⟩ := h; exact h.elim⟩
/-- a value that is there -/
def valW (d : D) : WE := fun _ S Q _ => Q d S
theorem val_imp {v : V} {d : D} (h : ∀ H, RV X.K H v d) : ∀ σ H Q, tI X W (valW d) σ H Q → tC v σ H Q := fun σ H Q ⟨Γ, S, Q', E', g, rs, hm, hq, hx⟩ => hq _ _ _ _ hm TK.refl (h H) rs
def constW : Const → WE
  | .int i => valW (.int i)
  | .str x => valW (.str x)
  | .none => valW .non
  | .bool b => valW (.bl b)
  | _ => stuck
theorem pe_const {c : Const} {k : Nat} {pos : Pos} : PE X (.Constant c k pos) (tI X W (constW c)) := by
  cases c with
  | int i => exact pe_imp pe_int (val_imp fun _ => .int)
  | str x => exact pe_imp pe_str (val_imp fun _ => .str)
  | none => exact pe_imp pe_non (val_imp fun _ => .non)
  | bool b => exact pe_imp pe_bl (val_imp fun _ => .bl)
  | _ => exact pe_stuck
/-- a slot -/
def slotW (i : Nat) : WE := fun Γ S Q _ => match Γ[i]? with | some (some (.exn _ _)) => False | some (some d) => Q d S | _ => False
theorem pe_slot {i : Nat} {x : Str} {pos : Pos} (hN : X.N[i]? = some x) (hv : Vis X.env.scope x) (hd : (x == ("__debug__" : Str)) = false) (hcd : (x == ("__classdict__" : Str)) = false) : PE X (.Name x pos) (tI X W (slotW i)) := by
  refine pe_imp (pe_var hN hv hd hcd) fun σ H Q ⟨Γ, S, Q', E', g, rs, hm, hq, hx⟩ => ?_
  unfold slotW at hm
  split at hm
  · cases hm
  · rename_i d n e
    obtain ⟨v, h1, h2⟩ := g.get i d e
    cases h2 with
    | val h2 => exact ⟨v, h1, hq _ _ _ _ hm TK.refl h2 rs⟩
    | exn => exact absurd rfl (n _ _)
  · cases hm
theorem pe_two {a b : Expr} {op : Operator} {pos : Pos} {m1 m2 : WE} {k : D → D → Sto → KE → Prop} {r : R2} (ho : OpR X (binaryOp op) r) (hk : Op2 X k r) (h1 : PE X a (tI X W m1)) (h2 : PE X b (tI X W m2)) : PE X (.BinOp a op b pos) (tI X W (two m1 m2 k)) :=
  pe_imp (pe_op ho h1 h2) (two_imp fun a b c d e => hk a b c d e)
theorem pe_cmp2 {a b : Expr} {op : CmpOp} {pos : Pos} {m1 m2 : WE} {k : D → D → Sto → KE → Prop} {r : R2} (ho : OpR X (compareOp op) r) (hk : Op2 X k r) (h1 : PE X a (tI X W m1)) (h2 : PE X b (tI X W m2)) (hm : behindInMarks op b = false) :
    PE X (.Compare a [op] [b] pos) (tI X W (two m1 m2 k)) :=
  pe_imp (pe_cmpR ho h1 h2 hm) (two_imp fun a b c d e => hk a b c d e)
def asB (Q : Bool → Sto → Prop) : KE := fun d S => match d with | .bl b => Q b S | _ => False
theorem asB_get {Q : Bool → Sto → Prop} {d : D} {S : Sto} (h : asB Q d S) : ∃ b, d = .bl b ∧ Q b S := by
  unfold asB at h
  split at h
  · exact ⟨_, rfl, h⟩
  · cases h
/-- a value as a test -/
def tst (m : WE) : WT := fun Γ S Q E => m Γ S (asB Q) E
theorem tst_imp {m : WE} : ∀ σ H Q, tT X W (tst m) σ H Q → tI X W m σ H (fun x H' => ∃ k, x = .bl k ∧ Q k H') := fun σ H Q ⟨Γ, S, Q', E', g, rs, hm, hq, hx⟩ =>
  ⟨Γ, S, _, E', g, rs, hm, fun d S' v H' h k rv rs' => by
    obtain ⟨b, rfl, hz⟩ := asB_get h
    cases rv_bl rv
    exact ⟨b, rfl, hq _ _ _ hz k rs'⟩, hx⟩
theorem pt_cmp2 {a b : Expr} {op : CmpOp} {pos : Pos} {m1 m2 : WE} {k : D → D → Sto → KE → Prop} {r : R2} (ho : OpR X (compareOp op) r) (hk : Op2 X k r) (h1 : PE X a (tI X W m1)) (h2 : PE X b (tI X W m2)) (hm : behindInMarks op b = false) :
    PT X (.Compare a [op] [b] pos) (tT X W (tst (two m1 m2 k))) :=
  pt_imp (pt_cmpR ho h1 h2 hm) fun σ H Q h => two_imp (fun a b c d e => hk a b c d e) σ H _ (tst_imp σ H Q h)
theorem pt_of {e : Expr} {m : WE} (h : PE X e (tI X W m)) (he : ∀ whole, isTrue e X.env whole = (do let v ← whole; standAt e.pos; holding [v] (truthy v))) : PT X e (tT X W (tst m)) :=
  pt_imp (pt_val h he) fun σ H Q h => tst_imp σ H Q h
/-- a op b op' c -/
def chainW (m1 m2 m3 : WE) (k k' : D → D → Sto → KE → Prop) : WE := fun Γ S Q E => m1 Γ S (fun x S1 => m2 Γ S1 (fun y S2 => k x y S2 (asB fun b S3 => if b = true then m3 Γ S3 (fun z S4 => k' y z S4 Q) E else Q (.bl false) S3)) E) E
theorem chain_imp {m1 m2 m3 : WE} {k k' : D → D → Sto → KE → Prop} {r r' : R2} (hk : Op2 X k r) (hk' : Op2 X k' r') : ∀ σ H Q, tI X W (chainW m1 m2 m3 k k') σ H Q → tChain r r' (tI X W m1) (tI X W m2) (tI X W m3) σ H Q := by
  intro σ H Q ⟨Γ, S, Q', E', g, rs, hm, hq, hx⟩
  refine ⟨Γ, S, _, E', g, rs, hm, fun x S1 v H1 h1 k1 rx r1 => ?_, hx⟩
  refine ⟨Γ, S1, _, E', g.keep k1, r1, h1, fun y S2 u H2 h2 k2 ry r2 => ?_, hx.keep k1⟩
  refine hk r2 (rx.keep k2) ry h2 fun d S3 z H3 h3 k3 rz r3 => ?_
  obtain ⟨b, rfl, hz⟩ := asB_get h3
  clear h3
  cases rv_bl rz
  refine ⟨b, rfl, ?_⟩
  cases b with
  | false =>
    rw [if_neg Bool.false_ne_true] at hz ⊢
    exact hq _ _ _ _ hz ((k1.trans k2).trans k3) .bl r3
  | true =>
    rw [if_pos rfl] at hz ⊢
    refine ⟨Γ, S3, _, E', g.keep ((k1.trans k2).trans k3), r3, hz, fun w S4 wv H4 h4 k4 rw' r4 => ?_, hx.keep ((k1.trans k2).trans k3)⟩
    exact hk' r4 (ry.keep (k3.trans k4)) rw' h4 fun d S5 v5 H5 h5 k5 rv5 rs5 => hq _ _ _ _ h5 ((((k1.trans k2).trans k3).trans k4).trans k5) rv5 rs5
theorem marks2 {o1 o2 : CmpOp} {b c : Expr} (h : behindInMarks o2 c = false) : lastMarks [o1, o2] [b, c] = false := h
theorem pe_chainD {a b c : Expr} {op op' : CmpOp} {pos : Pos} {m1 m2 m3 : WE} {k k' : D → D → Sto → KE → Prop} {r r' : R2} (ho : OpR X (compareOp op) r) (ho' : OpR X (compareOp op') r') (hk : Op2 X k r) (hk' : Op2 X k' r')
    (h1 : PE X a (tI X W m1)) (h2 : PE X b (tI X W m2)) (h3 : PE X c (tI X W m3)) (hm : behindInMarks op' c = false) : PE X (.Compare a [op, op'] [b, c] pos) (tI X W (chainW m1 m2 m3 k k')) :=
  pe_imp (pe_chain ho ho' h1 h2 h3 (marks2 hm)) (chain_imp hk hk')
theorem pt_chainD {a b c : Expr} {op op' : CmpOp} {pos : Pos} {m1 m2 m3 : WE} {k k' : D → D → Sto → KE → Prop} {r r' : R2} (ho : OpR X (compareOp op) r) (ho' : OpR X (compareOp op') r') (hk : Op2 X k r) (hk' : Op2 X k' r')
    (h1 : PE X a (tI X W m1)) (h2 : PE X b (tI X W m2)) (h3 : PE X c (tI X W m3)) (hm : behindInMarks op' c = false) : PT X (.Compare a [op, op'] [b, c] pos) (tT X W (tst (chainW m1 m2 m3 k k'))) :=
  pt_imp (pt_chain ho ho' h1 h2 h3 (marks2 hm)) fun σ H Q h => chain_imp hk hk' σ H _ (tst_imp σ H Q h)

/-! ### one-place operators -/
def oneW (m : WE) (k : D → Sto → KE → Prop) : WE := fun Γ S Q E => m Γ S (fun x S1 => k x S1 Q) E
def negW (x : D) (S : Sto) (Q : KE) : Prop := match x with | .int i => Q (.int (-i)) S | _ => False
theorem pe_neg {a : Expr} {pos : Pos} {m : WE} (h : PE X a (tI X W m)) : PE X (.UnaryOp .USub a pos) (tI X W (oneW m negW)) := by
  refine pe_imp (pe_un un_neg h) fun σ H Q ⟨Γ, S, Q', E', g, rs, hm, hq, hx⟩ => ⟨Γ, S, _, E', g, rs, hm, fun x S1 v H1 h1 k1 rx r1 => ?_, hx⟩
  unfold negW at h1
  split at h1
  · cases rv_int rx
    exact ⟨_, rfl, hq _ _ _ _ h1 k1 .int r1⟩
  · cases h1
def notW (x : D) (S : Sto) (Q : KE) : Prop := asB (fun b S1 => Q (.bl (!b)) S1) x S
theorem pe_notD {a : Expr} {pos : Pos} {m : WE} (h : PE X a (tI X W m)) : PE X (.UnaryOp .Not a pos) (tI X W (oneW m notW)) := by
  refine pe_imp (pe_not h) fun σ H Q ⟨Γ, S, Q', E', g, rs, hm, hq, hx⟩ => ⟨Γ, S, _, E', g, rs, hm, fun x S1 v H1 h1 k1 rx r1 => ?_, hx⟩
  obtain ⟨b, rfl, hz⟩ := asB_get h1
  cases rv_bl rx
  exact ⟨b, rfl, hq _ _ _ _ hz k1 .bl r1⟩
def notT (m : WT) : WT := fun Γ S Q E => m Γ S (fun b S1 => Q (!b) S1) E
theorem pt_notD {a : Expr} {pos : Pos} {m : WT} (h : PT X a (tT X W m)) : PT X (.UnaryOp .Not a pos) (tT X W (notT m)) :=
  pt_imp (pt_not h) fun σ H Q ⟨Γ, S, Q', E', g, rs, hm, hq, hx⟩ => ⟨Γ, S, _, E', g, rs, hm, fun b S1 H1 h1 k1 r1 => hq _ _ _ h1 k1 r1, hx⟩
/-! ### and, or -/
def andT : List WT → WT
  | [] => stuckT
  | [m] => m
  | m :: ms => fun Γ S Q E => m Γ S (fun b S1 => if b = true then andT ms Γ S1 Q E else Q false S1) E
def orT : List WT → WT
  | [] => stuckT
  | [m] => m
  | m :: ms => fun Γ S Q E => m Γ S (fun b S1 => if b = true then Q true S1 else orT ms Γ S1 Q E) E
theorem pw_andD {pos : Pos} {f : Expr → WT} : ∀ {es : List Expr}, (∀ e ∈ es, PT X e (tT X W (f e))) → PW X (.BoolOp .And es pos) (tT X W (andT (es.map f)))
  | [], _ => ⟨fun _ _ _ _ _ _ _ h => by obtain ⟨_, _, _, _, _, _, h, _⟩ := h; exact h.elim⟩
  | [e], h => pw_and1 (h e (by simp))
  | e :: e2 :: es, h => by
    refine pw_imp (pw_and (h e (by simp)) (pw_andD (es := e2 :: es) fun e' he => h e' (List.mem_cons_of_mem _ he))) fun σ H Q ⟨Γ, S, Q', E', g, rs, hm, hq, hx⟩ => ?_
    refine ⟨Γ, S, _, E', g, rs, hm, fun b S1 H1 h1 k1 r1 => ?_, hx⟩
    cases b with
    | false =>
      rw [if_neg Bool.false_ne_true] at h1 ⊢
      exact hq _ _ _ h1 k1 r1
    | true =>
      rw [if_pos rfl] at h1 ⊢
      exact ⟨Γ, S1, _, E', g.keep k1, r1, h1, fun b S2 H2 h2 k2 r2 => hq _ _ _ h2 (k1.trans k2) r2, hx.keep k1⟩
theorem pw_orD {pos : Pos} {f : Expr → WT} : ∀ {es : List Expr}, (∀ e ∈ es, PT X e (tT X W (f e))) → PW X (.BoolOp .Or es pos) (tT X W (orT (es.map f)))
  | [], _ => ⟨fun _ _ _ _ _ _ _ h => by obtain ⟨_, _, _, _, _, _, h, _⟩ := h; exact h.elim⟩
  | [e], h => pw_or1 (h e (by simp))
  | e :: e2 :: es, h => by
    refine pw_imp (pw_or (h e (by simp)) (pw_orD (es := e2 :: es) fun e' he => h e' (List.mem_cons_of_mem _ he))) fun σ H Q ⟨Γ, S, Q', E', g, rs, hm, hq, hx⟩ => ?_
    refine ⟨Γ, S, _, E', g, rs, hm, fun b S1 H1 h1 k1 r1 => ?_, hx⟩
    cases b with
    | true =>
      rw [if_pos rfl] at h1 ⊢
      exact hq _ _ _ h1 k1 r1
    | false =>
      rw [if_neg Bool.false_ne_true] at h1 ⊢
      exact ⟨Γ, S1, _, E', g.keep k1, r1, h1, fun b S2 H2 h2 k2 r2 => hq _ _ _ h2 (k1.trans k2) r2, hx.keep k1⟩
def andV : List WE → WE
  | [] => stuck
  | [m] => m
  | m :: ms => fun Γ S Q E => m Γ S (asB fun b S1 => if b = true then andV ms Γ S1 Q E else Q (.bl false) S1) E
def orV : List WE → WE
  | [] => stuck
  | [m] => m
  | m :: ms => fun Γ S Q E => m Γ S (asB fun b S1 => if b = true then Q (.bl true) S1 else orV ms Γ S1 Q E) E
theorem pe_andD {pos : Pos} {f : Expr → WE} : ∀ {es : List Expr}, (∀ e ∈ es, PE X e (tI X W (f e))) → PE X (.BoolOp .And es pos) (tI X W (andV (es.map f)))
  | [], _ => pe_stuck
  | [e], h => pe_one (h e (by simp))
  | e :: e2 :: es, h => by
    refine pe_imp (pe_and (h e (by simp)) (pe_andD (es := e2 :: es) fun e' he => h e' (List.mem_cons_of_mem _ he))) fun σ H Q ⟨Γ, S, Q', E', g, rs, hm, hq, hx⟩ => ?_
    refine ⟨Γ, S, _, E', g, rs, hm, fun d S1 v H1 h1 k1 rv r1 => ?_, hx⟩
    obtain ⟨b, rfl, hz⟩ := asB_get h1
    clear h1
    cases rv_bl rv
    refine ⟨b, rfl, ?_⟩
    cases b with
    | false =>
      rw [if_neg Bool.false_ne_true] at hz ⊢
      exact hq _ _ _ _ hz k1 .bl r1
    | true =>
      rw [if_pos rfl] at hz ⊢
      exact ⟨Γ, S1, _, E', g.keep k1, r1, hz, fun d S2 v H2 h2 k2 rv r2 => hq _ _ _ _ h2 (k1.trans k2) rv r2, hx.keep k1⟩
theorem pe_orD {pos : Pos} {f : Expr → WE} : ∀ {es : List Expr}, (∀ e ∈ es, PE X e (tI X W (f e))) → PE X (.BoolOp .Or es pos) (tI X W (orV (es.map f)))
  | [], _ => pe_stuck
  | [e], h => pe_one (h e (by simp))
  | e :: e2 :: es, h => by
    refine pe_imp (pe_or (h e (by simp)) (pe_orD (es := e2 :: es) fun e' he => h e' (List.mem_cons_of_mem _ he))) fun σ H Q ⟨Γ, S, Q', E', g, rs, hm, hq, hx⟩ => ?_
    refine ⟨Γ, S, _, E', g, rs, hm, fun d S1 v H1 h1 k1 rv r1 => ?_, hx⟩
    obtain ⟨b, rfl, hz⟩ := asB_get h1
    clear h1
    cases rv_bl rv
    refine ⟨b, rfl, ?_⟩
    cases b with
    | true =>
      rw [if_pos rfl] at hz ⊢
      exact hq _ _ _ _ hz k1 .bl r1
    | false =>
      rw [if_neg Bool.false_ne_true] at hz ⊢
      exact ⟨Γ, S1, _, E', g.keep k1, r1, hz, fun d S2 v H2 h2 k2 rv r2 => hq _ _ _ _ h2 (k1.trans k2) rv r2, hx.keep k1⟩
def ifW (c : WT) (a b : WE) : WE := fun Γ S Q E => c Γ S (fun t S1 => if t = true then a Γ S1 Q E else b Γ S1 Q E) E
theorem pe_ifD {c a b : Expr} {pos : Pos} {mc : WT} {ma mb : WE} (hc : PT X c (tT X W mc)) (ha : PE X a (tI X W ma)) (hb : PE X b (tI X W mb)) : PE X (.IfExp c a b pos) (tI X W (ifW mc ma mb)) := by
  refine pe_imp (pe_ifExp hc ha hb) fun σ H Q ⟨Γ, S, Q', E', g, rs, hm, hq, hx⟩ => ⟨Γ, S, _, E', g, rs, hm, fun t S1 H1 h1 k1 r1 => ?_, hx⟩
  cases t with
  | true =>
    rw [if_pos rfl] at h1 ⊢
    exact ⟨Γ, S1, _, E', g.keep k1, r1, h1, fun d S2 v H2 h2 k2 rv r2 => hq _ _ _ _ h2 (k1.trans k2) rv r2, hx.keep k1⟩
  | false =>
    rw [if_neg Bool.false_ne_true] at h1 ⊢
    exact ⟨Γ, S1, _, E', g.keep k1, r1, h1, fun d S2 v H2 h2 k2 rv r2 => hq _ _ _ _ h2 (k1.trans k2) rv r2, hx.keep k1⟩

/-! ### argument lists, displays -/
def argsW : List WE → WA
  | [] => fun _ S Q _ => Q [] S
  | m :: ms => fun Γ S Q E => m Γ S (fun d S1 => argsW ms Γ S1 (fun ds S2 => Q (d :: ds) S2) E) E
def tAn (X : Cx) (W : WP) (n : Nat) (m : WA) : TA := fun σ H Q => ∃ Γ S Q' E', RG X.K W.pn H σ Γ ∧ RS X.K H S ∧ m Γ S Q' E' ∧ (∀ ds S' vs H', ds.length = n → Q' ds S' → TK H H' → RVs X.K H' vs ds → RS X.K H' S' → Q vs H') ∧ XOk X W E' σ H
def notStar : Expr → Bool
  | .Starred _ _ => false
  | _ => true
theorem star_of {e : Expr} {es : List Expr} {env : Env} (h : notStar e = true) : starEach (e :: es) env = (false, eval e env) :: starEach es env := by
  cases e <;> first | rfl | cases h
theorem stars_plain {env : Env} : ∀ {es : List Expr}, es.all notStar = true → (starEach es env).any (·.1) = false
  | [], _ => rfl
  | e :: es, h => by
    rw [List.all_cons, Bool.and_eq_true] at h
    rw [star_of h.1, List.any_cons, stars_plain h.2] <;> rfl
theorem pa_args {f : Expr → WE} : ∀ {es : List Expr}, es.all notStar = true → (∀ e ∈ es, PE X e (tI X W (f e))) → PA X es (tAn X W es.length (argsW (es.map f)))
  | [], _, _ => pa_imp pa_nil fun σ H Q ⟨Γ, S, Q', E', g, rs, hm, hq, hx⟩ => hq _ _ _ _ rfl hm TK.refl .nil rs
  | e :: es, hs, h => by
    rw [List.all_cons, Bool.and_eq_true] at hs
    refine pa_imp (pa_cons (h e (by simp)) (pa_args hs.2 fun e' he => h e' (List.mem_cons_of_mem _ he)) (star_of hs.1)) fun σ H Q ⟨Γ, S, Q', E', g, rs, hm, hq, hx⟩ => ?_
    refine ⟨Γ, S, _, E', g, rs, hm, fun d S1 v H1 h1 k1 rv r1 => ?_, hx⟩
    exact ⟨Γ, S1, _, E', g.keep k1, r1, h1, fun ds S2 vs H2 hl h2 k2 rvs r2 => hq _ _ _ _ (by rw [List.length_cons, hl] <;> rfl) h2 (k1.trans k2) (.cons (rv.keep k2) rvs) r2, hx.keep k1⟩
theorem line_of {n : Nat} (h : n ≤ 1000) : n ≤ sizeLine := by rw [sizeLine_eq]; omega
def tupW (ms : List WE) : WE := fun Γ S Q E => argsW ms Γ S (fun ds S1 => Q (.tup ds) S1) E
theorem pe_tupD {es : List Expr} {k : Nat} {pos : Pos} {f : Expr → WE} (hl : es.length ≤ 1000) (hs : es.all notStar = true) (h : ∀ e ∈ es, PE X e (tI X W (f e))) : PE X (.Tuple es k pos) (tI X W (tupW (es.map f))) := by
  refine pe_imp (pe_tup (pa_args hs h)) fun σ H Q ⟨Γ, S, Q', E', g, rs, hm, hq, hx⟩ => ⟨Γ, S, fun ds S1 => Q' (.tup ds) S1, E', g, rs, hm, fun ds S1 vs H1 hn h1 k1 rvs r1 => ⟨by rw [rvs.len, hn]; exact line_of hl, fun p hp => ?_⟩, hx⟩
  exact hq _ _ _ _ h1 (k1.trans (TK.new hp)) (.tup (.inl (.inl upd_same)) (RVs.keep (TK.new hp) rvs)) (r1.new hp)
def lstW (ms : List WE) : WE := fun Γ S Q E => argsW ms Γ S (fun ds S1 => ∀ p, S1 p = none → Q (.ref p) (put S1 p (.lst ds))) E
theorem pe_lstD {es : List Expr} {pos : Pos} {f : Expr → WE} (hl : es.length ≤ 1000) (hs : es.all notStar = true) (h : ∀ e ∈ es, PE X e (tI X W (f e))) : PE X (.List es pos) (tI X W (lstW (es.map f))) := by
  refine pe_imp (pe_lst (pa_args hs h)) fun σ H Q ⟨Γ, S, Q', E', g, rs, hm, hq, hx⟩ => ⟨Γ, S, fun ds S1 => ∀ p, S1 p = none → Q' (.ref p) (put S1 p (.lst ds)), E', g, rs, hm, fun ds S1 vs H1 hn h1 k1 rvs r1 => ⟨by rw [rvs.len, hn]; exact line_of hl, fun p hp => ?_⟩, hx⟩
  exact hq _ _ _ _ (h1 p (r1.free hp)) (k1.trans (TK.new hp)) .ref (r1.put (TK.new hp) ⟨_, upd_same, RVs.keep (TK.new hp) rvs⟩)

/-! ### items, slices -/
def notSlice : Expr → Bool
  | .Slice _ _ _ _ => false
  | .Starred _ _ => false
  | _ => true
theorem plainIx_of {b : Expr} (h : notSlice b = true) : PlainIx b := by
  intro o i
  cases b <;> first | rfl | cases h
theorem pe_ixD {a b : Expr} {pos : Pos} {m1 m2 : WE} (hb : notSlice b = true) (h1 : PE X a (tI X W m1)) (h2 : PE X b (tI X W m2)) : PE X (.Subscript a b pos) (tI X W (two m1 m2 ixW)) :=
  pe_imp (pe_ix ix_seq h1 h2 (plainIx_of hb)) (two_imp fun a b c d e => o2_ix a b c d e)
def cutD (xs : List D) (lo hi : Option Int) : List D := (xs.drop (HT.sIx xs.length 0 lo)).take (HT.sIx xs.length xs.length hi - HT.sIx xs.length 0 lo)
def sliceW (x : D) (lo hi : Option Int) (S : Sto) (Q : KE) : Prop := match x with
  | .tup xs => Q (.tup (cutD xs lo hi)) S
  | .ref a => onR S a fun xs => ∀ p, S p = none → Q (.ref p) (put S p (.lst (cutD xs lo hi)))
  | _ => False
theorem RVs.cut {K : PySem.W.Frag} {H : Hp} {vs : List V} {ds : List D} (r : RVs K H vs ds) (lo hi : Option Int) : RVs K H (cutV vs lo hi) (cutD ds lo hi) := by
  unfold cutV cutD
  rw [r.len]
  exact (r.drop _).take _
theorem cut_whole {xs : List D} {lo hi : Option Int} (h : HT.sIx xs.length 0 lo = 0 ∧ HT.sIx xs.length xs.length hi = xs.length) : cutD xs lo hi = xs := by
  unfold cutD
  rw [h.1, h.2]
  simp
theorem sl_ok {x : D} {lo hi : Option Int} {S : Sto} {Q' : KE} {H : Hp} {v : V} {Q : VK} (rs : RS X.K H S) (rx : RV X.K H v x) (h : sliceW x lo hi S Q') (fin : Fin1 X Q' H Q) : rSlA X.K v lo hi H Q ∨ rSlL X.K v lo hi H Q := by
  unfold sliceW at h
  split at h
  · rename_i xs
    obtain ⟨a, vs, rfl, ha, ra⟩ := rv_tup rx
    refine .inl ⟨a, vs, rfl, ha, fun e => ?_, fun _ p hp => ?_⟩
    · rw [cut_whole (by rw [← ra.len]; exact e)] at h
      exact fin _ _ _ _ h TK.refl rx rs
    · exact fin _ _ _ _ h (TK.new hp) (.tup (.inl (.inl upd_same)) (RVs.keep (TK.new hp) (ra.cut lo hi))) (rs.new hp)
  · cases rv_ref rx
    obtain ⟨ys, hy, h⟩ := onR_get h
    obtain ⟨vs, ha, ra⟩ := rs.rd hy
    refine .inr ⟨_, vs, rfl, ha, fun p hp => ?_⟩
    exact fin _ _ _ _ (h p (rs.free hp)) (TK.new hp) .ref (rs.put (TK.new hp) ⟨_, upd_same, RVs.keep (TK.new hp) (ra.cut lo hi)⟩)
  · cases h
/-- a part of a slice -/
def partW : Option WE → Gam → Sto → (Option Int → Sto → Prop) → XP → Prop
  | none => fun _ S Q _ => Q none S
  | some m => fun Γ S Q E => m Γ S (fun d S1 => match d with | .int i => Q (some i) S1 | _ => False) E
def tP (X : Cx) (W : WP) (m : Gam → Sto → (Option Int → Sto → Prop) → XP → Prop) : TO := fun σ H Q => ∃ Γ S Q' E', RG X.K W.pn H σ Γ ∧ RS X.K H S ∧ m Γ S Q' E' ∧ (∀ o S' H', Q' o S' → TK H H' → RS X.K H' S' → Q o H') ∧ XOk X W E' σ H
theorem po_imp {e : Option Expr} {t t' : TO} (h : PO X e t) (i : ∀ σ H Q, t' σ H Q → t σ H Q) : PO X e t' := ⟨fun pins s σ H Q I q => h.run pins s σ H Q I (i σ H Q q)⟩
theorem po_part {e : Option Expr} {f : Expr → WE} (h : ∀ x, e = some x → PE X x (tI X W (f x))) : PO X e (tP X W (partW (e.map f))) := by
  cases e with
  | none => exact po_imp po_none fun σ H Q ⟨Γ, S, Q', E', g, rs, hm, hq, hx⟩ => hq _ _ _ hm TK.refl rs
  | some x =>
    refine po_imp (po_some (h x rfl)) fun σ H Q ⟨Γ, S, Q', E', g, rs, hm, hq, hx⟩ => ⟨Γ, S, _, E', g, rs, hm, fun d S1 v H1 h1 k1 rv r1 => ?_, hx⟩
    split at h1
    · cases rv_int rv
      exact ⟨_, rfl, hq _ _ _ h1 k1 r1⟩
    · cases h1
def slW (m : WE) (ml mh : Gam → Sto → (Option Int → Sto → Prop) → XP → Prop) : WE := fun Γ S Q E => m Γ S (fun x S1 => ml Γ S1 (fun lo S2 => mh Γ S2 (fun hi S3 => sliceW x lo hi S3 Q) E) E) E
theorem pe_slD {a : Expr} {lo hi : Option Expr} {p2 pos : Pos} {f : Expr → WE} (h1 : PE X a (tI X W (f a))) (hl : ∀ x, lo = some x → PE X x (tI X W (f x))) (hh : ∀ x, hi = some x → PE X x (tI X W (f x))) :
    PE X (.Subscript a (.Slice lo hi none p2) pos) (tI X W (slW (f a) (partW (lo.map f)) (partW (hi.map f)))) := by
  refine pe_imp (pe_slice (sl_tupA.or sl_list) h1 (po_part hl) (po_part hh)) fun σ H Q ⟨Γ, S, Q', E', g, rs, hm, hq, hx⟩ => ?_
  refine ⟨Γ, S, _, E', g, rs, hm, fun x S1 v H1 h1 k1 rv r1 => ?_, hx⟩
  refine ⟨Γ, S1, _, E', g.keep k1, r1, h1, fun o S2 H2 h2 k2 r2 => ?_, hx.keep k1⟩
  refine ⟨Γ, S2, _, E', g.keep (k1.trans k2), r2, h2, fun u S3 H3 h3 k3 r3 => ?_, hx.keep (k1.trans k2)⟩
  exact sl_ok r3 (rv.keep (k2.trans k3)) h3 fun d S4 v4 H4 h4 k4 rv4 r4 => hq _ _ _ _ h4 (((k1.trans k2).trans k3).trans k4) rv4 r4
end Vm
/-! VmD: calls, built-ins, methods, what is walked, comprehensions, over plain data. -/
namespace Vm
open PySem PySem.Spec PyProof.Rows L2
variable {X : Cx} {W : WP}

theorem backTo_any {pos : Pos} {l : List (Bool × Sem Value)} (h : l.any (·.1) = false) : (backTo pos l).any (·.1) = false := by
  unfold backTo
  rw [List.any_map]
  exact h

/-! ### defs -/
abbrev FS := List D → Sto → KE → XP → Prop
/-- a def's promise over data, as one over values -/
def spOf (K : PySem.W.Frag) (F : FS) : Sp := fun vs H Q E => ∃ ds S Q' E', RVs K H vs ds ∧ RS K H S ∧ F ds S Q' E' ∧ (∀ d S' v H', Q' d S' → TK H H' → RV K H' v d → RS K H' S' → Q v H') ∧
  (∀ x S' cls dd H', E' x S' → TK H H' → RX K H' cls dd x → RS K H' S' → E cls dd H')
def callW (F : FS) (ms : List WE) : WE := fun Γ S Q E => argsW ms Γ S (fun ds S1 => F ds S1 Q E) E
/-- a def that stands at a name -/
structure DefOk (X : Cx) (x : Str) (F : FS) : Prop where
  ex : ∃ f fd k ps, X.mg x = some (.ref f) ∧ PySem.W.keepIn X.K (.ref f) = true ∧ FnOk X.prog X.w X.K X.mg X.base (L2N.CX X.prog X.w) k f fd ps (spOf X.K F) ∧ Binds X.K fd ps [] ∧ Room k X.A
theorem pe_callD {x : Str} {p pos : Pos} {e : Expr} {es : List Expr} {F : FS} {f : Expr → WE} (tk : L2N.Takes X W.w) (df : DefOk X x F) (hg : Gl X x) (hdb : (x == ("__debug__" : Str)) = false) (hs : (e :: es).all notStar = true)
    (h : ∀ a ∈ e :: es, PE X a (tI X W (f a))) : PE X (.Call (.Name x p) (e :: es) [] pos) (tI X W (callW F ((e :: es).map f))) := by
  obtain ⟨fa, fd, k, ps, hm, hk, ok, hb, hr⟩ := df.ex
  rw [List.all_cons, Bool.and_eq_true] at hs
  refine pe_imp (pe_callS (E := fun σ cls d H => W.w cls d σ H) ok hr hg hm hk hb (fun σ => L2N.passAt tk σ) (pa_args (by rw [List.all_cons, hs.1, hs.2] <;> rfl) h) hdb (star_of hs.1) ?_) ?_
  · have z := stars_plain (env := X.env) hs.2
    exact backTo_any z
  · intro σ H Q ⟨Γ, S, Q', E', g, rs, hm, hq, hx⟩
    refine ⟨Γ, S, fun ds S1 => F ds S1 Q' E', E', g, rs, hm, fun ds S1 vs H1 hn h1 k1 rvs r1 => ?_, hx⟩
    exact ⟨ds, S1, Q', E', rvs, r1, h1, fun d S' v H' a b c e => hq d S' v H' a (k1.trans b) c e, fun x S' cls dd H' a b c e => hx x S' cls dd H' a (k1.trans b) c e⟩

/-! ### built-in functions -/
def CallD (X : Cx) (k : List D → Sto → KE → Prop) (r : List V → Hp → VK → Prop) : Prop :=
  ∀ {ds : List D} {S : Sto} {Q' : KE} {H : Hp} {vs : List V} {Q : VK}, RS X.K H S → RVs X.K H vs ds → k ds S Q' → Fin1 X Q' H Q → r vs H Q
def bltW (k : List D → Sto → KE → Prop) (ms : List WE) : WE := fun Γ S Q E => argsW ms Γ S (fun ds S1 => k ds S1 Q) E
theorem blt_imp {k : List D → Sto → KE → Prop} {r : List V → Hp → VK → Prop} {n : Nat} {ms : List WE} (hd : CallD X k r) : ∀ σ H Q, tI X W (bltW k ms) σ H Q → tCB r (tAn X W n (argsW ms)) σ H Q :=
  fun σ H Q ⟨Γ, S, Q', E', g, rs, hm, hq, hx⟩ => ⟨Γ, S, fun ds S1 => k ds S1 Q', E', g, rs, hm, fun ds S1 vs H1 hn h1 k1 rvs r1 => hd r1 rvs h1 fun d S' v' H' a b c e => hq d S' v' H' a (k1.trans b) c e, hx⟩
theorem pe_bltD {x : Str} {p pos : Pos} {e : Expr} {es : List Expr} {k : List D → Sto → KE → Prop} {r : List V → Hp → VK → Prop} {id : String} {f : Expr → WE} (hc : CallR X (.builtin id) r) (hd : CallD X k r) (hg : Gl X x) (hm : X.mg x = none) (hv : bootBuiltins x = some (.builtin id))
    (hn : x ≠ "__name__") (hdb : (x == ("__debug__" : Str)) = false) (hs : (e :: es).all notStar = true) (h : ∀ a ∈ e :: es, PE X a (tI X W (f a))) : PE X (.Call (.Name x p) (e :: es) [] pos) (tI X W (bltW k ((e :: es).map f))) := by
  have hs2 := hs
  rw [List.all_cons, Bool.and_eq_true] at hs2
  exact pe_imp (pe_callB hc hg hm hv (pa_args hs h) hn hdb (star_of hs2.1) (backTo_any (stars_plain hs2.2))) (blt_imp hd)
theorem pe_tyD {x : Str} {p pos : Pos} {e : Expr} {es : List Expr} {k : List D → Sto → KE → Prop} {r : List V → Hp → VK → Prop} {id : String} {f : Expr → WE} (hc : CallR X (.type id) r) (hd : CallD X k r) (hg : Gl X x) (hm : X.mg x = none) (hv : bootBuiltins x = some (.type id))
    (hn : x ≠ "__name__") (hdb : (x == ("__debug__" : Str)) = false) (hs : (e :: es).all notStar = true) (h : ∀ a ∈ e :: es, PE X a (tI X W (f a))) : PE X (.Call (.Name x p) (e :: es) [] pos) (tI X W (bltW k ((e :: es).map f))) := by
  have hs2 := hs
  rw [List.all_cons, Bool.and_eq_true] at hs2
  exact pe_imp (pe_callTy hc hg hm hv (pa_args hs h) hn hdb (star_of hs2.1) (backTo_any (stars_plain hs2.2))) (blt_imp hd)

theorem rvs1 {K H vs d} (r : RVs K H vs [d]) : ∃ v, vs = [v] ∧ RV K H v d := by
  cases r with | cons r t => cases t; exact ⟨_, rfl, r⟩
theorem rvs2 {K H vs d e} (r : RVs K H vs [d, e]) : ∃ v w, vs = [v, w] ∧ RV K H v d ∧ RV K H w e := by
  cases r with | cons r t => cases t with | cons q u => cases u; exact ⟨_, _, rfl, r, q⟩
def absW (ds : List D) (S : Sto) (Q : KE) : Prop := match ds with | [.int i] => Q (.int (i.natAbs : Int)) S | _ => False
theorem cd_abs : CallD X absW (fun xs H Q => ∃ i, xs = [.int i] ∧ Q (.int (if i < 0 then -i else i)) H) := by
  intro ds S Q' H vs Q rs rvs h fin
  unfold absW at h
  split at h
  · rename_i i
    obtain ⟨v, rfl, rv⟩ := rvs1 rvs
    cases rv_int rv
    have e : (if i < 0 then -i else i) = (i.natAbs : Int) := by split <;> omega
    exact ⟨_, rfl, by rw [e]; exact fin _ _ _ _ h TK.refl .int rs⟩
  · cases h
def lenW (ds : List D) (S : Sto) (Q : KE) : Prop := match ds with
  | [.tup xs] => Q (.int xs.length) S
  | [.ref a] => (match S a with | some (.lst xs) => Q (.int xs.length) S | some (.scr xs) => Q (.int xs.length) S | some (.dK kvs) => Q (.int kvs.length) S | _ => False)
  | [.str z] => z.length ≤ sizeLine ∧ Q (.int z.length) S
  | _ => False
theorem cd_len : CallD X lenW (fun xs H Q => (∃ p ys, xs = [.ref p] ∧ (SqL X.K H p ys ∨ SqT X.K H p ys) ∧ Q (.int ys.length) H) ∨ ((∃ z, xs = [.str z] ∧ z.length ≤ sizeLine ∧ Q (.int z.length) H) ∨ ∃ d kvs, xs = [.ref d] ∧ H d = some (.dK kvs) ∧ Q (.int kvs.length) H)) := by
  intro ds S Q' H vs Q rs rvs h fin
  unfold lenW at h
  split at h
  · obtain ⟨v, rfl, rv⟩ := rvs1 rvs
    obtain ⟨a, ws, rfl, ha, ra⟩ := rv_tup rv
    exact .inl ⟨a, ws, rfl, .inr ha, by rw [ra.len]; exact fin _ _ _ _ h TK.refl .int rs⟩
  · obtain ⟨v, rfl, rv⟩ := rvs1 rvs
    cases rv_ref rv
    split at h
    · rename_i e
      obtain ⟨ws, ha, ra⟩ := rs.rd (.inl e)
      exact .inl ⟨_, ws, rfl, .inl ha, by rw [ra.len]; exact fin _ _ _ _ h TK.refl .int rs⟩
    · rename_i e
      obtain ⟨ws, ha, ra⟩ := rs.rd (.inr e)
      exact .inl ⟨_, ws, rfl, .inl ha, by rw [ra.len]; exact fin _ _ _ _ h TK.refl .int rs⟩
    · rename_i kvs e
      obtain ⟨ws, ha, ra⟩ := rs _ _ e
      exact .inr (.inr ⟨_, ws, rfl, ha, by rw [Paired.length ra]; exact fin _ _ _ _ h TK.refl .int rs⟩)
    · cases h
  · obtain ⟨v, rfl, rv⟩ := rvs1 rvs
    cases rv_str rv
    exact .inr (.inl ⟨_, rfl, h.1, fin _ _ _ _ h.2 TK.refl .int rs⟩)
  · cases h
/-- isinstance(x, T), T a built-in class -/
def isiB (S : Sto) (t : Bt) (x : D) : Option Bool := match x with
  | .non => some false
  | .bl _ => some (match t with | .int => true | .bool => true | _ => false)
  | .int _ => some (match t with | .int => true | _ => false)
  | .str _ => some (match t with | .str => true | _ => false)
  | .tup _ => some (match t with | .tuple => true | _ => false)
  | .ref a => (match S a with
    | some (.lst _) => some (match t with | .list => true | _ => false)
    | some (.scr _) => some (match t with | .list => true | _ => false)
    | some (.dK _) => some (match t with | .dict => true | _ => false)
    | some (.dT _) => some (match t with | .dict => true | _ => false)
    | _ => none)
  | _ => none
def isiW (ds : List D) (S : Sto) (Q : KE) : Prop := match ds with
  | [x, .ty t] => (match isiB S t x with | some b => Q (.bl b) S | none => False)
  | _ => False
theorem kitB_all : ∀ b : Bt, kitB "NoneType" b.name = some false ∧ kitB "bool" b.name = some (match b with | .int => true | .bool => true | _ => false) ∧ kitB "int" b.name = some (match b with | .int => true | _ => false) ∧
    kitB "str" b.name = some (match b with | .str => true | _ => false) ∧ kitB "tuple" b.name = some (match b with | .tuple => true | _ => false) ∧ kitB "list" b.name = some (match b with | .list => true | _ => false) ∧
    kitB "dict" b.name = some (match b with | .dict => true | _ => false) := by
  intro b; cases b <;> decide +kernel
theorem tyx_tup {K : PySem.W.Frag} {H : Hp} {a : Addr} {xs : List V} (h : SqT K H a xs) : TyX K H (.ref a) (.type "tuple") := by
  rcases h with (h | ⟨o, h⟩) | ⟨o, its, n, hk, hc, _⟩
  · exact .base (.tup h)
  · exact .fTuple h
  · exact .kTuple hk hc
theorem cd_isi : CallD X isiW (rIsi X.K) := by
  intro ds S Q' H vs Q rs rvs h fin
  unfold isiW at h
  split at h
  · rename_i x t
    obtain ⟨v, w, rfl, rv, rw'⟩ := rvs2 rvs
    cases rv_ty rw'
    split at h
    · rename_i b e
      obtain ⟨k0, k1, k2, k3, k4, k5, k6⟩ := kitB_all t
      have fin' := fin _ _ _ _ h TK.refl .bl rs
      unfold isiB at e
      split at e
      · cases e; cases rv_non rv; exact ⟨_, _, _, _, _, rfl, .ty _, .base .non, kit_ty k0, fin'⟩
      · cases e; cases rv_bl rv; exact ⟨_, _, _, _, _, rfl, .ty _, .base (.bl _), kit_ty k1, fin'⟩
      · cases e; cases rv_int rv; exact ⟨_, _, _, _, _, rfl, .ty _, .base (.int _), kit_ty k2, fin'⟩
      · cases e; cases rv_str rv; exact ⟨_, _, _, _, _, rfl, .ty _, .base (.str _), kit_ty k3, fin'⟩
      · cases e
        obtain ⟨a, ws, rfl, ha, ra⟩ := rv_tup rv
        exact ⟨_, _, _, _, _, rfl, .ty _, tyx_tup ha, kit_ty k4, fin'⟩
      · cases rv_ref rv
        split at e
        · rename_i q; cases e
          obtain ⟨ws, ha, _⟩ := rs _ _ q
          exact ⟨_, _, _, _, _, rfl, .ty _, .base (.lst ha), kit_ty k5, fin'⟩
        · rename_i q; cases e
          obtain ⟨o, ws, ha, _⟩ := rs _ _ q
          exact ⟨_, _, _, _, _, rfl, .ty _, .base (.frz ha), kit_ty k5, fin'⟩
        · rename_i q; cases e
          obtain ⟨ws, ha, _⟩ := rs _ _ q
          exact ⟨_, _, _, _, _, rfl, .ty _, .base (.dK ha), kit_ty k6, fin'⟩
        · rename_i q; cases e
          obtain ⟨ws, ha, _⟩ := rs _ _ q
          exact ⟨_, _, _, _, _, rfl, .ty _, .base (.dT ha), kit_ty k6, fin'⟩
        · cases e
      · cases e
    · cases h
  · cases h
def asBl : D → Option Bool | .bl b => some b | _ => none
def asIn : D → Option Int | .int b => some b | _ => none
theorem bls_of {K : PySem.W.Frag} {H : Hp} : ∀ {ds : List D} {bs : List Bool} {vs : List V}, allM asBl ds = some bs → RVs K H vs ds → vs = bs.map V.bl
  | [], bs, vs, h, r => by cases r; cases h; rfl
  | d :: ds, bs, vs, h, r => by
    cases r with
    | cons r t =>
      unfold allM at h
      split at h
      · rename_i b bs' h1 h2
        cases h
        cases d <;> cases h1
        cases rv_bl r
        rw [bls_of h2 t] <;> rfl
      · cases h
theorem ins_of {K : PySem.W.Frag} {H : Hp} : ∀ {ds : List D} {bs : List Int} {vs : List V}, allM asIn ds = some bs → RVs K H vs ds → vs = bs.map V.int
  | [], bs, vs, h, r => by cases r; cases h; rfl
  | d :: ds, bs, vs, h, r => by
    cases r with
    | cons r t =>
      unfold allM at h
      split at h
      · rename_i b bs' h1 h2
        cases h
        cases d <;> cases h1
        cases rv_int r
        rw [ins_of h2 t] <;> rfl
      · cases h
def allW (ds : List D) (S : Sto) (Q : KE) : Prop := match ds with
  | [.ref a] => onR S a fun xs => (match allM asBl xs with | some bs => Q (.bl (bs.all id)) S | none => False)
  | _ => False
theorem cd_all : CallD X allW (rAll X.K) := by
  intro ds S Q' H vs Q rs rvs h fin
  unfold allW at h
  split at h
  · obtain ⟨v, rfl, rv⟩ := rvs1 rvs
    cases rv_ref rv
    obtain ⟨xs, hx, h⟩ := onR_get h
    obtain ⟨ws, ha, ra⟩ := rs.rd hx
    split at h
    · rename_i bs e
      have e2 := bls_of e ra
      subst e2
      exact ⟨_, bs, rfl, ha, fin _ _ _ _ h TK.refl .bl rs⟩
    · cases h
  · cases h
def anyW (ds : List D) (S : Sto) (Q : KE) : Prop := match ds with
  | [.ref a] => onR S a fun xs => (match allM asBl xs with | some bs => Q (.bl (bs.any id)) S | none => False)
  | _ => False
theorem cd_any : CallD X anyW (rAny X.K) := by
  intro ds S Q' H vs Q rs rvs h fin
  unfold anyW at h
  split at h
  · obtain ⟨v, rfl, rv⟩ := rvs1 rvs
    cases rv_ref rv
    obtain ⟨xs, hx, h⟩ := onR_get h
    obtain ⟨ws, ha, ra⟩ := rs.rd hx
    split at h
    · rename_i bs e
      have e2 := bls_of e ra
      subst e2
      exact ⟨_, bs, rfl, ha, fin _ _ _ _ h TK.refl .bl rs⟩
    · cases h
  · cases h
def sumW (ds : List D) (S : Sto) (Q : KE) : Prop := match ds with
  | [.ref a] => onR S a fun xs => (match allM asIn xs with | some ns => Q (.int ns.sum) S | none => False)
  | _ => False
theorem cd_sum : CallD X sumW (rSum X.K) := by
  intro ds S Q' H vs Q rs rvs h fin
  unfold sumW at h
  split at h
  · obtain ⟨v, rfl, rv⟩ := rvs1 rvs
    cases rv_ref rv
    obtain ⟨xs, hx, h⟩ := onR_get h
    obtain ⟨ws, ha, ra⟩ := rs.rd hx
    split at h
    · rename_i bs e
      have e2 := ins_of e ra
      subst e2
      exact ⟨_, bs, rfl, ha, fin _ _ _ _ h TK.refl .int rs⟩
    · cases h
  · cases h
def maxW (ds : List D) (S : Sto) (Q : KE) : Prop := match ds with
  | [.int i, .int j] => Q (.int (max i j)) S
  | [.ref a] => onR S a fun xs => (match allM asIn xs with | some ns => 0 < ns.length ∧ ∀ m, m ∈ ns → (∀ y, y ∈ ns → y ≤ m) → Q (.int m) S | none => False)
  | _ => False
def minW (ds : List D) (S : Sto) (Q : KE) : Prop := match ds with
  | [.int i, .int j] => Q (.int (min i j)) S
  | [.ref a] => onR S a fun xs => (match allM asIn xs with | some ns => 0 < ns.length ∧ ∀ m, m ∈ ns → (∀ y, y ∈ ns → m ≤ y) → Q (.int m) S | none => False)
  | _ => False
theorem cd_max : CallD X maxW (fun xs H Q => (∃ i j, xs = [.int i, .int j] ∧ Q (.int (if j > i then j else i)) H) ∨ rMax X.K xs H Q) := by
  intro ds S Q' H vs Q rs rvs h fin
  unfold maxW at h
  split at h
  · rename_i i j
    obtain ⟨v, w, rfl, rv, rw'⟩ := rvs2 rvs
    cases rv_int rv; cases rv_int rw'
    have e : (if j > i then j else i) = max i j := by split <;> omega
    exact .inl ⟨_, _, rfl, by rw [e]; exact fin _ _ _ _ h TK.refl .int rs⟩
  · obtain ⟨v, rfl, rv⟩ := rvs1 rvs
    cases rv_ref rv
    obtain ⟨xs, hx, h⟩ := onR_get h
    obtain ⟨ws, ha, ra⟩ := rs.rd hx
    split at h
    · rename_i bs e
      have e2 := ins_of e ra
      subst e2
      exact .inr ⟨_, bs, rfl, ha, h.1, fun m h1 h2 => fin _ _ _ _ (h.2 m h1 h2) TK.refl .int rs⟩
    · cases h
  · cases h
theorem cd_min : CallD X minW (fun xs H Q => (∃ i j, xs = [.int i, .int j] ∧ Q (.int (if j < i then j else i)) H) ∨ rMin X.K xs H Q) := by
  intro ds S Q' H vs Q rs rvs h fin
  unfold minW at h
  split at h
  · rename_i i j
    obtain ⟨v, w, rfl, rv, rw'⟩ := rvs2 rvs
    cases rv_int rv; cases rv_int rw'
    have e : (if j < i then j else i) = min i j := by split <;> omega
    exact .inl ⟨_, _, rfl, by rw [e]; exact fin _ _ _ _ h TK.refl .int rs⟩
  · obtain ⟨v, rfl, rv⟩ := rvs1 rvs
    cases rv_ref rv
    obtain ⟨xs, hx, h⟩ := onR_get h
    obtain ⟨ws, ha, ra⟩ := rs.rd hx
    split at h
    · rename_i bs e
      have e2 := ins_of e ra
      subst e2
      exact .inr ⟨_, bs, rfl, ha, h.1, fun m h1 h2 => fin _ _ _ _ (h.2 m h1 h2) TK.refl .int rs⟩
    · cases h
  · cases h
def intCW (ds : List D) (S : Sto) (Q : KE) : Prop := match ds with
  | [.int i] => Q (.int i) S
  | [.bl k] => Q (.int (if k then 1 else 0)) S
  | _ => False
theorem cd_int : CallD X intCW (fun xs H Q => (∃ i, xs = [.int i] ∧ Q (.int i) H) ∨ ∃ k, xs = [.bl k] ∧ Q (.int (if k then 1 else 0)) H) := by
  intro ds S Q' H vs Q rs rvs h fin
  unfold intCW at h
  split at h
  · obtain ⟨v, rfl, rv⟩ := rvs1 rvs
    cases rv_int rv
    exact .inl ⟨_, rfl, fin _ _ _ _ h TK.refl .int rs⟩
  · obtain ⟨v, rfl, rv⟩ := rvs1 rvs
    cases rv_bl rv
    exact .inr ⟨_, rfl, fin _ _ _ _ h TK.refl .int rs⟩
  · cases h
def tupleW (ds : List D) (S : Sto) (Q : KE) : Prop := match ds with
  | [.tup xs] => Q (.tup xs) S
  | [.ref a] => onR S a fun xs => Q (.tup xs) S
  | _ => False
theorem cd_tuple : CallD X tupleW (fun xs H Q => ∃ p ys, xs = [.ref p] ∧ ((SqL X.K H p ys ∧ ∀ l, H l = none → Q (.ref l) (upd H l (.tup ys))) ∨ (SqT X.K H p ys ∧ Q (.ref p) H))) := by
  intro ds S Q' H vs Q rs rvs h fin
  unfold tupleW at h
  split at h
  · obtain ⟨v, rfl, rv⟩ := rvs1 rvs
    obtain ⟨a, ws, rfl, ha, ra⟩ := rv_tup rv
    exact ⟨a, ws, rfl, .inr ⟨ha, fin _ _ _ _ h TK.refl rv rs⟩⟩
  · obtain ⟨v, rfl, rv⟩ := rvs1 rvs
    cases rv_ref rv
    obtain ⟨xs, hx, h⟩ := onR_get h
    obtain ⟨ws, ha, ra⟩ := rs.rd hx
    exact ⟨_, ws, rfl, .inl ⟨ha, fun l hl => fin _ _ _ _ h (TK.new hl) (.tup (.inl (.inl upd_same)) (RVs.keep (TK.new hl) ra)) (rs.new hl)⟩⟩
  · cases h
def listW (ds : List D) (S : Sto) (Q : KE) : Prop := match ds with
  | [.tup xs] => ∀ p, S p = none → Q (.ref p) (put S p (.lst xs))
  | [.ref a] => onR S a fun xs => ∀ p, S p = none → Q (.ref p) (put S p (.lst xs))
  | _ => False
theorem cd_list : CallD X listW (fun xs H Q => ∃ p ys, xs = [.ref p] ∧ (SqL X.K H p ys ∨ SqT X.K H p ys) ∧ ∀ l, H l = none → Q (.ref l) (upd H l (.lst ys))) := by
  intro ds S Q' H vs Q rs rvs h fin
  unfold listW at h
  split at h
  · obtain ⟨v, rfl, rv⟩ := rvs1 rvs
    obtain ⟨a, ws, rfl, ha, ra⟩ := rv_tup rv
    exact ⟨a, ws, rfl, .inr ha, fun l hl => fin _ _ _ _ (h l (rs.free hl)) (TK.new hl) .ref (rs.put (TK.new hl) ⟨_, upd_same, RVs.keep (TK.new hl) ra⟩)⟩
  · obtain ⟨v, rfl, rv⟩ := rvs1 rvs
    cases rv_ref rv
    obtain ⟨xs, hx, h⟩ := onR_get h
    obtain ⟨ws, ha, ra⟩ := rs.rd hx
    exact ⟨_, ws, rfl, .inl ha, fun l hl => fin _ _ _ _ (h l (rs.free hl)) (TK.new hl) .ref (rs.put (TK.new hl) ⟨_, upd_same, RVs.keep (TK.new hl) ra⟩)⟩
  · cases h
end Vm
/-! VmE: methods, what is walked, targets, comprehensions, over plain data. -/
namespace Vm
open PySem PySem.Spec PyProof.Rows L2
variable {X : Cx} {W : WP}

/-! ### methods of lists -/
def isL (x : D) (S : Sto) : Prop := match x with
  | .ref a => (match S a with | some (.lst _) => True | some (.scr _) => True | _ => False)
  | _ => False
theorem isL_get {x : D} {S : Sto} (h : isL x S) : ∃ a ds, x = .ref a ∧ (S a = some (.lst ds) ∨ S a = some (.scr ds)) := by
  unfold isL at h
  split at h
  · split at h
    · rename_i e; exact ⟨_, _, rfl, .inl e⟩
    · rename_i e; exact ⟨_, _, rfl, .inr e⟩
    · cases h
  · cases h
/-- a list's method -/
def lmW (k : D → List D → Sto → KE → Prop) (m : WE) (ms : List WE) : WE := fun Γ S Q E => m Γ S (fun x S1 => isL x S1 ∧ argsW ms Γ S1 (fun ds S2 => k x ds S2 Q) E) E
def MethD (X : Cx) (k : D → List D → Sto → KE → Prop) (r : V → List V → Hp → VK → Prop) : Prop :=
  ∀ {x : D} {ds : List D} {S : Sto} {Q' : KE} {H : Hp} {v : V} {vs : List V} {Q : VK}, RS X.K H S → RV X.K H v x → RVs X.K H vs ds → k x ds S Q' → Fin1 X Q' H Q → r v vs H Q
theorem pe_lmD {o e : Expr} {es : List Expr} {name : Str} {apos cpos : Pos} {id : String} {k : D → List D → Sto → KE → Prop} {r : V → List V → Hp → VK → Prop} {f : Expr → WE} (slot : Slot "list" name id) (hty : typeOf (.builtin id) = pure (.type "method_descriptor")) (hm : MtR X id r) (hk : MethD X k r)
    (ho : PE X o (tI X W (f o))) (hs : (e :: es).all notStar = true) (h : ∀ a ∈ e :: es, PE X a (tI X W (f a))) (hbase : attributeBase o name X.env (eval o X.env) = eval o X.env) (hfew : (e :: es).length < 29) (hline : (apos.endLine == cpos.line) = true) :
    PE X (.Call (.Attribute o name apos) (e :: es) [] cpos) (tI X W (lmW k (f o) ((e :: es).map f))) := by
  have hs2 := hs
  rw [List.all_cons, Bool.and_eq_true] at hs2
  have hp := backTo_any (pos := cpos) (stars_plain (env := X.env) hs2.2)
  have hf : ((backTo cpos (starEach (e :: es) X.env)).all (fun x => !x.1) && (backToKw cpos (keywordEach [] X.env)).all (fun x => x.1.isSome) && decide ((e :: es).length + ([] : List Keyword).length + (if ([] : List Keyword).isEmpty then 0 else 1) < 30)) = true := by
    have h1 : (backTo cpos (starEach (e :: es) X.env)).all (fun x => !x.1) = true := by
      rw [List.all_eq_not_any_not]
      have := backTo_any (pos := cpos) (stars_plain (env := X.env) hs)
      simpa using this
    rw [h1]
    have h2 : decide ((e :: es).length + ([] : List Keyword).length + (if ([] : List Keyword).isEmpty then 0 else 1) < 30) = true := by
      apply decide_eq_true
      have z : ([] : List Keyword).isEmpty = true := rfl
      rw [z, if_pos rfl, List.length_nil]
      omega
    rw [h2]
    rfl
  refine pe_imp (pe_bm PySem.F.plainAttrs_list slot hty hm ho (pa_args hs h) hbase hf hline (star_of hs2.1) hp) fun σ H Q ⟨Γ, S, Q', E', g, rs, hm, hq, hx⟩ => ?_
  refine ⟨Γ, S, _, E', g, rs, hm, fun x S1 v H1 h1 k1 rv r1 => ?_, hx⟩
  obtain ⟨hl0, h1⟩ := h1
  obtain ⟨a, ds, rfl, hl⟩ := isL_get hl0
  cases rv_ref rv
  obtain ⟨xs, hx1, _⟩ := r1.rd hl
  refine ⟨.inl ⟨rfl, xs, hx1⟩, Γ, S1, fun ds S2 => k (.ref a) ds S2 Q', E', g.keep k1, r1, h1, fun ds S2 vs H2 hn h2 k2 rvs r2 => ?_, hx.keep k1⟩
  exact hk r2 .ref rvs h2 fun d S3 v3 H3 h3 k3 rv3 r3 => hq _ _ _ _ h3 ((k1.trans k2).trans k3) rv3 r3
def appendW (x : D) (ds : List D) (S : Sto) (Q : KE) : Prop := match x, ds with
  | .ref a, [d] => onL S a fun xs => xs.length < sizeLine ∧ Q .non (put S a (.lst (xs ++ [d])))
  | _, _ => False
theorem tk_lst {H : Hp} {a : Addr} {xs : List V} {o : HO} (h : H a = some (.lst xs)) : TK H (upd H a o) := TK.wr h (fun _ z => nomatch z) (fun _ _ z => nomatch z) (fun _ z => nomatch z)
theorem md_append : MethD X appendW rAppend := by
  intro x ds S Q' H v vs Q rs rv rvs h fin
  unfold appendW at h
  split at h
  · obtain ⟨y, rfl, ry⟩ := rvs1 rvs
    cases rv_ref rv
    obtain ⟨xs, hx, hz, h⟩ := onL_get h
    obtain ⟨ws, ha, ra⟩ := rs.lst hx
    have k := tk_lst (o := .lst (ws ++ [y])) ha
    exact ⟨_, ws, y, rfl, rfl, ha, by rw [ra.len]; exact hz, fin _ _ _ _ h k .non (rs.put k ⟨_, upd_same, RVs.keep k (ra.append (.cons ry .nil))⟩)⟩
  · cases h
def extendW (x : D) (ds : List D) (S : Sto) (Q : KE) : Prop := match x, ds with
  | .ref a, [.ref b] => onL S a fun xs => onL S b fun ys => xs.length + ys.length ≤ sizeLine ∧ Q .non (put S a (.lst (xs ++ ys)))
  | _, _ => False
theorem md_extend : MethD X extendW rExtend := by
  intro x ds S Q' H v vs Q rs rv rvs h fin
  unfold extendW at h
  split at h
  · obtain ⟨y, rfl, ry⟩ := rvs1 rvs
    cases rv_ref rv; cases rv_ref ry
    obtain ⟨xs, hx, h⟩ := onL_get h
    obtain ⟨ys, hy, hz, h⟩ := onL_get h
    obtain ⟨ws, ha, ra⟩ := rs.lst hx
    obtain ⟨us, hb, rb⟩ := rs.lst hy
    have k := tk_lst (o := .lst (ws ++ us)) ha
    exact ⟨_, _, ws, us, rfl, rfl, ha, hb, by rw [ra.len, rb.len]; exact hz, fin _ _ _ _ h k .non (rs.put k ⟨_, upd_same, RVs.keep k (ra.append rb)⟩)⟩
  · cases h
/-- list.count of flat things -/
def rCount (K : PySem.W.Frag) : V → List V → Hp → VK → Prop := fun x xs H Q => ∃ (p : Addr) (ys : List V) (y : V), x = .ref p ∧ xs = [y] ∧ SqL K H p ys ∧ flatV y = true ∧ ys.all flatV = true ∧ Q (.int (ys.countP (fun z => eqV z y) : Nat)) H
theorem count_eqU {y : V} : ∀ {ys : List V} {us : List Value}, Vals ys us → ys.all flatV = true → us.countP (eqU y) = ys.countP (fun z => eqV z y)
  | _, _, .nil, _ => rfl
  | _, _, .cons r t, f => by
    rw [List.all_cons, Bool.and_eq_true] at f
    rw [List.countP_cons, List.countP_cons, count_eqU t f.2, eqU_of r f.1]
theorem mt_count : MtR X "list.count" (rCount X.K) := by
  intro pins s σ H x xs v us Q I rx rxs h
  obtain ⟨p, ys, y, rfl, rfl, hs, fy, fys, q⟩ := h
  cases rx
  obtain ⟨u, rfl, ru⟩ := rxs.one
  obtain ⟨its, rv, ⟨⟨cls, dd, data, sl⟩, n, ho, hc, hdn, hd⟩, hlen⟩ := I.list hs
  simp only at hc hd
  subst hc hd
  refine call_meets PySem.F.slot_list_count ⟨_, ho, rfl⟩ PySem.F.entry_list_count (PySem.F.args_list_count_2 _ _)
    (SeqAt.list_countAt p its.toArray n dd sl u (eqU y)) ⟨ho, fun z hz => mem_eqAt ru fy rv fys z (by simpa using hz), ?_⟩
  have ec : its.toArray.toList.countP (eqU y) = ys.countP (fun z => eqV z y) := count_eqU rv fys
  first
    | (rw [ec]; exact ⟨.int _, H, I.tok _, ⟨_, rfl⟩, q⟩)
    | (simp only [ec]; exact ⟨.int _, H, I.tok _, ⟨_, rfl⟩, q⟩)
theorem countF_of {K : PySem.W.Frag} {H : Hp} {u : V} {e : D} (q : RV K H u e) (g : flatD e = true) : ∀ {vs : List V} {ds : List D}, RVs K H vs ds → ds.all flatD = true → vs.countP (fun z => eqV z u) = ds.countP (fun z => eqF z e)
  | _, _, .nil, _ => rfl
  | _, _, .cons r t, f => by
    rw [List.all_cons, Bool.and_eq_true] at f
    rw [List.countP_cons, List.countP_cons, countF_of q g t f.2, eqF_of r q f.1 g]
def countW (x : D) (ds : List D) (S : Sto) (Q : KE) : Prop := match x, ds with
  | .ref a, [d] => onR S a fun xs => flatD d = true ∧ xs.all flatD = true ∧ Q (.int (xs.countP (fun z => eqF z d) : Nat)) S
  | _, _ => False
theorem md_count : MethD X countW (rCount X.K) := by
  intro x ds S Q' H v vs Q rs rv rvs h fin
  unfold countW at h
  split at h
  · obtain ⟨y, rfl, ry⟩ := rvs1 rvs
    cases rv_ref rv
    obtain ⟨xs, hx, h1, h2, h3⟩ := onR_get h
    obtain ⟨ws, ha, ra⟩ := rs.rd hx
    exact ⟨_, ws, y, rfl, rfl, ha, flat_of ry h1, flats_of ra h2, by rw [countF_of ry h1 ra h2]; exact fin _ _ _ _ h3 TK.refl .int rs⟩
  · cases h
def firstF (d : D) (xs : List D) : Option Nat := xs.findIdx? fun z => eqF z d
def indexW (x : D) (ds : List D) (S : Sto) (Q : KE) : Prop := match x, ds with
  | .ref a, [d] => onR S a fun xs => flatD d = true ∧ xs.all flatD = true ∧ (match firstF d xs with | some j => Q (.int (j : Nat)) S | none => False)
  | _, _ => False
theorem md_index : MethD X indexW (rIndex X.K) := by
  intro x ds S Q' H v vs Q rs rv rvs h fin
  unfold indexW at h
  split at h
  · rename_i d
    obtain ⟨y, rfl, ry⟩ := rvs1 rvs
    cases rv_ref rv
    obtain ⟨xs, hx, h1, h2, h3⟩ := onR_get h
    obtain ⟨ws, ha, ra⟩ := rs.rd hx
    split at h3
    · rename_i j e
      unfold firstF at e
      rw [List.findIdx?_eq_some_iff_getElem] at e
      obtain ⟨hj, hp, hno⟩ := e
      obtain ⟨z, hz, rz⟩ := ra.at (List.getElem?_eq_getElem hj)
      refine ⟨_, ws, y, j, z, rfl, rfl, ha, flat_of ry h1, flats_of ra h2, hz, ?_, fun m z' hm hz' => ?_, fin _ _ _ _ h3 TK.refl .int rs⟩
      · rw [eqF_of rz ry (List.all_eq_true.mp h2 _ (List.getElem_mem hj)) h1]
        exact hp
      · obtain ⟨d', hd', rd'⟩ := ra.at' hz'
        rw [eqF_of rd' ry (List.all_eq_true.mp h2 _ (List.mem_of_getElem? hd')) h1]
        have hml : m < xs.length := (List.getElem?_eq_some_iff.mp hd').1
        have := hno m hm
        have e2 : xs[m] = d' := (List.getElem?_eq_some_iff.mp hd').2
        rw [e2] at this
        simpa using this
    · cases h3
  · cases h

/-! ### targets -/
inductive Tg where
  | nm (i : Nat)
  | tp (ts : List Tg)
mutual
def tgU (S : Sto) : Tg → D → Option (List (Nat × D))
  | .nm i, d => some [(i, d)]
  | .tp ts, d => match d with
    | .tup ds => tgUs S ts ds
    | .ref a => (match S a with | some (.lst ds) => tgUs S ts ds | some (.scr ds) => tgUs S ts ds | _ => none)
    | _ => none
def tgUs (S : Sto) : List Tg → List D → Option (List (Nat × D))
  | [], [] => some []
  | t :: ts, d :: ds => (match tgU S t d, tgUs S ts ds with | some a, some b => some (a ++ b) | _, _ => none)
  | _, _ => none
end
def setU (Γ : Gam) : List (Nat × D) → Gam
  | [] => Γ
  | p :: r => setU (Γ.set p.1 (some p.2)) r
def setV (σ : St) : List (Nat × V) → St
  | [] => σ
  | p :: r => setV (σ.set p.1 (some p.2)) r
theorem setV_append {σ : St} : ∀ {a b : List (Nat × V)}, setV σ (a ++ b) = setV (setV σ a) b
  | [], _ => rfl
  | p :: r, b => setV_append (σ := σ.set p.1 (some p.2)) (a := r) (b := b)
abbrev UpR (K : PySem.W.Frag) (H : Hp) : List (Nat × V) → List (Nat × D) → Prop := Paired fun (p : Nat × V) (q : Nat × D) => p.1 = q.1 ∧ RV K H p.2 q.2
theorem upR_app {K : PySem.W.Frag} {H : Hp} : ∀ {a c : List (Nat × V)} {b d : List (Nat × D)}, UpR K H a b → UpR K H c d → UpR K H (a ++ c) (b ++ d)
  | _, _, _, _, .nil, s => s
  | _, _, _, _, .cons r t, s => .cons r (upR_app t s)
theorem rg_setU {K : PySem.W.Frag} {pn : Pn} {H : Hp} : ∀ {ws : List (Nat × V)} {ups : List (Nat × D)} {σ : St} {Γ : Gam}, UpR K H ws ups → RG K pn H σ Γ → RG K pn H (setV σ ws) (Vm.setU Γ ups)
  | _, _, _, _, .nil, g => g
  | (i, v) :: ws, (j, d) :: ups, σ, Γ, .cons r t, g => by
    obtain ⟨e, r⟩ := r
    have e : i = j := e
    subst e
    exact rg_setU (ws := ws) (ups := ups) t (g.set r)
def gTg (X : Cx) (t : Tg) : TG := fun v σ H Q => ∃ d S ups, RV X.K H v d ∧ RS X.K H S ∧ tgU S t d = some ups ∧ ∀ ws, UpR X.K H ws ups → Q (setV σ ws) H
def gTgs (X : Cx) (ts : List Tg) : TGs := fun vs σ H Q => ∃ ds S ups, RVs X.K H vs ds ∧ RS X.K H S ∧ tgUs S ts ds = some ups ∧ ∀ ws, UpR X.K H ws ups → Q (setV σ ws) H
theorem pgs_imp {es : List Expr} {t t' : TGs} (h : PGs X es t) (i : ∀ v σ H Q, t' v σ H Q → t v σ H Q) : PGs X es t' := ⟨fun pins s σ H v u Q I r q => h.run pins s σ H v u Q I r (i v σ H Q q)⟩
theorem pg_or {tg : Expr} {t t' : TG} (h : PG X tg t) (h' : PG X tg t') : PG X tg (fun v σ H Q => t v σ H Q ∨ t' v σ H Q) :=
  ⟨fun pins s σ H v u Q I r q => q.elim (h.run pins s σ H v u Q I r) (h'.run pins s σ H v u Q I r)⟩
theorem pg_nm {i : Nat} {e : Expr} (h : PG X e (gName i)) : PG X e (gTg X (.nm i)) :=
  pg_imp h fun v σ H Q ⟨d, S, ups, rv, rs, e, k⟩ => by
    unfold tgU at e
    cases e
    exact k [(i, v)] (.cons ⟨rfl, rv⟩ .nil)
theorem tgUs_cons {S : Sto} {t : Tg} {ts : List Tg} {ds : List D} {ups : List (Nat × D)} (h : tgUs S (t :: ts) ds = some ups) : ∃ d r a b, ds = d :: r ∧ tgU S t d = some a ∧ tgUs S ts r = some b ∧ ups = a ++ b := by
  cases ds with
  | nil => unfold tgUs at h; cases h
  | cons d r =>
    unfold tgUs at h
    split at h
    · rename_i a b h1 h2
      cases h
      exact ⟨d, r, a, b, rfl, h1, h2, rfl⟩
    · cases h
theorem assign_cons {e : Expr} {es : List Expr} {env : Env} (h : notStar e = true) : (assignEach (e :: es) env) = (false, assign e env) :: assignEach es env := by
  cases e <;> first | rfl | cases h
theorem assign_len {env : Env} : ∀ {es : List Expr}, es.all notStar = true → (assignEach es env).length = es.length ∧ (assignEach es env).findIdx? (·.1) = none
  | [], _ => ⟨rfl, rfl⟩
  | e :: es, h => by
    rw [List.all_cons, Bool.and_eq_true] at h
    obtain ⟨h1, h2⟩ := assign_len (env := env) h.2
    rw [assign_cons h.1]
    refine ⟨by rw [List.length_cons, h1, List.length_cons], ?_⟩
    rw [List.findIdx?_cons, h2] <;> rfl
theorem pgs_tgs {f : Expr → Option Tg} : ∀ {es : List Expr} {ts : List Tg}, es.all notStar = true → allM f es = some ts → (∀ e ∈ es, ∀ t, f e = some t → PG X e (gTg X t)) → PGs X es (gTgs X ts)
  | [], ts, _, h, _ => by
    cases h
    refine pgs_imp pgs_nil fun v σ H Q ⟨ds, S, ups, rv, rs, e, k⟩ => ?_
    cases ds with
    | nil => unfold tgUs at e; cases e; cases rv; exact ⟨rfl, k [] .nil⟩
    | cons d r => unfold tgUs at e; cases e
  | e :: es, ts, hs, h, hf => by
    rw [List.all_cons, Bool.and_eq_true] at hs
    unfold allM at h
    split at h
    · rename_i t ts' h1 h2
      cases h
      refine pgs_imp (pgs_cons (hf e (by simp) t h1) (pgs_tgs hs.2 h2 fun e' he => hf e' (List.mem_cons_of_mem _ he)) (by rw [assign_cons hs.1] <;> rfl)) fun vs σ H Q ⟨ds, S, ups, rv, rs, e, k⟩ => ?_
      obtain ⟨d, r, a, b, rfl, ha, hb, rfl⟩ := tgUs_cons e
      cases rv with
      | cons r1 rr =>
        refine ⟨_, _, rfl, d, S, a, r1, rs, ha, fun w1 u1 => ⟨r, S, b, rr, rs, hb, fun w2 u2 => ?_⟩⟩
        rw [← setV_append]
        exact k _ (upR_app u1 u2)
    · cases h
theorem tgUs_len {S : Sto} : ∀ {ts : List Tg} {ds : List D} {ups : List (Nat × D)}, tgUs S ts ds = some ups → ds.length = ts.length
  | [], [], _, _ => rfl
  | [], _ :: _, _, h => by unfold tgUs at h; cases h
  | t :: ts, ds, ups, h => by
    obtain ⟨d, r, a, b, rfl, ha, hb, rfl⟩ := tgUs_cons h
    rw [List.length_cons, List.length_cons, tgUs_len hb]
theorem allM_len {α β : Type} {f : α → Option β} : ∀ {l : List α} {r : List β}, allM f l = some r → r.length = l.length
  | [], r, h => by cases h; rfl
  | a :: l, r, h => by
    unfold allM at h
    split at h
    · rename_i b bs h1 h2
      cases h
      rw [List.length_cons, List.length_cons, allM_len h2]
    · cases h
theorem pg_tp {f : Expr → Option Tg} {es : List Expr} {ts : List Tg} {k : Nat} {pos : Pos} (hc : X.calm = true) (hs : es.all notStar = true) (h : allM f es = some ts) (hf : ∀ e ∈ es, ∀ t, f e = some t → PG X e (gTg X t)) : PG X (.Tuple es k pos) (gTg X (.tp ts)) := by
  have P := pgs_tgs (X := X) hs h hf
  obtain ⟨l1, l2⟩ := assign_len (env := X.env) hs
  refine pg_imp (pg_or (pg_tup hc P l1 l2) (pg_lst hc P l1 l2)) fun v σ H Q ⟨d, S, ups, rv, rs, e, k⟩ => ?_
  have hl := allM_len h
  unfold tgU at e
  split at e
  · obtain ⟨a, vs, rfl, ha, ra⟩ := rv_tup rv
    exact .inl ⟨a, vs, rfl, ha, by rw [ra.len, tgUs_len e, hl], _, S, ups, ra, rs, e, k⟩
  · cases rv_ref rv
    split at e
    · rename_i q
      obtain ⟨vs, ha, ra⟩ := rs.rd (.inl q)
      exact .inr ⟨_, vs, rfl, ha, by rw [ra.len, tgUs_len e, hl], _, S, ups, ra, rs, e, k⟩
    · rename_i q
      obtain ⟨vs, ha, ra⟩ := rs.rd (.inr q)
      exact .inr ⟨_, vs, rfl, ha, by rw [ra.len, tgUs_len e, hl], _, S, ups, ra, rs, e, k⟩
    · cases e
  · cases e

/-! ### what is walked -/
abbrev WI := Gam → Sto → (List D → (Sto → Prop) → Sto → Prop) → XP → Prop
structure PlanOk (K : PySem.W.Frag) (ds : List D) (ok : Sto → Prop) (J : It) (H0 : Hp) : Prop where
  go : ∀ i H S d, TK H0 H → RS K H S → ok S → ds[i]? = some d → J.go i H ∧ ∀ x H', J.yld i H x H' → TK H H' ∧ RV K H' x d ∧ ∀ S, RS K H S → RS K H' S
  stop : ∀ i H S, TK H0 H → RS K H S → ok S → ds.length ≤ i → J.stop i H
def tIt (X : Cx) (W : WP) (m : WI) : TI := fun σ H R => ∃ Γ S Q' E', RG X.K W.pn H σ Γ ∧ RS X.K H S ∧ m Γ S Q' E' ∧ (∀ ds ok S' J H', Q' ds ok S' → TK H H' → RS X.K H' S' → PlanOk X.K ds ok J H' → R J H') ∧ XOk X W E' σ H
theorem pi_imp {tg iter : Expr} {t t' : TI} (h : PI X tg iter t) (i : ∀ σ H R, t' σ H R → t σ H R) : PI X tg iter t' := ⟨fun pins s σ H R I q => h.run pins s σ H R I (i σ H R q)⟩
def stuckI : WI := fun _ _ _ _ => False
theorem pi_stuck {tg e : Expr} : PI X tg e (tIt X W stuckI) := ⟨fun _ _ _ _ _ _ h => by obtain ⟨_, _, _, _, _, _, h, _⟩ := h; exact h.elim⟩
def intsD (lo : Int) (n : Nat) : List D := (List.range n).map fun i => .int (lo + (i : Nat))
theorem plan_rng {K : PySem.W.Frag} {lo : Int} {n : Nat} {H : Hp} : PlanOk K (intsD lo n) (fun _ => True) (Itr lo n) H where
  go := fun i H S d k rs _ e => by
    unfold intsD at e
    rw [List.getElem?_map] at e
    by_cases hi : i < n
    · rw [List.getElem?_range hi] at e
      cases e
      exact ⟨hi, fun x H' y => by obtain ⟨rfl, rfl⟩ := y; exact ⟨TK.refl, .int, fun _ h => h⟩⟩
    · rw [List.getElem?_eq_none (by simpa using hi)] at e
      cases e
  stop := fun i H S k rs _ e => by
    unfold intsD at e
    rw [List.length_map, List.length_range] at e
    exact e
theorem plan_lst {K : PySem.W.Frag} {a : Addr} {ds : List D} {H : Hp} : PlanOk K ds (fun S => S a = some (.lst ds) ∨ S a = some (.scr ds)) (Itl K a) H where
  go := fun i H S d k rs ok e => by
    obtain ⟨xs, hx, rx⟩ := rs.rd ok
    obtain ⟨v, hv, rv⟩ := rx.at e
    exact ⟨⟨xs, v, hx, hv⟩, fun x H' y => by
      obtain ⟨rfl, y⟩ := y
      have z := y xs hx
      rw [hv] at z
      cases z
      exact ⟨TK.refl, rv, fun _ h => h⟩⟩
  stop := fun i H S k rs ok e => by
    obtain ⟨xs, hx, rx⟩ := rs.rd ok
    exact ⟨xs, hx, by rw [rx.len]; exact e⟩
theorem plan_tup {K : PySem.W.Frag} {a : Addr} {vs : List V} {ds : List D} {H0 : Hp} (h : SqT K H0 a vs) (r : RVs K H0 vs ds) : PlanOk K ds (fun _ => True) (Itt K a) H0 where
  go := fun i H S d k rs _ e => by
    obtain ⟨v, hv, rv⟩ := r.at e
    exact ⟨⟨vs, v, k.sqt h, hv⟩, fun x H' y => by
      obtain ⟨rfl, y⟩ := y
      have z := y vs (k.sqt h)
      rw [hv] at z
      cases z
      exact ⟨TK.refl, rv.keep k, fun _ h => h⟩⟩
  stop := fun i H S k rs _ e => ⟨vs, k.sqt h, by rw [r.len]; exact e⟩
def rngW (ms : List WE) : WI := fun Γ S Q E => argsW ms Γ S (fun ds S1 => match ds with
  | [.int j] => (-(2 ^ 62) ≤ j ∧ j < 2 ^ 62) ∧ Q (intsD 0 j.toNat) (fun _ => True) S1
  | [.int i, .int j] => (-(2 ^ 62) ≤ i ∧ i < 2 ^ 62 ∧ -(2 ^ 62) ≤ j ∧ j < 2 ^ 62) ∧ Q (intsD i (j - i).toNat) (fun _ => True) S1
  | _ => False) E
theorem pi_rng1 {tg a : Expr} {p pos : Pos} {f : Expr → WE} (hg : Gl X "range") (hm : X.mg "range" = none) (hs : notStar a = true) (h : PE X a (tI X W (f a))) : PI X tg (.Call (.Name "range" p) [a] [] pos) (tIt X W (rngW ([a].map f))) := by
  refine pi_imp (pi_range1 hg hm (pa_args (f := f) (es := [a]) (by rw [List.all_cons, hs] <;> rfl) (fun e he => by cases List.mem_singleton.mp he; exact h)) (by rw [star_of hs] <;> rfl)) fun σ H R ⟨Γ, S, Q', E', g, rs, hm, hq, hx⟩ => ?_
  unfold rngW at hm
  refine ⟨Γ, S, _, E', g, rs, hm, fun ds S1 vs H1 hn h1 k1 rvs r1 => ?_, hx⟩
  match ds, hn with
  | [d], _ =>
    obtain ⟨v, rfl, rv⟩ := rvs1 rvs
    cases d with
    | int j =>
      cases rv_int rv
      obtain ⟨⟨b1, b2⟩, h1⟩ := h1
      exact ⟨j, rfl, b1, b2, hq _ _ _ _ _ h1 k1 r1 plan_rng⟩
    | _ => exact h1.elim
theorem pi_rng2 {tg a b : Expr} {p pos : Pos} {f : Expr → WE} (hg : Gl X "range") (hm : X.mg "range" = none) (hs : notStar a = true) (hs2 : notStar b = true) (h : PE X a (tI X W (f a))) (h2 : PE X b (tI X W (f b))) : PI X tg (.Call (.Name "range" p) [a, b] [] pos) (tIt X W (rngW ([a, b].map f))) := by
  refine pi_imp (pi_range2 hg hm (pa_args (f := f) (es := [a, b]) (by rw [List.all_cons, List.all_cons, hs, hs2] <;> rfl) (fun e he => by
    rcases List.mem_cons.mp he with rfl | he
    · exact h
    · cases List.mem_singleton.mp he; exact h2)) (by rw [star_of hs, star_of hs2] <;> rfl) (by rw [star_of hs2] <;> rfl)) fun σ H R ⟨Γ, S, Q', E', g, rs, hm, hq, hx⟩ => ?_
  unfold rngW at hm
  refine ⟨Γ, S, _, E', g, rs, hm, fun ds S1 vs H1 hn h1 k1 rvs r1 => ?_, hx⟩
  match ds, hn with
  | [d, e], _ =>
    obtain ⟨v, w, rfl, rv, rw'⟩ := rvs2 rvs
    cases d with
    | int i =>
      cases e with
      | int j =>
        cases rv_int rv
        cases rv_int rw'
        obtain ⟨b, h1⟩ := h1
        exact ⟨i, j, rfl, b, hq _ _ _ _ _ h1 k1 r1 plan_rng⟩
      | _ => exact h1.elim
    | _ => exact h1.elim
/-- a value that is walked: a tuple, a list -/
def itW (m : WE) : WI := fun Γ S Q E => m Γ S (fun d S1 => match d with
  | .tup ds => Q ds (fun _ => True) S1
  | .ref a => onR S1 a fun ds => Q ds (fun S => S a = some (.lst ds) ∨ S a = some (.scr ds)) S1
  | _ => False) E
theorem pi_or {tg e : Expr} {te : TE} (h : PE X e te) : PI X tg e (fun σ H R => te σ H fun x H1 => (∃ a, x = .ref a ∧ (∃ xs, SqL X.K H1 a xs) ∧ R (Itl X.K a) H1) ∨ (∃ a, x = .ref a ∧ (∃ xs, SqT X.K H1 a xs) ∧ R (Itt X.K a) H1)) := by
  refine ⟨fun pins s σ H R I q => ?_⟩
  refine thn (h.run pins s σ H _ I q) fun v s1 ⟨x, H1, I1, r1, q1⟩ => ?_
  rcases q1 with ⟨a, e, ⟨xs, hq⟩, q⟩ | ⟨a, e, ⟨xs, hq⟩, q⟩
  · subst e
    cases r1
    obtain ⟨its, rv, p, hz⟩ := I1.list hq
    refine wpAny_pyIter_list p.isList ?_
    refine ⟨s1.heap.objs.size, [s1.heap.objs.size], _, _, H1, rfl, I1.kept (t' := s1.toks) fun b o e => Heap.get?_push_of_some _ e, turn_list a _, ⟨_, Heap.get?_push_size _ rfl, rfl, rfl⟩, fun b hb => ?_, q⟩
    have e : b = s1.heap.objs.size := by simpa using hb
    subst e
    exact I1.fpOk (Nat.le_refl _) (I1.hok.fresh (Nat.le_refl _))
  · subst e
    cases r1
    obtain ⟨its, rv, p, hz⟩ := I1.tuple hq
    refine wpAny_pyIter_tuple (show s1.heap.IsTuple a its.toArray from p) ?_
    refine ⟨s1.heap.objs.size, [s1.heap.objs.size], _, _, H1, rfl, I1.kept (t' := s1.toks) fun b o e => Heap.get?_push_of_some _ e, turn_tuple a _, ⟨_, Heap.get?_push_size _ rfl, rfl, rfl⟩, fun b hb => ?_, q⟩
    have e : b = s1.heap.objs.size := by simpa using hb
    subst e
    exact I1.fpOk (Nat.le_refl _) (I1.hok.fresh (Nat.le_refl _))
theorem pi_valD {tg e : Expr} {m : WE} (h : PE X e (tI X W m)) : PI X tg e (tIt X W (itW m)) := by
  refine pi_imp (pi_or h) fun σ H R ⟨Γ, S, Q', E', g, rs, hm, hq, hx⟩ => ⟨Γ, S, _, E', g, rs, hm, fun d S1 v H1 h1 k1 rv r1 => ?_, hx⟩
  split at h1
  · obtain ⟨a, vs, rfl, ha, ra⟩ := rv_tup rv
    exact .inr ⟨a, rfl, ⟨vs, ha⟩, hq _ _ _ _ _ h1 k1 r1 (plan_tup ha ra)⟩
  · cases rv_ref rv
    obtain ⟨ds, hd, h1⟩ := onR_get h1
    obtain ⟨vs, ha, ra⟩ := r1.rd hd
    exact .inl ⟨_, rfl, ⟨vs, ha⟩, hq _ _ _ _ _ h1 k1 r1 plan_lst⟩
  · cases h1

/-! ### comprehensions -/
/-- the loop of a comprehension: D the new list -/
def compW (t : Tg) (Γ0 : Gam) (cond : WT) (elt : WE) (ok : Sto → Prop) (D : Addr) (k : Sto → Prop) : List Vm.D → Sto → Prop
  | [], S => ok S ∧ k S
  | d :: ds, S => ok S ∧ (match tgU S t d with
    | some ups => cond (setU Γ0 ups) S (fun b S1 => if b = true then elt (setU Γ0 ups) S1 (fun y S2 => onL S2 D fun acc => acc.length < sizeLine ∧ compW t Γ0 cond elt ok D k ds (put S2 D (.lst (acc ++ [y])))) (fun _ _ => False) else compW t Γ0 cond elt ok D k ds S1) (fun _ _ => False)
    | none => False)
def lcW (mi : WI) (t : Tg) (own : List Nat) (cond : WT) (elt : WE) : WE := fun Γ S Q E => mi Γ S (fun ds ok S1 => ∀ D, S1 D = none → compW t (clean (wipeG Γ own)) cond elt ok D (fun S => Q (.ref D) S) ds (put S1 D (.lst []))) E
mutual
def Tg.slots : Tg → List Nat
  | .nm i => [i]
  | .tp ts => slotss ts
def slotss : List Tg → List Nat
  | [] => []
  | t :: ts => t.slots ++ slotss ts
end
mutual
theorem ups_in {S : Sto} : ∀ {t : Tg} {d : D} {ups : List (Nat × D)}, tgU S t d = some ups → ∀ p ∈ ups, p.1 ∈ t.slots
  | .nm i, d, ups, h => by
    unfold tgU at h
    cases h
    intro p hp
    cases List.mem_singleton.mp hp
    unfold Tg.slots
    simp
  | .tp ts, d, ups, h => by
    unfold tgU at h
    unfold Tg.slots
    split at h
    · exact upss_in h
    · split at h
      · exact upss_in h
      · exact upss_in h
      · cases h
    · cases h
theorem upss_in {S : Sto} : ∀ {ts : List Tg} {ds : List D} {ups : List (Nat × D)}, tgUs S ts ds = some ups → ∀ p ∈ ups, p.1 ∈ slotss ts
  | [], [], ups, h => by
    unfold tgUs at h
    cases h
    intro p hp
    cases hp
  | [], d :: ds, ups, h => by
    unfold tgUs at h
    cases h
  | t :: ts, ds, ups, h => by
    obtain ⟨d, r, a, b, rfl, ha, hb, rfl⟩ := tgUs_cons h
    intro p hp
    unfold slotss
    rcases List.mem_append.mp hp with hp | hp
    · exact List.mem_append_left _ (ups_in ha p hp)
    · exact List.mem_append_right _ (upss_in hb p hp)
end
theorem wipe_set {σ : St} {i : Nat} {o : Option V} : ∀ {vs : List Nat}, i ∈ vs → L2.wipe (σ.set i o) vs = L2.wipe σ vs
  | v :: vs, h => by
    unfold L2.wipe
    by_cases e : i = v
    · subst e
      by_cases h2 : i ∈ vs
      · rw [wipe_set h2]
      · have c : ∀ {us : List Nat}, i ∉ us → L2.wipe (σ.set i o) us = (L2.wipe σ us).set i o := fun {us} => by
          induction us with
          | nil => intro _; rfl
          | cons u us ih =>
            intro hn
            have h1 : i ≠ u := fun z => hn (by simp [z])
            have h2 : i ∉ us := fun z => hn (by simp [z])
            unfold L2.wipe
            rw [ih h2, List.set_comm _ _ h1]
        rw [c h2, List.set_set]
    · have h2 : i ∈ vs := by
        rcases List.mem_cons.mp h with z | z
        · exact absurd z e
        · exact z
      rw [wipe_set h2]
theorem wipe_setV {vs : List Nat} : ∀ {ws : List (Nat × V)} {σ : St}, (∀ p ∈ ws, p.1 ∈ vs) → L2.wipe (setV σ ws) vs = L2.wipe σ vs
  | [], _, _ => rfl
  | p :: r, σ, h => by
    show L2.wipe (setV (σ.set p.1 (some p.2)) r) vs = _
    rw [wipe_setV fun q hq => h q (List.mem_cons_of_mem _ hq)]
    exact wipe_set (h p (by simp))
theorem upR_in {K : PySem.W.Frag} {H : Hp} {l : List Nat} : ∀ {ws : List (Nat × V)} {ups : List (Nat × D)}, UpR K H ws ups → (∀ p ∈ ups, p.1 ∈ l) → ∀ p ∈ ws, p.1 ∈ l
  | _, _, .nil, _ => fun _ h => nomatch h
  | (i, v) :: _, (j, d) :: _, .cons r t, h => fun p hp => by
    rcases List.mem_cons.mp hp with rfl | hp
    · have e : i = j := r.1
      rw [e]
      exact h (j, d) (by simp)
    · exact upR_in t (fun q hq => h q (List.mem_cons_of_mem _ hq)) p hp
theorem wipe_wipe {σ : St} : ∀ {us : List Nat} (vs : List Nat), (∀ x ∈ us, x ∈ vs) → L2.wipe (L2.wipe σ us) vs = L2.wipe σ vs
  | [], _, _ => rfl
  | u :: us, vs, h => by
    show L2.wipe ((L2.wipe σ us).set u none) vs = _
    rw [wipe_set (h u (by simp)), wipe_wipe vs fun x hx => h x (List.mem_cons_of_mem _ hx)]
abbrev W0 : WP := ⟨fun _ _ _ _ => False, []⟩
theorem xok0 {X : Cx} {σ : St} {H : Hp} : XOk X W0 (fun _ _ => False) σ H := fun _ _ _ _ _ h => h.elim
theorem lc_imp {mi : WI} {t : Tg} {cond : WT} {elt : WE} {vs : List Nat} (ht : ∀ i ∈ t.slots, i ∈ vs) :
    ∀ σ H Q, tI X W (lcW mi t vs cond elt) σ H Q → tLc (tIt X W mi) (gTg X t) (tT X W0 cond) (tI X W0 elt) vs σ H Q := by
  intro σ H Q ⟨Γ, S, Q', E', g, rs, hm, hq, hx⟩
  unfold lcW at hm
  refine ⟨Γ, S, _, E', g, rs, hm, fun ds ok S1 J H1 h1 k1 r1 pl D hD => ?_, hx⟩
  have hc0 := h1 D (r1.free hD)
  refine ⟨fun i m H' => ∃ S', m = ds.length - i ∧ i ≤ ds.length ∧ RS X.K H' S' ∧ TK H1 H' ∧ compW t (clean (wipeG Γ vs)) cond elt ok D (fun S => Q' (.ref D) S) (ds.drop i) S', ⟨ds.length, _, by simp, Nat.zero_le _, r1.put (m := .lst []) (TK.new hD) ⟨[], upd_same, .nil⟩, TK.new hD, by simpa using hc0⟩, ?_⟩
  rintro i m H2 ⟨S2, rfl, hi, r2, k2, hc⟩
  by_cases hlt : i < ds.length
  · rw [List.drop_eq_getElem_cons hlt] at hc
    unfold compW at hc
    obtain ⟨hok, hc⟩ := hc
    split at hc
    · rename_i ups e
      obtain ⟨go, yl⟩ := pl.go i H2 S2 _ k2 r2 hok (List.getElem?_eq_getElem hlt)
      refine .inr ⟨go, fun H' => ∃ S', RS X.K H' S' ∧ TK H1 H' ∧ compW t (clean (wipeG Γ vs)) cond elt ok D (fun S => Q' (.ref D) S) (ds.drop (i + 1)) S', fun H' ⟨S', a, b, c⟩ => ⟨ds.length - (i + 1), by omega, S', rfl, hlt, a, b, c⟩, fun x H3 y => ?_⟩
      obtain ⟨k3, rx, rk⟩ := yl x H3 y
      refine ⟨_, S2, ups, rx, rk S2 r2, e, fun ws uw => ⟨?_, ?_⟩⟩
      · rw [wipe_setV fun p hp => ht _ (upR_in uw (ups_in e) p hp)]
        exact wipe_wipe vs fun _ h => h
      · have gg : RG X.K [] H3 (setV (L2.wipe σ vs) ws) (setU (clean (wipeG Γ vs)) ups) := rg_setU uw (((g.keep ((k1.trans k2).trans k3)).wipe vs).clean)
        refine ⟨_, S2, _, _, gg, rk S2 r2, hc, fun b S4 H4 h4 k4 r4 => ?_, xok0⟩
        cases b with
        | false =>
          rw [if_neg Bool.false_ne_true] at h4 ⊢
          exact ⟨S4, r4, (k2.trans k3).trans k4, h4⟩
        | true =>
          rw [if_pos rfl] at h4 ⊢
          refine ⟨_, S4, _, _, gg.keep k4, r4, h4, fun y S5 v5 H5 h5 k5 rv5 r5 => ?_, xok0⟩
          obtain ⟨acc, ha, hz, hc5⟩ := onL_get h5
          obtain ⟨us, hu, ru⟩ := r5.lst ha
          have k6 := tk_lst (o := .lst (us ++ [v5])) hu
          exact ⟨us, hu, by rw [ru.len]; exact hz, _, r5.put (m := .lst (acc ++ [y])) k6 ⟨_, upd_same, RVs.keep k6 (ru.append (.cons rv5 .nil))⟩, (((k2.trans k3).trans k4).trans k5).trans k6, hc5⟩
    · cases hc
  · have e : i = ds.length := by omega
    subst e
    rw [List.drop_length] at hc
    unfold compW at hc
    exact .inl ⟨pl.stop _ H2 S2 k2 r2 hc.1 (Nat.le_refl _), hq _ _ _ _ hc.2 (k1.trans k2) .ref r2⟩
def notSet : Expr → Bool
  | .Set _ _ _ => false
  | _ => true
theorem folded_of {e : Expr} {env : Env} (h : notSet e = true) : ∀ x, foldedSetIterable e env x = pure x := by
  intro x
  cases e <;> first | rfl | cases h
def yesT : WT := fun _ S Q _ => Q true S
theorem pts_yes : PTs X [] (tT X W yesT) := ⟨fun pins s σ H Q I h => by
  obtain ⟨Γ, S, Q', E', g, rs, hm, hq, hx⟩ := h
  exact pts_nil.run pins s σ H Q I (hq _ _ _ hm TK.refl rs)⟩
end Vm
/-! VmF: statements over plain data. -/
namespace Vm
open PySem PySem.Spec PyProof.Rows L2
variable {X : Cx} {W : WP}

theorem XGOk.at {E' : XG} {H : Hp} (h : XGOk X W E' H) {σ : St} {Γ : Gam} (g : RG X.K W.pn H σ Γ) : XOk X W (fun x S' => E' x Γ S') σ H := fun x S' cls dd H' e k rx rs => h x Γ S' cls dd σ H' e k rx (g.keep k) rs
def stuckS : WS := fun _ _ _ _ => False
theorem ps_stuck {st : Stmt} : PS X st (tS X W stuckS) := ⟨fun _ _ _ _ _ _ h => by obtain ⟨_, _, _, _, _, _, h, _⟩ := h; exact h.elim⟩
def passS : WS := fun Γ S D _ => D.nx Γ S
theorem ps_passD {pos : Pos} : PS X (.Pass pos) (tS X W passS) := ps_imp ps_pass fun D σ H ⟨Γ, S, D', E', g, rs, hm, h1, h2, hx⟩ => h1 _ _ _ _ hm TK.refl g rs
theorem ps_docD {x : Str} {j : Nat} {pos pos' : Pos} : PS X (.Expr (.Constant (.str x) j pos) pos') (tS X W passS) := ps_imp ps_doc fun D σ H ⟨Γ, S, D', E', g, rs, hm, h1, h2, hx⟩ => h1 _ _ _ _ hm TK.refl g rs
def exprS (m : WE) : WS := fun Γ S D E => m Γ S (fun _ S1 => D.nx Γ S1) (fun x S' => E x Γ S')
theorem ps_exprD {e : Expr} {pos : Pos} {m : WE} (h : PE X e (tI X W m)) (hs : swapsWith e none pos.line X.env = pure false) : PS X (.Expr e pos) (tS X W (exprS m)) :=
  ps_imp (ps_expr h hs) fun D σ H ⟨Γ, S, D', E', g, rs, hm, h1, h2, hx⟩ => ⟨Γ, S, _, _, g, rs, hm, fun d S1 v H1 a k rv r1 => h1 _ _ _ _ a k (g.keep k) r1, hx.at g⟩
def retS (m : WE) : WS := fun Γ S D E => m Γ S D.rt (fun x S' => E x Γ S')
theorem ps_retD {e : Expr} {pos : Pos} {m : WE} (h : PE X e (tI X W m)) : PS X (.Return (some e) pos) (tS X W (retS m)) :=
  ps_imp (ps_ret h) fun D σ H ⟨Γ, S, D', E', g, rs, hm, h1, h2, hx⟩ => ⟨Γ, S, _, _, g, rs, hm, fun d S1 v H1 a k rv r1 => h2 _ _ _ _ a k rv r1, hx.at g⟩
def retN : WS := fun _ S D _ => D.rt .non S
theorem ps_retND {pos : Pos} : PS X (.Return none pos) (tS X W retN) := ps_imp ps_retN fun D σ H ⟨Γ, S, D', E', g, rs, hm, h1, h2, hx⟩ => h2 _ _ _ _ hm TK.refl .non rs
def seqW : List WS → WS
  | [] => fun Γ S D _ => D.nx Γ S
  | m :: ms => fun Γ S D E => m Γ S ⟨fun Γ' S' => seqW ms Γ' S' D E, D.rt⟩ E
theorem pss_seq {f : Stmt → WS} : ∀ {sts : List Stmt}, (∀ s ∈ sts, PS X s (tS X W (f s))) → PSs X sts (tS X W (seqW (sts.map f)))
  | [], _ => pss_imp pss_nil fun D σ H ⟨Γ, S, D', E', g, rs, hm, h1, h2, hx⟩ => h1 _ _ _ _ hm TK.refl g rs
  | s :: sts, h => by
    refine pss_imp (pss_cons (h s (by simp)) (pss_seq fun s' hs => h s' (List.mem_cons_of_mem _ hs))) fun D σ H ⟨Γ, S, D', E', g, rs, hm, h1, h2, hx⟩ => ?_
    refine ⟨Γ, S, _, E', g, rs, hm, fun Γ' S' σ' H' a k g' r' => ?_, h2, hx⟩
    exact ⟨Γ', S', D', E', g', r', a, fun Γ2 S2 σ2 H2 a2 k2 g2 r2 => h1 _ _ _ _ a2 (k.trans k2) g2 r2, fun d S2 v H2 a2 k2 rv r2 => h2 _ _ _ _ a2 (k.trans k2) rv r2, hx.keep k⟩
def ifS (c : WT) (a b : WS) : WS := fun Γ S D E => c Γ S (fun t S1 => if t = true then a Γ S1 D E else b Γ S1 D E) (fun x S' => E x Γ S')
theorem ps_ifD' {c : Expr} {a b : List Stmt} {pos : Pos} {mc : WT} {ma mb : WS} (hc : PT X c (tT X W mc)) (ha : PSs X a (tS X W ma)) (hb : PSs X b (tS X W mb)) : PS X (.If c a b pos) (tS X W (ifS mc ma mb)) := by
  refine ps_imp (ps_if hc ha hb) fun D σ H ⟨Γ, S, D', E', g, rs, hm, h1, h2, hx⟩ => ⟨Γ, S, _, _, g, rs, hm, fun t S1 H1 a k r1 => ?_, hx.at g⟩
  cases t with
  | true =>
    rw [if_pos rfl] at a ⊢
    exact ⟨Γ, S1, D', E', g.keep k, r1, a, fun Γ2 S2 σ2 H2 a2 k2 g2 r2 => h1 _ _ _ _ a2 (k.trans k2) g2 r2, fun d S2 v H2 a2 k2 rv r2 => h2 _ _ _ _ a2 (k.trans k2) rv r2, hx.keep k⟩
  | false =>
    rw [if_neg Bool.false_ne_true] at a ⊢
    exact ⟨Γ, S1, D', E', g.keep k, r1, a, fun Γ2 S2 σ2 H2 a2 k2 g2 r2 => h1 _ _ _ _ a2 (k.trans k2) g2 r2, fun d S2 v H2 a2 k2 rv r2 => h2 _ _ _ _ a2 (k.trans k2) rv r2, hx.keep k⟩
/-! ### stores -/
def nmW (t : Tg) : WG := fun d Γ S Q _ => match tgU S t d with | some ups => Q (setU Γ ups) S | none => False
theorem nm_imp {t : Tg} : ∀ v σ H Q, tGt X W (nmW t) v σ H Q → gTg X t v σ H Q := fun v σ H Q ⟨d, Γ, S, Q', E', rv, g, rs, hm, hq, hx⟩ => by
  unfold nmW at hm
  split at hm
  · rename_i ups e
    exact ⟨d, S, ups, rv, rs, e, fun ws uw => hq _ _ _ _ hm TK.refl (rg_setU uw g) rs⟩
  · cases hm
def asgS (m : WE) (tw : WG) : WS := fun Γ S D E => m Γ S (fun d S1 => tw d Γ S1 D.nx E) (fun x S' => E x Γ S')
theorem asg_imp {te : TE} {m : WE} {tw : WG} (hte : ∀ σ H Q, tI X W m σ H Q → te σ H Q) : ∀ D σ H, tS X W (asgS m tw) D σ H → tAsg te (tGt X W tw) D σ H := fun D σ H ⟨Γ, S, D', E', g, rs, hm, h1, h2, hx⟩ =>
  hte σ H _ ⟨Γ, S, _, _, g, rs, hm, fun d S1 v H1 a k rv r1 => ⟨d, Γ, S1, D'.nx, E', rv, g.keep k, r1, a, fun Γ2 S2 σ2 H2 a2 k2 g2 r2 => h1 _ _ _ _ a2 (k.trans k2) g2 r2, hx.keep k⟩, hx.at g⟩
theorem ps_asgD {tg e : Expr} {pos : Pos} {m : WE} {tw : WG} (he : PE X e (tI X W m)) (hg : PG X tg (tGt X W tw)) (hs : swapsWithSole [tg] e pos.line X.env = pure false) (hw : swappedStores [tg] e X.env = pure none) (h1 : (assignEach [tg] X.env).map (·.2) = [assign tg X.env]) :
    PS X (.Assign [tg] e pos) (tS X W (asgS m tw)) := ps_imp (ps_asg he hg hs hw h1) (asg_imp fun _ _ _ h => h)
theorem tasg_nm {te : TE} {i : Nat} : ∀ D σ H, (∀ (Q Q' : VK), (∀ v H, Q v H → Q' v H) → te σ H Q → te σ H Q') → tAsg te (tGt X W (nmW (.nm i))) D σ H → tAsg te (gName i) D σ H := fun D σ H mono h =>
  mono _ _ (fun v H1 q => by
    obtain ⟨d, S, ups, rv, rs, e, k⟩ := nm_imp _ _ _ _ q
    unfold tgU at e
    cases e
    exact k [(i, v)] (.cons ⟨rfl, rv⟩ .nil)) h
theorem tI_mono {m : WE} {σ : St} {H : Hp} {Q Q' : VK} (h : ∀ v H, Q v H → Q' v H) : tI X W m σ H Q → tI X W m σ H Q' := fun ⟨Γ, S, Q1, E', g, rs, hm, hq, hx⟩ => ⟨Γ, S, Q1, E', g, rs, hm, fun d S' v H' a b c e => h _ _ (hq d S' v H' a b c e), hx⟩
theorem ps_setD {i : Nat} {x : Str} {e : Expr} {pos pos' : Pos} {m : WE} (hN : X.N.Nodup) (hi : X.N[i]? = some x) (hx : Loc X.env.scope x) (he : PE X e (tI X W m)) (hs : swapsWith e (some (.Name x pos')) pos.line X.env = pure false)
    (hf : X.fn x = true ∨ X.env.scope.names.lookup x = some .local) : PS X (.Assign [.Name x pos'] e pos) (tS X W (asgS m (nmW (.nm i)))) :=
  ps_imp (ps_set hN hi hx he hs hf) fun D σ H h => tasg_nm D σ H (fun Q Q' f => tI_mono f) (asg_imp (te := tI X W m) (fun _ _ _ h => h) D σ H h)
theorem tLc_mono {mi : WI} {t : Tg} {cond : WT} {elt : WE} {vs : List Nat} {σ : St} {H : Hp} {Q Q' : VK} (h : ∀ v H, Q v H → Q' v H) : tLc (tIt X W mi) (gTg X t) (tT X W0 cond) (tI X W0 elt) vs σ H Q → tLc (tIt X W mi) (gTg X t) (tT X W0 cond) (tI X W0 elt) vs σ H Q' :=
  fun ⟨Γ, S, Q1, E', g, rs, hm, hq, hx⟩ => ⟨Γ, S, Q1, E', g, rs, hm, fun ds ok S' J H' a b c e D hD => by
    obtain ⟨W, h0, hW⟩ := hq ds ok S' J H' a b c e D hD
    exact ⟨W, h0, fun i m H w => (hW i m H w).imp (fun z => ⟨z.1, h _ _ z.2⟩) id⟩, hx⟩
theorem ps_setLcD {i : Nat} {y : Str} {py : Pos} {elt tg iter : Expr} {ifs : List Expr} {scope : Scope} {own : List (Str × Nat)} {pos spos : Pos} {mi : WI} {t : Tg} {cond : WT} {me : WE} (hc : X.calm = true) (hN : X.N.Nodup) (hy : X.N[i]? = some y) (hyl : X.env.scope.names.lookup y = some .local)
    (hsw : swapsWith (.ListComp elt [⟨tg, iter, ifs, 0⟩] scope pos) (some (.Name y py)) spos.line X.env = pure true) (hi : PI X tg iter (tIt X W mi)) (ok : BlkOk X.N X.env.scope scope own) (ht : ∀ j ∈ t.slots, j ∈ own.map (·.2))
    (hg : ∀ (s : Shared) (H : Hp) (C : Addr) (cl : List (Str × Addr)) (fp : List Addr), PG (X.blk s H scope (compEnvC scope cl C X.env) fp) tg (gTg X t)) (hcond : ∀ (s : Shared) (H : Hp) (C : Addr) (cl : List (Str × Addr)) (fp : List Addr), PTs (X.blk s H scope (compEnvC scope cl C X.env) fp) ifs (tT X W0 cond))
    (he : ∀ (s : Shared) (H : Hp) (C : Addr) (cl : List (Str × Addr)) (fp : List Addr), PE (X.blk s H scope (compEnvC scope cl C X.env) fp) elt (tI X W0 me)) (hs : ∀ x, foldedSetIterable iter X.env x = pure x) :
    PS X (.Assign [.Name y py] (.ListComp elt [⟨tg, iter, ifs, 0⟩] scope pos) spos) (tS X W (asgS (lcW mi t (own.map (·.2)) cond me) (nmW (.nm i)))) :=
  ps_imp (ps_setLc hc hN hy hyl hsw hi ok hg hcond he hs) fun D σ H h => tasg_nm D σ H (fun Q Q' f => tLc_mono f) (asg_imp (te := tLc (tIt X W mi) (gTg X t) (tT X W0 cond) (tI X W0 me) (own.map (·.2))) (fun σ H Q z => lc_imp ht σ H Q z) D σ H h)
/-- a, b = x, y : stored from the right -/
theorem ps_parD {i j : Nat} {x y : Str} {a b : Expr} {px py pt : Pos} {kt k2 : Nat} {pt2 pos : Pos} {f : Expr → WE} (hc : X.calm = true) (hN : X.N.Nodup) (hi : X.N[i]? = some x) (hj : X.N[j]? = some y) (hij : i ≠ j)
    (hx : X.env.scope.names.lookup x = some .local) (hy : X.env.scope.names.lookup y = some .local) (hs : [a, b].all notStar = true) (h : ∀ e ∈ [a, b], PE X e (tI X W (f e)))
    (hw : swappedStores [.Tuple [.Name x px, .Name y py] kt pt] (.Tuple [a, b] k2 pt2) X.env = pure (some [x, y])) :
    PS X (.Assign [.Tuple [.Name x px, .Name y py] kt pt] (.Tuple [a, b] k2 pt2) pos) (tS X W (asgS (tupW ([a, b].map f)) (nmW (.tp [.nm i, .nm j])))) := by
  refine ps_imp (ps_par hc hN hi hj hij hx hy (pa_args hs h) hw) fun D σ H ⟨Γ, S, D', E', g, rs, hm, h1, h2, hx⟩ => ?_
  refine ⟨Γ, S, fun ds S1 => nmW (.tp [.nm i, .nm j]) (.tup ds) Γ S1 D'.nx E', _, g, rs, hm, fun ds S1 vs H1 hn a k rvs r1 => ?_, hx.at g⟩
  match ds, hn with
  | [d, e], _ =>
    obtain ⟨v, w, rfl, rv, rw'⟩ := rvs2 rvs
    exact ⟨v, w, rfl, h1 _ _ _ _ a k (((g.keep k).set rv).set rw') r1⟩
theorem ps_par3D {i j l : Nat} {x y z : Str} {a b c : Expr} {px py pz pt : Pos} {kt k2 : Nat} {pt2 pos : Pos} {f : Expr → WE} (hc : X.calm = true) (hN : X.N.Nodup) (hi : X.N[i]? = some x) (hj : X.N[j]? = some y) (hl : X.N[l]? = some z) (hij : i ≠ j) (hil : i ≠ l) (hjl : j ≠ l)
    (hx : X.env.scope.names.lookup x = some .local) (hy : X.env.scope.names.lookup y = some .local) (hz : X.env.scope.names.lookup z = some .local) (hs : [a, b, c].all notStar = true) (h : ∀ e ∈ [a, b, c], PE X e (tI X W (f e)))
    (hw : swappedStores [.Tuple [.Name x px, .Name y py, .Name z pz] kt pt] (.Tuple [a, b, c] k2 pt2) X.env = pure (some [x, y, z])) :
    PS X (.Assign [.Tuple [.Name x px, .Name y py, .Name z pz] kt pt] (.Tuple [a, b, c] k2 pt2) pos) (tS X W (asgS (tupW ([a, b, c].map f)) (nmW (.tp [.nm i, .nm j, .nm l])))) := by
  refine ps_imp (ps_par3 hc hN hi hj hl hij hil hjl hx hy hz (pa_args hs h) hw) fun D σ H ⟨Γ, S, D', E', g, rs, hm, h1, h2, hx⟩ => ?_
  refine ⟨Γ, S, fun ds S1 => nmW (.tp [.nm i, .nm j, .nm l]) (.tup ds) Γ S1 D'.nx E', _, g, rs, hm, fun ds S1 vs H1 hn a k rvs r1 => ?_, hx.at g⟩
  match ds, hn with
  | [d, e, u], _ =>
    cases rvs with
    | cons rv t =>
      obtain ⟨w, w2, rfl, rw1, rw2⟩ := rvs2 t
      exact ⟨_, w, w2, rfl, h1 _ _ _ _ a k ((((g.keep k).set rv).set rw1).set rw2) r1⟩
/-- o[i] = v -/
def setW (o i d : D) (S : Sto) (Q : Sto → Prop) : Prop := match o, i with
  | .ref a, .int k => onL S a fun xs => (match ixN xs.length k with | some j => Q (put S a (.lst (xs.set j d))) | none => False)
  | _, _ => False
def subG (mo mi : WE) : WG := fun d Γ S Q E => mo Γ S (fun o S1 => mi Γ S1 (fun i S2 => setW o i d S2 (fun S3 => Q Γ S3)) (fun x S' => E x Γ S')) (fun x S' => E x Γ S')
theorem pg_subD {o i : Expr} {pos : Pos} {mo mi : WE} (ho : PE X o (tI X W mo)) (hi : PE X i (tI X W mi)) (hn : notSlice i = true) : PG X (.Subscript o i pos) (tGt X W (subG mo mi)) := by
  refine pg_imp (pg_sub ho hi set_list (by intro v; cases i <;> first | rfl | cases hn)) fun v σ H Q ⟨d, Γ, S, Q', E', rv, g, rs, hm, hq, hx⟩ => ?_
  refine ⟨Γ, S, _, _, g, rs, hm, fun x S1 vo H1 h1 k1 ro r1 => ?_, hx.at g⟩
  refine ⟨Γ, S1, _, _, g.keep k1, r1, h1, fun y S2 vi H2 h2 k2 ri r2 => ?_, (hx.keep k1).at (g.keep k1)⟩
  unfold setW at h2
  split at h2
  · cases rv_ref ro
    cases rv_int ri
    obtain ⟨xs, hxs, h2⟩ := onL_get h2
    split at h2
    · rename_i j e
      obtain ⟨ws, hw, rw'⟩ := r2.lst hxs
      have k3 := tk_lst (o := .lst (ws.set j v)) hw
      refine ⟨_, ws, _, j, rfl, rfl, hw, by rw [rw'.len]; exact e, hq _ _ _ _ h2 ((k1.trans k2).trans k3) (g.keep ((k1.trans k2).trans k3)) (r2.put k3 ⟨_, upd_same, RVs.keep k3 (rw'.set (rv.keep (k1.trans k2)) j)⟩)⟩
    · cases h2
  · cases h2
/-! ### loops -/
def forW (body : D → Gam → Sto → (Gam → Sto → Prop) → Prop) (ok : Sto → Prop) (nx : Gam → Sto → Prop) : List D → Gam → Sto → Prop
  | [], Γ, S => ok S ∧ nx Γ S
  | d :: ds, Γ, S => ok S ∧ body d Γ S (fun Γ' S' => forW body ok nx ds Γ' S')
def bodyW (t : Tg) (mb : WS) (rt : KE) (E : XG) : D → Gam → Sto → (Gam → Sto → Prop) → Prop := fun d Γ S k => match tgU S t d with | some ups => mb (setU Γ ups) S ⟨k, rt⟩ E | none => False
def forS (mi : WI) (t : Tg) (mb : WS) : WS := fun Γ S D E => mi Γ S (fun ds ok S1 => forW (bodyW t mb D.rt E) ok D.nx ds Γ S1) (fun x S' => E x Γ S')
theorem ps_forD {tg iter : Expr} {body : List Stmt} {pos : Pos} {mi : WI} {t : Tg} {mb : WS} (hp : PassesOwn (model X.prog X.w) X.A X.env X.xe) (hc : X.calm = true) (hi : PI X tg iter (tIt X W mi)) (hg : PG X tg (gTg X t)) (hb : PSs X body (tS X W mb)) (hs : ∀ x, foldedSetIterable iter X.env x = pure x) :
    PS X (.For tg iter body [] pos) (tS X W (forS mi t mb)) := by
  refine ps_imp (ps_for hp hc hi hg hb hs) fun D σ H ⟨Γ, S, D', E', g, rs, hm, h1, h2, hx⟩ => ?_
  refine ⟨Γ, S, _, _, g, rs, hm, fun ds ok S1 J H1 a k1 r1 pl => ?_, hx.at g⟩
  refine ⟨fun i m σ' H' => ∃ Γ' S', m = ds.length - i ∧ i ≤ ds.length ∧ RG X.K W.pn H' σ' Γ' ∧ RS X.K H' S' ∧ TK H1 H' ∧ forW (bodyW t mb D'.rt E') ok D'.nx (ds.drop i) Γ' S', ⟨ds.length, Γ, S1, by simp, Nat.zero_le _, g.keep k1, r1, TK.refl, by simpa using a⟩, ?_⟩
  rintro i m σ2 H2 ⟨Γ2, S2, rfl, hi, g2, r2, k2, hc⟩
  by_cases hlt : i < ds.length
  · rw [List.drop_eq_getElem_cons hlt] at hc
    unfold forW at hc
    obtain ⟨hok, hc⟩ := hc
    unfold bodyW at hc
    split at hc
    · rename_i ups e
      obtain ⟨go, yl⟩ := pl.go i H2 S2 _ k2 r2 hok (List.getElem?_eq_getElem hlt)
      refine .inr ⟨go, fun σ' H' => ∃ Γ' S', RG X.K W.pn H' σ' Γ' ∧ RS X.K H' S' ∧ TK H1 H' ∧ forW (bodyW t mb D'.rt E') ok D'.nx (ds.drop (i + 1)) Γ' S', fun σ' H' ⟨Γ', S', a, b, c, d⟩ => ⟨ds.length - (i + 1), by omega, Γ', S', rfl, hlt, a, b, c, d⟩, fun x H3 y => ?_⟩
      obtain ⟨k3, rx, rk⟩ := yl x H3 y
      refine ⟨_, S2, ups, rx, rk S2 r2, e, fun ws uw => ?_⟩
      have gg := rg_setU uw (g2.keep k3)
      exact ⟨_, S2, _, E', gg, rk S2 r2, hc, fun Γ4 S4 σ4 H4 h4 k4 g4 r4 => ⟨Γ4, S4, g4, r4, (k2.trans k3).trans k4, h4⟩, fun d S4 v H4 h4 k4 rv r4 => h2 _ _ _ _ h4 (((k1.trans k2).trans k3).trans k4) rv r4, hx.keep ((k1.trans k2).trans k3)⟩
    · cases hc
  · have e : i = ds.length := by omega
    subst e
    rw [List.drop_length] at hc
    unfold forW at hc
    exact .inl ⟨pl.stop _ H2 S2 k2 r2 hc.1 (Nat.le_refl _), h1 _ _ _ _ hc.2 (k1.trans k2) g2 r2⟩
def whileS (mc : WT) (mb : WS) : WS := fun Γ S D E => ∃ I : Nat → Gam → Sto → Prop, (∃ m, I m Γ S) ∧ ∀ m Γ S, I m Γ S → mc Γ S (fun b S1 => if b = true then mb Γ S1 ⟨fun Γ' S' => ∃ m', m' < m ∧ I m' Γ' S', D.rt⟩ E else D.nx Γ S1) (fun x S' => E x Γ S')
theorem ps_whileD {c : Expr} {body : List Stmt} {pos : Pos} {mc : WT} {mb : WS} (hp : PassesOwn (model X.prog X.w) X.A X.env X.xe) (hc : PT X c (tT X W mc)) (hb : PSs X body (tS X W mb)) : PS X (.While c body [] pos) (tS X W (whileS mc mb)) := by
  refine ps_imp (ps_while hp hc hb) fun D σ H ⟨Γ, S, D', E', g, rs, ⟨I, ⟨m0, i0⟩, hI⟩, h1, h2, hx⟩ => ?_
  refine ⟨fun m σ' H' => ∃ Γ' S', I m Γ' S' ∧ RG X.K W.pn H' σ' Γ' ∧ RS X.K H' S' ∧ TK H H', ⟨m0, Γ, S, i0, g, rs, TK.refl⟩, ?_⟩
  rintro m σ2 H2 ⟨Γ2, S2, i2, g2, r2, k2⟩
  refine ⟨Γ2, S2, _, _, g2, r2, hI m Γ2 S2 i2, fun b S3 H3 h3 k3 r3 => ?_, (hx.keep k2).at g2⟩
  cases b with
  | true =>
    rw [if_pos rfl] at h3 ⊢
    refine ⟨fun σ' H' => ∃ m', m' < m ∧ ∃ Γ' S', I m' Γ' S' ∧ RG X.K W.pn H' σ' Γ' ∧ RS X.K H' S' ∧ TK H H', fun σ' H' z => z, Γ2, S3, _, E', g2.keep k3, r3, h3, fun Γ4 S4 σ4 H4 h4 k4 g4 r4 => ?_, fun d S4 v H4 h4 k4 rv r4 => h2 _ _ _ _ h4 ((k2.trans k3).trans k4) rv r4, hx.keep (k2.trans k3)⟩
    obtain ⟨m', hl, i4⟩ := h4
    exact ⟨m', hl, Γ4, S4, i4, g4, r4, (k2.trans k3).trans k4⟩
  | false =>
    rw [if_neg Bool.false_ne_true] at h3 ⊢
    exact h1 _ _ _ _ h3 (k2.trans k3) (g2.keep k3) r3
end Vm
/-! VmG: raise, try, what is done with a caught exception, over plain data. -/
namespace Vm
open PySem PySem.Spec PyProof.Rows L2
variable {X : Cx} {W : WP}

/-- an exception class of the program without an __init__ of its own -/
def excFacts (K : PySem.W.Frag) (C : Addr) : Prop :=
  PySem.W.keepIn K (.ref C) = true ∧ PySem.W.excIn K C He.veBase "ValueError.__new__" = true ∧ PySem.W.subIn K (.ref C) (.type "BaseException") = some true ∧ PySem.W.typeIn K (.ref C) = some (.type "type")
structure ExcOk (X : Cx) (x : Str) : Prop where
  ex : ∃ C, X.mg x = some (.ref C) ∧ PySem.W.nsIn X.K mainGlobals x = some (some (.ref C)) ∧ excFacts X.K C
def raiseS (c : Str) : WS := fun Γ S D E => E ⟨c, []⟩ Γ S
theorem ps_raiseD {x m : Str} {j : Nat} {p p2 pos pos2 : Pos} (hc : X.calm = true) (tk : L2N.Takes X W.w) (ok : ExcOk X x) (hg : Gl X x) (hdb : (x == ("__debug__" : Str)) = false) :
    PS X (.Raise (some (.Call (.Name x p) [.Constant (.str m) j p2] [] pos)) none pos2) (tS X W (raiseS x)) := by
  obtain ⟨C, gC, nC, kC, eC, sC, tC⟩ := ok.ex
  refine ps_imp (L2N.ps_raise hc tk (L2N.pmk_own PySem.F.excBase_ValueError eC gC kC (raises_own sC tC) hg hdb)) fun D σ H h => ?_
  obtain ⟨Γ, S, D', E', g, rs, hm, h1, h2, hx⟩ := h
  exact hx ⟨x, []⟩ Γ S (.ref C) none σ H hm TK.refl ⟨⟨C, rfl, nC⟩, .inl ⟨rfl, rfl⟩⟩ g rs

/-! ### try -/
/-- which classes a clause takes: by names, as far as it is told -/
abbrev Subs := List ((Str × Str) × Bool)
def SubsOk (K : PySem.W.Frag) (sb : Subs) : Prop := ∀ x y b, sb.lookup (x, y) = some b → ∀ C C', PySem.W.nsIn K mainGlobals x = some (some (.ref C)) → PySem.W.nsIn K mainGlobals y = some (some (.ref C')) → PySem.W.exmOne K (.ref C) (.ref C') = some b
def trySub (sb : Subs) (c : Str) (x : Ex) (yes no : Prop) : Prop := match sb.lookup (x.cls, c) with
  | some true => yes
  | some false => no
  | none => False
def tryAs (sb : Subs) (c : Str) (i : Nat) (mb ms : WS) : WS := fun Γ S D E => mb Γ S D (fun x Γ' S' => trySub sb c x
  (ms ((clean Γ').set i (some (.exn x.cls x.fs))) S' ⟨fun Γ2 S2 => D.nx (clean (Γ2.set i none)) S2, D.rt⟩ (fun _ _ _ => False)) (E x Γ' S'))
/-- the suite, whatever object the exception is -/
def tSu (X : Cx) (m : WS) (a : Addr) (cls : Value) (d : Option Addr) : TS := fun D σ H => ∀ oe, L2N.Zn cls d oe → (∃ vs, oe.data = .fields vs) → tS X ⟨W0.w, [(a, oe)]⟩ m D σ H
theorem ps_tryAsD {x n : Str} {c : Addr} {i : Nat} {body suite : List Stmt} {b₀ : Stmt} {np pos pos' : Pos} {sb : Subs} {mb ms : WS} (hs : X.stack = X.env :: X.outer) (hf : X.env.frame = some X.env.locals) (hN : X.N.Nodup) (hi : X.N[i]? = some n) (hln : X.env.kindOf n = some .local)
    (hc : Names X x (.ref c)) (nc : PySem.W.nsIn X.K mainGlobals x = some (some (.ref c))) (sok : SubsOk X.K sb) (tk : L2N.Takes X W.w)
    (hb : ∀ (W' : WX) (pn : List (Addr × Obj)) (xe : Value → Shared → Prop), L2N.Takes (X.tr pn xe) W' → PassesOwn (model X.prog X.w) X.A X.env xe → PSs (X.tr pn xe) body (tS X ⟨W', W.pn⟩ mb))
    (hsu : ∀ (a : Addr) (oe : Obj) (cls : Value) (d : Option Addr) (pn : List (Addr × Obj)), L2N.Zn cls d oe → (∃ vs, oe.data = .fields vs) → PSs (X.suite a ((a, oe) :: pn)) (b₀ :: suite) (tS X ⟨W0.w, [(a, oe)]⟩ ms)) :
    PS X (.Try body [.ExceptHandler (some (.Name x np)) (some n) (b₀ :: suite) pos'] [] [] pos) (tS X W (tryAs sb x i mb ms)) := by
  have base := L2N.ps_try_as (X := X) (Wout := W.w) (tb := fun W' => tS X ⟨W', W.pn⟩ mb) (ts := fun a cls d => tSu X ms a cls d) (pos := pos) (pos' := pos') (np := np) hs hf hN hi hln hc tk hb
    (fun a oe cls d pn hz hd => pss_imp (hsu a oe cls d pn hz hd) fun D σ H h => h oe hz hd)
  refine ps_imp base fun D σ H h => ?_
  obtain ⟨Γ, S, D', E', g, rs, hm, h1, h2, hx⟩ := h
  refine ⟨Γ, S, D', _, g, rs, hm, h1, h2, fun y Γ1 S1 cls dd σ1 H1 he k1 hrx g1 r1 => ?_⟩
  obtain ⟨⟨C, rfl, ncl⟩, hfs⟩ := id hrx
  have he : trySub sb x y (ms ((clean Γ1).set i (some (.exn y.cls y.fs))) S1 ⟨fun Γ2 S2 => D'.nx (clean (Γ2.set i none)) S2, D'.rt⟩ (fun _ _ _ => False)) (E' y Γ1 S1) := he
  unfold trySub at he
  split at he
  · rename_i e
    refine ⟨true, sok _ _ _ e _ _ ncl nc, fun _ a ha => fun oe hz hd => ?_, fun q => nomatch q⟩
    have gx : RG X.K [(a, oe)] H1 (σ1.set i (some (.ref a))) ((clean Γ1).set i (some (.exn y.cls y.fs))) := (g1.clean (pn' := [(a, oe)])).setL (.exn (by simp) (L2N.Zn.zc hz) hd hrx)
    refine ⟨_, S1, _, _, gx, r1, he, fun Γ3 S3 σ3 H3 h3 k3 g3 r3 => ?_, fun d S3 v H3 h3 k3 rv r3 => h2 _ _ _ _ h3 (k1.trans k3) rv r3, fun _ _ _ _ _ _ _ z => z.elim⟩
    exact h1 _ _ _ _ h3 (k1.trans k3) (g3.unset.clean) r3
  · rename_i e
    exact ⟨false, sok _ _ _ e _ _ ncl nc, fun q => (nomatch q), fun _ => hx y Γ1 S1 (.ref C) dd σ1 H1 he k1 hrx g1 r1⟩
  · cases he

/-! ### a caught exception: its class asked -/
def exnAt (Γ : Gam) (i : Nat) (k : Str → List (Str × D) → Prop) : Prop := match Γ[i]? with | some (some (.exn c fs)) => k c fs | _ => False
theorem exnAt_get {Γ : Gam} {i : Nat} {k : Str → List (Str × D) → Prop} (h : exnAt Γ i k) : ∃ c fs, Γ[i]? = some (some (.exn c fs)) ∧ k c fs := by
  unfold exnAt at h
  split at h
  · rename_i c fs e; exact ⟨c, fs, e, h⟩
  · cases h
/-- what isinstance wants of an exception's class -/
def isiFacts (K : PySem.W.Frag) (C : Addr) : Prop := (PySem.W.clsIn K C).isSome = true ∧ PySem.W.findIn K (.ref C) "__getattribute__" = some (some (.builtin "BaseException.__getattribute__")) ∧ (∃ gt, PySem.W.findIn K (.ref C) "__getattr__" = some gt) ∧
  PySem.W.subIn K (.ref C) (.type "BaseException") = some true ∧ PySem.W.findIn K (.ref C) "__class__" = some (some (.builtin "object.__class__")) ∧ PySem.W.specialIn K (.builtin "object.__class__") "__get__" = some (some (.builtin "getset_descriptor.__get__")) ∧
  PySem.W.takesIn K (.builtin "object.__class__") = some true ∧ PySem.W.mroIn K C (.type "object") = some true
theorem InstAt_exn {h : Heap} {a C : Addr} {oe : Obj} {dd : Option Addr} (he : h.get? a = some oe) (hz : Zc (.ref C) dd oe) (hd : ∃ vs, oe.data = .fields vs) (hdd : ∀ d, dd = some d → ∃ od, h.get? d = some od) : ∃ od, PySem.W.InstAt h a oe C od := by
  obtain ⟨vs, hd⟩ := hd
  have nc : PySem.W.notCls oe = true := by unfold PySem.W.notCls; rw [hd] <;> rfl
  obtain ⟨hz1, hz2⟩ := hz
  cases dd with
  | none => exact ⟨none, ⟨he, hz1, nc, by rw [hz2]; trivial⟩⟩
  | some d =>
    obtain ⟨od, ho⟩ := hdd d rfl
    exact ⟨some od, ⟨he, hz1, nc, by rw [hz2]; exact ho⟩⟩
/-- isinstance of the handled exception, by values -/
def rIsiX (X : Cx) : List V → Hp → VK → Prop := fun xs H Q => ∃ a oe C dd v u b, xs = [.ref a, v] ∧ (a, oe) ∈ X.pn ∧ Zc (.ref C) dd oe ∧ (∃ vs, oe.data = .fields vs) ∧ (∀ d, dd = some d → ∃ ws, H d = some (.xd ws)) ∧ isiFacts X.K C ∧ ClsV v u ∧ PySem.W.kitOne X.K (.ref C) u = some b ∧ Q (.bl b) H
theorem call_isiX : CallR X (.builtin "isinstance") (rIsiX X) := by
  intro pins s σ H xs us Q I r h
  obtain ⟨a, oe, C, dd, v, u, b, rfl, hp, hz, hd, hdd, ⟨f1, f2, ⟨gt, f3⟩, f4, f5, f6, f7, f8⟩, cv, kb, q⟩ := h
  obtain ⟨u1, u2, rfl, r1, r2⟩ := vals2 r
  have e2 := cv.eq r2
  subst e2
  cases (show u1 = Value.ref a from r1)
  have ho := (I.pin (a, oe) (List.mem_append_left _ hp)).1
  obtain ⟨od, J⟩ := InstAt_exn ho hz hd (fun d e => by
    obtain ⟨ws, hw⟩ := hdd d e
    obtain ⟨mA, ⟨o, _, _, ho, _⟩, _⟩ := I.hok d _ hw
    exact ⟨o, ho⟩)
  exact PySem.W.kia_one (PySem.W.kitx_exc f1 f2 f3 f4 f5 f6 f7 f8) I.kIn J kb (fun z => nomatch z) fun tk => ⟨.bl b, H, I.tok tk, rfl, q⟩
def isiE (tb : Subs) (i : Nat) (y : Str) : WE := fun Γ S Q _ => exnAt Γ i fun c _ => (match tb.lookup (c, y) with | some b => Q (.bl b) S | none => False)
theorem rx_dict {K : PySem.W.Frag} {H : Hp} {cls : Value} {dd : Option Addr} {c : Str} {fs : List (Str × D)} (h : RXc K H cls dd c fs) : ∀ d, dd = some d → ∃ ws, H d = some (.xd ws) := fun d e => by
  rcases h.2 with ⟨_, z⟩ | ⟨d', ws, e', hw, _⟩
  · rw [z] at e; cases e
  · rw [e'] at e; cases e; exact ⟨ws, hw⟩
/-- the class y, asked of exceptions of the told classes -/
structure IsiOk (X : Cx) (tb : Subs) (y : Str) : Prop where
  ex : ∃ v u, ClsV v u ∧ RelV v u ∧ (X.mg y = some u ∨ (X.mg y = none ∧ bootBuiltins y = some u ∧ y ≠ "__name__")) ∧ ∀ x b C, tb.lookup (x, y) = some b → PySem.W.nsIn X.K mainGlobals x = some (some (.ref C)) → isiFacts X.K C ∧ PySem.W.kitOne X.K (.ref C) u = some b
theorem pe_isiE {n y : Str} {i : Nat} {p pn pc pos : Pos} {tb : Subs} (hN : X.N[i]? = some n) (hv : Vis X.env.scope n) (hd : (n == ("__debug__" : Str)) = false) (hcd : (n == ("__classdict__" : Str)) = false) (hg : Gl X "isinstance") (hm : X.mg "isinstance" = none)
    (tok : IsiOk X tb y) (hgy : Gl X y) (hdy : (y == ("__debug__" : Str)) = false) (hpn : ∀ q ∈ W.pn, q ∈ X.pn) : PE X (.Call (.Name "isinstance" p) [.Name n pn, .Name y pc] [] pos) (tI X W (isiE tb i y)) := by
  obtain ⟨w, u, cw, rw', at_, hu⟩ := tok.ex
  have pw : PE X (.Name y pc) (tC w) := by
    rcases at_ with h | ⟨h, h2, h3⟩
    · exact pe_glob hgy h rw' hdy
    · exact pe_bltn hgy h h2 rw' h3 hdy
  have P := pe_callB (X := X) (p := p) (pos := pos) call_isiX hg hm (by decide +kernel) (pa_cons (pe_var (pos := pn) hN hv hd hcd) (pa_cons pw pa_nil))
  refine ⟨fun pins s σ H Q I h => ?_⟩
  obtain ⟨Γ, S, Q', E', g, rs, hm1, hq, hx⟩ := h
  obtain ⟨c, fs, e, hm2⟩ := exnAt_get hm1
  split at hm2
  · rename_i b eb
    obtain ⟨v, h1, h2⟩ := g.get i _ e
    cases h2 with
    | val r => cases r
    | @exn a oe cls dd _ _ hp hz hdd hr =>
      obtain ⟨⟨C, rfl, nC⟩, _⟩ := id hr
      obtain ⟨fC, kb⟩ := hu c b C eb nC
      refine P.run pins s σ H Q I ?_
      refine ⟨.ref a, h1, a, oe, C, dd, w, u, b, rfl, hpn _ hp, hz, hdd, rx_dict hr, fC, cw, kb, ?_⟩
      exact hq _ _ _ _ hm2 TK.refl .bl rs
  · cases hm2

/-! ### a def that is called while an exception is handled: it may be handed the exception -/
abbrev RLs (K : PySem.W.Frag) (pn : Pn) (H : Hp) : List V → List D → Prop := Paired (RL K pn H)
structure FnX (P : Program) (w : World) (K : PySem.W.Frag) (mg : Str → Option Value) (base : Heap) (k : Nat) (f : Addr) (fd : FuncData) (ps : List Str) (sp : (Addr × Obj) → Sp) : Prop where
  len : ∀ p vs H Q E, sp p vs H Q E → vs.length = ps.length
  run : ∀ (p : Addr × Obj) (A : Around) (outer : List Env) (s : Shared) (H : Hp) (args : Args) (us : List Value) (vs : List V) (Q : VK) (E : XK), L2H.RoomH k A → L2H.Hot1 A p → L2H.PinOk outer H s p →
    Env0 P w K mg base A outer s H → BindsTo s fd args (ps.zip us) → Vals vs us → sp p vs H Q E → codeAny (model P w) A (.call (.ref f) args) (CR (L2N.CX P w) outer P w H s Q E) s
theorem fnX_of {P : Program} {w : World} {K : PySem.W.Frag} {mg : Str → Option Value} {base : Heap} {k : Nat} {f : Addr} {name qual : Str} {params : Arguments} {body : List Stmt} {scope : Scope} {dV kV doc pm cdv ct oc : Value} {an od : Option Addr} {osl : Array (Option Value)} {N ps : List Str} {sp : (Addr × Obj) → Sp}
    (lk : K.lookup f = some ⟨oc, od, .func (PySem.W.fnOf name qual params body scope dV kV doc pm an cdv ct), osl⟩) (hcd : PySem.W.codeIn K cdv qual = true) (S : FnScope N ps scope) (len : ∀ p vs H Q E, sp p vs H Q E → vs.length = ps.length)
    (hbody : ∀ (p : Addr × Obj) (A : Around) (outer : List Env) (s : Shared) (H : Hp) (vs : List V) (Q : VK) (E : XK), L2H.Hot1 A p → L2H.RoomH k (A.deeper (envOfC qual scope s.heap.objs.size f cdv)) → sp p vs H Q E →
      ∃ t, PSs (L2H.cxH (L2N.CX P w) P w K mg base N qual scope f cdv A outer s H E p) body t ∧ t { nx := fun _ H' => Q .non H', rt := Q } (L2.start N vs) H) :
    FnX P w K mg base (k + 1) f (PySem.W.fnOf name qual params body scope dV kV doc pm an cdv ct) ps sp := by
  refine ⟨len, ?_⟩
  intro p A outer s H args us vs Q E room hot pin env bnd rel want
  have kept : ∀ b o, base.get? b = some o → s.heap.get? b = some o := fun b o e => (env.bs b o e).1
  have inK : K.In s.heap := env.mod.kin.keeps kept
  have kinds : ∀ y ∈ ps.zip us, scope.names.lookup y.1 = some .local ∨ (scope.names.lookup y.1 = some .cell ∧ ((cellsFrom (s.heap.objs.size + 1) scope.names []).lookup y.1).isSome = true) := by
    rintro ⟨n, v⟩ hy
    cases S.par n (List.of_mem_zip hy).1 with
    | inl q => exact Or.inl q
    | inr q => exact Or.inr ⟨q, PySem.W.cellsFrom_some _ _ _ (Or.inl q)⟩
  refine codeAny_call_function room.depth (inK _ _ lk) rfl S.co S.gen rfl (PySem.W.codeRec_of inK hcd) (bnd _ _ _ _ ?_)
  refine wpAny_newFunctionEnv_cells S.kind kinds ?_
  intro env1 eenv s1 made
  subst eenv
  refine ⟨(env.mod.nolimit.keeps kept).keeps made.toInCall.keep, codeAny_func ?_⟩
  obtain ⟨t, ht, hq⟩ := hbody p A outer s H vs Q E hot (room.deeper _) want
  have start := L2H.inv_startH (CX := L2N.CX P w) (E := E) S pin env (len _ _ _ _ _ want) rel made
  refine wpAny_mono (ht.run [] s1 (L2.start N vs) H _ start hq) (fun fl s2 got => ?_) (fun _ _ z => z)
  cases fl with
  | next =>
    obtain ⟨_, H2, J, q⟩ := got
    exact ⟨.non, H2, J.os, J.bare, J.base, J.hok, rfl, q⟩
  | ret u =>
    obtain ⟨v, _, H2, J, rv, q⟩ := got
    exact ⟨v, H2, J.os, J.bare, J.base, J.hok, rv, q⟩
  | brk => obtain ⟨_, _, _, q⟩ := got; cases q
  | cont => obtain ⟨_, _, _, q⟩ := got; cases q
def spX (K : PySem.W.Frag) (F : FS) (p : Addr × Obj) : Sp := fun vs H Q E => ∃ ds S Q' E', RLs K [p] H vs ds ∧ RS K H S ∧ F ds S Q' E' ∧ (∀ d S' v H', Q' d S' → TK H H' → RV K H' v d → RS K H' S' → Q v H') ∧
  (∀ x S' cls dd H', E' x S' → TK H H' → RX K H' cls dd x → RS K H' S' → E cls dd H')
structure DefX (X : Cx) (x : Str) (F : FS) : Prop where
  ex : ∃ f fd k ps, X.mg x = some (.ref f) ∧ PySem.W.keepIn X.K (.ref f) = true ∧ FnX X.prog X.w X.K X.mg X.base k f fd ps (spX X.K F) ∧ Binds X.K fd ps [] ∧ L2H.RoomH k X.A
def callX (F : FS) (i : Nat) : WE := fun Γ S Q E => exnAt Γ i fun c fs => F [.exn c fs] S Q E
/-- the handled exception, as the context bears it -/
def HotAtW (X : Cx) (pn : Pn) : Prop := ∃ p, pn = [p] ∧ L2H.Hot1 X.A p ∧ p ∈ X.pn
theorem pe_callX {x n : Str} {i : Nat} {p pn pos : Pos} {F : FS} (tk : L2N.Takes X W.w) (df : DefX X x F) (hot : HotAtW X W.pn) (hN : X.N[i]? = some n) (hv : Vis X.env.scope n) (hd : (n == ("__debug__" : Str)) = false) (hcd : (n == ("__classdict__" : Str)) = false)
    (hg : Gl X x) (hdb : (x == ("__debug__" : Str)) = false) : PE X (.Call (.Name x p) [.Name n pn] [] pos) (tI X W (callX F i)) := by
  obtain ⟨fa, fd, k, ps, hm, hk, ok, hb, hr⟩ := df.ex
  obtain ⟨q, eq, h1, h2⟩ := hot
  have pa : PA X [.Name n pn] (tCons (tVar i) tNil) := pa_cons (pe_var hN hv hd hcd) pa_nil
  refine ⟨fun pins s σ H Q I h => ?_⟩
  obtain ⟨Γ, S, Q', E', g, rs, hm1, hq, hx⟩ := h
  obtain ⟨c, fs, e, hm2⟩ := exnAt_get hm1
  obtain ⟨v, hv1, hv2⟩ := g.get i _ e
  refine wpAny_Call_Name_kw (ld_glob I hg hm ?_ hdb)
  refine PySem.W.callWith_K (h₀ := X.base) I.ok.mod.kin hk (thn (pa.run pos pins s σ H (fun vs H1 => vs = [v] ∧ H1 = H) I ⟨v, hv1, rfl, rfl⟩) fun us s1 ⟨vs, H1, I1, r, ev, eH⟩ => ⟨I1.kIn, ?_⟩)
  subst ev eH
  have want : spX X.K F q [v] H1 Q (fun cls d H' => W.w cls d σ H') := ⟨[.exn c fs], S, Q', E', by rw [← eq]; exact .cons hv2 .nil, rs, hm2, hq, hx⟩
  have len : us.length = ps.length := r.length.symm.trans (ok.len _ _ _ _ _ want)
  have bnd := hb s1 us I1.kIn (by rw [List.append_nil]; exact len)
  rw [List.append_nil] at bnd
  obtain ⟨p1, p2, p3, p4, p5⟩ := I1.pin q (List.mem_append_left _ h2)
  have pin : L2H.PinOk X.stack H1 s1 q := ⟨p1, p2, fun hm => (List.mem_cons.mp (I1.stkSub q.1 hm)).elim p3 p4, p5⟩
  refine wpAny_call (codeAny_mono (ok.run q X.A X.stack s1 H1 ⟨us, []⟩ us [v] Q _ hr h1 pin I1.env0 bnd r want) fun r s2 got => ?_)
  cases r with
  | error e => exact L2N.passAt tk σ pins H1 s1 e s2 I1 got
  | ok fl =>
    cases fl with
    | ret u => exact I1.after got
    | next => cases got
    | brk => cases got
    | cont => cases got
end Vm
/-! VmX: more rules over plain data: chains of three, sorted, zip, enumerate. -/
namespace Vm
open PySem PySem.Spec PyProof.Rows L2
variable {X : Cx} {W : WP}
/-! ### a op b op c op d -/
def tChain3 (r r' r2 : R2) (ta tb tc td : TE) : TE := fun σ H Q => ta σ H fun x H1 => tb σ H1 fun y H2 => r x y H2 fun z H3 => ∃ k, z = .bl k ∧
  (if k = true then tc σ H3 fun u H4 => r' y u H4 fun z2 H5 => ∃ k2, z2 = .bl k2 ∧ (if k2 = true then td σ H5 fun t H6 => r2 u t H6 Q else Q (.bl false) H5) else Q (.bl false) H3)
theorem pe_chain3 {a b c d : Expr} {pos : Pos} {op op' op2 : CmpOp} {r r' r2 : R2} {ta tb tc td : TE} (ho : OpR X (compareOp op) r) (ho' : OpR X (compareOp op') r') (ho2 : OpR X (compareOp op2) r2) (ha : PE X a ta) (hb : PE X b tb) (hc : PE X c tc) (hd : PE X d td)
    (hm : lastMarks [op, op', op2] [b, c, d] = false) : PE X (.Compare a [op, op', op2] [b, c, d] pos) (tChain3 r r' r2 ta tb tc td) := by
  refine ⟨fun pins s σ H Q I h => ?_⟩
  refine Compare_chain (thn (ha.run pins s σ H _ I h) fun v s1 ⟨x, H1, I1, r1, q1⟩ => chain_link (thn (hb.run pins s1 σ H1 _ I1 q1) fun u s2 ⟨y, H2, I2, r2', q2⟩ =>
    thn (ho pins s2 σ H2 x y v u _ I2 r1 r2' q2) fun d3 s3 ⟨z, H3, I3, r3, k, e, q3⟩ => ?_)) hm
  subst e
  cases r3
  refine wpAny_truthy_bool ?_
  cases k with
  | false => exact ite_ff ⟨.bl false, H3, I3, rfl, q3⟩
  | true =>
    refine ite_tt (chain_link (thn (hc.run pins s3 σ H3 _ I3 q3) fun w' s4 ⟨z', H4, I4, r4, q4⟩ => thn (ho' pins s4 σ H4 y z' u w' _ I4 r2' r4 q4) fun d5 s5 ⟨z5, H5, I5, r5, k5, e5, q5⟩ => ?_))
    subst e5
    cases r5
    refine wpAny_truthy_bool ?_
    cases k5 with
    | false => exact ite_ff ⟨.bl false, H5, I5, rfl, q5⟩
    | true => exact ite_tt (chain_last (thn (hd.run pins s5 σ H5 _ I5 q5) fun t6 s6 ⟨z6, H6, I6, r6, q6⟩ => ho2 pins s6 σ H6 z' z6 w' t6 Q I6 r4 r6 q6))
def chain3W (m1 m2 m3 m4 : WE) (k k' k2 : D → D → Sto → KE → Prop) : WE := fun Γ S Q E => m1 Γ S (fun x S1 => m2 Γ S1 (fun y S2 => k x y S2 (asB fun b S3 => if b = true then
  m3 Γ S3 (fun z S4 => k' y z S4 (asB fun c S5 => if c = true then m4 Γ S5 (fun u S6 => k2 z u S6 Q) E else Q (.bl false) S5)) E else Q (.bl false) S3)) E) E
theorem pe_chain3D {a b c d : Expr} {op op' op2 : CmpOp} {pos : Pos} {m1 m2 m3 m4 : WE} {k k' k2 : D → D → Sto → KE → Prop} {r r' r2 : R2} (ho : OpR X (compareOp op) r) (ho' : OpR X (compareOp op') r') (ho2 : OpR X (compareOp op2) r2)
    (hk : Op2 X k r) (hk' : Op2 X k' r') (hk2 : Op2 X k2 r2) (h1 : PE X a (tI X W m1)) (h2 : PE X b (tI X W m2)) (h3 : PE X c (tI X W m3)) (h4 : PE X d (tI X W m4)) (hm : behindInMarks op2 d = false) :
    PE X (.Compare a [op, op', op2] [b, c, d] pos) (tI X W (chain3W m1 m2 m3 m4 k k' k2)) := by
  refine pe_imp (pe_chain3 ho ho' ho2 h1 h2 h3 h4 hm) fun σ H Q ⟨Γ, S, Q', E', g, rs, hm, hq, hx⟩ => ?_
  refine ⟨Γ, S, _, E', g, rs, hm, fun x S1 v H1 h1 k1 rx r1 => ?_, hx⟩
  refine ⟨Γ, S1, _, E', g.keep k1, r1, h1, fun y S2 u H2 h2 k2' ry rr2 => ?_, hx.keep k1⟩
  have K2 := k1.trans k2'
  refine hk rr2 (rx.keep k2') ry h2 fun d S3 z H3 h3 k3 rz r3 => ?_
  obtain ⟨b, rfl, hz⟩ := asB_get h3
  clear h3
  cases rv_bl rz
  refine ⟨b, rfl, ?_⟩
  have K3 := K2.trans k3
  cases b with
  | false =>
    rw [if_neg Bool.false_ne_true] at hz ⊢
    exact hq _ _ _ _ hz K3 .bl r3
  | true =>
    rw [if_pos rfl] at hz ⊢
    refine ⟨Γ, S3, _, E', g.keep K3, r3, hz, fun w S4 wv H4 h4 k4 rw' r4 => ?_, hx.keep K3⟩
    have K4 := K3.trans k4
    refine hk' r4 (ry.keep (k3.trans k4)) rw' h4 fun d5 S5 z5 H5 h5 k5 rz5 r5 => ?_
    obtain ⟨b5, rfl, hz5⟩ := asB_get h5
    clear h5
    cases rv_bl rz5
    refine ⟨b5, rfl, ?_⟩
    have K5 := K4.trans k5
    cases b5 with
    | false =>
      rw [if_neg Bool.false_ne_true] at hz5 ⊢
      exact hq _ _ _ _ hz5 K5 .bl r5
    | true =>
      rw [if_pos rfl] at hz5 ⊢
      refine ⟨Γ, S5, _, E', g.keep K5, r5, hz5, fun t S6 tv H6 h6 k6 rt r6 => ?_, hx.keep K5⟩
      exact hk2 r6 (rw'.keep (k5.trans k6)) rt h6 fun d7 S7 v7 H7 h7 k7 rv7 rs7 => hq _ _ _ _ h7 ((K5.trans k6).trans k7) rv7 rs7
/-! ### sorted -/
def asSt : D → Option Str | .str b => some b | _ => none
def isPr : D → Bool | .tup [.int _, .int _] => true | _ => false
theorem sts_of {K : PySem.W.Frag} {H : Hp} : ∀ {ds : List D} {bs : List Str} {vs : List V}, allM asSt ds = some bs → RVs K H vs ds → vs = bs.map V.str
  | [], bs, vs, h, r => by cases r; cases h; rfl
  | d :: ds, bs, vs, h, r => by
    cases r with
    | cons r t =>
      unfold allM at h
      split at h
      · rename_i b bs' h1 h2
        cases h
        cases d <;> cases h1
        cases r
        rw [sts_of h2 t] <;> rfl
      · cases h
theorem rvs_strs {K : PySem.W.Frag} {H : Hp} : ∀ ns : List Str, RVs K H (ns.map V.str) (ns.map D.str)
  | [] => .nil
  | n :: ns => .cons .str (rvs_strs ns)
theorem rvs_intsV {K : PySem.W.Frag} {H : Hp} : ∀ ns : List Int, RVs K H (ns.map V.int) (ns.map D.int)
  | [] => .nil
  | n :: ns => .cons .int (rvs_intsV ns)
theorem rvs_perm {K : PySem.W.Frag} {H : Hp} {ys vs : List V} (p : ys.Perm vs) : ∀ {ds : List D}, RVs K H vs ds → ∃ es : List D, es.Perm ds ∧ RVs K H ys es := by
  induction p with
  | nil => intro ds r; cases r; exact ⟨[], .refl _, .nil⟩
  | cons x _ ih =>
    intro ds r
    cases r with
    | cons r t =>
      obtain ⟨es, h1, h2⟩ := ih t
      exact ⟨_ :: es, h1.cons _, .cons r h2⟩
  | swap x y l =>
    intro ds r
    cases r with
    | cons r t =>
      cases t with
      | cons r2 t => exact ⟨_, .swap _ _ _, .cons r2 (.cons r t)⟩
  | trans _ _ ih1 ih2 =>
    intro ds r
    obtain ⟨es, h1, h2⟩ := ih2 r
    obtain ⟨es2, h3, h4⟩ := ih1 h2
    exact ⟨es2, h3.trans h1, h4⟩
def rSortedQ (K : PySem.W.Frag) : List V → Hp → VK → Prop := fun vs H Q => ∃ a xs, vs = [V.ref a] ∧ SqL K H a xs ∧ (∀ x ∈ xs, ∃ t i j, x = V.ref t ∧ SqT K H t [.int i, .int j]) ∧
  ∀ ys p, ys.Perm xs → H p = none → Q (.ref p) (upd H p (.lst ys))
theorem cr_sortedQ : CallR X (.builtin "sorted") (rSortedQ X.K) := by
  intro pins s σ H vs us Q I r h
  obtain ⟨a, xs, rfl, hs, hx, q⟩ := h
  obtain ⟨its, rv, hl, hz⟩ := I.list hs
  obtain ⟨u, rfl, ru⟩ := vals1 r
  obtain rfl : u = Value.ref a := ru
  obtain ⟨e1, e2⟩ := refs_back rv fun x m => (hx x m).imp fun t ⟨_, _, e, _⟩ => e
  refine Srt.sorted_pairs hl.isList (by rw [← rv.length]; exact hz) (fun v hv => ?_) fun h' d out hp k hd hn => ?_
  · obtain ⟨t, rfl⟩ := e2 v hv
    have hm : V.ref t ∈ xs := by rw [e1]; exact List.mem_map.mpr ⟨_, hv, rfl⟩
    obtain ⟨t', i, j, e, ht⟩ := hx _ hm
    cases e
    obtain ⟨its2, r2, ⟨o, ho, hc, n, hd⟩, _⟩ := I.tuple ht
    obtain ⟨u1, u2, rfl, ri, rj⟩ := vals2 r2
    obtain ⟨⟨t1, rfl⟩, ⟨t2, rfl⟩⟩ := And.intro ri rj
    exact ⟨i, j, t, o, t1, t2, n, rfl, ho, hc, hd⟩
  · have h3 : ∀ u ∈ out, ∃ a, u = Value.ref a := fun u hu => e2 u (hp.mem_iff.mp hu)
    obtain ⟨n, hn⟩ := hn
    have hpp : (out.map backV).Perm xs := e1 ▸ hp.map backV
    refine ⟨.ref d, upd H d (.lst (out.map backV)), I.laid (t' := s.toks) k hd ⟨hpp.length_eq ▸ hz, out, n, vals_back h3, hn⟩, rfl, q _ d hpp (I.hok.fresh hd)⟩
def sortedW (ds : List D) (S : Sto) (Q : KE) : Prop := match ds with
  | [.ref a] => onR S a fun xs => (match allM asIn xs with
    | some ns => ns.length < 64 ∧ ∀ (ms : List Int) p, ms.Perm ns → ms.Pairwise (· ≤ ·) → S p = none → Q (.ref p) (put S p (.lst (ms.map D.int)))
    | none => (match allM asSt xs with
      | some ns => ns.length < 64 ∧ ∀ (ms : List Str) p, ms.Perm ns → sortedS ms = true → S p = none → Q (.ref p) (put S p (.lst (ms.map D.str)))
      | none => xs.all isPr = true ∧ ∀ (es : List D) p, es.Perm xs → S p = none → Q (.ref p) (put S p (.lst es))))
  | _ => False
theorem prs_of {K : PySem.W.Frag} {H : Hp} : ∀ {ds : List D} {vs : List V}, ds.all isPr = true → RVs K H vs ds → ∀ x ∈ vs, ∃ t i j, x = V.ref t ∧ SqT K H t [.int i, .int j]
  | [], _, _, .nil, x, hx => by cases hx
  | d :: ds, _, h, .cons r t, x, hx => by
    rw [List.all_cons, Bool.and_eq_true] at h
    obtain ⟨g1, g2⟩ := h
    rcases List.mem_cons.mp hx with z | z
    · subst z
      unfold isPr at g1
      split at g1
      · obtain ⟨a, vs, rfl, ha, ra⟩ := rv_tup r
        obtain ⟨v1, v2, rfl, q1, q2⟩ := rvs2 ra
        cases rv_int q1
        cases rv_int q2
        exact ⟨a, _, _, rfl, ha⟩
      · cases g1
    · exact prs_of g2 t x z
theorem cd_sorted : CallD X sortedW (fun xs H Q => rSorted X.K xs H Q ∨ (rSortedS X.K xs H Q ∨ rSortedQ X.K xs H Q)) := by
  intro ds S Q' H vs Q rs rvs h fin
  unfold sortedW at h
  split at h
  · obtain ⟨v, rfl, rv⟩ := rvs1 rvs
    cases rv_ref rv
    obtain ⟨xs, hx, h⟩ := onR_get h
    obtain ⟨ws, ha, ra⟩ := rs.rd hx
    split at h
    · rename_i bs e
      have e2 := ins_of e ra
      subst e2
      exact .inl ⟨_, bs, rfl, ha, h.1, fun ms p h1 h2 h3 => fin _ _ _ _ (h.2 ms p h1 h2 (rs.free h3)) (TK.new h3) .ref (rs.put (TK.new h3) ⟨_, upd_same, rvs_intsV ms⟩)⟩
    · split at h
      · rename_i bs e
        have e2 := sts_of e ra
        subst e2
        exact .inr (.inl ⟨_, bs, rfl, ha, h.1, fun ms p h1 h2 h3 => fin _ _ _ _ (h.2 ms p h1 h2 (rs.free h3)) (TK.new h3) .ref (rs.put (TK.new h3) ⟨_, upd_same, rvs_strs ms⟩)⟩)
      · refine .inr (.inr ⟨_, ws, rfl, ha, prs_of h.1 ra, fun ys p h1 h3 => ?_⟩)
        obtain ⟨es, g1, g2⟩ := rvs_perm h1 ra
        exact fin _ _ _ _ (h.2 es p g1 (rs.free h3)) (TK.new h3) .ref (rs.put (TK.new h3) ⟨_, upd_same, RVs.keep (TK.new h3) g2⟩)
  · cases h
/-! ### zip -/
def zipD : List D → List D → List D
  | x :: xs, y :: ys => .tup [x, y] :: zipD xs ys
  | _, _ => []
theorem zipD_at : ∀ {xs ys : List D} {i : Nat} {d : D}, (zipD xs ys)[i]? = some d → ∃ x y, xs[i]? = some x ∧ ys[i]? = some y ∧ d = .tup [x, y]
  | x :: xs, y :: ys, 0, d, e => by
    unfold zipD at e
    simp at e
    exact ⟨x, y, rfl, rfl, e.symm⟩
  | x :: xs, y :: ys, i + 1, d, e => by
    unfold zipD at e
    obtain ⟨a, b, h1, h2, h3⟩ := zipD_at (i := i) (by simpa using e)
    exact ⟨a, b, by simpa using h1, by simpa using h2, h3⟩
  | [], _, i, d, e => by unfold zipD at e; simp at e
  | x :: xs, [], i, d, e => by unfold zipD at e; simp at e
theorem zipD_len : ∀ {xs ys : List D}, (zipD xs ys).length = min xs.length ys.length
  | x :: xs, y :: ys => by unfold zipD; simp [zipD_len (xs := xs) (ys := ys)]
  | [], _ => by unfold zipD; simp
  | x :: xs, [] => by unfold zipD; simp
def zipW (ms : List WE) : WI := fun Γ S Q E => argsW ms Γ S (fun ds S1 => match ds with
  | [.tup xs, .tup ys] => Q (zipD xs ys) (fun _ => True) S1
  | [.ref a, .ref b] => onR S1 a fun xs => onR S1 b fun ys => Q (zipD xs ys) (fun S => (S a = some (.lst xs) ∨ S a = some (.scr xs)) ∧ (S b = some (.lst ys) ∨ S b = some (.scr ys))) S1
  | _ => False) E
theorem pair_new {K : PySem.W.Frag} {H : Hp} {T : Addr} {u v : V} {x y : D} (n : H T = none) (r1 : RV K H u x) (r2 : RV K H v y) : RV K (upd H T (.tup [u, v])) (.ref T) (.tup [x, y]) :=
  .tup (.inl (.inl upd_same)) (.cons (r1.keep (TK.new n)) (.cons (r2.keep (TK.new n)) .nil))
theorem plan_zipT {K : PySem.W.Frag} {a b : Addr} {vs us : List V} {xs ys : List D} {H0 : Hp} (h : SqT K H0 a vs) (h2 : SqT K H0 b us) (r : RVs K H0 vs xs) (r2 : RVs K H0 us ys) : PlanOk K (zipD xs ys) (fun _ => True) (RZ.ItzT K a b) H0 where
  go := fun i H S d k rs _ e => by
    obtain ⟨x, y, e1, e2, rfl⟩ := zipD_at e
    obtain ⟨v, hv, rv⟩ := r.at e1
    obtain ⟨u, hu, ru⟩ := r2.at e2
    refine ⟨⟨vs, us, v, u, k.sqt h, k.sqt h2, hv, hu⟩, fun z H' y => ?_⟩
    obtain ⟨T, p, q, rfl, n, rfl, q1, q2⟩ := y
    have z1 := q1 vs (k.sqt h)
    have z2 := q2 us (k.sqt h2)
    rw [hv] at z1
    rw [hu] at z2
    cases z1
    cases z2
    exact ⟨TK.new n, pair_new n (rv.keep k) (ru.keep k), fun S rs => rs.new n⟩
  stop := fun i H S k rs _ e => ⟨vs, us, k.sqt h, k.sqt h2, by
    rw [zipD_len] at e
    rw [r.len, r2.len]
    omega⟩
theorem plan_zipL {K : PySem.W.Frag} {a b : Addr} {xs ys : List D} {H0 : Hp} : PlanOk K (zipD xs ys) (fun S => (S a = some (.lst xs) ∨ S a = some (.scr xs)) ∧ (S b = some (.lst ys) ∨ S b = some (.scr ys))) (Itz K a b) H0 where
  go := fun i H S d k rs ok e => by
    obtain ⟨x, y, e1, e2, rfl⟩ := zipD_at e
    obtain ⟨vs, h, r⟩ := rs.rd ok.1
    obtain ⟨us, h2, r2⟩ := rs.rd ok.2
    obtain ⟨v, hv, rv⟩ := r.at e1
    obtain ⟨u, hu, ru⟩ := r2.at e2
    refine ⟨⟨vs, us, v, u, h, h2, hv, hu⟩, fun z H' y => ?_⟩
    obtain ⟨T, p, q, rfl, n, rfl, q1, q2⟩ := y
    have z1 := q1 vs h
    have z2 := q2 us h2
    rw [hv] at z1
    rw [hu] at z2
    cases z1
    cases z2
    exact ⟨TK.new n, pair_new n rv ru, fun S rs => rs.new n⟩
  stop := fun i H S k rs ok e => by
    obtain ⟨vs, h, r⟩ := rs.rd ok.1
    obtain ⟨us, h2, r2⟩ := rs.rd ok.2
    refine ⟨vs, us, h, h2, ?_⟩
    rw [zipD_len] at e
    rw [r.len, r2.len]
    omega
theorem pi_zipD {a b : Expr} {p pos tpos : Pos} {elts : List Expr} {kk : Nat} {f : Expr → WE} (hg : Gl X "zip") (hm : X.mg "zip" = none) (hs : [a, b].all notStar = true) (h : ∀ e ∈ [a, b], PE X e (tI X W (f e))) :
    PI X (.Tuple elts kk tpos) (.Call (.Name "zip" p) [a, b] [] pos) (tIt X W (zipW ([a, b].map f))) := by
  have s1 : notStar a = true := by simp at hs; exact hs.1
  have s2 : notStar b = true := by simp at hs; exact hs.2
  refine pi_imp (RZ.pi_zipA hg hm (pa_imp (pa_args hs h) fun σ H Q z => z) (by cases a <;> first | rfl | cases s1) (by cases b <;> first | rfl | cases s2)) fun σ H R ⟨Γ, S, Q', E', g, rs, hm, hq, hx⟩ => ?_
  refine ⟨Γ, S, _, E', g, rs, hm, fun ds S1 vs H1 hn h1 k1 rvs r1 => ?_, hx⟩
  match ds, hn with
  | [d1, d2], _ =>
    obtain ⟨v1, v2, rfl, q1, q2⟩ := rvs2 rvs
    split at h1
    · rename_i xs ys e
      cases e
      obtain ⟨a1, w1, rfl, ha1, ra1⟩ := rv_tup q1
      obtain ⟨a2, w2, rfl, ha2, ra2⟩ := rv_tup q2
      exact ⟨a1, a2, w1, w2, rfl, .inr ⟨ha1, ha2, hq _ _ _ _ _ h1 k1 r1 (plan_zipT ha1 ha2 ra1 ra2)⟩⟩
    · rename_i a1 a2 e
      cases e
      cases rv_ref q1
      cases rv_ref q2
      obtain ⟨xs, hx1, h1⟩ := onR_get h1
      obtain ⟨ys, hx2, h1⟩ := onR_get h1
      obtain ⟨w1, ha1, ra1⟩ := r1.rd hx1
      obtain ⟨w2, ha2, ra2⟩ := r1.rd hx2
      exact ⟨_, _, w1, w2, rfl, .inl ⟨ha1, ha2, hq _ _ _ _ _ h1 k1 r1 plan_zipL⟩⟩
    · cases h1
/-! ### sum of a tuple -/
theorem sum_tup {prog : Program} {w : World} {A : Around} {E : Value → Shared → Prop} {s : Shared} {l : Addr} {xs : Array (Int × Tok)} {Q : Value → Shared → Prop} (hh : A.handled = none) (hl : s.heap.IsTuple l (intItems xs))
    (h : ∀ h' tk t', (∀ b o, s.heap.get? b = some o → h'.get? b = some o) → Q (.int (preSum (numAt xs) xs.size) t') { s with heap := h', toks := tk }) :
    wpAny (model prog w) A (call (.builtin "sum") [.ref l]) Q E s := by
  have hlt : l < s.heap.objs.size := by
    obtain ⟨o, e, _⟩ := hl
    exact Heap.lt_size e
  refine call_sum_walkG (wpAny_pyIter_tuple hl ?_)
  refine ⟨_, [_, l], [_], _, _, _, numAt xs, rfl, Walks.tuple (A := A.in1) hh _ l (Nat.ne_of_lt hlt) (intItems xs), ⟨⟨_, Heap.get?_push_size _ rfl, rfl, rfl⟩, hl.push _⟩, fun c hc => ?_, fun _ _ => intItems_at, fun h' tk t' hk => ?_⟩
  · rcases List.mem_cons.mp hc with e | hc
    · rw [e]
      show s.heap.objs.size < (s.heap.push _).objs.size
      rw [Heap.size_push]
      exact Nat.lt_succ_self _
    · rw [List.mem_singleton.mp hc]
      show l < (s.heap.push _).objs.size
      rw [Heap.size_push]
      exact Nat.lt_succ_of_lt hlt
  · have old : ∀ b o, s.heap.get? b = some o → h'.get? b = some o := fun b o e => by
      refine hk b o (fun hm => ?_) (Heap.get?_push_of_some _ e)
      rw [List.mem_singleton.mp hm] at e
      exact Nat.lt_irrefl _ (Heap.lt_size e)
    have := h h' tk t' old
    simpa [intItems] using this
def rSumT (K : PySem.W.Frag) : List V → Hp → VK → Prop := fun vs H Q => ∃ (a : Addr) (ns : List Int), vs = [V.ref a] ∧ SqT K H a (ns.map V.int) ∧ Q (.int ns.sum) H
theorem cr_sumT {X : Cx} (hc : X.calm = true) : CallR X (.builtin "sum") (rSumT X.K) := by
  intro pins s σ H vs us Q I r h
  obtain ⟨a, ns, rfl, hs, q⟩ := h
  obtain ⟨its, rv, hl, _⟩ := I.tuple hs
  rw [Vals.ref1 r]
  obtain ⟨xs, e⟩ := rv.ints.allInts.items
  have hn : numsOf (intItems xs).toList = ns := by rw [← e]; exact rv.ints.numsOf
  rw [nums_intItems] at hn
  have hl2 : s.heap.IsTuple a (intItems xs) := e ▸ hl
  refine sum_tup (I.ok.hd hc) hl2 fun h' tk t' hk => ⟨.int _, H, I.kept hk, ⟨_, rfl⟩, ?_⟩
  rw [preSum_eq, List.take_of_length_le (by simp), hn]
  exact q
def sum2W (ds : List D) (S : Sto) (Q : KE) : Prop := match ds with
  | [.tup xs] => (match allM asIn xs with | some ns => Q (.int ns.sum) S | none => False)
  | ds => sumW ds S Q
theorem cd_sum2 : CallD X sum2W (fun xs H Q => rSum X.K xs H Q ∨ rSumT X.K xs H Q) := by
  intro ds S Q' H vs Q rs rvs h fin
  unfold sum2W at h
  split at h
  · obtain ⟨v, rfl, rv⟩ := rvs1 rvs
    obtain ⟨a, ws, rfl, ha, ra⟩ := rv_tup rv
    split at h
    · rename_i bs e
      have e2 := ins_of e ra
      subst e2
      exact .inr ⟨_, bs, rfl, ha, fin _ _ _ _ h TK.refl .int rs⟩
    · cases h
  · exact .inl (cd_sum rs rvs h fin)
end Vm
/-! VmH: the whole text of a def, read as a wish over plain data. -/
namespace Vm
open PySem PySem.Spec PyProof.Rows L2

inductive Bk where
  | abs | len | isi | all | any | sum | max | min | sorted
def Bk.name : Bk → Str
  | .abs => "abs" | .len => "len" | .isi => "isinstance" | .all => "all" | .any => "any" | .sum => "sum" | .max => "max" | .min => "min" | .sorted => "sorted"
def Bk.k : Bk → List D → Sto → KE → Prop
  | .abs => absW | .len => lenW | .isi => isiW | .all => allW | .any => anyW | .sum => sum2W | .max => maxW | .min => minW | .sorted => sortedW
def btK : Bt → Option (List D → Sto → KE → Prop)
  | .int => some intCW | .tuple => some tupleW | .list => some listW | _ => none
/-- what a name of the module stands for -/
inductive GV where
  | fn (F : FS) | fnx (F : FS) | con (d : D) | exc | bex | bi (b : Bk) | bt (t : Bt) | rng | zp
structure Stat where
  N : List Str
  sc : Scope
  sn : List (Str × NameKind)
  G : List (Str × GV)
  calm : Bool
  top : Bool
  sub : Subs
  isi : Subs
def ixOf (x : Str) : List Str → Option Nat
  | [] => none
  | y :: r => if y = x then some 0 else (ixOf x r).map (· + 1)
theorem ixOf_get {x : Str} : ∀ {N : List Str} {i : Nat}, ixOf x N = some i → N[i]? = some x
  | [], _, h => by cases h
  | y :: r, i, h => by
    unfold ixOf at h
    split at h
    · rename_i e; cases h; rw [e] <;> rfl
    · cases e : ixOf x r with
      | none => rw [e] at h; cases h
      | some j =>
        rw [e] at h
        cases h
        rw [List.getElem?_cons_succ]
        exact ixOf_get e
def odd (x : Str) : Bool := x == ("__debug__" : Str) || x == ("__classdict__" : Str)
def Stat.slot (g : Stat) (x : Str) : Option Nat := if odd x then none else match g.sc.names.lookup x with
  | some .local => ixOf x g.N
  | some .cell => ixOf x g.N
  | some .free => ixOf x g.N
  | _ => none
def Stat.glo (g : Stat) (x : Str) : Option GV := if odd x then none else match g.sc.names.lookup x with
  | some .globalImplicit => g.G.lookup x
  | _ => none
def Stat.sto (g : Stat) (x : Str) : Option Nat := match g.sn.lookup x with
  | some .local => ixOf x g.N
  | some .cell => ixOf x g.N
  | _ => none
def Stat.loc (g : Stat) (x : Str) : Option Nat := match g.sn.lookup x with
  | some .local => ixOf x g.N
  | _ => none
def ownOf (N : List Str) (scope : Scope) : List (Str × Nat) := scope.names.filterMap fun y => match y.2 with
  | .local => (ixOf y.1 N).map fun i => (y.1, i)
  | .cell => (ixOf y.1 N).map fun i => (y.1, i)
  | _ => none
def Stat.blk (g : Stat) (scope : Scope) : Stat := { g with sc := relS scope g.sc, sn := scope.names, top := false }

def nameW (g : Stat) (x : Str) : WE := match g.slot x with
  | some i => slotW i
  | none => (match g.glo x with
    | some (.con d) => valW d
    | some (.bt t) => valW (.ty t)
    | some .exc => valW (.cls x)
    | _ => stuck)
def binW : Operator → WE → WE → WE
  | .Add, a, b => two a b addW
  | .Sub, a, b => two a b subW
  | .Mult, a, b => two a b mulW
  | .FloorDiv, a, b => two a b fdivW
  | .Mod, a, b => two a b modW
  | .Pow, a, b => two a b powW
  | _, _, _ => stuck
def cmpK : CmpOp → D → D → Sto → KE → Prop
  | .Eq => eqW false | .NotEq => eqW true | .Lt => ltW | .LtE => leW | .Gt => gtW | .GtE => geW | .Is => isW false | .IsNot => isW true | .In => inW false | .NotIn => inW true
def plainE : Expr → Bool
  | .ListComp _ _ _ _ => false
  | .SetComp _ _ _ _ => false
  | .DictComp _ _ _ _ _ => false
  | .Starred _ _ => false
  | .Slice _ _ _ _ => false
  | _ => true
def tgOf (g : Stat) : Nat → Expr → Option Tg
  | 0, _ => none
  | n + 1, e => match e with
    | .Name x _ => (g.sto x).map .nm
    | .Tuple es _ _ => if es.all notStar then (allM (tgOf g n) es).map .tp else none
    | _ => none
def isNm : Expr → Bool
  | .Name _ _ => true
  | _ => false
/-- a list's methods -/
def lmOf (name : Str) : Option (D → List D → Sto → KE → Prop) :=
  if name = "append" then some appendW else if name = "count" then some countW else if name = "index" then some indexW else if name = "extend" then some extendW else none
def callE (g : Stat) (f : Expr → WE) (x : Str) (args : List Expr) : WE := match g.glo x with
  | some (.fn F) => if g.calm && args.all notStar && !args.isEmpty then callW F (args.map f) else stuck
  | some (.fnx F) => (match args with
    | [.Name n _] => if g.calm then stuck else (match g.slot n with | some i => callX F i | none => stuck)
    | _ => stuck)
  | some (.bi b) => if g.calm then (if args.all notStar && !args.isEmpty then bltW b.k (args.map f) else stuck) else (match b, args with
    | .isi, [.Name n _, .Name y _] => (match g.slot n, g.glo y with
      | some i, some .exc => isiE g.isi i y
      | some i, some .bex => isiE g.isi i y
      | _, _ => stuck)
    | _, _ => stuck)
  | some (.bt t) => (match btK t with
    | some k => if g.calm && args.all notStar && !args.isEmpty then bltW k (args.map f) else stuck
    | none => stuck)
  | _ => stuck
def condW (ft : Expr → WT) : List Expr → WT
  | [] => yesT
  | [c] => ft c
  | _ => stuckT
def stepE (g : Stat) (f : Stat → Expr → WE) (ft : Stat → Expr → WT) (fi : Stat → Expr → Expr → WI) (e : Expr) : WE := match e with
  | .Constant c _ _ => constW c
  | .Name x _ => nameW g x
  | .BinOp a op b _ => binW op (f g a) (f g b)
  | .UnaryOp .USub a _ => oneW (f g a) negW
  | .UnaryOp .Not a _ => oneW (f g a) notW
  | .BoolOp .And es _ => andV (es.map (f g))
  | .BoolOp .Or es _ => orV (es.map (f g))
  | .IfExp c a b _ => ifW (ft g c) (f g a) (f g b)
  | .Compare a [op] [b] _ => if notSet b then two (f g a) (f g b) (cmpK op) else stuck
  | .Compare a [o1, o2] [b, c] _ => if notSet c then chainW (f g a) (f g b) (f g c) (cmpK o1) (cmpK o2) else stuck
  | .Compare a [o1, o2, o3] [b, c, d] _ => if notSet d then chain3W (f g a) (f g b) (f g c) (f g d) (cmpK o1) (cmpK o2) (cmpK o3) else stuck
  | .Tuple es _ _ => if es.all notStar && decide (es.length ≤ 1000) then tupW (es.map (f g)) else stuck
  | .List es _ => if es.all notStar && decide (es.length ≤ 1000) then lstW (es.map (f g)) else stuck
  | .Subscript a (.Slice lo hi none _) _ => slW (f g a) (partW (lo.map (f g))) (partW (hi.map (f g)))
  | .Subscript a b _ => if notSlice b then two (f g a) (f g b) ixW else stuck
  | .ListComp elt [⟨tg, iter, ifs, 0⟩] scope _ => if g.calm && notSet iter && blkC g.N g.sc scope (ownOf g.N scope) then
      (match tgOf (g.blk scope) 8 tg with
        | some t => if t.slots.all fun i => decide (i ∈ (ownOf g.N scope).map (·.2)) then lcW (fi g tg iter) t ((ownOf g.N scope).map (·.2)) (condW (ft (g.blk scope)) ifs) (f (g.blk scope) elt) else stuck
        | none => stuck)
      else stuck
  | .Call (.Name x _) args [] _ => callE g (f g) x args
  | .Call (.Attribute o name apos) args [] cpos => (match lmOf name with
    | some k => if args.all notStar && !args.isEmpty && decide (args.length < 29) && apos.endLine == cpos.line && isNm o then lmW k (f g o) (args.map (f g)) else stuck
    | none => stuck)
  | _ => stuck
def stepT (g : Stat) (f : Stat → Expr → WE) (ft : Stat → Expr → WT) (e : Expr) : WT := match e with
  | .UnaryOp .Not a _ => notT (ft g a)
  | .BoolOp .And es _ => andT (es.map (ft g))
  | .BoolOp .Or es _ => orT (es.map (ft g))
  | .Compare a [op] [b] _ => if notSet b then tst (two (f g a) (f g b) (cmpK op)) else stuckT
  | .Compare a [o1, o2] [b, c] _ => if notSet c then tst (chainW (f g a) (f g b) (f g c) (cmpK o1) (cmpK o2)) else stuckT
  | .Name x p => tst (f g (.Name x p))
  | .Call a b c d => tst (f g (.Call a b c d))
  | .Subscript a b c => tst (f g (.Subscript a b c))
  | .Attribute a b c => tst (f g (.Attribute a b c))
  | .Constant a b c => tst (f g (.Constant a b c))
  | _ => stuckT
def isTupE : Expr → Bool
  | .Tuple _ _ _ => true
  | _ => false
def stepI (g : Stat) (f : Stat → Expr → WE) (tg e : Expr) : WI := match e with
  | .Call (.Name x p) [a] [] pos => (match g.glo x with
    | some .rng => if notStar a then rngW ([a].map (f g)) else stuckI
    | _ => itW (f g (.Call (.Name x p) [a] [] pos)))
  | .Call (.Name x p) [a, b] [] pos => (match g.glo x with
    | some .rng => if notStar a && notStar b then rngW ([a, b].map (f g)) else stuckI
    | some .zp => if [a, b].all notStar && isTupE tg then zipW ([a, b].map (f g)) else stuckI
    | _ => itW (f g (.Call (.Name x p) [a, b] [] pos)))
  | e => itW (f g e)
abbrev FE := Stat → Expr → WE
abbrev FT := Stat → Expr → WT
abbrev FI := Stat → Expr → Expr → WI
def wAll : Nat → FE × FT × FI
  | 0 => (fun _ _ => stuck, fun _ _ => stuckT, fun _ _ _ => stuckI)
  | n + 1 => (fun g e => stepE g (wAll n).1 (wAll n).2.1 (wAll n).2.2 e, fun g e => stepT g (wAll n).1 (wAll n).2.1 e, fun g tg e => stepI g (wAll n).1 tg e)
/-- both sides of a, b = x, y are written -/
def parOk (es vs : List Expr) : Bool := !(vs.all (foldedForSure 8)) && !(vs.all (constantsAlone 8))
def isCell (g : Stat) (x : Str) : Bool := match g.sn.lookup x with
  | some .cell => true
  | _ => false
def asgE (g : Stat) (f : FE) (tg : Expr) (e : Expr) : WS := match tg with
  | .Name x _ => (match g.sto x with
    | some i => if g.top then asgS (f g e) (nmW (.nm i)) else stuckS
    | none => stuckS)
  | .Subscript o i _ => if plainE e && notSlice i then asgS (f g e) (subG (f g o) (f g i)) else stuckS
  | .Tuple [.Name x px, .Name y py] _ _ => (match e with
    | .Tuple [a, b] _ _ => (match g.loc x, g.loc y with
      | some i, some j => if g.calm && decide (x ≠ y) && decide (px.line = py.line) && notStar a && notStar b && parOk [] [a, b] then asgS (tupW ([a, b].map (f g))) (nmW (.tp [.nm i, .nm j])) else stuckS
      | _, _ => if isCell g x || isCell g y then asgT g f tg e else stuckS)
    | .Name _ _ => asgT g f tg e
    | .Call _ _ _ _ => asgT g f tg e
    | .ListComp _ _ _ _ => asgT g f tg e
    | .Subscript _ _ _ => asgT g f tg e
    | _ => stuckS)
  | .Tuple [.Name x px, .Name y py, .Name z pz] _ _ => (match e with
    | .Tuple [a, b, c] _ _ => (match g.loc x, g.loc y, g.loc z with
      | some i, some j, some l => if g.calm && decide (x ≠ y) && decide (x ≠ z) && decide (y ≠ z) && decide (px.line = py.line) && decide (px.line = pz.line) && notStar a && notStar b && notStar c && parOk [] [a, b, c] then asgS (tupW ([a, b, c].map (f g))) (nmW (.tp [.nm i, .nm j, .nm l])) else stuckS
      | _, _, _ => stuckS)
    | .Name _ _ => asgT g f tg e
    | .Call _ _ _ _ => asgT g f tg e
    | .ListComp _ _ _ _ => asgT g f tg e
    | .Subscript _ _ _ => asgT g f tg e
    | _ => stuckS)
  | .Tuple es k p => (match e with
    | .Name _ _ => asgT g f tg e
    | .Call _ _ _ _ => asgT g f tg e
    | .ListComp _ _ _ _ => asgT g f tg e
    | .Subscript _ _ _ => asgT g f tg e
    | _ => stuckS)
  | _ => stuckS
where
  asgT (g : Stat) (f : FE) (tg e : Expr) : WS := if g.calm then (match tgOf g 8 tg with | some t => asgS (f g e) (nmW t) | none => stuckS) else stuckS
def stepS (g : Stat) (f : FE) (ft : FT) (fi : FI) (fs : Stat → List Stmt → WS) (st : Stmt) : WS := match st with
  | .Pass _ => passS
  | .Expr e _ => if plainE e then exprS (f g e) else stuckS
  | .Return none _ => retN
  | .Return (some e) _ => retS (f g e)
  | .If c a b _ => ifS (ft g c) (fs g a) (fs g b)
  | .While c body [] _ => whileS (ft g c) (fs g body)
  | .For tg iter body [] _ => if g.calm && notSet iter then (match tgOf g 8 tg with | some t => forS (fi g tg iter) t (fs g body) | none => stuckS) else stuckS
  | .Assign [tg] e _ => asgE g f tg e
  | .Raise (some (.Call (.Name x _) [.Constant (.str _) _ _] [] _)) none _ => if g.calm then (match g.glo x with | some .exc => raiseS x | _ => stuckS) else stuckS
  | .Try body [.ExceptHandler (some (.Name x _)) (some n) (b0 :: suite) _] [] [] _ => if g.calm && g.top then (match g.glo x, g.loc n with
    | some .exc, some i => tryAs g.sub x i (fs g body) (fs { g with calm := false } (b0 :: suite))
    | _, _ => stuckS) else stuckS
  | _ => stuckS
def wS (m : Nat) : Nat → Stat → List Stmt → WS
  | 0, _, _ => stuckS
  | n + 1, g, sts => seqW (sts.map fun st => stepS g (wAll m).1 (wAll m).2.1 (wAll m).2.2 (wS m n) st)
end Vm
/-! VmI: the reading of expressions is sound. -/
namespace Vm
open PySem PySem.Spec PyProof.Rows L2

def GvOk (X : Cx) (g : Stat) (x : Str) : GV → Prop
  | .fn F => g.calm = true → DefOk X x F
  | .fnx F => DefX X x F
  | .con d => ∃ v u, X.mg x = some u ∧ RelV v u ∧ ∀ H, RV X.K H v d
  | .exc => ExcOk X x ∧ IsiOk X g.isi x
  | .bex => IsiOk X g.isi x
  | .bi b => X.mg x = none ∧ x = b.name
  | .bt t => X.mg x = none ∧ x = Str.ofString t.name
  | .rng => X.mg x = none ∧ x = ("range" : Str)
  | .zp => X.mg x = none ∧ x = ("zip" : Str)
structure Ctx (X : Cx) (W : WP) (g : Stat) : Prop where
  N : X.N = g.N
  nd : X.N.Nodup
  sc : X.env.scope = g.sc
  loc : ∀ x, g.sn.lookup x = some .local → X.env.scope.names.lookup x = some .local
  cel : ∀ x, g.sn.lookup x = some .cell → X.env.scope.names.lookup x = some .cell ∧ X.fn x = true
  calm : g.calm = true → X.calm = true
  hot : g.calm = false → HotAtW X W.pn
  pn : ∀ q ∈ W.pn, q ∈ X.pn
  tk : L2N.Takes X W.w
  glob : ∀ x v, g.G.lookup x = some v → GvOk X g x v
  units : X.A.units + 64 < cLine
  sub : SubsOk X.K g.sub
  own : PassesOwn (model X.prog X.w) X.A X.env X.xe
  kind : X.env.scope.kind = .function
  pn0 : g.calm = true → W.pn = []
  top : g.top = true → X.stack = X.env :: X.outer ∧ X.env.frame = some X.env.locals
variable {X : Cx} {W : WP} {g : Stat}
theorem odd_no {x : Str} (h : ¬ odd x = true) : (x == ("__debug__" : Str)) = false ∧ (x == ("__classdict__" : Str)) = false := by
  unfold odd at h
  simp only [Bool.or_eq_true, not_or, Bool.not_eq_true] at h
  exact h
theorem slot_ok (c : Ctx X W g) {x : Str} {i : Nat} (h : g.slot x = some i) : X.N[i]? = some x ∧ Vis X.env.scope x ∧ (x == ("__debug__" : Str)) = false ∧ (x == ("__classdict__" : Str)) = false := by
  unfold Stat.slot at h
  split at h
  · cases h
  · rename_i ho
    obtain ⟨o1, o2⟩ := odd_no ho
    rw [c.N]
    unfold Vis
    rw [c.sc]
    split at h
    · rename_i e; exact ⟨ixOf_get h, .inl e, o1, o2⟩
    · rename_i e; exact ⟨ixOf_get h, .inr (.inl e), o1, o2⟩
    · rename_i e; exact ⟨ixOf_get h, .inr (.inr e), o1, o2⟩
    · cases h
theorem glo_ok (c : Ctx X W g) {x : Str} {v : GV} (h : g.glo x = some v) : GvOk X g x v ∧ Gl X x ∧ (x == ("__debug__" : Str)) = false := by
  unfold Stat.glo at h
  split at h
  · cases h
  · rename_i ho
    obtain ⟨o1, o2⟩ := odd_no ho
    split at h
    · rename_i e
      refine ⟨c.glob x v h, ?_, o1⟩
      show X.env.scope.names.lookup x = _
      rw [c.sc]
      exact e
    · cases h
theorem sto_ok (c : Ctx X W g) {x : Str} {i : Nat} (h : g.sto x = some i) : X.N[i]? = some x ∧ Loc X.env.scope x ∧ (X.fn x = true ∨ X.env.scope.names.lookup x = some .local) := by
  unfold Stat.sto at h
  rw [c.N]
  split at h
  · rename_i e; exact ⟨ixOf_get h, .inl (c.loc x e), .inr (c.loc x e)⟩
  · rename_i e; exact ⟨ixOf_get h, .inr (c.cel x e).1, .inl (c.cel x e).2⟩
  · cases h
theorem loc_ok (c : Ctx X W g) {x : Str} {i : Nat} (h : g.loc x = some i) : X.N[i]? = some x ∧ X.env.scope.names.lookup x = some .local := by
  unfold Stat.loc at h
  rw [c.N]
  split at h
  · rename_i e; exact ⟨ixOf_get h, c.loc x e⟩
  · cases h
theorem name_ok (c : Ctx X W g) {x : Str} {p : Pos} : PE X (.Name x p) (tI X W (nameW g x)) := by
  unfold nameW
  split
  · rename_i i e
    obtain ⟨h1, h2, h3, h4⟩ := slot_ok c e
    exact pe_slot h1 h2 h3 h4
  · split
    · rename_i d e
      obtain ⟨⟨v, u, hm, hr, hv⟩, hg, hd⟩ := glo_ok c e
      exact pe_imp (pe_glob hg hm hr hd) (val_imp hv)
    · rename_i t e
      obtain ⟨⟨hm, hx⟩, hg, hd⟩ := glo_ok c e
      subst hx
      have hb : bootBuiltins (Str.ofString t.name) = some (.type t.name) := by cases t <;> decide +kernel
      have hn : (Str.ofString t.name) ≠ "__name__" := by cases t <;> decide +kernel
      exact pe_imp (pe_bltn hg hm hb (v := .ty t.name) rfl hn hd) (val_imp fun _ => .ty)
    · rename_i e
      obtain ⟨⟨⟨C, hm, hn, hf⟩, _⟩, hg, hd⟩ := glo_ok c e
      exact pe_imp (pe_glob hg hm (v := .ref C) rfl hd) (val_imp fun _ => .cls hn)
    · exact pe_stuck
theorem bin_ok {op : Operator} {a b : Expr} {pos : Pos} {m1 m2 : WE} (h1 : PE X a (tI X W m1)) (h2 : PE X b (tI X W m2)) : PE X (.BinOp a op b pos) (tI X W (binW op m1 m2)) := by
  cases op with
  | Add => exact pe_two op_addA o2_add h1 h2
  | Sub => exact pe_two op_sub o2_int0 h1 h2
  | Mult => exact pe_two op_mulB o2_mul h1 h2
  | FloorDiv => exact pe_two op_fdivA o2_int h1 h2
  | Mod => exact pe_two op_modN o2_int h1 h2
  | Pow => exact pe_two op_pow o2_int h1 h2
  | _ => exact pe_stuck
theorem cmp_ok (c : Ctx X W g) (op : CmpOp) : ∃ r, OpR X (compareOp op) r ∧ Op2 X (cmpK op) r := by
  cases op with
  | Eq => exact ⟨_, op_eqA c.units, o2_eq⟩
  | NotEq => exact ⟨_, op_neA c.units, o2_eq⟩
  | Lt => exact ⟨_, op_lt, o2_bl0⟩
  | LtE => exact ⟨_, op_le, o2_bl0⟩
  | Gt => exact ⟨_, op_gt, o2_bl0⟩
  | GtE => exact ⟨_, op_ge, o2_bl0⟩
  | Is => exact ⟨_, op_isA, o2_is⟩
  | IsNot => exact ⟨_, op_isnotA, o2_is⟩
  | In => exact ⟨_, op_inA, o2_in⟩
  | NotIn => exact ⟨_, op_notinA, o2_in⟩
theorem mark_of {op : CmpOp} {b : Expr} (h : notSet b = true) : behindInMarks op b = false := by
  cases b <;> first | rfl | cases h
theorem tg_ok (c : Ctx X W g) (hc : g.calm = true) : ∀ (n : Nat) (e : Expr) (t : Tg), tgOf g n e = some t → PG X e (gTg X t)
  | 0, _, _, h => by cases h
  | n + 1, e, t, h => by
    unfold tgOf at h
    split at h
    · rename_i x p
      cases e2 : g.sto x with
      | none => rw [e2] at h; cases h
      | some i =>
        rw [e2] at h
        cases h
        obtain ⟨h1, h2, h3⟩ := sto_ok c e2
        exact pg_nm (pg_name c.nd h1 h2 h3)
    · rename_i es k p
      split at h
      · rename_i hs
        cases e2 : allM (tgOf g n) es with
        | none => rw [e2] at h; cases h
        | some ts =>
          rw [e2] at h
          cases h
          exact pg_tp (c.calm hc) hs e2 fun e' _ t' h' => tg_ok c hc n e' t' h'
      · cases h
    · cases h
theorem bk_ok (b : Bk) (hc : X.calm = true) : ∃ r id, CallR X (.builtin id) r ∧ CallD X b.k r ∧ bootBuiltins b.name = some (.builtin id) ∧ b.name ≠ "__name__" := by
  cases b with
  | abs => exact ⟨_, "abs", call_abs, cd_abs, by decide +kernel, by decide +kernel⟩
  | len => exact ⟨_, "len", call_len_seq.or (call_len_str.or call_lenD), cd_len, by decide +kernel, by decide +kernel⟩
  | isi => exact ⟨_, "isinstance", call_isi, cd_isi, by decide +kernel, by decide +kernel⟩
  | all => exact ⟨_, "all", cr_all hc, cd_all, by decide +kernel, by decide +kernel⟩
  | any => exact ⟨_, "any", cr_any hc, cd_any, by decide +kernel, by decide +kernel⟩
  | sum => exact ⟨_, "sum", (cr_sum hc).or (cr_sumT hc), cd_sum2, by decide +kernel, by decide +kernel⟩
  | max => exact ⟨_, "max", (call_max2 hc).or (cr_max hc), cd_max, by decide +kernel, by decide +kernel⟩
  | sorted => exact ⟨_, "sorted", cr_sorted.or (cr_sortedS.or cr_sortedQ), cd_sorted, by decide +kernel, by decide +kernel⟩
  | min => exact ⟨_, "min", (call_min2 hc).or (cr_min hc), cd_min, by decide +kernel, by decide +kernel⟩
theorem bt_ok {t : Bt} {k : List D → Sto → KE → Prop} (h : btK t = some k) : ∃ r, CallR X (.type t.name) r ∧ CallD X k r ∧ bootBuiltins (Str.ofString t.name) = some (.type t.name) ∧ Str.ofString t.name ≠ "__name__" := by
  cases t <;> unfold btK at h <;> cases h
  · exact ⟨_, call_int1, cd_int, by decide +kernel, by decide +kernel⟩
  · exact ⟨_, call_tuple_of, cd_tuple, by decide +kernel, by decide +kernel⟩
  · exact ⟨_, call_list_of, cd_list, by decide +kernel, by decide +kernel⟩
theorem ne_cons {args : List Expr} (h : (!args.isEmpty) = true) : ∃ e es, args = e :: es := by
  cases args with
  | nil => cases h
  | cons e es => exact ⟨e, es, rfl⟩
theorem call_okE (c : Ctx X W g) {f : Expr → WE} (hf : ∀ e, PE X e (tI X W (f e))) {x : Str} {p pos : Pos} {args : List Expr} : PE X (.Call (.Name x p) args [] pos) (tI X W (callE g f x args)) := by
  unfold callE
  split
  · rename_i F e
    split
    · rename_i hh
      simp only [Bool.and_eq_true] at hh
      obtain ⟨⟨h1, h2⟩, h3⟩ := hh
      obtain ⟨e1, es, rfl⟩ := ne_cons h3
      obtain ⟨d, hg, hd⟩ := glo_ok c e
      exact pe_callD c.tk (d h1) hg hd h2 fun a _ => hf a
    · exact pe_stuck
  · rename_i F e
    split
    · rename_i n p2
      split
      · exact pe_stuck
      · rename_i hc
        split
        · rename_i i ei
          obtain ⟨d, hg, hd⟩ := glo_ok c e
          obtain ⟨h1, h2, h3, h4⟩ := slot_ok c ei
          exact pe_callX c.tk d (c.hot (by simpa using hc)) h1 h2 h3 h4 hg hd
        · exact pe_stuck
    · exact pe_stuck
  · rename_i b e
    obtain ⟨⟨hm, hx⟩, hg, hd⟩ := glo_ok c e
    split
    · rename_i hc
      split
      · rename_i hh
        rw [Bool.and_eq_true] at hh
        obtain ⟨e1, es, rfl⟩ := ne_cons hh.2
        subst hx
        obtain ⟨r, id, k1, k2, k3, k4⟩ := bk_ok (X := X) b (c.calm hc)
        exact pe_bltD k1 k2 hg hm k3 k4 hd hh.1 fun a _ => hf a
      · exact pe_stuck
    · split
      · rename_i n p1 y p2
        subst hx
        split
        · rename_i i ei ey
          obtain ⟨h1, h2, h3, h4⟩ := slot_ok c ei
          obtain ⟨⟨_, ok⟩, hgy, hdy⟩ := glo_ok c ey
          exact pe_isiE h1 h2 h3 h4 hg hm ok hgy hdy c.pn
        · rename_i i ei ey
          obtain ⟨h1, h2, h3, h4⟩ := slot_ok c ei
          obtain ⟨ok, hgy, hdy⟩ := glo_ok c ey
          exact pe_isiE h1 h2 h3 h4 hg hm ok hgy hdy c.pn
        · exact pe_stuck
      · exact pe_stuck
  · rename_i t e
    obtain ⟨⟨hm, hx⟩, hg, hd⟩ := glo_ok c e
    split
    · rename_i k ek
      split
      · rename_i hh
        simp only [Bool.and_eq_true] at hh
        obtain ⟨⟨h1, h2⟩, h3⟩ := hh
        obtain ⟨e1, es, rfl⟩ := ne_cons h3
        subst hx
        obtain ⟨r, k1, k2, k3, k4⟩ := bt_ok (X := X) ek
        exact pe_tyD k1 k2 hg hm k3 k4 hd h2 fun a _ => hf a
      · exact pe_stuck
    · exact pe_stuck
  · exact pe_stuck
theorem lm_ok {name : Str} {k : D → List D → Sto → KE → Prop} (h : lmOf name = some k) : ∃ id r, Slot "list" name id ∧ typeOf (.builtin id) = pure (.type "method_descriptor") ∧ MtR X id r ∧ MethD X k r := by
  unfold lmOf at h
  split at h
  · rename_i e; cases h; subst e; exact ⟨_, _, PySem.F.slot_list_append, PySem.F.type_list_append, mt_append, md_append⟩
  · split at h
    · rename_i e; cases h; subst e; exact ⟨_, _, PySem.F.slot_list_count, PySem.F.type_list_count, mt_count, md_count⟩
    · split at h
      · rename_i e; cases h; subst e; exact ⟨_, _, PySem.F.slot_list_index, PySem.F.type_list_index, mt_index, md_index⟩
      · split at h
        · rename_i e; cases h; subst e; exact ⟨_, _, PySem.F.slot_list_extend, PySem.F.type_list_extend, mt_extend, md_extend⟩
        · cases h
end Vm
/-! VmJ: the reading of expressions is sound, all of it. -/
namespace Vm
open PySem PySem.Spec PyProof.Rows L2
theorem own_ok {N : List Str} {scope : Scope} : ∀ p ∈ ownOf N scope, N[p.2]? = some p.1 := by
  intro p hp
  unfold ownOf at hp
  obtain ⟨y, _, e⟩ := List.mem_filterMap.mp hp
  have key : ∀ i, ixOf y.1 N = some i → p = (y.1, i) → N[p.2]? = some p.1 := fun i h1 h2 => by rw [h2]; exact ixOf_get h1
  split at e
  · cases q : ixOf y.1 N with
    | none => rw [q] at e; cases e
    | some i => rw [q] at e; cases e; exact key i q rfl
  · cases q : ixOf y.1 N with
    | none => rw [q] at e; cases e
    | some i => rw [q] at e; cases e; exact key i q rfl
  · cases e
theorem gv_blk {X : Cx} {g : Stat} {s : Shared} {H : Hp} {scope : Scope} {ce : Env} {fp : List Addr} {x : Str} {v : GV} (h : GvOk X g x v) : GvOk (X.blk s H scope ce fp) (g.blk scope) x v := by
  cases v with
  | fn F => exact fun hc => ⟨(h hc).ex⟩
  | fnx F => exact ⟨h.ex⟩
  | con d => exact h
  | exc => exact ⟨⟨h.1.ex⟩, ⟨h.2.ex⟩⟩
  | bex => exact ⟨h.ex⟩
  | bi b => exact h
  | bt t => exact h
  | rng => exact h
  | zp => exact h
theorem ctx_blk {X : Cx} {W : WP} {g : Stat} (c : Ctx X W g) (hc : g.calm = true) {s : Shared} {H : Hp} {scope : Scope} {C : Addr} {cl : List (Str × Addr)} {fp : List Addr} (hk : scope.kind = .function) : Ctx (X.blk s H scope (compEnvC scope cl C X.env) fp) W0 (g.blk scope) where
  N := c.N
  nd := c.nd
  sc := by show relS scope X.env.scope = relS scope g.sc; rw [c.sc]
  loc := fun x h => lookup_relS_keep (by intro z; cases z) h
  cel := fun x h => ⟨lookup_relS_keep (by intro z; cases z) h, by
    show (scope.names.lookup x == some .cell) = true
    have h' : scope.names.lookup x = some .cell := h
    rw [h'] <;> rfl⟩
  calm := fun _ => c.calm hc
  hot := fun z => by
    have z' : g.calm = false := z
    rw [hc] at z'
    cases z'
  pn := fun q h => nomatch h
  tk := fun u s' ⟨_, _, _, _, _, _, _, _, _, _, _, _, _, _, _, _, w⟩ => w.elim
  glob := fun x v h => gv_blk (c.glob x v h)
  units := c.units
  sub := c.sub
  own := PassesOwn.never
  kind := hk
  pn0 := fun _ => rfl
  top := fun z => nomatch z
variable {X : Cx} {W : WP} {g : Stat}
theorem stepE_ok {f : FE} {ft : FT} {fi : FI} (hf : ∀ X W g, Ctx X W g → ∀ e, PE X e (tI X W (f g e))) (ht : ∀ X W g, Ctx X W g → ∀ e, PT X e (tT X W (ft g e))) (hi : ∀ X W g, Ctx X W g → ∀ tg e, PI X tg e (tIt X W (fi g tg e)))
    (c : Ctx X W g) (e : Expr) : PE X e (tI X W (stepE g f ft fi e)) := by
  have hE := hf X W g c
  have hT := ht X W g c
  unfold stepE
  split
  · exact pe_const
  · exact name_ok c
  · exact bin_ok (hE _) (hE _)
  · exact pe_neg (hE _)
  · exact pe_notD (hE _)
  · exact pe_andD fun e _ => hE e
  · exact pe_orD fun e _ => hE e
  · exact pe_ifD (hT _) (hE _) (hE _)
  · rename_i a op b p
    split
    · rename_i hb
      obtain ⟨r, k1, k2⟩ := cmp_ok c op
      exact pe_cmp2 k1 k2 (hE _) (hE _) (mark_of hb)
    · exact pe_stuck
  · rename_i a o1 o2 b c' p
    split
    · rename_i hb
      obtain ⟨r, k1, k2⟩ := cmp_ok c o1
      obtain ⟨r', k3, k4⟩ := cmp_ok c o2
      exact pe_chainD k1 k3 k2 k4 (hE _) (hE _) (hE _) (mark_of hb)
    · exact pe_stuck
  · rename_i a o1 o2 o3 b c' d p
    split
    · rename_i hb
      obtain ⟨r, k1, k2⟩ := cmp_ok c o1
      obtain ⟨r', k3, k4⟩ := cmp_ok c o2
      obtain ⟨r2, k5, k6⟩ := cmp_ok c o3
      exact pe_chain3D k1 k3 k5 k2 k4 k6 (hE _) (hE _) (hE _) (hE _) (mark_of hb)
    · exact pe_stuck
  · split
    · rename_i hh
      rw [Bool.and_eq_true] at hh
      exact pe_tupD (of_decide_eq_true hh.2) hh.1 fun e _ => hE e
    · exact pe_stuck
  · split
    · rename_i hh
      rw [Bool.and_eq_true] at hh
      exact pe_lstD (of_decide_eq_true hh.2) hh.1 fun e _ => hE e
    · exact pe_stuck
  · exact pe_slD (hE _) (fun x _ => hE x) (fun x _ => hE x)
  · split
    · rename_i hb
      exact pe_ixD hb (hE _) (hE _)
    · exact pe_stuck
  · rename_i elt tg iter ifs scope pos
    split
    · rename_i hh
      simp only [Bool.and_eq_true] at hh
      obtain ⟨⟨hc, hset⟩, hblk⟩ := hh
      split
      · rename_i t et
        split
        · rename_i hsl
          have hslots : ∀ j ∈ t.slots, j ∈ (ownOf g.N scope).map (·.2) := fun j hj => of_decide_eq_true (List.all_eq_true.mp hsl j hj)
          have ok : BlkOk X.N X.env.scope scope (ownOf g.N scope) := by rw [c.N, c.sc]; exact blkOk_by hblk
          have cb := fun (s : Shared) (H : Hp) (C : Addr) (cl : List (Str × Addr)) (fp : List Addr) => ctx_blk c hc (s := s) (H := H) (scope := scope) (C := C) (cl := cl) (fp := fp) ok.kind
          refine pe_imp (pe_lc (c.calm hc) c.nd (hi X W g c tg iter) ok (fun s H C cl fp => tg_ok (cb s H C cl fp) hc 8 tg t et) (tt := tT X W0 (condW (ft (g.blk scope)) ifs)) (fun s H C cl fp => ?_) (fun s H C cl fp => hf _ _ _ (cb s H C cl fp) elt) (folded_of hset)) (lc_imp hslots)
          match ifs with
          | [] => exact pts_yes
          | [a] => exact pts_one (ht _ _ _ (cb s H C cl fp) a)
          | a :: b :: r => exact ⟨fun _ _ _ _ _ _ h => by obtain ⟨_, _, _, _, _, _, h, _⟩ := h; exact h.elim⟩
        · exact pe_stuck
      · exact pe_stuck
    · exact pe_stuck
  · exact call_okE c hE
  · rename_i o name apos args cpos
    split
    · rename_i k ek
      split
      · rename_i hh
        simp only [Bool.and_eq_true] at hh
        obtain ⟨⟨⟨⟨h1, h2⟩, h3⟩, h4⟩, h5⟩ := hh
        obtain ⟨e1, es, rfl⟩ := ne_cons h2
        obtain ⟨id, r, k1, k2, k3, k4⟩ := lm_ok (X := X) ek
        refine pe_lmD k1 k2 k3 k4 (hE o) h1 (fun a _ => hE a) ?_ (of_decide_eq_true h3) h4
        cases o <;> first | rfl | (cases h5)
      · exact pe_stuck
    · exact pe_stuck
  · exact pe_stuck
theorem stepT_ok {f : FE} {ft : FT} (hf : ∀ X W g, Ctx X W g → ∀ e, PE X e (tI X W (f g e))) (ht : ∀ X W g, Ctx X W g → ∀ e, PT X e (tT X W (ft g e))) (c : Ctx X W g) (e : Expr) : PT X e (tT X W (stepT g f ft e)) := by
  have hE := hf X W g c
  have hT := ht X W g c
  unfold stepT
  split
  · exact pt_notD (hT _)
  · exact (pw_andD fun e _ => hT e).pt
  · exact (pw_orD fun e _ => hT e).pt
  · rename_i a op b p
    split
    · rename_i hb
      obtain ⟨r, k1, k2⟩ := cmp_ok c op
      exact pt_cmp2 k1 k2 (hE _) (hE _) (mark_of hb)
    · exact pt_stuck
  · rename_i a o1 o2 b c' p
    split
    · rename_i hb
      obtain ⟨r, k1, k2⟩ := cmp_ok c o1
      obtain ⟨r', k3, k4⟩ := cmp_ok c o2
      exact pt_chainD k1 k3 k2 k4 (hE _) (hE _) (hE _) (mark_of hb)
    · exact pt_stuck
  · exact pt_of (hE _) (fun _ => rfl)
  · exact pt_of (hE _) (fun _ => rfl)
  · exact pt_of (hE _) (fun _ => rfl)
  · exact pt_of (hE _) (fun _ => rfl)
  · exact pt_of (hE _) (fun _ => rfl)
  · exact pt_stuck
theorem stepI_ok {f : FE} (hf : ∀ X W g, Ctx X W g → ∀ e, PE X e (tI X W (f g e))) (c : Ctx X W g) (tg e : Expr) : PI X tg e (tIt X W (stepI g f tg e)) := by
  have hE := hf X W g c
  unfold stepI
  split
  · rename_i x p a pos
    split
    · rename_i eg
      obtain ⟨⟨hm, hx⟩, hg, hd⟩ := glo_ok c eg
      subst hx
      split
      · rename_i hs
        exact pi_rng1 hg hm hs (hE _)
      · exact pi_stuck
    · exact pi_valD (hE _)
  · rename_i x p a b pos
    split
    · rename_i eg
      obtain ⟨⟨hm, hx⟩, hg, hd⟩ := glo_ok c eg
      subst hx
      split
      · rename_i hs
        rw [Bool.and_eq_true] at hs
        exact pi_rng2 hg hm hs.1 hs.2 (hE _) (hE _)
      · exact pi_stuck
    · rename_i eg
      obtain ⟨⟨hm, hx⟩, hg, hd⟩ := glo_ok c eg
      subst hx
      split
      · rename_i hs
        rw [Bool.and_eq_true] at hs
        cases tg with
        | Tuple elts kk tpos => exact pi_zipD hg hm hs.1 fun e _ => hE e
        | _ => cases hs.2
      · exact pi_stuck
    · exact pi_valD (hE _)
  · exact pi_valD (hE _)
theorem wAll_ok : ∀ n : Nat, (∀ X W g, Ctx X W g → ∀ e, PE X e (tI X W ((wAll n).1 g e))) ∧ (∀ X W g, Ctx X W g → ∀ e, PT X e (tT X W ((wAll n).2.1 g e))) ∧ (∀ X W g, Ctx X W g → ∀ tg e, PI X tg e (tIt X W ((wAll n).2.2 g tg e)))
  | 0 => ⟨fun _ _ _ _ _ => pe_stuck, fun _ _ _ _ _ => pt_stuck, fun _ _ _ _ _ _ => pi_stuck⟩
  | n + 1 => by
    obtain ⟨h1, h2, h3⟩ := wAll_ok n
    exact ⟨fun X W g c e => stepE_ok h1 h2 h3 c e, fun X W g c e => stepT_ok h1 h2 c e, fun X W g c tg e => stepI_ok h1 c tg e⟩
end Vm
/-! VmK: the reading of statements is sound. -/
namespace Vm
open PySem PySem.Spec PyProof.Rows L2
variable {X : Cx} {W : WP} {g : Stat}
theorem ps_false {st : Stmt} {m : WS} (h : ∀ Γ S D E, ¬ m Γ S D E) : PS X st (tS X W m) := ⟨fun _ _ _ _ _ _ q => by obtain ⟨_, _, _, _, _, _, z, _⟩ := q; exact (h _ _ _ _ z).elim⟩
theorem swap_expr {e : Expr} {l : Nat} {env : Env} (h : plainE e = true) : swapsWith e none l env = pure false := by
  cases e <;> first | rfl | cases h
theorem swap_plain {e tg : Expr} {l : Nat} {env : Env} (h : plainE e = true) : swapsWith e (some tg) l env = pure false := by
  cases e <;> first | rfl | cases h
theorem swap_lc {elt : Expr} {gs : List Comprehension} {scope : Scope} {pos py : Pos} {y : Str} {l : Nat} {env : Env} :
    swapsWith (.ListComp elt gs scope pos) (some (.Name y py)) l env = pure (env.blockKind == .function && env.kindOf y == some .local && py.line == pos.line && !(scope.names.any fun (n, k) => n == y && (k == .local || k == .cell))) := by
  unfold swapsWith
  rfl
theorem swap_other {elt : Expr} {gs : List Comprehension} {scope : Scope} {pos : Pos} {tg : Expr} {l : Nat} {env : Env} (h : ∀ y p, tg ≠ .Name y p) : swapsWith (.ListComp elt gs scope pos) (some tg) l env = pure false := by
  unfold swapsWith
  cases tg <;> first | rfl | exact absurd rfl (h _ _)
/-- name = [..] -/
theorem lc_assign (c : Ctx X W g) {n : Nat} {x : Str} {i : Nat} (hx : g.sto x = some i) {elt : Expr} {gs : List Comprehension} {scope : Scope} {pos py spos : Pos} :
    PS X (.Assign [.Name x py] (.ListComp elt gs scope pos) spos) (tS X W (asgS ((wAll n).1 g (.ListComp elt gs scope pos)) (nmW (.nm i)))) := by
  obtain ⟨h1, h2, h3⟩ := sto_ok c hx
  have sw := swap_lc (elt := elt) (gs := gs) (scope := scope) (pos := pos) (py := py) (y := x) (l := spos.line) (env := X.env)
  cases hb : (X.env.blockKind == .function && X.env.kindOf x == some .local && py.line == pos.line && !(scope.names.any fun (n, k) => n == x && (k == .local || k == .cell))) with
  | false =>
    rw [hb] at sw
    exact ps_setD c.nd h1 h2 ((wAll_ok n).1 X W g c _) sw h3
  | true =>
    rw [hb] at sw
    have hl : X.env.scope.names.lookup x = some .local := by
      simp only [Bool.and_eq_true, beq_iff_eq] at hb
      exact hb.1.1.2
    cases n with
    | zero => exact ps_false fun Γ S D E z => z
    | succ n =>
      obtain ⟨hf, ht, hi⟩ := wAll_ok n
      show PS X _ (tS X W (asgS (stepE g (wAll n).1 (wAll n).2.1 (wAll n).2.2 (.ListComp elt gs scope pos)) (nmW (.nm i))))
      unfold stepE
      split
      all_goals first
        | (rename_i heq; cases heq; done)
        | skip
      · rename_i elt' tg iter ifs scope' pos' heq
        cases heq
        split
        · rename_i hh
          simp only [Bool.and_eq_true] at hh
          obtain ⟨⟨hc, hset⟩, hblk⟩ := hh
          split
          · rename_i t et
            split
            · rename_i hsl
              have hslots : ∀ j ∈ t.slots, j ∈ (ownOf g.N scope).map (·.2) := fun j hj => of_decide_eq_true (List.all_eq_true.mp hsl j hj)
              have ok : BlkOk X.N X.env.scope scope (ownOf g.N scope) := by rw [c.N, c.sc]; exact blkOk_by hblk
              have cb := fun (s : Shared) (H : Hp) (C : Addr) (cl : List (Str × Addr)) (fp : List Addr) => ctx_blk c hc (s := s) (H := H) (scope := scope) (C := C) (cl := cl) (fp := fp) ok.kind
              refine ps_setLcD (c.calm hc) c.nd h1 hl sw (hi X W g c tg iter) ok hslots (fun s H C cl fp => tg_ok (cb s H C cl fp) hc 8 tg t et) (fun s H C cl fp => ?_) (fun s H C cl fp => hf _ _ _ (cb s H C cl fp) elt) (folded_of hset)
              match ifs with
              | [] => exact pts_yes
              | [a] => exact pts_one (ht _ _ _ (cb s H C cl fp) a)
              | a :: b :: r => exact ⟨fun _ _ _ _ _ _ h => by obtain ⟨_, _, _, _, _, _, h, _⟩ := h; exact h.elim⟩
            · exact ps_false fun Γ S D E z => z
          · exact ps_false fun Γ S D E z => z
        · exact ps_false fun Γ S D E z => z
      · exact ps_false fun Γ S D E z => z
theorem tup_sole {es : List Expr} {k : Nat} {p : Pos} {env : Env} : (assignEach [Expr.Tuple es k p] env).map (·.2) = [assign (.Tuple es k p) env] := rfl
theorem asgT_ok (c : Ctx X W g) {n : Nat} {es : List Expr} {k : Nat} {p : Pos} {e : Expr} {pos : Pos} (h : (match e with | .Name _ _ => true | .Call _ _ _ _ => true | .ListComp _ _ _ _ => true | .Subscript _ _ _ => true | _ => false) = true) :
    PS X (.Assign [.Tuple es k p] e pos) (tS X W (asgE.asgT g (wAll n).1 (.Tuple es k p) e)) := by
  unfold asgE.asgT
  split
  · rename_i hc
    split
    · rename_i t et
      have he := (wAll_ok n).1 X W g c e
      have hg : PG X (.Tuple es k p) (tGt X W (nmW t)) := pg_imp (tg_ok c hc 8 _ t et) nm_imp
      have h1 : swapsWithSole [Expr.Tuple es k p] e pos.line X.env = pure false := by
        show swapsWith e (some (.Tuple es k p)) pos.line X.env = pure false
        cases e <;> first | exact swap_other (fun y q z => nomatch z) | exact swap_plain rfl | cases h
      have h2 : swappedStores [Expr.Tuple es k p] e X.env = pure none := by
        cases e <;> first | rfl | cases h
      exact ps_asgD he hg h1 h2 tup_sole
    · exact ps_stuck
  · exact ps_stuck
theorem blk_fn (h : X.env.scope.kind = .function) : X.env.blockKind = .function := by
  unfold Env.blockKind
  rw [h]
  rfl
theorem not_star_any {es : List Expr} (h : es.all notStar = true) : (es.any fun | .Starred .. => true | _ => false) = false := by
  induction es with
  | nil => rfl
  | cons e es ih =>
    rw [List.all_cons, Bool.and_eq_true] at h
    rw [List.any_cons, ih h.2]
    cases e <;> first | rfl | cases h.1
theorem all2 {a b : Expr} (h : [a, b].all notStar = true) : notStar a = true ∧ notStar b = true := by simpa using h
theorem all3 {a b c : Expr} (h : [a, b, c].all notStar = true) : notStar a = true ∧ notStar b = true ∧ notStar c = true := by simpa using h
theorem sw2 {x y : Str} {px py pt pt2 : Pos} {kt k2 : Nat} {a b : Expr} (hk : X.env.scope.kind = .function) (hx : X.env.scope.names.lookup x = some .local) (hy : X.env.scope.names.lookup y = some .local) (hne : x ≠ y) (hl : px.line = py.line) (hs : [a, b].all notStar = true) (hp : parOk [] [a, b] = true) :
    swappedStores [.Tuple [.Name x px, .Name y py] kt pt] (.Tuple [a, b] k2 pt2) X.env = pure (some [x, y]) := by
  unfold parOk at hp
  simp only [Bool.and_eq_true, Bool.not_eq_true'] at hp
  have kx : X.env.kindOf x = some .local := hx
  have ky : X.env.kindOf y = some .local := hy
  have hn : (x == y) = false := by simpa using hne
  have hn2 : (y == x) = false := by simpa using (Ne.symm hne)
  have e1 : ([x, y] : List Str).eraseDups = [x, y] := by
    simp [List.eraseDups_cons, hn, hn2]
  obtain ⟨s1, s2⟩ := all2 hs
  unfold swappedStores
  simp only [blk_fn hk, hp.1, hp.2]
  simp [Expr.pos, kx, ky, hl, e1]
  intro h
  rcases h with h | h
  · cases a <;> first | (cases s1; done) | (cases h; done)
  · cases b <;> first | (cases s2; done) | (cases h; done)
theorem sw3 {x y z : Str} {px py pz pt pt2 : Pos} {kt k2 : Nat} {a b c : Expr} (hk : X.env.scope.kind = .function) (hx : X.env.scope.names.lookup x = some .local) (hy : X.env.scope.names.lookup y = some .local) (hz : X.env.scope.names.lookup z = some .local) (hxy : x ≠ y) (hxz : x ≠ z) (hyz : y ≠ z) (hl : px.line = py.line) (hl2 : px.line = pz.line) (hs : [a, b, c].all notStar = true) (hp : parOk [] [a, b, c] = true) :
    swappedStores [.Tuple [.Name x px, .Name y py, .Name z pz] kt pt] (.Tuple [a, b, c] k2 pt2) X.env = pure (some [x, y, z]) := by
  unfold parOk at hp
  simp only [Bool.and_eq_true, Bool.not_eq_true'] at hp
  have kx : X.env.kindOf x = some .local := hx
  have ky : X.env.kindOf y = some .local := hy
  have kz : X.env.kindOf z = some .local := hz
  have n1 : (y == x) = false := by simpa using (Ne.symm hxy)
  have n2 : (z == x) = false := by simpa using (Ne.symm hxz)
  have n3 : (z == y) = false := by simpa using (Ne.symm hyz)
  have e1 : ([x, y, z] : List Str).eraseDups = [x, y, z] := by
    simp [List.eraseDups_cons, n1, n2, n3]
  obtain ⟨s1, s2, s3⟩ := all3 hs
  unfold swappedStores
  simp only [blk_fn hk, hp.1, hp.2]
  simp [Expr.pos, kx, ky, kz, hl.symm, hl2.symm, e1]
  intro h
  rcases h with h | h | h
  · cases a <;> first | (cases s1; done) | (cases h; done)
  · cases b <;> first | (cases s2; done) | (cases h; done)
  · cases c <;> first | (cases s3; done) | (cases h; done)
end Vm
/-! VmL: the reading of a def's whole text is sound. -/
namespace Vm
open PySem PySem.Spec PyProof.Rows L2
variable {X : Cx} {W : WP} {g : Stat}
theorem ix_ne {N : List Str} {x y : Str} {i j : Nat} (h1 : N[i]? = some x) (h2 : N[j]? = some y) (h : x ≠ y) : i ≠ j := fun e => by
  subst e
  rw [h1] at h2
  exact h (Option.some.inj h2)
theorem mk2 {a b : Expr} (h1 : notStar a = true) (h2 : notStar b = true) : [a, b].all notStar = true := by simp [h1, h2]
theorem mk3 {a b c : Expr} (h1 : notStar a = true) (h2 : notStar b = true) (h3 : notStar c = true) : [a, b, c].all notStar = true := by simp [h1, h2, h3]
theorem cell_kind (c : Ctx X W g) {x : Str} (h : isCell g x = true) : X.env.kindOf x = some .cell := by
  unfold isCell at h
  split at h
  · rename_i e
    exact (c.cel x e).1
  · cases h
theorem sw2n {x y : Str} {px py pt pt2 : Pos} {kt k2 : Nat} {a b : Expr} (h : X.env.kindOf x = some .cell ∨ X.env.kindOf y = some .cell) : swappedStores [.Tuple [.Name x px, .Name y py] kt pt] (.Tuple [a, b] k2 pt2) X.env = pure none := by
  unfold swappedStores
  rcases h with h | h
  · by_cases hy : X.env.kindOf y = some .local <;> simp [h, hy]
    all_goals (intro _ _ _ h4; exact absurd h4 (Nat.ne_of_lt (Nat.lt_of_le_of_lt (List.length_filterMap_le _ _) (Nat.lt_succ_self 1))))
  · by_cases hx : X.env.kindOf x = some .local <;> simp [h, hx]
    all_goals
      intro _ _ _ h4
      exfalso
      revert h4
      rw [List.filterMap_cons]
      split <;> simp [List.filterMap_cons, h]
theorem asgT2_ok (c : Ctx X W g) {n : Nat} {x y : Str} {px py pt pt2 : Pos} {kt k2 : Nat} {a b : Expr} {pos : Pos} (h : isCell g x = true ∨ isCell g y = true) :
    PS X (.Assign [.Tuple [.Name x px, .Name y py] kt pt] (.Tuple [a, b] k2 pt2) pos) (tS X W (asgE.asgT g (wAll n).1 (.Tuple [.Name x px, .Name y py] kt pt) (.Tuple [a, b] k2 pt2))) := by
  unfold asgE.asgT
  split
  · rename_i hc
    split
    · rename_i t et
      exact ps_asgD ((wAll_ok n).1 X W g c _) (pg_imp (tg_ok c hc 8 _ t et) nm_imp) (by show swapsWith (.Tuple [a, b] k2 pt2) (some (.Tuple [.Name x px, .Name y py] kt pt)) pos.line X.env = pure false; exact swap_plain rfl) (sw2n (h.imp (cell_kind c) (cell_kind c))) tup_sole
    · exact ps_stuck
  · exact ps_stuck
theorem asgE_ok (c : Ctx X W g) {n : Nat} {tg e : Expr} {pos : Pos} : PS X (.Assign [tg] e pos) (tS X W (asgE g (wAll n).1 tg e)) := by
  have hE := (wAll_ok n).1 X W g c
  unfold asgE
  split
  · rename_i x p
    split
    · rename_i i ei
      split
      · rename_i ht
        obtain ⟨h1, h2, h3⟩ := sto_ok c ei
        by_cases hl : plainE e = true
        · exact ps_setD c.nd h1 h2 (hE e) (swap_plain hl) h3
        · cases e with
          | ListComp elt gs scope pos2 => exact lc_assign c ei
          | SetComp _ _ _ _ => exact ps_false fun Γ S D E z => by cases n <;> exact z
          | DictComp _ _ _ _ _ => exact ps_false fun Γ S D E z => by cases n <;> exact z
          | Starred _ _ => exact ps_false fun Γ S D E z => by cases n <;> exact z
          | Slice _ _ _ _ => exact ps_false fun Γ S D E z => by cases n <;> exact z
          | _ => exact absurd rfl hl
      · exact ps_stuck
    · exact ps_stuck
  · split
    · rename_i hh
      rw [Bool.and_eq_true] at hh
      refine ps_asgD (hE e) (pg_subD (hE _) (hE _) hh.2) ?_ ?_ rfl
      · have hp := hh.1
        cases e <;> first | rfl | (cases hp; done) | exact swap_plain hp
      · cases e <;> rfl
    · exact ps_stuck
  · split
    · split
      · rename_i i j ei ej
        split
        · rename_i hh
          simp only [Bool.and_eq_true, decide_eq_true_eq] at hh
          obtain ⟨⟨⟨⟨⟨hc, hne⟩, hl⟩, s1⟩, s2⟩, hp⟩ := hh
          obtain ⟨h1, h2⟩ := loc_ok c ei
          obtain ⟨h3, h4⟩ := loc_ok c ej
          have hs := mk2 s1 s2
          exact ps_parD (c.calm hc) c.nd h1 h3 (ix_ne h1 h3 hne) h2 h4 hs (fun e _ => hE e) (sw2 c.kind h2 h4 hne hl hs hp)
        · exact ps_stuck
      · split
        · rename_i hh
          exact asgT2_ok c (by simpa using hh)
        · exact ps_stuck
    · exact asgT_ok c rfl
    · exact asgT_ok c rfl
    · exact asgT_ok c rfl
    · exact asgT_ok c rfl
    · exact ps_stuck
  · split
    · split
      · rename_i i j l ei ej el
        split
        · rename_i hh
          simp only [Bool.and_eq_true, decide_eq_true_eq] at hh
          obtain ⟨⟨⟨⟨⟨⟨⟨⟨⟨hc, hxy⟩, hxz⟩, hyz⟩, hl⟩, hl2⟩, s1⟩, s2⟩, s3⟩, hp⟩ := hh
          obtain ⟨h1, h2⟩ := loc_ok c ei
          obtain ⟨h3, h4⟩ := loc_ok c ej
          obtain ⟨h5, h6⟩ := loc_ok c el
          have hs := mk3 s1 s2 s3
          exact ps_par3D (c.calm hc) c.nd h1 h3 h5 (ix_ne h1 h3 hxy) (ix_ne h1 h5 hxz) (ix_ne h3 h5 hyz) h2 h4 h6 hs (fun e _ => hE e) (sw3 c.kind h2 h4 h6 hxy hxz hyz hl hl2 hs hp)
        · exact ps_stuck
      · exact ps_stuck
    · exact asgT_ok c rfl
    · exact asgT_ok c rfl
    · exact asgT_ok c rfl
    · exact asgT_ok c rfl
    · exact ps_stuck
  · split
    · exact asgT_ok c rfl
    · exact asgT_ok c rfl
    · exact asgT_ok c rfl
    · exact asgT_ok c rfl
    · exact ps_stuck
  · exact ps_stuck
theorem gv_tr {x : Str} {v : GV} {pn : Pn} {xe : Value → Shared → Prop} (h : GvOk X g x v) : GvOk (X.tr pn xe) g x v := by
  cases v with
  | fn F => exact fun hc => ⟨(h hc).ex⟩
  | fnx F => exact ⟨h.ex⟩
  | con d => exact h
  | exc => exact ⟨⟨h.1.ex⟩, ⟨h.2.ex⟩⟩
  | bex => exact ⟨h.ex⟩
  | bi b => exact h
  | bt t => exact h
  | rng => exact h
  | zp => exact h
theorem ctx_tr (c : Ctx X W g) (hc : g.calm = true) {W' : WX} {pn : Pn} {xe : Value → Shared → Prop} (tk : L2N.Takes (X.tr pn xe) W') (own : PassesOwn (model X.prog X.w) X.A X.env xe) : Ctx (X.tr pn xe) ⟨W', W.pn⟩ g where
  N := c.N
  nd := c.nd
  sc := c.sc
  loc := c.loc
  cel := c.cel
  calm := c.calm
  hot := fun z => by rw [hc] at z; cases z
  pn := fun q h => by
    have h' : q ∈ W.pn := h
    rw [c.pn0 hc] at h'
    cases h'
  tk := tk
  glob := fun x v h => gv_tr (c.glob x v h)
  units := c.units
  sub := c.sub
  own := own
  kind := c.kind
  pn0 := c.pn0
  top := c.top
theorem gv_su {x : Str} {v : GV} {pn : Pn} {a : Addr} (h : GvOk X g x v) : GvOk (X.suite a pn) { g with calm := false } x v := by
  cases v with
  | fn F => exact fun hc => Bool.noConfusion hc
  | fnx F =>
    obtain ⟨f, fd, k, ps, h1, h2, h3, h4, h5⟩ := h.ex
    exact ⟨f, fd, k, ps, h1, h2, h3, h4, ⟨h5.dp, h5.un⟩⟩
  | con d => exact h
  | exc => exact ⟨⟨h.1.ex⟩, ⟨h.2.ex⟩⟩
  | bex => exact ⟨h.ex⟩
  | bi b => exact h
  | bt t => exact h
  | rng => exact h
  | zp => exact h
theorem ctx_su (c : Ctx X W g) {a : Addr} {oe : Obj} {cls : Value} {d : Option Addr} {pn : Pn} (hz : L2N.Zn cls d oe) (hd : ∃ vs, oe.data = .fields vs) : Ctx (X.suite a ((a, oe) :: pn)) ⟨W0.w, [(a, oe)]⟩ { g with calm := false } where
  N := c.N
  nd := c.nd
  sc := c.sc
  loc := c.loc
  cel := c.cel
  calm := fun z => Bool.noConfusion z
  hot := fun _ => ⟨(a, oe), rfl, ⟨rfl, by
    obtain ⟨vs, e⟩ := hd
    exact ⟨vs, e, hz.2.2 vs e⟩⟩, List.mem_cons_self⟩
  pn := fun q h => by
    rw [List.mem_singleton.mp h]
    exact List.mem_cons_self
  tk := fun u s' ⟨_, _, _, _, _, _, _, _, _, _, _, _, _, _, _, _, w⟩ => w.elim
  glob := fun x v h => gv_su (c.glob x v h)
  units := c.units
  sub := c.sub
  own := PassesOwn.never
  kind := c.kind
  pn0 := fun z => Bool.noConfusion z
  top := c.top
theorem stepS_ok {n : Nat} {fs : Stat → List Stmt → WS} (hs : ∀ X W g, Ctx X W g → ∀ sts, PSs X sts (tS X W (fs g sts))) (c : Ctx X W g) (st : Stmt) : PS X st (tS X W (stepS g (wAll n).1 (wAll n).2.1 (wAll n).2.2 fs st)) := by
  have hE := (wAll_ok n).1 X W g c
  have hT := (wAll_ok n).2.1 X W g c
  have hI := (wAll_ok n).2.2 X W g c
  have hS := hs X W g c
  unfold stepS
  split
  · exact ps_passD
  · split
    · rename_i hp
      exact ps_exprD (hE _) (swap_expr hp)
    · exact ps_stuck
  · exact ps_retND
  · exact ps_retD (hE _)
  · exact ps_ifD' (hT _) (hS _) (hS _)
  · exact ps_whileD c.own (hT _) (hS _)
  · split
    · rename_i hh
      rw [Bool.and_eq_true] at hh
      split
      · rename_i t et
        exact ps_forD c.own (c.calm hh.1) (hI _ _) (tg_ok c hh.1 8 _ t et) (hS _) (folded_of hh.2)
      · exact ps_stuck
    · exact ps_stuck
  · exact asgE_ok c
  · split
    · rename_i hc
      split
      · rename_i e
        obtain ⟨⟨ok, _⟩, hg, hd⟩ := glo_ok c e
        exact ps_raiseD (c.calm hc) c.tk ok hg hd
      · exact ps_stuck
    · exact ps_stuck
  · split
    · rename_i hh
      rw [Bool.and_eq_true] at hh
      split
      · rename_i i e el
        obtain ⟨⟨ok, _⟩, hg, hd⟩ := glo_ok c e
        obtain ⟨C, hm, nC, f1, f2, f3, f4⟩ := ok.ex
        obtain ⟨h1, h2⟩ := loc_ok c el
        obtain ⟨t1, t2⟩ := c.top hh.2
        refine ps_tryAsD t1 t2 c.nd h1 h2 ⟨hg, hd, .inl hm⟩ nC c.sub c.tk (fun W' pn xe tk own => hs _ _ _ (ctx_tr c hh.1 tk own) _) (fun a oe cls d pn hz hv => hs _ _ _ (ctx_su c hz hv) _)
      · exact ps_stuck
    · exact ps_stuck
  · exact ps_stuck
theorem wS_ok {m : Nat} : ∀ (n : Nat) (X : Cx) (W : WP) (g : Stat), Ctx X W g → ∀ sts, PSs X sts (tS X W (wS m n g sts))
  | 0, X, W, g, c, sts => ⟨fun _ _ _ _ _ _ h => by obtain ⟨_, _, _, _, _, _, h, _⟩ := h; exact h.elim⟩
  | n + 1, X, W, g, c, sts => pss_seq fun st _ => stepS_ok (wS_ok n) c st
end Vm
/-! VmM: a def keeps its plain promise. -/
namespace Vm
open PySem PySem.Spec PyProof.Rows L2
def gOf (N : List Str) (sc : Scope) (G : List (Str × GV)) (sub isi : Subs) (calm : Bool) : Stat := { N := N, sc := sc, sn := sc.names, G := G, calm := calm, top := true, sub := sub, isi := isi }
section
variable (P : Program) (w : World) (K : PySem.W.Frag) (mg : Str → Option Value) (base : Heap)
/-- a def stands at a name, its level at most k -/
def FnK (k : Nat) (x : Str) (F : FS) : Prop := ∃ f fd j ps, mg x = some (.ref f) ∧ PySem.W.keepIn K (.ref f) = true ∧ FnOk P w K mg base (L2N.CX P w) j f fd ps (spOf K F) ∧ Binds K fd ps [] ∧ j ≤ k
def FnKX (k : Nat) (x : Str) (F : FS) : Prop := ∃ f fd j ps, mg x = some (.ref f) ∧ PySem.W.keepIn K (.ref f) = true ∧ FnX P w K mg base j f fd ps (spX K F) ∧ Binds K fd ps [] ∧ j ≤ k
def ExcK (x : Str) : Prop := ∃ C, mg x = some (.ref C) ∧ PySem.W.nsIn K mainGlobals x = some (some (.ref C)) ∧ excFacts K C
def IsiK (tb : Subs) (y : Str) : Prop := ∃ v u, ClsV v u ∧ RelV v u ∧ (mg y = some u ∨ (mg y = none ∧ bootBuiltins y = some u ∧ y ≠ "__name__")) ∧ ∀ x b C, tb.lookup (x, y) = some b → PySem.W.nsIn K mainGlobals x = some (some (.ref C)) → isiFacts K C ∧ PySem.W.kitOne K (.ref C) u = some b
def GvK (k : Nat) (isi : Subs) (x : Str) : GV → Prop
  | .fn F => FnK P w K mg base k x F
  | .fnx F => FnKX P w K mg base k x F
  | .con d => ∃ v u, mg x = some u ∧ RelV v u ∧ ∀ H, RV K H v d
  | .exc => ExcK K mg x ∧ IsiK K mg isi x
  | .bex => IsiK K mg isi x
  | .bi b => mg x = none ∧ x = b.name
  | .bt t => mg x = none ∧ x = Str.ofString t.name
  | .rng => mg x = none ∧ x = ("range" : Str)
  | .zp => mg x = none ∧ x = ("zip" : Str)
def GsK (k : Nat) (isi : Subs) : List (Str × GV) → Prop
  | [] => True
  | p :: r => GvK P w K mg base k isi p.1 p.2 ∧ GsK k isi r
end
variable {P : Program} {w : World} {K : PySem.W.Frag} {mg : Str → Option Value} {base : Heap} {k : Nat} {isi sub : Subs}
theorem gsK_at : ∀ {G : List (Str × GV)}, GsK P w K mg base k isi G → ∀ x v, G.lookup x = some v → GvK P w K mg base k isi x v
  | [], _, x, v, e => by cases e
  | (y, u) :: r, h, x, v, e => by
    rw [List.lookup_cons] at e
    split at e
    · rename_i q
      cases e
      rw [beq_iff_eq.mp q]
      exact h.1
    · exact gsK_at h.2 x v e
def Weak (Q : Sto → Prop) (S' : Sto) : Prop := ∃ S0, Sub S0 S' ∧ Q S0
theorem Weak.of {Q : Sto → Prop} {S : Sto} (h : Q S) : Weak Q S := ⟨S, Sub.refl, h⟩
def startG (N : List Str) (ds : List D) : Gam := ds.map some ++ List.replicate (N.length - ds.length) none
theorem RLs.get {pn : Pn} {H : Hp} : ∀ {vs : List V} {ds : List D}, RLs K pn H vs ds → ∀ (i : Nat) (d : D), ds[i]? = some d → ∃ v, vs[i]? = some v ∧ RL K pn H v d
  | _, _, .nil, i, d, e => by simp at e
  | _, _, .cons r t, 0, d, e => by simp at e; subst e; exact ⟨_, rfl, r⟩
  | _, _, .cons r t, i + 1, d, e => by
    obtain ⟨v, h1, h2⟩ := RLs.get t i d (by simpa using e)
    exact ⟨v, by simpa using h1, h2⟩
theorem rl_of {H : Hp} {vs : List V} {ds : List D} {pn : Pn} (h : RVs K H vs ds) : RLs K pn H vs ds := by
  induction h with
  | nil => exact .nil
  | cons r _ ih => exact .cons (.val r) ih
theorem rg_start {pn : Pn} {H : Hp} {N : List Str} {vs : List V} {ds : List D} (r : RLs K pn H vs ds) : RG K pn H (L2.start N vs) (startG N ds) := by
  have hl : vs.length = ds.length := Paired.length r
  refine ⟨by unfold L2.start startG; simp [hl], fun i d e => ?_⟩
  unfold startG at e
  by_cases hi : i < ds.length
  · rw [List.getElem?_append_left (by simpa using hi), List.getElem?_map] at e
    cases q : ds[i]? with
    | none => rw [q] at e; cases e
    | some d' =>
      rw [q] at e
      cases e
      obtain ⟨v, h1, h2⟩ := RLs.get r i d q
      refine ⟨v, ?_, h2⟩
      unfold L2.start
      rw [List.getElem?_append_left (by simpa [hl] using hi), List.getElem?_map, h1] <;> rfl
  · rw [List.getElem?_append_right (by simpa using hi), List.getElem?_replicate] at e
    split at e <;> cases e
theorem room_units {k : Nat} {A : Around} (r : Room k A) : A.units + 64 < cLine := by have := r.un; omega
theorem roomH_units {k : Nat} {A : Around} (r : L2H.RoomH k A) : A.units + 64 < cLine := by have := r.un; omega
theorem gv_of {X : Cx} {g : Stat} {x : Str} {v : GV} (hP : X.prog = P) (hw : X.w = w) (hK : X.K = K) (hm : X.mg = mg) (hb : X.base = base) (hi : g.isi = isi) (hr : g.calm = true → Room k X.A) (hr2 : L2H.RoomH k X.A) (h : GvK P w K mg base k isi x v) : GvOk X g x v := by
  subst hP hw hK hm hb hi
  cases v with
  | fn F =>
    obtain ⟨f, fd, j, ps, h1, h2, h3, h4, h5⟩ := h
    exact fun hc => ⟨f, fd, k, ps, h1, h2, h3.mono h5, h4, hr hc⟩
  | fnx F =>
    obtain ⟨f, fd, j, ps, h1, h2, h3, h4, h5⟩ := h
    exact ⟨f, fd, j, ps, h1, h2, h3, h4, hr2.mono h5⟩
  | con d => exact h
  | exc => exact ⟨⟨h.1⟩, ⟨h.2⟩⟩
  | bex => exact ⟨h⟩
  | bi b => exact h
  | bt t => exact h
  | rng => exact h
  | zp => exact h
section
variable {x qual : Str} {params : Arguments} {body : List Stmt} {scope : Scope} {f : Addr} {fd : FuncData} {N ps : List Str} {G : List (Str × GV)} {Fs : FS} {m n : Nat}
def finD (Q : KE) : En := ⟨fun _ S' => Weak (Q .non) S', fun d S' => Weak (Q d) S'⟩
def finX (E : XP) : XG := fun x _ S' => Weak (E x) S'
theorem def_ok (F : FunD K x qual params body scope [] [] f fd) (S : FnScope N ps scope) (gl : GsK P w K mg base k isi G) (sok : SubsOk K sub) (hlen : ∀ ds S Q E, Fs ds S Q E → ds.length = ps.length)
    (vc : ∀ ds S Q E, Fs ds S Q E → wS m n (gOf N scope G sub isi true) body (startG N ds) S (finD Q) (finX E)) : FnOk P w K mg base (L2N.CX P w) (k + 1) f fd ps (spOf K Fs) := by
  refine F.ok S (fun vs H Q E h => ?_) (fun cdv A outer s H vs Q E hr h => ?_)
  · obtain ⟨ds, S, Q', E', r, rs, hF, _⟩ := h
    rw [r.len]
    exact hlen ds S Q' E' hF
  · obtain ⟨ds, St, Q', E', r, rs, hF, hq, hx⟩ := h
    have c : Ctx (cxOf (L2N.CX P w) P w K mg base N qual scope f cdv A outer s H E) ⟨fun cls d _ H => E cls d H, []⟩ (gOf N scope G sub isi true) :=
      { N := rfl, nd := S.nd, sc := rfl, loc := fun x h => h, cel := fun x h => ⟨h, rfl⟩, calm := fun _ => rfl, hot := fun z => Bool.noConfusion z, pn := fun q h => (nomatch h),
        tk := L2N.takes_of (E := E) rfl rfl rfl rfl, glob := fun x v h => gv_of rfl rfl rfl rfl rfl rfl (fun _ => hr) (L2H.roomH_of hr) (gsK_at gl x v h), units := room_units hr, sub := sok, own := passes_of rfl, kind := S.kind, pn0 := fun _ => rfl, top := fun _ => ⟨rfl, rfl⟩ }
    refine ⟨_, wS_ok (m := m) n _ _ _ c body, ?_⟩
    refine ⟨startG N ds, St, _, _, rg_start (rl_of r), rs, vc ds St Q' E' hF, ?_, ?_, ?_⟩
    · intro Γ' S' σ' H' ⟨S0, h0, hQ⟩ k1 g1 r1
      exact hq _ _ _ _ hQ k1 .non (r1.sub h0)
    · intro d S' v H' ⟨S0, h0, hQ⟩ k1 rv r1
      exact hq _ _ _ _ hQ k1 rv (r1.sub h0)
    · intro x Γ' S' cls dd σ' H' ⟨S0, h0, hE⟩ k1 rx g1 r1
      exact hx _ _ _ _ _ hE k1 rx (r1.sub h0)
theorem defx_ok (F : FunD K x qual params body scope [] [] f fd) (S : FnScope N ps scope) (gl : GsK P w K mg base k isi G) (sok : SubsOk K sub) (hlen : ∀ ds S Q E, Fs ds S Q E → ds.length = ps.length)
    (vc : ∀ ds S Q E, Fs ds S Q E → wS m n (gOf N scope G sub isi false) body (startG N ds) S (finD Q) (finX E)) : FnX P w K mg base (k + 1) f fd ps (spX K Fs) := by
  obtain ⟨oc, od, dV, kV, doc, pm, an, cdv, ct, osl, rfl, lk, hcd, _, _⟩ := F.ex
  refine fnX_of lk hcd S (fun p vs H Q E h => ?_) (fun p A outer s H vs Q E hot hr h => ?_)
  · obtain ⟨ds, S, Q', E', r, rs, hF, _⟩ := h
    exact (Paired.length r).trans (hlen ds S Q' E' hF)
  · obtain ⟨ds, St, Q', E', r, rs, hF, hq, hx⟩ := h
    have c : Ctx (L2H.cxH (L2N.CX P w) P w K mg base N qual scope f cdv A outer s H E p) ⟨fun cls d _ H => E cls d H, [p]⟩ (gOf N scope G sub isi false) :=
      { N := rfl, nd := S.nd, sc := rfl, loc := fun x h => h, cel := fun x h => ⟨h, rfl⟩, calm := fun z => Bool.noConfusion z, hot := fun _ => ⟨p, rfl, hot, List.mem_cons_self⟩, pn := fun q h => h,
        tk := L2N.takes_of (E := E) rfl rfl rfl rfl, glob := fun x v h => gv_of rfl rfl rfl rfl rfl rfl (fun z => Bool.noConfusion z) hr (gsK_at gl x v h), units := roomH_units hr, sub := sok, own := passes_of rfl, kind := S.kind, pn0 := fun z => Bool.noConfusion z, top := fun _ => ⟨rfl, rfl⟩ }
    refine ⟨_, wS_ok (m := m) n _ _ _ c body, ?_⟩
    refine ⟨startG N ds, St, _, _, rg_start r, rs, vc ds St Q' E' hF, ?_, ?_, ?_⟩
    · intro Γ' S' σ' H' ⟨S0, h0, hQ⟩ k1 g1 r1
      exact hq _ _ _ _ hQ k1 .non (r1.sub h0)
    · intro d S' v H' ⟨S0, h0, hQ⟩ k1 rv r1
      exact hq _ _ _ _ hQ k1 rv (r1.sub h0)
    · intro x Γ' S' cls dd σ' H' ⟨S0, h0, hE⟩ k1 rx g1 r1
      exact hx _ _ _ _ _ hE k1 rx (r1.sub h0)
/-- a def's object, at its name -/
theorem fnK_of (hm : mg x = some (.ref f)) (F : FunD K x qual params body scope [] [] f fd) (ok : FnOk P w K mg base (L2N.CX P w) (k + 1) f fd ps (spOf K Fs))
    (hb : ∀ (kV doc pm : Value) (an : Option Addr) (cdv ct : Value) (us : List Value), us.length = ps.length → bindArgs (PySem.W.fnOf x qual params body scope .none kV doc pm an cdv ct) ⟨us, []⟩ = pure (ps.zip us)) : FnK P w K mg base (k + 1) x Fs :=
  ⟨f, fd, k + 1, ps, hm, F.kp, ok, F.bindsN hb, Nat.le_refl _⟩
theorem fnKX_of (hm : mg x = some (.ref f)) (F : FunD K x qual params body scope [] [] f fd) (ok : FnX P w K mg base (k + 1) f fd ps (spX K Fs))
    (hb : ∀ (kV doc pm : Value) (an : Option Addr) (cdv ct : Value) (us : List Value), us.length = ps.length → bindArgs (PySem.W.fnOf x qual params body scope .none kV doc pm an cdv ct) ⟨us, []⟩ = pure (ps.zip us)) : FnKX P w K mg base (k + 1) x Fs :=
  ⟨f, fd, k + 1, ps, hm, F.kp, ok, F.bindsN hb, Nat.le_refl _⟩
end
theorem FnK.mono {j : Nat} {x : Str} {F : FS} (h : FnK P w K mg base j x F) (l : j ≤ k) : FnK P w K mg base k x F := by
  obtain ⟨f, fd, i, ps, h1, h2, h3, h4, h5⟩ := h
  exact ⟨f, fd, i, ps, h1, h2, h3, h4, Nat.le_trans h5 l⟩
theorem FnKX.mono {j : Nat} {x : Str} {F : FS} (h : FnKX P w K mg base j x F) (l : j ≤ k) : FnKX P w K mg base k x F := by
  obtain ⟨f, fd, i, ps, h1, h2, h3, h4, h5⟩ := h
  exact ⟨f, fd, i, ps, h1, h2, h3, h4, Nat.le_trans h5 l⟩
end Vm
/-! VmN: what is asked of the module at the law's call; the law's end. -/
namespace Vm
open PySem PySem.Spec PyProof.Rows L2
/-! ### a part of the heap without lists -/
def isLstO (o : Obj) : Bool := match o.cls with
  | .type c => decide (c = "list")
  | _ => false
def frV (g : Addr → Option Obj) (as : List Addr) : PySem.W.Frag := (He.frG g as).filter fun p => !isLstO p.2
theorem lookup_mem {α β : Type} [BEq α] [LawfulBEq α] {a : α} {b : β} : ∀ {l : List (α × β)}, l.lookup a = some b → (a, b) ∈ l
  | [], h => by cases h
  | (c, d) :: r, h => by
    rw [List.lookup_cons] at h
    split at h
    · rename_i q
      cases h
      rw [beq_iff_eq.mp q]
      exact List.mem_cons_self
    · exact List.mem_cons_of_mem _ (lookup_mem h)
theorem frV_in {as : List Addr} {h : Heap} : (frV h.get? as).In h := fun a o e => by
  have m := (List.mem_filter.mp (lookup_mem e)).1
  unfold He.frG at m
  obtain ⟨b, _, q⟩ := List.mem_filterMap.mp m
  cases z : h.get? b with
  | none => rw [z] at q; cases q
  | some o' =>
    rw [z] at q
    cases q
    exact z
def NoLst (K : PySem.W.Frag) : Prop := ∀ a o, K.lookup a = some o → o.cls ≠ .type "list"
theorem frV_no {g : Addr → Option Obj} {as : List Addr} : NoLst (frV g as) := fun a o e c => by
  have m := (List.mem_filter.mp (lookup_mem e)).2
  have q : isLstO o = true := by unfold isLstO; rw [c]; rfl
  rw [show (!isLstO (a, o).2) = !isLstO o from rfl, q] at m
  cases m
/-! ### the Hook -/
abbrev AlV : Type := He.AlD × Bool
def obsV (n : Nat) (fa : List He.Fa) (fn : List He.DefD) (ex : PySem.W.Frag → Bool) (g : Addr → Option Obj) : AlV := (He.obsD fa fn (frV g (He.asD g n)), ex (frV g (He.asD g n)))
structure SaysV (fa : List He.Fa) (fn : List He.DefD) (ex : PySem.W.Frag → Bool) (K : PySem.W.Frag) : Prop where
  d : He.SaysD fa fn K
  x : ex K = true
  no : NoLst K
def hookV (n : Nat) (fa : List He.Fa) (fn : List He.DefD) (ex : PySem.W.Frag → Bool) : PySem.W.Hook where
  α := AlV
  obs := fun s => obsV n fa fn ex s.heap.get?
  val := fun _ => (He.valD fn, true)
  says := fun _ h => ∃ K : PySem.W.Frag, K.In h ∧ SaysV fa fn ex K
  of := fun _ _ e => ⟨_, frV_in, congrArg (fun z : AlV => z.1) e, congrArg (fun z : AlV => z.2) e, frV_no⟩
  keeps := fun _ _ _ ⟨K, hK, c⟩ k => ⟨K, PySem.W.Frag.In.keeps hK k, c⟩
theorem obsV_eq {n : Nat} {fa : List He.Fa} {fn : List He.DefD} {ex : PySem.W.Frag → Bool} {g : Addr → Option Obj} {s : Shared} (h : ∀ a, g a = s.heap.get? a) : obsV n fa fn ex g = (hookV n fa fn ex).obs s := by
  have e : g = s.heap.get? := funext h
  rw [e] <;> rfl
/-! ### facts by names -/
def excIsB (K : PySem.W.Frag) (C : Addr) : Bool := (PySem.W.clsIn K C).isSome && (He.eqO (PySem.W.findIn K (.ref C) "__getattribute__") (some (some (.builtin "BaseException.__getattribute__"))) && ((PySem.W.findIn K (.ref C) "__getattr__").isSome &&
  (decide (PySem.W.subIn K (.ref C) (.type "BaseException") = some true) && (He.eqO (PySem.W.findIn K (.ref C) "__class__") (some (some (.builtin "object.__class__"))) && (He.eqO (PySem.W.specialIn K (.builtin "object.__class__") "__get__") (some (some (.builtin "getset_descriptor.__get__"))) &&
  (decide (PySem.W.takesIn K (.builtin "object.__class__") = some true) && decide (PySem.W.mroIn K C (.type "object") = some true)))))))
theorem excIsB_ok {K : PySem.W.Frag} {C : Addr} (h : excIsB K C = true) : isiFacts K C := by
  obtain ⟨h1, h⟩ := He.ba h
  obtain ⟨h2, h⟩ := He.ba h
  obtain ⟨h3, h⟩ := He.ba h
  obtain ⟨h4, h⟩ := He.ba h
  obtain ⟨h5, h⟩ := He.ba h
  obtain ⟨h6, h⟩ := He.ba h
  obtain ⟨h7, h8⟩ := He.ba h
  exact ⟨h1, He.eqO_ok h2, Option.isSome_iff_exists.mp h3, of_decide_eq_true h4, He.eqO_ok h5, He.eqO_ok h6, of_decide_eq_true h7, of_decide_eq_true h8⟩
def isiTb (K : PySem.W.Frag) (tb : Subs) (y : Str) (u : Value) : Bool := tb.all fun p => if p.1.2 = y then excIsB K (He.ga K p.1.1) && decide (PySem.W.kitOne K (.ref (He.ga K p.1.1)) u = some p.2) else true
def subB (K : PySem.W.Frag) (sb : Subs) : Bool := sb.all fun p => decide (PySem.W.exmOne K (.ref (He.ga K p.1.1)) (.ref (He.ga K p.1.2)) = some p.2)
theorem ga_of {K : PySem.W.Frag} {x : Str} {C : Addr} (h : PySem.W.nsIn K mainGlobals x = some (some (.ref C))) : He.ga K x = C := by
  unfold He.ga
  rw [h]
theorem subB_ok {K : PySem.W.Frag} {sb : Subs} (h : subB K sb = true) : SubsOk K sb := fun x y b e C C' h1 h2 => by
  have q := of_decide_eq_true (List.all_eq_true.mp h _ (lookup_mem e))
  rw [ga_of h1, ga_of h2] at q
  exact q
theorem isiTb_ok {K : PySem.W.Frag} {tb : Subs} {y : Str} {u : Value} (h : isiTb K tb y u = true) {x : Str} {b : Bool} {C : Addr} (e : tb.lookup (x, y) = some b) (h1 : PySem.W.nsIn K mainGlobals x = some (some (.ref C))) : isiFacts K C ∧ PySem.W.kitOne K (.ref C) u = some b := by
  have q := List.all_eq_true.mp h _ (lookup_mem e)
  rw [if_pos rfl] at q
  obtain ⟨q1, q2⟩ := He.ba q
  have q2 := of_decide_eq_true q2
  rw [ga_of h1] at q1 q2
  exact ⟨excIsB_ok q1, q2⟩
/-- a value of the module's, as data -/
def conB (K : PySem.W.Frag) : Nat → Value → D → Bool
  | 0, _, _ => false
  | n + 1, u, d => match u, d with
    | .none, .non => true
    | .bool b, .bl c => b == c
    | .int i _, .int j => decide (i = j)
    | .str x _, .str y => decide (x = y)
    | .ref a, .tup ds => (match K.lookup a with
      | some ⟨.type c, _, .seq its _, _⟩ => decide (c = "tuple") && (decide (its.size ≤ sizeLine) && conBs (conB K n) its.toList ds)
      | _ => false)
    | _, _ => false
where
  conBs (f : Value → D → Bool) : List Value → List D → Bool
    | [], [] => true
    | u :: us, d :: ds => f u d && conBs f us ds
    | _, _ => false
theorem conBs_ok {K : PySem.W.Frag} {f : Value → D → Bool} (hf : ∀ u d, f u d = true → ∃ v, RelV v u ∧ ∀ H, RV K H v d) : ∀ us ds, conB.conBs f us ds = true → ∃ vs, Vals vs us ∧ ∀ H, RVs K H vs ds
  | [], [], _ => ⟨[], .nil, fun _ => .nil⟩
  | u :: us, d :: ds, h => by
    obtain ⟨h1, h2⟩ := He.ba (show (f u d && conB.conBs f us ds) = true from h)
    obtain ⟨v, r, k⟩ := hf u d h1
    obtain ⟨vs, rs, ks⟩ := conBs_ok hf us ds h2
    exact ⟨v :: vs, .cons r rs, fun H => .cons (k H) (ks H)⟩
theorem conB_ok {K : PySem.W.Frag} : ∀ (n : Nat) (u : Value) (d : D), conB K n u d = true → ∃ v, RelV v u ∧ ∀ H, RV K H v d
  | 0, _, _, h => by cases h
  | n + 1, u, d, h => by
    unfold conB at h
    split at h
    · exact ⟨.non, rfl, fun _ => .non⟩
    · rename_i b c
      rw [beq_iff_eq.mp h]
      exact ⟨.bl c, rfl, fun _ => .bl⟩
    · rename_i i t j
      rw [of_decide_eq_true h]
      exact ⟨.int j, ⟨t, rfl⟩, fun _ => .int⟩
    · rename_i i t j
      rw [of_decide_eq_true h]
      exact ⟨.str j, ⟨t, rfl⟩, fun _ => .str⟩
    · rename_i a ds
      split at h
      · rename_i c od its m sl q
        obtain ⟨h1, h2⟩ := He.ba h
        obtain ⟨h3, h4⟩ := He.ba h2
        obtain ⟨vs, r, k⟩ := conBs_ok (conB_ok n) _ _ h4
        exact ⟨.ref a, rfl, fun H => .tup (.inr ⟨_, its, m, q, congrArg Value.type (of_decide_eq_true h1), rfl, of_decide_eq_true h3, r⟩) (k H)⟩
      · cases h
    · cases h
def conF (K : PySem.W.Frag) (x : Str) (d : D) : Bool := match PySem.W.nsIn K mainGlobals x with
  | some (some u) => conB K 4 u d
  | _ => false
section
variable {P : Program} {w : World} {K : PySem.W.Frag} {mg : Str → Option Value} {base h : Heap} {k : Nat} {isi sub : Subs}
theorem gv_con {x : Str} {d : D} (X : K.In h) (G : h.Ns mainGlobals mg) (c : conF K x d = true) : GvK P w K mg base k isi x (.con d) := by
  unfold conF at c
  split at c
  · rename_i u e
    obtain ⟨v, r, q⟩ := conB_ok 4 u d c
    exact ⟨v, u, PySem.W.mg_of X G e, r, q⟩
  · cases c
theorem gv_exc {x : Str} (X : K.In h) (G : h.Ns mainGlobals mg) (c : (He.Fa.glo x).ok K = true) (e : (He.Fa.exc x).ok K = true) (t : isiTb K isi x (.ref (He.ga K x)) = true) : GvK P w K mg base k isi x .exc := by
  obtain ⟨e1, e2, e3, e4⟩ := He.exc_ok e
  have m := He.glo_ok X G c
  exact ⟨⟨_, m, He.eqO_ok c, e2, e1, e3, e4⟩, ⟨.ref (He.ga K x), .ref (He.ga K x), .own _, rfl, .inl m, fun y b C h1 h2 => isiTb_ok t h1 h2⟩⟩
theorem gv_bex {n : String} (X : K.In h) (G : h.Ns mainGlobals mg) (c : (He.Fa.free (Str.ofString n)).ok K = true) (hb : bootBuiltins (Str.ofString n) = some (.type n)) (hn : Str.ofString n ≠ "__name__") (t : isiTb K isi (Str.ofString n) (.type n) = true) : GvK P w K mg base k isi (Str.ofString n) .bex :=
  ⟨.ty n, .type n, .ty n, rfl, .inr ⟨He.free_ok X G c, hb, hn⟩, fun y b C h1 h2 => isiTb_ok t h1 h2⟩
theorem gv_bi {b : Bk} (X : K.In h) (G : h.Ns mainGlobals mg) (c : (He.Fa.free b.name).ok K = true) : GvK P w K mg base k isi b.name (.bi b) := ⟨He.free_ok X G c, rfl⟩
theorem gv_bt {t : Bt} (X : K.In h) (G : h.Ns mainGlobals mg) (c : (He.Fa.free (Str.ofString t.name)).ok K = true) : GvK P w K mg base k isi (Str.ofString t.name) (.bt t) := ⟨He.free_ok X G c, rfl⟩
theorem gv_zp (X : K.In h) (G : h.Ns mainGlobals mg) (c : (He.Fa.free "zip").ok K = true) : GvK P w K mg base k isi "zip" .zp := ⟨He.free_ok X G c, rfl⟩
theorem gv_rng (X : K.In h) (G : h.Ns mainGlobals mg) (c : (He.Fa.free "range").ok K = true) : GvK P w K mg base k isi "range" .rng := ⟨He.free_ok X G c, rfl⟩
end
/-- the law's promise: the script is a list of at most n ints, the answer is True -/
def lawF (n : Nat) : FS := fun ds S Q E => ∃ (a : Addr) (ns : List Int), ns.length ≤ n ∧ ds = [.ref a] ∧ S a = some (.scr (ns.map D.int)) ∧ (∀ b, b ≠ a → S b = none) ∧ Q = (fun d _ => d = .bl true) ∧ E = fun _ _ => False
theorem rvs_ints {K : PySem.W.Frag} {H : Hp} : ∀ ns : List Int, RVs K H (ns.map V.int) (ns.map D.int)
  | [] => .nil
  | n :: ns => .cons .int (rvs_ints ns)
theorem law_sp {K : PySem.W.Frag} (no : NoLst K) {n : Nat} {H : Hp} {a : Addr} {ns : List Int} (hl : ns.length ≤ n) (hO : Only H) (hS : SqL K H a (ns.map V.int)) : spOf K (lawF n) [.ref a] H (fun v _ => v = .bl true) fun _ _ _ => False := by
  have key : ∃ o, H a = some (.frz o (.lst (ns.map V.int))) := by
    rcases hS with (h | h) | ⟨o, its, m, h1, h2, _⟩
    · rcases hO a with z | ⟨o, xs, z⟩
      · rw [h] at z; cases z
      · rw [h] at z; cases z
    · exact h
    · exact absurd h2 (no a o h1)
  obtain ⟨o, ho⟩ := key
  refine ⟨[.ref a], put (fun _ => none) a (.scr (ns.map D.int)), fun d _ => d = .bl true, fun _ _ => False, .cons .ref .nil, ?_, ⟨a, ns, hl, rfl, put_same, fun b hb => put_ne hb, rfl, rfl⟩, ?_, fun _ _ _ _ _ z => z.elim⟩
  · intro b m e
    by_cases hb : b = a
    · subst hb
      rw [put_same] at e
      cases e
      exact ⟨o, _, ho, rvs_ints ns⟩
    · rw [put_ne hb] at e
      cases e
  · intro d S' v H' e _ rv _
    subst e
    cases rv
    rfl
theorem cx_no {P : Program} {w : World} {H : Hp} {s : Shared} {e : Value} {s' : Shared} : L2N.CX P w [] H s (fun _ _ _ => False) e s' → False := fun ⟨_, _, _, _, _, _, _, _, _, _, _, _, z⟩ => z
/-- the law's end -/
theorem law_end {l : PySem.W.OpenLaw} {n k : Nat} {q : Program} {loose : List Str} {XP : (Str → Option Value) → Heap → Prop} {fa : List He.Fa} {fn : List He.DefD} {ex : PySem.W.Frag → Bool} {d : DefRec} {x : Str} {hd : Nat}
    (hn : l.most = some n) (hn2 : n ≤ sizeLine) (hdf : d.params.defaults = []) (hr : Room (k + 1) callerA)
    (F : ∀ (w : World) (K : PySem.W.Frag) (mg : Str → Option Value) (f : Addr) (h : Heap), K.In h → h.Ns mainGlobals mg → mg d.name = some (.ref f) → SaysV fa fn ex K →
      ∃ fd : FuncData, (∀ (s : Shared) (u : Value), BindsTo s fd ⟨[u], []⟩ [(x, u)]) ∧ ∀ base : Heap, K.In base → base.Ns mainGlobals mg → FnOk l.prog w K mg base (L2N.CX l.prog w) (k + 1) f fd [x] (spOf K (lawF n))) :
    PySem.W.WalkO q loose XP (hookV hd fa fn ex).says l.row.toRowW d [] (fun f vs => PySem.call f vs) := by
  have base := fun (w : World) => @walk_ofE l n (k + 1) q loose XP (hookV hd fa fn ex).says d (L2N.CX l.prog w) x hn hn2 hdf hr
  refine Att.attach_call hn hdf fun w s₀ s₁ mg mb fa o pm cd doc a vs ns G Y ho hd hcd hmg hobj hints hlen hg => ?_
  obtain ⟨K, KX, c⟩ := Y
  obtain ⟨fd, hb, hF⟩ := F w K mg fa _ KX G.T.g hmg c
  exact law_call KX G.T.g G.T.b G.T.builtins G.T.nolimit hg hobj hints (Nat.le_trans hlen hn2) hr hF hb (fun H hO hS => law_sp c.no hlen hO hS) fun H e s' => cx_no
end Vm
/-! VmO: what is done with wishes: the plain side. -/
namespace Vm
open PySem PySem.Spec PyProof.Rows L2
/-- what a slot holds, but for an exception -/
def getS (o : Option (Option D)) (Q : KE) (S : Sto) : Prop := match o with | some (some (.exn _ _)) => False | some (some d) => Q d S | _ => False
def notX : D → Bool
  | .exn _ _ => false
  | _ => true
theorem getS_ok {d : D} {Q : KE} {S : Sto} (h : notX d = true) : getS (some (some d)) Q S = Q d S := by
  cases d <;> first | rfl | cases h
section
variable {Γ : Gam} {S : Sto} {Q : KE} {E : XP} {D : En} {X : XG} {m m1 m2 m3 : WE} {k k' : Vm.D → Vm.D → Sto → KE → Prop} {i j : Int} {x y z d : Vm.D} {a : Addr}
@[simp] theorem u_seq0 : seqW [] Γ S D X = D.nx Γ S := propext Iff.rfl
@[simp] theorem u_seq1 {s : WS} : seqW [s] Γ S D X = s Γ S ⟨fun Γ' S' => D.nx Γ' S', D.rt⟩ X := propext Iff.rfl
@[simp] theorem u_seq2 {s t : WS} {r : List WS} : seqW (s :: t :: r) Γ S D X = s Γ S ⟨fun Γ' S' => seqW (t :: r) Γ' S' D X, D.rt⟩ X := propext Iff.rfl
@[simp] theorem u_pass : passS Γ S D X = D.nx Γ S := propext Iff.rfl
@[simp] theorem u_expr : exprS m Γ S D X = m Γ S (fun _ S1 => D.nx Γ S1) (fun x S' => X x Γ S') := propext Iff.rfl
@[simp] theorem u_ret : retS m Γ S D X = m Γ S D.rt (fun x S' => X x Γ S') := propext Iff.rfl
@[simp] theorem u_retN : retN Γ S D X = D.rt .non S := propext Iff.rfl
@[simp] theorem u_if {c : WT} {p q : WS} : ifS c p q Γ S D X = c Γ S (fun t S1 => if t = true then p Γ S1 D X else q Γ S1 D X) (fun x S' => X x Γ S') := propext Iff.rfl
@[simp] theorem u_asg {t : WG} : asgS m t Γ S D X = m Γ S (fun d S1 => t d Γ S1 D.nx X) (fun x S' => X x Γ S') := propext Iff.rfl
@[simp] theorem u_nm {n : Nat} {Q : Gam → Sto → Prop} : nmW (.nm n) d Γ S Q X = Q (Γ.set n (some d)) S := propext Iff.rfl
theorem u_tp {ts : List Tg} {Q : Gam → Sto → Prop} : nmW (.tp ts) d Γ S Q X = (match tgU S (.tp ts) d with | some ups => Q (setU Γ ups) S | none => False) := rfl
@[simp] theorem u_tp2 {n1 n2 : Nat} {Q : Gam → Sto → Prop} : nmW (.tp [.nm n1, .nm n2]) (.tup [x, y]) Γ S Q X = Q ((Γ.set n1 (some x)).set n2 (some y)) S := propext Iff.rfl
@[simp] theorem u_tp3 {n1 n2 n3 : Nat} {Q : Gam → Sto → Prop} : nmW (.tp [.nm n1, .nm n2, .nm n3]) (.tup [x, y, z]) Γ S Q X = Q (((Γ.set n1 (some x)).set n2 (some y)).set n3 (some z)) S := propext Iff.rfl
@[simp] theorem u_sub {o p : WE} {Q : Gam → Sto → Prop} : subG o p d Γ S Q X = o Γ S (fun o S1 => p Γ S1 (fun i S2 => setW o i d S2 (fun S3 => Q Γ S3)) (fun x S' => X x Γ S')) (fun x S' => X x Γ S') := propext Iff.rfl
@[simp] theorem u_setW {Q : Sto → Prop} : setW (.ref a) (.int i) d S Q = onL S a fun xs => (match ixN xs.length i with | some j => Q (put S a (.lst (xs.set j d))) | none => False) := propext Iff.rfl
@[simp] theorem u_raise {c : Str} : raiseS c Γ S D X = X ⟨c, []⟩ Γ S := propext Iff.rfl
@[simp] theorem u_val : valW d Γ S Q E = Q d S := propext Iff.rfl
@[simp] theorem u_two : two m1 m2 k Γ S Q E = m1 Γ S (fun x S1 => m2 Γ S1 (fun y S2 => k x y S2 Q) E) E := propext Iff.rfl
@[simp] theorem u_one {k : Vm.D → Sto → KE → Prop} : oneW m k Γ S Q E = m Γ S (fun x S1 => k x S1 Q) E := propext Iff.rfl
@[simp] theorem u_args0 {Q : List Vm.D → Sto → Prop} : argsW [] Γ S Q E = Q [] S := propext Iff.rfl
@[simp] theorem u_args1 {ms : List WE} {Q : List Vm.D → Sto → Prop} : argsW (m :: ms) Γ S Q E = m Γ S (fun d S1 => argsW ms Γ S1 (fun ds S2 => Q (d :: ds) S2) E) E := propext Iff.rfl
@[simp] theorem u_call {F : FS} {ms : List WE} : callW F ms Γ S Q E = argsW ms Γ S (fun ds S1 => F ds S1 Q E) E := propext Iff.rfl
@[simp] theorem u_blt {k : List Vm.D → Sto → KE → Prop} {ms : List WE} : bltW k ms Γ S Q E = argsW ms Γ S (fun ds S1 => k ds S1 Q) E := propext Iff.rfl
@[simp] theorem u_tup {ms : List WE} : tupW ms Γ S Q E = argsW ms Γ S (fun ds S1 => Q (.tup ds) S1) E := propext Iff.rfl
@[simp] theorem u_lst {ms : List WE} : lstW ms Γ S Q E = argsW ms Γ S (fun ds S1 => ∀ p, S1 p = none → Q (.ref p) (put S1 p (.lst ds))) E := propext Iff.rfl
@[simp] theorem u_tst {Q : Bool → Sto → Prop} : tst m Γ S Q E = m Γ S (asB Q) E := propext Iff.rfl
@[simp] theorem u_asB {b : Bool} {Q : Bool → Sto → Prop} : asB Q (.bl b) S = Q b S := propext Iff.rfl
@[simp] theorem u_notT {c : WT} {Q : Bool → Sto → Prop} : notT c Γ S Q E = c Γ S (fun b S1 => Q (!b) S1) E := propext Iff.rfl
@[simp] theorem u_andT1 {c : WT} {Q : Bool → Sto → Prop} : andT [c] Γ S Q E = c Γ S Q E := propext Iff.rfl
@[simp] theorem u_andT2 {c c2 : WT} {cs : List WT} {Q : Bool → Sto → Prop} : andT (c :: c2 :: cs) Γ S Q E = c Γ S (fun b S1 => if b = true then andT (c2 :: cs) Γ S1 Q E else Q false S1) E := propext Iff.rfl
@[simp] theorem u_orT1 {c : WT} {Q : Bool → Sto → Prop} : orT [c] Γ S Q E = c Γ S Q E := propext Iff.rfl
@[simp] theorem u_orT2 {c c2 : WT} {cs : List WT} {Q : Bool → Sto → Prop} : orT (c :: c2 :: cs) Γ S Q E = c Γ S (fun b S1 => if b = true then Q true S1 else orT (c2 :: cs) Γ S1 Q E) E := propext Iff.rfl
@[simp] theorem u_andV1 : andV [m] Γ S Q E = m Γ S Q E := propext Iff.rfl
@[simp] theorem u_andV2 {ms : List WE} : andV (m :: m2 :: ms) Γ S Q E = m Γ S (asB fun b S1 => if b = true then andV (m2 :: ms) Γ S1 Q E else Q (.bl false) S1) E := propext Iff.rfl
@[simp] theorem u_orV1 : orV [m] Γ S Q E = m Γ S Q E := propext Iff.rfl
@[simp] theorem u_orV2 {ms : List WE} : orV (m :: m2 :: ms) Γ S Q E = m Γ S (asB fun b S1 => if b = true then Q (.bl true) S1 else orV (m2 :: ms) Γ S1 Q E) E := propext Iff.rfl
@[simp] theorem u_ifW {c : WT} : ifW c m m2 Γ S Q E = c Γ S (fun t S1 => if t = true then m Γ S1 Q E else m2 Γ S1 Q E) E := propext Iff.rfl
@[simp] theorem u_chain : chainW m1 m2 m3 k k' Γ S Q E = m1 Γ S (fun x S1 => m2 Γ S1 (fun y S2 => k x y S2 (asB fun b S3 => if b = true then m3 Γ S3 (fun z S4 => k' y z S4 Q) E else Q (.bl false) S3)) E) E := propext Iff.rfl
@[simp] theorem u_not {b : Bool} : notW (.bl b) S Q = Q (.bl (!b)) S := propext Iff.rfl
@[simp] theorem u_neg : negW (.int i) S Q = Q (.int (-i)) S := propext Iff.rfl
@[simp] theorem u_lm {k : Vm.D → List Vm.D → Sto → KE → Prop} {ms : List WE} : lmW k m ms Γ S Q E = m Γ S (fun x S1 => isL x S1 ∧ argsW ms Γ S1 (fun ds S2 => k x ds S2 Q) E) E := propext Iff.rfl
@[simp] theorem u_add : addW (.int i) (.int j) S Q = Q (.int (i + j)) S := propext Iff.rfl
@[simp] theorem u_subI : subW (.int i) (.int j) S Q = Q (.int (i - j)) S := propext Iff.rfl
@[simp] theorem u_mul : mulW (.int i) (.int j) S Q = (MulOk i j ∧ Q (.int (i * j)) S) := propext Iff.rfl
@[simp] theorem u_fdiv : fdivW (.int i) (.int j) S Q = (DivOk i j ∧ Q (.int (i.fdiv j)) S) := propext Iff.rfl
@[simp] theorem u_mod : modW (.int i) (.int j) S Q = (j ≠ 0 ∧ Q (.int (i.fmod j)) S) := propext Iff.rfl
@[simp] theorem u_pow : powW (.int i) (.int j) S Q = (CPow i j ∧ Q (.int (i ^ j.toNat)) S) := propext Iff.rfl
@[simp] theorem u_lt : ltW (.int i) (.int j) S Q = Q (.bl (decide (i < j))) S := propext Iff.rfl
@[simp] theorem u_le : leW (.int i) (.int j) S Q = Q (.bl (decide (i ≤ j))) S := propext Iff.rfl
@[simp] theorem u_gt : gtW (.int i) (.int j) S Q = Q (.bl (decide (j < i))) S := propext Iff.rfl
@[simp] theorem u_ge : geW (.int i) (.int j) S Q = Q (.bl (decide (j ≤ i))) S := propext Iff.rfl
@[simp] theorem u_eqI {n : Bool} : eqW n (.int i) (.int j) S Q = Q (.bl (n ^^ decide (i = j))) S := propext Iff.rfl
@[simp] theorem u_eqS {n : Bool} {s t : Str} : eqW n (.str s) (.str t) S Q = Q (.bl (n ^^ decide (s = t))) S := propext Iff.rfl
@[simp] theorem u_eqB {n b c : Bool} : eqW n (.bl b) (.bl c) S Q = Q (.bl (n ^^ decide (b = c))) S := propext Iff.rfl
@[simp] theorem u_abs : absW [.int i] S Q = Q (.int (i.natAbs : Int)) S := propext Iff.rfl
@[simp] theorem u_intC : intCW [.int i] S Q = Q (.int i) S := propext Iff.rfl
@[simp] theorem u_max : maxW [.int i, .int j] S Q = Q (.int (max i j)) S := propext Iff.rfl
@[simp] theorem u_min : minW [.int i, .int j] S Q = Q (.int (min i j)) S := propext Iff.rfl
@[simp] theorem u_ixT {xs : List Vm.D} : ixW (.tup xs) (.int i) S Q = (match atI xs i with | some d => Q d S | none => False) := propext Iff.rfl
@[simp] theorem u_ixR : ixW (.ref a) (.int i) S Q = onR S a fun xs => (match atI xs i with | some d => Q d S | none => False) := propext Iff.rfl
@[simp] theorem u_sumT {xs : List Vm.D} : sum2W [.tup xs] S Q = (match allM asIn xs with | some ns => Q (.int ns.sum) S | none => False) := propext Iff.rfl
@[simp] theorem u_sumR : sum2W [.ref a] S Q = onR S a fun xs => (match allM asIn xs with | some ns => Q (.int ns.sum) S | none => False) := propext Iff.rfl
@[simp] theorem u_chain3 {m4 : WE} {k2 : Vm.D → Vm.D → Sto → KE → Prop} : chain3W m1 m2 m3 m4 k k' k2 Γ S Q E = m1 Γ S (fun x S1 => m2 Γ S1 (fun y S2 => k x y S2 (asB fun b S3 => if b = true then
  m3 Γ S3 (fun z S4 => k' y z S4 (asB fun c S5 => if c = true then m4 Γ S5 (fun u S6 => k2 z u S6 Q) E else Q (.bl false) S5)) E else Q (.bl false) S3)) E) E := propext Iff.rfl
@[simp] theorem u_zip {ms : List WE} {Q : List Vm.D → (Sto → Prop) → Sto → Prop} : zipW ms Γ S Q E = argsW ms Γ S (fun ds S1 => match ds with
  | [.tup xs, .tup ys] => Q (zipD xs ys) (fun _ => True) S1
  | [.ref a, .ref b] => onR S1 a fun xs => onR S1 b fun ys => Q (zipD xs ys) (fun S => (S a = some (.lst xs) ∨ S a = some (.scr xs)) ∧ (S b = some (.lst ys) ∨ S b = some (.scr ys))) S1
  | _ => False) E := propext Iff.rfl
@[simp] theorem u_tupR : tupleW [.ref a] S Q = onR S a fun xs => Q (.tup xs) S := propext Iff.rfl
@[simp] theorem u_tupT {xs : List Vm.D} : tupleW [.tup xs] S Q = Q (.tup xs) S := propext Iff.rfl
@[simp] theorem u_listR : listW [.ref a] S Q = onR S a fun xs => ∀ p, S p = none → Q (.ref p) (put S p (.lst xs)) := propext Iff.rfl
@[simp] theorem u_listT {xs : List Vm.D} : listW [.tup xs] S Q = ∀ p, S p = none → Q (.ref p) (put S p (.lst xs)) := propext Iff.rfl
@[simp] theorem u_lenT {xs : List Vm.D} : lenW [.tup xs] S Q = Q (.int xs.length) S := propext Iff.rfl
@[simp] theorem u_lenS {z : Str} : lenW [.str z] S Q = (z.length ≤ sizeLine ∧ Q (.int z.length) S) := propext Iff.rfl
theorem u_lenR (h : S a = some (.lst xs) ∨ S a = some (.scr xs)) : lenW [.ref a] S Q = Q (.int xs.length) S := by
  unfold lenW
  rcases h with h | h <;> simp only [h]
@[simp] theorem u_isi {t : Bt} : isiW [x, .ty t] S Q = (match isiB S t x with | some b => Q (.bl b) S | none => False) := propext Iff.rfl
@[simp] theorem u_isiI {t : Bt} : isiB S t (.int i) = some (match t with | .int => true | _ => false) := rfl
@[simp] theorem u_isiB {t : Bt} {b : Bool} : isiB S t (.bl b) = some (match t with | .int => true | .bool => true | _ => false) := rfl
@[simp] theorem u_isiS {t : Bt} {b : Str} : isiB S t (.str b) = some (match t with | .str => true | _ => false) := rfl
@[simp] theorem u_isiT {t : Bt} {b : List Vm.D} : isiB S t (.tup b) = some (match t with | .tuple => true | _ => false) := rfl
@[simp] theorem u_isiN {t : Bt} : isiB S t .non = some false := rfl
@[simp] theorem u_sl {lo hi : Option WE} : slW m (partW lo) (partW hi) Γ S Q E = m Γ S (fun x S1 => partW lo Γ S1 (fun lo S2 => partW hi Γ S2 (fun hi S3 => sliceW x lo hi S3 Q) E) E) E := propext Iff.rfl
@[simp] theorem u_part0 {Q : Option Int → Sto → Prop} : partW none Γ S Q E = Q none S := propext Iff.rfl
@[simp] theorem u_part1 {Q : Option Int → Sto → Prop} : partW (some m) Γ S Q E = m Γ S (fun d S1 => match d with | .int i => Q (some i) S1 | _ => False) E := propext Iff.rfl
@[simp] theorem u_slT {xs : List Vm.D} {lo hi : Option Int} : sliceW (.tup xs) lo hi S Q = Q (.tup (cutD xs lo hi)) S := propext Iff.rfl
@[simp] theorem u_slR {lo hi : Option Int} : sliceW (.ref a) lo hi S Q = onR S a fun xs => ∀ p, S p = none → Q (.ref p) (put S p (.lst (cutD xs lo hi))) := propext Iff.rfl
@[simp] theorem u_rng {ms : List WE} {Q : List Vm.D → (Sto → Prop) → Sto → Prop} : rngW ms Γ S Q E = argsW ms Γ S (fun ds S1 => match ds with
  | [.int j] => (-(2 ^ 62) ≤ j ∧ j < 2 ^ 62) ∧ Q (intsD 0 j.toNat) (fun _ => True) S1
  | [.int i, .int j] => (-(2 ^ 62) ≤ i ∧ i < 2 ^ 62 ∧ -(2 ^ 62) ≤ j ∧ j < 2 ^ 62) ∧ Q (intsD i (j - i).toNat) (fun _ => True) S1
  | _ => False) E := propext Iff.rfl
@[simp] theorem u_it {Q : List Vm.D → (Sto → Prop) → Sto → Prop} : itW m Γ S Q E = m Γ S (fun d S1 => match d with
  | .tup ds => Q ds (fun _ => True) S1
  | .ref a => onR S1 a fun ds => Q ds (fun S => S a = some (.lst ds) ∨ S a = some (.scr ds)) S1
  | _ => False) E := propext Iff.rfl
@[simp] theorem u_for {mi : WI} {t : Tg} {b : WS} : forS mi t b Γ S D X = mi Γ S (fun ds ok S1 => forW (bodyW t b D.rt X) ok D.nx ds Γ S1) (fun x S' => X x Γ S') := propext Iff.rfl
@[simp] theorem u_setU0 : setU Γ [] = Γ := rfl
@[simp] theorem u_setU1 {p : Nat × Vm.D} {r : List (Nat × Vm.D)} : setU Γ (p :: r) = setU (Γ.set p.1 (some p.2)) r := rfl
@[simp] theorem u_body {n : Nat} {b : WS} {K : Gam → Sto → Prop} : bodyW (.nm n) b Q X d Γ S K = b (Γ.set n (some d)) S ⟨K, Q⟩ X := propext Iff.rfl
@[simp] theorem u_body2 {n1 n2 : Nat} {b : WS} {K : Gam → Sto → Prop} : bodyW (.tp [.nm n1, .nm n2]) b Q X (.tup [x, y]) Γ S K = b ((Γ.set n1 (some x)).set n2 (some y)) S ⟨K, Q⟩ X := propext Iff.rfl
@[simp] theorem u_body3 {n1 n2 n3 : Nat} {b : WS} {K : Gam → Sto → Prop} : bodyW (.tp [.nm n1, .nm n2, .nm n3]) b Q X (.tup [x, y, z]) Γ S K = b (((Γ.set n1 (some x)).set n2 (some y)).set n3 (some z)) S ⟨K, Q⟩ X := propext Iff.rfl
@[simp] theorem u_lc {mi : WI} {t : Tg} {own : List Nat} {c : WT} : lcW mi t own c m Γ S Q E = mi Γ S (fun ds ok S1 => ∀ p, S1 p = none → compW t (clean (wipeG Γ own)) c m ok p (fun S => Q (.ref p) S) ds (put S1 p (.lst []))) E := propext Iff.rfl
@[simp] theorem u_put {o : MO} : put S a o a = some o := put_same
@[simp] theorem u_putput {o u : MO} : put (put S a o) a u = put S a u := put_put
@[simp] theorem u_onLp {ds : List Vm.D} {k : List Vm.D → Prop} : onL (put S a (.lst ds)) a k = k ds := by unfold onL; rw [put_same]
@[simp] theorem u_onRp {ds : List Vm.D} {k : List Vm.D → Prop} : onR (put S a (.lst ds)) a k = k ds := by unfold onR; rw [put_same]
@[simp] theorem u_nx {Q : KE} {Γ : Gam} : (finD Q).nx Γ S = Weak (Q .non) S := propext Iff.rfl
@[simp] theorem u_rt {Q : KE} : (finD Q).rt d S = Weak (Q d) S := propext Iff.rfl
@[simp] theorem u_fx {E : XP} {x : Ex} : finX E x Γ S = Weak (E x) S := propext Iff.rfl
@[simp] theorem u_g1 : getS (some (some (.int i))) Q S = Q (.int i) S := propext Iff.rfl
@[simp] theorem u_g2 {b : Bool} : getS (some (some (.bl b))) Q S = Q (.bl b) S := propext Iff.rfl
@[simp] theorem u_g3 {b : Str} : getS (some (some (.str b))) Q S = Q (.str b) S := propext Iff.rfl
@[simp] theorem u_g4 {b : List Vm.D} : getS (some (some (.tup b))) Q S = Q (.tup b) S := propext Iff.rfl
@[simp] theorem u_g5 : getS (some (some (.ref a))) Q S = Q (.ref a) S := propext Iff.rfl
@[simp] theorem u_g6 : getS (some (some .non)) Q S = Q .non S := propext Iff.rfl
@[simp] theorem u_g7 {b : Bt} : getS (some (some (.ty b))) Q S = Q (.ty b) S := propext Iff.rfl
@[simp] theorem u_g8 {b : Str} : getS (some (some (.cls b))) Q S = Q (.cls b) S := propext Iff.rfl
@[simp] theorem u_slot {n : Nat} : slotW n Γ S Q E = getS Γ[n]? Q S := propext Iff.rfl
end
theorem onL_eq {S : Sto} {a : Addr} {ds : List D} {k : List D → Prop} (h : S a = some (.lst ds)) : onL S a k = k ds := by unfold onL; rw [h]
theorem onR_eq {S : Sto} {a : Addr} {ds : List D} {k : List D → Prop} (h : S a = some (.lst ds)) : onR S a k = k ds := by unfold onR; rw [h]
theorem onR_scr {S : Sto} {a : Addr} {ds : List D} {k : List D → Prop} (h : S a = some (.scr ds)) : onR S a k = k ds := by unfold onR; rw [h]
theorem atI0 {x : D} {r : List D} : atI (x :: r) 0 = some x := by simp [atI, ixN]
theorem at2 {x y : D} : atI [x, y] 0 = some x ∧ atI [x, y] 1 = some y := by constructor <;> simp [atI, ixN]
theorem at3 {x y z : D} : atI [x, y, z] 0 = some x ∧ atI [x, y, z] 1 = some y ∧ atI [x, y, z] 2 = some z := by refine ⟨?_, ?_, ?_⟩ <;> simp [atI, ixN]
/-- one list may change, the others stay -/
def Fr (p : Addr) (S S' : Sto) : Prop := ∀ q o, q ≠ p → S q = some o → S' q = some o
theorem Fr.refl {p : Addr} {S : Sto} : Fr p S S := fun _ _ _ h => h
theorem Fr.trans {p : Addr} {S S1 S2 : Sto} (a : Fr p S S1) (b : Fr p S1 S2) : Fr p S S2 := fun q o n h => b q o n (a q o n h)
theorem Fr.put {p : Addr} {S : Sto} {o : MO} : Fr p S (Vm.put S p o) := fun q u n h => by rw [put_ne n]; exact h
theorem Fr.new {p q : Addr} {S : Sto} {o : MO} (h : S q = none) : Fr p S (Vm.put S q o) := fun r u n e => by rw [put_ne (ne_new e h)]; exact e
theorem Fr.sub {p : Addr} {S S1 : Sto} (h : Sub S S1) : Fr p S S1 := fun q o _ e => h q o e
/-- three numbers at p -/
def Pu (p : Addr) (S : Sto) : Prop := ∃ a b c : Int, S p = some (.lst [.int a, .int b, .int c])
theorem Pu.new {p q : Addr} {S : Sto} {o : MO} (h : Pu p S) (n : S q = none) : Pu p (Vm.put S q o) := by
  obtain ⟨a, b, c, e⟩ := h
  exact ⟨a, b, c, by rw [put_ne (ne_new e n)]; exact e⟩
end Vm
/-! VsA: what the defs promise, plainly: the purse, fractions. -/
namespace Vm
open PySem PySem.Spec PyProof.Rows L2
/-! ### numbers -/
theorem cp6 : CPow 10 6 := by unfold CPow; decide
theorem cp18 : CPow 10 18 := by unfold CPow; decide
theorem mulL {i j : Int} (h1 : -1000000000000 < i) (h2 : i < 1000000000000) : MulOk i j := MulOk.left (by omega) (by omega)
theorem mulR {i j : Int} (h1 : -1000000000000 < j) (h2 : j < 1000000000000) : MulOk i j := MulOk.right (by omega) (by omega)
theorem fmod_ge (a : Int) {m : Int} (h : 0 < m) : 0 ≤ a.fmod m := Int.fmod_nonneg_of_pos a h
theorem fmod_lt (a : Int) {m : Int} (h : 0 < m) : a.fmod m < m := Int.fmod_lt_of_pos a h
theorem divS {i j : Int} (h : 0 < j) (h2 : j < 1073741824) : DivOk i j := DivOk.small (by omega) (by omega) (by omega)
theorem fmod_nat (a b : Nat) : (a : Int).fmod (b : Int) = ((a % b : Nat) : Int) := by
  rw [Int.fmod_eq_emod_of_nonneg _ (Int.natCast_nonneg b)]
  rfl
theorem gcd_step (a b : Nat) : Nat.gcd b (a % b) = Nat.gcd a b := by
  rw [Nat.gcd_comm b (a % b), ← Nat.gcd_rec, Nat.gcd_comm]
/-! ### loops -/
theorem for_inv {body : D → Gam → Sto → (Gam → Sto → Prop) → Prop} {ok : Sto → Prop} {nx : Gam → Sto → Prop} (I : List D → Gam → Sto → Prop)
    (step : ∀ d ds Γ S K, I (d :: ds) Γ S → (∀ Γ' S', I ds Γ' S' → K Γ' S') → ok S ∧ body d Γ S K) (fin : ∀ Γ S, I [] Γ S → ok S ∧ nx Γ S) : ∀ ds Γ S, I ds Γ S → forW body ok nx ds Γ S
  | [], Γ, S, h => fin Γ S h
  | d :: ds, Γ, S, h => step d ds Γ S _ h fun Γ' S' h' => for_inv I step fin ds Γ' S' h'
theorem comp_inv {v : Nat} {Γ0 : Gam} {elt : WE} {ok : Sto → Prop} {p : Addr} {k : Sto → Prop} (I : List D → List D → Sto → Prop)
    (step : ∀ d ds acc S K, I (d :: ds) acc S → S p = some (.lst acc) → (∀ y S2, S2 p = some (.lst acc) → acc.length < sizeLine → I ds (acc ++ [y]) (put S2 p (.lst (acc ++ [y]))) → K y S2) → ok S ∧ elt (Γ0.set v (some d)) S K (fun _ _ => False))
    (fin : ∀ acc S, I [] acc S → S p = some (.lst acc) → ok S ∧ k S) : ∀ ds acc S, I ds acc S → S p = some (.lst acc) → compW (.nm v) Γ0 yesT elt ok p k ds S
  | [], acc, S, h, e => fin acc S h e
  | d :: ds, acc, S, h, e => by
    obtain ⟨h1, h2⟩ := step d ds acc S (fun y S2 => onL S2 p fun acc => acc.length < sizeLine ∧ compW (.nm v) Γ0 yesT elt ok p k ds (put S2 p (.lst (acc ++ [y])))) h e fun y S2 e2 hl h2 => by
      rw [onL_eq e2]
      exact ⟨hl, comp_inv I step fin ds (acc ++ [y]) _ h2 put_same⟩
    exact ⟨h1, h2⟩
theorem intsD_succ {lo : Int} {n : Nat} : intsD lo (n + 1) = .int lo :: intsD (lo + 1) n := by
  unfold intsD
  rw [List.range_succ_eq_map]
  simp only [List.map_cons, List.map_map]
  congr 1
  · simp
  · apply List.map_congr_left
    intro a _
    simp only [Function.comp]
    congr 1
    omega
theorem intsD_zero {lo : Int} : intsD lo 0 = [] := rfl
/-! ### the purse -/
def F_law_cell : FS := fun ds S Q E => ∃ (a : Addr) (ns : List Int) (k : Int), ds = [.ref a, .int k] ∧ ns.length ≤ 63 ∧ S a = some (.scr (ns.map D.int)) ∧ 0 ≤ k ∧ k < 1000 ∧ ∀ c : Int, Q (.int c) S
def N_law_cell : List Str := ["script", "k", "state", "cell"]
def w_law_cell : WS := seqW [
  ifS (tst (two (slotW 1) (bltW lenW [(slotW 0)]) ltW)) (seqW [
    retS (two (slotW 0) (slotW 1) ixW)]) (seqW []),
  asgS (two (two (valW (.int 40487)) (two (slotW 1) (valW (.int 3)) addW) mulW) (two (slotW 1) (valW (.int 7)) addW) mulW) (nmW (.nm 2)),
  forS (itW (slW (slotW 0) (partW none) (partW (some (valW (.int 4)))))) (.nm 3) (seqW [
    asgS (two (two (two (slotW 2) (valW (.int 30011)) mulW) (slotW 3) addW) (valW (.int 2147483563)) modW) (nmW (.nm 2))]),
  retS (slotW 2)]
theorem vc_law_cell (ds : List D) (S : Sto) (Q : KE) (E : XP) (h : F_law_cell ds S Q E) : w_law_cell (startG N_law_cell ds) S (finD Q) (finX E) := by
  obtain ⟨a, ns, k, rfl, hl, hs, h0, h1, hq⟩ := h
  show w_law_cell [some (.ref a), some (.int k), none, none] S (finD Q) (finX E)
  unfold w_law_cell
  have e1 : ∀ Q : KE, lenW [.ref a] S Q = Q (.int (ns.map D.int).length) S := fun Q => u_lenR (.inr hs)
  simp [onR_scr hs, e1]
  split
  · rename_i hk
    have ek : ixN ns.length k = some k.toNat := by unfold ixN; rw [if_pos h0, if_pos hk]
    have hk2 : k.toNat < ns.length := by omega
    simp [atI, ek, hk2]
    exact .of (hq _)
  · refine ⟨mulL (by omega) (by omega), mulR (by omega) (by omega), fun p hp => ?_⟩
    refine for_inv (fun ds Γ S' => (∃ ms : List Int, ds = ms.map D.int) ∧ (∃ st : Int, (∃ c, Γ = [some (.ref a), some (.int k), some (.int st), c])) ∧ (S' = put S p (.lst (cutD (ns.map D.int) none (some 4))))) ?_ ?_ _ _ _ ?_
    · rintro d ds Γ S' K ⟨⟨ms, e⟩, ⟨st, c, rfl⟩, hS⟩ hK
      subst hS
      cases ms with
      | nil => cases e
      | cons m ms =>
        cases e
        simp
        exact ⟨mulR (by omega) (by omega), hK _ _ ⟨⟨ms, rfl⟩, ⟨_, _, rfl⟩, rfl⟩⟩
    · rintro Γ S' ⟨_, ⟨st, c, rfl⟩, rfl⟩
      simp
      exact ⟨S, Sub.new hp, hq _⟩
    · refine ⟨⟨(ns.drop (HT.sIx ns.length 0 none)).take (HT.sIx ns.length ns.length (some 4) - HT.sIx ns.length 0 none), ?_⟩, ⟨_, _, rfl⟩, rfl⟩
      unfold cutD
      simp
def F_law_purse : FS := fun ds S Q E => ∃ c : Int, ds = [.int c] ∧ ∀ p S', S p = none → Fr p S S' → Pu p S' → Q (.ref p) S'
def N_law_purse : List Str := ["cell", "digits"]
def w_law_purse : WS := seqW [
  asgS (valW (.int 0)) (nmW (.nm 1)),
  ifS (orT [(tst (two (slotW 0) (valW (.int 0)) ltW)), (tst (two (slotW 0) (two (valW (.int 10)) (valW (.int 18)) powW) geW))]) (seqW [
    asgS (bltW absW [(slotW 0)]) (nmW (.nm 1))]) (seqW []),
  retS (lstW [(two (slotW 0) (valW (.int 2147483563)) modW), (slotW 1), (valW (.int 0))])]
theorem vc_law_purse (ds : List D) (S : Sto) (Q : KE) (E : XP) (h : F_law_purse ds S Q E) : w_law_purse (startG N_law_purse ds) S (finD Q) (finX E) := by
  obtain ⟨c, rfl, hq⟩ := h
  show w_law_purse [some (.int c), none] S (finD Q) (finX E)
  unfold w_law_purse
  simp
  have key : ∀ (x y : Int) (p : Addr), S p = none → Weak (Q (D.ref p)) (put S p (MO.lst [D.int x, D.int y, D.int 0])) := fun x y p hp => .of (hq p _ hp (Fr.new hp) ⟨_, _, _, put_same⟩)
  split
  · exact fun p hp => key _ _ p hp
  · refine ⟨cp18, ?_⟩
    split
    · exact fun p hp => key _ _ p hp
    · exact fun p hp => key _ _ p hp
def F_law_take : FS := fun ds S Q E => ∃ (p : Addr) (m : Int), ds = [.ref p, .int m] ∧ 0 < m ∧ m < 1073741824 ∧ Pu p S ∧ ∀ (t : Int) S', 0 ≤ t → t < m → Fr p S S' → Pu p S' → Q (.int t) S'
def N_law_take : List Str := ["purse", "many", "state", "taken"]
def w_law_take : WS := seqW [
  asgS (two (two (slotW 0) (valW (.int 2)) ixW) (valW (.int 1)) addW) (subG (slotW 0) (valW (.int 2))),
  asgS (two (slotW 0) (valW (.int 0)) ixW) (nmW (.nm 2)),
  asgS (two (two (two (slotW 2) (two (two (slotW 2) (valW (.int 45989)) modW) (valW (.int 28019)) addW) mulW) (two (valW (.int 104723)) (two (slotW 0) (valW (.int 2)) ixW) mulW) addW) (valW (.int 2147483563)) modW) (subG (slotW 0) (valW (.int 0))),
  ifS (tst (two (two (slotW 0) (valW (.int 1)) ixW) (valW (.int 0)) gtW)) (seqW [
    asgS (two (two (slotW 0) (valW (.int 1)) ixW) (slotW 1) modW) (nmW (.nm 3)),
    asgS (two (two (slotW 0) (valW (.int 1)) ixW) (slotW 1) fdivW) (subG (slotW 0) (valW (.int 1))),
    retS (slotW 3)]) (seqW []),
  retS (two (two (two (slotW 0) (valW (.int 0)) ixW) (valW (.int 32)) fdivW) (slotW 1) modW)]
theorem vc_law_take (ds : List D) (S : Sto) (Q : KE) (E : XP) (h : F_law_take ds S Q E) : w_law_take (startG N_law_take ds) S (finD Q) (finX E) := by
  obtain ⟨p, m, rfl, h0, h1, ⟨a, b, c, hp⟩, hq⟩ := h
  show w_law_take [some (.ref p), some (.int m), none, none] S (finD Q) (finX E)
  unfold w_law_take
  simp [onL_eq hp, onR_eq hp, at3, ixN]
  have f1 := fmod_ge a (m := 45989) (by decide)
  have f2 := fmod_lt a (m := 45989) (by decide)
  refine ⟨mulR (by omega) (by omega), mulL (by omega) (by omega), ?_⟩
  split
  · exact ⟨by omega, divS h0 h1, .of (hq _ _ (fmod_ge _ h0) (fmod_lt _ h0) Fr.put ⟨_, _, _, put_same⟩)⟩
  · exact ⟨divS (by omega) (by omega), by omega, .of (hq _ _ (fmod_ge _ h0) (fmod_lt _ h0) Fr.put ⟨_, _, _, put_same⟩)⟩
/-! ### fractions -/
structure S9 (i : Int) : Prop where
  h : i.natAbs < 2 ^ 9000
structure Sz (i : Int) : Prop where
  h : i.natAbs < 2 ^ 3000
theorem S9.neg {i : Int} (h : S9 i) : S9 (-i) := ⟨by rw [Int.natAbs_neg]; exact h.h⟩
theorem Sz.neg {i : Int} (h : Sz i) : Sz (-i) := ⟨by rw [Int.natAbs_neg]; exact h.h⟩
theorem Sz.mulok {i j : Int} (h1 : Sz i) (h2 : Sz j) : MulOk i j := MulOk.bits (a := 3000) (b := 3000) h1.h h2.h (by decide) (by decide) (by decide)
theorem Sz.mul {i j : Int} (h1 : Sz i) (h2 : Sz j) : S9 (i * j) := ⟨by
  rw [Int.natAbs_mul]
  have h : i.natAbs * j.natAbs < 2 ^ 3000 * 2 ^ 3000 := Nat.mul_lt_mul'' h1.h h2.h
  rw [← Nat.pow_add] at h
  exact Nat.lt_of_lt_of_le h (Nat.pow_le_pow_right (by decide) (by decide))⟩
theorem Sz.s9 {i : Int} (h : Sz i) : S9 i := ⟨Nat.lt_of_lt_of_le h.h (Nat.pow_le_pow_right (by decide) (by decide))⟩
def fracD (t b : Int) : D := .tup [.int (t.fdiv (if b < 0 then -(Int.gcd t b : Int) else (Int.gcd t b : Int))), .int (b.fdiv (if b < 0 then -(Int.gcd t b : Int) else (Int.gcd t b : Int)))]
def dueD (t b : Int) : D := if b = 0 then .str "number" else fracD t b
def F_divisor : FS := fun ds S Q E => ∃ x y : Int, ds = [.int x, .int y] ∧ Q (.int (Int.gcd x y)) S
def N_divisor : List Str := ["one", "other", "a", "b"]
def w_divisor : WS := seqW [
  asgS (tupW [(bltW absW [(slotW 0)]), (bltW absW [(slotW 1)])]) (nmW (.tp [(.nm 2), (.nm 3)])),
  whileS (tst (two (slotW 3) (valW (.int 0)) gtW)) (seqW [
    asgS (tupW [(slotW 3), (two (slotW 2) (slotW 3) modW)]) (nmW (.tp [(.nm 2), (.nm 3)]))]),
  retS (slotW 2)]
theorem vc_divisor (ds : List D) (S : Sto) (Q : KE) (E : XP) (h : F_divisor ds S Q E) : w_divisor (startG N_divisor ds) S (finD Q) (finX E) := by
  obtain ⟨x, y, rfl, hq⟩ := h
  show w_divisor [some (.int x), some (.int y), none, none] S (finD Q) (finX E)
  unfold w_divisor
  simp
  refine ⟨fun m Γ S' => ∃ a : Nat, Γ = [some (.int x), some (.int y), some (.int a), some (.int m)] ∧ S' = S ∧ Nat.gcd a m = Int.gcd x y, ⟨y.natAbs, x.natAbs, rfl, rfl, rfl⟩, ?_⟩
  rintro m Γ S' ⟨a, rfl, rfl, hg⟩
  simp
  split
  · rename_i hm
    refine ⟨by omega, a % m, Nat.mod_lt _ hm, m, ?_, ?_⟩
    · rw [fmod_nat]
      exact ⟨rfl, rfl⟩
    · rw [gcd_step, hg]
  · rename_i hm
    have : m = 0 := by omega
    subst this
    rw [Nat.gcd_zero_right] at hg
    rw [hg]
    exact .of hq
def F_fraction : FS := fun ds S Q E => ∃ t b : Int, ds = [.int t, .int b] ∧ (b = 0 → E ⟨"NoNumber", []⟩ S) ∧ (b ≠ 0 → S9 b ∧ Q (fracD t b) S)
def N_fraction : List Str := ["top", "bottom", "part"]
def w_fraction : WS := seqW [
  ifS (tst (two (slotW 1) (valW (.int 0)) (eqW false))) (seqW [
    raiseS "NoNumber"]) (seqW []),
  asgS (callW F_divisor [(slotW 0), (slotW 1)]) (nmW (.nm 2)),
  ifS (tst (two (slotW 1) (valW (.int 0)) ltW)) (seqW [
    asgS (two (valW (.int 0)) (slotW 2) subW) (nmW (.nm 2))]) (seqW []),
  retS (tupW [(two (slotW 0) (slotW 2) fdivW), (two (slotW 1) (slotW 2) fdivW)])]
theorem gcd_div {t b : Int} (h : b ≠ 0) (hb : S9 b) {x : Int} : (Int.gcd t b : Int) ≠ 0 ∧ DivOk x (Int.gcd t b) ∧ DivOk x (-(Int.gcd t b : Int)) := by
  have h1 : 0 < Int.gcd t b := Int.gcd_pos_of_ne_zero_right t h
  have h2 : Int.gcd t b ≤ b.natAbs := Int.gcd_le_natAbs_right t h
  have h3 : Int.gcd t b < 2 ^ 9000 := Nat.lt_of_le_of_lt h2 hb.h
  refine ⟨by omega, DivOk.bits (n := 9000) (by omega) (by simpa using h3) (by decide) (by decide), DivOk.bits (n := 9000) (by omega) (by simpa using h3) (by decide) (by decide)⟩
theorem vc_fraction (ds : List D) (S : Sto) (Q : KE) (E : XP) (h : F_fraction ds S Q E) : w_fraction (startG N_fraction ds) S (finD Q) (finX E) := by
  obtain ⟨t, b, rfl, he, hq⟩ := h
  show w_fraction [some (.int t), some (.int b), none] S (finD Q) (finX E)
  unfold w_fraction
  simp
  split
  · rename_i h0
    exact .of (he h0)
  · rename_i h0
    obtain ⟨hb, hq⟩ := hq h0
    refine ⟨t, b, rfl, ?_⟩
    obtain ⟨g1, g2, g3⟩ := gcd_div (t := t) h0 hb (x := t)
    obtain ⟨_, g4, g5⟩ := gcd_div (t := t) h0 hb (x := b)
    unfold fracD at hq
    simp
    split
    · rename_i hn
      rw [if_pos hn] at hq
      exact ⟨g3, g5, .of hq⟩
    · rename_i hn
      rw [if_neg hn] at hq
      exact ⟨g2, g4, .of hq⟩
def F_law_low : FS := fun ds S Q E => ∃ t b : Int, ds = [.int t, .int b] ∧ 0 < b ∧ S9 b ∧ Q (fracD t b) S
def N_law_low : List Str := ["top", "bottom", "a", "b"]
def w_law_low : WS := seqW [
  asgS (tupW [(bltW absW [(slotW 0)]), (slotW 1)]) (nmW (.tp [(.nm 2), (.nm 3)])),
  whileS (tst (two (slotW 3) (valW (.int 0)) gtW)) (seqW [
    asgS (tupW [(slotW 3), (two (slotW 2) (slotW 3) modW)]) (nmW (.tp [(.nm 2), (.nm 3)]))]),
  retS (tupW [(two (slotW 0) (slotW 2) fdivW), (two (slotW 1) (slotW 2) fdivW)])]
theorem vc_law_low (ds : List D) (S : Sto) (Q : KE) (E : XP) (h : F_law_low ds S Q E) : w_law_low (startG N_law_low ds) S (finD Q) (finX E) := by
  obtain ⟨x, y, rfl, h0, hb, hq⟩ := h
  show w_law_low [some (.int x), some (.int y), none, none] S (finD Q) (finX E)
  unfold w_law_low
  simp
  refine ⟨fun m Γ S' => ∃ a : Nat, Γ = [some (.int x), some (.int y), some (.int a), some (.int m)] ∧ S' = S ∧ Nat.gcd a m = Int.gcd x y, ⟨y.natAbs, x.natAbs, by rw [Int.natAbs_of_nonneg (Int.le_of_lt h0)], rfl, rfl⟩, ?_⟩
  rintro m Γ S' ⟨a, rfl, rfl, hg⟩
  simp
  split
  · rename_i hm
    refine ⟨by omega, a % m, Nat.mod_lt _ hm, m, ?_, ?_⟩
    · rw [fmod_nat]
      exact ⟨rfl, rfl⟩
    · rw [gcd_step, hg]
  · rename_i hm
    have : m = 0 := by omega
    subst this
    rw [Nat.gcd_zero_right] at hg
    rw [hg]
    have h1 : y ≠ 0 := by omega
    unfold fracD at hq
    rw [if_neg (by omega)] at hq
    exact ⟨(gcd_div (t := x) h1 hb).2.1, (gcd_div (t := x) h1 hb).2.1, .of hq⟩
theorem frac_neg {t b : Int} (h : b < 0) : fracD (0 - t) (0 - b) = fracD t b := by
  unfold fracD
  rw [if_neg (by omega), if_pos h]
  rw [Int.zero_sub, Int.zero_sub, Int.gcd_neg, Int.neg_gcd]
  rw [← Int.neg_fdiv_neg t, ← Int.neg_fdiv_neg b, Int.neg_neg]
def F_law_due : FS := fun ds S Q E => ∃ t b : Int, ds = [.int t, .int b] ∧ S9 b ∧ Q (dueD t b) S
def N_law_due : List Str := ["top", "bottom"]
def w_law_due : WS := seqW [
  ifS (tst (two (slotW 1) (valW (.int 0)) (eqW false))) (seqW [
    retS (valW (.str "number"))]) (seqW []),
  ifS (tst (two (slotW 1) (valW (.int 0)) ltW)) (seqW [
    retS (callW F_law_low [(two (valW (.int 0)) (slotW 0) subW), (two (valW (.int 0)) (slotW 1) subW)])]) (seqW []),
  retS (callW F_law_low [(slotW 0), (slotW 1)])]
theorem vc_law_due (ds : List D) (S : Sto) (Q : KE) (E : XP) (h : F_law_due ds S Q E) : w_law_due (startG N_law_due ds) S (finD Q) (finX E) := by
  obtain ⟨t, b, rfl, hb, hq⟩ := h
  show w_law_due [some (.int t), some (.int b)] S (finD Q) (finX E)
  unfold w_law_due
  unfold dueD at hq
  simp
  split
  · rename_i h0
    rw [if_pos h0] at hq
    exact .of hq
  · rename_i h0
    rw [if_neg h0] at hq
    split
    · rename_i hn
      refine ⟨-t, -b, rfl, by omega, hb.neg, ?_⟩
      have e := frac_neg (t := t) hn
      rw [Int.zero_sub, Int.zero_sub] at e
      rw [e]
      exact .of hq
    · exact ⟨t, b, rfl, by omega, hb, .of hq⟩
end Vm
/-! VsB: what the defs promise, plainly: the law of fractions. -/
namespace Vm
open PySem PySem.Spec PyProof.Rows L2
/-! ### fractions, reckoned with -/
abbrev frD (a b : Int) : D := .tup [.int a, .int b]
def szF (a b c d : Int) : Prop := Sz a ∧ Sz b ∧ Sz c ∧ Sz d
def fr2 (f : Int → Int → Int → Int → Int × Int) : FS := fun ds S Q E => ∃ a b c d : Int, ds = [frD a b, frD c d] ∧ szF a b c d ∧ S9 (f a b c d).2 ∧ ((f a b c d).2 = 0 → E ⟨"NoNumber", []⟩ S) ∧ ((f a b c d).2 ≠ 0 → Q (fracD (f a b c d).1 (f a b c d).2) S)
def F_plus : FS := fr2 fun a b c d => (a * d + c * b, b * d)
def F_minus : FS := fr2 fun a b c d => (a * d - c * b, b * d)
def F_times : FS := fr2 fun a b c d => (a * c, b * d)
def F_over : FS := fr2 fun a b c d => (a * d, b * c)
def N_plus : List Str := ["a", "b"]
def w_plus : WS := seqW [
  retS (callW F_fraction [(two (two (two (slotW 0) (valW (.int 0)) ixW) (two (slotW 1) (valW (.int 1)) ixW) mulW) (two (two (slotW 1) (valW (.int 0)) ixW) (two (slotW 0) (valW (.int 1)) ixW) mulW) addW), (two (two (slotW 0) (valW (.int 1)) ixW) (two (slotW 1) (valW (.int 1)) ixW) mulW)])]
def N_minus : List Str := ["a", "b"]
def w_minus : WS := seqW [
  retS (callW F_fraction [(two (two (two (slotW 0) (valW (.int 0)) ixW) (two (slotW 1) (valW (.int 1)) ixW) mulW) (two (two (slotW 1) (valW (.int 0)) ixW) (two (slotW 0) (valW (.int 1)) ixW) mulW) subW), (two (two (slotW 0) (valW (.int 1)) ixW) (two (slotW 1) (valW (.int 1)) ixW) mulW)])]
def N_times : List Str := ["a", "b"]
def w_times : WS := seqW [
  retS (callW F_fraction [(two (two (slotW 0) (valW (.int 0)) ixW) (two (slotW 1) (valW (.int 0)) ixW) mulW), (two (two (slotW 0) (valW (.int 1)) ixW) (two (slotW 1) (valW (.int 1)) ixW) mulW)])]
def N_over : List Str := ["a", "b"]
def w_over : WS := seqW [
  retS (callW F_fraction [(two (two (slotW 0) (valW (.int 0)) ixW) (two (slotW 1) (valW (.int 1)) ixW) mulW), (two (two (slotW 0) (valW (.int 1)) ixW) (two (slotW 1) (valW (.int 0)) ixW) mulW)])]
theorem vc_plus (ds : List D) (S : Sto) (Q : KE) (E : XP) (h : F_plus ds S Q E) : w_plus (startG N_plus ds) S (finD Q) (finX E) := by
  obtain ⟨a, b, c, d, rfl, ⟨h1, h2, h3, h4⟩, hs, he, hq⟩ := h
  show w_plus [some (frD a b), some (frD c d)] S (finD Q) (finX E)
  unfold w_plus
  simp [at2]
  exact ⟨h1.mulok h4, h3.mulok h2, h2.mulok h4, _, _, rfl, fun z => .of (he z), fun z => ⟨hs, .of (hq z)⟩⟩
theorem vc_minus (ds : List D) (S : Sto) (Q : KE) (E : XP) (h : F_minus ds S Q E) : w_minus (startG N_minus ds) S (finD Q) (finX E) := by
  obtain ⟨a, b, c, d, rfl, ⟨h1, h2, h3, h4⟩, hs, he, hq⟩ := h
  show w_minus [some (frD a b), some (frD c d)] S (finD Q) (finX E)
  unfold w_minus
  simp [at2]
  exact ⟨h1.mulok h4, h3.mulok h2, h2.mulok h4, _, _, rfl, fun z => .of (he z), fun z => ⟨hs, .of (hq z)⟩⟩
theorem vc_times (ds : List D) (S : Sto) (Q : KE) (E : XP) (h : F_times ds S Q E) : w_times (startG N_times ds) S (finD Q) (finX E) := by
  obtain ⟨a, b, c, d, rfl, ⟨h1, h2, h3, h4⟩, hs, he, hq⟩ := h
  show w_times [some (frD a b), some (frD c d)] S (finD Q) (finX E)
  unfold w_times
  simp [at2]
  exact ⟨h1.mulok h3, h2.mulok h4, _, _, rfl, fun z => .of (he z), fun z => ⟨hs, .of (hq z)⟩⟩
theorem vc_over (ds : List D) (S : Sto) (Q : KE) (E : XP) (h : F_over ds S Q E) : w_over (startG N_over ds) S (finD Q) (finX E) := by
  obtain ⟨a, b, c, d, rfl, ⟨h1, h2, h3, h4⟩, hs, he, hq⟩ := h
  show w_over [some (frD a b), some (frD c d)] S (finD Q) (finX E)
  unfold w_over
  simp [at2]
  exact ⟨h1.mulok h4, h2.mulok h3, _, _, rfl, fun z => .of (he z), fun z => ⟨hs, .of (hq z)⟩⟩
def F_below : FS := fun ds S Q E => ∃ a b c d : Int, ds = [frD a b, frD c d] ∧ szF a b c d ∧ Q (.bl (decide (a * d < c * b))) S
def N_below : List Str := ["a", "b"]
def w_below : WS := seqW [
  retS (two (two (two (slotW 0) (valW (.int 0)) ixW) (two (slotW 1) (valW (.int 1)) ixW) mulW) (two (two (slotW 1) (valW (.int 0)) ixW) (two (slotW 0) (valW (.int 1)) ixW) mulW) ltW)]
theorem vc_below (ds : List D) (S : Sto) (Q : KE) (E : XP) (h : F_below ds S Q E) : w_below (startG N_below ds) S (finD Q) (finX E) := by
  obtain ⟨a, b, c, d, rfl, ⟨h1, h2, h3, h4⟩, hq⟩ := h
  show w_below [some (frD a b), some (frD c d)] S (finD Q) (finX E)
  unfold w_below
  simp [at2]
  exact ⟨h1.mulok h4, h3.mulok h2, .of hq⟩
/-! ### great numbers, fractions out of the purse -/
structure S1 (i : Int) : Prop where
  h : i.natAbs < 2 ^ 1000
theorem S1.sz {i : Int} (h : S1 i) : Sz i := ⟨Nat.lt_of_lt_of_le h.h (Nat.pow_le_pow_right (by decide) (by decide))⟩
theorem S1.mul {i j : Int} (h1 : S1 i) (h2 : S1 j) : Sz (i * j) := ⟨by
  rw [Int.natAbs_mul]
  have h : i.natAbs * j.natAbs < 2 ^ 1000 * 2 ^ 1000 := Nat.mul_lt_mul'' h1.h h2.h
  rw [← Nat.pow_add] at h
  exact Nat.lt_of_lt_of_le h (Nat.pow_le_pow_right (by decide) (by decide))⟩
def F_law_great : FS := fun ds S Q E => ∃ p, ds = [.ref p] ∧ Pu p S ∧ ∀ (n : Int) S', S1 n → Fr p S S' → Pu p S' → Q (.int n) S'
def N_law_great : List Str := ["purse", "number", "k"]
def w_law_great : WS := seqW [
  asgS (valW (.int 0)) (nmW (.nm 1)),
  forS (rngW [(two (lstW [(valW (.int 1)), (valW (.int 1)), (valW (.int 2)), (valW (.int 4)), (valW (.int 9)), (valW (.int 0)), (valW (.int 40))]) (callW F_law_take [(slotW 0), (valW (.int 7))]) ixW)]) (.nm 2) (seqW [
    asgS (two (two (slotW 1) (two (valW (.int 10)) (valW (.int 6)) powW) mulW) (callW F_law_take [(slotW 0), (two (lstW [(two (valW (.int 10)) (valW (.int 6)) powW), (valW (.int 10)), (valW (.int 1000))]) (two (slotW 2) (valW (.int 3)) modW) ixW)]) addW) (nmW (.nm 1))]),
  retS (two (slotW 1) (two (valW (.int 1)) (two (valW (.int 2)) (callW F_law_take [(slotW 0), (valW (.int 2))]) mulW) subW) mulW)]
theorem ten_pow {n : Nat} : (10 : Int) ^ (6 * n) = ((10 ^ (6 * n) : Nat) : Int) := by simp
theorem great_step {x t : Int} {i : Nat} (h1 : 0 ≤ x) (h2 : x < 10 ^ (6 * i)) (t1 : 0 ≤ t) (t2 : t < 1000000) : 0 ≤ x * 10 ^ 6 + t ∧ x * 10 ^ 6 + t < 10 ^ (6 * (i + 1)) := by
  have e : (10 : Int) ^ (6 * (i + 1)) = 10 ^ (6 * i) * 1000000 := by
    rw [Nat.mul_add, Int.pow_add]
    rfl
  rw [e]
  generalize (10 : Int) ^ (6 * i) = y at *
  constructor <;> omega
theorem vc_law_great (ds : List D) (S : Sto) (Q : KE) (E : XP) (h : F_law_great ds S Q E) : w_law_great (startG N_law_great ds) S (finD Q) (finX E) := by
  obtain ⟨p, rfl, hp, hq⟩ := h
  show w_law_great [some (.ref p), none, none] S (finD Q) (finX E)
  unfold w_law_great
  simp
  intro l hl
  refine ⟨p, 7, rfl, by decide, by decide, hp.new hl, fun t S1 t0 t1 f1 p1 => ?_⟩
  have hnp : l ≠ p := fun e => by
    obtain ⟨_, _, _, z⟩ := hp
    rw [e, z] at hl; cases hl
  have hS : S1 l = some (.lst [.int 1, .int 1, .int 2, .int 4, .int 9, .int 0, .int 40]) := f1 l _ hnp put_same
  have ht : t = 0 ∨ t = 1 ∨ t = 2 ∨ t = 3 ∨ t = 4 ∨ t = 5 ∨ t = 6 := by omega
  have key : ∃ c : Int, atI [D.int 1, .int 1, .int 2, .int 4, .int 9, .int 0, .int 40] t = some (.int c) ∧ 0 ≤ c ∧ c ≤ 40 := by
    rcases ht with rfl | rfl | rfl | rfl | rfl | rfl | rfl
    · exact ⟨1, rfl, by decide, by decide⟩
    · exact ⟨1, rfl, by decide, by decide⟩
    · exact ⟨2, rfl, by decide, by decide⟩
    · exact ⟨4, rfl, by decide, by decide⟩
    · exact ⟨9, rfl, by decide, by decide⟩
    · exact ⟨0, rfl, by decide, by decide⟩
    · exact ⟨40, rfl, by decide, by decide⟩
  obtain ⟨c, ec, c0, c1⟩ := key
  simp [onR_eq hS, ec]
  have fS : Fr p S S1 := (Fr.new hl).trans f1
  refine ⟨by omega, ?_⟩
  refine for_inv (fun ds Γ S' => ∃ (n i : Nat) (x : Int) (g : Option D), ds = intsD i n ∧ n + i = c.toNat ∧ Γ = [some (.ref p), some (.int x), g] ∧ 0 ≤ x ∧ x < 10 ^ (6 * i) ∧ Fr p S S' ∧ Pu p S') ?_ ?_ _ _ _ ?_
  · rintro d ds Γ S' K ⟨n, i, x, g, e, hn, rfl, x0, x1, f, pu⟩ hK
    cases n with
    | zero => cases e
    | succ n =>
      rw [intsD_succ] at e
      cases e
      simp
      refine ⟨cp6, mulR (by decide) (by decide), cp6, fun l2 hl2 => ?_⟩
      have h3 := fmod_ge (i : Int) (m := 3) (by decide)
      have h4 := fmod_lt (i : Int) (m := 3) (by decide)
      generalize (i : Int).fmod 3 = r at h3 h4 ⊢
      have key : ∃ m : Int, atI [D.int 1000000, .int 10, .int 1000] r = some (.int m) ∧ 0 < m ∧ m ≤ 1000000 := by
        have hr : r = 0 ∨ r = 1 ∨ r = 2 := by omega
        rcases hr with rfl | rfl | rfl
        · exact ⟨1000000, rfl, by decide, by decide⟩
        · exact ⟨10, rfl, by decide, by decide⟩
        · exact ⟨1000, rfl, by decide, by decide⟩
      obtain ⟨m, em, m0, m1⟩ := key
      simp [em]
      refine ⟨p, m, rfl, m0, by omega, pu.new hl2, fun t S2 t0 t1 f2 p2 => ?_⟩
      obtain ⟨y0, y1⟩ := great_step x0 x1 t0 (show t < 1000000 by omega)
      exact hK _ _ ⟨n, i + 1, _, _, rfl, by omega, rfl, y0, y1, (f.trans (Fr.new hl2)).trans f2, p2⟩
  · rintro Γ S' ⟨n, i, x, g, e, hn, rfl, x0, x1, f, pu⟩
    simp
    refine ⟨p, 2, rfl, by decide, by decide, pu, fun t S2 t0 t1 f2 p2 => ⟨mulL (by decide) (by decide), mulR (by omega) (by omega), .of (hq _ _ ?_ (f.trans f2) p2)⟩⟩
    cases n with
    | succ n => rw [intsD_succ] at e; cases e
    | zero =>
      have hi : i ≤ 40 := by omega
      have x2 : x.natAbs < 10 ^ (6 * 40) := by
        have h5 : (10 : Int) ^ (6 * i) ≤ 10 ^ (6 * 40) := by
          have : (10 : Nat) ^ (6 * i) ≤ 10 ^ (6 * 40) := Nat.pow_le_pow_right (by decide) (by omega)
          rw [ten_pow, ten_pow]
          exact Int.ofNat_le.mpr this
        have h6 : x < 10 ^ (6 * 40) := Int.lt_of_lt_of_le x1 h5
        rw [ten_pow] at h6
        omega
      have x3 : (10 : Nat) ^ (6 * 40) < 2 ^ 1000 := by decide +kernel
      have ht : t = 0 ∨ t = 1 := by omega
      rcases ht with rfl | rfl
      · rw [show x * (1 - 2 * 0) = x by omega]
        exact ⟨Nat.lt_trans x2 x3⟩
      · rw [show x * (1 - 2 * 1) = -x by omega]
        exact ⟨by rw [Int.natAbs_neg]; exact Nat.lt_trans x2 x3⟩
  · refine ⟨c.toNat, 0, 0, none, rfl, by omega, rfl, by decide, by decide, fS, p1⟩
end Vm
/-! VsC: what the defs promise, plainly: sameness, the kinds of errors. -/
namespace Vm
open PySem PySem.Spec PyProof.Rows L2
/-! ### sameness -/
def okD : Nat → D → Bool
  | 0, _ => false
  | n + 1, d => match d with
    | .non => true | .bl _ => true | .int _ => true | .str _ => true
    | .tup ds => decide (ds.length ≤ 1000) && ds.all (okD n)
    | _ => false
def F_law_same (j : Nat) : FS := fun ds S Q E => ∃ x, ds = [x, x] ∧ okD j x = true ∧ Q (.bl true) S
def N_law_same : List Str := ["told", "due", "k"]
def w_law_same (j : Nat) : WS := seqW [
  ifS (tst (bltW isiW [(slotW 1), (valW (.ty .tuple))])) (seqW [
    ifS (orT [(notT (tst (bltW isiW [(slotW 0), (valW (.ty .tuple))]))), (tst (two (bltW lenW [(slotW 0)]) (bltW lenW [(slotW 1)]) (eqW true)))]) (seqW [
      retS (valW (.bl false))]) (seqW []),
    retS (bltW allW [(lcW (rngW [(bltW lenW [(slotW 1)])]) (.nm 2) [2] yesT (callW (F_law_same j) [(two (slotW 0) (slotW 2) ixW), (two (slotW 1) (slotW 2) ixW)]))])]) (seqW []),
  ifS (orT [(tst (two (slotW 1) (valW .non) (isW false))), (tst (bltW isiW [(slotW 1), (valW (.ty .bool))]))]) (seqW [
    retS (orV [(andV [(two (slotW 0) (valW .non) (isW false)), (two (slotW 1) (valW .non) (isW false))]), (andV [(bltW isiW [(slotW 0), (valW (.ty .bool))]), (two (slotW 0) (slotW 1) (eqW false))])])]) (seqW []),
  ifS (tst (bltW isiW [(slotW 1), (valW (.ty .str))])) (seqW [
    retS (andV [(bltW isiW [(slotW 0), (valW (.ty .str))]), (two (slotW 0) (slotW 1) (eqW false))])]) (seqW []),
  retS (andV [(bltW isiW [(slotW 0), (valW (.ty .int))]), (oneW (bltW isiW [(slotW 0), (valW (.ty .bool))]) notW), (two (slotW 0) (slotW 1) (eqW false))])]
theorem bls_true : ∀ {acc : List D}, (∀ d ∈ acc, d = .bl true) → ∃ bs, allM asBl acc = some bs ∧ bs.all id = true
  | [], _ => ⟨[], rfl, rfl⟩
  | d :: ds, h => by
    obtain ⟨bs, h1, h2⟩ := bls_true (acc := ds) fun e he => h e (List.mem_cons_of_mem _ he)
    have hd := h d List.mem_cons_self
    subst hd
    refine ⟨true :: bs, ?_, ?_⟩
    · unfold allM
      rw [h1]
      rfl
    · simpa using h2
theorem allW_true {S : Sto} {a : Addr} {acc : List D} {Q : KE} (h : S a = some (.lst acc)) (ht : ∀ d ∈ acc, d = .bl true) (q : Q (.bl true) S) : allW [.ref a] S Q := by
  unfold allW
  show onR S a _
  rw [onR_eq h]
  obtain ⟨bs, h1, h2⟩ := bls_true ht
  rw [h1]
  show Q (.bl (bs.all id)) S
  rw [h2]
  exact q
theorem Sub.put {S S' : Sto} {p : Addr} {o : MO} (h : Sub S S') (n : S p = none) : Sub S (Vm.put S' p o) := fun a u e => by
  rw [put_ne (ne_new e n)]
  exact h a u e
theorem vc_law_same (j : Nat) (ds : List D) (S : Sto) (Q : KE) (E : XP) (h : F_law_same (j + 1) ds S Q E) : w_law_same j (startG N_law_same ds) S (finD Q) (finX E) := by
  obtain ⟨x, rfl, hx, hq⟩ := h
  show w_law_same j [some x, some x, none] S (finD Q) (finX E)
  unfold w_law_same
  cases x with
  | non => simp [isW]; exact .of hq
  | bl b => simp [isW]; exact .of hq
  | int i => simp [isW]; exact .of hq
  | str z => simp [isW]; exact .of hq
  | tup xs =>
    have hx' : (decide (xs.length ≤ 1000) && xs.all (okD j)) = true := hx
    rw [Bool.and_eq_true] at hx'
    obtain ⟨h1, h2⟩ := hx'
    have h1 := of_decide_eq_true h1
    simp
    refine ⟨by omega, fun p hp => ?_⟩
    refine comp_inv (fun rest acc S' => (∃ n i : Nat, rest = intsD i n ∧ i + n = xs.length ∧ acc.length = i) ∧ (∀ d ∈ acc, d = .bl true) ∧ Sub S S') ?_ ?_ _ [] _ ?_ put_same
    · rintro d ds acc S' K ⟨⟨n, i, e, hn, ha⟩, ht, hs⟩ hS hK
      cases n with
      | zero => cases e
      | succ n =>
        rw [intsD_succ] at e
        cases e
        have hi : i < xs.length := by omega
        have ea : atI xs (i : Int) = some xs[i] := by simp [atI, ixN, hi]
        simp [wipeG, clean, cleanO, ea]
        refine ⟨xs[i], rfl, List.all_eq_true.mp h2 _ (List.getElem_mem hi), hK _ _ hS (by rw [ha]; exact Nat.lt_of_lt_of_le (Nat.lt_of_lt_of_le hi h1) (by decide)) ⟨⟨n, i + 1, rfl, by omega, by simp [ha]⟩, ?_, hs.put hp⟩⟩
        intro e he
        rcases List.mem_append.mp he with z | z
        · exact ht e z
        · exact List.mem_singleton.mp z
    · rintro acc S' ⟨_, ht, hs⟩ hS
      exact ⟨trivial, allW_true hS ht ⟨S, hs, hq⟩⟩
    · exact ⟨⟨xs.length, 0, rfl, by omega, rfl⟩, fun d hd => (nomatch hd), Sub.new hp⟩
  | _ => cases hx
/-! ### the kinds of errors -/
def clsN : List String := ["NoNumber", "NoMany", "NoShade", "NoStuffs", "NoShelf", "NoCloths", "NoBook", "Fails", "NoHour", "NoName", "NoDeed", "NoBack", "NoMeasures", "NoStep", "TooLittle", "NoWeights", "NoPrices", "NoVat", "NoBrim", "NoRow"]
def isiV (x y : String) : Bool := x == y || y == "DyeError" || y == "ValueError"
def isiX : List String := ["NoNumber"]
def isiT : Subs := isiX.flatMap fun x => (clsN ++ ["DyeError", "ValueError"]).map fun y => ((Str.ofString x, Str.ofString y), isiV x y)
def subT : Subs := isiX.map fun x => ((Str.ofString x, Str.ofString "DyeError"), true)
def isiQ (x : Str) (v : List Bool) : Prop := (clsN ++ ["DyeError", "ValueError"]).map (fun y => isiT.lookup (x, Str.ofString y)) = v.map some
def F_law_kind : FS := fun ds S Q E => ds = [.exn "NoNumber" []] ∧ Q (.str "number") S
def N_law_kind : List Str := ["e", "flags", "words"]
def w_law_kind : WS := seqW [
  asgS (lstW [(isiE isiT 0 "NoNumber"), (isiE isiT 0 "NoMany"), (isiE isiT 0 "NoShade"), (isiE isiT 0 "NoStuffs")]) (nmW (.nm 1)),
  asgS (two (slotW 1) (lstW [(isiE isiT 0 "NoShelf"), (isiE isiT 0 "NoCloths"), (isiE isiT 0 "NoBook"), (isiE isiT 0 "Fails")]) addW) (nmW (.nm 1)),
  asgS (two (slotW 1) (lstW [(isiE isiT 0 "NoHour"), (isiE isiT 0 "NoName"), (isiE isiT 0 "NoDeed"), (isiE isiT 0 "NoBack")]) addW) (nmW (.nm 1)),
  asgS (two (slotW 1) (lstW [(isiE isiT 0 "NoMeasures"), (isiE isiT 0 "NoStep"), (isiE isiT 0 "TooLittle")]) addW) (nmW (.nm 1)),
  asgS (two (slotW 1) (lstW [(isiE isiT 0 "NoWeights"), (isiE isiT 0 "NoPrices"), (isiE isiT 0 "NoVat"), (isiE isiT 0 "NoBrim")]) addW) (nmW (.nm 1)),
  asgS (two (slotW 1) (lstW [(isiE isiT 0 "NoRow")]) addW) (nmW (.nm 1)),
  ifS (orT [(notT (tst (isiE isiT 0 "DyeError"))), (notT (tst (isiE isiT 0 "ValueError"))), (tst (two (lmW countW (slotW 1) [(valW (.bl true))]) (valW (.int 1)) (eqW true)))]) (seqW [
    retS (valW (.str "unlike"))]) (seqW []),
  asgS (lstW [(valW (.str "number")), (valW (.str "many")), (valW (.str "shade")), (valW (.str "stuffs")), (valW (.str "shelf")), (valW (.str "cloths")), (valW (.str "book")), (valW (.str "fails")), (valW (.str "hour")), (valW (.str "name")), (valW (.str "deed")), (valW (.str "back"))]) (nmW (.nm 2)),
  asgS (two (slotW 2) (lstW [(valW (.str "measures")), (valW (.str "step")), (valW (.str "little")), (valW (.str "weights")), (valW (.str "prices")), (valW (.str "vat")), (valW (.str "brim")), (valW (.str "row"))]) addW) (nmW (.nm 2)),
  retS (two (slotW 2) (lmW indexW (slotW 1) [(valW (.bl true))]) ixW)]
@[simp] theorem u_isiE {tb : Subs} {n : Nat} {y : Str} {Γ : Gam} {S : Sto} {Q : KE} {E : XP} : isiE tb n y Γ S Q E = exnAt Γ n fun c _ => (match tb.lookup (c, y) with | some b => Q (.bl b) S | none => False) := propext Iff.rfl
@[simp] theorem u_exnAt {c : Str} {fs : List (Str × D)} {Γ : Gam} {k : Str → List (Str × D) → Prop} : exnAt (some (.exn c fs) :: Γ) 0 k = k c fs := propext Iff.rfl
theorem add_new {S1 : Sto} {p q : Addr} {xs ys : List D} {Q : KE} (h : S1 p = some (.lst xs)) (n : S1 q = none) (hl : xs.length + ys.length ≤ sizeLine) (k : ∀ r S2, S2 r = some (.lst (xs ++ ys)) → Sub S1 S2 → Q (.ref r) S2) : addW (.ref p) (.ref q) (put S1 q (.lst ys)) Q := by
  unfold addW
  have e : put S1 q (.lst ys) p = some (.lst xs) := by rw [put_ne (ne_new h n)]; exact h
  simp only [onR_eq e, u_onRp, onL_eq e, u_onLp]
  refine ⟨hl, fun r hr => ?_⟩
  refine k r _ put_same ((Sub.new n).trans (Sub.new hr))
theorem isi_number : isiT.map (·.2) = [true, false, false, false, false, false, false, false, false, false, false, false, false, false, false, false, false, false, false, false, true, true] := by decide +kernel
theorem vc_law_kind (ds : List D) (S : Sto) (Q : KE) (E : XP) (h : F_law_kind ds S Q E) : w_law_kind (startG N_law_kind ds) S (finD Q) (finX E) := by
  obtain ⟨rfl, hq⟩ := h
  show w_law_kind [some (.exn "NoNumber" []), none, none] S (finD Q) (finX E)
  have l1 : isiT.lookup (Str.ofString "NoNumber", Str.ofString "NoNumber") = some true := by decide +kernel
  have l2 : isiT.lookup (Str.ofString "NoNumber", Str.ofString "NoMany") = some false := by decide +kernel
  have l3 : isiT.lookup (Str.ofString "NoNumber", Str.ofString "NoShade") = some false := by decide +kernel
  have l4 : isiT.lookup (Str.ofString "NoNumber", Str.ofString "NoStuffs") = some false := by decide +kernel
  have l5 : isiT.lookup (Str.ofString "NoNumber", Str.ofString "NoShelf") = some false := by decide +kernel
  have l6 : isiT.lookup (Str.ofString "NoNumber", Str.ofString "NoCloths") = some false := by decide +kernel
  have l7 : isiT.lookup (Str.ofString "NoNumber", Str.ofString "NoBook") = some false := by decide +kernel
  have l8 : isiT.lookup (Str.ofString "NoNumber", Str.ofString "Fails") = some false := by decide +kernel
  have l9 : isiT.lookup (Str.ofString "NoNumber", Str.ofString "NoHour") = some false := by decide +kernel
  have l10 : isiT.lookup (Str.ofString "NoNumber", Str.ofString "NoName") = some false := by decide +kernel
  have l11 : isiT.lookup (Str.ofString "NoNumber", Str.ofString "NoDeed") = some false := by decide +kernel
  have l12 : isiT.lookup (Str.ofString "NoNumber", Str.ofString "NoBack") = some false := by decide +kernel
  have l13 : isiT.lookup (Str.ofString "NoNumber", Str.ofString "NoMeasures") = some false := by decide +kernel
  have l14 : isiT.lookup (Str.ofString "NoNumber", Str.ofString "NoStep") = some false := by decide +kernel
  have l15 : isiT.lookup (Str.ofString "NoNumber", Str.ofString "TooLittle") = some false := by decide +kernel
  have l16 : isiT.lookup (Str.ofString "NoNumber", Str.ofString "NoWeights") = some false := by decide +kernel
  have l17 : isiT.lookup (Str.ofString "NoNumber", Str.ofString "NoPrices") = some false := by decide +kernel
  have l18 : isiT.lookup (Str.ofString "NoNumber", Str.ofString "NoVat") = some false := by decide +kernel
  have l19 : isiT.lookup (Str.ofString "NoNumber", Str.ofString "NoBrim") = some false := by decide +kernel
  have l20 : isiT.lookup (Str.ofString "NoNumber", Str.ofString "NoRow") = some false := by decide +kernel
  have l21 : isiT.lookup (Str.ofString "NoNumber", Str.ofString "DyeError") = some true := by decide +kernel
  have l22 : isiT.lookup (Str.ofString "NoNumber", Str.ofString "ValueError") = some true := by decide +kernel
  unfold w_law_kind
  simp [l1, l2, l3, l4, l5, l6, l7, l8, l9, l10, l11, l12, l13, l14, l15, l16, l17, l18, l19, l20, l21, l22]
  intro p1 h1 p2 h2
  refine add_new put_same h2 (by decide) fun r1 S1 e1 s1 => ?_
  simp
  intro p3 h3
  refine add_new e1 h3 (by decide) fun r2 S2 e2 s2 => ?_
  simp
  intro p4 h4
  refine add_new e2 h4 (by decide) fun r3 S3 e3 s3 => ?_
  simp
  intro p5 h5
  refine add_new e3 h5 (by decide) fun r4 S4 e4 s4 => ?_
  simp
  intro p6 h6
  refine add_new e4 h6 (by decide) fun r5 S5 e5 s5 => ?_
  simp [isL, e5, countW, onR_eq e5, flatD, eqF, List.countP_cons]
  intro q1 g1 q2 g2
  refine add_new put_same g2 (by decide) fun r6 S6 e6 s6 => ?_
  have e7 := s6 _ _ (Sub.new g1 _ _ e5)
  have hs : Sub S S6 := (Sub.new h1).trans (s1.trans (s2.trans (s3.trans (s4.trans (s5.trans ((Sub.new g1).trans s6))))))
  simp [isL, e7, indexW, onR_eq e7, flatD, eqF, firstF, List.findIdx?_cons, onR_eq e6, atI, ixN]
  exact ⟨S, hs, hq⟩
end Vm
/-! VsD: what the defs promise, plainly: the law of fractions, end. -/
namespace Vm
open PySem PySem.Spec PyProof.Rows L2
theorem Fr.keep {p l : Addr} {S S' : Sto} {o : MO} (h : Fr p S S') (n : S l = none) : Fr p S (Vm.put S' l o) := fun q u hq e => by
  rw [put_ne (ne_new e n)]
  exact h q u hq e
theorem Pu.ne {p l : Addr} {S : Sto} (h : Pu p S) (n : S l = none) : l ≠ p := fun e => by
  obtain ⟨_, _, _, z⟩ := h
  rw [e, z] at n
  cases n
theorem Pu.keep {p l : Addr} {S : Sto} {o : MO} (h : Pu p S) (n : l ≠ p) : Pu p (Vm.put S l o) := by
  obtain ⟨a, b, c, e⟩ := h
  exact ⟨a, b, c, by rw [put_ne (Ne.symm n)]; exact e⟩
theorem frac_pos {t b : Int} (hb : 0 < b) : ∃ x y : Int, fracD t b = frD x y ∧ 0 < y ∧ x.natAbs ≤ t.natAbs ∧ y.natAbs ≤ b.natAbs := by
  have hg : 0 < Int.gcd t b := Int.gcd_pos_of_ne_zero_right t (by omega)
  obtain ⟨x, hx⟩ := Int.gcd_dvd_left t b
  obtain ⟨y, hy⟩ := Int.gcd_dvd_right t b
  have e1 : t.fdiv (Int.gcd t b : Int) = x := by
    conv => lhs; arg 1; rw [hx]
    exact Int.mul_fdiv_cancel_left x (by omega)
  have e2 : b.fdiv (Int.gcd t b : Int) = y := by
    conv => lhs; arg 1; rw [hy]
    exact Int.mul_fdiv_cancel_left y (by omega)
  refine ⟨x, y, ?_, ?_, ?_, ?_⟩
  · unfold fracD
    rw [if_neg (by omega), e1, e2]
  · rcases Int.lt_or_le 0 y with z | z
    · exact z
    · have : (Int.gcd t b : Int) * y ≤ 0 := Int.mul_nonpos_of_nonneg_of_nonpos (by omega) z
      omega
  · have : t.natAbs = Int.gcd t b * x.natAbs := by
      conv => lhs; rw [hx]
      rw [Int.natAbs_mul, Int.natAbs_natCast]
    rw [this]
    exact Nat.le_mul_of_pos_left _ hg
  · have : b.natAbs = Int.gcd t b * y.natAbs := by
      conv => lhs; rw [hy]
      rw [Int.natAbs_mul, Int.natAbs_natCast]
    rw [this]
    exact Nat.le_mul_of_pos_left _ hg
def F_law_fraction : FS := fun ds S Q E => ∃ p, ds = [.ref p] ∧ Pu p S ∧ ∀ (a b : Int) S', Sz a → Sz b → 0 < b → Fr p S S' → Pu p S' → Q (frD a b) S'
def N_law_fraction : List Str := ["purse", "top"]
def w_law_fraction : WS := seqW [
  asgS (callW F_law_great [(slotW 0)]) (nmW (.nm 1)),
  retS (callW F_law_low [(slotW 1), (two (valW (.int 1)) (bltW absW [(callW F_law_great [(slotW 0)])]) addW)])]
theorem S1.succ {n : Int} (h : S1 n) : Sz (1 + (n.natAbs : Int)) := ⟨by
  have h1 := h.h
  have h2 : (2 : Nat) ^ 1000 ≤ 2 ^ 3000 - 2 := by decide +kernel
  have h3 : (1 + (n.natAbs : Int)).natAbs = 1 + n.natAbs := by omega
  rw [h3]
  generalize (2 : Nat) ^ 1000 = u at *
  have h4 : 2 ≤ (2 : Nat) ^ 3000 := by decide +kernel
  generalize (2 : Nat) ^ 3000 = v at *
  omega⟩
theorem vc_law_fraction (ds : List D) (S : Sto) (Q : KE) (E : XP) (h : F_law_fraction ds S Q E) : w_law_fraction (startG N_law_fraction ds) S (finD Q) (finX E) := by
  obtain ⟨p, rfl, hp, hq⟩ := h
  show w_law_fraction [some (.ref p), none] S (finD Q) (finX E)
  unfold w_law_fraction
  simp
  refine ⟨p, rfl, hp, fun n S1' hn f1 p1 => ⟨p, rfl, p1, fun m S2 hm f2 p2 => ?_⟩⟩
  refine ⟨n, 1 + (m.natAbs : Int), rfl, by omega, hm.succ.s9, ?_⟩
  obtain ⟨x, y, e, y0, x1, y1⟩ := frac_pos (t := n) (b := 1 + (m.natAbs : Int)) (by omega)
  rw [e]
  exact .of (hq x y _ ⟨Nat.lt_of_le_of_lt x1 hn.sz.h⟩ ⟨Nat.lt_of_le_of_lt y1 hm.succ.h⟩ y0 (f1.trans f2) p2)
def F_law_asked : FS := fun ds S Q E => ∃ (w : Str) (x y : D), ds = [.str w, x, y] ∧ ((w = "fraction" ∧ ∃ a b : Int, x = .int a ∧ y = .int b ∧ S9 b ∧ Q (dueD a b) S) ∨ (w = "over" ∧ ∃ a b c d : Int, x = frD a b ∧ y = frD c d ∧ szF a b c d ∧ Q (dueD (a * d) (b * c)) S))
def N_law_asked : List Str := ["word", "a", "b", "told", "e"]
def w_law_asked : WS := seqW [
  asgS (valW .non) (nmW (.nm 3)),
  tryAs subT "DyeError" 4 (seqW [
    ifS (tst (two (slotW 0) (valW (.str "fraction")) (eqW false))) (seqW [
      asgS (callW F_fraction [(slotW 1), (slotW 2)]) (nmW (.nm 3))]) (seqW [
      asgS (callW F_over [(slotW 1), (slotW 2)]) (nmW (.nm 3))])]) (seqW [
    asgS (callX F_law_kind 4) (nmW (.nm 3))]),
  retS (slotW 3)]
@[simp] theorem u_try {sb : Subs} {c : Str} {i : Nat} {mb ms : WS} {Γ : Gam} {S : Sto} {D : En} {X : XG} : tryAs sb c i mb ms Γ S D X = mb Γ S D (fun x Γ' S' => trySub sb c x (ms ((clean Γ').set i (some (.exn x.cls x.fs))) S' ⟨fun Γ2 S2 => D.nx (clean (Γ2.set i none)) S2, D.rt⟩ (fun _ _ _ => False)) (X x Γ' S')) := propext Iff.rfl
theorem u_trySub {sb : Subs} {c y : Str} {fs : List (Str × D)} {b : Bool} {p q : Prop} (h : sb.lookup (y, c) = some b) : trySub sb c ⟨y, fs⟩ p q = if b = true then p else q := by
  unfold trySub
  simp only [h]
  cases b <;> simp
@[simp] theorem u_callX {F : FS} {n : Nat} {Γ : Gam} {S : Sto} {Q : KE} {E : XP} : callX F n Γ S Q E = exnAt Γ n fun c fs => F [.exn c fs] S Q E := propext Iff.rfl
theorem u_exnN {n : Nat} {Γ : Gam} {k : Str → List (Str × D) → Prop} : exnAt Γ n k = (match Γ[n]? with | some (some (.exn c fs)) => k c fs | _ => False) := propext Iff.rfl
theorem sub_number : subT.lookup (("NoNumber" : Str), ("DyeError" : Str)) = some true := by decide +kernel
theorem due_zero {t b : Int} (h : b = 0) : dueD t b = .str "number" := by unfold dueD; rw [if_pos h]
theorem due_ne {t b : Int} (h : b ≠ 0) : dueD t b = fracD t b := by unfold dueD; rw [if_neg h]
theorem vc_law_asked (ds : List D) (S : Sto) (Q : KE) (E : XP) (h : F_law_asked ds S Q E) : w_law_asked (startG N_law_asked ds) S (finD Q) (finX E) := by
  obtain ⟨w, x, y, rfl, h⟩ := h
  show w_law_asked [some (.str w), some x, some y, none, none] S (finD Q) (finX E)
  unfold w_law_asked
  rcases h with ⟨rfl, a, b, rfl, rfl, hb, hq⟩ | ⟨rfl, a, b, c, d, rfl, rfl, hs, hq⟩
  · simp [u_trySub sub_number]
    refine ⟨a, b, rfl, fun h => ?_, fun h => ⟨hb, ?_⟩⟩
    · rw [due_zero h] at hq
      simp [u_trySub sub_number, u_exnN, clean, cleanO]
      exact ⟨rfl, .of hq⟩
    · rw [due_ne h] at hq
      exact .of hq
  · have ne : ¬ (("over" : Str) = ("fraction" : Str)) := by decide +kernel
    simp [u_trySub sub_number, ne]
    obtain ⟨h1, h2, h3, h4⟩ := hs
    refine ⟨a, b, c, d, rfl, ⟨h1, h2, h3, h4⟩, h2.mul h3, fun h => ?_, fun h => ?_⟩
    · have h : b * c = 0 := h
      rw [due_zero h] at hq
      simp [u_trySub sub_number, u_exnN, clean, cleanO]
      exact ⟨rfl, .of hq⟩
    · have h : b * c ≠ 0 := h
      rw [due_ne h] at hq
      exact .of hq
abbrev jmax : Nat := 4
theorem same_ok {j : Nat} {x : D} {S : Sto} {Q : KE} {E : XP} (h : okD j x = true) (q : Q (.bl true) S) : F_law_same j [x, x] S Q E := ⟨x, rfl, h, q⟩
@[simp] theorem getS_due {t b : Int} {Q : KE} {S : Sto} : getS (some (some (dueD t b))) Q S = Q (dueD t b) S := getS_ok (by unfold dueD; split <;> rfl)
@[simp] theorem getS_frac {t b : Int} {Q : KE} {S : Sto} : getS (some (some (fracD t b))) Q S = Q (fracD t b) S := getS_ok rfl
theorem ok_due {t b : Int} : okD jmax (dueD t b) = true := by unfold dueD; split <;> rfl
def F_law_both : FS := fun ds S Q E => ∃ a b c d : Int, ds = [frD a b, frD c d] ∧ szF a b c d ∧ b ≠ 0 ∧ d ≠ 0 ∧ Q (.bl true) S
def N_law_both : List Str := ["a", "b", "bottom", "one", "other"]
def w_law_both : WS := seqW [
  asgS (two (two (slotW 0) (valW (.int 1)) ixW) (two (slotW 1) (valW (.int 1)) ixW) mulW) (nmW (.nm 2)),
  asgS (tupW [(two (two (slotW 0) (valW (.int 0)) ixW) (two (slotW 1) (valW (.int 1)) ixW) mulW), (two (two (slotW 1) (valW (.int 0)) ixW) (two (slotW 0) (valW (.int 1)) ixW) mulW)]) (nmW (.tp [(.nm 3), (.nm 4)])),
  ifS (notT (tst (callW (F_law_same jmax) [(callW F_plus [(slotW 0), (slotW 1)]), (callW F_law_due [(two (slotW 3) (slotW 4) addW), (slotW 2)])]))) (seqW [
    retS (valW (.bl false))]) (seqW []),
  ifS (notT (tst (callW (F_law_same jmax) [(callW F_minus [(slotW 0), (slotW 1)]), (callW F_law_due [(two (slotW 3) (slotW 4) subW), (slotW 2)])]))) (seqW [
    retS (valW (.bl false))]) (seqW []),
  ifS (notT (tst (callW (F_law_same jmax) [(callW F_times [(slotW 0), (slotW 1)]), (callW F_law_due [(two (two (slotW 0) (valW (.int 0)) ixW) (two (slotW 1) (valW (.int 0)) ixW) mulW), (slotW 2)])]))) (seqW [
    retS (valW (.bl false))]) (seqW []),
  ifS (notT (tst (callW (F_law_same jmax) [(callW F_law_asked [(valW (.str "over")), (slotW 0), (slotW 1)]), (callW F_law_due [(slotW 3), (two (two (slotW 0) (valW (.int 1)) ixW) (two (slotW 1) (valW (.int 0)) ixW) mulW)])]))) (seqW [
    retS (valW (.bl false))]) (seqW []),
  retS (callW (F_law_same jmax) [(callW F_below [(slotW 0), (slotW 1)]), (two (slotW 3) (slotW 4) ltW)])]
theorem vc_law_both (ds : List D) (S : Sto) (Q : KE) (E : XP) (h : F_law_both ds S Q E) : w_law_both (startG N_law_both ds) S (finD Q) (finX E) := by
  obtain ⟨a, b, c, d, rfl, ⟨h1, h2, h3, h4⟩, hb, hd, hq⟩ := h
  show w_law_both [some (frD a b), some (frD c d), none, none, none] S (finD Q) (finX E)
  unfold w_law_both
  have hbd : b * d ≠ 0 := Int.mul_ne_zero hb hd
  have szf : szF a b c d := ⟨h1, h2, h3, h4⟩
  simp [at2]
  refine ⟨h2.mulok h4, h1.mulok h4, h3.mulok h2, ?_⟩
  refine ⟨a, b, c, d, rfl, szf, h2.mul h4, fun z => absurd z hbd, fun _ => ⟨_, _, rfl, h2.mul h4, ?_⟩⟩
  rw [due_ne hbd]
  refine same_ok rfl ?_
  simp
  refine ⟨a, b, c, d, rfl, szf, h2.mul h4, fun z => absurd z hbd, fun _ => ⟨_, _, rfl, h2.mul h4, ?_⟩⟩
  rw [due_ne hbd]
  refine same_ok rfl ?_
  simp
  refine ⟨a, b, c, d, rfl, szf, h2.mul h4, fun z => absurd z hbd, fun _ => ⟨h1.mulok h3, _, _, rfl, h2.mul h4, ?_⟩⟩
  rw [due_ne hbd]
  refine same_ok rfl ?_
  simp
  refine ⟨_, _, _, rfl, .inr ⟨rfl, a, b, c, d, rfl, rfl, szf, ?_⟩⟩
  simp [at2]
  refine ⟨h2.mulok h3, _, _, rfl, h2.mul h3, ?_⟩
  refine same_ok ok_due ?_
  simp
  exact ⟨a, b, c, d, rfl, szf, same_ok rfl (.of hq)⟩
end Vm
/-! VsR: fractions as rational numbers. -/
namespace Vm
open PySem PySem.Spec PyProof.Rows L2
abbrev ratD (q : Rat) : D := frD q.num q.den
/-- so many bits at most -/
structure Sq (n : Nat) (q : Rat) : Prop where
  a : q.num.natAbs < 2 ^ n
  b : q.den < 2 ^ n
theorem frac_pair {t b : Int} (hb : 0 < b) : ∃ x y : Int, fracD t b = frD x y ∧ 0 < y ∧ x.natAbs ≤ t.natAbs ∧ y.natAbs ≤ b.natAbs ∧ Int.gcd x y = 1 ∧ x * b = t * y := by
  have hg : 0 < Int.gcd t b := Int.gcd_pos_of_ne_zero_right t (by omega)
  obtain ⟨x, y, e, y0, x1, y1⟩ := frac_pos (t := t) hb
  have e1 : x = t.fdiv (Int.gcd t b : Int) ∧ y = b.fdiv (Int.gcd t b : Int) := by
    unfold fracD at e
    rw [if_neg (by omega)] at e
    injection e with e
    injection e with e1 e2
    injection e1 with e1
    injection e2 with e2
    injection e2 with e2
    exact ⟨e1.symm, e2.symm⟩
  obtain ⟨u, hu⟩ := Int.gcd_dvd_left t b
  obtain ⟨v, hv⟩ := Int.gcd_dvd_right t b
  have ex : x = u := by
    rw [e1.1]
    conv => lhs; arg 1; rw [hu]
    exact Int.mul_fdiv_cancel_left u (by omega)
  have ey : y = v := by
    rw [e1.2]
    conv => lhs; arg 1; rw [hv]
    exact Int.mul_fdiv_cancel_left v (by omega)
  subst ex ey
  refine ⟨x, y, e, y0, x1, y1, ?_, ?_⟩
  · have h : Int.gcd ((Int.gcd t b : Int) * x) ((Int.gcd t b : Int) * y) = (Int.gcd t b) * Int.gcd x y := by
      rw [Int.gcd_mul_left, Int.natAbs_natCast]
    rw [← hu, ← hv] at h
    have h2 : Int.gcd t b * 1 = Int.gcd t b * Int.gcd x y := by rw [Nat.mul_one]; exact h
    exact (Nat.eq_of_mul_eq_mul_left hg h2).symm
  · conv => lhs; rw [hv]
    conv => rhs; rw [hu]
    rw [← Int.mul_assoc, Int.mul_comm x, Int.mul_assoc]
theorem frac_rat0 {t b : Int} (hb : 0 < b) : fracD t b = ratD (Rat.divInt t b) ∧ (Rat.divInt t b).num.natAbs ≤ t.natAbs ∧ (Rat.divInt t b).den ≤ b.natAbs := by
  obtain ⟨x, y, e, y0, x1, y1, hg, hc⟩ := frac_pair (t := t) hb
  have hy : y = (y.toNat : Int) := by omega
  have q : Rat.divInt t b = ⟨x, y.toNat, by omega, by
    unfold Nat.Coprime
    have : x.natAbs.gcd y.toNat = Int.gcd x y := by unfold Int.gcd; congr 1; omega
    rw [this]; exact hg⟩ := by
    rw [Rat.mk_eq_divInt]
    refine (Rat.divInt_eq_divInt_iff (by omega) (by omega)).mpr ?_
    rw [← hy]
    exact hc.symm
  rw [q]
  refine ⟨?_, x1, by show y.toNat ≤ _; omega⟩
  rw [e]
  show frD x y = frD x (y.toNat : Int)
  rw [← hy]
theorem frac_rat {t b : Int} (hb : b ≠ 0) : fracD t b = ratD (Rat.divInt t b) ∧ (Rat.divInt t b).num.natAbs ≤ t.natAbs ∧ (Rat.divInt t b).den ≤ b.natAbs := by
  rcases Int.lt_or_lt_of_ne hb with h | h
  · have := frac_rat0 (t := 0 - t) (b := 0 - b) (by omega)
    rw [frac_neg h] at this
    have e : Rat.divInt (0 - t) (0 - b) = Rat.divInt t b := by
      refine (Rat.divInt_eq_divInt_iff (by omega) hb).mpr ?_
      rw [Int.zero_sub, Int.zero_sub, Int.neg_mul, Int.mul_neg]
    rw [e] at this
    refine ⟨this.1, by have := this.2.1; omega, by have := this.2.2; omega⟩
  · exact frac_rat0 h
theorem Sq.mono {n m : Nat} {q : Rat} (h : Sq n q) (l : n ≤ m) : Sq m q := ⟨Nat.lt_of_lt_of_le h.a (Nat.pow_le_pow_right (by decide) l), Nat.lt_of_lt_of_le h.b (Nat.pow_le_pow_right (by decide) l)⟩
theorem Sq.of {t b : Int} {n : Nat} (h : b ≠ 0) (h1 : t.natAbs < 2 ^ n) (h2 : b.natAbs < 2 ^ n) : Sq n (Rat.divInt t b) := by
  obtain ⟨_, h3, h4⟩ := frac_rat (t := t) h
  exact ⟨Nat.lt_of_le_of_lt h3 h1, Nat.lt_of_le_of_lt h4 h2⟩
theorem pow_mul_lt {a b n m : Nat} (h1 : a < 2 ^ n) (h2 : b < 2 ^ m) : a * b < 2 ^ (n + m) := by
  rw [Nat.pow_add]
  exact Nat.mul_lt_mul'' h1 h2
theorem natAbs_add {a b : Int} {n : Nat} (h1 : a.natAbs < 2 ^ n) (h2 : b.natAbs < 2 ^ n) : (a + b).natAbs < 2 ^ (n + 1) := by
  rw [Nat.pow_succ]
  omega
theorem natAbs_sub {a b : Int} {n : Nat} (h1 : a.natAbs < 2 ^ n) (h2 : b.natAbs < 2 ^ n) : (a - b).natAbs < 2 ^ (n + 1) := by
  rw [Nat.pow_succ]
  omega
theorem den_ne (q : Rat) : (q.den : Int) ≠ 0 := by have := q.den_pos; omega
theorem dens_ne (x y : Rat) : ((x.den : Int) * (y.den : Int)) ≠ 0 := Int.mul_ne_zero (den_ne x) (den_ne y)
theorem rat_add (x y : Rat) : Rat.divInt (x.num * y.den + y.num * x.den) (x.den * y.den) = x + y := by
  have h := Rat.divInt_add_divInt x.num y.num (den_ne x) (den_ne y)
  rw [Rat.num_divInt_den, Rat.num_divInt_den] at h
  exact h.symm
theorem rat_sub (x y : Rat) : Rat.divInt (x.num * y.den - y.num * x.den) (x.den * y.den) = x - y := by
  have h := Rat.divInt_sub_divInt x.num y.num (den_ne x) (den_ne y)
  rw [Rat.num_divInt_den, Rat.num_divInt_den] at h
  exact h.symm
theorem rat_mul (x y : Rat) : Rat.divInt (x.num * y.num) (x.den * y.den) = x * y := by
  have h := Rat.divInt_mul_divInt x.num y.num (d₁ := x.den) (d₂ := y.den)
  rw [Rat.num_divInt_den, Rat.num_divInt_den] at h
  exact h.symm
theorem absmul {a b : Int} {n m : Nat} (h1 : a.natAbs < 2 ^ n) (h2 : b.natAbs < 2 ^ m) : (a * b).natAbs < 2 ^ (n + m) := by
  rw [Int.natAbs_mul]
  exact pow_mul_lt h1 h2
theorem Sq.dn {n : Nat} {q : Rat} (h : Sq n q) : (q.den : Int).natAbs < 2 ^ n := by rw [Int.natAbs_natCast]; exact h.b
theorem Sq.dd {n m : Nat} {x y : Rat} (h1 : Sq n x) (h2 : Sq m y) : ((x.den : Int) * (y.den : Int)).natAbs < 2 ^ (n + m) := absmul h1.dn h2.dn
theorem pow_up {a n : Nat} (h : a < 2 ^ n) : a < 2 ^ (n + 1) := Nat.lt_of_lt_of_le h (Nat.pow_le_pow_right (by decide) (Nat.le_succ n))
theorem Sq.add {n m : Nat} {x y : Rat} (h1 : Sq n x) (h2 : Sq m y) : Sq (n + m + 1) (x + y) := by
  rw [← rat_add]
  exact Sq.of (dens_ne x y) (natAbs_add (absmul h1.a h2.dn) (by rw [Nat.add_comm n m]; exact absmul h2.a h1.dn)) (pow_up (h1.dd h2))
theorem Sq.sub {n m : Nat} {x y : Rat} (h1 : Sq n x) (h2 : Sq m y) : Sq (n + m + 1) (x - y) := by
  rw [← rat_sub]
  exact Sq.of (dens_ne x y) (natAbs_sub (absmul h1.a h2.dn) (by rw [Nat.add_comm n m]; exact absmul h2.a h1.dn)) (pow_up (h1.dd h2))
theorem Sq.mul {n m : Nat} {x y : Rat} (h1 : Sq n x) (h2 : Sq m y) : Sq (n + m) (x * y) := by
  rw [← rat_mul]
  exact Sq.of (dens_ne x y) (absmul h1.a h2.a) (h1.dd h2)
/-- small enough to be reckoned with -/
abbrev Sr (q : Rat) : Prop := Sq 3000 q
theorem Sq.szn {q : Rat} (h : Sr q) : Sz q.num := ⟨h.a⟩
theorem Sq.szd {q : Rat} (h : Sr q) : Sz (q.den : Int) := ⟨h.dn⟩
theorem szF_r {x y : Rat} (h1 : Sr x) (h2 : Sr y) : szF x.num x.den y.num y.den := ⟨h1.szn, h1.szd, h2.szn, h2.szd⟩
section
variable {x y : Rat} {S : Sto} {Q : KE} {E : XP}
theorem plus_r (h1 : Sr x) (h2 : Sr y) (q : Q (ratD (x + y)) S) : F_plus [ratD x, ratD y] S Q E :=
  ⟨x.num, x.den, y.num, y.den, rfl, szF_r h1 h2, h1.szd.mul h2.szd, fun z => absurd z (dens_ne x y), fun _ => by
    show Q (fracD (x.num * y.den + y.num * x.den) (x.den * y.den)) S
    rw [(frac_rat (dens_ne x y)).1, rat_add]
    exact q⟩
theorem minus_r (h1 : Sr x) (h2 : Sr y) (q : Q (ratD (x - y)) S) : F_minus [ratD x, ratD y] S Q E :=
  ⟨x.num, x.den, y.num, y.den, rfl, szF_r h1 h2, h1.szd.mul h2.szd, fun z => absurd z (dens_ne x y), fun _ => by
    show Q (fracD (x.num * y.den - y.num * x.den) (x.den * y.den)) S
    rw [(frac_rat (dens_ne x y)).1, rat_sub]
    exact q⟩
theorem times_r (h1 : Sr x) (h2 : Sr y) (q : Q (ratD (x * y)) S) : F_times [ratD x, ratD y] S Q E :=
  ⟨x.num, x.den, y.num, y.den, rfl, szF_r h1 h2, h1.szd.mul h2.szd, fun z => absurd z (dens_ne x y), fun _ => by
    show Q (fracD (x.num * y.num) (x.den * y.den)) S
    rw [(frac_rat (dens_ne x y)).1, rat_mul]
    exact q⟩
theorem below_r (h1 : Sr x) (h2 : Sr y) (q : Q (.bl (decide (x < y))) S) : F_below [ratD x, ratD y] S Q E := by
  refine ⟨x.num, x.den, y.num, y.den, rfl, szF_r h1 h2, ?_⟩
  have e : decide (x.num * (y.den : Int) < y.num * (x.den : Int)) = decide (x < y) := by rw [decide_eq_decide]; exact (Rat.lt_iff x y).symm
  rw [e]
  exact q
end
theorem ratD_int (n : Int) : ratD (n : Rat) = frD n 1 := rfl
theorem ratD_inj {x y : Rat} (h : ratD x = ratD y) : x = y := by
  unfold ratD frD at h
  injection h with h
  injection h with h1 h2
  injection h1 with h1
  injection h2 with h2
  injection h2 with h2
  exact Rat.ext h1 (by omega)
theorem okD_rat {q : Rat} : okD jmax (ratD q) = true := rfl
/-! ### the law's own reckoning -/
def F_law_mul : FS := fun ds S Q E => ∃ x y : Rat, ds = [ratD x, ratD y] ∧ Sr x ∧ Sr y ∧ Q (ratD (x * y)) S
def N_law_mul : List Str := ["one", "other"]
def w_law_mul : WS := seqW [
  retS (callW F_law_low [(two (two (slotW 0) (valW (.int 0)) ixW) (two (slotW 1) (valW (.int 0)) ixW) mulW), (two (two (slotW 0) (valW (.int 1)) ixW) (two (slotW 1) (valW (.int 1)) ixW) mulW)])]
theorem vc_law_mul (ds : List D) (S : Sto) (Q : KE) (E : XP) (h : F_law_mul ds S Q E) : w_law_mul (startG N_law_mul ds) S (finD Q) (finX E) := by
  obtain ⟨x, y, rfl, h1, h2, hq⟩ := h
  show w_law_mul [some (ratD x), some (ratD y)] S (finD Q) (finX E)
  unfold w_law_mul
  simp [at2]
  refine ⟨h1.szn.mulok h2.szn, h1.szd.mulok h2.szd, _, _, rfl, ?_, h1.szd.mul h2.szd, ?_⟩
  · have := dens_ne x y; have h3 : 0 ≤ (x.den : Int) * (y.den : Int) := Int.mul_nonneg (by omega) (by omega); omega
  · rw [(frac_rat (dens_ne x y)).1, rat_mul]
    exact .of hq
def F_law_add : FS := fun ds S Q E => ∃ x y : Rat, ds = [ratD x, ratD y] ∧ Sr x ∧ Sr y ∧ Q (ratD (x + y)) S
def N_law_add : List Str := ["one", "other"]
def w_law_add : WS := seqW [
  retS (callW F_law_low [(two (two (two (slotW 0) (valW (.int 0)) ixW) (two (slotW 1) (valW (.int 1)) ixW) mulW) (two (two (slotW 1) (valW (.int 0)) ixW) (two (slotW 0) (valW (.int 1)) ixW) mulW) addW), (two (two (slotW 0) (valW (.int 1)) ixW) (two (slotW 1) (valW (.int 1)) ixW) mulW)])]
theorem vc_law_add (ds : List D) (S : Sto) (Q : KE) (E : XP) (h : F_law_add ds S Q E) : w_law_add (startG N_law_add ds) S (finD Q) (finX E) := by
  obtain ⟨x, y, rfl, h1, h2, hq⟩ := h
  show w_law_add [some (ratD x), some (ratD y)] S (finD Q) (finX E)
  unfold w_law_add
  simp [at2]
  refine ⟨h1.szn.mulok h2.szd, h2.szn.mulok h1.szd, h1.szd.mulok h2.szd, _, _, rfl, ?_, h1.szd.mul h2.szd, ?_⟩
  · have := dens_ne x y; have h3 : 0 ≤ (x.den : Int) * (y.den : Int) := Int.mul_nonneg (by omega) (by omega); omega
  · rw [(frac_rat (dens_ne x y)).1, rat_add]
    exact .of hq
def F_law_less : FS := fun ds S Q E => ∃ x y : Rat, ds = [ratD x, ratD y] ∧ Sr x ∧ Sr y ∧ Q (.bl (decide (x < y))) S
def N_law_less : List Str := ["one", "other"]
def w_law_less : WS := seqW [
  retS (two (two (two (slotW 0) (valW (.int 0)) ixW) (two (slotW 1) (valW (.int 1)) ixW) mulW) (two (two (slotW 1) (valW (.int 0)) ixW) (two (slotW 0) (valW (.int 1)) ixW) mulW) ltW)]
theorem vc_law_less (ds : List D) (S : Sto) (Q : KE) (E : XP) (h : F_law_less ds S Q E) : w_law_less (startG N_law_less ds) S (finD Q) (finX E) := by
  obtain ⟨x, y, rfl, h1, h2, hq⟩ := h
  show w_law_less [some (ratD x), some (ratD y)] S (finD Q) (finX E)
  unfold w_law_less
  simp [at2]
  refine ⟨h1.szn.mulok h2.szd, h2.szn.mulok h1.szd, ?_⟩
  have e : decide (x.num * (y.den : Int) < y.num * (x.den : Int)) = decide (x < y) := by rw [decide_eq_decide]; exact (Rat.lt_iff x y).symm
  rw [e]
  exact .of hq
theorem Sq.zero {n : Nat} (h : 1 ≤ n) : Sq n 0 := Sq.mono (n := 1) ⟨by decide, by decide⟩ h
/-- rows of fractions of at most 600 bits -/
def Row (xs : List Rat) : Prop := xs.length ≤ 4 ∧ ∀ x ∈ xs, Sq 600 x
def sumR (xs : List Rat) : Rat := xs.foldl (· + ·) 0
theorem sumR_snoc {xs : List Rat} {z : Rat} : sumR (xs ++ [z]) = sumR xs + z := by
  unfold sumR
  rw [List.foldl_append]
  rfl
def F_law_sum : FS := fun ds S Q E => ∃ xs : List Rat, ds = [.tup (xs.map ratD)] ∧ Row xs ∧ Q (ratD (sumR xs)) S
def N_law_sum : List Str := ["row", "total", "one"]
def w_law_sum : WS := seqW [
  asgS (tupW [(valW (.int 0)), (valW (.int 1))]) (nmW (.nm 1)),
  forS (itW (slotW 0)) (.nm 2) (seqW [
    asgS (callW F_law_add [(slotW 1), (slotW 2)]) (nmW (.nm 1))]),
  retS (slotW 1)]
theorem sum_step {k : Nat} {s x : Rat} (hk : k < 4) (h1 : Sq (601 * k + 1) s) (h2 : Sq 600 x) : Sr s ∧ Sr x ∧ Sq (601 * (k + 1) + 1) (s + x) := by
  refine ⟨h1.mono (by omega), h2.mono (by omega), (h1.add h2).mono (by omega)⟩
theorem vc_law_sum (ds : List D) (S : Sto) (Q : KE) (E : XP) (h : F_law_sum ds S Q E) : w_law_sum (startG N_law_sum ds) S (finD Q) (finX E) := by
  obtain ⟨xs, rfl, ⟨hl, hx⟩, hq⟩ := h
  show w_law_sum [some (.tup (xs.map ratD)), none, none] S (finD Q) (finX E)
  unfold w_law_sum
  simp
  refine for_inv (fun ds Γ S' => S' = S ∧ ∃ (ys zs : List Rat) (g : Option D), xs = ys ++ zs ∧ ds = zs.map ratD ∧ Γ = [some (.tup (xs.map ratD)), some (ratD (sumR ys)), g] ∧ Sq (601 * ys.length + 1) (sumR ys)) ?_ ?_ _ _ _ ?_
  · rintro d ds Γ S' K ⟨rfl, ys, zs, g, e, e2, rfl, hs⟩ hK
    cases zs with
    | nil => cases e2
    | cons z zs =>
      cases e2
      have hlen : ys.length < 4 := by rw [e] at hl; simp at hl; omega
      obtain ⟨s1, s2, s3⟩ := sum_step hlen hs (hx z (by rw [e]; simp))
      simp
      refine ⟨_, _, rfl, s1, s2, ?_⟩
      exact hK _ _ ⟨rfl, ys ++ [z], zs, some (ratD z), by simp [e], rfl, by rw [sumR_snoc], by rw [sumR_snoc, List.length_append]; exact s3⟩
  · rintro Γ S' ⟨rfl, ys, zs, g, e, e2, rfl, hs⟩
    cases zs with
    | cons z zs => cases e2
    | nil =>
      rw [List.append_nil] at e
      subst e
      simp
      exact .of hq
  · exact ⟨rfl, [], xs, none, rfl, rfl, rfl, Sq.zero (by decide)⟩
end Vm
/-! VsS: what the defs promise, plainly: parts, shades, how far. -/
namespace Vm
open PySem PySem.Spec PyProof.Rows L2
@[simp] theorem u_for0 {body : D → Gam → Sto → (Gam → Sto → Prop) → Prop} {ok : Sto → Prop} {nx : Gam → Sto → Prop} {Γ : Gam} {S : Sto} : forW body ok nx [] Γ S = (ok S ∧ nx Γ S) := propext Iff.rfl
@[simp] theorem u_for1 {body : D → Gam → Sto → (Gam → Sto → Prop) → Prop} {ok : Sto → Prop} {nx : Gam → Sto → Prop} {Γ : Gam} {S : Sto} {d : D} {ds : List D} : forW body ok nx (d :: ds) Γ S = (ok S ∧ body d Γ S (fun Γ' S' => forW body ok nx ds Γ' S')) := propext Iff.rfl
theorem seq_cut {s t : WS} {r : List WS} {Γ : Gam} {S : Sto} {D : En} {X : XG} (h : ∀ R : WS, R = seqW (t :: r) → s Γ S ⟨fun Γ' S' => R Γ' S' D X, D.rt⟩ X) : seqW (s :: t :: r) Γ S D X := h _ rfl
@[simp] theorem u_body2n {n1 n2 n3 : Nat} {b : WS} {K : Gam → Sto → Prop} {Q : KE} {X : XG} {x y z : D} {Γ : Gam} {S : Sto} : bodyW (.tp [.tp [.nm n1, .nm n2], .nm n3]) b Q X (.tup [.tup [x, y], z]) Γ S K = b (((Γ.set n1 (some x)).set n2 (some y)).set n3 (some z)) S ⟨K, Q⟩ X := propext Iff.rfl
/-! ### comprehensions -/
theorem comp_gen {t : Tg} {Γ0 : Gam} {elt : WE} {ok : Sto → Prop} {p : Addr} {k : Sto → Prop} (I : List D → List D → Sto → Prop)
    (step : ∀ d ds acc S K, I (d :: ds) acc S → S p = some (.lst acc) → (∀ y S2, S2 p = some (.lst acc) → acc.length < sizeLine → I ds (acc ++ [y]) (put S2 p (.lst (acc ++ [y]))) → K y S2) → ok S ∧ ∃ ups, tgU S t d = some ups ∧ elt (setU Γ0 ups) S K (fun _ _ => False))
    (fin : ∀ acc S, I [] acc S → S p = some (.lst acc) → ok S ∧ k S) : ∀ ds acc S, I ds acc S → S p = some (.lst acc) → compW t Γ0 yesT elt ok p k ds S
  | [], acc, S, h, e => fin acc S h e
  | d :: ds, acc, S, h, e => by
    obtain ⟨h1, ups, hu, h2⟩ := step d ds acc S (fun y S2 => onL S2 p fun acc => acc.length < sizeLine ∧ compW t Γ0 yesT elt ok p k ds (put S2 p (.lst (acc ++ [y])))) h e fun y S2 e2 hl h2 => by
      rw [onL_eq e2]
      exact ⟨hl, comp_gen I step fin ds (acc ++ [y]) _ h2 put_same⟩
    refine ⟨h1, ?_⟩
    rw [hu]
    exact h2
theorem len_ok {n m : Nat} (h : n ≤ m) (hm : m ≤ 1000) : n < sizeLine := Nat.lt_of_le_of_lt (Nat.le_trans h hm) (by decide)
/-- each element is told by f, nothing else changes -/
theorem comp_map {t : Tg} {Γ0 : Gam} {elt : WE} {ok : Sto → Prop} {p : Addr} {k : Sto → Prop} {ds : List D} {S : Sto} (f : D → D) (n : S p = none) (hl : ds.length ≤ 1000)
    (step : ∀ d ∈ ds, ∀ S' K, Sub S S' → K (f d) S' → ok S' ∧ ∃ ups, tgU S' t d = some ups ∧ elt (setU Γ0 ups) S' K (fun _ _ => False)) (fin : ∀ S', Sub S S' → S' p = some (.lst (ds.map f)) → ok S' ∧ k S') : compW t Γ0 yesT elt ok p k ds (put S p (.lst [])) := by
  refine comp_gen (fun rest acc S' => Sub S S' ∧ ∃ pre, ds = pre ++ rest ∧ acc = pre.map f) ?_ ?_ ds [] _ ⟨Sub.new n, [], rfl, rfl⟩ put_same
  · rintro d rest acc S' K ⟨hs, pre, e, rfl⟩ hS hK
    have hlen : (pre.map f).length ≤ ds.length := by rw [e]; simp
    refine step d (by rw [e]; simp) S' K hs (hK _ _ hS (len_ok hlen hl) ⟨hs.put n, pre ++ [d], by simp [e], by simp⟩)
  · rintro acc S' ⟨hs, pre, e, rfl⟩ hS
    rw [List.append_nil] at e
    subst e
    exact fin S' hs hS
theorem paired_snoc {α β : Type} {R : α → β → Prop} {x : α} {y : β} (h : R x y) : ∀ {as : List α} {bs : List β}, Paired R as bs → Paired R (as ++ [x]) (bs ++ [y])
  | _, _, .nil => .cons h .nil
  | _, _, .cons a t => .cons a (paired_snoc h t)
/-- the elements are drawn out of the purse q -/
theorem comp_pu {t : Tg} {Γ0 : Gam} {elt : WE} {ok : Sto → Prop} {p q : Addr} {k : Sto → Prop} {ds : List D} {S : Sto} (R : D → D → Prop) (n : S p = none) (hq : Pu q S) (hl : ds.length ≤ 1000)
    (step : ∀ d ∈ ds, ∀ S' K, Fr q S S' → Pu q S' → (∀ y S2, R d y → Fr q S' S2 → Pu q S2 → K y S2) → ok S' ∧ ∃ ups, tgU S' t d = some ups ∧ elt (setU Γ0 ups) S' K (fun _ _ => False))
    (fin : ∀ acc S', Paired R ds acc → Fr q S S' → Pu q S' → S' p = some (.lst acc) → ok S' ∧ k S') : compW t Γ0 yesT elt ok p k ds (put S p (.lst [])) := by
  have hpq : p ≠ q := hq.ne n
  refine comp_gen (fun rest acc S' => Fr q S S' ∧ Pu q S' ∧ ∃ pre, ds = pre ++ rest ∧ Paired R pre acc) ?_ ?_ ds [] _ ⟨Fr.new n, hq.new n, [], rfl, .nil⟩ put_same
  · rintro d rest acc S' K ⟨hf, hp, pre, e, hr⟩ hS hK
    have hlen : acc.length ≤ ds.length := by rw [← Paired.length hr, e]; simp
    refine step d (by rw [e]; simp) S' K hf hp fun y S2 ry f2 p2 => hK _ _ (f2 _ _ hpq hS) (len_ok hlen hl) ⟨(hf.trans f2).keep n, p2.keep hpq, pre ++ [d], by simp [e], paired_snoc ry hr⟩
  · rintro acc S' ⟨hf, hp, pre, e, hr⟩ hS
    rw [List.append_nil] at e
    subst e
    exact fin acc S' hr hf hp hS
theorem allW_all {S : Sto} {a : Addr} {acc : List D} {Q : KE} {bs : List Bool} (h : S a = some (.lst acc)) (hb : allM asBl acc = some bs) (q : Q (.bl (bs.all id)) S) : allW [.ref a] S Q := by
  unfold allW
  show onR S a _
  rw [onR_eq h, hb]
  exact q
/-! ### whole numbers, how many stuffs -/
def F_is_whole : FS := fun ds S Q E => ∃ x, ds = [x] ∧ ((∃ i, x = .int i ∧ Q (.bl true) S) ∨ ((isiB S .int x = some false ∨ ∃ b, x = .bl b) ∧ Q (.bl false) S))
def N_is_whole : List Str := ["thing"]
def w_is_whole : WS := seqW [
  retS (andV [(bltW isiW [(slotW 0), (valW (.ty .int))]), (oneW (bltW isiW [(slotW 0), (valW (.ty .bool))]) notW)])]
theorem vc_is_whole (ds : List D) (S : Sto) (Q : KE) (E : XP) (h : F_is_whole ds S Q E) : w_is_whole (startG N_is_whole ds) S (finD Q) (finX E) := by
  obtain ⟨x, rfl, ⟨i, rfl, hq⟩ | ⟨hx | ⟨b, rfl⟩, hq⟩⟩ := h
  · show w_is_whole [some (.int i)] S (finD Q) (finX E)
    unfold w_is_whole
    simp
    exact .of hq
  · show w_is_whole [some x] S (finD Q) (finX E)
    unfold w_is_whole
    have hn : notX x = true := by cases x <;> first | rfl | cases hx
    simp [getS_ok hn, hx]
    exact .of hq
  · show w_is_whole [some (.bl b)] S (finD Q) (finX E)
    unfold w_is_whole
    simp
    exact .of hq
theorem whole_int {i : Int} {S : Sto} {Q : KE} {E : XP} (q : Q (.bl true) S) : F_is_whole [.int i] S Q E := ⟨_, rfl, .inl ⟨i, rfl, q⟩⟩
/-- at numbers -/
def F_is_many : FS := fun ds S Q E => ∃ m : Int, ds = [.int m] ∧ Q (.bl (decide (2 ≤ m ∧ m ≤ 4))) S
def N_is_many : List Str := ["thing"]
def w_is_many : WS := seqW [
  retS (andV [(callW F_is_whole [(slotW 0)]), (chainW (valW (.int 2)) (slotW 0) (valW (.int 4)) leW leW)])]
theorem vc_is_many (ds : List D) (S : Sto) (Q : KE) (E : XP) (h : F_is_many ds S Q E) : w_is_many (startG N_is_many ds) S (finD Q) (finX E) := by
  obtain ⟨m, rfl, hq⟩ := h
  show w_is_many [some (.int m)] S (finD Q) (finX E)
  unfold w_is_many
  simp
  refine whole_int ?_
  simp
  split
  · rename_i h2
    have e : decide (2 ≤ m ∧ m ≤ 4) = decide (m ≤ 4) := by rw [decide_eq_decide]; omega
    rw [e] at hq
    exact .of hq
  · rename_i h2
    have e : decide (2 ≤ m ∧ m ≤ 4) = false := decide_eq_false (by omega)
    rw [e] at hq
    exact .of hq
def F_check_many : FS := fun ds S Q E => ∃ m : Int, ds = [.int m] ∧ 2 ≤ m ∧ m ≤ 4 ∧ Q .non S
def N_check_many : List Str := ["many"]
def w_check_many : WS := seqW [
  ifS (notT (tst (callW F_is_many [(slotW 0)]))) (seqW [
    raiseS "NoMany"]) (seqW [])]
theorem vc_check_many (ds : List D) (S : Sto) (Q : KE) (E : XP) (h : F_check_many ds S Q E) : w_check_many (startG N_check_many ds) S (finD Q) (finX E) := by
  obtain ⟨m, rfl, h1, h2, hq⟩ := h
  show w_check_many [some (.int m)] S (finD Q) (finX E)
  unfold w_check_many
  simp
  refine ⟨m, rfl, ?_⟩
  rw [decide_eq_true ⟨h1, h2⟩]
  simp
  exact .of hq
/-! ### shades -/
abbrev prD (p : Int × Int) : D := .tup [.int p.1, .int p.2]
def boundsB (p : Int × Int) : Bool := decide (0 ≤ p.1) && (decide (p.1 ≤ p.2) && decide (p.2 ≤ 100))
def F_is_bounds : FS := fun ds S Q E => ∃ p : Int × Int, ds = [prD p] ∧ Q (.bl (boundsB p)) S
def N_is_bounds : List Str := ["thing"]
def w_is_bounds : WS := seqW [
  ifS (orT [(notT (tst (bltW isiW [(slotW 0), (valW (.ty .tuple))]))), (tst (two (bltW lenW [(slotW 0)]) (valW (.int 2)) (eqW true))), (notT (tst (callW F_is_whole [(two (slotW 0) (valW (.int 0)) ixW)]))), (notT (tst (callW F_is_whole [(two (slotW 0) (valW (.int 1)) ixW)])))]) (seqW [
    retS (valW (.bl false))]) (seqW []),
  retS (chain3W (valW (.int 0)) (two (slotW 0) (valW (.int 0)) ixW) (two (slotW 0) (valW (.int 1)) ixW) (valW (.int 100)) leW leW leW)]
theorem vc_is_bounds (ds : List D) (S : Sto) (Q : KE) (E : XP) (h : F_is_bounds ds S Q E) : w_is_bounds (startG N_is_bounds ds) S (finD Q) (finX E) := by
  obtain ⟨⟨l, u⟩, rfl, hq⟩ := h
  show w_is_bounds [some (prD (l, u))] S (finD Q) (finX E)
  unfold w_is_bounds
  unfold boundsB at hq
  simp [at2]
  refine whole_int ?_
  simp [at2]
  refine whole_int ?_
  simp [at2]
  by_cases h1 : 0 ≤ l
  · by_cases h2 : l ≤ u
    · simp [h1, h2] at hq ⊢
      exact .of hq
    · simp [h1, h2] at hq ⊢
      exact .of hq
  · simp [h1] at hq ⊢
    exact .of hq
def lows (ps : List (Int × Int)) : Int := (ps.map (·.1)).sum
def highs (ps : List (Int × Int)) : Int := (ps.map (·.2)).sum
/-- a shade of m stuffs -/
structure Shade (m : Int) (ps : List (Int × Int)) : Prop where
  len : (ps.length : Int) = m
  m2 : 2 ≤ m
  m4 : m ≤ 4
  ok : ∀ p ∈ ps, boundsB p = true
  lo : lows ps ≤ 100
  hi : 100 ≤ highs ps
abbrev shD (ps : List (Int × Int)) : D := .tup (ps.map prD)
def F_is_shade : FS := fun ds S Q E => ∃ (m : Int) (ps : List (Int × Int)), ds = [.int m, shD ps] ∧ Shade m ps ∧ Q (.bl true) S
def N_is_shade : List Str := ["many", "thing", "pair", "low", "high"]
def w_is_shade : WS := seqW [
  exprS (callW F_check_many [(slotW 0)]),
  ifS (orT [(notT (tst (bltW isiW [(slotW 1), (valW (.ty .tuple))]))), (tst (two (bltW lenW [(slotW 1)]) (slotW 0) (eqW true))), (notT (tst (bltW allW [(lcW (itW (slotW 1)) (.nm 2) [2] yesT (callW F_is_bounds [(slotW 2)]))])))]) (seqW [
    retS (valW (.bl false))]) (seqW []),
  retS (chainW (bltW sum2W [(lcW (itW (slotW 1)) (.tp [(.nm 3), (.nm 4)]) [3, 4] yesT (slotW 3))]) (valW (.int 100)) (bltW sum2W [(lcW (itW (slotW 1)) (.tp [(.nm 3), (.nm 4)]) [3, 4] yesT (slotW 4))]) leW leW)]
theorem ints_map {α : Type} (f : α → Int) : ∀ xs : List α, allM asIn (xs.map fun x => D.int (f x)) = some (xs.map f)
  | [] => rfl
  | x :: xs => by
    rw [List.map_cons, List.map_cons]
    unfold allM
    rw [ints_map f xs]
    rfl
theorem vc_is_shade (ds : List D) (S : Sto) (Q : KE) (E : XP) (h : F_is_shade ds S Q E) : w_is_shade (startG N_is_shade ds) S (finD Q) (finX E) := by
  obtain ⟨m, ps, rfl, sh, hq⟩ := h
  show w_is_shade [some (.int m), some (shD ps), none, none, none] S (finD Q) (finX E)
  have hl : (ps.map prD).length ≤ 1000 := by have := sh.len; have := sh.m4; simp; omega
  have hm : ¬ ((ps.length : Int) ≠ m) := fun z => z sh.len
  unfold w_is_shade
  refine seq_cut fun R hR => ?_
  simp
  refine ⟨m, rfl, sh.m2, sh.m4, ?_⟩
  subst hR
  refine seq_cut fun R hR => ?_
  simp [sh.len]
  intro p hp
  refine comp_map (fun _ => .bl true) hp hl ?_ ?_
  · rintro d hd S' K hs hk
    obtain ⟨z, hz, rfl⟩ := List.mem_map.mp hd
    refine ⟨trivial, _, rfl, ?_⟩
    simp [wipeG, clean, cleanO]
    refine ⟨z, rfl, ?_⟩
    rw [sh.ok z hz]
    exact hk
  · intro S1 s1 e1
    refine ⟨trivial, allW_true e1 (fun d hd => by obtain ⟨_, _, rfl⟩ := List.mem_map.mp hd; rfl) ?_⟩
    simp
    subst hR
    simp
    intro p2 hp2
    refine comp_map (fun d => match d with | .tup [x, _] => x | d => d) hp2 hl ?_ ?_
    · rintro d hd S' K hs hk
      obtain ⟨z, hz, rfl⟩ := List.mem_map.mp hd
      refine ⟨trivial, _, rfl, ?_⟩
      simp [wipeG, clean, cleanO]
      exact hk
    · intro S2 s2 e2
      rw [List.map_map] at e2
      have e2 : S2 p2 = some (.lst (ps.map fun x => D.int x.1)) := e2
      refine ⟨trivial, ?_⟩
      simp [onR_eq e2, ints_map]
      have hlo : (ps.map fun x => x.1).sum ≤ 100 := sh.lo
      have hhi : 100 ≤ (ps.map fun x => x.2).sum := sh.hi
      simp [hlo]
      intro p3 hp3
      refine comp_map (fun d => match d with | .tup [_, x] => x | d => d) hp3 hl ?_ ?_
      · rintro d hd S' K hs hk
        obtain ⟨z, hz, rfl⟩ := List.mem_map.mp hd
        refine ⟨trivial, _, rfl, ?_⟩
        simp [wipeG, clean, cleanO]
        exact hk
      · intro S3 s3 e3
        rw [List.map_map] at e3
        have e3 : S3 p3 = some (.lst (ps.map fun x => D.int x.2)) := e3
        refine ⟨trivial, ?_⟩
        simp [onR_eq e3, ints_map, hhi]
        exact ⟨S, s1.trans (s2.trans s3), hq⟩
def F_check_shade : FS := fun ds S Q E => ∃ (m : Int) (ps : List (Int × Int)), ds = [.int m, shD ps] ∧ Shade m ps ∧ Q .non S
def N_check_shade : List Str := ["many", "shade"]
def w_check_shade : WS := seqW [
  ifS (notT (tst (callW F_is_shade [(slotW 0), (slotW 1)]))) (seqW [
    raiseS "NoShade"]) (seqW [])]
theorem vc_check_shade (ds : List D) (S : Sto) (Q : KE) (E : XP) (h : F_check_shade ds S Q E) : w_check_shade (startG N_check_shade ds) S (finD Q) (finX E) := by
  obtain ⟨m, ps, rfl, sh, hq⟩ := h
  show w_check_shade [some (.int m), some (shD ps)] S (finD Q) (finX E)
  unfold w_check_shade
  simp
  refine ⟨m, ps, rfl, sh, ?_⟩
  simp
  exact .of hq
end Vm
/-! VsT: what the defs promise, plainly: how far stuffs are from a shade. -/
namespace Vm
open PySem PySem.Spec PyProof.Rows L2
/-! ### fractions known, amounts -/
def F_is_fraction : FS := fun ds S Q E => ∃ q : Rat, ds = [ratD q] ∧ Q (.bl true) S
def N_is_fraction : List Str := ["thing"]
def w_is_fraction : WS := seqW [
  ifS (orT [(notT (tst (bltW isiW [(slotW 0), (valW (.ty .tuple))]))), (tst (two (bltW lenW [(slotW 0)]) (valW (.int 2)) (eqW true)))]) (seqW [
    retS (valW (.bl false))]) (seqW []),
  ifS (orT [(notT (tst (callW F_is_whole [(two (slotW 0) (valW (.int 0)) ixW)]))), (notT (tst (callW F_is_whole [(two (slotW 0) (valW (.int 1)) ixW)]))), (tst (two (two (slotW 0) (valW (.int 1)) ixW) (valW (.int 1)) ltW))]) (seqW [
    retS (valW (.bl false))]) (seqW []),
  retS (two (callW F_divisor [(two (slotW 0) (valW (.int 0)) ixW), (two (slotW 0) (valW (.int 1)) ixW)]) (valW (.int 1)) (eqW false))]
theorem rat_gcd (q : Rat) : Int.gcd q.num q.den = 1 := by
  have h := q.reduced
  unfold Nat.Coprime at h
  unfold Int.gcd
  rw [Int.natAbs_natCast]
  exact h
theorem vc_is_fraction (ds : List D) (S : Sto) (Q : KE) (E : XP) (h : F_is_fraction ds S Q E) : w_is_fraction (startG N_is_fraction ds) S (finD Q) (finX E) := by
  obtain ⟨q, rfl, hq⟩ := h
  show w_is_fraction [some (ratD q)] S (finD Q) (finX E)
  have hd : ¬ ((q.den : Int) < 1) := by have := q.den_pos; omega
  have hd2 : ¬ (q.den < 1) := by have := q.den_pos; omega
  unfold w_is_fraction
  simp [at2]
  refine whole_int ?_
  simp [at2]
  refine whole_int ?_
  simp [at2, hd, hd2, q.den_nz]
  refine ⟨q.num, q.den, rfl, ?_⟩
  rw [rat_gcd]
  simp
  exact .of hq
abbrev rowD (xs : List Rat) : D := .tup (xs.map ratD)
def F_is_amounts : FS := fun ds S Q E => ∃ (m : Int) (xs : List Rat), ds = [.int m, rowD xs] ∧ (xs.length : Int) = m ∧ m ≤ 4 ∧ (∀ x ∈ xs, 0 ≤ x) ∧ Q (.bl true) S
def N_is_amounts : List Str := ["many", "thing", "one"]
def w_is_amounts : WS := seqW [
  ifS (orT [(notT (tst (bltW isiW [(slotW 1), (valW (.ty .tuple))]))), (tst (two (bltW lenW [(slotW 1)]) (slotW 0) (eqW true)))]) (seqW [
    retS (valW (.bl false))]) (seqW []),
  retS (bltW allW [(lcW (itW (slotW 1)) (.nm 2) [2] yesT (andV [(callW F_is_fraction [(slotW 2)]), (two (two (slotW 2) (valW (.int 0)) ixW) (valW (.int 0)) geW)]))])]
theorem vc_is_amounts (ds : List D) (S : Sto) (Q : KE) (E : XP) (h : F_is_amounts ds S Q E) : w_is_amounts (startG N_is_amounts ds) S (finD Q) (finX E) := by
  obtain ⟨m, xs, rfl, hl, h4, h0, hq⟩ := h
  show w_is_amounts [some (.int m), some (rowD xs), none] S (finD Q) (finX E)
  have hl2 : (xs.map ratD).length ≤ 1000 := by simp; omega
  unfold w_is_amounts
  simp [hl]
  intro p hp
  refine comp_map (fun _ => .bl true) hp hl2 ?_ ?_
  · rintro d hd S' K hs hk
    obtain ⟨z, hz, rfl⟩ := List.mem_map.mp hd
    have hz0 : 0 ≤ z.num := Rat.num_nonneg.mpr (h0 z hz)
    refine ⟨trivial, _, rfl, ?_⟩
    simp [wipeG, clean, cleanO]
    refine ⟨z, rfl, ?_⟩
    simp [at2, hz0]
    exact hk
  · intro S1 s1 e1
    exact ⟨trivial, allW_true e1 (fun d hd => by obtain ⟨_, _, rfl⟩ := List.mem_map.mp hd; rfl) ⟨S, s1, hq⟩⟩
def F_as_fraction : FS := fun ds S Q E => ∃ n : Int, ds = [.int n] ∧ Q (ratD (n : Rat)) S
def N_as_fraction : List Str := ["number"]
def w_as_fraction : WS := seqW [
  retS (tupW [(slotW 0), (valW (.int 1))])]
theorem vc_as_fraction (ds : List D) (S : Sto) (Q : KE) (E : XP) (h : F_as_fraction ds S Q E) : w_as_fraction (startG N_as_fraction ds) S (finD Q) (finX E) := by
  obtain ⟨n, rfl, hq⟩ := h
  show w_as_fraction [some (.int n)] S (finD Q) (finX E)
  unfold w_as_fraction
  simp
  exact .of hq
/-- rows of at most four fractions of n bits -/
structure Rown (n : Nat) (xs : List Rat) : Prop where
  len : xs.length ≤ 4
  ok : ∀ x ∈ xs, Sq n x
theorem sum_stepn {n k : Nat} {s x : Rat} (hk : k < 4) (hn : n ≤ 600) (h1 : Sq ((n + 1) * k + 1) s) (h2 : Sq n x) : Sr s ∧ Sr x ∧ Sq ((n + 1) * (k + 1) + 1) (s + x) := by
  have e : (n + 1) * (k + 1) = (n + 1) * k + (n + 1) := Nat.mul_succ _ _
  have b : (n + 1) * k ≤ 601 * 3 := Nat.mul_le_mul (by omega) (by omega)
  refine ⟨h1.mono (by omega), h2.mono (by omega), (h1.add h2).mono (by omega)⟩
def F_total_of : FS := fun ds S Q E => ∃ (n : Nat) (xs : List Rat), ds = [rowD xs] ∧ n ≤ 600 ∧ Rown n xs ∧ (Sq ((n + 1) * 4 + 1) (sumR xs) → Q (ratD (sumR xs)) S)
def N_total_of : List Str := ["row", "found", "one"]
def w_total_of : WS := seqW [
  asgS (valW (.tup [(.int 0), (.int 1)])) (nmW (.nm 1)),
  forS (itW (slotW 0)) (.nm 2) (seqW [
    asgS (callW F_plus [(slotW 1), (slotW 2)]) (nmW (.nm 1))]),
  retS (slotW 1)]
theorem vc_total_of (ds : List D) (S : Sto) (Q : KE) (E : XP) (h : F_total_of ds S Q E) : w_total_of (startG N_total_of ds) S (finD Q) (finX E) := by
  obtain ⟨n, xs, rfl, hn, ⟨hl, hx⟩, hq⟩ := h
  show w_total_of [some (rowD xs), none, none] S (finD Q) (finX E)
  unfold w_total_of
  simp
  refine for_inv (fun ds Γ S' => S' = S ∧ ∃ (ys zs : List Rat) (g : Option D), xs = ys ++ zs ∧ ds = zs.map ratD ∧ Γ = [some (rowD xs), some (ratD (sumR ys)), g] ∧ Sq ((n + 1) * ys.length + 1) (sumR ys)) ?_ ?_ _ _ _ ?_
  · rintro d ds Γ S' K ⟨rfl, ys, zs, g, e, e2, rfl, hs⟩ hK
    cases zs with
    | nil => cases e2
    | cons z zs =>
      cases e2
      have hlen : ys.length < 4 := by rw [e] at hl; simp at hl; omega
      obtain ⟨s1, s2, s3⟩ := sum_stepn hlen hn hs (hx z (by rw [e]; simp))
      simp
      refine plus_r s1 s2 ?_
      exact hK _ _ ⟨rfl, ys ++ [z], zs, some (ratD z), by simp [e], rfl, by rw [sumR_snoc], by rw [sumR_snoc, List.length_append]; exact s3⟩
  · rintro Γ S' ⟨rfl, ys, zs, g, e, e2, rfl, hs⟩
    cases zs with
    | cons z zs => cases e2
    | nil =>
      rw [List.append_nil] at e
      subst e
      simp
      exact .of (hq (hs.mono (by have := Nat.mul_le_mul_left (n + 1) hl; omega)))
  · exact ⟨rfl, [], xs, none, rfl, rfl, rfl, Sq.zero (by omega)⟩
/-! ### how far -/
structure Lub (cs : List Rat) (f : Rat) : Prop where
  pos : 0 ≤ f
  up : ∀ c ∈ cs, c ≤ f
  least : ∀ g, 0 ≤ g → (∀ c ∈ cs, c ≤ g) → f ≤ g
theorem Lub.nil : Lub [] 0 := ⟨Rat.le_refl, fun _ h => (nomatch h), fun g h _ => h⟩
theorem Lub.snoc {cs : List Rat} {f c : Rat} (h : Lub cs f) : Lub (cs ++ [c]) (if f < c then c else f) := by
  split
  · rename_i hlt
    refine ⟨Rat.le_trans h.pos (Rat.le_of_lt hlt), fun d hd => ?_, fun g h0 hg => hg c (by simp)⟩
    rcases List.mem_append.mp hd with z | z
    · exact Rat.le_trans (h.up d z) (Rat.le_of_lt hlt)
    · rw [List.mem_singleton.mp z]; exact Rat.le_refl
  · rename_i hlt
    refine ⟨h.pos, fun d hd => ?_, fun g h0 hg => h.least g h0 fun d hd => hg d (by simp [hd])⟩
    rcases List.mem_append.mp hd with z | z
    · exact h.up d z
    · rw [List.mem_singleton.mp z]; exact Rat.not_lt.mp hlt
theorem Lub.uniq {cs : List Rat} {f g : Rat} (h : Lub cs f) (h2 : Lub cs g) : f = g := Rat.le_antisymm (h.least g h2.pos h2.up) (h2.least f h.pos h.up)
def cand (M : Rat) (z : (Int × Int) × Rat) : List Rat := [((1 : Int) : Rat) * ((z.1.1 : Rat) * M - ((100 : Int) : Rat) * z.2), ((-1 : Int) : Rat) * ((z.1.2 : Rat) * M - ((100 : Int) : Rat) * z.2)]
def cands (M : Rat) (zs : List ((Int × Int) × Rat)) : List Rat := zs.flatMap (cand M)
theorem zip_rows : ∀ (ps : List (Int × Int)) (xs : List Rat), zipD (ps.map prD) (xs.map ratD) = (ps.zip xs).map fun z => .tup [prD z.1, ratD z.2]
  | [], xs => by unfold zipD; simp
  | p :: ps, [] => by unfold zipD; simp
  | p :: ps, x :: xs => by
    rw [List.map_cons, List.map_cons, List.zip_cons_cons, List.map_cons]
    unfold zipD
    rw [zip_rows ps xs]
def F_far_of : FS := fun ds S Q E => ∃ (n : Nat) (ps : List (Int × Int)) (xs : List Rat), ds = [shD ps, rowD xs] ∧ n ≤ 500 ∧ Rown n xs ∧ (∀ p ∈ ps, boundsB p = true) ∧ ∀ f, Lub (cands (sumR xs) (ps.zip xs)) f → Sq (5 * n + 30) f → Q (ratD f) S
def N_far_of : List Str := ["shade", "stuffs", "measures", "worst", "stuff", "hundred", "low", "high", "edge", "sign", "one"]
def w_far_of : WS := seqW [
  asgS (callW F_total_of [(slotW 1)]) (nmW (.nm 2)),
  asgS (valW (.tup [(.int 0), (.int 1)])) (nmW (.nm 3)),
  forS (zipW [(slotW 0), (slotW 1)]) (.tp [(.tp [(.nm 6), (.nm 7)]), (.nm 4)]) (seqW [
    asgS (callW F_times [(callW F_as_fraction [(valW (.int 100))]), (slotW 4)]) (nmW (.nm 5)),
    forS (itW (tupW [(tupW [(slotW 6), (valW (.int 1))]), (tupW [(slotW 7), (two (valW (.int 0)) (valW (.int 1)) subW)])])) (.tp [(.nm 8), (.nm 9)]) (seqW [
      asgS (callW F_times [(callW F_as_fraction [(slotW 9)]), (callW F_minus [(callW F_times [(callW F_as_fraction [(slotW 8)]), (slotW 2)]), (slotW 5)])]) (nmW (.nm 10)),
      ifS (tst (callW F_below [(slotW 3), (slotW 10)])) (seqW [
        asgS (slotW 10) (nmW (.nm 3))]) (seqW [])])]),
  retS (slotW 3)]
theorem Sq.int {n : Nat} {i : Int} (h : i.natAbs < 2 ^ n) (h2 : 1 ≤ n) : Sq n (i : Rat) := ⟨h, Nat.lt_of_lt_of_le (by decide : 1 < 2 ^ 1) (Nat.pow_le_pow_right (by decide) h2)⟩
theorem sq100 {i : Int} (h0 : 0 ≤ i) (h1 : i ≤ 100) : Sq 7 (i : Rat) := Sq.int (by have : (2 : Nat) ^ 7 = 128 := rfl; omega) (by decide)
theorem vc_far_of (ds : List D) (S : Sto) (Q : KE) (E : XP) (h : F_far_of ds S Q E) : w_far_of (startG N_far_of ds) S (finD Q) (finX E) := by
  obtain ⟨n, ps, xs, rfl, hn, hr, hb, hq⟩ := h
  show w_far_of [some (shD ps), some (rowD xs), none, none, none, none, none, none, none, none, none] S (finD Q) (finX E)
  unfold w_far_of
  refine seq_cut fun R hR => ?_
  simp
  refine ⟨n, xs, rfl, by omega, hr, fun hM => ?_⟩
  subst hR
  refine seq_cut fun R hR => ?_
  simp
  subst hR
  refine seq_cut fun R hR => ?_
  simp [zip_rows]
  have z0 : (D.tup [D.int 0, D.int 1]) = ratD 0 := rfl
  refine for_inv (fun ds Γ S' => S' = S ∧ ∃ (ys zs : List ((Int × Int) × Rat)) (w : Rat) (g1 g2 g3 g4 g5 g6 g7 : Option D), ps.zip xs = ys ++ zs ∧ ds = zs.map (fun z => .tup [prD z.1, ratD z.2]) ∧
    Γ = [some (shD ps), some (rowD xs), some (ratD (sumR xs)), some (ratD w), g1, g2, g3, g4, g5, g6, g7] ∧ Lub (cands (sumR xs) ys) w ∧ Sq (5 * n + 30) w) ?_ ?_ _ _ _ ?_
  · rintro d ds Γ S' K ⟨rfl, ys, zs, w, g1, g2, g3, g4, g5, g6, g7, e, e2, rfl, hL, hw⟩ hK
    cases zs with
    | nil => cases e2
    | cons z zs =>
      obtain ⟨⟨lo, hi⟩, x⟩ := z
      cases e2
      have hmem : ((lo, hi), x) ∈ ps.zip xs := by rw [e]; simp
      have hp := hb _ (List.of_mem_zip hmem).1
      have hx := hr.ok _ (List.of_mem_zip hmem).2
      unfold boundsB at hp
      simp at hp
      obtain ⟨l0, lh, h100⟩ := hp
      refine ⟨trivial, ?_⟩
      show bodyW (Tg.tp [Tg.tp [Tg.nm 6, Tg.nm 7], Tg.nm 4]) _ _ _ (.tup [.tup [.int lo, .int hi], ratD x]) _ _ K
      rw [u_body2n]
      refine seq_cut fun R2 hR2 => ?_
      simp
      refine ⟨100, rfl, ?_⟩
      refine times_r ((sq100 (by decide) (by decide)).mono (by decide)) (hx.mono (by omega)) ?_
      have hH : Sq (n + 7) (((100 : Int) : Rat) * x) := ((sq100 (by decide) (by decide)).mul hx).mono (by omega)
      generalize hHe : ((100 : Int) : Rat) * x = H at hH
      subst hR2
      simp [-u_for1]
      refine for_inv (fun ds Γ S1 => S1 = S' ∧ ∃ (pre rest : List (Int × Int)) (w : Rat) (g8 g9 g10 : Option D), [(lo, (1 : Int)), (hi, -1)] = pre ++ rest ∧ ds = rest.map prD ∧
        Γ = [some (shD ps), some (rowD xs), some (ratD (sumR xs)), some (ratD w), some (ratD x), some (ratD H), some (.int lo), some (.int hi), g8, g9, g10] ∧
        Lub (cands (sumR xs) ys ++ pre.map fun q => (q.2 : Rat) * ((q.1 : Rat) * sumR xs - H)) w ∧ Sq (5 * n + 30) w) ?_ ?_ _ _ _ ?_
      · rintro d ds Γ S1 K2 ⟨rfl, pre, rest, w, g8, g9, g10, f1, f2, rfl, hL, hw⟩ hK2
        cases rest with
        | nil => cases f2
        | cons q rest =>
          obtain ⟨ed, sg⟩ := q
          cases f2
          have hq2 : (ed, sg) ∈ [(lo, (1 : Int)), (hi, -1)] := by rw [f1]; simp
          have hed : 0 ≤ ed ∧ ed ≤ 100 ∧ (sg = 1 ∨ sg = -1) := by
            simp at hq2
            rcases hq2 with ⟨rfl, rfl⟩ | ⟨rfl, rfl⟩
            · exact ⟨by omega, by omega, .inl rfl⟩
            · exact ⟨by omega, by omega, .inr rfl⟩
          obtain ⟨e0, e1, es⟩ := hed
          have hsg : Sq 1 (sg : Rat) := Sq.int (by rcases es with rfl | rfl <;> decide) (by decide)
          have hE := sq100 e0 e1
          have hEM : Sq (4 * n + 12) ((ed : Rat) * sumR xs) := (hE.mul hM).mono (by omega)
          have hD : Sq (5 * n + 20) ((ed : Rat) * sumR xs - H) := (hEM.sub hH).mono (by omega)
          have hC : Sq (5 * n + 30) ((sg : Rat) * ((ed : Rat) * sumR xs - H)) := (hsg.mul hD).mono (by omega)
          simp
          refine ⟨sg, rfl, ed, rfl, ?_⟩
          refine times_r (hE.mono (by decide)) (hM.mono (by omega)) ?_
          try simp
          refine minus_r (hEM.mono (by omega)) (hH.mono (by omega)) ?_
          refine times_r (hsg.mono (by decide)) (hD.mono (by omega)) ?_
          try simp
          refine below_r (hw.mono (by omega)) (hC.mono (by omega)) ?_
          simp
          have hL2 := hL.snoc (c := (sg : Rat) * ((ed : Rat) * sumR xs - H))
          rw [List.append_assoc] at hL2
          split
          · rename_i hlt
            rw [if_pos hlt] at hL2
            exact hK2 _ _ ⟨rfl, pre ++ [(ed, sg)], rest, _, _, _, _, by simp [f1], rfl, rfl, by simpa using hL2, hC⟩
          · rename_i hlt
            rw [if_neg hlt] at hL2
            exact hK2 _ _ ⟨rfl, pre ++ [(ed, sg)], rest, _, _, _, _, by simp [f1], rfl, rfl, by simpa using hL2, hw⟩
      · rintro Γ S1 ⟨rfl, pre, rest, w, g8, g9, g10, f1, f2, rfl, hL, hw⟩
        cases rest with
        | cons q rest => cases f2
        | nil =>
          rw [List.append_nil] at f1
          subst f1
          refine ⟨trivial, hK _ _ ⟨rfl, ys ++ [((lo, hi), x)], zs, w, _, _, _, _, _, _, _, by simp [e], rfl, rfl, ?_, hw⟩⟩
          have : cands (sumR xs) (ys ++ [((lo, hi), x)]) = cands (sumR xs) ys ++ [(lo, (1 : Int)), (hi, -1)].map fun q => (q.2 : Rat) * ((q.1 : Rat) * sumR xs - H) := by
            unfold cands
            rw [List.flatMap_append, ← hHe]
            rfl
          rw [this]
          exact hL
      · exact ⟨rfl, [], _, w, _, _, _, rfl, rfl, rfl, by simpa using hL, hw⟩
  · rintro Γ S' ⟨rfl, ys, zs, w, g1, g2, g3, g4, g5, g6, g7, e, e2, rfl, hL, hw⟩
    cases zs with
    | cons z zs => cases e2
    | nil =>
      rw [List.append_nil] at e
      subst hR
      simp
      rw [← e] at hL
      exact .of (hq w hL hw)
  · exact ⟨rfl, [], ps.zip xs, 0, none, none, none, none, none, none, none, rfl, rfl, rfl, Lub.nil, Sq.zero (by omega)⟩
end Vm
/-! VsU: what the defs promise, plainly: parts, shades, stuffs out of the purse. -/
namespace Vm
open PySem PySem.Spec PyProof.Rows L2
def F_far : FS := fun ds S Q E => ∃ (m : Int) (n : Nat) (ps : List (Int × Int)) (xs : List Rat), ds = [.int m, shD ps, rowD xs] ∧ Shade m ps ∧ (xs.length : Int) = m ∧ n ≤ 500 ∧ Rown n xs ∧ (∀ x ∈ xs, 0 ≤ x) ∧
  ∀ f, Lub (cands (sumR xs) (ps.zip xs)) f → Sq (5 * n + 30) f → Q (ratD f) S
def N_far : List Str := ["many", "shade", "stuffs"]
def w_far : WS := seqW [
  exprS (callW F_check_many [(slotW 0)]),
  exprS (callW F_check_shade [(slotW 0), (slotW 1)]),
  ifS (notT (tst (callW F_is_amounts [(slotW 0), (slotW 2)]))) (seqW [
    raiseS "NoStuffs"]) (seqW []),
  retS (callW F_far_of [(slotW 1), (slotW 2)])]
theorem vc_far (ds : List D) (S : Sto) (Q : KE) (E : XP) (h : F_far ds S Q E) : w_far (startG N_far ds) S (finD Q) (finX E) := by
  obtain ⟨m, n, ps, xs, rfl, sh, hl, hn, hr, h0, hq⟩ := h
  show w_far [some (.int m), some (shD ps), some (rowD xs)] S (finD Q) (finX E)
  unfold w_far
  simp
  refine ⟨m, rfl, sh.m2, sh.m4, m, ps, rfl, sh, m, xs, rfl, hl, sh.m4, h0, ?_⟩
  simp
  exact ⟨n, ps, xs, rfl, hn, hr, sh.ok, fun f hL hs => .of (hq f hL hs)⟩
/-! ### great numbers of at most fifty-four figures -/
structure Sg (i : Int) : Prop where
  h : i.natAbs < 2 ^ 180
def F_law_great_k02 : FS := fun ds S Q E => ∃ p, ds = [.ref p] ∧ Pu p S ∧ ∀ (n : Int) S', Sg n → Fr p S S' → Pu p S' → Q (.int n) S'
def N_law_great_k02 : List Str := ["purse", "number", "k"]
def w_law_great_k02 : WS := seqW [
  asgS (valW (.int 0)) (nmW (.nm 1)),
  forS (rngW [(two (lstW [(valW (.int 1)), (valW (.int 1)), (valW (.int 2)), (valW (.int 4)), (valW (.int 9)), (valW (.int 0))]) (callW F_law_take [(slotW 0), (valW (.int 6))]) ixW)]) (.nm 2) (seqW [
    asgS (two (two (slotW 1) (two (valW (.int 10)) (valW (.int 6)) powW) mulW) (callW F_law_take [(slotW 0), (two (lstW [(two (valW (.int 10)) (valW (.int 6)) powW), (valW (.int 10)), (valW (.int 1000))]) (two (slotW 2) (valW (.int 3)) modW) ixW)]) addW) (nmW (.nm 1))]),
  retS (two (slotW 1) (two (valW (.int 1)) (two (valW (.int 2)) (callW F_law_take [(slotW 0), (valW (.int 2))]) mulW) subW) mulW)]
theorem vc_law_great_k02 (ds : List D) (S : Sto) (Q : KE) (E : XP) (h : F_law_great_k02 ds S Q E) : w_law_great_k02 (startG N_law_great_k02 ds) S (finD Q) (finX E) := by
  obtain ⟨p, rfl, hp, hq⟩ := h
  show w_law_great_k02 [some (.ref p), none, none] S (finD Q) (finX E)
  unfold w_law_great_k02
  simp
  intro l hl
  refine ⟨p, 6, rfl, by decide, by decide, hp.new hl, fun t S1 t0 t1 f1 p1 => ?_⟩
  have hnp := hp.ne hl
  have hS : S1 l = some (.lst [.int 1, .int 1, .int 2, .int 4, .int 9, .int 0]) := f1 l _ hnp put_same
  have ht : t = 0 ∨ t = 1 ∨ t = 2 ∨ t = 3 ∨ t = 4 ∨ t = 5 := by omega
  have key : ∃ c : Int, atI [D.int 1, .int 1, .int 2, .int 4, .int 9, .int 0] t = some (.int c) ∧ 0 ≤ c ∧ c ≤ 9 := by
    rcases ht with rfl | rfl | rfl | rfl | rfl | rfl
    · exact ⟨1, rfl, by decide, by decide⟩
    · exact ⟨1, rfl, by decide, by decide⟩
    · exact ⟨2, rfl, by decide, by decide⟩
    · exact ⟨4, rfl, by decide, by decide⟩
    · exact ⟨9, rfl, by decide, by decide⟩
    · exact ⟨0, rfl, by decide, by decide⟩
  obtain ⟨c, ec, c0, c1⟩ := key
  simp [onR_eq hS, ec]
  have fS : Fr p S S1 := (Fr.new hl).trans f1
  refine ⟨by omega, ?_⟩
  refine for_inv (fun ds Γ S' => ∃ (n i : Nat) (x : Int) (g : Option D), ds = intsD i n ∧ n + i = c.toNat ∧ Γ = [some (.ref p), some (.int x), g] ∧ 0 ≤ x ∧ x < 10 ^ (6 * i) ∧ Fr p S S' ∧ Pu p S') ?_ ?_ _ _ _ ?_
  · rintro d ds Γ S' K ⟨n, i, x, g, e, hn, rfl, x0, x1, f, pu⟩ hK
    cases n with
    | zero => cases e
    | succ n =>
      rw [intsD_succ] at e
      cases e
      simp
      refine ⟨cp6, mulR (by decide) (by decide), cp6, fun l2 hl2 => ?_⟩
      have h3 := fmod_ge (i : Int) (m := 3) (by decide)
      have h4 := fmod_lt (i : Int) (m := 3) (by decide)
      generalize (i : Int).fmod 3 = r at h3 h4 ⊢
      have key : ∃ m : Int, atI [D.int 1000000, .int 10, .int 1000] r = some (.int m) ∧ 0 < m ∧ m ≤ 1000000 := by
        have hr : r = 0 ∨ r = 1 ∨ r = 2 := by omega
        rcases hr with rfl | rfl | rfl
        · exact ⟨1000000, rfl, by decide, by decide⟩
        · exact ⟨10, rfl, by decide, by decide⟩
        · exact ⟨1000, rfl, by decide, by decide⟩
      obtain ⟨m, em, m0, m1⟩ := key
      simp [em]
      refine ⟨p, m, rfl, m0, by omega, pu.new hl2, fun t S2 t0 t1 f2 p2 => ?_⟩
      obtain ⟨y0, y1⟩ := great_step x0 x1 t0 (show t < 1000000 by omega)
      exact hK _ _ ⟨n, i + 1, _, _, rfl, by omega, rfl, y0, y1, (f.trans (Fr.new hl2)).trans f2, p2⟩
  · rintro Γ S' ⟨n, i, x, g, e, hn, rfl, x0, x1, f, pu⟩
    simp
    refine ⟨p, 2, rfl, by decide, by decide, pu, fun t S2 t0 t1 f2 p2 => ⟨mulL (by decide) (by decide), mulR (by omega) (by omega), .of (hq _ _ ?_ (f.trans f2) p2)⟩⟩
    cases n with
    | succ n => rw [intsD_succ] at e; cases e
    | zero =>
      have hi : i ≤ 9 := by omega
      have x2 : x.natAbs < 10 ^ (6 * 9) := by
        have h5 : (10 : Int) ^ (6 * i) ≤ 10 ^ (6 * 9) := by
          have : (10 : Nat) ^ (6 * i) ≤ 10 ^ (6 * 9) := Nat.pow_le_pow_right (by decide) (by omega)
          rw [ten_pow, ten_pow]
          exact Int.ofNat_le.mpr this
        have h6 : x < 10 ^ (6 * 9) := Int.lt_of_lt_of_le x1 h5
        rw [ten_pow] at h6
        omega
      have x3 : (10 : Nat) ^ (6 * 9) < 2 ^ 180 := by decide +kernel
      have ht : t = 0 ∨ t = 1 := by omega
      rcases ht with rfl | rfl
      · rw [show x * (1 - 2 * 0) = x by omega]
        exact ⟨Nat.lt_trans x2 x3⟩
      · rw [show x * (1 - 2 * 1) = -x by omega]
        exact ⟨by rw [Int.natAbs_neg]; exact Nat.lt_trans x2 x3⟩
  · refine ⟨c.toNat, 0, 0, none, rfl, by omega, rfl, by decide, by decide, fS, p1⟩
/-! ### parts -/
theorem Fr.keepA {p a : Addr} {S S' : Sto} {o : MO} (h : Fr p S S') (n : ∀ u, S a = some u → False) : Fr p S (Vm.put S' a o) := fun q u hq e => by
  by_cases hqa : q = a
  · subst hqa; exact (n u e).elim
  · rw [put_ne hqa]; exact h q u hq e
theorem ints_id : ∀ xs : List Int, allM asIn (xs.map D.int) = some xs
  | [] => rfl
  | x :: xs => by
    rw [List.map_cons]
    unfold allM
    rw [ints_id xs]
    rfl
structure Parts (m : Int) (ns : List Int) : Prop where
  len : (ns.length : Int) = m
  ok : ∀ n ∈ ns, 0 ≤ n ∧ n ≤ 100
  pos : 0 < ns.sum
theorem sum_ge : ∀ {l : List Int}, (∀ x ∈ l, 0 ≤ x) → 0 ≤ l.sum ∧ ∀ y ∈ l, y ≤ l.sum
  | [], _ => ⟨by simp, fun _ h => (nomatch h)⟩
  | x :: l, h => by
    obtain ⟨h1, h2⟩ := sum_ge (l := l) fun z hz => h z (List.mem_cons_of_mem _ hz)
    have h3 := h x List.mem_cons_self
    refine ⟨by rw [List.sum_cons]; omega, fun y hy => ?_⟩
    rw [List.sum_cons]
    rcases List.mem_cons.mp hy with e | e
    · omega
    · have := h2 y e; omega
theorem pairs_ints {R : D → D → Prop} {P : Int → Prop} (hR : ∀ d y, R d y → ∃ t : Int, y = .int t ∧ P t) : ∀ {ds acc : List D}, Paired R ds acc → ∃ ts : List Int, acc = ts.map D.int ∧ (∀ t ∈ ts, P t) ∧ ts.length = ds.length
  | _, _, .nil => ⟨[], rfl, fun _ h => (nomatch h), rfl⟩
  | _, _, .cons a t => by
    obtain ⟨x, rfl, hx⟩ := hR _ _ a
    obtain ⟨ts, e, h1, h2⟩ := pairs_ints hR t
    refine ⟨x :: ts, by simp [e], fun z hz => ?_, by simp [h2]⟩
    rcases List.mem_cons.mp hz with q | q
    · rw [q]; exact hx
    · exact h1 z q
theorem intsD_len {lo : Int} {n : Nat} : (intsD lo n).length = n := by unfold intsD; simp
def F_law_parts : FS := fun ds S Q E => ∃ (p : Addr) (m : Int), ds = [.ref p, .int m] ∧ 2 ≤ m ∧ m ≤ 4 ∧ Pu p S ∧ ∀ (ns : List Int) S', Parts m ns → Fr p S S' → Pu p S' → Q (.tup (ns.map D.int)) S'
def N_law_parts : List Str := ["purse", "many", "most", "parts", "k"]
def w_law_parts : WS := seqW [
  asgS (two (lstW [(valW (.int 100)), (valW (.int 4)), (valW (.int 2))]) (callW F_law_take [(slotW 0), (valW (.int 3))]) ixW) (nmW (.nm 2)),
  asgS (lcW (rngW [(slotW 1)]) (.nm 4) [4] yesT (callW F_law_take [(slotW 0), (slotW 2)])) (nmW (.nm 3)),
  ifS (tst (two (bltW sum2W [(slotW 3)]) (valW (.int 0)) (eqW false))) (seqW [
    asgS (two (valW (.int 1)) (callW F_law_take [(slotW 0), (valW (.int 99))]) addW) (subG (slotW 3) (callW F_law_take [(slotW 0), (slotW 1)]))]) (seqW []),
  retS (bltW tupleW [(slotW 3)])]
theorem vc_law_parts (ds : List D) (S : Sto) (Q : KE) (E : XP) (h : F_law_parts ds S Q E) : w_law_parts (startG N_law_parts ds) S (finD Q) (finX E) := by
  obtain ⟨p, m, rfl, m2, m4, hp, hq⟩ := h
  show w_law_parts [some (.ref p), some (.int m), none, none, none] S (finD Q) (finX E)
  unfold w_law_parts
  refine seq_cut fun R hR => ?_
  simp
  intro l hl
  refine ⟨p, 3, rfl, by decide, by decide, hp.new hl, fun t T1 t0 t1 f1 p1 => ?_⟩
  have hS : T1 l = some (.lst [.int 100, .int 4, .int 2]) := f1 l _ (hp.ne hl) put_same
  have key : ∃ c : Int, atI [D.int 100, .int 4, .int 2] t = some (.int c) ∧ 0 < c ∧ c ≤ 100 := by
    have hr : t = 0 ∨ t = 1 ∨ t = 2 := by omega
    rcases hr with rfl | rfl | rfl
    · exact ⟨100, rfl, by decide, by decide⟩
    · exact ⟨4, rfl, by decide, by decide⟩
    · exact ⟨2, rfl, by decide, by decide⟩
  obtain ⟨c, ec, c0, c1⟩ := key
  simp [onR_eq hS, ec]
  subst hR
  refine seq_cut fun R hR => ?_
  simp
  refine ⟨by omega, fun a ha => ?_⟩
  have hap := p1.ne ha
  refine comp_pu (fun _ y => ∃ t : Int, y = .int t ∧ (0 ≤ t ∧ t ≤ 100)) ha p1 (by rw [intsD_len]; omega) ?_ ?_
  · rintro d hd S' K hf hpu hk
    refine ⟨trivial, _, rfl, ?_⟩
    simp [wipeG, clean, cleanO]
    exact ⟨p, c, rfl, c0, by omega, hpu, fun u S2 u0 u1 f2 p2 => hk _ _ ⟨u, rfl, u0, by omega⟩ f2 p2⟩
  · intro acc S' hr hf hpu hS'
    obtain ⟨ts, rfl, hts, hlen⟩ := pairs_ints (fun _ _ z => z) hr
    rw [intsD_len] at hlen
    have fS : Fr p S S' := ((Fr.new hl).trans f1).trans hf
    refine ⟨trivial, ?_⟩
    subst hR
    refine seq_cut fun R hR => ?_
    simp [onR_eq hS', ints_id]
    split
    · rename_i h0
      refine ⟨p, 99, rfl, by decide, by decide, hpu, fun u S2 u0 u1 f2 p2 => ?_⟩
      refine ⟨p, m, rfl, by omega, by omega, p2, fun j S3 j0 j1 f3 p3 => ?_⟩
      have e3 : S3 a = some (.lst (ts.map D.int)) := f3 _ _ hap (f2 _ _ hap hS')
      have ej : ixN (ts.map D.int).length j = some j.toNat := by
        unfold ixN
        rw [if_pos j0, if_pos (by simp; omega)]
      have eset : (ts.map D.int).set j.toNat (.int (1 + u)) = (ts.set j.toNat (1 + u)).map D.int := by rw [List.map_set]
      simp only [u_setW, onL_eq e3, ej, eset]
      subst hR
      simp [-List.map_set]
      refine .of (hq _ _ ⟨by simp; omega, fun z hz => ?_, ?_⟩ ?_ (p3.keep hap))
      · rcases List.mem_or_eq_of_mem_set hz with q | q
        · exact hts z q
        · rw [q]; omega
      · have g := (sum_ge (l := ts.set j.toNat (1 + u)) fun z hz => by
          rcases List.mem_or_eq_of_mem_set hz with q | q
          · exact (hts z q).1
          · rw [q]; omega).2 (1 + u) (List.mem_set (by omega) _)
        omega
      · exact ((fS.trans f2).trans f3).keepA (by
            intro o e
            have := ((Fr.new hl).trans f1) a o hap e
            rw [ha] at this
            cases this)
    · rename_i h0
      subst hR
      simp [onR_eq hS']
      refine .of (hq _ _ ⟨by omega, fun z hz => hts z hz, ?_⟩ fS hpu)
      have := (sum_ge (l := ts) fun z hz => (hts z hz).1).1
      omega
/-! ### a shade out of the purse -/
def near (W n : Int) (p : Int × Int) : Prop := 0 ≤ p.1 ∧ p.1 * W ≤ 100 * n ∧ 100 * n ≤ p.2 * W ∧ p.2 ≤ 100
theorem near_sum {W : Int} : ∀ {ns : List Int} {ps : List (Int × Int)}, Paired (near W) ns ps → lows ps * W ≤ 100 * ns.sum ∧ 100 * ns.sum ≤ highs ps * W
  | _, _, .nil => by simp [lows, highs]
  | n :: ns, p :: ps, .cons h t => by
    obtain ⟨h1, h2⟩ := near_sum t
    obtain ⟨_, h3, h4, _⟩ := h
    have e1 : lows (p :: ps) = p.1 + lows ps := by unfold lows; simp
    have e2 : highs (p :: ps) = p.2 + highs ps := by unfold highs; simp
    rw [e1, e2, List.sum_cons, Int.add_mul, Int.add_mul, Int.mul_add]
    omega
theorem near_ok {W : Int} (hW : 0 < W) : ∀ {ns : List Int} {ps : List (Int × Int)}, Paired (near W) ns ps → ∀ p ∈ ps, boundsB p = true
  | _, _, .nil, p, h => (nomatch h)
  | _, _, .cons h t, p, hp => by
    rcases List.mem_cons.mp hp with q | q
    · rw [q]
      obtain ⟨h1, h2, h3, h4⟩ := h
      have h5 := Int.le_of_mul_le_mul_right (Int.le_trans h2 h3) hW
      unfold boundsB
      simp [h1, h4, h5]
    · exact near_ok hW t p q
theorem near_shade {m W : Int} {ns : List Int} {ps : List (Int × Int)} (hW : 0 < W) (e : ns.sum = W) (h : Paired (near W) ns ps) (hl : (ns.length : Int) = m) (m2 : 2 ≤ m) (m4 : m ≤ 4) : Shade m ps := by
  obtain ⟨h1, h2⟩ := near_sum h
  rw [e] at h1 h2
  exact ⟨by rw [← Paired.length h]; exact hl, m2, m4, near_ok hW h, Int.le_of_mul_le_mul_right h1 hW, Int.le_of_mul_le_mul_right h2 hW⟩
theorem near_of {W n l u v w : Int} (hW : 0 < W) (n0 : 0 ≤ n) (nW : n ≤ W) (l0 : 0 ≤ l) (u0 : 0 ≤ u) : near W n (max 0 ((100 * n).fdiv W - l), min 100 ((100 * n + W - 1).fdiv W + u)) := by
  have e1 : (100 * n).fdiv W = (100 * n) / W := Int.fdiv_eq_ediv_of_nonneg _ (by omega)
  have e2 : (100 * n + W - 1).fdiv W = (100 * n + W - 1) / W := Int.fdiv_eq_ediv_of_nonneg _ (by omega)
  have g1 : (100 * n) / W * W ≤ 100 * n := Int.ediv_mul_le _ (by omega)
  have g0 : 0 ≤ (100 * n) / W := Int.ediv_nonneg (by omega) (by omega)
  have g2 : 100 * n + W - 1 < ((100 * n + W - 1) / W + 1) * W := Int.lt_ediv_add_one_mul_self _ hW
  rw [Int.add_mul, Int.one_mul] at g2
  rw [e1, e2]
  generalize (100 * n) / W = a at *
  generalize (100 * n + W - 1) / W = b at *
  refine ⟨by omega, ?_, ?_, by omega⟩
  · show max 0 (a - l) * W ≤ _
    have : max 0 (a - l) * W ≤ a * W := Int.mul_le_mul_of_nonneg_right (by omega) (by omega)
    omega
  · show _ ≤ min 100 (b + u) * W
    by_cases hb : b + u ≤ 100
    · rw [show min 100 (b + u) = b + u by omega, Int.add_mul]
      have : 0 ≤ u * W := Int.mul_nonneg u0 (by omega)
      omega
    · rw [show min 100 (b + u) = 100 by omega]
      omega
def F_law_shade : FS := fun ds S Q E => ∃ (p : Addr) (m : Int), ds = [.ref p, .int m] ∧ 2 ≤ m ∧ m ≤ 4 ∧ Pu p S ∧ ∀ (ps : List (Int × Int)) S', Shade m ps → Fr p S S' → Pu p S' → Q (shD ps) S'
def N_law_shade : List Str := ["purse", "many", "parts", "width", "shade", "whole", "k", "low", "high"]
def w_law_shade : WS := seqW [
  asgS (callW F_law_parts [(slotW 0), (slotW 1)]) (nmW (.nm 2)),
  asgS (two (lstW [(valW (.int 0)), (valW (.int 1)), (valW (.int 5)), (valW (.int 20)), (valW (.int 100))]) (callW F_law_take [(slotW 0), (valW (.int 5))]) ixW) (nmW (.nm 3)),
  asgS (lstW []) (nmW (.nm 4)),
  asgS (bltW sum2W [(slotW 2)]) (nmW (.nm 5)),
  forS (rngW [(slotW 1)]) (.nm 6) (seqW [
    asgS (two (two (two (valW (.int 100)) (two (slotW 2) (slotW 6) ixW) mulW) (slotW 5) fdivW) (callW F_law_take [(slotW 0), (two (slotW 3) (valW (.int 1)) addW)]) subW) (nmW (.nm 7)),
    asgS (two (two (two (two (two (valW (.int 100)) (two (slotW 2) (slotW 6) ixW) mulW) (slotW 5) addW) (valW (.int 1)) subW) (slotW 5) fdivW) (callW F_law_take [(slotW 0), (two (slotW 3) (valW (.int 1)) addW)]) addW) (nmW (.nm 8)),
    exprS (lmW appendW (slotW 4) [(tupW [(bltW maxW [(valW (.int 0)), (slotW 7)]), (bltW minW [(valW (.int 100)), (slotW 8)])])])]),
  retS (bltW tupleW [(slotW 4)])]
theorem at_ints {ns : List Int} {i : Nat} (h : i < ns.length) : atI (ns.map D.int) (i : Int) = some (.int (ns[i])) := by simp [atI, ixN, h]
theorem paired_take {α β : Type} {R : α → β → Prop} {xs : List α} {ys : List β} {i : Nat} {y : β} (h : Paired R (xs.take i) ys) (hi : i < xs.length) (r : R xs[i] y) : Paired R (xs.take (i + 1)) (ys ++ [y]) := by
  rw [List.take_succ_eq_append_getElem hi]
  exact paired_snoc r h
theorem vc_law_shade (ds : List D) (S : Sto) (Q : KE) (E : XP) (h : F_law_shade ds S Q E) : w_law_shade (startG N_law_shade ds) S (finD Q) (finX E) := by
  obtain ⟨p, m, rfl, m2, m4, hp, hq⟩ := h
  show w_law_shade [some (.ref p), some (.int m), none, none, none, none, none, none, none] S (finD Q) (finX E)
  unfold w_law_shade
  refine seq_cut fun R hR => ?_
  simp
  refine ⟨p, m, rfl, m2, m4, hp, fun ns T0 hn f0 p0 => ?_⟩
  simp
  subst hR
  refine seq_cut fun R hR => ?_
  simp
  intro l hl
  refine ⟨p, 5, rfl, by decide, by decide, p0.new hl, fun t T1 t0 t1 f1 p1 => ?_⟩
  have hS : T1 l = some (.lst [.int 0, .int 1, .int 5, .int 20, .int 100]) := f1 l _ (p0.ne hl) put_same
  have key : ∃ c : Int, atI [D.int 0, .int 1, .int 5, .int 20, .int 100] t = some (.int c) ∧ 0 ≤ c ∧ c ≤ 100 := by
    have hr : t = 0 ∨ t = 1 ∨ t = 2 ∨ t = 3 ∨ t = 4 := by omega
    rcases hr with rfl | rfl | rfl | rfl | rfl
    · exact ⟨0, rfl, by decide, by decide⟩
    · exact ⟨1, rfl, by decide, by decide⟩
    · exact ⟨5, rfl, by decide, by decide⟩
    · exact ⟨20, rfl, by decide, by decide⟩
    · exact ⟨100, rfl, by decide, by decide⟩
  obtain ⟨c, ec, c0, c1⟩ := key
  simp [onR_eq hS, ec]
  subst hR
  refine seq_cut fun R hR => ?_
  simp
  intro a ha
  have hap := p1.ne ha
  subst hR
  refine seq_cut fun R hR => ?_
  simp [ints_id]
  subst hR
  have fS : Fr p S T1 := (f0.trans (Fr.new hl)).trans f1
  have aN : ∀ u, S a = some u → False := fun u e => by
    have := fS a u hap e
    rw [ha] at this
    cases this
  have hW : 0 < ns.sum := hn.pos
  have hW4 : ns.sum ≤ 400 := by
    have key : ∀ l : List Int, (∀ n ∈ l, 0 ≤ n ∧ n ≤ 100) → l.sum ≤ 100 * l.length := by
      intro l
      induction l with
      | nil => intro _; simp
      | cons x l ih =>
        intro h
        have h1 := h x List.mem_cons_self
        have h2 := ih fun z hz => h z (List.mem_cons_of_mem _ hz)
        rw [List.sum_cons, List.length_cons]
        omega
    have := key ns hn.ok
    have := hn.len
    omega
  refine seq_cut fun R hR => ?_
  simp
  refine ⟨by omega, ?_⟩
  refine for_inv (fun ds Γ S' => ∃ (n i : Nat) (ps : List (Int × Int)) (g1 g2 g3 : Option D), ds = intsD i n ∧ i + n = m.toNat ∧ Γ = [some (.ref p), some (.int m), some (.tup (ns.map D.int)), some (.int c), some (.ref a), some (.int ns.sum), g1, g2, g3] ∧
    S' a = some (.lst (ps.map prD)) ∧ Paired (near ns.sum) (ns.take i) ps ∧ Fr p S S' ∧ Pu p S') ?_ ?_ _ _ _ ?_
  · rintro d ds Γ S' K ⟨n, i, ps, g1, g2, g3, e, hi, rfl, hA, hP, fr, pu⟩ hK
    cases n with
    | zero => cases e
    | succ n =>
      rw [intsD_succ] at e
      cases e
      have hlt : i < ns.length := by have := hn.len; omega
      have hx := hn.ok _ (List.getElem_mem hlt)
      have hxW := (sum_ge (l := ns) fun z hz => (hn.ok z hz).1).2 _ (List.getElem_mem hlt)
      refine ⟨trivial, ?_⟩
      rw [u_body]
      refine seq_cut fun R2 hR2 => ?_
      simp [at_ints hlt]
      refine ⟨mulL (by decide) (by decide), divS hW (by omega), p, c + 1, rfl, by omega, by omega, pu, fun u S2 u0 u1 f2 p2 => ?_⟩
      simp
      subst hR2
      refine seq_cut fun R2 hR2 => ?_
      simp [at_ints hlt]
      refine ⟨mulL (by decide) (by decide), divS hW (by omega), p, c + 1, rfl, by omega, by omega, p2, fun v S3 v0 v1 f3 p3 => ?_⟩
      simp
      subst hR2
      have e3 : S3 a = some (.lst (ps.map prD)) := f3 _ _ hap (f2 _ _ hap hA)
      have hlen : ps.length ≤ 4 := by have := Paired.length hP; have := List.length_take_le i ns; omega
      simp [isL, e3, appendW, onL_eq e3]
      refine ⟨Nat.lt_of_le_of_lt hlen (by decide), hK _ _ ⟨n, i + 1, ps ++ [_], _, _, _, rfl, by omega, rfl, ?_, paired_take hP hlt (near_of (l := u) (u := v) (v := 0) (w := 0) hW hx.1 hxW u0 v0), ((fr.trans f2).trans f3).keepA aN, p3.keep hap⟩⟩
      rw [put_same]
      simp
  · rintro Γ S' ⟨n, i, ps, g1, g2, g3, e, hi, rfl, hA, hP, fr, pu⟩
    cases n with
    | succ n => rw [intsD_succ] at e; cases e
    | zero =>
      subst hR
      simp [onR_eq hA]
      have : ns.take i = ns := List.take_of_length_le (by have := hn.len; omega)
      rw [this] at hP
      exact .of (hq _ _ (near_shade hW rfl hP hn.len m2 m4) fr pu)
  · exact ⟨m.toNat, 0, [], none, none, none, rfl, by omega, rfl, put_same, .nil, fS.keepA aN, p1.keep hap⟩
end Vm
/-! VsV: what the defs promise, plainly: stuffs out of the purse, within a shade. -/
namespace Vm
open PySem PySem.Spec PyProof.Rows L2
theorem low_r {t b : Int} {S : Sto} {Q : KE} {E : XP} (hb : 0 < b) (h9 : S9 b) (q : Q (ratD (Rat.divInt t b)) S) : F_law_low [.int t, .int b] S Q E :=
  ⟨t, b, rfl, hb, h9, by rw [(frac_rat (by omega)).1]; exact q⟩
theorem rat_ge {t b : Int} (h0 : 0 ≤ t) (hb : 0 < b) : 0 ≤ Rat.divInt t b := by
  obtain ⟨x, y, e, y0, _, _, _, hc⟩ := frac_pair (t := t) hb
  have h1 := (frac_rat0 (t := t) hb).1
  rw [e] at h1
  injection h1 with h1
  injection h1 with h1 h2
  injection h1 with h1
  refine Rat.num_nonneg.mp ?_
  rw [← h1]
  have h3 : 0 ≤ t * y := Int.mul_nonneg h0 (by omega)
  rw [← hc] at h3
  rcases Int.lt_or_le x 0 with z | z
  · have := Int.mul_neg_of_neg_of_pos z hb
    omega
  · exact z
theorem S9.small {i : Int} (h : i.natAbs < 1000000) : S9 i := ⟨Nat.lt_of_lt_of_le h (by decide +kernel)⟩
theorem Parts.sum400 {m : Int} {ns : List Int} (h : Parts m ns) (m4 : m ≤ 4) : ns.sum ≤ 400 := by
  have key : ∀ l : List Int, (∀ n ∈ l, 0 ≤ n ∧ n ≤ 100) → l.sum ≤ 100 * l.length := by
    intro l
    induction l with
    | nil => intro _; simp
    | cons x l ih =>
      intro h
      have h1 := h x List.mem_cons_self
      have h2 := ih fun z hz => h z (List.mem_cons_of_mem _ hz)
      rw [List.sum_cons, List.length_cons]
      omega
  have := key ns h.ok
  have := h.len
  omega
def F_law_share : FS := fun ds S Q E => ∃ (m : Int) (ns : List Int) (k : Nat) (h : k < ns.length), ds = [.tup (ns.map D.int), .int k] ∧ Parts m ns ∧ m ≤ 4 ∧ ∀ x, Sq 9 x → 0 ≤ x → Q (ratD x) S
def N_law_share : List Str := ["parts", "k"]
def w_law_share : WS := seqW [
  retS (callW F_law_low [(two (slotW 0) (slotW 1) ixW), (bltW sum2W [(slotW 0)])])]
theorem vc_law_share (ds : List D) (S : Sto) (Q : KE) (E : XP) (h : F_law_share ds S Q E) : w_law_share (startG N_law_share ds) S (finD Q) (finX E) := by
  obtain ⟨m, ns, k, hk, rfl, hn, m4, hq⟩ := h
  show w_law_share [some (.tup (ns.map D.int)), some (.int k)] S (finD Q) (finX E)
  have h1 := hn.pos
  have h2 := hn.sum400 m4
  have h3 := hn.ok _ (List.getElem_mem hk)
  have e9 : (2 : Nat) ^ 9 = 512 := rfl
  unfold w_law_share
  simp [at_ints hk, ints_id]
  refine low_r h1 (S9.small (by omega)) (.of (hq _ (Sq.of (by omega) (by omega) (by omega)) (rat_ge h3.1 h1)))
/-- stuffs: fractions of few bits, none below 0 -/
structure Stuffs (m : Int) (n : Nat) (xs : List Rat) : Prop where
  len : (xs.length : Int) = m
  ok : ∀ x ∈ xs, Sq n x ∧ 0 ≤ x
theorem Stuffs.row {m : Int} {n : Nat} {xs : List Rat} (h : Stuffs m n xs) (m4 : m ≤ 4) : Rown n xs := ⟨by have := h.len; omega, fun x hx => (h.ok x hx).1⟩
theorem pairs_rats {R : D → D → Prop} {P : Rat → Prop} (hR : ∀ d y, R d y → ∃ t : Rat, y = ratD t ∧ P t) : ∀ {ds acc : List D}, Paired R ds acc → ∃ ts : List Rat, acc = ts.map ratD ∧ (∀ t ∈ ts, P t) ∧ ts.length = ds.length
  | _, _, .nil => ⟨[], rfl, fun _ h => (nomatch h), rfl⟩
  | _, _, .cons a t => by
    obtain ⟨x, rfl, hx⟩ := hR _ _ a
    obtain ⟨ts, e, h1, h2⟩ := pairs_rats hR t
    refine ⟨x :: ts, by simp [e], fun z hz => ?_, by simp [h2]⟩
    rcases List.mem_cons.mp hz with q | q
    · rw [q]; exact hx
    · exact h1 z q
theorem Sg.abs {n : Int} (h : Sg n) : (n.natAbs : Int).natAbs < 2 ^ 181 := by
  rw [Int.natAbs_natCast]
  exact Nat.lt_of_lt_of_le h.h (Nat.pow_le_pow_right (by decide) (by decide))
theorem Sg.succ {n : Int} (h : Sg n) : (1 + (n.natAbs : Int)).natAbs < 2 ^ 181 := by
  have h1 := h.h
  have h2 : (2 : Nat) ^ 181 = 2 * 2 ^ 180 := by rw [Nat.pow_succ, Nat.mul_comm]
  have h4 : 1 ≤ (2 : Nat) ^ 180 := Nat.one_le_two_pow
  rw [h2]
  generalize (2 : Nat) ^ 180 = u at *
  omega
theorem p181 {i : Int} (h : i.natAbs < 2 ^ 181) : S9 i := ⟨Nat.lt_of_lt_of_le h (Nat.pow_le_pow_right (by decide) (by decide))⟩
def F_law_some_stuffs_k05 : FS := fun ds S Q E => ∃ (p : Addr) (m : Int) (ps : List (Int × Int)), ds = [.ref p, .int m, shD ps] ∧ Shade m ps ∧ Pu p S ∧ ∀ (xs : List Rat) S', Stuffs m 190 xs → Fr p S S' → Pu p S' → Q (rowD xs) S'
def N_law_some_stuffs_k05 : List Str := ["purse", "many", "shade", "pick", "much", "parts", "sides", "k", "side"]
def w_law_some_stuffs_k05 : WS := seqW [
  asgS (callW F_law_take [(slotW 0), (valW (.int 5))]) (nmW (.nm 3)),
  asgS (callW F_law_low [(bltW absW [(callW F_law_great_k02 [(slotW 0)])]), (two (lstW [(valW (.int 1)), (valW (.int 3)), (two (valW (.int 1)) (bltW absW [(callW F_law_great_k02 [(slotW 0)])]) addW)]) (callW F_law_take [(slotW 0), (valW (.int 3))]) ixW)]) (nmW (.nm 4)),
  asgS (callW F_law_parts [(slotW 0), (slotW 1)]) (nmW (.nm 5)),
  ifS (tst (two (slotW 3) (valW (.int 0)) (eqW false))) (seqW [
    retS (bltW tupleW [(lcW (rngW [(slotW 1)]) (.nm 7) [7] yesT (callW F_law_low [(callW F_law_take [(slotW 0), (valW (.int 30))]), (two (valW (.int 1)) (callW F_law_take [(slotW 0), (valW (.int 7))]) addW)]))])]) (seqW []),
  ifS (tst (two (slotW 3) (valW (.int 1)) (eqW false))) (seqW [
    asgS (lcW (rngW [(slotW 1)]) (.nm 7) [7] yesT (two (two (slotW 2) (slotW 7) ixW) (callW F_law_take [(slotW 0), (valW (.int 2))]) ixW)) (nmW (.nm 6)),
    retS (bltW tupleW [(lcW (itW (slotW 6)) (.nm 8) [8] yesT (callW F_law_mul [(slotW 4), (callW F_law_low [(slotW 8), (valW (.int 100))])]))])]) (seqW []),
  retS (bltW tupleW [(lcW (rngW [(slotW 1)]) (.nm 7) [7] yesT (callW F_law_mul [(slotW 4), (callW F_law_share [(slotW 5), (slotW 7)])]))])]
theorem mem_intsD {lo : Int} {n : Nat} {d : D} (h : d ∈ intsD lo n) : ∃ i : Nat, i < n ∧ d = .int (lo + i) := by
  unfold intsD at h
  obtain ⟨i, hi, rfl⟩ := List.mem_map.mp h
  exact ⟨i, List.mem_range.mp hi, rfl⟩
theorem at_prs {ps : List (Int × Int)} {i : Nat} (h : i < ps.length) : atI (ps.map prD) (i : Int) = some (prD ps[i]) := by simp [atI, ixN, h]
theorem at_rats {xs : List Rat} {i : Nat} (h : i < xs.length) : atI (xs.map ratD) (i : Int) = some (ratD xs[i]) := by simp [atI, ixN, h]
theorem vc_law_some_stuffs_k05 (ds : List D) (S : Sto) (Q : KE) (E : XP) (h : F_law_some_stuffs_k05 ds S Q E) : w_law_some_stuffs_k05 (startG N_law_some_stuffs_k05 ds) S (finD Q) (finX E) := by
  obtain ⟨p, m, ps, rfl, sh, hp, hq⟩ := h
  show w_law_some_stuffs_k05 [some (.ref p), some (.int m), some (shD ps), none, none, none, none, none, none] S (finD Q) (finX E)
  have m2 := sh.m2
  have m4 := sh.m4
  have e9 : (2 : Nat) ^ 9 = 512 := rfl
  unfold w_law_some_stuffs_k05
  refine seq_cut fun R hR => ?_
  simp
  refine ⟨p, 5, rfl, by decide, by decide, hp, fun pick T0 _ _ f0 p0 => ?_⟩
  subst hR
  refine seq_cut fun R hR => ?_
  simp
  refine ⟨p, rfl, p0, fun n T1 hn f1 p1 => ⟨p, rfl, p1, fun n2 T2 hn2 f2 p2 l hl => ?_⟩⟩
  refine ⟨p, 3, rfl, by decide, by decide, p2.new hl, fun t T3 t0 t1 f3 p3 => ?_⟩
  have hS : T3 l = some (.lst [.int 1, .int 3, .int (1 + (n2.natAbs : Int))]) := f3 l _ (p2.ne hl) put_same
  have key : ∃ c : Int, atI [D.int 1, .int 3, .int (1 + (n2.natAbs : Int))] t = some (.int c) ∧ 0 < c ∧ c.natAbs < 2 ^ 181 := by
    have hr : t = 0 ∨ t = 1 ∨ t = 2 := by omega
    rcases hr with rfl | rfl | rfl
    · exact ⟨1, at3.1, by decide, by decide +kernel⟩
    · exact ⟨3, at3.2.1, by decide, by decide +kernel⟩
    · exact ⟨_, at3.2.2, by omega, hn2.succ⟩
  obtain ⟨c, ec, c0, c1⟩ := key
  simp [onR_eq hS, ec]
  refine low_r c0 (p181 c1) ?_
  have hmu : Sq 181 (Rat.divInt (n.natAbs : Int) c) := Sq.of (by omega) hn.abs c1
  have hmu0 : 0 ≤ Rat.divInt (n.natAbs : Int) c := rat_ge (by omega) c0
  generalize Rat.divInt (n.natAbs : Int) c = mu at hmu hmu0
  have frS : Fr p S T3 := ((f0.trans f1).trans f2).trans ((Fr.new hl).trans f3)
  try simp
  subst hR
  refine seq_cut fun R hR => ?_
  simp
  refine ⟨p, m, rfl, m2, m4, p3, fun ns T4 hns f4 p4 => ?_⟩
  have fr4 := frS.trans f4
  try simp
  subst hR
  refine seq_cut fun R hR => ?_
  have mulQ : ∀ {x : Rat}, Sq 9 x → 0 ≤ x → Sq 190 (mu * x) ∧ 0 ≤ mu * x := fun h1 h2 => ⟨(hmu.mul h1).mono (by decide), Rat.mul_nonneg hmu0 h2⟩
  simp
  split
  · refine ⟨by omega, fun a ha => ?_⟩
    refine comp_pu (fun _ y => ∃ t : Rat, y = ratD t ∧ (Sq 190 t ∧ 0 ≤ t)) ha p4 (by rw [intsD_len]; omega) ?_ ?_
    · rintro d hd S' K hf hpu hk
      refine ⟨trivial, _, rfl, ?_⟩
      simp [wipeG, clean, cleanO]
      refine ⟨p, 30, rfl, by decide, by decide, hpu, fun u S2 u0 u1 f2 p2 => ⟨p, 7, rfl, by decide, by decide, p2, fun v S3 v0 v1 f3 p3 => ?_⟩⟩
      refine low_r (E := fun _ _ => False) (by omega) (S9.small (by omega)) ?_
      exact (hk _ _ ⟨_, rfl, (Sq.of (n := 9) (by omega) (by omega) (by omega)).mono (by decide), rat_ge u0 (by omega)⟩ (f2.trans f3) p3)
    · intro acc S' hr hf hpu hS'
      obtain ⟨ts, rfl, hts, hlen⟩ := pairs_rats (fun _ _ z => z) hr
      rw [intsD_len] at hlen
      refine ⟨trivial, ?_⟩
      simp [onR_eq hS']
      exact .of (hq _ _ ⟨by omega, hts⟩ (fr4.trans hf) hpu)
  · subst hR
    refine seq_cut fun R hR => ?_
    simp
    split
    · refine ⟨by omega, fun a ha => ?_⟩
      refine comp_pu (fun _ y => ∃ t : Int, y = .int t ∧ (0 ≤ t ∧ t ≤ 100)) ha p4 (by rw [intsD_len]; omega) ?_ ?_
      · rintro d hd S' K hf hpu hk
        obtain ⟨i, hi, rfl⟩ := mem_intsD hd
        have hlt : i < ps.length := by have := sh.len; omega
        have hb := sh.ok _ (List.getElem_mem hlt)
        unfold boundsB at hb
        simp at hb
        refine ⟨trivial, _, rfl, ?_⟩
        rw [Int.zero_add]
        simp [wipeG, clean, cleanO, at_prs hlt]
        refine ⟨p, 2, rfl, by decide, by decide, hpu, fun u S2 u0 u1 f2 p2 => ?_⟩
        have hu : u = 0 ∨ u = 1 := by omega
        rcases hu with rfl | rfl
        · simp [at2]
          exact hk _ _ ⟨_, rfl, by omega, by omega⟩ f2 p2
        · simp [at2]
          exact hk _ _ ⟨_, rfl, by omega, by omega⟩ f2 p2
      · intro acc S' hr hf hpu hS'
        obtain ⟨ts, rfl, hts, hlen⟩ := pairs_ints (fun _ _ z => z) hr
        rw [intsD_len] at hlen
        refine ⟨trivial, ?_⟩
        simp [onR_eq hS']
        intro b hb
        have hlen2 : (ts.map D.int).length ≤ 1000 := by simp; omega
        have hab : b ≠ a := fun e => by rw [e, hS'] at hb; cases hb
        refine comp_gen (fun rest acc S2 => Sub S' S2 ∧ ∃ (pre suf : List Int) (rs : List Rat), ts = pre ++ suf ∧ rest = suf.map D.int ∧ acc = rs.map ratD ∧ rs.length = pre.length ∧ ∀ x ∈ rs, Sq 190 x ∧ 0 ≤ x) ?_ ?_ _ [] _ ?_ put_same
        · rintro d rest acc S2 K ⟨hs, pre, suf, rs, e1, e2, rfl, hl2, hrs⟩ hS2 hK
          cases suf with
          | nil => cases e2
          | cons s suf =>
            cases e2
            have hmem := hts s (by rw [e1]; simp)
            refine ⟨.inl (hs _ _ hS'), _, rfl, ?_⟩
            simp [wipeG, clean, cleanO]
            refine low_r (by decide) (S9.small (by decide)) ?_
            have q1 : Sq 9 (Rat.divInt s 100) := Sq.of (by decide) (by omega) (by decide)
            have q2 : 0 ≤ Rat.divInt s 100 := rat_ge hmem.1 (by decide)
            refine ⟨mu, _, rfl, hmu.mono (by decide), q1.mono (by decide), ?_⟩
            have hpl : (pre ++ s :: suf).length ≤ 4 := by rw [← e1]; omega
            refine hK _ _ hS2 (len_ok (m := 4) (by simp at hpl ⊢; omega) (by decide)) ⟨hs.put hb, pre ++ [s], suf, rs ++ [mu * Rat.divInt s 100], by simp [e1], rfl, by rw [List.map_append]; rfl, by simp [hl2], fun x hx => ?_⟩
            rcases List.mem_append.mp hx with z | z
            · exact hrs x z
            · rw [List.mem_singleton.mp z]; exact mulQ q1 q2
        · rintro acc S2 ⟨hs, pre, suf, rs, e1, e2, rfl, hl2, hrs⟩ hS2
          cases suf with
          | cons s suf => cases e2
          | nil =>
            rw [List.append_nil] at e1
            refine ⟨.inl (hs _ _ hS'), ?_⟩
            simp [onR_eq hS2]
            refine .of (hq _ _ ⟨by rw [hl2, ← e1]; omega, hrs⟩ ((fr4.trans hf).trans (Fr.sub hs)) ?_)
            obtain ⟨x, y, z, hz⟩ := hpu
            exact ⟨x, y, z, hs _ _ hz⟩
        · exact ⟨Sub.new hb, [], ts, [], rfl, rfl, rfl, rfl, fun _ h => (nomatch h)⟩
    · subst hR
      simp
      refine ⟨by omega, fun a ha => ?_⟩
      refine comp_gen (fun rest acc S2 => Sub T4 S2 ∧ ∃ (n i : Nat) (rs : List Rat), rest = intsD i n ∧ i + n = m.toNat ∧ acc = rs.map ratD ∧ rs.length = i ∧ ∀ x ∈ rs, Sq 190 x ∧ 0 ≤ x) ?_ ?_ _ [] _ ?_ put_same
      · rintro d rest acc S2 K ⟨hs, n, i, rs, e1, e2, rfl, hl2, hrs⟩ hS2 hK
        cases n with
        | zero => cases e1
        | succ n =>
          rw [intsD_succ] at e1
          cases e1
          have hlt : i < ns.length := by have := hns.len; omega
          refine ⟨trivial, _, rfl, ?_⟩
          simp [wipeG, clean, cleanO]
          refine ⟨m, ns, i, hlt, rfl, hns, m4, fun x h1 h2 => ?_⟩
          refine ⟨mu, x, rfl, hmu.mono (by decide), h1.mono (by decide), ?_⟩
          refine hK _ _ hS2 (len_ok (m := 4) (by simp; omega) (by decide)) ⟨hs.put ha, n, i + 1, rs ++ [mu * x], rfl, by omega, by rw [List.map_append]; rfl, by simp [hl2], fun y hy => ?_⟩
          rcases List.mem_append.mp hy with z | z
          · exact hrs y z
          · rw [List.mem_singleton.mp z]; exact mulQ h1 h2
      · rintro acc S2 ⟨hs, n, i, rs, e1, e2, rfl, hl2, hrs⟩ hS2
        cases n with
        | succ n => rw [intsD_succ] at e1; cases e1
        | zero =>
          refine ⟨trivial, ?_⟩
          simp [onR_eq hS2]
          refine .of (hq _ _ ⟨by omega, hrs⟩ (fr4.trans (Fr.sub hs)) ?_)
          obtain ⟨x, y, z, hz⟩ := p4
          exact ⟨x, y, z, hs _ _ hz⟩
      · exact ⟨Sub.new ha, m.toNat, 0, [], rfl, by omega, rfl, rfl, fun _ h => (nomatch h)⟩
end Vm
/-! VsW: what the defs promise, plainly: within a shade; what is true of how far. -/
namespace Vm
open PySem PySem.Spec PyProof.Rows L2
/-- no candidate passes g -/
def UB (M : Rat) (zs : List ((Int × Int) × Rat)) (g : Rat) : Prop := ∀ z ∈ zs, (z.1.1 : Rat) * M - 100 * z.2 ≤ g ∧ 100 * z.2 - (z.1.2 : Rat) * M ≤ g
theorem cast1 : ((1 : Int) : Rat) = 1 := rfl
theorem castm : ((-1 : Int) : Rat) = -1 := rfl
theorem cast100 : ((100 : Int) : Rat) = 100 := rfl
theorem ub_iff {M g : Rat} {zs : List ((Int × Int) × Rat)} : (∀ c ∈ cands M zs, c ≤ g) ↔ UB M zs g := by
  unfold cands UB
  constructor
  · intro h z hz
    have h1 := h (((1 : Int) : Rat) * ((z.1.1 : Rat) * M - ((100 : Int) : Rat) * z.2)) (List.mem_flatMap.mpr ⟨z, hz, by unfold cand; simp⟩)
    have h2 := h (((-1 : Int) : Rat) * ((z.1.2 : Rat) * M - ((100 : Int) : Rat) * z.2)) (List.mem_flatMap.mpr ⟨z, hz, by unfold cand; simp⟩)
    rw [cast1, cast100] at h1
    rw [castm, cast100] at h2
    constructor <;> grind
  · intro h c hc
    obtain ⟨z, hz, hc⟩ := List.mem_flatMap.mp hc
    obtain ⟨h1, h2⟩ := h z hz
    unfold cand at hc
    rw [cast1, castm, cast100] at hc
    simp at hc
    rcases hc with e | e <;> grind
theorem le0 {a b : Rat} (h : ¬ a < b) : b - a ≤ 0 := by grind
theorem lt0 {a b : Rat} (h : a < b) (h2 : b - a ≤ 0) : False := by grind
structure LubU (M : Rat) (zs : List ((Int × Int) × Rat)) (f : Rat) : Prop where
  pos : 0 ≤ f
  up : UB M zs f
  least : ∀ g, 0 ≤ g → UB M zs g → f ≤ g
theorem Lub.u {M f : Rat} {zs : List ((Int × Int) × Rat)} (h : Lub (cands M zs) f) : LubU M zs f := ⟨h.pos, ub_iff.mp h.up, fun g h0 hg => h.least g h0 (ub_iff.mpr hg)⟩
theorem LubU.uniq {M f g : Rat} {zs ws : List ((Int × Int) × Rat)} (h : LubU M zs f) (h2 : LubU M ws g) (e : ∀ z, z ∈ zs ↔ z ∈ ws) : f = g :=
  Rat.le_antisymm (h.least g h2.pos fun z hz => h2.up z ((e z).mp hz)) (h2.least f h.pos fun z hz => h.up z ((e z).mpr hz))
theorem LubU.zero_iff {M f : Rat} {zs : List ((Int × Int) × Rat)} (h : LubU M zs f) : f = 0 ↔ UB M zs 0 := by
  constructor
  · intro e
    rw [← e]
    exact h.up
  · intro u
    exact Rat.le_antisymm (h.least 0 Rat.le_refl u) h.pos
theorem sum_sq {n : Nat} (hn : n ≤ 600) : ∀ (xs : List Rat) (s : Rat) (k : Nat), Sq ((n + 1) * k + 1) s → xs.length + k ≤ 4 → (∀ x ∈ xs, Sq n x) → Sq ((n + 1) * 4 + 1) (xs.foldl (· + ·) s)
  | [], s, k, hs, hl, _ => hs.mono (by have := Nat.mul_le_mul_left (n + 1) (show k ≤ 4 by simpa using hl); omega)
  | x :: xs, s, k, hs, hl, hx => by
    rw [List.foldl_cons]
    simp at hl
    refine sum_sq hn xs (s + x) (k + 1) (sum_stepn (by omega) hn hs (hx x List.mem_cons_self)).2.2 (by omega) fun y hy => hx y (List.mem_cons_of_mem _ hy)
theorem Rown.sum {n : Nat} {xs : List Rat} (h : Rown n xs) (hn : n ≤ 600) : Sq ((n + 1) * 4 + 1) (sumR xs) := sum_sq hn xs 0 0 (Sq.zero (by omega)) (by have := h.len; omega) h.ok
theorem Rown.row {n : Nat} {xs : List Rat} (h : Rown n xs) (hn : n ≤ 600) : Row xs := ⟨h.len, fun x hx => (h.ok x hx).mono hn⟩
def F_law_within : FS := fun ds S Q E => ∃ (n : Nat) (ps : List (Int × Int)) (xs : List Rat), ds = [shD ps, rowD xs] ∧ n ≤ 500 ∧ Rown n xs ∧ (∀ p ∈ ps, boundsB p = true) ∧ ps.length = xs.length ∧ ∀ b : Bool, (b = true ↔ UB (sumR xs) (ps.zip xs) 0) → Q (.bl b) S
def N_law_within : List Str := ["shade", "stuffs", "all_in", "k", "hundred"]
def w_law_within : WS := seqW [
  asgS (callW F_law_sum [(slotW 1)]) (nmW (.nm 2)),
  forS (rngW [(bltW lenW [(slotW 0)])]) (.nm 3) (seqW [
    asgS (callW F_law_mul [(tupW [(valW (.int 100)), (valW (.int 1))]), (two (slotW 1) (slotW 3) ixW)]) (nmW (.nm 4)),
    ifS (tst (callW F_law_less [(slotW 4), (callW F_law_mul [(tupW [(two (two (slotW 0) (slotW 3) ixW) (valW (.int 0)) ixW), (valW (.int 1))]), (slotW 2)])])) (seqW [
      retS (valW (.bl false))]) (seqW []),
    ifS (tst (callW F_law_less [(callW F_law_mul [(tupW [(two (two (slotW 0) (slotW 3) ixW) (valW (.int 1)) ixW), (valW (.int 1))]), (slotW 2)]), (slotW 4)])) (seqW [
      retS (valW (.bl false))]) (seqW [])]),
  retS (valW (.bl true))]
theorem vc_law_within (ds : List D) (S : Sto) (Q : KE) (E : XP) (h : F_law_within ds S Q E) : w_law_within (startG N_law_within ds) S (finD Q) (finX E) := by
  obtain ⟨n, ps, xs, rfl, hn, hr, hb, hl, hq⟩ := h
  show w_law_within [some (shD ps), some (rowD xs), none, none, none] S (finD Q) (finX E)
  have hM := hr.sum (by omega)
  unfold w_law_within
  refine seq_cut fun R hR => ?_
  simp
  refine ⟨xs, rfl, hr.row (by omega), ?_⟩
  generalize hMe : sumR xs = M at hM hq
  try simp
  subst hR
  refine seq_cut fun R hR => ?_
  simp
  have h4 := hr.len
  refine ⟨by omega, ?_⟩
  refine for_inv (fun ds Γ S' => S' = S ∧ ∃ (n i : Nat) (g1 g2 : Option D), ds = intsD i n ∧ i + n = xs.length ∧ Γ = [some (shD ps), some (rowD xs), some (ratD M), g1, g2] ∧
    ∀ (j : Nat) (hj : j < xs.length) (hj2 : j < ps.length), j < i → (ps[j].1 : Rat) * M - 100 * xs[j] ≤ 0 ∧ 100 * xs[j] - (ps[j].2 : Rat) * M ≤ 0) ?_ ?_ _ _ _ ?_
  · rintro d ds Γ S' K ⟨rfl, k, i, g1, g2, e, hi, rfl, hU⟩ hK
    cases k with
    | zero => cases e
    | succ k =>
      rw [intsD_succ] at e
      cases e
      have hx : i < xs.length := by omega
      have hp : i < ps.length := by omega
      have hbb := hb _ (List.getElem_mem hp)
      unfold boundsB at hbb
      simp at hbb
      obtain ⟨l0, lh, h100⟩ := hbb
      have hz : (ps[i], xs[i]) ∈ ps.zip xs := by
        have : (ps.zip xs)[i]'(by simp; omega) = (ps[i], xs[i]) := by simp
        rw [← this]
        exact List.getElem_mem _
      have sx := hr.ok _ (List.getElem_mem hx)
      have s100 : Sq 7 ((100 : Int) : Rat) := sq100 (by decide) (by decide)
      have sH : Sq (n + 7) (((100 : Int) : Rat) * xs[i]) := (s100.mul sx).mono (by omega)
      have sL : Sq 7 ((ps[i].1 : Int) : Rat) := sq100 l0 (by omega)
      have sU : Sq 7 ((ps[i].2 : Int) : Rat) := sq100 (by omega) h100
      have sLM : Sq (4 * n + 20) (((ps[i].1 : Int) : Rat) * M) := (sL.mul hM).mono (by omega)
      have sUM : Sq (4 * n + 20) (((ps[i].2 : Int) : Rat) * M) := (sU.mul hM).mono (by omega)
      refine ⟨trivial, ?_⟩
      rw [u_body]
      refine seq_cut fun R2 hR2 => ?_
      simp [at_rats hx]
      refine ⟨((100 : Int) : Rat), xs[i], rfl, s100.mono (by decide), sx.mono (by omega), ?_⟩
      try simp
      subst hR2
      refine seq_cut fun R2 hR2 => ?_
      simp [at_prs hp, at2]
      refine ⟨((ps[i].1 : Int) : Rat), M, rfl, sL.mono (by decide), hM.mono (by omega), ?_⟩
      refine ⟨((100 : Int) : Rat) * xs[i], ((ps[i].1 : Int) : Rat) * M, rfl, sH.mono (by omega), sLM.mono (by omega), ?_⟩
      simp
      split
      · rename_i hlt
        refine .of (hq false ⟨fun z => (nomatch z), fun u => ?_⟩)
        exact (lt0 hlt (u _ hz).1).elim
      · rename_i hlt
        subst hR2
        simp [at_prs hp, at2]
        refine ⟨((ps[i].2 : Int) : Rat), M, rfl, sU.mono (by decide), hM.mono (by omega), ?_⟩
        refine ⟨((ps[i].2 : Int) : Rat) * M, ((100 : Int) : Rat) * xs[i], rfl, sUM.mono (by omega), sH.mono (by omega), ?_⟩
        simp
        split
        · rename_i hlt2
          refine .of (hq false ⟨fun z => (nomatch z), fun u => ?_⟩)
          exact (lt0 hlt2 (u _ hz).2).elim
        · rename_i hlt2
          refine hK _ _ ⟨rfl, k, i + 1, _, _, rfl, by omega, rfl, fun j hj hj2 hji => ?_⟩
          by_cases hj3 : j < i
          · exact hU j hj hj2 hj3
          · have : j = i := by omega
            subst this
            exact ⟨le0 hlt, le0 hlt2⟩
  · rintro Γ S' ⟨rfl, k, i, g1, g2, e, hi, rfl, hU⟩
    cases k with
    | succ k => rw [intsD_succ] at e; cases e
    | zero =>
      subst hR
      simp
      refine .of (hq true ⟨fun _ z hz => ?_, fun _ => rfl⟩)
      obtain ⟨j, hj, e2⟩ := List.mem_iff_getElem.mp hz
      simp at hj
      rw [← e2, List.getElem_zip]
      exact hU j (by omega) (by omega) (by omega)
  · exact ⟨rfl, xs.length, 0, none, none, by rw [hl]; rfl, by omega, rfl, fun j _ _ h => by omega⟩
end Vm
/-! VsM: what is true of how far stuffs are from a shade: plain arithmetic. -/
namespace Vm
open PySem PySem.Spec PyProof.Rows L2
theorem ub_idx {M g : Rat} {ps : List (Int × Int)} {xs : List Rat} : UB M (ps.zip xs) g ↔ ∀ (j : Nat) (h1 : j < ps.length) (h2 : j < xs.length), (ps[j].1 : Rat) * M - 100 * xs[j] ≤ g ∧ 100 * xs[j] - (ps[j].2 : Rat) * M ≤ g := by
  constructor
  · intro h j h1 h2
    have e : (ps.zip xs)[j]'(by simp; omega) = (ps[j], xs[j]) := by simp
    exact h (ps[j], xs[j]) (by rw [← e]; exact List.getElem_mem _)
  · intro h z hz
    obtain ⟨j, hj, e⟩ := List.mem_iff_getElem.mp hz
    simp at hj
    rw [← e, List.getElem_zip]
    exact h j (by omega) (by omega)
theorem foldl_add : ∀ (l : List Rat) (s : Rat), l.foldl (· + ·) s = s + sumR l
  | [], s => by unfold sumR; simp; grind
  | x :: l, s => by
    unfold sumR
    rw [List.foldl_cons, List.foldl_cons, foldl_add l (s + x), foldl_add l (0 + x)]
    grind
theorem sumR_cons {x : Rat} {l : List Rat} : sumR (x :: l) = x + sumR l := by
  have := foldl_add l (0 + x)
  unfold sumR
  rw [List.foldl_cons, this]
  unfold sumR
  grind
theorem sumR_nil : sumR [] = 0 := rfl
theorem sumR_perm {l l' : List Rat} (h : l.Perm l') : sumR l = sumR l' := by
  induction h with
  | nil => rfl
  | cons x _ ih => rw [sumR_cons, sumR_cons, ih]
  | swap x y l => rw [sumR_cons, sumR_cons, sumR_cons, sumR_cons]; grind
  | trans _ _ h1 h2 => rw [h1, h2]
theorem sumR_scale {mu : Rat} : ∀ l : List Rat, sumR (l.map fun x => mu * x) = mu * sumR l
  | [] => by rw [List.map_nil, sumR_nil]; grind
  | x :: l => by rw [List.map_cons, sumR_cons, sumR_cons, sumR_scale l]; grind
theorem sumR_zip : ∀ (xs ys : List Rat), xs.length = ys.length → sumR (List.zipWith (· + ·) xs ys) = sumR xs + sumR ys
  | [], [], _ => by simp [sumR_nil]; grind
  | x :: xs, y :: ys, h => by
    rw [List.zipWith_cons_cons, sumR_cons, sumR_cons, sumR_cons, sumR_zip xs ys (by simpa using h)]
    grind
theorem sumR_ge : ∀ {l : List Rat}, (∀ x ∈ l, 0 ≤ x) → 0 ≤ sumR l ∧ ∀ y ∈ l, y ≤ sumR l
  | [], _ => ⟨by rw [sumR_nil]; exact Rat.le_refl, fun _ h => (nomatch h)⟩
  | x :: l, h => by
    obtain ⟨h1, h2⟩ := sumR_ge (l := l) fun z hz => h z (List.mem_cons_of_mem _ hz)
    have h3 := h x List.mem_cons_self
    rw [sumR_cons]
    refine ⟨by grind, fun y hy => ?_⟩
    rcases List.mem_cons.mp hy with e | e
    · subst e; grind
    · have := h2 y e; grind
theorem mul_le {a b c : Rat} (h : a ≤ b) (hc : 0 ≤ c) : c * a ≤ c * b := Rat.mul_le_mul_of_nonneg_left h hc
theorem inv_lin {a b c : Rat} (e : a * b = 1) : a * (b * c) = c := by rw [← Rat.mul_assoc, e, Rat.one_mul]
/-- all made greater by mu -/
theorem lub_scale {M f f' mu : Rat} {ps : List (Int × Int)} {xs : List Rat} (h : LubU M (ps.zip xs) f) (hmu : 0 ≤ mu) (h' : LubU (mu * M) (ps.zip (xs.map fun x => mu * x)) f') : f' = mu * f := by
  apply Rat.le_antisymm
  · refine h'.least _ (Rat.mul_nonneg hmu h.pos) (ub_idx.mpr fun j h1 h2 => ?_)
    simp at h2
    obtain ⟨a, b⟩ := ub_idx.mp h.up j h1 h2
    have a2 := mul_le a hmu
    have b2 := mul_le b hmu
    rw [List.getElem_map]
    constructor <;> grind
  · by_cases hz : mu = 0
    · subst hz
      have := h'.pos
      grind
    · have hpos : 0 < mu := by grind
      have hi : 0 ≤ mu⁻¹ := Rat.le_of_lt (Rat.inv_pos.mpr hpos)
      have key : f ≤ mu⁻¹ * f' := by
        refine h.least _ (Rat.mul_nonneg hi h'.pos) (ub_idx.mpr fun j h1 h2 => ?_)
        obtain ⟨a, b⟩ := ub_idx.mp h'.up j h1 (by simpa using h2)
        rw [List.getElem_map] at a b
        have e : mu⁻¹ * mu = 1 := Rat.inv_mul_cancel _ hz
        have e1 : (ps[j].1 : Rat) * (mu * M) - 100 * (mu * xs[j]) = mu * ((ps[j].1 : Rat) * M - 100 * xs[j]) := by grind
        have e2 : 100 * (mu * xs[j]) - (ps[j].2 : Rat) * (mu * M) = mu * (100 * xs[j] - (ps[j].2 : Rat) * M) := by grind
        rw [e1] at a
        rw [e2] at b
        have a2 := mul_le a hi
        have b2 := mul_le b hi
        rw [inv_lin e] at a2 b2
        exact ⟨a2, b2⟩
      have k2 := mul_le key (Rat.le_of_lt hpos)
      have e : mu * mu⁻¹ = 1 := Rat.mul_inv_cancel _ hz
      rw [inv_lin e] at k2
      exact k2
/-- two together are no farther than each for itself -/
theorem lub_add {M N f g h : Rat} {ps : List (Int × Int)} {xs ys : List Rat} (hf : LubU M (ps.zip xs) f) (hg : LubU N (ps.zip ys) g) (hh : LubU (M + N) (ps.zip (List.zipWith (· + ·) xs ys)) h) : h ≤ f + g := by
  have p1 := hf.pos
  have p2 := hg.pos
  refine hh.least _ (by grind) (ub_idx.mpr fun j h1 h2 => ?_)
  simp at h2
  obtain ⟨a, b⟩ := ub_idx.mp hf.up j h1 (by omega)
  obtain ⟨c, d⟩ := ub_idx.mp hg.up j h1 (by omega)
  rw [List.getElem_zipWith]
  constructor <;> grind
/-- a wider shade is no farther -/
theorem lub_wide {M f g : Rat} {ps ws : List (Int × Int)} {xs : List Rat} (hM : 0 ≤ M) (hf : LubU M (ps.zip xs) f) (hg : LubU M (ws.zip xs) g) (hl : ws.length = ps.length)
    (hw : ∀ (j : Nat) (h1 : j < ps.length) (h2 : j < ws.length), ws[j].1 ≤ ps[j].1 ∧ ps[j].2 ≤ ws[j].2) : g ≤ f := by
  refine hg.least _ hf.pos (ub_idx.mpr fun j h1 h2 => ?_)
  obtain ⟨a, b⟩ := ub_idx.mp hf.up j (by omega) h2
  obtain ⟨c, d⟩ := hw j (by omega) h1
  have c1 : ((ws[j].1 : Int) : Rat) ≤ ((ps[j].1 : Int) : Rat) := Rat.intCast_le_intCast.mpr c
  have d1 : ((ps[j].2 : Int) : Rat) ≤ ((ws[j].2 : Int) : Rat) := Rat.intCast_le_intCast.mpr d
  have c2 := mul_le c1 hM
  have d2 := mul_le d1 hM
  constructor <;> grind
/-- a hundred times all is farther than any -/
theorem lub_most {f : Rat} {ps : List (Int × Int)} {xs : List Rat} (h0 : ∀ x ∈ xs, 0 ≤ x) (hb : ∀ p ∈ ps, boundsB p = true) (hf : LubU (sumR xs) (ps.zip xs) f) : f ≤ 100 * sumR xs := by
  obtain ⟨s0, sx⟩ := sumR_ge h0
  refine hf.least _ (by grind) (ub_idx.mpr fun j h1 h2 => ?_)
  have hx := h0 _ (List.getElem_mem h2)
  have hx2 := sx _ (List.getElem_mem h2)
  have hbb := hb _ (List.getElem_mem h1)
  unfold boundsB at hbb
  simp at hbb
  obtain ⟨l0, lh, h100⟩ := hbb
  have c1 : ((ps[j].1 : Int) : Rat) ≤ ((100 : Int) : Rat) := Rat.intCast_le_intCast.mpr (by omega)
  have d1 : ((0 : Int) : Rat) ≤ ((ps[j].2 : Int) : Rat) := Rat.intCast_le_intCast.mpr (by omega)
  rw [cast100] at c1
  rw [show ((0 : Int) : Rat) = 0 from rfl] at d1
  have c2 := mul_le c1 s0
  have d2 := mul_le d1 s0
  constructor <;> grind
/-- nothing is nowhere -/
theorem lub_none {f : Rat} {ps : List (Int × Int)} {n : Nat} (hf : LubU (sumR (List.replicate n 0)) (ps.zip (List.replicate n 0)) f) : f = 0 := by
  have e : ∀ n : Nat, sumR (List.replicate n 0) = 0 := by
    intro n
    induction n with
    | zero => rfl
    | succ n ih => rw [List.replicate_succ, sumR_cons, ih]; grind
  rw [e] at hf
  refine hf.zero_iff.mpr (ub_idx.mpr fun j h1 h2 => ?_)
  rw [List.getElem_replicate]
  constructor <;> grind
theorem zip_same {α β γ : Type} {f : α → β} {g : α → γ} : ∀ l : List α, (l.map f).zip (l.map g) = l.map fun k => (f k, g k)
  | [] => rfl
  | x :: l => by rw [List.map_cons, List.map_cons, List.zip_cons_cons, zip_same l, List.map_cons]
/-- the stuffs turned about -/
theorem lub_turn {f g : Rat} {ps : List (Int × Int)} {xs : List Rat} {os : List Nat} (hl : ps.length = xs.length) (hos : os.Perm (List.range xs.length)) (fp : Nat → Int × Int) (fx : Nat → Rat)
    (hp : ∀ j (h : j < ps.length), fp j = ps[j]) (hx : ∀ j (h : j < xs.length), fx j = xs[j]) (hf : LubU (sumR xs) (ps.zip xs) f) (hg : LubU (sumR (os.map fx)) ((os.map fp).zip (os.map fx)) g) : g = f := by
  have ex : (List.range xs.length).map fx = xs := by
    apply List.ext_getElem
    · simp
    · intro i h1 h2
      simp
      exact hx i h2
  have ep : (List.range xs.length).map fp = ps := by
    apply List.ext_getElem
    · simp [hl]
    · intro i h1 h2
      simp
      exact hp i h2
  have es : sumR (os.map fx) = sumR xs := by
    have := sumR_perm (hos.map fx)
    rw [ex] at this
    exact this
  rw [es] at hg
  have ez : (os.map fp).zip (os.map fx) = os.map fun k => (fp k, fx k) := by
    exact zip_same os
  rw [ez] at hg
  refine hg.uniq hf fun z => ?_
  have e2 : ps.zip xs = (List.range xs.length).map fun k => (fp k, fx k) := by
    conv => lhs; rw [← ep]; arg 2; rw [← ex]
    exact zip_same _
  rw [e2]
  exact (hos.map _).mem_iff
end Vm
/-! VsY: what the defs promise, plainly: law k05. -/
namespace Vm
open PySem PySem.Spec PyProof.Rows L2
theorem eq_frac {n : Bool} {a b c d : Int} {S : Sto} {Q : KE} (q : Q (.bl (n ^^ (decide (a = c) && decide (b = d)))) S) : eqW n (frD a b) (frD c d) S Q := by
  unfold eqW
  have e1 : pdOf S 24 (frD a b) = some (.tuple [.int a, .int b]) := rfl
  have e2 : pdOf S 24 (frD c d) = some (.tuple [.int c, .int d]) := rfl
  simp only [e1, e2]
  refine ⟨rfl, rfl, ?_⟩
  have e3 : PyData.eqv (.tuple [.int a, .int b]) (.tuple [.int c, .int d]) = (decide (a = c) && decide (b = d)) := by
    simp [PyData.eqv, PyData.eqvAll]
    rfl
  rw [e3]
  exact q
theorem eq_rat {n : Bool} {x y : Rat} {S : Sto} {Q : KE} (q : Q (.bl (n ^^ decide (x = y))) S) : eqW n (ratD x) (ratD y) S Q := by
  refine eq_frac ?_
  have e : (decide (x.num = y.num) && decide ((x.den : Int) = (y.den : Int))) = decide (x = y) := by
    rw [← Bool.decide_and, decide_eq_decide]
    constructor
    · intro ⟨h1, h2⟩
      exact Rat.ext h1 (by omega)
    · intro h
      rw [h]
      exact ⟨rfl, rfl⟩
  rw [e]
  exact q
theorem comp_one {v : Nat} {Γ0 : Gam} {elt : WE} {ok : Sto → Prop} {p : Addr} {k : Sto → Prop} {d : D} {ds : List D} {S : Sto} (h1 : ok S) (h2 : elt (Γ0.set v (some d)) S (fun y S2 => onL S2 p fun acc => acc.length < sizeLine ∧ compW (.nm v) Γ0 yesT elt ok p k ds (put S2 p (.lst (acc ++ [y])))) (fun _ _ => False)) :
    compW (.nm v) Γ0 yesT elt ok p k (d :: ds) S := ⟨h1, h2⟩
theorem comp_nil {v : Nat} {Γ0 : Gam} {elt : WE} {ok : Sto → Prop} {p : Addr} {k : Sto → Prop} {S : Sto} (h1 : ok S) (h2 : k S) : compW (.nm v) Γ0 yesT elt ok p k [] S := ⟨h1, h2⟩
theorem perm_map {α β : Type} {f : α → β} {l l2 : List β} (h : l.Perm l2) : ∀ {r : List α}, l2 = r.map f → ∃ r' : List α, r'.Perm r ∧ l = r'.map f := by
  induction h with
  | nil =>
    intro r e
    cases r with
    | nil => exact ⟨[], .refl _, rfl⟩
    | cons x r => cases e
  | cons x _ ih =>
    intro r e
    cases r with
    | nil => cases e
    | cons y r =>
      injection e with e1 e2
      obtain ⟨r', h1, h2⟩ := ih e2
      exact ⟨y :: r', h1.cons _, by rw [List.map_cons, h2, e1]⟩
  | swap x y l =>
    intro r e
    cases r with
    | nil => cases e
    | cons a r =>
      cases r with
      | nil => injection e with e1 e2; cases e2
      | cons b r =>
        injection e with e1 e2
        injection e2 with e2 e3
        exact ⟨b :: a :: r, .swap _ _ _, by rw [List.map_cons, List.map_cons, e1, e2, e3]⟩
  | trans _ _ h1 h2 =>
    intro r e
    obtain ⟨r1, a, b⟩ := h2 e
    obtain ⟨r2, c, d⟩ := h1 b
    exact ⟨r2, c.trans a, d⟩
theorem Pu.sub {p : Addr} {S S' : Sto} (h : Pu p S) (s : Sub S S') : Pu p S' := by
  obtain ⟨a, b, c, e⟩ := h
  exact ⟨a, b, c, s _ _ e⟩
def sndD : D → D
  | .tup [_, x] => x
  | d => d
def isNum (d y : D) : Prop := ∃ (t i : Int), d = .int i ∧ y = prD (t, i)
theorem nums_snd : ∀ {ds acc : List D}, Paired isNum ds acc → acc.map sndD = ds ∧ acc.all isPr = true ∧ (ds ≠ [] → allM asIn acc = none ∧ allM asSt acc = none)
  | _, _, .nil => ⟨rfl, rfl, fun h => (h rfl).elim⟩
  | _, _, .cons ⟨t, i, rfl, rfl⟩ r => by
    obtain ⟨h1, h2, _⟩ := nums_snd r
    refine ⟨by rw [List.map_cons, h1]; rfl, by rw [List.all_cons, h2]; rfl, fun _ => ⟨rfl, rfl⟩⟩
theorem snd_map : ∀ {es : List D}, es.all isPr = true → es.map sndD = es.map sndD := fun _ => rfl
theorem isPr_get {d : D} (h : isPr d = true) : ∃ a b : Int, d = prD (a, b) := by
  unfold isPr at h
  split at h
  · exact ⟨_, _, rfl⟩
  · cases h
theorem intsD_map {n : Nat} : intsD 0 n = (List.range n).map fun i => D.int (i : Nat) := by
  unfold intsD
  apply List.map_congr_left
  intro a _
  rw [Int.zero_add]
def wideR (d y : D) : Prop := ∃ l u l' u' : Int, d = prD (l, u) ∧ y = prD (l', u') ∧ 0 ≤ l' ∧ l' ≤ l ∧ u ≤ u' ∧ u' ≤ 100
theorem wide_get : ∀ {ps : List (Int × Int)} {acc : List D}, Paired wideR (ps.map prD) acc → ∃ ws : List (Int × Int), acc = ws.map prD ∧ ws.length = ps.length ∧ (∀ (j : Nat) (h1 : j < ps.length) (h2 : j < ws.length), ws[j].1 ≤ ps[j].1 ∧ ps[j].2 ≤ ws[j].2) ∧ (∀ w ∈ ws, 0 ≤ w.1 ∧ w.2 ≤ 100) ∧ lows ws ≤ lows ps ∧ highs ps ≤ highs ws
  | [], _, .nil => ⟨[], rfl, rfl, fun j h => (by simp at h), fun _ h => (nomatch h), Int.le_refl _, Int.le_refl _⟩
  | (a, b) :: ps, _, .cons ⟨l, u, l', u', e1, rfl, h1, h2, h3, h4⟩ r => by
    obtain ⟨ws, rfl, hl, hw, hb, hlo, hhi⟩ := wide_get r
    injection e1 with e1
    injection e1 with e1 e2
    injection e1 with e1
    injection e2 with e2
    injection e2 with e2
    have e1 : a = l := e1
    have e2 : b = u := e2
    subst e1 e2
    refine ⟨(l', u') :: ws, rfl, by simp [hl], fun j k1 k2 => ?_, fun w hw' => ?_, ?_, ?_⟩
    · cases j with
      | zero => exact ⟨h2, h3⟩
      | succ j => exact hw j (by simpa using k1) (by simpa using k2)
    · rcases List.mem_cons.mp hw' with q | q
      · rw [q]; exact ⟨h1, h4⟩
      · exact hb w q
    · unfold lows at hlo ⊢
      simp at hlo ⊢
      omega
    · unfold highs at hhi ⊢
      simp at hhi ⊢
      omega
theorem wide_shade {m : Int} {ps ws : List (Int × Int)} (sh : Shade m ps) (hl : ws.length = ps.length) (hw : ∀ (j : Nat) (h1 : j < ps.length) (h2 : j < ws.length), ws[j].1 ≤ ps[j].1 ∧ ps[j].2 ≤ ws[j].2) (hb : ∀ w ∈ ws, 0 ≤ w.1 ∧ w.2 ≤ 100) (hlo : lows ws ≤ lows ps) (hhi : highs ps ≤ highs ws) : Shade m ws := by
  refine ⟨by rw [hl]; exact sh.len, sh.m2, sh.m4, fun w hwm => ?_, by have := sh.lo; omega, by have := sh.hi; omega⟩
  obtain ⟨j, hj, rfl⟩ := List.mem_iff_getElem.mp hwm
  obtain ⟨a, b⟩ := hw j (by omega) hj
  obtain ⟨c, d⟩ := hb _ hwm
  have hp := sh.ok _ (List.getElem_mem (show j < ps.length by omega))
  unfold boundsB at hp ⊢
  simp at hp ⊢
  omega
def F_law_right_k05 : FS := fun ds S Q E => ∃ p, ds = [.ref p] ∧ Pu p S ∧ ∀ S', Fr p S S' → Q (.bl true) S'
def N_law_right_k05 : List Str := ["purse", "many", "shade", "much", "order", "wider", "both", "found", "turned", "one", "other", "stuffs", "number", "k", "low", "high", "stuff"]
def w_law_right_k05 : WS := seqW [
  asgS (two (valW (.int 2)) (callW F_law_take [(slotW 0), (valW (.int 3))]) addW) (nmW (.nm 1)),
  asgS (callW F_law_shade [(slotW 0), (slotW 1)]) (nmW (.nm 2)),
  asgS (tupW [(callW F_law_some_stuffs_k05 [(slotW 0), (slotW 1), (slotW 2)]), (callW F_law_some_stuffs_k05 [(slotW 0), (slotW 1), (slotW 2)])]) (nmW (.tp [(.nm 9), (.nm 10)])),
  asgS (callW F_law_low [(bltW absW [(callW F_law_great_k02 [(slotW 0)])]), (two (valW (.int 1)) (callW F_law_take [(slotW 0), (valW (.int 9))]) addW)]) (nmW (.nm 3)),
  asgS (lcW (itW (bltW sortedW [(lcW (rngW [(slotW 1)]) (.nm 13) [13] yesT (tupW [(callW F_law_take [(slotW 0), (valW (.int 997))]), (slotW 13)]))])) (.tp [(.nm 12), (.nm 13)]) [12, 13] yesT (slotW 13)) (nmW (.nm 4)),
  asgS (bltW tupleW [(lcW (itW (slotW 2)) (.tp [(.nm 14), (.nm 15)]) [14, 15] yesT (tupW [(bltW maxW [(valW (.int 0)), (two (slotW 14) (callW F_law_take [(slotW 0), (valW (.int 9))]) subW)]), (bltW minW [(valW (.int 100)), (two (slotW 15) (callW F_law_take [(slotW 0), (valW (.int 9))]) addW)])]))]) (nmW (.nm 5)),
  asgS (bltW tupleW [(lcW (rngW [(slotW 1)]) (.nm 13) [13] yesT (callW F_law_add [(two (slotW 9) (slotW 13) ixW), (two (slotW 10) (slotW 13) ixW)]))]) (nmW (.nm 6)),
  asgS (lcW (itW (lstW [(slotW 9), (slotW 10), (slotW 6)])) (.nm 11) [11] yesT (callW F_far [(slotW 1), (slotW 2), (slotW 11)])) (nmW (.nm 7)),
  ifS (notT (tst (callW (F_law_same jmax) [(callW F_far [(slotW 1), (slotW 2), (bltW tupleW [(lcW (itW (slotW 9)) (.nm 16) [16] yesT (callW F_law_mul [(slotW 3), (slotW 16)]))])]), (callW F_law_mul [(slotW 3), (two (slotW 7) (valW (.int 0)) ixW)])]))) (seqW [
    retS (valW (.bl false))]) (seqW []),
  ifS (orT [(tst (callW F_law_less [(callW F_law_add [(two (slotW 7) (valW (.int 0)) ixW), (two (slotW 7) (valW (.int 1)) ixW)]), (two (slotW 7) (valW (.int 2)) ixW)])), (tst (two (two (two (slotW 7) (valW (.int 0)) ixW) (tupW [(valW (.int 0)), (valW (.int 1))]) (eqW false)) (callW F_law_within [(slotW 2), (slotW 9)]) (eqW true)))]) (seqW [
    retS (valW (.bl false))]) (seqW []),
  asgS (callW F_far [(slotW 1), (bltW tupleW [(lcW (itW (slotW 4)) (.nm 13) [13] yesT (two (slotW 2) (slotW 13) ixW))]), (bltW tupleW [(lcW (itW (slotW 4)) (.nm 13) [13] yesT (two (slotW 9) (slotW 13) ixW))])]) (nmW (.nm 8)),
  ifS (orT [(notT (tst (callW (F_law_same jmax) [(slotW 8), (two (slotW 7) (valW (.int 0)) ixW)]))), (notT (tst (callW F_is_shade [(slotW 1), (slotW 5)]))), (tst (callW F_law_less [(two (slotW 7) (valW (.int 0)) ixW), (callW F_far [(slotW 1), (slotW 5), (slotW 9)])]))]) (seqW [
    retS (valW (.bl false))]) (seqW []),
  ifS (orT [(tst (callW F_law_less [(callW F_law_mul [(tupW [(valW (.int 100)), (valW (.int 1))]), (callW F_law_sum [(slotW 9)])]), (two (slotW 7) (valW (.int 0)) ixW)])), (tst (callW F_law_less [(two (slotW 7) (valW (.int 0)) ixW), (tupW [(valW (.int 0)), (valW (.int 1))])]))]) (seqW [
    retS (valW (.bl false))]) (seqW []),
  retS (callW (F_law_same jmax) [(callW F_far [(slotW 1), (slotW 2), (two (tupW [(tupW [(valW (.int 0)), (valW (.int 1))])]) (slotW 1) mulW)]), (tupW [(valW (.int 0)), (valW (.int 1))])])]
def w_law_right_k05_tail : List WS := [
  asgS (bltW tupleW [(lcW (itW (slotW 2)) (.tp [(.nm 14), (.nm 15)]) [14, 15] yesT (tupW [(bltW maxW [(valW (.int 0)), (two (slotW 14) (callW F_law_take [(slotW 0), (valW (.int 9))]) subW)]), (bltW minW [(valW (.int 100)), (two (slotW 15) (callW F_law_take [(slotW 0), (valW (.int 9))]) addW)])]))]) (nmW (.nm 5)),
  asgS (bltW tupleW [(lcW (rngW [(slotW 1)]) (.nm 13) [13] yesT (callW F_law_add [(two (slotW 9) (slotW 13) ixW), (two (slotW 10) (slotW 13) ixW)]))]) (nmW (.nm 6)),
  asgS (lcW (itW (lstW [(slotW 9), (slotW 10), (slotW 6)])) (.nm 11) [11] yesT (callW F_far [(slotW 1), (slotW 2), (slotW 11)])) (nmW (.nm 7)),
  ifS (notT (tst (callW (F_law_same jmax) [(callW F_far [(slotW 1), (slotW 2), (bltW tupleW [(lcW (itW (slotW 9)) (.nm 16) [16] yesT (callW F_law_mul [(slotW 3), (slotW 16)]))])]), (callW F_law_mul [(slotW 3), (two (slotW 7) (valW (.int 0)) ixW)])]))) (seqW [
    retS (valW (.bl false))]) (seqW []),
  ifS (orT [(tst (callW F_law_less [(callW F_law_add [(two (slotW 7) (valW (.int 0)) ixW), (two (slotW 7) (valW (.int 1)) ixW)]), (two (slotW 7) (valW (.int 2)) ixW)])), (tst (two (two (two (slotW 7) (valW (.int 0)) ixW) (tupW [(valW (.int 0)), (valW (.int 1))]) (eqW false)) (callW F_law_within [(slotW 2), (slotW 9)]) (eqW true)))]) (seqW [
    retS (valW (.bl false))]) (seqW []),
  asgS (callW F_far [(slotW 1), (bltW tupleW [(lcW (itW (slotW 4)) (.nm 13) [13] yesT (two (slotW 2) (slotW 13) ixW))]), (bltW tupleW [(lcW (itW (slotW 4)) (.nm 13) [13] yesT (two (slotW 9) (slotW 13) ixW))])]) (nmW (.nm 8)),
  ifS (orT [(notT (tst (callW (F_law_same jmax) [(slotW 8), (two (slotW 7) (valW (.int 0)) ixW)]))), (notT (tst (callW F_is_shade [(slotW 1), (slotW 5)]))), (tst (callW F_law_less [(two (slotW 7) (valW (.int 0)) ixW), (callW F_far [(slotW 1), (slotW 5), (slotW 9)])]))]) (seqW [
    retS (valW (.bl false))]) (seqW []),
  ifS (orT [(tst (callW F_law_less [(callW F_law_mul [(tupW [(valW (.int 100)), (valW (.int 1))]), (callW F_law_sum [(slotW 9)])]), (two (slotW 7) (valW (.int 0)) ixW)])), (tst (callW F_law_less [(two (slotW 7) (valW (.int 0)) ixW), (tupW [(valW (.int 0)), (valW (.int 1))])]))]) (seqW [
    retS (valW (.bl false))]) (seqW []),
  retS (callW (F_law_same jmax) [(callW F_far [(slotW 1), (slotW 2), (two (tupW [(tupW [(valW (.int 0)), (valW (.int 1))])]) (slotW 1) mulW)]), (tupW [(valW (.int 0)), (valW (.int 1))])])]
def w_law_right_k05_tail2 : List WS := [
  ifS (notT (tst (callW (F_law_same jmax) [(callW F_far [(slotW 1), (slotW 2), (bltW tupleW [(lcW (itW (slotW 9)) (.nm 16) [16] yesT (callW F_law_mul [(slotW 3), (slotW 16)]))])]), (callW F_law_mul [(slotW 3), (two (slotW 7) (valW (.int 0)) ixW)])]))) (seqW [
    retS (valW (.bl false))]) (seqW []),
  ifS (orT [(tst (callW F_law_less [(callW F_law_add [(two (slotW 7) (valW (.int 0)) ixW), (two (slotW 7) (valW (.int 1)) ixW)]), (two (slotW 7) (valW (.int 2)) ixW)])), (tst (two (two (two (slotW 7) (valW (.int 0)) ixW) (tupW [(valW (.int 0)), (valW (.int 1))]) (eqW false)) (callW F_law_within [(slotW 2), (slotW 9)]) (eqW true)))]) (seqW [
    retS (valW (.bl false))]) (seqW []),
  asgS (callW F_far [(slotW 1), (bltW tupleW [(lcW (itW (slotW 4)) (.nm 13) [13] yesT (two (slotW 2) (slotW 13) ixW))]), (bltW tupleW [(lcW (itW (slotW 4)) (.nm 13) [13] yesT (two (slotW 9) (slotW 13) ixW))])]) (nmW (.nm 8)),
  ifS (orT [(notT (tst (callW (F_law_same jmax) [(slotW 8), (two (slotW 7) (valW (.int 0)) ixW)]))), (notT (tst (callW F_is_shade [(slotW 1), (slotW 5)]))), (tst (callW F_law_less [(two (slotW 7) (valW (.int 0)) ixW), (callW F_far [(slotW 1), (slotW 5), (slotW 9)])]))]) (seqW [
    retS (valW (.bl false))]) (seqW []),
  ifS (orT [(tst (callW F_law_less [(callW F_law_mul [(tupW [(valW (.int 100)), (valW (.int 1))]), (callW F_law_sum [(slotW 9)])]), (two (slotW 7) (valW (.int 0)) ixW)])), (tst (callW F_law_less [(two (slotW 7) (valW (.int 0)) ixW), (tupW [(valW (.int 0)), (valW (.int 1))])]))]) (seqW [
    retS (valW (.bl false))]) (seqW []),
  retS (callW (F_law_same jmax) [(callW F_far [(slotW 1), (slotW 2), (two (tupW [(tupW [(valW (.int 0)), (valW (.int 1))])]) (slotW 1) mulW)]), (tupW [(valW (.int 0)), (valW (.int 1))])])]
theorem wide_ok {ps : List (Int × Int)} {p : Addr} {l u v w : Int} (h : boundsB (l, u) = true) (v0 : 0 ≤ v) (w0 : 0 ≤ w) : wideR (prD (l, u)) (prD (max 0 (l - v), min 100 (u + w))) := by
  unfold boundsB at h
  simp at h
  exact ⟨l, u, _, _, rfl, rfl, by omega, by omega, by omega, by omega⟩
def addD (xs ys : List Rat) : D → D
  | .int i => ratD (xs.getD i.toNat 0 + ys.getD i.toNat 0)
  | d => d
theorem zip_range {m : Int} {xs ys : List Rat} (h1 : (xs.length : Int) = m) (h2 : (ys.length : Int) = m) : (intsD 0 m.toNat).map (addD xs ys) = (List.zipWith (· + ·) xs ys).map ratD := by
  rw [intsD_map, List.map_map]
  apply List.ext_getElem
  · simp; omega
  · intro i k1 k2
    simp at k1 k2
    have a1 : i < xs.length := by omega
    have a2 : i < ys.length := by omega
    simp [a1, a2, addD]
theorem sum_perm {l l' : List Int} (h : l.Perm l') : l.sum = l'.sum := by
  induction h with
  | nil => rfl
  | cons x _ ih => rw [List.sum_cons, List.sum_cons, ih]
  | swap x y l => rw [List.sum_cons, List.sum_cons, List.sum_cons, List.sum_cons]; omega
  | trans _ _ h1 h2 => rw [h1, h2]
def mulD (mu : Rat) : D → D
  | .tup [.int a, .int b] => ratD (mu * Rat.divInt a b)
  | d => d
theorem mulD_rat {mu x : Rat} : mulD mu (ratD x) = ratD (mu * x) := by
  show ratD (mu * Rat.divInt x.num x.den) = _
  rw [Rat.num_divInt_den]
theorem mulD_map {mu : Rat} {xs : List Rat} : (xs.map ratD).map (mulD mu) = (xs.map fun x => mu * x).map ratD := by
  rw [List.map_map, List.map_map]
  apply List.map_congr_left
  intro x _
  exact mulD_rat
theorem vc_tail2_k05 {p l d : Addr} {S S0 : Sto} {Q : KE} {E : XP} {m : Int} {ps ws : List (Int × Int)} {xs ys zs : List Rat} {mu fx fy fz : Rat} {os : List Nat} (hzs : zs = List.zipWith (· + ·) xs ys) (m2 : 2 ≤ m) (m4 : m ≤ 4) (sh : Shade m ps) (shw : Shade m ws) (wl : ws.length = ps.length) (wj : ∀ (j : Nat) (h1 : j < ps.length) (h2 : j < ws.length), ws[j].1 ≤ ps[j].1 ∧ ps[j].2 ≤ ws[j].2)
    (hx : Stuffs m 190 xs) (hy : Stuffs m 190 ys) (hmu : Sq 181 mu) (hmu0 : 0 ≤ mu) (Lx : LubU (sumR xs) (ps.zip xs) fx) (Ly : LubU (sumR ys) (ps.zip ys) fy) (Lz : LubU (sumR zs) (ps.zip zs) fz)
    (qx : Sq (5 * 190 + 30) fx) (qy : Sq (5 * 190 + 30) fy) (qz : Sq (5 * 381 + 30) fz)
    (hS : S l = some (.lst (os.map fun k => D.int (k : Nat)))) (hos : os.Perm (List.range m.toNat)) (hd : S d = some (.lst [ratD fx, ratD fy, ratD fz])) (pu : Pu p S) (frS : Fr p S0 S) (hq : ∀ S', Fr p S0 S' → Q (.bl true) S') :
    seqW w_law_right_k05_tail2 [some (.ref p), some (.int m), some (shD ps), some (ratD mu), some (.ref l), some (shD ws), some (rowD zs), some (.ref d), none, some (rowD xs), some (rowD ys), none, none, none, none, none, none] S (finD Q) (finX E) := by
  unfold w_law_right_k05_tail2
  have z0 : (D.tup [D.int 0, D.int 1]) = ratD 0 := rfl
  have s0 : Sq 3000 (0 : Rat) := Sq.zero (by decide)
  have sx3 : Sq 3000 fx := qx.mono (by decide)
  have nx : ∀ x ∈ xs, 0 ≤ x := fun x h => (hx.ok x h).2
  obtain ⟨M0, Mx⟩ := sumR_ge nx
  have lpx : ps.length = xs.length := by have := sh.len; have := hx.len; omega
  have lxy : xs.length = ys.length := by have := hy.len; have := hx.len; omega
  have d1 : ∀ {Q : KE} {S' : Sto}, S' d = some (.lst [ratD fx, ratD fy, ratD fz]) → Q (ratD fx) S' → ixW (.ref d) (.int 0) S' Q := fun {Q S'} h q => by
    rw [u_ixR, onR_eq h, at3.1]
    exact q
  have d2 : ∀ {Q : KE} {S' : Sto}, S' d = some (.lst [ratD fx, ratD fy, ratD fz]) → Q (ratD fy) S' → ixW (.ref d) (.int 1) S' Q := fun {Q S'} h q => by
    rw [u_ixR, onR_eq h, at3.2.1]
    exact q
  have d3 : ∀ {Q : KE} {S' : Sto}, S' d = some (.lst [ratD fx, ratD fy, ratD fz]) → Q (ratD fz) S' → ixW (.ref d) (.int 2) S' Q := fun {Q S'} h q => by
    rw [u_ixR, onR_eq h, at3.2.2]
    exact q
  have hxl : (xs.map ratD).length ≤ 1000 := by have := hx.len; simp; omega
  -- made greater
  refine seq_cut fun R hR => ?_
  simp
  intro a ha
  refine comp_map (mulD mu) ha hxl ?_ ?_
  · rintro e he S' K hs hk
    obtain ⟨x, hxm, rfl⟩ := List.mem_map.mp he
    refine ⟨trivial, _, rfl, ?_⟩
    simp [wipeG, clean, cleanO]
    refine ⟨mu, x, rfl, hmu.mono (by decide), (hx.ok x hxm).1.mono (by decide), ?_⟩
    rw [mulD_rat] at hk
    exact hk
  · intro T1 s1 e1
    refine ⟨trivial, ?_⟩
    rw [mulD_map] at e1
    simp only [u_tupR, onR_eq e1]
    refine ⟨m, 371, ps, xs.map fun x => mu * x, rfl, sh, by rw [List.length_map]; exact hx.len, by decide, ⟨by have := hx.len; simp; omega, fun z hz => ?_⟩, fun z hz => ?_, fun f hf qf => ?_⟩
    · obtain ⟨x, hxm, rfl⟩ := List.mem_map.mp hz
      exact (hmu.mul (hx.ok x hxm).1).mono (by decide)
    · obtain ⟨x, hxm, rfl⟩ := List.mem_map.mp hz
      exact Rat.mul_nonneg hmu0 (hx.ok x hxm).2
    have hf := hf.u
    rw [sumR_scale] at hf
    have ef := lub_scale Lx hmu0 hf
    subst ef
    have hd1 := s1 _ _ hd
    have hl1 := s1 _ _ hS
    have hol : (os.map fun k => D.int (k : Nat)).length ≤ 1000 := by
      have := hos.length_eq
      rw [List.length_range] at this
      simp
      omega
    have hmem : ∀ k ∈ os, k < xs.length ∧ k < ps.length := fun k hk => by
      have := List.mem_range.mp (hos.mem_iff.mp hk)
      have := hx.len
      omega
    simp [onR_eq hd1, at3]
    refine ⟨mu, fx, rfl, hmu.mono (by decide), sx3, ?_⟩
    refine same_ok rfl ?_
    simp
    subst hR
    -- two together
    refine seq_cut fun R hR => ?_
    simp [onR_eq hd1, at3]
    refine ⟨fx, fy, rfl, sx3, qy.mono (by decide), ?_⟩
    try simp [onR_eq hd1, at3]
    refine ⟨fx + fy, fz, rfl, (qx.add qy).mono (by decide), qz.mono (by decide), ?_⟩
    have hadd : ¬ (fx + fy < fz) := by
      rw [hzs, sumR_zip _ _ lxy] at Lz
      exact Rat.not_lt.mpr (lub_add Lx Ly Lz)
    simp [hadd, onR_eq hd1, at3]
    refine eq_rat (x := fx) (y := 0) ?_
    refine ⟨190, ps, xs, rfl, by decide, hx.row m4, sh.ok, lpx, fun b hb => ?_⟩
    have eb : b = decide (fx = 0) := by
      rw [Bool.eq_iff_iff, hb, ← Lx.zero_iff]
      simp
    subst eb
    simp
    subst hR
    -- turned about
    refine seq_cut fun R hR => ?_
    simp [onR_eq hl1]
    intro b hb
    refine comp_map (fun d => match d with | .int i => prD (ps.getD i.toNat (0, 0)) | d => d) hb hol ?_ ?_
    · rintro e he S' K hs hk
      obtain ⟨k, hk1, rfl⟩ := List.mem_map.mp he
      obtain ⟨k2, k3⟩ := hmem k hk1
      refine ⟨.inl (hs _ _ hl1), _, rfl, ?_⟩
      simp [wipeG, clean, cleanO, at_prs k3]
      simp [k3] at hk
      exact hk
    · intro T2 s2 e2
      have hl2 := s2 _ _ hl1
      have hd2 := s2 _ _ hd1
      refine ⟨.inl hl2, ?_⟩
      rw [List.map_map] at e2
      have e2 : T2 b = some (.lst ((os.map fun k => ps.getD k (0, 0)).map prD)) := by rw [List.map_map]; exact e2
      simp only [u_tupR, onR_eq e2]
      generalize hpt : (os.map fun k => ps.getD k (0, 0)) = pt at e2
      simp [onR_eq hl2]
      intro c hc
      refine comp_map (fun d => match d with | .int i => ratD (xs.getD i.toNat 0) | d => d) hc hol ?_ ?_
      · rintro e he S' K hs hk
        obtain ⟨k, hk1, rfl⟩ := List.mem_map.mp he
        obtain ⟨k2, k3⟩ := hmem k hk1
        refine ⟨.inl (hs _ _ hl2), _, rfl, ?_⟩
        simp [wipeG, clean, cleanO, at_rats k2]
        simp [k2] at hk
        exact hk
      · intro T3 s3 e3
        have hl3 := s3 _ _ hl2
        have hd3 := s3 _ _ hd2
        refine ⟨.inl hl3, ?_⟩
        rw [List.map_map] at e3
        have e3 : T3 c = some (.lst ((os.map fun k => xs.getD k 0).map ratD)) := by rw [List.map_map]; exact e3
        simp only [u_tupR, onR_eq e3]
        have hosx : os.Perm (List.range xs.length) := by
          have : m.toNat = xs.length := by have := hx.len; omega
          rw [← this]
          exact hos
        have hosl : (os.length : Int) = m := by have := hosx.length_eq; rw [List.length_range] at this; rw [this]; exact hx.len
        have ep : (List.range xs.length).map (fun k => ps.getD k (0, 0)) = ps := by
          apply List.ext_getElem
          · simp [lpx]
          · intro i h1 h2
            simp [h2]
        have hpp : (os.map fun k => ps.getD k (0, 0)).Perm ps := by
          have := hosx.map fun k => ps.getD k (0, 0)
          rw [ep] at this
          exact this
        have sht : Shade m (os.map fun k => ps.getD k (0, 0)) := by
          refine ⟨by rw [List.length_map]; exact hosl, m2, m4, fun q hq => sh.ok q (hpp.mem_iff.mp hq), ?_, ?_⟩
          · have : lows (os.map fun k => ps.getD k (0, 0)) = lows ps := sum_perm (hpp.map _)
            rw [this]; exact sh.lo
          · have : highs (os.map fun k => ps.getD k (0, 0)) = highs ps := sum_perm (hpp.map _)
            rw [this]; exact sh.hi
        have hxt : Stuffs m 190 (os.map fun k => xs.getD k 0) := by
          refine ⟨by rw [List.length_map]; exact hosl, fun z hz => ?_⟩
          obtain ⟨k, hk, rfl⟩ := List.mem_map.mp hz
          obtain ⟨k2, _⟩ := hmem k hk
          simp [k2]
          exact hx.ok _ (List.getElem_mem k2)
        subst hpt
        refine ⟨m, 190, _, _, rfl, sht, hxt.len, by decide, hxt.row m4, fun z h => (hxt.ok z h).2, fun f hf qf => ?_⟩
        have ef := lub_turn lpx hosx (fun k => ps.getD k (0, 0)) (fun k => xs.getD k 0) (fun j h => by simp [h]) (fun j h => by simp [h]) Lx hf.u
        subst ef
        simp
        subst hR
        -- wider
        refine seq_cut fun R hR => ?_
        simp [onR_eq hd3, at3]
        refine same_ok rfl ?_
        simp
        refine ⟨m, ws, rfl, shw, ?_⟩
        simp [onR_eq hd3, at3]
        refine ⟨m, 190, ws, xs, rfl, shw, hx.len, by decide, hx.row m4, nx, fun g hg qg => ?_⟩
        refine ⟨f, g, rfl, sx3, qg.mono (by decide), ?_⟩
        have hgf : ¬ (f < g) := Rat.not_lt.mpr (lub_wide M0 Lx hg.u wl wj)
        simp [hgf]
        subst hR
        -- at most a hundred times all
        refine seq_cut fun R hR => ?_
        simp [onR_eq hd3, at3]
        refine ⟨xs, rfl, (hx.row m4).row (by decide), ?_⟩
        have sM := (hx.row m4).sum (by decide)
        have s100 : Sq 7 ((100 : Int) : Rat) := sq100 (by decide) (by decide)
        refine ⟨((100 : Int) : Rat), sumR xs, rfl, s100.mono (by decide), sM.mono (by decide), ?_⟩
        try simp [onR_eq hd3, at3]
        refine ⟨((100 : Int) : Rat) * sumR xs, f, rfl, (s100.mul sM).mono (by decide), sx3, ?_⟩
        have h100 : ¬ (((100 : Int) : Rat) * sumR xs < f) := Rat.not_lt.mpr (lub_most nx sh.ok Lx)
        simp only [decide_eq_false h100]
        simp [onR_eq hd3, at3]
        refine ⟨f, 0, rfl, sx3, s0, ?_⟩
        have hf0 : ¬ (f < 0) := Rat.not_lt.mpr Lx.pos
        simp [hf0]
        subst hR
        -- nothing
        simp
        have er : (List.replicate m.toNat [ratD 0]).flatten = (List.replicate m.toNat (0 : Rat)).map ratD := by simp
        unfold mulW
        refine ⟨by simp, m2, by omega, by simp, ?_⟩
        show F_far [.int m, shD ps, .tup (List.replicate m.toNat [ratD 0]).flatten] _ _ _
        rw [er]
        refine ⟨m, 1, ps, List.replicate m.toNat 0, rfl, sh, by simp; omega, by decide, ⟨by simp; omega, fun z hz => ?_⟩, fun z hz => ?_, fun g hg qg => ?_⟩
        · rw [List.eq_of_mem_replicate hz]
          exact Sq.zero (by decide)
        · rw [List.eq_of_mem_replicate hz]
          exact Rat.le_refl
        · have eg := lub_none hg.u
          subst eg
          exact same_ok rfl (.of (hq _ (frS.trans (Fr.sub (s1.trans (s2.trans s3))))))
end Vm
/-! VsX: what the defs promise, plainly: law k05, end. -/
namespace Vm
open PySem PySem.Spec PyProof.Rows L2
theorem vc_tail_k05 {p l : Addr} {S S0 : Sto} {Q : KE} {E : XP} {m : Int} {ps : List (Int × Int)} {xs ys : List Rat} {mu : Rat} {os : List Nat} (m2 : 2 ≤ m) (m4 : m ≤ 4) (sh : Shade m ps) (hx : Stuffs m 190 xs) (hy : Stuffs m 190 ys) (hmu : Sq 181 mu) (hmu0 : 0 ≤ mu)
    (hS : S l = some (.lst (os.map fun k => D.int (k : Nat)))) (hos : os.Perm (List.range m.toNat)) (hlp : l ≠ p) (pu : Pu p S) (frS : Fr p S0 S) (hq : ∀ S', Fr p S0 S' → Q (.bl true) S') :
    seqW w_law_right_k05_tail [some (.ref p), some (.int m), some (shD ps), some (ratD mu), some (.ref l), none, none, none, none, some (rowD xs), some (rowD ys), none, none, none, none, none, none] S (finD Q) (finX E) := by
  unfold w_law_right_k05_tail
  have hpl : (ps.map prD).length ≤ 1000 := by have := sh.len; simp; omega
  refine seq_cut fun R hR => ?_
  simp
  intro a ha
  refine comp_pu wideR ha pu hpl ?_ ?_
  · rintro d hd S' K hf hpu hk
    obtain ⟨z, hz, rfl⟩ := List.mem_map.mp hd
    refine ⟨trivial, _, rfl, ?_⟩
    simp [wipeG, clean, cleanO]
    refine ⟨p, 9, rfl, by decide, by decide, hpu, fun v S2 v0 v1 f2 p2 => ⟨p, 9, rfl, by decide, by decide, p2, fun w S3 w0 w1 f3 p3 => ?_⟩⟩
    exact hk _ _ (wide_ok (ps := ps) (p := p) (sh.ok z hz) v0 w0) (f2.trans f3) p3
  · intro acc T6 hr f6 p6 e6
    obtain ⟨ws, rfl, wl, wj, wb, wlo, whi⟩ := wide_get hr
    have shw := wide_shade sh wl wj wb wlo whi
    have hS6 : T6 l = some (.lst (os.map fun k => D.int (k : Nat))) := f6 _ _ hlp hS
    have fr6 := frS.trans f6
    clear hr
    refine ⟨trivial, ?_⟩
    simp [onR_eq e6]
    subst hR
    refine seq_cut fun R hR => ?_
    simp
    refine ⟨by omega, fun b hb => ?_⟩
    refine comp_map (addD xs ys) hb (by rw [intsD_len]; omega) ?_ ?_
    · rintro d hd S' K hs hk
      obtain ⟨i, hi, rfl⟩ := mem_intsD hd
      have h1 : i < xs.length := by have := hx.len; omega
      have h2 : i < ys.length := by have := hy.len; omega
      refine ⟨trivial, _, rfl, ?_⟩
      rw [Int.zero_add] at hk ⊢
      simp [wipeG, clean, cleanO, at_rats h1, at_rats h2]
      refine ⟨xs[i], ys[i], rfl, (hx.ok _ (List.getElem_mem h1)).1.mono (by decide), (hy.ok _ (List.getElem_mem h2)).1.mono (by decide), ?_⟩
      simp [h1, h2, addD] at hk
      exact hk
    · intro T7 s7 e7
      rw [zip_range hx.len hy.len] at e7
      have hz : Stuffs m 381 (List.zipWith (· + ·) xs ys) := by
        refine ⟨by have := hx.len; have := hy.len; simp; omega, fun z hz => ?_⟩
        obtain ⟨j, hj, rfl⟩ := List.mem_iff_getElem.mp hz
        rw [List.length_zipWith] at hj
        rw [List.getElem_zipWith]
        obtain ⟨q1, q2⟩ := hx.ok _ (List.getElem_mem (show j < xs.length by omega))
        obtain ⟨q3, q4⟩ := hy.ok _ (List.getElem_mem (show j < ys.length by omega))
        exact ⟨(q1.add q3).mono (by decide), by grind⟩
      generalize hzs : List.zipWith (· + ·) xs ys = zs at e7 hz
      refine ⟨trivial, ?_⟩
      simp only [u_tupR, onR_eq e7]
      have fr7 := fr6.trans (Fr.sub s7)
      have hS7 := s7 _ _ hS6
      have pu7 := p6.sub s7
      subst hR
      refine seq_cut fun R hR => ?_
      simp
      intro c hc d hd
      have ec := put_same (S := T7) (a := c) (o := .lst [rowD xs, rowD ys, rowD zs])
      have ec2 := Sub.new (o := .lst []) hd _ _ ec
      have hdc : c ≠ d := ne_new ec hd
      have base : Sub T7 (put T7 c (.lst [rowD xs, rowD ys, rowD zs])) := Sub.new hc
      refine comp_one (.inl ec2) ?_
      simp [wipeG, clean, cleanO]
      refine ⟨m, 190, ps, xs, rfl, sh, hx.len, by decide, hx.row m4, fun z hz => (hx.ok z hz).2, fun fx Lx qx => ?_⟩
      simp
      refine ⟨by decide, comp_one (.inl (by rw [put_ne hdc]; exact ec)) ?_⟩
      simp [wipeG, clean, cleanO]
      refine ⟨m, 190, ps, ys, rfl, sh, hy.len, by decide, hy.row m4, fun z hz => (hy.ok z hz).2, fun fy Ly qy => ?_⟩
      simp
      refine ⟨by decide, comp_one (.inl (by rw [put_ne hdc]; exact ec)) ?_⟩
      simp [wipeG, clean, cleanO]
      refine ⟨m, 381, ps, _, rfl, sh, hz.len, by decide, hz.row m4, fun z h => (hz.ok z h).2, fun fz Lz qz => ?_⟩
      simp
      refine ⟨by decide, comp_nil (.inl (by rw [put_ne hdc]; exact ec)) ?_⟩
      subst hR
      have s8 : Sub T7 (put (put T7 c (.lst [rowD xs, rowD ys, rowD zs])) d (.lst [ratD fx, ratD fy, ratD fz])) := base.trans (Sub.new hd)
      exact vc_tail2_k05 hzs.symm m2 m4 sh shw wl wj hx hy hmu hmu0 Lx.u Ly.u Lz.u qx qy qz (s8 _ _ hS7) hos put_same (pu7.sub s8) (fr7.trans (Fr.sub s8)) hq
theorem vc_law_right_k05 (ds : List D) (S : Sto) (Q : KE) (E : XP) (h : F_law_right_k05 ds S Q E) : w_law_right_k05 (startG N_law_right_k05 ds) S (finD Q) (finX E) := by
  obtain ⟨p, rfl, hp, hq⟩ := h
  show w_law_right_k05 [some (.ref p), none, none, none, none, none, none, none, none, none, none, none, none, none, none, none, none] S (finD Q) (finX E)
  unfold w_law_right_k05
  refine seq_cut fun R hR => ?_
  simp
  refine ⟨p, 3, rfl, by decide, by decide, hp, fun t0 T0 a0 b0 f0 p0 => ?_⟩
  have m2 : 2 ≤ 2 + t0 := by omega
  have m4 : 2 + t0 ≤ 4 := by omega
  try simp
  generalize 2 + t0 = m at m2 m4 ⊢
  subst hR
  refine seq_cut fun R hR => ?_
  simp
  refine ⟨p, m, rfl, m2, m4, p0, fun ps T1 sh f1 p1 => ?_⟩
  try simp
  subst hR
  refine seq_cut fun R hR => ?_
  simp
  refine ⟨p, m, ps, rfl, sh, p1, fun xs T2 hx f2 p2 => ⟨p, m, ps, rfl, sh, p2, fun ys T3 hy f3 p3 => ?_⟩⟩
  try simp
  subst hR
  refine seq_cut fun R hR => ?_
  simp
  refine ⟨p, rfl, p3, fun g T4 hg f4 p4 => ⟨p, 9, rfl, by decide, by decide, p4, fun u T5 u0 u1 f5 p5 => ?_⟩⟩
  simp only [u_add]
  refine low_r (t := (g.natAbs : Int)) (b := 1 + u) (by omega) (S9.small (by omega)) ?_
  have hmu : Sq 181 (Rat.divInt (g.natAbs : Int) (1 + u)) := Sq.of (by omega) hg.abs (by have : (2 : Nat) ^ 181 ≥ 1000 := by decide +kernel
                                                                                         omega)
  have hmu0 : 0 ≤ Rat.divInt (g.natAbs : Int) (1 + u) := rat_ge (by omega) (by omega)
  generalize Rat.divInt (g.natAbs : Int) (1 + u) = mu at hmu hmu0
  have frS : Fr p S T5 := ((((f0.trans f1).trans f2).trans f3).trans f4).trans f5
  try simp
  subst hR
  refine seq_cut fun R hR => ?_
  simp
  refine ⟨by omega, fun a ha => ?_⟩
  refine comp_pu isNum ha p5 (by rw [intsD_len]; omega) ?_ ?_
  · rintro d hd S' K hf hpu hk
    obtain ⟨i, hi, rfl⟩ := mem_intsD hd
    refine ⟨trivial, _, rfl, ?_⟩
    simp [wipeG, clean, cleanO]
    exact ⟨p, 997, rfl, by decide, by decide, hpu, fun v S2 v0 v1 f2 p2 => hk _ _ ⟨v, _, by rw [Int.zero_add], rfl⟩ f2 p2⟩
  · intro acc T6 hr f6 p6 e6
    obtain ⟨n1, n2, n3⟩ := nums_snd hr
    obtain ⟨n4, n5⟩ := n3 (by intro z; have := congrArg List.length z; rw [intsD_len] at this; simp at this; omega)
    refine ⟨trivial, ?_⟩
    unfold sortedW
    simp only [onR_eq e6, n4, n5]
    refine ⟨n2, fun es q hes hq6 => ?_⟩
    simp
    intro l hl
    have hpr : es.all isPr = true := by
      rw [List.all_eq_true] at n2 ⊢
      exact fun d hd => n2 d (hes.mem_iff.mp hd)
    have hel : es.length ≤ 1000 := by
      have h1 := hes.length_eq
      have h2 := congrArg List.length n1
      rw [List.length_map, intsD_len] at h2
      omega
    refine comp_map sndD hl hel ?_ ?_
    · rintro d hd S' K hs hk
      obtain ⟨x1, x2, rfl⟩ := isPr_get (List.all_eq_true.mp hpr d hd)
      refine ⟨.inl (hs _ _ put_same), _, rfl, ?_⟩
      simp [wipeG, clean, cleanO]
      exact hk
    · intro T7 s7 e7
      refine ⟨.inl (s7 _ _ put_same), ?_⟩
      have hpm := hes.map sndD
      rw [n1] at hpm
      obtain ⟨os, ho1, ho2⟩ := perm_map hpm intsD_map
      rw [ho2] at e7
      subst hR
      have s6 := (Sub.new hq6).trans s7
      exact vc_tail_k05 m2 m4 sh hx hy hmu hmu0 e7 ho1 ((p6.new hq6).ne hl) (p6.sub s6) ((frS.trans f6).trans (Fr.sub s6)) hq
def N_law_k04 : List Str := ["script", "k"]
def w_law_k04 : WS := seqW [
  retS (bltW allW [(lcW (rngW [(bltW maxW [(valW (.int 1)), (bltW minW [(bltW lenW [(slotW 0)]), (valW (.int 6))])])]) (.nm 1) [1] yesT (callW F_law_right_k05 [(callW F_law_purse [(callW F_law_cell [(slotW 0), (slotW 1)])])]))])]
theorem vc_law_k05 (ds : List D) (S : Sto) (Q : KE) (E : XP) (h : lawF 63 ds S Q E) : w_law_k04 (startG N_law_k04 ds) S (finD Q) (finX E) := by
  obtain ⟨a, ns, hl, rfl, hs, -, rfl, rfl⟩ := h
  show w_law_k04 [some (.ref a), none] S _ _
  unfold w_law_k04
  have e1 : ∀ Q : KE, lenW [.ref a] S Q = Q (.int (ns.map D.int).length) S := fun Q => u_lenR (.inr hs)
  simp [e1]
  refine ⟨by omega, fun l hl2 => ?_⟩
  have hla : l ≠ a := fun e => by rw [e, hs] at hl2; cases hl2
  refine comp_inv (fun rest acc S' => (∃ n i : Nat, rest = intsD i n ∧ i + n ≤ 6 ∧ acc.length = i) ∧ (∀ d ∈ acc, d = .bl true) ∧ S' a = some (.scr (ns.map D.int))) ?_ ?_ _ [] _ ?_ put_same
  · rintro d ds acc S' K ⟨⟨n, i, e, hn, ha⟩, ht, hs'⟩ hS hK
    cases n with
    | zero => cases e
    | succ n =>
      rw [intsD_succ] at e
      cases e
      simp [wipeG, clean, cleanO]
      refine ⟨a, ns, i, rfl, hl, hs', by omega, by omega, fun c => ⟨c, rfl, fun p S2 hp f2 p2 => ⟨p, rfl, p2, fun S3 f3 => ?_⟩⟩⟩
      have hpl : l ≠ p := fun e => by rw [e, hp] at hS; cases hS
      have hpa : a ≠ p := fun e => by rw [e, hp] at hs'; cases hs'
      refine hK _ _ (f3 _ _ hpl (f2 _ _ hpl hS)) (by rw [ha]; exact Nat.lt_of_lt_of_le (show i < 8 by omega) (by decide)) ⟨⟨n, i + 1, rfl, by omega, by simp [ha]⟩, ?_, by rw [put_ne (Ne.symm hla)]; exact f3 _ _ hpa (f2 _ _ hpa hs')⟩
      intro e he
      rcases List.mem_append.mp he with z | z
      · exact ht e z
      · exact List.mem_singleton.mp z
  · rintro acc S' ⟨_, ht, hs'⟩ hS
    exact ⟨trivial, allW_true hS ht (.of rfl)⟩
  · exact ⟨⟨_, 0, rfl, by omega, rfl⟩, fun d hd => (nomatch hd), by rw [put_ne (Ne.symm hla)]; exact hs⟩
end Vm
/-! VsZ: what the printed end of a law leans on. -/
namespace Vm
open PySem PySem.Spec PyProof.Rows L2
section
variable {P : Program} {w : World} {K : PySem.W.Frag} {mg : Str → Option Value} {base h : Heap} {k : Nat} {isi sub : Subs}
theorem vc_cast {m m' : WS} (e : m = m') {Γ : Gam} {S : Sto} {D : En} {X : XG} (h : m' Γ S D X) : m Γ S D X := by
  rw [e]
  exact h
theorem gs_nil : GsK P w K mg base k isi [] := trivial
theorem gs_cons {x : Str} {v : GV} {r : List (Str × GV)} (a : GvK P w K mg base k isi x v) (b : GsK P w K mg base k isi r) : GsK P w K mg base k isi ((x, v) :: r) := ⟨a, b⟩
theorem gv_isi {x : Str} (X : K.In h) (G : h.Ns mainGlobals mg) (c : (He.Fa.glo x).ok K = true) (t : isiTb K isi x (.ref (He.ga K x)) = true) : GvK P w K mg base k isi x .bex :=
  ⟨.ref (He.ga K x), .ref (He.ga K x), .own _, rfl, .inl (He.glo_ok X G c), fun y b C h1 h2 => isiTb_ok t h1 h2⟩
theorem fnok_no {f : Addr} {fd : FuncData} {ps : List Str} {F : FS} {CX : CXT} (_ : True = True) (no : ∀ ds S Q E, ¬ F ds S Q E) : FnOk P w K mg base CX k f fd ps (spOf K F) :=
  ⟨fun vs H Q E ⟨ds, S, Q', E', _, _, z, _⟩ => (no ds S Q' E' z).elim, fun _ _ _ _ _ _ _ _ _ _ _ _ _ ⟨ds, S, Q', E', _, _, z, _⟩ => (no ds S Q' E' z).elim⟩
end
theorem F_law_same_0 (ds : List D) (S : Sto) (Q : KE) (E : XP) (h : F_law_same 0 ds S Q E) : False := by
  obtain ⟨x, _, h, _⟩ := h
  cases h
end Vm
/-! The end of the law: each def keeps its promise; the head. Printed by a program. -/
namespace Vk
open PySem PySem.Spec PyProof.Rows L2 Vm
def tp (i : Nat) : Stmt := PySem.Challenge.pw_vatmatch_k05_whole_far_from_shades.main.body.getD i (.Pass ⟨0, 0, 0, 0⟩)
theorem fs_law_take : FnScope N_law_take ["purse", "many"] (defScope (tp 33)) := ⟨rfl, rfl, rfl, by decide +kernel, rfl, by decide +kernel, by decide +kernel⟩
def G_law_take : List (Str × GV) := []
theorem e_law_take : wS 14 14 (gOf N_law_take (defScope (tp 33)) (G_law_take) subT isiT true) (defBody (tp 33)) = w_law_take := by kernel_rfl
def D_law_take : He.DefD := ⟨("_law_take", none), "_law_take", "_law_take", defArgs (tp 33), defBody (tp 33), defScope (tp 33), [], []⟩
theorem fs_law_parts : FnScope N_law_parts ["purse", "many"] (defScope (tp 40)) := ⟨rfl, rfl, rfl, by decide +kernel, rfl, by decide +kernel, by decide +kernel⟩
def G_law_parts : List (Str × GV) := [("tuple", .bt .tuple), ("_law_take", .fn F_law_take), ("sum", .bi .sum), ("range", .rng)]
theorem e_law_parts : wS 14 14 (gOf N_law_parts (defScope (tp 40)) (G_law_parts) subT isiT true) (defBody (tp 40)) = w_law_parts := by kernel_rfl
def D_law_parts : He.DefD := ⟨("_law_parts", none), "_law_parts", "_law_parts", defArgs (tp 40), defBody (tp 40), defScope (tp 40), [], []⟩
theorem fs_law_shade : FnScope N_law_shade ["purse", "many"] (defScope (tp 41)) := ⟨rfl, rfl, rfl, by decide +kernel, rfl, by decide +kernel, by decide +kernel⟩
def G_law_shade : List (Str × GV) := [("_law_parts", .fn F_law_parts), ("sum", .bi .sum), ("range", .rng), ("tuple", .bt .tuple), ("_law_take", .fn F_law_take), ("max", .bi .max), ("min", .bi .min)]
theorem e_law_shade : wS 14 14 (gOf N_law_shade (defScope (tp 41)) (G_law_shade) subT isiT true) (defBody (tp 41)) = w_law_shade := by kernel_rfl
def D_law_shade : He.DefD := ⟨("_law_shade", none), "_law_shade", "_law_shade", defArgs (tp 41), defBody (tp 41), defScope (tp 41), [], []⟩
theorem fs_law_low : FnScope N_law_low ["top", "bottom"] (defScope (tp 34)) := ⟨rfl, rfl, rfl, by decide +kernel, rfl, by decide +kernel, by decide +kernel⟩
def G_law_low : List (Str × GV) := [("abs", .bi .abs)]
theorem e_law_low : wS 14 14 (gOf N_law_low (defScope (tp 34)) (G_law_low) subT isiT true) (defBody (tp 34)) = w_law_low := by kernel_rfl
def D_law_low : He.DefD := ⟨("_law_low", none), "_law_low", "_law_low", defArgs (tp 34), defBody (tp 34), defScope (tp 34), [], []⟩
theorem fs_is_whole : FnScope N_is_whole ["thing"] (defScope (tp 8)) := ⟨rfl, rfl, rfl, by decide +kernel, rfl, by decide +kernel, by decide +kernel⟩
def G_is_whole : List (Str × GV) := [("isinstance", .bi .isi), ("int", .bt .int), ("bool", .bt .bool)]
theorem e_is_whole : wS 14 14 (gOf N_is_whole (defScope (tp 8)) (G_is_whole) subT isiT true) (defBody (tp 8)) = w_is_whole := by kernel_rfl
def D_is_whole : He.DefD := ⟨("is_whole", none), "is_whole", "is_whole", defArgs (tp 8), defBody (tp 8), defScope (tp 8), [], []⟩
theorem fs_is_many : FnScope N_is_many ["thing"] (defScope (tp 22)) := ⟨rfl, rfl, rfl, by decide +kernel, rfl, by decide +kernel, by decide +kernel⟩
def G_is_many : List (Str × GV) := [("is_whole", .fn F_is_whole), ("LEAST_STUFFS", .con (.int 2)), ("MOST_STUFFS", .con (.int 4))]
theorem e_is_many : wS 14 14 (gOf N_is_many (defScope (tp 22)) (G_is_many) subT isiT true) (defBody (tp 22)) = w_is_many := by kernel_rfl
def D_is_many : He.DefD := ⟨("is_many", none), "is_many", "is_many", defArgs (tp 22), defBody (tp 22), defScope (tp 22), [], []⟩
theorem fs_check_many : FnScope N_check_many ["many"] (defScope (tp 23)) := ⟨rfl, rfl, rfl, by decide +kernel, rfl, by decide +kernel, by decide +kernel⟩
def G_check_many : List (Str × GV) := [("is_many", .fn F_is_many), ("NoMany", .exc)]
theorem e_check_many : wS 14 14 (gOf N_check_many (defScope (tp 23)) (G_check_many) subT isiT true) (defBody (tp 23)) = w_check_many := by kernel_rfl
def D_check_many : He.DefD := ⟨("check_many", none), "check_many", "check_many", defArgs (tp 23), defBody (tp 23), defScope (tp 23), [], []⟩
theorem fs_is_bounds : FnScope N_is_bounds ["thing"] (defScope (tp 24)) := ⟨rfl, rfl, rfl, by decide +kernel, rfl, by decide +kernel, by decide +kernel⟩
def G_is_bounds : List (Str × GV) := [("HUNDRED", .con (.int 100)), ("isinstance", .bi .isi), ("tuple", .bt .tuple), ("len", .bi .len), ("is_whole", .fn F_is_whole)]
theorem e_is_bounds : wS 14 14 (gOf N_is_bounds (defScope (tp 24)) (G_is_bounds) subT isiT true) (defBody (tp 24)) = w_is_bounds := by kernel_rfl
def D_is_bounds : He.DefD := ⟨("is_bounds", none), "is_bounds", "is_bounds", defArgs (tp 24), defBody (tp 24), defScope (tp 24), [], []⟩
theorem fs_is_shade : FnScope N_is_shade ["many", "thing"] (defScope (tp 25)) := ⟨rfl, rfl, rfl, by decide +kernel, rfl, by decide +kernel, by decide +kernel⟩
def G_is_shade : List (Str × GV) := [("check_many", .fn F_check_many), ("HUNDRED", .con (.int 100)), ("sum", .bi .sum), ("isinstance", .bi .isi), ("tuple", .bt .tuple), ("len", .bi .len), ("all", .bi .all), ("is_bounds", .fn F_is_bounds)]
theorem e_is_shade : wS 14 14 (gOf N_is_shade (defScope (tp 25)) (G_is_shade) subT isiT true) (defBody (tp 25)) = w_is_shade := by kernel_rfl
def D_is_shade : He.DefD := ⟨("is_shade", none), "is_shade", "is_shade", defArgs (tp 25), defBody (tp 25), defScope (tp 25), [], []⟩
theorem fs_check_shade : FnScope N_check_shade ["many", "shade"] (defScope (tp 26)) := ⟨rfl, rfl, rfl, by decide +kernel, rfl, by decide +kernel, by decide +kernel⟩
def G_check_shade : List (Str × GV) := [("is_shade", .fn F_is_shade), ("NoShade", .exc)]
theorem e_check_shade : wS 14 14 (gOf N_check_shade (defScope (tp 26)) (G_check_shade) subT isiT true) (defBody (tp 26)) = w_check_shade := by kernel_rfl
def D_check_shade : He.DefD := ⟨("check_shade", none), "check_shade", "check_shade", defArgs (tp 26), defBody (tp 26), defScope (tp 26), [], []⟩
theorem fs_divisor : FnScope N_divisor ["one", "other"] (defScope (tp 9)) := ⟨rfl, rfl, rfl, by decide +kernel, rfl, by decide +kernel, by decide +kernel⟩
def G_divisor : List (Str × GV) := [("abs", .bi .abs)]
theorem e_divisor : wS 14 14 (gOf N_divisor (defScope (tp 9)) (G_divisor) subT isiT true) (defBody (tp 9)) = w_divisor := by kernel_rfl
def D_divisor : He.DefD := ⟨("divisor", none), "divisor", "divisor", defArgs (tp 9), defBody (tp 9), defScope (tp 9), [], []⟩
theorem fs_fraction : FnScope N_fraction ["top", "bottom"] (defScope (tp 11)) := ⟨rfl, rfl, rfl, by decide +kernel, rfl, by decide +kernel, by decide +kernel⟩
def G_fraction : List (Str × GV) := [("divisor", .fn F_divisor), ("NoNumber", .exc)]
theorem e_fraction : wS 14 14 (gOf N_fraction (defScope (tp 11)) (G_fraction) subT isiT true) (defBody (tp 11)) = w_fraction := by kernel_rfl
def D_fraction : He.DefD := ⟨("fraction", none), "fraction", "fraction", defArgs (tp 11), defBody (tp 11), defScope (tp 11), [], []⟩
theorem fs_plus : FnScope N_plus ["a", "b"] (defScope (tp 13)) := ⟨rfl, rfl, rfl, by decide +kernel, rfl, by decide +kernel, by decide +kernel⟩
def G_plus : List (Str × GV) := [("fraction", .fn F_fraction)]
theorem e_plus : wS 14 14 (gOf N_plus (defScope (tp 13)) (G_plus) subT isiT true) (defBody (tp 13)) = w_plus := by kernel_rfl
def D_plus : He.DefD := ⟨("plus", none), "plus", "plus", defArgs (tp 13), defBody (tp 13), defScope (tp 13), [], []⟩
theorem fs_total_of : FnScope N_total_of ["row"] (defScope (tp 17)) := ⟨rfl, rfl, rfl, by decide +kernel, rfl, by decide +kernel, by decide +kernel⟩
def G_total_of : List (Str × GV) := [("ZERO", .con (.tup [(.int 0), (.int 1)])), ("plus", .fn F_plus)]
theorem e_total_of : wS 14 14 (gOf N_total_of (defScope (tp 17)) (G_total_of) subT isiT true) (defBody (tp 17)) = w_total_of := by kernel_rfl
def D_total_of : He.DefD := ⟨("total_of", none), "total_of", "total_of", defArgs (tp 17), defBody (tp 17), defScope (tp 17), [], []⟩
theorem fs_times : FnScope N_times ["a", "b"] (defScope (tp 15)) := ⟨rfl, rfl, rfl, by decide +kernel, rfl, by decide +kernel, by decide +kernel⟩
def G_times : List (Str × GV) := [("fraction", .fn F_fraction)]
theorem e_times : wS 14 14 (gOf N_times (defScope (tp 15)) (G_times) subT isiT true) (defBody (tp 15)) = w_times := by kernel_rfl
def D_times : He.DefD := ⟨("times", none), "times", "times", defArgs (tp 15), defBody (tp 15), defScope (tp 15), [], []⟩
theorem fs_as_fraction : FnScope N_as_fraction ["number"] (defScope (tp 12)) := ⟨rfl, rfl, rfl, by decide +kernel, rfl, by decide +kernel, by decide +kernel⟩
def G_as_fraction : List (Str × GV) := []
theorem e_as_fraction : wS 14 14 (gOf N_as_fraction (defScope (tp 12)) (G_as_fraction) subT isiT true) (defBody (tp 12)) = w_as_fraction := by kernel_rfl
def D_as_fraction : He.DefD := ⟨("as_fraction", none), "as_fraction", "as_fraction", defArgs (tp 12), defBody (tp 12), defScope (tp 12), [], []⟩
theorem fs_below : FnScope N_below ["a", "b"] (defScope (tp 16)) := ⟨rfl, rfl, rfl, by decide +kernel, rfl, by decide +kernel, by decide +kernel⟩
def G_below : List (Str × GV) := []
theorem e_below : wS 14 14 (gOf N_below (defScope (tp 16)) (G_below) subT isiT true) (defBody (tp 16)) = w_below := by kernel_rfl
def D_below : He.DefD := ⟨("below", none), "below", "below", defArgs (tp 16), defBody (tp 16), defScope (tp 16), [], []⟩
theorem fs_minus : FnScope N_minus ["a", "b"] (defScope (tp 14)) := ⟨rfl, rfl, rfl, by decide +kernel, rfl, by decide +kernel, by decide +kernel⟩
def G_minus : List (Str × GV) := [("fraction", .fn F_fraction)]
theorem e_minus : wS 14 14 (gOf N_minus (defScope (tp 14)) (G_minus) subT isiT true) (defBody (tp 14)) = w_minus := by kernel_rfl
def D_minus : He.DefD := ⟨("minus", none), "minus", "minus", defArgs (tp 14), defBody (tp 14), defScope (tp 14), [], []⟩
theorem fs_far_of : FnScope N_far_of ["shade", "stuffs"] (defScope (tp 28)) := ⟨rfl, rfl, rfl, by decide +kernel, rfl, by decide +kernel, by decide +kernel⟩
def G_far_of : List (Str × GV) := [("ZERO", .con (.tup [(.int 0), (.int 1)])), ("total_of", .fn F_total_of), ("zip", .zp), ("times", .fn F_times), ("as_fraction", .fn F_as_fraction), ("HUNDRED", .con (.int 100)), ("below", .fn F_below), ("minus", .fn F_minus)]
theorem e_far_of : wS 14 14 (gOf N_far_of (defScope (tp 28)) (G_far_of) subT isiT true) (defBody (tp 28)) = w_far_of := by kernel_rfl
def D_far_of : He.DefD := ⟨("far_of", none), "far_of", "far_of", defArgs (tp 28), defBody (tp 28), defScope (tp 28), [], []⟩
theorem fs_is_fraction : FnScope N_is_fraction ["thing"] (defScope (tp 10)) := ⟨rfl, rfl, rfl, by decide +kernel, rfl, by decide +kernel, by decide +kernel⟩
def G_is_fraction : List (Str × GV) := [("divisor", .fn F_divisor), ("isinstance", .bi .isi), ("tuple", .bt .tuple), ("len", .bi .len), ("is_whole", .fn F_is_whole)]
theorem e_is_fraction : wS 14 14 (gOf N_is_fraction (defScope (tp 10)) (G_is_fraction) subT isiT true) (defBody (tp 10)) = w_is_fraction := by kernel_rfl
def D_is_fraction : He.DefD := ⟨("is_fraction", none), "is_fraction", "is_fraction", defArgs (tp 10), defBody (tp 10), defScope (tp 10), [], []⟩
theorem fs_is_amounts : FnScope N_is_amounts ["many", "thing"] (defScope (tp 27)) := ⟨rfl, rfl, rfl, by decide +kernel, rfl, by decide +kernel, by decide +kernel⟩
def G_is_amounts : List (Str × GV) := [("all", .bi .all), ("isinstance", .bi .isi), ("tuple", .bt .tuple), ("len", .bi .len), ("is_fraction", .fn F_is_fraction)]
theorem e_is_amounts : wS 14 14 (gOf N_is_amounts (defScope (tp 27)) (G_is_amounts) subT isiT true) (defBody (tp 27)) = w_is_amounts := by kernel_rfl
def D_is_amounts : He.DefD := ⟨("is_amounts", none), "is_amounts", "is_amounts", defArgs (tp 27), defBody (tp 27), defScope (tp 27), [], []⟩
theorem fs_far : FnScope N_far ["many", "shade", "stuffs"] (defScope (tp 29)) := ⟨rfl, rfl, rfl, by decide +kernel, rfl, by decide +kernel, by decide +kernel⟩
def G_far : List (Str × GV) := [("check_many", .fn F_check_many), ("check_shade", .fn F_check_shade), ("far_of", .fn F_far_of), ("is_amounts", .fn F_is_amounts), ("NoStuffs", .exc)]
theorem e_far : wS 14 14 (gOf N_far (defScope (tp 29)) (G_far) subT isiT true) (defBody (tp 29)) = w_far := by kernel_rfl
def D_far : He.DefD := ⟨("far", none), "far", "far", defArgs (tp 29), defBody (tp 29), defScope (tp 29), [], []⟩
theorem fs_law_same : FnScope N_law_same ["told", "due"] (defScope (tp 44)) := ⟨rfl, rfl, rfl, by decide +kernel, rfl, by decide +kernel, by decide +kernel⟩
def G_law_same (j : Nat) : List (Str × GV) := [("isinstance", .bi .isi), ("tuple", .bt .tuple), ("str", .bt .str), ("all", .bi .all), ("bool", .bt .bool), ("int", .bt .int), ("len", .bi .len), ("_law_same", .fn (F_law_same j)), ("range", .rng)]
theorem e_law_same (j : Nat) : wS 14 14 (gOf N_law_same (defScope (tp 44)) (G_law_same j) subT isiT true) (defBody (tp 44)) = w_law_same j := by kernel_rfl
def D_law_same : He.DefD := ⟨("_law_same", none), "_law_same", "_law_same", defArgs (tp 44), defBody (tp 44), defScope (tp 44), [], []⟩
theorem fs_law_great_k02 : FnScope N_law_great_k02 ["purse"] (defScope (tp 43)) := ⟨rfl, rfl, rfl, by decide +kernel, rfl, by decide +kernel, by decide +kernel⟩
def G_law_great_k02 : List (Str × GV) := [("range", .rng), ("_law_take", .fn F_law_take)]
theorem e_law_great_k02 : wS 14 14 (gOf N_law_great_k02 (defScope (tp 43)) (G_law_great_k02) subT isiT true) (defBody (tp 43)) = w_law_great_k02 := by kernel_rfl
def D_law_great_k02 : He.DefD := ⟨("_law_great", none), "_law_great", "_law_great", defArgs (tp 43), defBody (tp 43), defScope (tp 43), [], []⟩
theorem fs_law_mul : FnScope N_law_mul ["one", "other"] (defScope (tp 36)) := ⟨rfl, rfl, rfl, by decide +kernel, rfl, by decide +kernel, by decide +kernel⟩
def G_law_mul : List (Str × GV) := [("_law_low", .fn F_law_low)]
theorem e_law_mul : wS 14 14 (gOf N_law_mul (defScope (tp 36)) (G_law_mul) subT isiT true) (defBody (tp 36)) = w_law_mul := by kernel_rfl
def D_law_mul : He.DefD := ⟨("_law_mul", none), "_law_mul", "_law_mul", defArgs (tp 36), defBody (tp 36), defScope (tp 36), [], []⟩
theorem fs_law_share : FnScope N_law_share ["parts", "k"] (defScope (tp 42)) := ⟨rfl, rfl, rfl, by decide +kernel, rfl, by decide +kernel, by decide +kernel⟩
def G_law_share : List (Str × GV) := [("_law_low", .fn F_law_low), ("sum", .bi .sum)]
theorem e_law_share : wS 14 14 (gOf N_law_share (defScope (tp 42)) (G_law_share) subT isiT true) (defBody (tp 42)) = w_law_share := by kernel_rfl
def D_law_share : He.DefD := ⟨("_law_share", none), "_law_share", "_law_share", defArgs (tp 42), defBody (tp 42), defScope (tp 42), [], []⟩
theorem fs_law_some_stuffs_k05 : FnScope N_law_some_stuffs_k05 ["purse", "many", "shade"] (defScope (tp 45)) := ⟨rfl, rfl, rfl, by decide +kernel, rfl, by decide +kernel, by decide +kernel⟩
def G_law_some_stuffs_k05 : List (Str × GV) := [("_law_take", .fn F_law_take), ("_law_low", .fn F_law_low), ("_law_parts", .fn F_law_parts), ("tuple", .bt .tuple), ("abs", .bi .abs), ("_law_great", .fn F_law_great_k02), ("_law_mul", .fn F_law_mul), ("range", .rng), ("_law_share", .fn F_law_share)]
theorem e_law_some_stuffs_k05 : wS 14 14 (gOf N_law_some_stuffs_k05 (defScope (tp 45)) (G_law_some_stuffs_k05) subT isiT true) (defBody (tp 45)) = w_law_some_stuffs_k05 := by kernel_rfl
def D_law_some_stuffs_k05 : He.DefD := ⟨("_law_some_stuffs", none), "_law_some_stuffs", "_law_some_stuffs", defArgs (tp 45), defBody (tp 45), defScope (tp 45), [], []⟩
theorem fs_law_less : FnScope N_law_less ["one", "other"] (defScope (tp 38)) := ⟨rfl, rfl, rfl, by decide +kernel, rfl, by decide +kernel, by decide +kernel⟩
def G_law_less : List (Str × GV) := []
theorem e_law_less : wS 14 14 (gOf N_law_less (defScope (tp 38)) (G_law_less) subT isiT true) (defBody (tp 38)) = w_law_less := by kernel_rfl
def D_law_less : He.DefD := ⟨("_law_less", none), "_law_less", "_law_less", defArgs (tp 38), defBody (tp 38), defScope (tp 38), [], []⟩
theorem fs_law_add : FnScope N_law_add ["one", "other"] (defScope (tp 35)) := ⟨rfl, rfl, rfl, by decide +kernel, rfl, by decide +kernel, by decide +kernel⟩
def G_law_add : List (Str × GV) := [("_law_low", .fn F_law_low)]
theorem e_law_add : wS 14 14 (gOf N_law_add (defScope (tp 35)) (G_law_add) subT isiT true) (defBody (tp 35)) = w_law_add := by kernel_rfl
def D_law_add : He.DefD := ⟨("_law_add", none), "_law_add", "_law_add", defArgs (tp 35), defBody (tp 35), defScope (tp 35), [], []⟩
theorem fs_law_sum : FnScope N_law_sum ["row"] (defScope (tp 39)) := ⟨rfl, rfl, rfl, by decide +kernel, rfl, by decide +kernel, by decide +kernel⟩
def G_law_sum : List (Str × GV) := [("_law_add", .fn F_law_add)]
theorem e_law_sum : wS 14 14 (gOf N_law_sum (defScope (tp 39)) (G_law_sum) subT isiT true) (defBody (tp 39)) = w_law_sum := by kernel_rfl
def D_law_sum : He.DefD := ⟨("_law_sum", none), "_law_sum", "_law_sum", defArgs (tp 39), defBody (tp 39), defScope (tp 39), [], []⟩
theorem fs_law_within : FnScope N_law_within ["shade", "stuffs"] (defScope (tp 46)) := ⟨rfl, rfl, rfl, by decide +kernel, rfl, by decide +kernel, by decide +kernel⟩
def G_law_within : List (Str × GV) := [("_law_sum", .fn F_law_sum), ("range", .rng), ("len", .bi .len), ("_law_mul", .fn F_law_mul), ("_law_less", .fn F_law_less)]
theorem e_law_within : wS 14 14 (gOf N_law_within (defScope (tp 46)) (G_law_within) subT isiT true) (defBody (tp 46)) = w_law_within := by kernel_rfl
def D_law_within : He.DefD := ⟨("_law_within", none), "_law_within", "_law_within", defArgs (tp 46), defBody (tp 46), defScope (tp 46), [], []⟩
theorem fs_law_right_k05 : FnScope N_law_right_k05 ["purse"] (defScope (tp 47)) := ⟨rfl, rfl, rfl, by decide +kernel, rfl, by decide +kernel, by decide +kernel⟩
def G_law_right_k05 : List (Str × GV) := [("_law_shade", .fn F_law_shade), ("_law_low", .fn F_law_low), ("tuple", .bt .tuple), ("far", .fn F_far), ("_law_same", .fn (F_law_same jmax)), ("_law_take", .fn F_law_take), ("_law_some_stuffs", .fn F_law_some_stuffs_k05), ("abs", .bi .abs), ("_law_less", .fn F_law_less), ("_law_great", .fn F_law_great_k02), ("sorted", .bi .sorted), ("_law_add", .fn F_law_add), ("_law_mul", .fn F_law_mul), ("_law_within", .fn F_law_within), ("is_shade", .fn F_is_shade), ("max", .bi .max), ("min", .bi .min), ("range", .rng), ("_law_sum", .fn F_law_sum)]
theorem e_law_right_k05 : wS 14 14 (gOf N_law_right_k05 (defScope (tp 47)) (G_law_right_k05) subT isiT true) (defBody (tp 47)) = w_law_right_k05 := by kernel_rfl
def D_law_right_k05 : He.DefD := ⟨("_law_right", none), "_law_right", "_law_right", defArgs (tp 47), defBody (tp 47), defScope (tp 47), [], []⟩
theorem fs_law_purse : FnScope N_law_purse ["cell"] (defScope (tp 32)) := ⟨rfl, rfl, rfl, by decide +kernel, rfl, by decide +kernel, by decide +kernel⟩
def G_law_purse : List (Str × GV) := [("abs", .bi .abs)]
theorem e_law_purse : wS 14 14 (gOf N_law_purse (defScope (tp 32)) (G_law_purse) subT isiT true) (defBody (tp 32)) = w_law_purse := by kernel_rfl
def D_law_purse : He.DefD := ⟨("_law_purse", none), "_law_purse", "_law_purse", defArgs (tp 32), defBody (tp 32), defScope (tp 32), [], []⟩
theorem fs_law_cell : FnScope N_law_cell ["script", "k"] (defScope (tp 31)) := ⟨rfl, rfl, rfl, by decide +kernel, rfl, by decide +kernel, by decide +kernel⟩
def G_law_cell : List (Str × GV) := [("len", .bi .len)]
theorem e_law_cell : wS 14 14 (gOf N_law_cell (defScope (tp 31)) (G_law_cell) subT isiT true) (defBody (tp 31)) = w_law_cell := by kernel_rfl
def D_law_cell : He.DefD := ⟨("_law_cell", none), "_law_cell", "_law_cell", defArgs (tp 31), defBody (tp 31), defScope (tp 31), [], []⟩
theorem fs_law_k04 : FnScope N_law_k04 ["script"] (defScope (tp 48)) := ⟨rfl, rfl, rfl, by decide +kernel, rfl, by decide +kernel, by decide +kernel⟩
def G_law_k04 : List (Str × GV) := [("all", .bi .all), ("_law_right", .fn F_law_right_k05), ("_law_purse", .fn F_law_purse), ("range", .rng), ("_law_cell", .fn F_law_cell), ("max", .bi .max), ("min", .bi .min), ("len", .bi .len)]
theorem e_law_k04 : wS 14 14 (gOf N_law_k04 (defScope (tp 48)) (G_law_k04) subT isiT true) (defBody (tp 48)) = w_law_k04 := by kernel_rfl
def D_law_k04 : He.DefD := ⟨("law", none), "law", "law", defArgs (tp 48), defBody (tp 48), defScope (tp 48), [], []⟩
def fn : List He.DefD := [D_law_take, D_law_parts, D_law_shade, D_law_low, D_is_whole, D_is_many, D_check_many, D_is_bounds, D_is_shade, D_check_shade, D_divisor, D_fraction, D_plus, D_total_of, D_times, D_as_fraction, D_below, D_minus, D_far_of, D_is_fraction, D_is_amounts, D_far, D_law_same, D_law_great_k02, D_law_mul, D_law_share, D_law_some_stuffs_k05, D_law_less, D_law_add, D_law_sum, D_law_within, D_law_right_k05, D_law_purse, D_law_cell, D_law_k04]
def fa : List He.Fa := ([.free "tuple", .glo "_law_take", .free "sum", .free "range", .glo "_law_parts", .free "max", .free "min", .free "abs", .free "isinstance", .free "int", .free "bool", .glo "is_whole", .glo "is_many", .glo "NoMany", .exc "NoMany", .free "len", .glo "check_many", .free "all", .glo "is_bounds", .glo "is_shade", .glo "NoShade", .exc "NoShade", .glo "divisor", .glo "NoNumber", .exc "NoNumber", .glo "fraction", .glo "plus", .glo "total_of", .free "zip", .glo "times"] : List He.Fa) ++ ([.glo "as_fraction", .glo "below", .glo "minus", .glo "is_fraction", .glo "check_shade", .glo "far_of", .glo "is_amounts", .glo "NoStuffs", .exc "NoStuffs", .free "str", .glo "_law_same", .glo "_law_low", .glo "_law_great", .glo "_law_mul", .glo "_law_share", .glo "_law_add", .glo "_law_sum", .glo "_law_less", .glo "_law_shade", .glo "far", .glo "_law_some_stuffs", .free "sorted", .glo "_law_within", .glo "_law_right", .glo "_law_purse", .glo "_law_cell", .glo "law"] : List He.Fa)
def ys : List Str := (["NoMany", "NoShade", "NoNumber", "NoStuffs"] : List Str)
def cs : List (Str × D) := [("LEAST_STUFFS", (.int 2)), ("MOST_STUFFS", (.int 4)), ("HUNDRED", (.int 100)), ("ZERO", (.tup [(.int 0), (.int 1)]))]
def ex (K : PySem.W.Frag) : Bool := subB K subT && ((ys.all fun y => isiTb K isiT y (.ref (He.ga K y))) && (isiTb K isiT "ValueError" (.type "ValueError") && cs.all fun c => conF K c.1 c.2))
abbrev hk : PySem.W.Hook := hookV 4 fa fn ex
def ob (s : PySem.W.SharedT) : AlV := obsV 4 fa fn ex (HandSHeadRun.getT s)
theorem ob_eq (s : PySem.W.SharedT) : ob s = hk.obs s.abs := obsV_eq (HandSHeadRun.getT_eq s)
abbrev R : PySem.W.OpenRow := PySem.W.OpenLaw.row PySem.Challenge.rw_vatmatch_k05_whole_far_from_shades
def lo : List Str := (["DyeError", "NoNumber", "NoMany", "NoShade", "NoStuffs", "ZERO", "is_whole", "divisor", "is_fraction", "fraction", "as_fraction", "plus", "minus", "times", "below", "total_of", "LEAST_STUFFS", "MOST_STUFFS", "HUNDRED", "is_many"] : List Str) ++ (["check_many", "is_bounds", "is_shade", "check_shade", "is_amounts", "far_of", "far", "_law_cell", "_law_purse", "_law_take", "_law_low", "_law_add", "_law_mul", "_law_sub", "_law_less", "_law_sum", "_law_parts", "_law_shade", "_law_share", "_law_great"] : List Str) ++ (["_law_same", "_law_some_stuffs", "_law_within", "_law_right"] : List Str)
theorem run (w : World) : HandSHeadRun.RunEq R (PySem.W.view R.prog [48]) hk ob 30000 lo w := by
  intro os
  kernel_rfl
theorem facts {w : World} {K : PySem.W.Frag} {mg : Str → Option Value} {f : Addr} {h : Heap} (X : K.In h) (G : h.Ns mainGlobals mg) (hf : mg ("law" : Str) = some (.ref f)) (c : SaysV fa fn ex K) :
    ∃ fd : FuncData, (∀ (s : Shared) (u : Value), BindsTo s fd ⟨[u], []⟩ [("script", u)]) ∧ ∀ base : Heap, K.In base → base.Ns mainGlobals mg → FnOk PySem.Challenge.rw_vatmatch_k05_whole_far_from_shades.prog w K mg base (L2N.CX PySem.Challenge.rw_vatmatch_k05_whole_far_from_shades.prog w) 8 f fd ["script"] (spOf K (lawF 63)) := by
  obtain ⟨sok, cx⟩ := He.ba c.x
  have sok := subB_ok sok
  obtain ⟨cy, cx⟩ := He.ba cx
  obtain ⟨cv, cc⟩ := He.ba cx
  have cy : ∀ y, y ∈ ys → isiTb K isiT y (.ref (He.ga K y)) = true := fun y hy => List.all_eq_true.mp cy y hy
  have cc : ∀ z, z ∈ cs → conF K z.1 z.2 = true := fun z hz => List.all_eq_true.mp cc z hz
  obtain ⟨fd_law_take, P_law_take⟩ := c.d.def_ 0 (d := D_law_take) rfl
  obtain ⟨fd_law_parts, P_law_parts⟩ := c.d.def_ 1 (d := D_law_parts) rfl
  obtain ⟨fd_law_shade, P_law_shade⟩ := c.d.def_ 2 (d := D_law_shade) rfl
  obtain ⟨fd_law_low, P_law_low⟩ := c.d.def_ 3 (d := D_law_low) rfl
  obtain ⟨fd_is_whole, P_is_whole⟩ := c.d.def_ 4 (d := D_is_whole) rfl
  obtain ⟨fd_is_many, P_is_many⟩ := c.d.def_ 5 (d := D_is_many) rfl
  obtain ⟨fd_check_many, P_check_many⟩ := c.d.def_ 6 (d := D_check_many) rfl
  obtain ⟨fd_is_bounds, P_is_bounds⟩ := c.d.def_ 7 (d := D_is_bounds) rfl
  obtain ⟨fd_is_shade, P_is_shade⟩ := c.d.def_ 8 (d := D_is_shade) rfl
  obtain ⟨fd_check_shade, P_check_shade⟩ := c.d.def_ 9 (d := D_check_shade) rfl
  obtain ⟨fd_divisor, P_divisor⟩ := c.d.def_ 10 (d := D_divisor) rfl
  obtain ⟨fd_fraction, P_fraction⟩ := c.d.def_ 11 (d := D_fraction) rfl
  obtain ⟨fd_plus, P_plus⟩ := c.d.def_ 12 (d := D_plus) rfl
  obtain ⟨fd_total_of, P_total_of⟩ := c.d.def_ 13 (d := D_total_of) rfl
  obtain ⟨fd_times, P_times⟩ := c.d.def_ 14 (d := D_times) rfl
  obtain ⟨fd_as_fraction, P_as_fraction⟩ := c.d.def_ 15 (d := D_as_fraction) rfl
  obtain ⟨fd_below, P_below⟩ := c.d.def_ 16 (d := D_below) rfl
  obtain ⟨fd_minus, P_minus⟩ := c.d.def_ 17 (d := D_minus) rfl
  obtain ⟨fd_far_of, P_far_of⟩ := c.d.def_ 18 (d := D_far_of) rfl
  obtain ⟨fd_is_fraction, P_is_fraction⟩ := c.d.def_ 19 (d := D_is_fraction) rfl
  obtain ⟨fd_is_amounts, P_is_amounts⟩ := c.d.def_ 20 (d := D_is_amounts) rfl
  obtain ⟨fd_far, P_far⟩ := c.d.def_ 21 (d := D_far) rfl
  obtain ⟨fd_law_same, P_law_same⟩ := c.d.def_ 22 (d := D_law_same) rfl
  obtain ⟨fd_law_great_k02, P_law_great_k02⟩ := c.d.def_ 23 (d := D_law_great_k02) rfl
  obtain ⟨fd_law_mul, P_law_mul⟩ := c.d.def_ 24 (d := D_law_mul) rfl
  obtain ⟨fd_law_share, P_law_share⟩ := c.d.def_ 25 (d := D_law_share) rfl
  obtain ⟨fd_law_some_stuffs_k05, P_law_some_stuffs_k05⟩ := c.d.def_ 26 (d := D_law_some_stuffs_k05) rfl
  obtain ⟨fd_law_less, P_law_less⟩ := c.d.def_ 27 (d := D_law_less) rfl
  obtain ⟨fd_law_add, P_law_add⟩ := c.d.def_ 28 (d := D_law_add) rfl
  obtain ⟨fd_law_sum, P_law_sum⟩ := c.d.def_ 29 (d := D_law_sum) rfl
  obtain ⟨fd_law_within, P_law_within⟩ := c.d.def_ 30 (d := D_law_within) rfl
  obtain ⟨fd_law_right_k05, P_law_right_k05⟩ := c.d.def_ 31 (d := D_law_right_k05) rfl
  obtain ⟨fd_law_purse, P_law_purse⟩ := c.d.def_ 32 (d := D_law_purse) rfl
  obtain ⟨fd_law_cell, P_law_cell⟩ := c.d.def_ 33 (d := D_law_cell) rfl
  obtain ⟨fd_law_k04, P_law_k04⟩ := c.d.def_ 34 (d := D_law_k04) rfl
  refine ⟨fd_law_k04, fun s u => P_law_k04.bindsA (ps := ["script"]) (fun _ _ _ _ _ _ us hl => match us, hl with | [_], _ => rfl) s [u] rfl, fun base _ _ => ?_⟩
  have k_law_take : FnK PySem.Challenge.rw_vatmatch_k05_whole_far_from_shades.prog w K mg base 1 "_law_take" F_law_take := fnK_of (He.glo_ok X G (c.d.fact 1 (f := .glo "_law_take") rfl)) P_law_take (def_ok (G := G_law_take) (isi := isiT) (sub := subT) (m := 14) (n := 14) (k := 0) P_law_take fs_law_take (gs_nil) sok (fun _ _ _ _ h => by first | (obtain ⟨rfl, _⟩ := h; rfl) | (obtain ⟨_, rfl, _⟩ := h; rfl) | (obtain ⟨_, _, rfl, _⟩ := h; rfl) | (obtain ⟨_, _, _, rfl, _⟩ := h; rfl) | (obtain ⟨_, _, _, _, rfl, _⟩ := h; rfl) | (obtain ⟨_, _, _, _, _, rfl, _⟩ := h; rfl) | (obtain ⟨_, _, _, _, _, _, rfl, _⟩ := h; rfl)) (fun ds S Q E h => vc_cast e_law_take (vc_law_take ds S Q E h))) (fun _ _ _ _ _ _ us hl => match us, hl with | [_, _], _ => rfl)
  have k_law_parts : FnK PySem.Challenge.rw_vatmatch_k05_whole_far_from_shades.prog w K mg base 2 "_law_parts" F_law_parts := fnK_of (He.glo_ok X G (c.d.fact 4 (f := .glo "_law_parts") rfl)) P_law_parts (def_ok (G := G_law_parts) (isi := isiT) (sub := subT) (m := 14) (n := 14) (k := 1) P_law_parts fs_law_parts (gs_cons (gv_bt (t := .tuple) X G (c.d.fact 0 (f := .free "tuple") rfl)) (gs_cons ((k_law_take).mono (by decide)) (gs_cons (gv_bi (b := .sum) X G (c.d.fact 2 (f := .free "sum") rfl)) (gs_cons (gv_rng X G (c.d.fact 3 (f := .free "range") rfl)) (gs_nil))))) sok (fun _ _ _ _ h => by first | (obtain ⟨rfl, _⟩ := h; rfl) | (obtain ⟨_, rfl, _⟩ := h; rfl) | (obtain ⟨_, _, rfl, _⟩ := h; rfl) | (obtain ⟨_, _, _, rfl, _⟩ := h; rfl) | (obtain ⟨_, _, _, _, rfl, _⟩ := h; rfl) | (obtain ⟨_, _, _, _, _, rfl, _⟩ := h; rfl) | (obtain ⟨_, _, _, _, _, _, rfl, _⟩ := h; rfl)) (fun ds S Q E h => vc_cast e_law_parts (vc_law_parts ds S Q E h))) (fun _ _ _ _ _ _ us hl => match us, hl with | [_, _], _ => rfl)
  have k_law_shade : FnK PySem.Challenge.rw_vatmatch_k05_whole_far_from_shades.prog w K mg base 3 "_law_shade" F_law_shade := fnK_of (He.glo_ok X G (c.d.fact 48 (f := .glo "_law_shade") rfl)) P_law_shade (def_ok (G := G_law_shade) (isi := isiT) (sub := subT) (m := 14) (n := 14) (k := 2) P_law_shade fs_law_shade (gs_cons ((k_law_parts).mono (by decide)) (gs_cons (gv_bi (b := .sum) X G (c.d.fact 2 (f := .free "sum") rfl)) (gs_cons (gv_rng X G (c.d.fact 3 (f := .free "range") rfl)) (gs_cons (gv_bt (t := .tuple) X G (c.d.fact 0 (f := .free "tuple") rfl)) (gs_cons ((k_law_take).mono (by decide)) (gs_cons (gv_bi (b := .max) X G (c.d.fact 5 (f := .free "max") rfl)) (gs_cons (gv_bi (b := .min) X G (c.d.fact 6 (f := .free "min") rfl)) (gs_nil)))))))) sok (fun _ _ _ _ h => by first | (obtain ⟨rfl, _⟩ := h; rfl) | (obtain ⟨_, rfl, _⟩ := h; rfl) | (obtain ⟨_, _, rfl, _⟩ := h; rfl) | (obtain ⟨_, _, _, rfl, _⟩ := h; rfl) | (obtain ⟨_, _, _, _, rfl, _⟩ := h; rfl) | (obtain ⟨_, _, _, _, _, rfl, _⟩ := h; rfl) | (obtain ⟨_, _, _, _, _, _, rfl, _⟩ := h; rfl)) (fun ds S Q E h => vc_cast e_law_shade (vc_law_shade ds S Q E h))) (fun _ _ _ _ _ _ us hl => match us, hl with | [_, _], _ => rfl)
  have k_law_low : FnK PySem.Challenge.rw_vatmatch_k05_whole_far_from_shades.prog w K mg base 1 "_law_low" F_law_low := fnK_of (He.glo_ok X G (c.d.fact 41 (f := .glo "_law_low") rfl)) P_law_low (def_ok (G := G_law_low) (isi := isiT) (sub := subT) (m := 14) (n := 14) (k := 0) P_law_low fs_law_low (gs_cons (gv_bi (b := .abs) X G (c.d.fact 7 (f := .free "abs") rfl)) (gs_nil)) sok (fun _ _ _ _ h => by first | (obtain ⟨rfl, _⟩ := h; rfl) | (obtain ⟨_, rfl, _⟩ := h; rfl) | (obtain ⟨_, _, rfl, _⟩ := h; rfl) | (obtain ⟨_, _, _, rfl, _⟩ := h; rfl) | (obtain ⟨_, _, _, _, rfl, _⟩ := h; rfl) | (obtain ⟨_, _, _, _, _, rfl, _⟩ := h; rfl) | (obtain ⟨_, _, _, _, _, _, rfl, _⟩ := h; rfl)) (fun ds S Q E h => vc_cast e_law_low (vc_law_low ds S Q E h))) (fun _ _ _ _ _ _ us hl => match us, hl with | [_, _], _ => rfl)
  have k_is_whole : FnK PySem.Challenge.rw_vatmatch_k05_whole_far_from_shades.prog w K mg base 1 "is_whole" F_is_whole := fnK_of (He.glo_ok X G (c.d.fact 11 (f := .glo "is_whole") rfl)) P_is_whole (def_ok (G := G_is_whole) (isi := isiT) (sub := subT) (m := 14) (n := 14) (k := 0) P_is_whole fs_is_whole (gs_cons (gv_bi (b := .isi) X G (c.d.fact 8 (f := .free "isinstance") rfl)) (gs_cons (gv_bt (t := .int) X G (c.d.fact 9 (f := .free "int") rfl)) (gs_cons (gv_bt (t := .bool) X G (c.d.fact 10 (f := .free "bool") rfl)) (gs_nil)))) sok (fun _ _ _ _ h => by first | (obtain ⟨rfl, _⟩ := h; rfl) | (obtain ⟨_, rfl, _⟩ := h; rfl) | (obtain ⟨_, _, rfl, _⟩ := h; rfl) | (obtain ⟨_, _, _, rfl, _⟩ := h; rfl) | (obtain ⟨_, _, _, _, rfl, _⟩ := h; rfl) | (obtain ⟨_, _, _, _, _, rfl, _⟩ := h; rfl) | (obtain ⟨_, _, _, _, _, _, rfl, _⟩ := h; rfl)) (fun ds S Q E h => vc_cast e_is_whole (vc_is_whole ds S Q E h))) (fun _ _ _ _ _ _ us hl => match us, hl with | [_], _ => rfl)
  have k_is_many : FnK PySem.Challenge.rw_vatmatch_k05_whole_far_from_shades.prog w K mg base 2 "is_many" F_is_many := fnK_of (He.glo_ok X G (c.d.fact 12 (f := .glo "is_many") rfl)) P_is_many (def_ok (G := G_is_many) (isi := isiT) (sub := subT) (m := 14) (n := 14) (k := 1) P_is_many fs_is_many (gs_cons ((k_is_whole).mono (by decide)) (gs_cons (gv_con X G (cc ("LEAST_STUFFS", (.int 2)) (by simp [cs]))) (gs_cons (gv_con X G (cc ("MOST_STUFFS", (.int 4)) (by simp [cs]))) (gs_nil)))) sok (fun _ _ _ _ h => by first | (obtain ⟨rfl, _⟩ := h; rfl) | (obtain ⟨_, rfl, _⟩ := h; rfl) | (obtain ⟨_, _, rfl, _⟩ := h; rfl) | (obtain ⟨_, _, _, rfl, _⟩ := h; rfl) | (obtain ⟨_, _, _, _, rfl, _⟩ := h; rfl) | (obtain ⟨_, _, _, _, _, rfl, _⟩ := h; rfl) | (obtain ⟨_, _, _, _, _, _, rfl, _⟩ := h; rfl)) (fun ds S Q E h => vc_cast e_is_many (vc_is_many ds S Q E h))) (fun _ _ _ _ _ _ us hl => match us, hl with | [_], _ => rfl)
  have k_check_many : FnK PySem.Challenge.rw_vatmatch_k05_whole_far_from_shades.prog w K mg base 3 "check_many" F_check_many := fnK_of (He.glo_ok X G (c.d.fact 16 (f := .glo "check_many") rfl)) P_check_many (def_ok (G := G_check_many) (isi := isiT) (sub := subT) (m := 14) (n := 14) (k := 2) P_check_many fs_check_many (gs_cons ((k_is_many).mono (by decide)) (gs_cons (gv_exc X G (c.d.fact 13 (f := .glo "NoMany") rfl) (c.d.fact 14 (f := .exc "NoMany") rfl) (cy _ (by decide +kernel))) (gs_nil))) sok (fun _ _ _ _ h => by first | (obtain ⟨rfl, _⟩ := h; rfl) | (obtain ⟨_, rfl, _⟩ := h; rfl) | (obtain ⟨_, _, rfl, _⟩ := h; rfl) | (obtain ⟨_, _, _, rfl, _⟩ := h; rfl) | (obtain ⟨_, _, _, _, rfl, _⟩ := h; rfl) | (obtain ⟨_, _, _, _, _, rfl, _⟩ := h; rfl) | (obtain ⟨_, _, _, _, _, _, rfl, _⟩ := h; rfl)) (fun ds S Q E h => vc_cast e_check_many (vc_check_many ds S Q E h))) (fun _ _ _ _ _ _ us hl => match us, hl with | [_], _ => rfl)
  have k_is_bounds : FnK PySem.Challenge.rw_vatmatch_k05_whole_far_from_shades.prog w K mg base 2 "is_bounds" F_is_bounds := fnK_of (He.glo_ok X G (c.d.fact 18 (f := .glo "is_bounds") rfl)) P_is_bounds (def_ok (G := G_is_bounds) (isi := isiT) (sub := subT) (m := 14) (n := 14) (k := 1) P_is_bounds fs_is_bounds (gs_cons (gv_con X G (cc ("HUNDRED", (.int 100)) (by simp [cs]))) (gs_cons (gv_bi (b := .isi) X G (c.d.fact 8 (f := .free "isinstance") rfl)) (gs_cons (gv_bt (t := .tuple) X G (c.d.fact 0 (f := .free "tuple") rfl)) (gs_cons (gv_bi (b := .len) X G (c.d.fact 15 (f := .free "len") rfl)) (gs_cons ((k_is_whole).mono (by decide)) (gs_nil)))))) sok (fun _ _ _ _ h => by first | (obtain ⟨rfl, _⟩ := h; rfl) | (obtain ⟨_, rfl, _⟩ := h; rfl) | (obtain ⟨_, _, rfl, _⟩ := h; rfl) | (obtain ⟨_, _, _, rfl, _⟩ := h; rfl) | (obtain ⟨_, _, _, _, rfl, _⟩ := h; rfl) | (obtain ⟨_, _, _, _, _, rfl, _⟩ := h; rfl) | (obtain ⟨_, _, _, _, _, _, rfl, _⟩ := h; rfl)) (fun ds S Q E h => vc_cast e_is_bounds (vc_is_bounds ds S Q E h))) (fun _ _ _ _ _ _ us hl => match us, hl with | [_], _ => rfl)
  have k_is_shade : FnK PySem.Challenge.rw_vatmatch_k05_whole_far_from_shades.prog w K mg base 4 "is_shade" F_is_shade := fnK_of (He.glo_ok X G (c.d.fact 19 (f := .glo "is_shade") rfl)) P_is_shade (def_ok (G := G_is_shade) (isi := isiT) (sub := subT) (m := 14) (n := 14) (k := 3) P_is_shade fs_is_shade (gs_cons ((k_check_many).mono (by decide)) (gs_cons (gv_con X G (cc ("HUNDRED", (.int 100)) (by simp [cs]))) (gs_cons (gv_bi (b := .sum) X G (c.d.fact 2 (f := .free "sum") rfl)) (gs_cons (gv_bi (b := .isi) X G (c.d.fact 8 (f := .free "isinstance") rfl)) (gs_cons (gv_bt (t := .tuple) X G (c.d.fact 0 (f := .free "tuple") rfl)) (gs_cons (gv_bi (b := .len) X G (c.d.fact 15 (f := .free "len") rfl)) (gs_cons (gv_bi (b := .all) X G (c.d.fact 17 (f := .free "all") rfl)) (gs_cons ((k_is_bounds).mono (by decide)) (gs_nil))))))))) sok (fun _ _ _ _ h => by first | (obtain ⟨rfl, _⟩ := h; rfl) | (obtain ⟨_, rfl, _⟩ := h; rfl) | (obtain ⟨_, _, rfl, _⟩ := h; rfl) | (obtain ⟨_, _, _, rfl, _⟩ := h; rfl) | (obtain ⟨_, _, _, _, rfl, _⟩ := h; rfl) | (obtain ⟨_, _, _, _, _, rfl, _⟩ := h; rfl) | (obtain ⟨_, _, _, _, _, _, rfl, _⟩ := h; rfl)) (fun ds S Q E h => vc_cast e_is_shade (vc_is_shade ds S Q E h))) (fun _ _ _ _ _ _ us hl => match us, hl with | [_, _], _ => rfl)
  have k_check_shade : FnK PySem.Challenge.rw_vatmatch_k05_whole_far_from_shades.prog w K mg base 5 "check_shade" F_check_shade := fnK_of (He.glo_ok X G (c.d.fact 34 (f := .glo "check_shade") rfl)) P_check_shade (def_ok (G := G_check_shade) (isi := isiT) (sub := subT) (m := 14) (n := 14) (k := 4) P_check_shade fs_check_shade (gs_cons ((k_is_shade).mono (by decide)) (gs_cons (gv_exc X G (c.d.fact 20 (f := .glo "NoShade") rfl) (c.d.fact 21 (f := .exc "NoShade") rfl) (cy _ (by decide +kernel))) (gs_nil))) sok (fun _ _ _ _ h => by first | (obtain ⟨rfl, _⟩ := h; rfl) | (obtain ⟨_, rfl, _⟩ := h; rfl) | (obtain ⟨_, _, rfl, _⟩ := h; rfl) | (obtain ⟨_, _, _, rfl, _⟩ := h; rfl) | (obtain ⟨_, _, _, _, rfl, _⟩ := h; rfl) | (obtain ⟨_, _, _, _, _, rfl, _⟩ := h; rfl) | (obtain ⟨_, _, _, _, _, _, rfl, _⟩ := h; rfl)) (fun ds S Q E h => vc_cast e_check_shade (vc_check_shade ds S Q E h))) (fun _ _ _ _ _ _ us hl => match us, hl with | [_, _], _ => rfl)
  have k_divisor : FnK PySem.Challenge.rw_vatmatch_k05_whole_far_from_shades.prog w K mg base 1 "divisor" F_divisor := fnK_of (He.glo_ok X G (c.d.fact 22 (f := .glo "divisor") rfl)) P_divisor (def_ok (G := G_divisor) (isi := isiT) (sub := subT) (m := 14) (n := 14) (k := 0) P_divisor fs_divisor (gs_cons (gv_bi (b := .abs) X G (c.d.fact 7 (f := .free "abs") rfl)) (gs_nil)) sok (fun _ _ _ _ h => by first | (obtain ⟨rfl, _⟩ := h; rfl) | (obtain ⟨_, rfl, _⟩ := h; rfl) | (obtain ⟨_, _, rfl, _⟩ := h; rfl) | (obtain ⟨_, _, _, rfl, _⟩ := h; rfl) | (obtain ⟨_, _, _, _, rfl, _⟩ := h; rfl) | (obtain ⟨_, _, _, _, _, rfl, _⟩ := h; rfl) | (obtain ⟨_, _, _, _, _, _, rfl, _⟩ := h; rfl)) (fun ds S Q E h => vc_cast e_divisor (vc_divisor ds S Q E h))) (fun _ _ _ _ _ _ us hl => match us, hl with | [_, _], _ => rfl)
  have k_fraction : FnK PySem.Challenge.rw_vatmatch_k05_whole_far_from_shades.prog w K mg base 2 "fraction" F_fraction := fnK_of (He.glo_ok X G (c.d.fact 25 (f := .glo "fraction") rfl)) P_fraction (def_ok (G := G_fraction) (isi := isiT) (sub := subT) (m := 14) (n := 14) (k := 1) P_fraction fs_fraction (gs_cons ((k_divisor).mono (by decide)) (gs_cons (gv_exc X G (c.d.fact 23 (f := .glo "NoNumber") rfl) (c.d.fact 24 (f := .exc "NoNumber") rfl) (cy _ (by decide +kernel))) (gs_nil))) sok (fun _ _ _ _ h => by first | (obtain ⟨rfl, _⟩ := h; rfl) | (obtain ⟨_, rfl, _⟩ := h; rfl) | (obtain ⟨_, _, rfl, _⟩ := h; rfl) | (obtain ⟨_, _, _, rfl, _⟩ := h; rfl) | (obtain ⟨_, _, _, _, rfl, _⟩ := h; rfl) | (obtain ⟨_, _, _, _, _, rfl, _⟩ := h; rfl) | (obtain ⟨_, _, _, _, _, _, rfl, _⟩ := h; rfl)) (fun ds S Q E h => vc_cast e_fraction (vc_fraction ds S Q E h))) (fun _ _ _ _ _ _ us hl => match us, hl with | [_, _], _ => rfl)
  have k_plus : FnK PySem.Challenge.rw_vatmatch_k05_whole_far_from_shades.prog w K mg base 3 "plus" F_plus := fnK_of (He.glo_ok X G (c.d.fact 26 (f := .glo "plus") rfl)) P_plus (def_ok (G := G_plus) (isi := isiT) (sub := subT) (m := 14) (n := 14) (k := 2) P_plus fs_plus (gs_cons ((k_fraction).mono (by decide)) (gs_nil)) sok (fun _ _ _ _ h => by first | (obtain ⟨rfl, _⟩ := h; rfl) | (obtain ⟨_, rfl, _⟩ := h; rfl) | (obtain ⟨_, _, rfl, _⟩ := h; rfl) | (obtain ⟨_, _, _, rfl, _⟩ := h; rfl) | (obtain ⟨_, _, _, _, rfl, _⟩ := h; rfl) | (obtain ⟨_, _, _, _, _, rfl, _⟩ := h; rfl) | (obtain ⟨_, _, _, _, _, _, rfl, _⟩ := h; rfl)) (fun ds S Q E h => vc_cast e_plus (vc_plus ds S Q E h))) (fun _ _ _ _ _ _ us hl => match us, hl with | [_, _], _ => rfl)
  have k_total_of : FnK PySem.Challenge.rw_vatmatch_k05_whole_far_from_shades.prog w K mg base 4 "total_of" F_total_of := fnK_of (He.glo_ok X G (c.d.fact 27 (f := .glo "total_of") rfl)) P_total_of (def_ok (G := G_total_of) (isi := isiT) (sub := subT) (m := 14) (n := 14) (k := 3) P_total_of fs_total_of (gs_cons (gv_con X G (cc ("ZERO", (.tup [(.int 0), (.int 1)])) (by simp [cs]))) (gs_cons ((k_plus).mono (by decide)) (gs_nil))) sok (fun _ _ _ _ h => by first | (obtain ⟨rfl, _⟩ := h; rfl) | (obtain ⟨_, rfl, _⟩ := h; rfl) | (obtain ⟨_, _, rfl, _⟩ := h; rfl) | (obtain ⟨_, _, _, rfl, _⟩ := h; rfl) | (obtain ⟨_, _, _, _, rfl, _⟩ := h; rfl) | (obtain ⟨_, _, _, _, _, rfl, _⟩ := h; rfl) | (obtain ⟨_, _, _, _, _, _, rfl, _⟩ := h; rfl)) (fun ds S Q E h => vc_cast e_total_of (vc_total_of ds S Q E h))) (fun _ _ _ _ _ _ us hl => match us, hl with | [_], _ => rfl)
  have k_times : FnK PySem.Challenge.rw_vatmatch_k05_whole_far_from_shades.prog w K mg base 3 "times" F_times := fnK_of (He.glo_ok X G (c.d.fact 29 (f := .glo "times") rfl)) P_times (def_ok (G := G_times) (isi := isiT) (sub := subT) (m := 14) (n := 14) (k := 2) P_times fs_times (gs_cons ((k_fraction).mono (by decide)) (gs_nil)) sok (fun _ _ _ _ h => by first | (obtain ⟨rfl, _⟩ := h; rfl) | (obtain ⟨_, rfl, _⟩ := h; rfl) | (obtain ⟨_, _, rfl, _⟩ := h; rfl) | (obtain ⟨_, _, _, rfl, _⟩ := h; rfl) | (obtain ⟨_, _, _, _, rfl, _⟩ := h; rfl) | (obtain ⟨_, _, _, _, _, rfl, _⟩ := h; rfl) | (obtain ⟨_, _, _, _, _, _, rfl, _⟩ := h; rfl)) (fun ds S Q E h => vc_cast e_times (vc_times ds S Q E h))) (fun _ _ _ _ _ _ us hl => match us, hl with | [_, _], _ => rfl)
  have k_as_fraction : FnK PySem.Challenge.rw_vatmatch_k05_whole_far_from_shades.prog w K mg base 1 "as_fraction" F_as_fraction := fnK_of (He.glo_ok X G (c.d.fact 30 (f := .glo "as_fraction") rfl)) P_as_fraction (def_ok (G := G_as_fraction) (isi := isiT) (sub := subT) (m := 14) (n := 14) (k := 0) P_as_fraction fs_as_fraction (gs_nil) sok (fun _ _ _ _ h => by first | (obtain ⟨rfl, _⟩ := h; rfl) | (obtain ⟨_, rfl, _⟩ := h; rfl) | (obtain ⟨_, _, rfl, _⟩ := h; rfl) | (obtain ⟨_, _, _, rfl, _⟩ := h; rfl) | (obtain ⟨_, _, _, _, rfl, _⟩ := h; rfl) | (obtain ⟨_, _, _, _, _, rfl, _⟩ := h; rfl) | (obtain ⟨_, _, _, _, _, _, rfl, _⟩ := h; rfl)) (fun ds S Q E h => vc_cast e_as_fraction (vc_as_fraction ds S Q E h))) (fun _ _ _ _ _ _ us hl => match us, hl with | [_], _ => rfl)
  have k_below : FnK PySem.Challenge.rw_vatmatch_k05_whole_far_from_shades.prog w K mg base 1 "below" F_below := fnK_of (He.glo_ok X G (c.d.fact 31 (f := .glo "below") rfl)) P_below (def_ok (G := G_below) (isi := isiT) (sub := subT) (m := 14) (n := 14) (k := 0) P_below fs_below (gs_nil) sok (fun _ _ _ _ h => by first | (obtain ⟨rfl, _⟩ := h; rfl) | (obtain ⟨_, rfl, _⟩ := h; rfl) | (obtain ⟨_, _, rfl, _⟩ := h; rfl) | (obtain ⟨_, _, _, rfl, _⟩ := h; rfl) | (obtain ⟨_, _, _, _, rfl, _⟩ := h; rfl) | (obtain ⟨_, _, _, _, _, rfl, _⟩ := h; rfl) | (obtain ⟨_, _, _, _, _, _, rfl, _⟩ := h; rfl)) (fun ds S Q E h => vc_cast e_below (vc_below ds S Q E h))) (fun _ _ _ _ _ _ us hl => match us, hl with | [_, _], _ => rfl)
  have k_minus : FnK PySem.Challenge.rw_vatmatch_k05_whole_far_from_shades.prog w K mg base 3 "minus" F_minus := fnK_of (He.glo_ok X G (c.d.fact 32 (f := .glo "minus") rfl)) P_minus (def_ok (G := G_minus) (isi := isiT) (sub := subT) (m := 14) (n := 14) (k := 2) P_minus fs_minus (gs_cons ((k_fraction).mono (by decide)) (gs_nil)) sok (fun _ _ _ _ h => by first | (obtain ⟨rfl, _⟩ := h; rfl) | (obtain ⟨_, rfl, _⟩ := h; rfl) | (obtain ⟨_, _, rfl, _⟩ := h; rfl) | (obtain ⟨_, _, _, rfl, _⟩ := h; rfl) | (obtain ⟨_, _, _, _, rfl, _⟩ := h; rfl) | (obtain ⟨_, _, _, _, _, rfl, _⟩ := h; rfl) | (obtain ⟨_, _, _, _, _, _, rfl, _⟩ := h; rfl)) (fun ds S Q E h => vc_cast e_minus (vc_minus ds S Q E h))) (fun _ _ _ _ _ _ us hl => match us, hl with | [_, _], _ => rfl)
  have k_far_of : FnK PySem.Challenge.rw_vatmatch_k05_whole_far_from_shades.prog w K mg base 5 "far_of" F_far_of := fnK_of (He.glo_ok X G (c.d.fact 35 (f := .glo "far_of") rfl)) P_far_of (def_ok (G := G_far_of) (isi := isiT) (sub := subT) (m := 14) (n := 14) (k := 4) P_far_of fs_far_of (gs_cons (gv_con X G (cc ("ZERO", (.tup [(.int 0), (.int 1)])) (by simp [cs]))) (gs_cons ((k_total_of).mono (by decide)) (gs_cons (gv_zp X G (c.d.fact 28 (f := .free "zip") rfl)) (gs_cons ((k_times).mono (by decide)) (gs_cons ((k_as_fraction).mono (by decide)) (gs_cons (gv_con X G (cc ("HUNDRED", (.int 100)) (by simp [cs]))) (gs_cons ((k_below).mono (by decide)) (gs_cons ((k_minus).mono (by decide)) (gs_nil))))))))) sok (fun _ _ _ _ h => by first | (obtain ⟨rfl, _⟩ := h; rfl) | (obtain ⟨_, rfl, _⟩ := h; rfl) | (obtain ⟨_, _, rfl, _⟩ := h; rfl) | (obtain ⟨_, _, _, rfl, _⟩ := h; rfl) | (obtain ⟨_, _, _, _, rfl, _⟩ := h; rfl) | (obtain ⟨_, _, _, _, _, rfl, _⟩ := h; rfl) | (obtain ⟨_, _, _, _, _, _, rfl, _⟩ := h; rfl)) (fun ds S Q E h => vc_cast e_far_of (vc_far_of ds S Q E h))) (fun _ _ _ _ _ _ us hl => match us, hl with | [_, _], _ => rfl)
  have k_is_fraction : FnK PySem.Challenge.rw_vatmatch_k05_whole_far_from_shades.prog w K mg base 2 "is_fraction" F_is_fraction := fnK_of (He.glo_ok X G (c.d.fact 33 (f := .glo "is_fraction") rfl)) P_is_fraction (def_ok (G := G_is_fraction) (isi := isiT) (sub := subT) (m := 14) (n := 14) (k := 1) P_is_fraction fs_is_fraction (gs_cons ((k_divisor).mono (by decide)) (gs_cons (gv_bi (b := .isi) X G (c.d.fact 8 (f := .free "isinstance") rfl)) (gs_cons (gv_bt (t := .tuple) X G (c.d.fact 0 (f := .free "tuple") rfl)) (gs_cons (gv_bi (b := .len) X G (c.d.fact 15 (f := .free "len") rfl)) (gs_cons ((k_is_whole).mono (by decide)) (gs_nil)))))) sok (fun _ _ _ _ h => by first | (obtain ⟨rfl, _⟩ := h; rfl) | (obtain ⟨_, rfl, _⟩ := h; rfl) | (obtain ⟨_, _, rfl, _⟩ := h; rfl) | (obtain ⟨_, _, _, rfl, _⟩ := h; rfl) | (obtain ⟨_, _, _, _, rfl, _⟩ := h; rfl) | (obtain ⟨_, _, _, _, _, rfl, _⟩ := h; rfl) | (obtain ⟨_, _, _, _, _, _, rfl, _⟩ := h; rfl)) (fun ds S Q E h => vc_cast e_is_fraction (vc_is_fraction ds S Q E h))) (fun _ _ _ _ _ _ us hl => match us, hl with | [_], _ => rfl)
  have k_is_amounts : FnK PySem.Challenge.rw_vatmatch_k05_whole_far_from_shades.prog w K mg base 3 "is_amounts" F_is_amounts := fnK_of (He.glo_ok X G (c.d.fact 36 (f := .glo "is_amounts") rfl)) P_is_amounts (def_ok (G := G_is_amounts) (isi := isiT) (sub := subT) (m := 14) (n := 14) (k := 2) P_is_amounts fs_is_amounts (gs_cons (gv_bi (b := .all) X G (c.d.fact 17 (f := .free "all") rfl)) (gs_cons (gv_bi (b := .isi) X G (c.d.fact 8 (f := .free "isinstance") rfl)) (gs_cons (gv_bt (t := .tuple) X G (c.d.fact 0 (f := .free "tuple") rfl)) (gs_cons (gv_bi (b := .len) X G (c.d.fact 15 (f := .free "len") rfl)) (gs_cons ((k_is_fraction).mono (by decide)) (gs_nil)))))) sok (fun _ _ _ _ h => by first | (obtain ⟨rfl, _⟩ := h; rfl) | (obtain ⟨_, rfl, _⟩ := h; rfl) | (obtain ⟨_, _, rfl, _⟩ := h; rfl) | (obtain ⟨_, _, _, rfl, _⟩ := h; rfl) | (obtain ⟨_, _, _, _, rfl, _⟩ := h; rfl) | (obtain ⟨_, _, _, _, _, rfl, _⟩ := h; rfl) | (obtain ⟨_, _, _, _, _, _, rfl, _⟩ := h; rfl)) (fun ds S Q E h => vc_cast e_is_amounts (vc_is_amounts ds S Q E h))) (fun _ _ _ _ _ _ us hl => match us, hl with | [_, _], _ => rfl)
  have k_far : FnK PySem.Challenge.rw_vatmatch_k05_whole_far_from_shades.prog w K mg base 6 "far" F_far := fnK_of (He.glo_ok X G (c.d.fact 49 (f := .glo "far") rfl)) P_far (def_ok (G := G_far) (isi := isiT) (sub := subT) (m := 14) (n := 14) (k := 5) P_far fs_far (gs_cons ((k_check_many).mono (by decide)) (gs_cons ((k_check_shade).mono (by decide)) (gs_cons ((k_far_of).mono (by decide)) (gs_cons ((k_is_amounts).mono (by decide)) (gs_cons (gv_exc X G (c.d.fact 37 (f := .glo "NoStuffs") rfl) (c.d.fact 38 (f := .exc "NoStuffs") rfl) (cy _ (by decide +kernel))) (gs_nil)))))) sok (fun _ _ _ _ h => by first | (obtain ⟨rfl, _⟩ := h; rfl) | (obtain ⟨_, rfl, _⟩ := h; rfl) | (obtain ⟨_, _, rfl, _⟩ := h; rfl) | (obtain ⟨_, _, _, rfl, _⟩ := h; rfl) | (obtain ⟨_, _, _, _, rfl, _⟩ := h; rfl) | (obtain ⟨_, _, _, _, _, rfl, _⟩ := h; rfl) | (obtain ⟨_, _, _, _, _, _, rfl, _⟩ := h; rfl)) (fun ds S Q E h => vc_cast e_far (vc_far ds S Q E h))) (fun _ _ _ _ _ _ us hl => match us, hl with | [_, _, _], _ => rfl)
  have k_law_same : ∀ j : Nat, FnK PySem.Challenge.rw_vatmatch_k05_whole_far_from_shades.prog w K mg base (j + 1) "_law_same" (F_law_same j) := by
    intro j
    induction j with
    | zero => exact fnK_of (He.glo_ok X G (c.d.fact 40 (f := .glo "_law_same") rfl)) P_law_same (fnok_no (ps := ["told", "due"]) (by rfl) fun ds S Q E h => F_law_same_0 ds S Q E h) (fun _ _ _ _ _ _ us hl => match us, hl with | [_, _], _ => rfl)
    | succ j ih => exact fnK_of (He.glo_ok X G (c.d.fact 40 (f := .glo "_law_same") rfl)) P_law_same (def_ok (G := G_law_same j) (isi := isiT) (sub := subT) (m := 14) (n := 14) (k := j + 1) P_law_same fs_law_same (gs_cons (gv_bi (b := .isi) X G (c.d.fact 8 (f := .free "isinstance") rfl)) (gs_cons (gv_bt (t := .tuple) X G (c.d.fact 0 (f := .free "tuple") rfl)) (gs_cons (gv_bt (t := .str) X G (c.d.fact 39 (f := .free "str") rfl)) (gs_cons (gv_bi (b := .all) X G (c.d.fact 17 (f := .free "all") rfl)) (gs_cons (gv_bt (t := .bool) X G (c.d.fact 10 (f := .free "bool") rfl)) (gs_cons (gv_bt (t := .int) X G (c.d.fact 9 (f := .free "int") rfl)) (gs_cons (gv_bi (b := .len) X G (c.d.fact 15 (f := .free "len") rfl)) (gs_cons (ih) (gs_cons (gv_rng X G (c.d.fact 3 (f := .free "range") rfl)) (gs_nil)))))))))) sok (fun _ _ _ _ h => by first | (obtain ⟨rfl, _⟩ := h; rfl) | (obtain ⟨_, rfl, _⟩ := h; rfl) | (obtain ⟨_, _, rfl, _⟩ := h; rfl) | (obtain ⟨_, _, _, rfl, _⟩ := h; rfl) | (obtain ⟨_, _, _, _, rfl, _⟩ := h; rfl) | (obtain ⟨_, _, _, _, _, rfl, _⟩ := h; rfl) | (obtain ⟨_, _, _, _, _, _, rfl, _⟩ := h; rfl)) (fun ds S Q E h => vc_cast (e_law_same j) (vc_law_same j ds S Q E h))) (fun _ _ _ _ _ _ us hl => match us, hl with | [_, _], _ => rfl)
  have k_law_great_k02 : FnK PySem.Challenge.rw_vatmatch_k05_whole_far_from_shades.prog w K mg base 2 "_law_great" F_law_great_k02 := fnK_of (He.glo_ok X G (c.d.fact 42 (f := .glo "_law_great") rfl)) P_law_great_k02 (def_ok (G := G_law_great_k02) (isi := isiT) (sub := subT) (m := 14) (n := 14) (k := 1) P_law_great_k02 fs_law_great_k02 (gs_cons (gv_rng X G (c.d.fact 3 (f := .free "range") rfl)) (gs_cons ((k_law_take).mono (by decide)) (gs_nil))) sok (fun _ _ _ _ h => by first | (obtain ⟨rfl, _⟩ := h; rfl) | (obtain ⟨_, rfl, _⟩ := h; rfl) | (obtain ⟨_, _, rfl, _⟩ := h; rfl) | (obtain ⟨_, _, _, rfl, _⟩ := h; rfl) | (obtain ⟨_, _, _, _, rfl, _⟩ := h; rfl) | (obtain ⟨_, _, _, _, _, rfl, _⟩ := h; rfl) | (obtain ⟨_, _, _, _, _, _, rfl, _⟩ := h; rfl)) (fun ds S Q E h => vc_cast e_law_great_k02 (vc_law_great_k02 ds S Q E h))) (fun _ _ _ _ _ _ us hl => match us, hl with | [_], _ => rfl)
  have k_law_mul : FnK PySem.Challenge.rw_vatmatch_k05_whole_far_from_shades.prog w K mg base 2 "_law_mul" F_law_mul := fnK_of (He.glo_ok X G (c.d.fact 43 (f := .glo "_law_mul") rfl)) P_law_mul (def_ok (G := G_law_mul) (isi := isiT) (sub := subT) (m := 14) (n := 14) (k := 1) P_law_mul fs_law_mul (gs_cons ((k_law_low).mono (by decide)) (gs_nil)) sok (fun _ _ _ _ h => by first | (obtain ⟨rfl, _⟩ := h; rfl) | (obtain ⟨_, rfl, _⟩ := h; rfl) | (obtain ⟨_, _, rfl, _⟩ := h; rfl) | (obtain ⟨_, _, _, rfl, _⟩ := h; rfl) | (obtain ⟨_, _, _, _, rfl, _⟩ := h; rfl) | (obtain ⟨_, _, _, _, _, rfl, _⟩ := h; rfl) | (obtain ⟨_, _, _, _, _, _, rfl, _⟩ := h; rfl)) (fun ds S Q E h => vc_cast e_law_mul (vc_law_mul ds S Q E h))) (fun _ _ _ _ _ _ us hl => match us, hl with | [_, _], _ => rfl)
  have k_law_share : FnK PySem.Challenge.rw_vatmatch_k05_whole_far_from_shades.prog w K mg base 2 "_law_share" F_law_share := fnK_of (He.glo_ok X G (c.d.fact 44 (f := .glo "_law_share") rfl)) P_law_share (def_ok (G := G_law_share) (isi := isiT) (sub := subT) (m := 14) (n := 14) (k := 1) P_law_share fs_law_share (gs_cons ((k_law_low).mono (by decide)) (gs_cons (gv_bi (b := .sum) X G (c.d.fact 2 (f := .free "sum") rfl)) (gs_nil))) sok (fun _ _ _ _ h => by first | (obtain ⟨rfl, _⟩ := h; rfl) | (obtain ⟨_, rfl, _⟩ := h; rfl) | (obtain ⟨_, _, rfl, _⟩ := h; rfl) | (obtain ⟨_, _, _, rfl, _⟩ := h; rfl) | (obtain ⟨_, _, _, _, rfl, _⟩ := h; rfl) | (obtain ⟨_, _, _, _, _, rfl, _⟩ := h; rfl) | (obtain ⟨_, _, _, _, _, _, rfl, _⟩ := h; rfl)) (fun ds S Q E h => vc_cast e_law_share (vc_law_share ds S Q E h))) (fun _ _ _ _ _ _ us hl => match us, hl with | [_, _], _ => rfl)
  have k_law_some_stuffs_k05 : FnK PySem.Challenge.rw_vatmatch_k05_whole_far_from_shades.prog w K mg base 3 "_law_some_stuffs" F_law_some_stuffs_k05 := fnK_of (He.glo_ok X G (c.d.fact 50 (f := .glo "_law_some_stuffs") rfl)) P_law_some_stuffs_k05 (def_ok (G := G_law_some_stuffs_k05) (isi := isiT) (sub := subT) (m := 14) (n := 14) (k := 2) P_law_some_stuffs_k05 fs_law_some_stuffs_k05 (gs_cons ((k_law_take).mono (by decide)) (gs_cons ((k_law_low).mono (by decide)) (gs_cons ((k_law_parts).mono (by decide)) (gs_cons (gv_bt (t := .tuple) X G (c.d.fact 0 (f := .free "tuple") rfl)) (gs_cons (gv_bi (b := .abs) X G (c.d.fact 7 (f := .free "abs") rfl)) (gs_cons ((k_law_great_k02).mono (by decide)) (gs_cons ((k_law_mul).mono (by decide)) (gs_cons (gv_rng X G (c.d.fact 3 (f := .free "range") rfl)) (gs_cons ((k_law_share).mono (by decide)) (gs_nil)))))))))) sok (fun _ _ _ _ h => by first | (obtain ⟨rfl, _⟩ := h; rfl) | (obtain ⟨_, rfl, _⟩ := h; rfl) | (obtain ⟨_, _, rfl, _⟩ := h; rfl) | (obtain ⟨_, _, _, rfl, _⟩ := h; rfl) | (obtain ⟨_, _, _, _, rfl, _⟩ := h; rfl) | (obtain ⟨_, _, _, _, _, rfl, _⟩ := h; rfl) | (obtain ⟨_, _, _, _, _, _, rfl, _⟩ := h; rfl)) (fun ds S Q E h => vc_cast e_law_some_stuffs_k05 (vc_law_some_stuffs_k05 ds S Q E h))) (fun _ _ _ _ _ _ us hl => match us, hl with | [_, _, _], _ => rfl)
  have k_law_less : FnK PySem.Challenge.rw_vatmatch_k05_whole_far_from_shades.prog w K mg base 1 "_law_less" F_law_less := fnK_of (He.glo_ok X G (c.d.fact 47 (f := .glo "_law_less") rfl)) P_law_less (def_ok (G := G_law_less) (isi := isiT) (sub := subT) (m := 14) (n := 14) (k := 0) P_law_less fs_law_less (gs_nil) sok (fun _ _ _ _ h => by first | (obtain ⟨rfl, _⟩ := h; rfl) | (obtain ⟨_, rfl, _⟩ := h; rfl) | (obtain ⟨_, _, rfl, _⟩ := h; rfl) | (obtain ⟨_, _, _, rfl, _⟩ := h; rfl) | (obtain ⟨_, _, _, _, rfl, _⟩ := h; rfl) | (obtain ⟨_, _, _, _, _, rfl, _⟩ := h; rfl) | (obtain ⟨_, _, _, _, _, _, rfl, _⟩ := h; rfl)) (fun ds S Q E h => vc_cast e_law_less (vc_law_less ds S Q E h))) (fun _ _ _ _ _ _ us hl => match us, hl with | [_, _], _ => rfl)
  have k_law_add : FnK PySem.Challenge.rw_vatmatch_k05_whole_far_from_shades.prog w K mg base 2 "_law_add" F_law_add := fnK_of (He.glo_ok X G (c.d.fact 45 (f := .glo "_law_add") rfl)) P_law_add (def_ok (G := G_law_add) (isi := isiT) (sub := subT) (m := 14) (n := 14) (k := 1) P_law_add fs_law_add (gs_cons ((k_law_low).mono (by decide)) (gs_nil)) sok (fun _ _ _ _ h => by first | (obtain ⟨rfl, _⟩ := h; rfl) | (obtain ⟨_, rfl, _⟩ := h; rfl) | (obtain ⟨_, _, rfl, _⟩ := h; rfl) | (obtain ⟨_, _, _, rfl, _⟩ := h; rfl) | (obtain ⟨_, _, _, _, rfl, _⟩ := h; rfl) | (obtain ⟨_, _, _, _, _, rfl, _⟩ := h; rfl) | (obtain ⟨_, _, _, _, _, _, rfl, _⟩ := h; rfl)) (fun ds S Q E h => vc_cast e_law_add (vc_law_add ds S Q E h))) (fun _ _ _ _ _ _ us hl => match us, hl with | [_, _], _ => rfl)
  have k_law_sum : FnK PySem.Challenge.rw_vatmatch_k05_whole_far_from_shades.prog w K mg base 3 "_law_sum" F_law_sum := fnK_of (He.glo_ok X G (c.d.fact 46 (f := .glo "_law_sum") rfl)) P_law_sum (def_ok (G := G_law_sum) (isi := isiT) (sub := subT) (m := 14) (n := 14) (k := 2) P_law_sum fs_law_sum (gs_cons ((k_law_add).mono (by decide)) (gs_nil)) sok (fun _ _ _ _ h => by first | (obtain ⟨rfl, _⟩ := h; rfl) | (obtain ⟨_, rfl, _⟩ := h; rfl) | (obtain ⟨_, _, rfl, _⟩ := h; rfl) | (obtain ⟨_, _, _, rfl, _⟩ := h; rfl) | (obtain ⟨_, _, _, _, rfl, _⟩ := h; rfl) | (obtain ⟨_, _, _, _, _, rfl, _⟩ := h; rfl) | (obtain ⟨_, _, _, _, _, _, rfl, _⟩ := h; rfl)) (fun ds S Q E h => vc_cast e_law_sum (vc_law_sum ds S Q E h))) (fun _ _ _ _ _ _ us hl => match us, hl with | [_], _ => rfl)
  have k_law_within : FnK PySem.Challenge.rw_vatmatch_k05_whole_far_from_shades.prog w K mg base 4 "_law_within" F_law_within := fnK_of (He.glo_ok X G (c.d.fact 52 (f := .glo "_law_within") rfl)) P_law_within (def_ok (G := G_law_within) (isi := isiT) (sub := subT) (m := 14) (n := 14) (k := 3) P_law_within fs_law_within (gs_cons ((k_law_sum).mono (by decide)) (gs_cons (gv_rng X G (c.d.fact 3 (f := .free "range") rfl)) (gs_cons (gv_bi (b := .len) X G (c.d.fact 15 (f := .free "len") rfl)) (gs_cons ((k_law_mul).mono (by decide)) (gs_cons ((k_law_less).mono (by decide)) (gs_nil)))))) sok (fun _ _ _ _ h => by first | (obtain ⟨rfl, _⟩ := h; rfl) | (obtain ⟨_, rfl, _⟩ := h; rfl) | (obtain ⟨_, _, rfl, _⟩ := h; rfl) | (obtain ⟨_, _, _, rfl, _⟩ := h; rfl) | (obtain ⟨_, _, _, _, rfl, _⟩ := h; rfl) | (obtain ⟨_, _, _, _, _, rfl, _⟩ := h; rfl) | (obtain ⟨_, _, _, _, _, _, rfl, _⟩ := h; rfl)) (fun ds S Q E h => vc_cast e_law_within (vc_law_within ds S Q E h))) (fun _ _ _ _ _ _ us hl => match us, hl with | [_, _], _ => rfl)
  have k_law_right_k05 : FnK PySem.Challenge.rw_vatmatch_k05_whole_far_from_shades.prog w K mg base 7 "_law_right" F_law_right_k05 := fnK_of (He.glo_ok X G (c.d.fact 53 (f := .glo "_law_right") rfl)) P_law_right_k05 (def_ok (G := G_law_right_k05) (isi := isiT) (sub := subT) (m := 14) (n := 14) (k := 6) P_law_right_k05 fs_law_right_k05 (gs_cons ((k_law_shade).mono (by decide)) (gs_cons ((k_law_low).mono (by decide)) (gs_cons (gv_bt (t := .tuple) X G (c.d.fact 0 (f := .free "tuple") rfl)) (gs_cons ((k_far).mono (by decide)) (gs_cons ((k_law_same 4).mono (by decide)) (gs_cons ((k_law_take).mono (by decide)) (gs_cons ((k_law_some_stuffs_k05).mono (by decide)) (gs_cons (gv_bi (b := .abs) X G (c.d.fact 7 (f := .free "abs") rfl)) (gs_cons ((k_law_less).mono (by decide)) (gs_cons ((k_law_great_k02).mono (by decide)) (gs_cons (gv_bi (b := .sorted) X G (c.d.fact 51 (f := .free "sorted") rfl)) (gs_cons ((k_law_add).mono (by decide)) (gs_cons ((k_law_mul).mono (by decide)) (gs_cons ((k_law_within).mono (by decide)) (gs_cons ((k_is_shade).mono (by decide)) (gs_cons (gv_bi (b := .max) X G (c.d.fact 5 (f := .free "max") rfl)) (gs_cons (gv_bi (b := .min) X G (c.d.fact 6 (f := .free "min") rfl)) (gs_cons (gv_rng X G (c.d.fact 3 (f := .free "range") rfl)) (gs_cons ((k_law_sum).mono (by decide)) (gs_nil)))))))))))))))))))) sok (fun _ _ _ _ h => by first | (obtain ⟨rfl, _⟩ := h; rfl) | (obtain ⟨_, rfl, _⟩ := h; rfl) | (obtain ⟨_, _, rfl, _⟩ := h; rfl) | (obtain ⟨_, _, _, rfl, _⟩ := h; rfl) | (obtain ⟨_, _, _, _, rfl, _⟩ := h; rfl) | (obtain ⟨_, _, _, _, _, rfl, _⟩ := h; rfl) | (obtain ⟨_, _, _, _, _, _, rfl, _⟩ := h; rfl)) (fun ds S Q E h => vc_cast e_law_right_k05 (vc_law_right_k05 ds S Q E h))) (fun _ _ _ _ _ _ us hl => match us, hl with | [_], _ => rfl)
  have k_law_purse : FnK PySem.Challenge.rw_vatmatch_k05_whole_far_from_shades.prog w K mg base 1 "_law_purse" F_law_purse := fnK_of (He.glo_ok X G (c.d.fact 54 (f := .glo "_law_purse") rfl)) P_law_purse (def_ok (G := G_law_purse) (isi := isiT) (sub := subT) (m := 14) (n := 14) (k := 0) P_law_purse fs_law_purse (gs_cons (gv_bi (b := .abs) X G (c.d.fact 7 (f := .free "abs") rfl)) (gs_nil)) sok (fun _ _ _ _ h => by first | (obtain ⟨rfl, _⟩ := h; rfl) | (obtain ⟨_, rfl, _⟩ := h; rfl) | (obtain ⟨_, _, rfl, _⟩ := h; rfl) | (obtain ⟨_, _, _, rfl, _⟩ := h; rfl) | (obtain ⟨_, _, _, _, rfl, _⟩ := h; rfl) | (obtain ⟨_, _, _, _, _, rfl, _⟩ := h; rfl) | (obtain ⟨_, _, _, _, _, _, rfl, _⟩ := h; rfl)) (fun ds S Q E h => vc_cast e_law_purse (vc_law_purse ds S Q E h))) (fun _ _ _ _ _ _ us hl => match us, hl with | [_], _ => rfl)
  have k_law_cell : FnK PySem.Challenge.rw_vatmatch_k05_whole_far_from_shades.prog w K mg base 1 "_law_cell" F_law_cell := fnK_of (He.glo_ok X G (c.d.fact 55 (f := .glo "_law_cell") rfl)) P_law_cell (def_ok (G := G_law_cell) (isi := isiT) (sub := subT) (m := 14) (n := 14) (k := 0) P_law_cell fs_law_cell (gs_cons (gv_bi (b := .len) X G (c.d.fact 15 (f := .free "len") rfl)) (gs_nil)) sok (fun _ _ _ _ h => by first | (obtain ⟨rfl, _⟩ := h; rfl) | (obtain ⟨_, rfl, _⟩ := h; rfl) | (obtain ⟨_, _, rfl, _⟩ := h; rfl) | (obtain ⟨_, _, _, rfl, _⟩ := h; rfl) | (obtain ⟨_, _, _, _, rfl, _⟩ := h; rfl) | (obtain ⟨_, _, _, _, _, rfl, _⟩ := h; rfl) | (obtain ⟨_, _, _, _, _, _, rfl, _⟩ := h; rfl)) (fun ds S Q E h => vc_cast e_law_cell (vc_law_cell ds S Q E h))) (fun _ _ _ _ _ _ us hl => match us, hl with | [_, _], _ => rfl)
  have e0 := hf.symm.trans (He.glo_ok X G (c.d.fact 56 (f := .glo "law") rfl))
  cases e0
  exact def_ok (G := G_law_k04) (isi := isiT) (sub := subT) (m := 14) (n := 14) (k := 7) P_law_k04 fs_law_k04 (gs_cons (gv_bi (b := .all) X G (c.d.fact 17 (f := .free "all") rfl)) (gs_cons ((k_law_right_k05).mono (by decide)) (gs_cons ((k_law_purse).mono (by decide)) (gs_cons (gv_rng X G (c.d.fact 3 (f := .free "range") rfl)) (gs_cons ((k_law_cell).mono (by decide)) (gs_cons (gv_bi (b := .max) X G (c.d.fact 5 (f := .free "max") rfl)) (gs_cons (gv_bi (b := .min) X G (c.d.fact 6 (f := .free "min") rfl)) (gs_cons (gv_bi (b := .len) X G (c.d.fact 15 (f := .free "len") rfl)) (gs_nil))))))))) sok (fun _ _ _ _ h => by obtain ⟨_, _, _, rfl, _⟩ := h; rfl) (fun ds S Q E h => vc_cast e_law_k04 (vc_law_k05 ds S Q E h))
end Vk
open PySem PySem.W PySem.Calls PyProof.Rows
theorem PySem.Challenge.cw_vatmatch_k05_whole_far_from_shades_holds : PySem.Challenge.rw_vatmatch_k05_whole_far_from_shades.Holds := by
  w_on; o_law
  refine HandSHeadRun.head_any (r := Vk.R) (q := view Vk.R.prog [48])
    (H := Vk.hk) (ob := Vk.ob) (M := 30000) (loose := Vk.lo) (d := HandSHeadRun.topDef Vk.R.prog 48) (kwd := []) Vk.ob_eq
    (by kernel_rfl) (fun s => by kernel_rfl) Vk.run (by kernel_rfl) (by kernel_rfl)
    (by kernel_rfl) (by rfl) (by first | assumption | decide +kernel) (by decide +kernel)
    ⟨rfl, rfl, rfl, rfl, rfl, by decide +kernel⟩ ?hw ?hc
  case hw => w_witness2
  case hc =>
    refine Vm.law_end (l := PySem.Challenge.rw_vatmatch_k05_whole_far_from_shades) (n := 63) (k := 7) (x := "script") rfl (by decide)
      (by kernel_rfl) ⟨rfl, by decide, by decide⟩ ?F
    intro w K mg f h X G hmg0 c
    have hmg : mg ("law" : PySem.Str) = some (.ref f) := by
      have e : (HandSHeadRun.topDef Vk.R.prog 48).name = ("law" : PySem.Str) := by kernel_rfl
      rw [← e]; exact hmg0
    exact Vk.facts X G hmg c
