import PyProof.Rows.All
import HandS.ForMost
import HandS.Wide
import HandS.Style
import HandS.SlotsOwn
import HandS.TupAny
import HandS.IsInst
import HandS.Flow
import HandS.CallRecv
import Wide.All
import OpenK.AllK
import Wide.FinOn
import HandS.Iter
import KE.GoesEnum
import KE.GoesMore
import HandS.Zip
import HandS.Small
import HandS.Words
import HandS.Ends
import PySem.Challenge.RW_signfours_k03_whole_signs_by_local_looks
set_option Elab.async false
set_option linter.all false
set_option maxRecDepth 100000
set_option maxHeartbeats 4000000
/-! EvD: plain values, the store of lists that may change, and how both lie in the abstract heap. -/
namespace EV
open PySem PySem.Spec PyProof.Rows L2

/-- a value without the heap; ref j i: the i-th thing of the j-th frame above (0: the own one) -/
inductive D where
  | non | bl (b : Bool) | int (i : Int) | str (x : Str)
  | tup (ds : List D) | lst (ds : List D) | scr (ds : List D) | dct (ks : List Key) (ds : List D)
  | dcT (ks : List (List Key)) (ds : List D)
  | obj (c : Nat) (ns : List Nat) (ds : List D)
  | ktp (ds : List D)
  | ref (j i : Nat)
/-- a thing that may change, or one that may no more -/
inductive O where
  | lst (ds : List D) | dct (ks : List Key) (ds : List D) | dcT (ks : List (List Key)) (ds : List D)
  | ins (c : Nat) (ns : List Nat) (ds : List D) | frz (d : D) | dead
abbrev Sto := List (List O)
def O.isF : O → Bool
  | .frz _ => true
  | .dead => true
  | _ => false
def sget (R : Sto) (j i : Nat) : Option O := (R.getD j [])[i]?
def sset (R : Sto) (j i : Nat) (o : O) : Sto := R.set j ((R.getD j []).set i o)
def live (R : Sto) (j i : Nat) : Prop := ∃ o, sget R j i = some o ∧ o.isF = false

/-- a name told by a number: its signs, to the base 256, behind 65536 -/
def nmD : Nat → Nat → List Nat → List Nat
  | 0, _, acc => acc
  | f + 1, n, acc => if n ≤ 65536 then acc else nmD f (n / 256) (n % 256 :: acc)
def nmN (n : Nat) : Str := ⟨(nmD 64 n []).toArray⟩
/-- the class with the number c stands at C -/
structure ClsA (K : PySem.W.Frag) (c : Nat) (C : Addr) : Prop where
  ns : PySem.W.nsIn K mainGlobals (nmN c) = some (some (.ref C))
  sc : SlX.SCls K C
  si : SlX.SIsi K C
  ty : PySem.W.typeIn K (.ref C) = some (.type "type")
  sf : PySem.W.selfFirst K C = true
  mro : ∃ cd, PySem.W.clsIn K C = some cd ∧ cd.mro = [.ref C, .type "object"] ∧ cd.name = nmN c
  ne : PySem.W.findIn K (.ref C) "__ne__" = some (some (.builtin "object.__ne__"))
theorem ClsA.one {K : PySem.W.Frag} {c : Nat} {C C' : Addr} (a : ClsA K c C) (b : ClsA K c C') : C' = C := by
  have := b.ns.symm.trans a.ns
  cases this
  rfl
/-- an instance's object: without slots, with slots -/
def Slo (H : Hp) (a C dx : Addr) (vs : List (Option V)) : Prop :=
  (H a = some (.ins C dx []) ∧ vs = [] ∧ H dx = some (.own a)) ∨ (H a = some (SlX.SlO a C dx vs) ∧ H dx = some (.xd []))
theorem Slo.slt {H : Hp} {a C dx : Addr} {vs : List (Option V)} (h : Slo H a C dx vs) : SlX.Slt H a C dx vs := by
  rcases h with ⟨h1, h2, _⟩ | ⟨h1, h2⟩
  · exact .inl ⟨h1, h2⟩
  · exact .inr ⟨h1, h2⟩
/-- the slots with these names hold these values -/
def Slots (K : PySem.W.Frag) (C : Addr) (ns : List Nat) (vs : List (Option V)) (us : List V) : Prop :=
  us.length = ns.length ∧ ∀ (j : Nat) (f : Nat) (u : V), ns[j]? = some f → us[j]? = some u → ∃ p i, SlX.Slot1 K C (nmN f) p i ∧ vs[i]? = some (some u)

mutual
inductive Den (K : PySem.W.Frag) (F : Hp) : D → V → Prop
  | non : Den K F .non .non
  | bl (b : Bool) : Den K F (.bl b) (.bl b)
  | int (i : Int) : Den K F (.int i) (.int i)
  | str (x : Str) : Den K F (.str x) (.str x)
  | tup {a : Addr} {vs : List V} {ds : List D} : F a = some (.tup vs) → DenL K F ds vs → Den K F (.tup ds) (.ref a)
  | ktp {a : Addr} {vs : List V} {ds : List D} : SqT K F a vs → DenL K F ds vs → Den K F (.ktp ds) (.ref a)
  | lst {a : Addr} {vs : List V} {ds : List D} : F a = some (.lst vs) → DenL K F ds vs → Den K F (.lst ds) (.ref a)
  | scr {a : Addr} {vs : List V} {ds : List D} : SqL K F a vs → DenL K F ds vs → Den K F (.scr ds) (.ref a)
  | dct {a : Addr} {kvs : List (Key × V)} {ks : List Key} {ds : List D} : F a = some (.dK kvs) → kvs.map (·.1) = ks → DenL K F ds (kvs.map (·.2)) → Den K F (.dct ks ds) (.ref a)
  | dcT {a : Addr} {kvs : List (List Key × V)} {ks : List (List Key)} {ds : List D} : F a = some (.dT kvs) → kvs.map (·.1) = ks → DenL K F ds (kvs.map (·.2)) → Den K F (.dcT ks ds) (.ref a)
  | obj {a C dx : Addr} {c : Nat} {ns : List Nat} {ds : List D} {vs : List (Option V)} {us : List V} : ClsA K c C → Slo F a C dx vs → Slots K C ns vs us → DenL K F ds us → Den K F (.obj c ns ds) (.ref a)
inductive DenL (K : PySem.W.Frag) (F : Hp) : List D → List V → Prop
  | nil : DenL K F [] []
  | cons {d : D} {v : V} {ds : List D} {vs : List V} : Den K F d v → DenL K F ds vs → DenL K F (d :: ds) (v :: vs)
end

def Ex (F F' : Hp) : Prop := ∀ a o, F a = some o → F' a = some o
theorem Ex.refl (F : Hp) : Ex F F := fun _ _ h => h
theorem Ex.trans {F G I : Hp} (a : Ex F G) (b : Ex G I) : Ex F I := fun x o h => b x o (a x o h)
theorem Ex.new {F : Hp} {p : Addr} {o : HO} (h : F p = none) : Ex F (upd F p o) := fun a u e => by
  rw [upd_ne (ne_of_none e h)]
  exact e
theorem Ex.sqL {K : PySem.W.Frag} {F G : Hp} {a : Addr} {xs : List V} (e : Ex F G) (h : SqL K F a xs) : SqL K G a xs := by
  rcases h with (h | ⟨o, h⟩) | h
  · exact .inl (.inl (e _ _ h))
  · exact .inl (.inr ⟨o, e _ _ h⟩)
  · exact .inr h
theorem Ex.sqT {K : PySem.W.Frag} {F G : Hp} {a : Addr} {xs : List V} (e : Ex F G) (h : SqT K F a xs) : SqT K G a xs := by
  rcases h with (h | ⟨o, h⟩) | h
  · exact .inl (.inl (e _ _ h))
  · exact .inl (.inr ⟨o, e _ _ h⟩)
  · exact .inr h
theorem Ex.slo {F G : Hp} {a C dx : Addr} {vs : List (Option V)} (e : Ex F G) (h : Slo F a C dx vs) : Slo G a C dx vs := by
  rcases h with ⟨h1, h2, h3⟩ | ⟨h1, h2⟩
  · exact .inl ⟨e _ _ h1, h2, e _ _ h3⟩
  · exact .inr ⟨e _ _ h1, e _ _ h2⟩

section
variable {K : PySem.W.Frag} {F G : Hp}
mutual
theorem Den.mono (e : Ex F G) : ∀ {d : D} {v : V}, Den K F d v → Den K G d v
  | _, _, .non => .non
  | _, _, .bl b => .bl b
  | _, _, .int i => .int i
  | _, _, .str x => .str x
  | _, _, .tup h t => .tup (e _ _ h) (DenL.mono e t)
  | _, _, .ktp h t => .ktp (e.sqT h) (DenL.mono e t)
  | _, _, .lst h t => .lst (e _ _ h) (DenL.mono e t)
  | _, _, .scr h t => .scr (e.sqL h) (DenL.mono e t)
  | _, _, .dct h k t => .dct (e _ _ h) k (DenL.mono e t)
  | _, _, .dcT h k t => .dcT (e _ _ h) k (DenL.mono e t)
  | _, _, .obj c h k t => .obj c (e.slo h) k (DenL.mono e t)
theorem DenL.mono (e : Ex F G) : ∀ {ds : List D} {vs : List V}, DenL K F ds vs → DenL K G ds vs
  | _, _, .nil => .nil
  | _, _, .cons h t => .cons (Den.mono e h) (DenL.mono e t)
end
theorem DenL.length : ∀ {ds : List D} {vs : List V}, DenL K F ds vs → vs.length = ds.length
  | _, _, .nil => rfl
  | _, _, .cons _ t => by rw [List.length_cons, List.length_cons, DenL.length t]
theorem DenL.get : ∀ {ds : List D} {vs : List V} {i : Nat} {d : D}, DenL K F ds vs → ds[i]? = some d → ∃ v, vs[i]? = some v ∧ Den K F d v
  | _, _, _, _, .nil, e => by simp at e
  | _, _, 0, _, .cons h _, e => by simp at e; subst e; exact ⟨_, rfl, h⟩
  | _, _, i + 1, d, .cons _ t, e => by
    obtain ⟨v, h1, h2⟩ := DenL.get (i := i) (d := d) t (by simpa using e)
    exact ⟨v, by simpa using h1, h2⟩
theorem DenL.getV : ∀ {ds : List D} {vs : List V} {i : Nat} {v : V}, DenL K F ds vs → vs[i]? = some v → ∃ d, ds[i]? = some d ∧ Den K F d v
  | _, _, _, _, .nil, e => by simp at e
  | _, _, 0, _, .cons h _, e => by simp at e; subst e; exact ⟨_, rfl, h⟩
  | _, _, i + 1, d, .cons _ t, e => by
    obtain ⟨v, h1, h2⟩ := DenL.getV (i := i) (v := d) t (by simpa using e)
    exact ⟨v, by simpa using h1, h2⟩
theorem DenL.append : ∀ {ds es : List D} {vs us : List V}, DenL K F ds vs → DenL K F es us → DenL K F (ds ++ es) (vs ++ us)
  | _, _, _, _, .nil, h => h
  | _, _, _, _, .cons a t, h => .cons a (DenL.append t h)
theorem DenL.set {d : D} {v : V} (h : Den K F d v) : ∀ {ds : List D} {vs : List V} (i : Nat), DenL K F ds vs → DenL K F (ds.set i d) (vs.set i v)
  | _, _, _, .nil => .nil
  | _, _, 0, .cons _ t => .cons h t
  | _, _, i + 1, .cons a t => .cons a (DenL.set h i t)
theorem DenL.take : ∀ {ds : List D} {vs : List V} (n : Nat), DenL K F ds vs → DenL K F (ds.take n) (vs.take n)
  | _, _, 0, _ => .nil
  | _, _, _ + 1, .nil => .nil
  | _, _, n + 1, .cons a t => .cons a (DenL.take n t)
theorem DenL.drop : ∀ {ds : List D} {vs : List V} (n : Nat), DenL K F ds vs → DenL K F (ds.drop n) (vs.drop n)
  | _, _, 0, h => h
  | _, _, _ + 1, .nil => .nil
  | _, _, n + 1, .cons _ t => DenL.drop n t
end

/-- content of its own -/
def MainK (u : HO) : Prop := (∀ y, u ≠ .own y) ∧ ∀ f, u ≠ .xd f
theorem main_lst (vs : List V) : MainK (.lst vs) := ⟨fun _ z => (nomatch z), fun _ z => (nomatch z)⟩
theorem main_tup (vs : List V) : MainK (.tup vs) := ⟨fun _ z => (nomatch z), fun _ z => (nomatch z)⟩
theorem main_dK (vs : List (Key × V)) : MainK (.dK vs) := ⟨fun _ z => (nomatch z), fun _ z => (nomatch z)⟩
theorem main_dT (vs : List (List Key × V)) : MainK (.dT vs) := ⟨fun _ z => (nomatch z), fun _ z => (nomatch z)⟩
theorem main_ins (C dx : Addr) : MainK (.ins C dx []) := ⟨fun _ z => (nomatch z), fun _ z => (nomatch z)⟩
theorem main_slo (a C dx : Addr) (vs : List (Option V)) : MainK (SlX.SlO a C dx vs) := ⟨fun _ z => (by unfold SlX.SlO at z; cases z), fun _ z => (by unfold SlX.SlO at z; cases z)⟩
/-- what of a heap must stay for the thing at a -/
structure Keeps (H H' : Hp) (a : Addr) : Prop where
  at_ : ∀ u, H a = some u → H' a = some u
  own : ∀ dx, H dx = some (.own a) → H' dx = some (.own a)
  xd : ∀ dx, H dx = some (.xd []) → H' dx = some (.xd [])
theorem Keeps.refl (H : Hp) (a : Addr) : Keeps H H a := ⟨fun _ h => h, fun _ h => h, fun _ h => h⟩
theorem Keeps.lay {H : Hp} {p a : Addr} {u : HO} (h : H p = none) : Keeps H (upd H p u) a :=
  ⟨fun _ e => by rw [upd_ne (ne_of_none e h)]; exact e, fun _ e => by rw [upd_ne (ne_of_none e h)]; exact e, fun _ e => by rw [upd_ne (ne_of_none e h)]; exact e⟩
theorem Keeps.put {H : Hp} {p a : Addr} {u w : HO} (h : H p = some w) (m : MainK w) (n : a ≠ p) : Keeps H (upd H p u) a :=
  ⟨fun _ e => by rw [upd_ne n]; exact e, fun dx e => by rw [upd_ne (ne_of e h (fun z => m.1 _ z.symm))]; exact e, fun dx e => by rw [upd_ne (ne_of e h (fun z => m.2 _ z.symm))]; exact e⟩
/-- an instance that may change -/
def SloL (F H : Hp) (a C dx : Addr) (vs : List (Option V)) : Prop :=
  (H a = some (.ins C dx []) ∧ vs = [] ∧ H dx = some (.own a) ∧ F dx = none) ∨ (H a = some (SlX.SlO a C dx vs) ∧ H dx = some (.xd []))
theorem SloL.slo {F H : Hp} {a C dx : Addr} {vs : List (Option V)} (h : SloL F H a C dx vs) : Slo H a C dx vs := by
  rcases h with ⟨h1, h2, h3, _⟩ | ⟨h1, h2⟩
  · exact .inl ⟨h1, h2, h3⟩
  · exact .inr ⟨h1, h2⟩
theorem SloL.main {F H : Hp} {a C dx : Addr} {vs : List (Option V)} (h : SloL F H a C dx vs) : ∃ u, H a = some u ∧ MainK u := by
  rcases h with ⟨h1, _⟩ | ⟨h1, _⟩
  · exact ⟨_, h1, main_ins _ _⟩
  · exact ⟨_, h1, main_slo _ _ _ _⟩
theorem SloL.keeps {F H H' : Hp} {a C dx : Addr} {vs : List (Option V)} (k : Keeps H H' a) (h : SloL F H a C dx vs) : SloL F H' a C dx vs := by
  rcases h with ⟨h1, h2, h3, h4⟩ | ⟨h1, h2⟩
  · exact .inl ⟨k.at_ _ h1, h2, k.own _ h3, h4⟩
  · exact .inr ⟨k.at_ _ h1, k.xd _ h2⟩
/-- how a thing of the store lies -/
def OR (K : PySem.W.Frag) (F H : Hp) (a : Addr) : O → Prop
  | .lst ds => F a = none ∧ ∃ vs, H a = some (.lst vs) ∧ DenL K F ds vs
  | .dct ks ds => F a = none ∧ ∃ kvs, H a = some (.dK kvs) ∧ kvs.map (·.1) = ks ∧ DenL K F ds (kvs.map (·.2))
  | .dcT ks ds => F a = none ∧ ∃ kvs, H a = some (.dT kvs) ∧ kvs.map (·.1) = ks ∧ DenL K F ds (kvs.map (·.2))
  | .ins c ns ds => F a = none ∧ ∃ C dx vs us, ClsA K c C ∧ SloL F H a C dx vs ∧ Slots K C ns vs us ∧ DenL K F ds us
  | .frz d => Den K F d (.ref a)
  | .dead => True

abbrev Mp := Nat → Nat → Addr
/-- things that stand aside meanwhile -/
abbrev Ps := List (Addr × HO)
structure Rel (K : PySem.W.Frag) (M : Mp) (R : Sto) (P : Ps) (F H : Hp) : Prop where
  ex : Ex F H
  ob : ∀ j i o, sget R j i = some o → OR K F H (M j i) o
  inj : ∀ j i j' i', live R j i → live R j' i' → M j i = M j' i' → j = j' ∧ i = i'
  pr : ∀ q ∈ P, H q.1 = some q.2 ∧ F q.1 = none ∧ MainK q.2 ∧ ∀ j i, live R j i → M j i ≠ q.1
  pd : (P.map (·.1)).Nodup

/-- a value, or a thing of the store -/
def Vr (K : PySem.W.Frag) (M : Mp) (F : Hp) (d : D) (v : V) : Prop := (∃ j i, d = .ref j i ∧ v = .ref (M j i)) ∨ Den K F d v
inductive Rv where
  | val (d : D) | new (o : O) | many (ds : List D)
/-- a value; a new thing that nobody has -/
def RVR (K : PySem.W.Frag) (M : Mp) (R : Sto) (P : Ps) (F H : Hp) (v : V) : Rv → Prop
  | .val d => Vr K M F d v
  | .new o => ∃ p, v = .ref p ∧ o.isF = false ∧ OR K F H p o ∧ (∀ j i, live R j i → M j i ≠ p) ∧ ∀ q ∈ P, q.1 ≠ p
  | .many _ => False

section
variable {K : PySem.W.Frag} {M : Mp} {R : Sto} {P : Ps} {F G H : Hp} {d : D} {v : V} {o : O} {a p : Addr}
theorem Vr.mono (e : Ex F G) (h : Vr K M F d v) : Vr K M G d v := by
  rcases h with h | h
  · exact .inl h
  · exact .inr (h.mono e)
theorem Vr.int {i : Int} (h : Vr K M F (.int i) v) : v = .int i := by
  rcases h with ⟨_, _, e, _⟩ | h
  · cases e
  · cases h; rfl
theorem Vr.bl {b : Bool} (h : Vr K M F (.bl b) v) : v = .bl b := by
  rcases h with ⟨_, _, e, _⟩ | h
  · cases e
  · cases h; rfl
theorem Vr.str {x : Str} (h : Vr K M F (.str x) v) : v = .str x := by
  rcases h with ⟨_, _, e, _⟩ | h
  · cases e
  · cases h; rfl
theorem Vr.non (h : Vr K M F .non v) : v = .non := by
  rcases h with ⟨_, _, e, _⟩ | h
  · cases e
  · cases h; rfl
theorem Vr.tup {ds : List D} (h : Vr K M F (.tup ds) v) : ∃ a vs, v = .ref a ∧ SqT K F a vs ∧ DenL K F ds vs := by
  rcases h with ⟨_, _, e, _⟩ | h
  · cases e
  · cases h with
    | tup h t => exact ⟨_, _, rfl, .inl (.inl h), t⟩
theorem Vr.tupF {ds : List D} (h : Vr K M F (.tup ds) v) : ∃ a vs, v = .ref a ∧ F a = some (.tup vs) ∧ DenL K F ds vs := by
  rcases h with ⟨_, _, e, _⟩ | h
  · cases e
  · cases h with
    | tup h t => exact ⟨_, _, rfl, h, t⟩
theorem Vr.ktp {ds : List D} (h : Vr K M F (.ktp ds) v) : ∃ a vs, v = .ref a ∧ SqT K F a vs ∧ DenL K F ds vs := by
  rcases h with ⟨_, _, e, _⟩ | h
  · cases e
  · cases h with
    | ktp h t => exact ⟨_, _, rfl, h, t⟩
theorem Vr.lst {ds : List D} (h : Vr K M F (.lst ds) v) : ∃ a vs, v = .ref a ∧ F a = some (.lst vs) ∧ DenL K F ds vs := by
  rcases h with ⟨_, _, e, _⟩ | h
  · cases e
  · cases h with
    | lst h t => exact ⟨_, _, rfl, h, t⟩
theorem Vr.scr {ds : List D} (h : Vr K M F (.scr ds) v) : ∃ a vs, v = .ref a ∧ SqL K F a vs ∧ DenL K F ds vs := by
  rcases h with ⟨_, _, e, _⟩ | h
  · cases e
  · cases h with
    | scr h t => exact ⟨_, _, rfl, h, t⟩
theorem Vr.dct {ks : List Key} {ds : List D} (h : Vr K M F (.dct ks ds) v) : ∃ a kvs, v = .ref a ∧ F a = some (.dK kvs) ∧ kvs.map (·.1) = ks ∧ DenL K F ds (kvs.map (·.2)) := by
  rcases h with ⟨_, _, e, _⟩ | h
  · cases e
  · cases h with
    | dct h k t => exact ⟨_, _, rfl, h, k, t⟩
theorem Vr.ref {j i : Nat} (h : Vr K M F (.ref j i) v) : v = .ref (M j i) := by
  rcases h with ⟨_, _, e, h⟩ | h
  · cases e; exact h
  · cases h
theorem Vr.of (h : Den K F d v) : Vr K M F d v := .inr h

theorem Vr.dcT {ks : List (List Key)} {ds : List D} (h : Vr K M F (.dcT ks ds) v) : ∃ a kvs, v = .ref a ∧ F a = some (.dT kvs) ∧ kvs.map (·.1) = ks ∧ DenL K F ds (kvs.map (·.2)) := by
  rcases h with ⟨_, _, e, _⟩ | h
  · cases e
  · cases h with
    | dcT h k t => exact ⟨_, _, rfl, h, k, t⟩
theorem Vr.obj {c : Nat} {ns : List Nat} {ds : List D} (h : Vr K M F (.obj c ns ds) v) : ∃ a C dx vs us, v = .ref a ∧ ClsA K c C ∧ Slo F a C dx vs ∧ Slots K C ns vs us ∧ DenL K F ds us := by
  rcases h with ⟨_, _, e, _⟩ | h
  · cases e
  · cases h with
    | obj h k l t => exact ⟨_, _, _, _, _, rfl, h, k, l, t⟩
theorem OR.mono (e : Ex F G) (hn : o.isF = false → G a = none ∧ ∀ dx, H dx = some (.own a) → F dx = none → G dx = none) (h : OR K F H a o) : OR K G H a o := by
  cases o with
  | lst ds =>
    obtain ⟨_, vs, h1, h2⟩ := h
    exact ⟨(hn rfl).1, vs, h1, h2.mono e⟩
  | dct ks ds =>
    obtain ⟨_, vs, h1, h2, h3⟩ := h
    exact ⟨(hn rfl).1, vs, h1, h2, h3.mono e⟩
  | dcT ks ds =>
    obtain ⟨_, vs, h1, h2, h3⟩ := h
    exact ⟨(hn rfl).1, vs, h1, h2, h3.mono e⟩
  | ins c ns ds =>
    obtain ⟨_, C, dx, vs, us, h1, h2, h3, h4⟩ := h
    refine ⟨(hn rfl).1, C, dx, vs, us, h1, ?_, h3, h4.mono e⟩
    rcases h2 with ⟨g1, g2, g3, g4⟩ | h2
    · exact .inl ⟨g1, g2, g3, (hn rfl).2 _ g3 g4⟩
    · exact .inr h2
  | frz d => exact Den.mono e h
  | dead => trivial
theorem OR.heap {H' : Hp} (k : o.isF = false → Keeps H H' a) (h : OR K F H a o) : OR K F H' a o := by
  cases o with
  | lst ds =>
    obtain ⟨h0, vs, h1, h2⟩ := h
    exact ⟨h0, vs, (k rfl).at_ _ h1, h2⟩
  | dct ks ds =>
    obtain ⟨h0, vs, h1, h2, h3⟩ := h
    exact ⟨h0, vs, (k rfl).at_ _ h1, h2, h3⟩
  | dcT ks ds =>
    obtain ⟨h0, vs, h1, h2, h3⟩ := h
    exact ⟨h0, vs, (k rfl).at_ _ h1, h2, h3⟩
  | ins c ns ds =>
    obtain ⟨h0, C, dx, vs, us, h1, h2, h3, h4⟩ := h
    exact ⟨h0, C, dx, vs, us, h1, h2.keeps (k rfl), h3, h4⟩
  | frz d => exact h
  | dead => trivial
theorem OR.none (hf : o.isF = false) (h : OR K F H a o) : F a = Option.none ∧ ∃ u, H a = some u ∧ MainK u := by
  cases o with
  | lst ds =>
    obtain ⟨h0, vs, h1, h2⟩ := h
    exact ⟨h0, _, h1, main_lst _⟩
  | dct ks ds =>
    obtain ⟨h0, vs, h1, h2, h3⟩ := h
    exact ⟨h0, _, h1, main_dK _⟩
  | dcT ks ds =>
    obtain ⟨h0, vs, h1, h2, h3⟩ := h
    exact ⟨h0, _, h1, main_dT _⟩
  | ins c ns ds =>
    obtain ⟨h0, C, dx, vs, us, h1, h2, h3, h4⟩ := h
    exact ⟨h0, h2.main⟩
  | frz d => cases hf
  | dead => cases hf
theorem Rel.none (r : Rel K M R P F H) (h : H p = Option.none) : F p = Option.none := by
  cases e : F p with
  | none => rfl
  | some o =>
    rw [r.ex _ _ e] at h
    cases h
theorem Rel.live_ne (r : Rel K M R P F H) (h : H p = Option.none) {j i : Nat} (l : live R j i) : M j i ≠ p := fun e => by
  obtain ⟨o, h1, h2⟩ := l
  obtain ⟨_, u, h3, _⟩ := (r.ob j i o h1).none h2
  rw [e, h] at h3
  cases h3
/-- something is laid that is no thing of the store -/
theorem Rel.lay {u : HO} (r : Rel K M R P F H) (h : H p = Option.none) : Rel K M R P F (upd H p u) where
  ex := fun a o e => by
    rw [upd_ne (ne_of_none (r.ex _ _ e) h)]
    exact r.ex _ _ e
  ob := fun j i o e => (r.ob j i o e).heap fun hf => .lay h
  inj := r.inj
  pr := fun q hq => by
    obtain ⟨h1, h2, h3⟩ := r.pr q hq
    refine ⟨?_, h2, h3⟩
    rw [upd_ne (ne_of_none h1 h)]
    exact h1
  pd := r.pd
/-- it may be told from now on -/
theorem Rel.tell {u : HO} (r : Rel K M R P F H) (h : H p = some u) (hn : F p = Option.none) (hl : ∀ j i, live R j i → M j i ≠ p ∧ u ≠ .own (M j i)) (hp : ∀ q ∈ P, q.1 ≠ p) : Ex F (upd F p u) ∧ Rel K M R P (upd F p u) H := by
  have e : Ex F (upd F p u) := Ex.new hn
  refine ⟨e, ⟨fun a o q => ?_, fun j i o q => ?_, r.inj, fun q hq => ?_, r.pd⟩⟩
  · by_cases hap : a = p
    · rw [hap, upd_same] at q
      cases q
      rw [hap]
      exact h
    · rw [upd_ne hap] at q
      exact r.ex _ _ q
  · refine (r.ob j i o q).mono e fun hf => ?_
    have hl := hl j i ⟨o, q, hf⟩
    refine ⟨by rw [upd_ne hl.1]; exact ((r.ob j i o q).none hf).1, fun dx hd hn' => ?_⟩
    rw [upd_ne (ne_of hd h (fun z => hl.2 z.symm))]
    exact hn'
  · obtain ⟨h1, h2, h3⟩ := r.pr q hq
    refine ⟨h1, ?_, h3⟩
    rw [upd_ne (hp q hq)]
    exact h2
theorem Rel.aside_ne (r : Rel K M R P F H) (h : H p = Option.none) : ∀ q ∈ P, q.1 ≠ p := fun q hq => ne_of_none (r.pr q hq).1 h
theorem Rel.layTell {u : HO} (r : Rel K M R P F H) (h : H p = Option.none) (hu : ∀ y, u ≠ .own y) : Ex F (upd F p u) ∧ Rel K M R P (upd F p u) (upd H p u) :=
  (r.lay h).tell upd_same (r.none h) (fun _ _ l => ⟨r.live_ne h l, hu _⟩) (r.aside_ne h)
/-- a new tuple -/
theorem Rel.tup {vs : List V} {ds : List D} (r : Rel K M R P F H) (h : H p = Option.none) (t : DenL K F ds vs) :
    ∃ G, Ex F G ∧ Rel K M R P G (upd H p (.tup vs)) ∧ RVR K M R P G (upd H p (.tup vs)) (.ref p) (.val (.tup ds)) := by
  obtain ⟨e, r'⟩ := r.layTell (u := .tup vs) h (main_tup _).1
  exact ⟨_, e, r', .inr (.tup upd_same (t.mono e))⟩
/-- a new list, still free -/
theorem Rel.lst {vs : List V} {ds : List D} (r : Rel K M R P F H) (h : H p = Option.none) (t : DenL K F ds vs) :
    Rel K M R P F (upd H p (.lst vs)) ∧ RVR K M R P F (upd H p (.lst vs)) (.ref p) (.new (.lst ds)) :=
  ⟨r.lay h, p, rfl, rfl, ⟨r.none h, vs, upd_same, t⟩, fun _ _ l => r.live_ne h l, r.aside_ne h⟩
end

/-- the value of what is told or new -/
def fzO : O → D
  | .lst ds => .lst ds
  | .dct ks ds => .dct ks ds
  | .dcT ks ds => .dcT ks ds
  | .ins c ns ds => .obj c ns ds
  | .frz d => d
  | .dead => .non
def fz : Rv → D
  | .val d => d
  | .new o => fzO o
  | .many ds => .tup ds
section
variable {K : PySem.W.Frag} {M : Mp} {R : Sto} {P : Ps} {F G H : Hp} {d : D} {v : V} {o : O} {a p : Addr}
theorem Rel.fz {rv : Rv} (r : Rel K M R P F H) (h : RVR K M R P F H v rv) : ∃ G, Ex F G ∧ Rel K M R P G H ∧ Vr K M G (fz rv) v := by
  cases rv with
  | val d => exact ⟨F, .refl F, r, h⟩
  | many _ => exact h.elim
  | new o =>
    obtain ⟨p, rfl, hf, h1, h2, h2p⟩ := h
    cases o with
    | frz d => cases hf
    | dead => cases hf
    | lst ds =>
      obtain ⟨h0, vs, h3, h4⟩ := h1
      obtain ⟨e, r'⟩ := r.tell h3 h0 (fun j i l => ⟨h2 j i l, (main_lst _).1 _⟩) h2p
      exact ⟨_, e, r', .inr (.lst upd_same (h4.mono e))⟩
    | dct ks ds =>
      obtain ⟨h0, vs, h3, h4, h5⟩ := h1
      obtain ⟨e, r'⟩ := r.tell h3 h0 (fun j i l => ⟨h2 j i l, (main_dK _).1 _⟩) h2p
      exact ⟨_, e, r', .inr (.dct upd_same h4 (h5.mono e))⟩
    | dcT ks ds =>
      obtain ⟨h0, vs, h3, h4, h5⟩ := h1
      obtain ⟨e, r'⟩ := r.tell h3 h0 (fun j i l => ⟨h2 j i l, (main_dT _).1 _⟩) h2p
      exact ⟨_, e, r', .inr (.dcT upd_same h4 (h5.mono e))⟩
    | ins c ns ds =>
      obtain ⟨h0, C, dx, vs, us, hc, hs, hsl, hd⟩ := h1
      rcases hs with ⟨g1, g2, g3, g4⟩ | ⟨g1, g2⟩
      · obtain ⟨e1, r1⟩ := r.tell g3 g4 (fun j i l => by
            obtain ⟨o', q1, q2⟩ := l
            obtain ⟨_, w, hw, m⟩ := (r.ob j i o' q1).none q2
            exact ⟨ne_of hw g3 (m.1 _), fun z => by injection z with z; exact h2 j i ⟨o', q1, q2⟩ z.symm⟩) (fun q hq => by
            obtain ⟨z1, _, z3, _⟩ := r.pr q hq
            exact ne_of z1 g3 (z3.1 _))
        have h0' : upd F dx (.own p) p = Option.none := by rw [upd_ne (ne_of g1 g3 (fun z => nomatch z))]; exact h0
        obtain ⟨e2, r2⟩ := r1.tell g1 h0' (fun j i l => ⟨h2 j i l, (main_ins _ _).1 _⟩) h2p
        refine ⟨_, e1.trans e2, r2, .inr (.obj hc (.inl ⟨upd_same, g2, ?_⟩) hsl (hd.mono (e1.trans e2)))⟩
        exact e2 _ _ upd_same
      · by_cases hx : F dx = Option.none
        · obtain ⟨e1, r1⟩ := r.tell g2 hx (fun j i l => by
              obtain ⟨o', q1, q2⟩ := l
              obtain ⟨_, w, hw, m⟩ := (r.ob j i o' q1).none q2
              exact ⟨ne_of hw g2 (m.2 _), fun z => nomatch z⟩) (fun q hq => by
              obtain ⟨z1, _, z3, _⟩ := r.pr q hq
              exact ne_of z1 g2 (z3.2 _))
          have h0' : upd F dx (.xd []) p = Option.none := by rw [upd_ne (ne_of g1 g2 ((main_slo _ _ _ _).2 _))]; exact h0
          obtain ⟨e2, r2⟩ := r1.tell g1 h0' (fun j i l => ⟨h2 j i l, (main_slo _ _ _ _).1 _⟩) h2p
          refine ⟨_, e1.trans e2, r2, .inr (.obj hc (.inr ⟨upd_same, ?_⟩) hsl (hd.mono (e1.trans e2)))⟩
          exact e2 _ _ upd_same
        · have hx' : F dx = some (.xd []) := by
            cases q : F dx with
            | none => exact absurd q hx
            | some w =>
              have := r.ex _ _ q
              rw [g2] at this
              cases this
              rfl
          obtain ⟨e2, r2⟩ := r.tell g1 h0 (fun j i l => ⟨h2 j i l, (main_slo _ _ _ _).1 _⟩) h2p
          exact ⟨_, e2, r2, .inr (.obj hc (.inr ⟨upd_same, e2 _ _ hx'⟩) hsl (hd.mono e2))⟩
theorem sget_set_same {j i : Nat} {o u : O} (h : sget R j i = some u) : sget (sset R j i o) j i = some o := by
  unfold sget sset at *
  have hj : j < R.length := by
    by_cases hj : j < R.length
    · exact hj
    · rw [List.getD_eq_getElem?_getD, List.getElem?_eq_none (Nat.le_of_not_lt hj)] at h
      simp at h
  have e : (R.set j ((R.getD j []).set i o)).getD j [] = (R.getD j []).set i o := by
    rw [List.getD_eq_getElem?_getD, List.getElem?_set_self hj]
    rfl
  rw [e]
  have hi := (List.getElem?_eq_some_iff.mp h).1
  rw [List.getElem?_set_self hi]
theorem sget_set_ne {j i j' i' : Nat} {o : O} (h : ¬ (j' = j ∧ i' = i)) : sget (sset R j i o) j' i' = sget R j' i' := by
  unfold sget sset
  by_cases hj : j' = j
  · subst hj
    have hi : i' ≠ i := fun e => h ⟨rfl, e⟩
    by_cases hl : j' < R.length
    · have e : (R.set j' ((R.getD j' []).set i o)).getD j' [] = (R.getD j' []).set i o := by
        rw [List.getD_eq_getElem?_getD, List.getElem?_set_self hl]
        rfl
      rw [e, List.getElem?_set_ne (Ne.symm hi)]
    · rw [List.set_eq_of_length_le (Nat.le_of_not_lt hl)]
  · have e : (R.set j ((R.getD j []).set i o)).getD j' [] = R.getD j' [] := by
      rw [List.getD_eq_getElem?_getD, List.getElem?_set_ne (Ne.symm hj), ← List.getD_eq_getElem?_getD]
    rw [e]
theorem live_set {j i j' i' : Nat} {o u : O} (hu : sget R j i = some u) (hf : u.isF = true → o.isF = true) (l : live (sset R j i o) j' i') : live R j' i' := by
  obtain ⟨w, h1, h2⟩ := l
  by_cases e : j' = j ∧ i' = i
  · obtain ⟨rfl, rfl⟩ := e
    rw [sget_set_same hu] at h1
    cases h1
    refine ⟨u, hu, ?_⟩
    cases q : u.isF with
    | false => rfl
    | true => rw [hf q] at h2; cases h2
  · rw [sget_set_ne e] at h1
    exact ⟨w, h1, h2⟩
/-- a thing of the store changes -/
theorem Rel.put {j i : Nat} {o u : O} {w : HO} (r : Rel K M R P F H) (hu : sget R j i = some u) (hf : u.isF = false) (hof : o.isF = false)
    (h : OR K F (upd H (M j i) w) (M j i) o) : Rel K M (sset R j i o) P F (upd H (M j i) w) where
  ex := fun a q e => by
    have hn := ((r.ob j i u hu).none hf).1
    rw [upd_ne (ne_of_none e hn)]
    exact r.ex _ _ e
  ob := fun j' i' q e => by
    by_cases z : j' = j ∧ i' = i
    · obtain ⟨rfl, rfl⟩ := z
      rw [sget_set_same hu] at e
      cases e
      exact h
    · rw [sget_set_ne z] at e
      refine (r.ob j' i' q e).heap fun hq => ?_
      have ne : M j' i' ≠ M j i := fun q' => z (r.inj j' i' j i ⟨q, e, hq⟩ ⟨u, hu, hf⟩ q')
      obtain ⟨_, x, hx, m⟩ := (r.ob j i u hu).none hf
      exact .put hx m ne
  inj := fun j1 i1 j2 i2 l1 l2 e => r.inj j1 i1 j2 i2 (live_set hu (fun z => by rw [hf] at z; cases z) l1) (live_set hu (fun z => by rw [hf] at z; cases z) l2) e
  pr := fun q hq => by
    obtain ⟨h1, h2, hm, h3⟩ := r.pr q hq
    refine ⟨?_, h2, hm, fun j' i' l => h3 j' i' (live_set hu (fun z => by rw [hf] at z; cases z) l)⟩
    rw [upd_ne (Ne.symm (h3 j i ⟨u, hu, hf⟩))]
    exact h1
  pd := r.pd
/-- a thing of the store is forgotten -/
theorem Rel.kill {j i : Nat} {u : O} (r : Rel K M R P F H) (hu : sget R j i = some u) : Rel K M (sset R j i .dead) P F H := by
  refine ⟨r.ex, fun j' i' o q => ?_, fun j1 i1 j2 i2 l1 l2 q => r.inj _ _ _ _ (live_set hu (fun _ => rfl) l1) (live_set hu (fun _ => rfl) l2) q, fun q hq => ?_, r.pd⟩
  · by_cases z : j' = j ∧ i' = i
    · obtain ⟨rfl, rfl⟩ := z
      rw [sget_set_same hu] at q
      cases q
      trivial
    · rw [sget_set_ne z] at q
      exact r.ob j' i' o q
  · obtain ⟨h1, h2, hm, h3⟩ := r.pr q hq
    exact ⟨h1, h2, hm, fun j' i' l => h3 j' i' (live_set hu (fun _ => rfl) l)⟩
theorem Rel.frzAt {j i : Nat} {u : O} (r : Rel K M R P F H) (hu : sget R j i = some u) (hd : Den K F d (.ref (M j i))) : Rel K M (sset R j i (.frz d)) P F H := by
  refine ⟨r.ex, fun j' i' o q => ?_, fun j1 i1 j2 i2 l1 l2 q => r.inj _ _ _ _ (live_set hu (fun _ => rfl) l1) (live_set hu (fun _ => rfl) l2) q, fun q hq => ?_, r.pd⟩
  · by_cases z : j' = j ∧ i' = i
    · obtain ⟨rfl, rfl⟩ := z
      rw [sget_set_same hu] at q
      cases q
      exact hd
    · rw [sget_set_ne z] at q
      exact r.ob j' i' o q
  · obtain ⟨h1, h2, hm, h3⟩ := r.pr q hq
    exact ⟨h1, h2, hm, fun j' i' l => h3 j' i' (live_set hu (fun _ => rfl) l)⟩
theorem sset_sset {j i : Nat} {o u : O} : sset (sset R j i o) j i u = sset R j i u := by
  unfold sset
  by_cases hj : j < R.length
  · have e : (R.set j ((R.getD j []).set i o)).getD j [] = (R.getD j []).set i o := by
      rw [List.getD_eq_getElem?_getD, List.getElem?_set_self hj]
      rfl
    rw [e, List.set_set, List.set_set]
  · rw [List.set_eq_of_length_le (Nat.le_of_not_lt hj), List.set_eq_of_length_le (Nat.le_of_not_lt hj)]
theorem fz_den {o : O} (hf : o.isF = false) {a : Addr} (h : Vr K M F (fz (.new o)) (.ref a)) : Den K F (fzO o) (.ref a) := by
  rcases h with ⟨j, i, e, _⟩ | h
  · cases o <;> cases e <;> cases hf
  · exact h
/-- a thing of the store may change no more -/
theorem Rel.freeze {j i : Nat} {u : O} (r : Rel K M R P F H) (hu : sget R j i = some u) (hf : u.isF = false) :
    ∃ G, Ex F G ∧ Rel K M (sset R j i (.frz (fzO u))) P G H ∧ Den K G (fzO u) (.ref (M j i)) := by
  have r1 := r.kill hu
  have hu1 : sget (sset R j i .dead) j i = some .dead := sget_set_same hu
  have nl : ∀ j' i', live (sset R j i .dead) j' i' → M j' i' ≠ M j i := fun j' i' l e => by
    have l' := live_set hu (fun _ => rfl) l
    obtain ⟨e1, e2⟩ := r.inj j' i' j i l' ⟨u, hu, hf⟩ e
    subst e1
    subst e2
    obtain ⟨w, q1, q2⟩ := l
    rw [hu1] at q1
    cases q1
    cases q2
  obtain ⟨G, e, r2, hv⟩ := r1.fz (rv := .new u) (v := .ref (M j i)) ⟨M j i, rfl, hf, r.ob j i u hu, nl, fun q hq z => (r.pr q hq).2.2.2 j i ⟨u, hu, hf⟩ z.symm⟩
  have hd := fz_den hf hv
  have r3 := r2.frzAt hu1 hd
  rw [sset_sset] at r3
  exact ⟨G, e, r3, hd⟩
/-- a new thing stands aside; it changes; it comes back -/
theorem Rel.aside {p : Addr} {u : HO} (r : Rel K M R P F H) (h : H p = Option.none) (hm : MainK u) : Rel K M R ((p, u) :: P) F (upd H p u) := by
  have r' := r.lay (u := u) h
  refine ⟨r'.ex, r'.ob, r'.inj, fun q hq => ?_, ?_⟩
  · rcases List.mem_cons.mp hq with e | hq
    · subst e
      exact ⟨upd_same, r.none h, hm, fun j i l => r.live_ne h l⟩
    · exact r'.pr q hq
  · rw [List.map_cons, List.nodup_cons]
    refine ⟨fun z => ?_, r.pd⟩
    obtain ⟨q, hq, e⟩ := List.mem_map.mp z
    exact r.aside_ne h q hq e
theorem Rel.turn {p : Addr} {u w : HO} (r : Rel K M R ((p, u) :: P) F H) (hm : MainK w) : Rel K M R ((p, w) :: P) F (upd H p w) := by
  obtain ⟨h1, h2, m, h3⟩ := r.pr (p, u) List.mem_cons_self
  have nd := List.nodup_cons.mp r.pd
  refine ⟨fun a o e => ?_, fun j i o e => (r.ob j i o e).heap fun hf => .put h1 m (h3 j i ⟨o, e, hf⟩), r.inj, fun q hq => ?_, r.pd⟩
  · rw [upd_ne (ne_of_none e h2)]
    exact r.ex _ _ e
  · rcases List.mem_cons.mp hq with e | hq
    · subst e
      exact ⟨upd_same, h2, hm, h3⟩
    · obtain ⟨g1, g2, gm, g3⟩ := r.pr q (List.mem_cons_of_mem _ hq)
      refine ⟨?_, g2, gm, g3⟩
      have ne : q.1 ≠ p := fun z => nd.1 (List.mem_map.mpr ⟨q, hq, z⟩)
      rw [upd_ne ne]
      exact g1
theorem Rel.back {p : Addr} {u : HO} (r : Rel K M R ((p, u) :: P) F H) : Rel K M R P F H ∧ H p = some u ∧ F p = Option.none ∧ (∀ j i, live R j i → M j i ≠ p) ∧ ∀ q ∈ P, q.1 ≠ p := by
  obtain ⟨h1, h2, _, h3⟩ := r.pr (p, u) List.mem_cons_self
  have nd := List.nodup_cons.mp r.pd
  exact ⟨⟨r.ex, r.ob, r.inj, fun q hq => r.pr q (List.mem_cons_of_mem _ hq), nd.2⟩, h1, h2, h3, fun q hq z => nd.1 (List.mem_map.mpr ⟨q, hq, z⟩)⟩
theorem Rel.backL {p : Addr} {vs : List V} {ds : List D} (r : Rel K M R ((p, .lst vs) :: P) F H) (t : DenL K F ds vs) : Rel K M R P F H ∧ RVR K M R P F H (.ref p) (.new (.lst ds)) := by
  obtain ⟨r', h1, h2, h3, h4⟩ := r.back
  exact ⟨r', p, rfl, rfl, ⟨h2, vs, h1, t⟩, h3, h4⟩
/-- a new instance, at a place of a new frame -/
theorem Rel.pushNew {c : Nat} {C x dx : Addr} (r : Rel K M R P F H) (hc : ClsA K c C) (h1 : H x = Option.none) (h2 : H dx = Option.none) (hne : dx ≠ x) :
    Rel K (fun j i => match j with | 0 => x | j + 1 => M j i) ([.ins c [] []] :: R) P F (upd (upd H dx (.own x)) x (.ins C dx [])) := by
  have h1' : upd H dx (.own x) x = Option.none := by rw [upd_ne (Ne.symm hne)]; exact h1
  have r' := (r.lay (u := .own x) h2).lay (u := .ins C dx []) h1'
  have l0 : ∀ {i}, live ([.ins c [] []] :: R) 0 i → i = 0 := fun {i} ⟨o, q, _⟩ => by
    cases i with
    | zero => rfl
    | succ i => simp [sget] at q
  have lS : ∀ {j i}, live ([.ins c [] []] :: R) (j + 1) i → live R j i := fun {j i} ⟨o, q, f⟩ => ⟨o, q, f⟩
  refine ⟨r'.ex, fun j i o e => ?_, fun j1 i1 j2 i2 l1 l2 e => ?_, fun q hq => ?_, r.pd⟩
  · cases j with
    | zero =>
      cases i with
      | zero =>
        have e : some (O.ins c [] []) = some o := e
        cases e
        refine ⟨r.none h1, C, dx, [], [], hc, .inl ⟨upd_same, rfl, ?_, r.none h2⟩, ⟨rfl, fun j f u q => by simp at q⟩, .nil⟩
        rw [upd_ne hne, upd_same]
      | succ i => simp [sget] at e
    | succ j => exact r'.ob j i o e
  · cases j1 with
    | zero =>
      cases j2 with
      | zero => exact ⟨rfl, (l0 l1).trans (l0 l2).symm⟩
      | succ j2 => exact absurd e.symm (r.live_ne h1 (lS l2))
    | succ j1 =>
      cases j2 with
      | zero => exact absurd e (r.live_ne h1 (lS l1))
      | succ j2 =>
        obtain ⟨z1, z2⟩ := r.inj j1 i1 j2 i2 (lS l1) (lS l2) e
        exact ⟨by rw [z1], z2⟩
  · obtain ⟨g1, g2, gm, g3⟩ := r'.pr q hq
    refine ⟨g1, g2, gm, fun j i l => ?_⟩
    cases j with
    | zero => exact fun z => r.aside_ne h1 q hq z.symm
    | succ j => exact g3 j i (lS l)
/-- a slot of an instance of the store is stored -/
theorem Rel.slot {j i : Nat} {c : Nat} {ns ns' : List Nat} {ds ds' : List D} {C dx : Addr} {vs vs' : List (Option V)} {us' : List V} (r : Rel K M R P F H) (hu : sget R j i = some (.ins c ns ds)) (hc : ClsA K c C) (hs : SloL F H (M j i) C dx vs)
    (hsl : Slots K C ns' vs' us') (hd : DenL K F ds' us') (ne : dx ≠ M j i) : Rel K M (sset R j i (.ins c ns' ds')) P F (SlX.slH H (M j i) C dx vs') := by
  have hf : (O.ins c ns ds).isF = false := rfl
  have hF : F (M j i) = Option.none := ((r.ob j i _ hu).none hf).1
  obtain ⟨w, hw, m⟩ := hs.main
  have hdx : (H dx = some (.own (M j i)) ∧ F dx = Option.none) ∨ H dx = some (.xd []) := by
    rcases hs with ⟨_, _, g3, g4⟩ | ⟨_, g2⟩
    · exact .inl ⟨g3, g4⟩
    · exact .inr g2
  have at_ : ∀ b, b ≠ M j i → b ≠ dx → SlX.slH H (M j i) C dx vs' b = H b := fun b z1 z2 => SlX.slH_ne z1 z2
  have atX : SlX.slH H (M j i) C dx vs' dx = some (.xd []) := by
    unfold SlX.slH
    rw [upd_ne ne, upd_same]
  have mn : ∀ b u, H b = some u → MainK u → b ≠ dx := fun b u e mu => by
    rcases hdx with ⟨g, _⟩ | g
    · exact ne_of e g (mu.1 _)
    · exact ne_of e g (mu.2 _)
  have kp : ∀ a, a ≠ M j i → (∃ u, H a = some u ∧ MainK u) → Keeps H (SlX.slH H (M j i) C dx vs') a := fun a ha ⟨u, hu, mu⟩ => by
    refine ⟨fun u' e => ?_, fun d e => ?_, fun d e => ?_⟩
    · have : u' = u := by rw [hu] at e; exact (Option.some.inj e).symm
      subst this
      rw [at_ a ha (mn a _ hu mu)]
      exact e
    · rw [at_ d (ne_of e hw (fun z => m.1 _ z.symm)) (fun z => ?_)]
      · exact e
      · rw [z] at e
        rcases hdx with ⟨g, _⟩ | g
        · rw [g] at e
          injection e with e
          injection e with e
          exact ha e.symm
        · rw [g] at e
          cases e
    · by_cases z : d = dx
      · rw [z]
        exact atX
      · rw [at_ d (ne_of e hw (fun z => m.2 _ z.symm)) z]
        exact e
  refine ⟨fun a o e => ?_, fun j' i' o q => ?_, fun j1 i1 j2 i2 l1 l2 e => r.inj j1 i1 j2 i2 (live_set hu (fun z => by cases z) l1) (live_set hu (fun z => by cases z) l2) e, fun q hq => ?_, r.pd⟩
  · have h1 := r.ex _ _ e
    by_cases z : a = dx
    · subst z
      rcases hdx with ⟨_, g⟩ | g
      · rw [g] at e; cases e
      · rw [g] at h1
        rw [atX]
        exact h1
    · rw [at_ a (ne_of_none e hF) z]
      exact h1
  · by_cases z : j' = j ∧ i' = i
    · obtain ⟨rfl, rfl⟩ := z
      rw [sget_set_same hu] at q
      cases q
      exact ⟨hF, C, dx, vs', us', hc, .inr ⟨upd_same, atX⟩, hsl, hd⟩
    · rw [sget_set_ne z] at q
      refine (r.ob j' i' o q).heap fun hq => kp _ (fun q' => z (r.inj j' i' j i ⟨o, q, hq⟩ ⟨_, hu, hf⟩ q')) ((r.ob j' i' o q).none hq).2
  · obtain ⟨h1, h2, hm, h3⟩ := r.pr q hq
    refine ⟨?_, h2, hm, fun j' i' l => h3 j' i' (live_set hu (fun z => by cases z) l)⟩
    rw [at_ q.1 (Ne.symm (h3 j i ⟨_, hu, hf⟩)) (mn _ _ h1 hm)]
    exact h1
end

/-- a value that may lie in another one -/
def byv : D → Sto → Option (D × Sto)
  | .ref j i, R => match sget R j i with
    | some (.frz d) => some (d, R)
    | some .dead => none
    | some u => some (fzO u, sset R j i (.frz (fzO u)))
    | none => none
  | d, R => some (d, R)
def byvL : List D → Sto → Option (List D × Sto)
  | [], R => some ([], R)
  | d :: ds, R => match byv d R with
    | some (d', R1) => match byvL ds R1 with
      | some (ds', R2) => some (d' :: ds', R2)
      | none => none
    | none => none
section
variable {K : PySem.W.Frag} {M : Mp} {R R' : Sto} {P : Ps} {F G H : Hp} {d d' : D} {v : V} {ds ds' : List D} {vs : List V}
theorem Rel.byv (r : Rel K M R P F H) (h : Vr K M F d v) (e : byv d R = some (d', R')) : ∃ G, Ex F G ∧ Rel K M R' P G H ∧ Den K G d' v := by
  have plain : (∀ j i, d ≠ .ref j i) → some (d, R) = some (d', R') → ∃ G, Ex F G ∧ Rel K M R' P G H ∧ Den K G d' v := fun hd e => by
    cases e
    rcases h with ⟨j, i, e, _⟩ | h
    · exact (hd j i e).elim
    · exact ⟨F, .refl F, r, h⟩
  cases d with
  | ref j i =>
    have hv := h.ref
    subst hv
    cases q : sget R j i with
    | none => simp only [EV.byv, q] at e; cases e
    | some u =>
      simp only [EV.byv, q] at e
      have live : u.isF = false → some (fzO u, sset R j i (.frz (fzO u))) = some (d', R') → ∃ G, Ex F G ∧ Rel K M R' P G H ∧ Den K G d' (.ref (M j i)) := fun hf e => by
        cases e
        exact r.freeze q hf
      cases u with
      | dead => cases e
      | frz d =>
        cases e
        exact ⟨F, .refl F, r, r.ob j i _ q⟩
      | lst ds => exact live rfl e
      | dct ks ds => exact live rfl e
      | dcT ks ds => exact live rfl e
      | ins c ns ds => exact live rfl e
  | _ => exact plain (fun _ _ z => nomatch z) e
inductive VrL (K : PySem.W.Frag) (M : Mp) (F : Hp) : List D → List V → Prop
  | nil : VrL K M F [] []
  | cons {d : D} {v : V} {ds : List D} {vs : List V} : Vr K M F d v → VrL K M F ds vs → VrL K M F (d :: ds) (v :: vs)
theorem VrL.mono (e : Ex F G) : ∀ {ds : List D} {vs : List V}, VrL K M F ds vs → VrL K M G ds vs
  | _, _, .nil => .nil
  | _, _, .cons h t => .cons (h.mono e) (VrL.mono e t)
theorem VrL.length : ∀ {ds : List D} {vs : List V}, VrL K M F ds vs → vs.length = ds.length
  | _, _, .nil => rfl
  | _, _, .cons _ t => by rw [List.length_cons, List.length_cons, VrL.length t]
theorem Rel.byvL : ∀ {ds ds' : List D} {vs : List V} {R R' : Sto} {F : Hp}, Rel K M R P F H → VrL K M F ds vs → byvL ds R = some (ds', R') → ∃ G, Ex F G ∧ Rel K M R' P G H ∧ DenL K G ds' vs
  | [], _, _, _, _, F, r, .nil, e => by
    cases e
    exact ⟨F, .refl F, r, .nil⟩
  | d :: ds, ds', _, R, R', F, r, .cons h t, e => by
    unfold EV.byvL at e
    cases q : EV.byv d R with
    | none => rw [q] at e; cases e
    | some p =>
      obtain ⟨d1, R1⟩ := p
      rw [q] at e
      dsimp only at e
      obtain ⟨G, g1, g2, g3⟩ := r.byv h q
      cases q2 : EV.byvL ds R1 with
      | none => rw [q2] at e; cases e
      | some p =>
        obtain ⟨ds2, R2⟩ := p
        rw [q2] at e
        cases e
        obtain ⟨G', g4, g5, g6⟩ := Rel.byvL g2 (t.mono g1) q2
        exact ⟨G', g1.trans g4, g5, .cons (g3.mono g4) g6⟩
end
end EV

/-! EvO: what operators and built-in functions do with plain values, and that the machine does so. -/
namespace EV
open PySem PySem.Spec PyProof.Rows L2

/-- how a piece of a run ends: a value and the store; an error; or beyond what is told here -/
inductive Out (α : Type) where
  | ok (a : α) (R : Sto) | exc (e : D) (R : Sto) | bad
def Pst (K : PySem.W.Frag) (M : Mp) (P : Ps) (F : Hp) (rv : Rv) (R : Sto) (Q : VK) : Prop := ∀ v F' H', Ex F F' → Rel K M R P F' H' → RVR K M R P F' H' v rv → Q v H'
section
variable {K : PySem.W.Frag} {M : Mp} {R R' : Sto} {P : Ps} {F G H : Hp} {d d' x y : D} {v vx vy : V} {ds ds' : List D} {vs : List V} {Q : VK} {rv : Rv}
theorem Pst.val (p : Pst K M P F (.val d) R Q) (r : Rel K M R P F H) (h : Den K F d v) : Q v H := p v F H (.refl F) r (.inr h)
/-- a new tuple, a new list, a new dict at any free place -/
theorem Pst.tup (p : Pst K M P F (.val (.tup ds)) R Q) (r : Rel K M R P F H) (h : DenL K F ds vs) : ∀ a, H a = none → Q (.ref a) (upd H a (.tup vs)) := fun a ha => by
  obtain ⟨G, e, r', h'⟩ := r.tup ha h
  exact p _ G _ e r' h'
theorem Pst.lst (p : Pst K M P F (.new (.lst ds)) R Q) (r : Rel K M R P F H) (h : DenL K F ds vs) : ∀ a, H a = none → Q (.ref a) (upd H a (.lst vs)) := fun a ha => by
  obtain ⟨r', h'⟩ := r.lst ha h
  exact p _ F _ (.refl F) r' h'
end

/-! ### lists and tuples that are read -/
def asL (R : Sto) : D → Option (List D)
  | .lst ds => some ds
  | .ref j i => match sget R j i with
    | some (.lst ds) => some ds
    | some (.frz (.lst ds)) => some ds
    | _ => none
  | _ => none
/-- any sequence but a text: whether it is a list -/
def asS (R : Sto) : D → Option (Bool × List D)
  | .tup ds => some (false, ds)
  | .ktp ds => some (false, ds)
  | .scr ds => some (true, ds)
  | d => (asL R d).map fun ds => (true, ds)
section
variable {K : PySem.W.Frag} {M : Mp} {R : Sto} {P : Ps} {F H : Hp} {d : D} {v : V} {ds : List D}
theorem Rel.asL (r : Rel K M R P F H) (h : Vr K M F d v) (e : asL R d = some ds) : ∃ a vs, v = .ref a ∧ H a = some (.lst vs) ∧ DenL K F ds vs := by
  cases d with
  | lst es =>
    cases e
    obtain ⟨a, vs, rfl, h1, h2⟩ := h.lst
    exact ⟨a, vs, rfl, r.ex _ _ h1, h2⟩
  | ref j i =>
    have hv := h.ref
    subst hv
    cases q : sget R j i with
    | none => simp only [EV.asL, q] at e; cases e
    | some u =>
      have h1 := r.ob j i u q
      cases u with
      | lst es =>
        simp only [EV.asL, q] at e
        cases e
        obtain ⟨_, vs, h2, h3⟩ := h1
        exact ⟨_, vs, rfl, h2, h3⟩
      | dct _ _ => simp only [EV.asL, q] at e; cases e
      | dcT _ _ => simp only [EV.asL, q] at e; cases e
      | ins _ _ _ => simp only [EV.asL, q] at e; cases e
      | dead => simp only [EV.asL, q] at e; cases e
      | frz d =>
        cases d with
        | lst es =>
          simp only [EV.asL, q] at e
          cases e
          have h2 : Den K F (.lst ds) (.ref (M j i)) := h1
          cases h2 with
          | lst h3 h4 => exact ⟨_, _, rfl, r.ex _ _ h3, h4⟩
        | _ => simp only [EV.asL, q] at e; cases e
  | _ => cases e
theorem Rel.asS (r : Rel K M R P F H) (h : Vr K M F d v) {b : Bool} (e : asS R d = some (b, ds)) : ∃ a vs, v = .ref a ∧ DenL K F ds vs ∧ if b = true then SqL K H a vs else SqT K H a vs := by
  have key : (EV.asL R d).map (fun ds => (true, ds)) = some (b, ds) → ∃ a vs, v = .ref a ∧ DenL K F ds vs ∧ if b = true then SqL K H a vs else SqT K H a vs := fun e => by
    cases q : EV.asL R d with
    | none => rw [q] at e; cases e
    | some es =>
      rw [q] at e
      cases e
      obtain ⟨a, vs, rfl, h1, h2⟩ := r.asL h q
      exact ⟨a, vs, rfl, h2, .inl (.inl h1)⟩
  cases d with
  | tup es =>
    cases e
    obtain ⟨a, vs, rfl, h1, h2⟩ := h.tup
    exact ⟨a, vs, rfl, h2, r.ex.sqT h1⟩
  | ktp es =>
    cases e
    obtain ⟨a, vs, rfl, h1, h2⟩ := h.ktp
    exact ⟨a, vs, rfl, h2, r.ex.sqT h1⟩
  | scr es =>
    cases e
    obtain ⟨a, vs, rfl, h1, h2⟩ := h.scr
    exact ⟨a, vs, rfl, h2, r.ex.sqL h1⟩
  | _ => exact key e
theorem Rel.asS_len (r : Rel K M R P F H) (h : Vr K M F d v) {b : Bool} (e : EV.asS R d = some (b, ds)) : ∃ a vs, v = .ref a ∧ DenL K F ds vs ∧ (SqL K H a vs ∨ SqT K H a vs) := by
  obtain ⟨a, vs, e1, h1, h2⟩ := r.asS h e
  cases b with
  | true => exact ⟨a, vs, e1, h1, .inl h2⟩
  | false => exact ⟨a, vs, e1, h1, .inr h2⟩
end
theorem sz_of {n : Nat} (h : n ≤ 100000) : n ≤ sizeLine := Nat.le_trans h (by decide)
theorem sz_lt {n : Nat} (h : n < 100000) : n < sizeLine := Nat.lt_of_lt_of_le h (by decide)

/-! ### operators -/
def mulOk (i j : Int) : Bool := decide (i.natAbs.log2 + j.natAbs.log2 < 1000000)
def divOk (j : Int) : Bool := decide (j ≠ 0 ∧ j.natAbs.log2 < 9000)
def powOk (i j : Int) : Bool := decide (0 ≤ j ∧ (i.natAbs.log2 + 1) * j.toNat ≤ 1000000)
def binop (o : Operator) (x y : D) (R : Sto) : Out Rv :=
  match o, x, y with
  | .Add, .int i, .int j => .ok (.val (.int (i + j))) R
  | .Sub, .int i, .int j => .ok (.val (.int (i - j))) R
  | .Mult, .int i, .int j => if mulOk i j then .ok (.val (.int (i * j))) R else .bad
  | .FloorDiv, .int i, .int j => if divOk j then .ok (.val (.int (i.fdiv j))) R else .bad
  | .Mod, .int i, .int j => if j = 0 then .bad else .ok (.val (.int (i.fmod j))) R
  | .Pow, .int i, .int j => if powOk i j then .ok (.val (.int (i ^ j.toNat))) R else .bad
  | .Add, .str a, .str b => if a.length + b.length ≤ 100000 then .ok (.val (.str (a ++ b))) R else .bad
  | .Add, .tup as, .tup bs => if as.length + bs.length ≤ 100000 then .ok (.val (.tup (as ++ bs))) R else .bad
  | .Add, x, y => match asL R x, asL R y with
    | some as, some bs => if as.length + bs.length ≤ 100000 then .ok (.new (.lst (as ++ bs))) R else .bad
    | _, _ => .bad
  | .Mult, x, .int k => match asL R x with
    | some as => if 0 ≤ k ∧ k ≤ 100000 ∧ as.length * k.toNat ≤ 100000 then .ok (.new (.lst ((List.replicate k.toNat as).flatten))) R else .bad
    | none => .bad
  | _, _, _ => .bad
section
variable {X : Cx} {M : Mp} {R R' : Sto} {P : Ps} {F H : Hp} {x y : D} {vx vy : V} {rv : Rv} {Q : VK}
/-- what an operator's rule asks is there -/
def OpS (X : Cx) (f : Value → Value → Sem Value) (x y : D) (R : Sto) (rv : Rv) (R' : Sto) : Prop :=
  ∃ r, OpR X f r ∧ ∀ (M : Mp) (P : Ps) (F H : Hp) (vx vy : V) (Q : VK), Rel X.K M R P F H → Vr X.K M F x vx → Vr X.K M F y vy → Pst X.K M P F rv R' Q → r vx vy H Q
theorem op_fdivE : OpR X (binaryOp .FloorDiv) (rI (fun _ j => j ≠ 0 ∧ j.natAbs.log2 < 9000) fun i j => .int (i.fdiv j)) := opI fun i j _ _ _ _ _ hc q =>
  floordiv_int hc.1 q (.inl (PyProof.noPylong_of_log2 hc.2))
theorem iop_fdivE : OpR X (inplaceOp .FloorDiv) (rI (fun _ j => j ≠ 0 ∧ j.natAbs.log2 < 9000) fun i j => .int (i.fdiv j)) := opI fun i j _ _ _ _ _ hc q =>
  ifloordiv_int hc.1 q (.inl (PyProof.noPylong_of_log2 hc.2))
theorem iop_mulW : OpR X (inplaceOp .Mult) (rI CMulW fun i j => .int (i * j)) := opI fun _ _ _ _ _ _ _ hc q => imul_int q hc.ok
theorem bits_le (i : Int) : Builtin.Int.intBits i ≤ i.natAbs.log2 + 1 := by
  unfold Builtin.Int.intBits
  split <;> omega
theorem op_powE : OpR X (binaryOp .Pow) (rI (fun i j => 0 ≤ j ∧ (i.natAbs.log2 + 1) * j.toNat ≤ 1000000) fun i j => .int (i ^ j.toNat)) := opI fun i j _ _ _ _ _ hc q => by
  refine pow_int hc.1 ?_ q
  have h1 := bits_le i
  have h2 : Builtin.Int.intBits i * j.toNat ≤ 1000000 := Nat.le_trans (Nat.mul_le_mul_right _ h1) hc.2
  have h3 : ((Builtin.Int.intBits i * j.toNat : Nat) : Int) ≤ ((1000000 : Nat) : Int) := Int.ofNat_le.mpr h2
  rw [Int.natCast_mul, Int.toNat_of_nonneg hc.1] at h3
  have h4 : ((1000000 : Nat) : Int) ≤ 2 ^ 27 := by decide
  exact Int.le_trans h3 h4
theorem mulOk_ok {i j : Int} (h : mulOk i j = true) : CMulW i j := of_decide_eq_true (p := i.natAbs.log2 + j.natAbs.log2 < 1000000) h
theorem opS_I {f : Value → Value → Sem Value} {C : Int → Int → Prop} {g : Int → Int → Int} (h : OpR X f (rI C fun i j => .int (g i j))) {i j : Int} (hc : C i j) (R : Sto) : OpS X f (.int i) (.int j) R (.val (.int (g i j))) R :=
  ⟨_, h, fun M P F H vx vy Q r hx hy p => by
    cases hx.int
    cases hy.int
    exact ⟨i, j, rfl, rfl, hc, p.val r (.int _)⟩⟩
theorem opS_I0 {f : Value → Value → Sem Value} {g : Int → Int → Int} (h : OpR X f (rI0 fun i j => .int (g i j))) (i j : Int) (R : Sto) : OpS X f (.int i) (.int j) R (.val (.int (g i j))) R :=
  ⟨_, h, fun M P F H vx vy Q r hx hy p => by
    cases hx.int
    cases hy.int
    exact ⟨i, j, rfl, rfl, p.val r (.int _)⟩⟩
theorem opS_B0 {f : Value → Value → Sem Value} {g : Int → Int → Bool} (h : OpR X f (rI0 fun i j => .bl (g i j))) (i j : Int) (R : Sto) : OpS X f (.int i) (.int j) R (.val (.bl (g i j))) R :=
  ⟨_, h, fun M P F H vx vy Q r hx hy p => by
    cases hx.int
    cases hy.int
    exact ⟨i, j, rfl, rfl, p.val r (.bl _)⟩⟩
theorem denl_rep {K : PySem.W.Frag} {F : Hp} {ds : List D} {vs : List V} (h : DenL K F ds vs) : ∀ n : Nat, DenL K F (List.replicate n ds).flatten (List.replicate n vs).flatten
  | 0 => .nil
  | n + 1 => by
    rw [List.replicate_succ, List.replicate_succ, List.flatten_cons, List.flatten_cons]
    exact h.append (denl_rep h n)
theorem binop_ok {o : Operator} (h : binop o x y R = .ok rv R') : OpS X (binaryOp o) x y R rv R' := by
  unfold binop at h
  split at h
  · cases h; exact opS_I0 op_add _ _ _
  · cases h; exact opS_I0 op_sub _ _ _
  · split at h
    · rename_i hc; cases h; exact opS_I op_mulW (mulOk_ok hc) _
    · cases h
  · split at h
    · rename_i hc; cases h; exact opS_I op_fdivE (of_decide_eq_true hc) _
    · cases h
  · split at h
    · cases h
    · rename_i hc; cases h; exact opS_I op_modN hc _
  · split at h
    · rename_i hc; cases h; exact opS_I op_powE (of_decide_eq_true hc) _
    · cases h
  · split at h
    · rename_i a b hc
      cases h
      refine ⟨_, op_add_str, fun M P F H vx vy Q r hx hy p => ?_⟩
      cases hx.str
      cases hy.str
      exact ⟨_, _, rfl, rfl, sz_of hc, p.val r (.str _)⟩
    · cases h
  · split at h
    · rename_i as bs hc
      cases h
      refine ⟨_, op_catA, fun M P F H vx vy Q r hx hy p => ?_⟩
      obtain ⟨a, vs, rfl, h1, h2⟩ := hx.tupF
      obtain ⟨b, us, rfl, h3, h4⟩ := hy.tupF
      refine ⟨a, b, vs, us, rfl, rfl, .inl (.inl (r.ex _ _ h1)), .inl (.inl (r.ex _ _ h3)), ?_, fun z => ?_, fun z z2 => ?_, fun _ _ => p.tup r (h2.append h4)⟩
      · rw [h2.length, h4.length]; exact sz_of hc
      · have : as = [] := by
          cases as with
          | nil => rfl
          | cons _ _ => rw [z] at h2; cases h2
        subst this
        exact p.val r (.tup h3 h4)
      · have : bs = [] := by
          cases bs with
          | nil => rfl
          | cons _ _ => rw [z2] at h4; cases h4
        subst this
        rw [List.append_nil] at p
        exact p.val r (.tup h1 h2)
    · cases h
  · split at h
    · rename_i as bs ha hb
      split at h
      · rename_i hc
        cases h
        refine ⟨_, op_cat, fun M P F H vx vy Q r hx hy p => ?_⟩
        obtain ⟨a, vs, rfl, h1, h2⟩ := r.asL hx ha
        obtain ⟨b, us, rfl, h3, h4⟩ := r.asL hy hb
        exact ⟨a, b, vs, us, rfl, rfl, h1, h3, by rw [h2.length, h4.length]; exact sz_of hc, p.lst r (h2.append h4)⟩
      · cases h
    · cases h
  · split at h
    · rename_i k _ _ as ha
      split at h
      · rename_i hc
        cases h
        refine ⟨_, op_rep, fun M P F H vx vy Q r hx hy p => ?_⟩
        obtain ⟨a, vs, rfl, h1, h2⟩ := r.asL hx ha
        cases hy.int
        exact ⟨a, k, vs, rfl, rfl, h1, by omega, by omega, by rw [h2.length]; exact sz_of hc.2.2, p.lst r (denl_rep h2 _)⟩
      · cases h
    · cases h
  · cases h
end
end EV

/-! EvP: comparisons, truth, places of sequences, slices. -/
namespace EV
open PySem PySem.Spec PyProof.Rows L2

/-! ### data, for == -/
mutual
def toP : D → Option PyData
  | .non => some .none
  | .bl b => some (.bool b)
  | .int i => some (.int i)
  | .str x => some (.str x)
  | .tup ds => (toPs ds).map .tuple
  | .ktp ds => (toPs ds).map .tuple
  | .lst ds => (toPs ds).map .list
  | _ => none
def toPs : List D → Option (List PyData)
  | [] => some []
  | d :: ds => match toP d, toPs ds with
    | some p, some ps => some (p :: ps)
    | _, _ => none
end
/-- what a thing of the store holds now -/
def derefs (R : Sto) : D → D
  | .ref j i => match sget R j i with
    | some .dead => .ref j i
    | some u => fzO u
    | none => .ref j i
  | d => d
def eqOp (x y : D) (R : Sto) : Option Bool := match toP (derefs R x), toP (derefs R y) with
  | some p, some q => if SeqAt.shaped p && SeqAt.shaped q then some (PyData.eqv p q) else none
  | _, _ => none
section
variable {K : PySem.W.Frag} {M : Mp} {R : Sto} {P : Ps} {F H : Hp}
mutual
theorem Den.dp (e : Ex F H) : ∀ {d : D} {v : V} {p : PyData}, Den K F d v → toP d = some p → Dp K H v p
  | .non, _, _, h, q => by cases h; simp only [toP] at q; cases q; exact .non
  | .bl b, _, _, h, q => by cases h; simp only [toP] at q; cases q; exact .bl b
  | .int i, _, _, h, q => by cases h; simp only [toP] at q; cases q; exact .int i
  | .str x, _, _, h, q => by cases h; simp only [toP] at q; cases q; exact .str x
  | .tup ds, _, _, h, q => by
    cases h with
    | tup h1 h2 =>
      simp only [toP] at q
      cases z : toPs ds with
      | none => rw [z] at q; cases q
      | some ps =>
        rw [z] at q
        cases q
        exact .tup (.inl (.inl (e _ _ h1))) (DenL.dp e h2 z)
  | .ktp ds, _, _, h, q => by
    cases h with
    | ktp h1 h2 =>
      simp only [toP] at q
      cases z : toPs ds with
      | none => rw [z] at q; cases q
      | some ps =>
        rw [z] at q
        cases q
        exact .tup (e.sqT h1) (DenL.dp e h2 z)
  | .lst ds, _, _, h, q => by
    cases h with
    | lst h1 h2 =>
      simp only [toP] at q
      cases z : toPs ds with
      | none => rw [z] at q; cases q
      | some ps =>
        rw [z] at q
        cases q
        exact .lst (.inl (.inl (e _ _ h1))) (DenL.dp e h2 z)
  | .scr _, _, _, _, q => by simp only [toP] at q; cases q
  | .dct _ _, _, _, _, q => by simp only [toP] at q; cases q
  | .dcT _ _, _, _, _, q => by simp only [toP] at q; cases q
  | .obj _ _ _, _, _, _, q => by simp only [toP] at q; cases q
  | .ref _ _, _, _, _, q => by simp only [toP] at q; cases q
theorem DenL.dp (e : Ex F H) : ∀ {ds : List D} {vs : List V} {ps : List PyData}, DenL K F ds vs → toPs ds = some ps → DpAll K H vs ps
  | [], _, _, h, q => by cases h; simp only [toPs] at q; cases q; exact .nil
  | d :: ds, _, _, h, q => by
    cases h with
    | cons h t =>
      simp only [toPs] at q
      cases z1 : toP d with
      | none => rw [z1] at q; cases q
      | some p =>
        cases z2 : toPs ds with
        | none => rw [z1, z2] at q; cases q
        | some ps =>
          rw [z1, z2] at q
          cases q
          exact .cons (Den.dp e h z1) (DenL.dp e t z2)
end
theorem Rel.dp (r : Rel K M R P F H) {d : D} {v : V} {p : PyData} (h : Vr K M F d v) (q : toP (derefs R d) = some p) : Dp K H v p := by
  rcases h with ⟨j, i, rfl, rfl⟩ | h
  · cases z : sget R j i with
    | none => simp only [derefs, z, toP] at q; cases q
    | some u =>
      have h1 := r.ob j i u z
      cases u with
      | frz d => simp only [derefs, z] at q; exact Den.dp r.ex h1 q
      | dead => simp only [derefs, z, toP] at q; cases q
      | dct _ _ => simp only [derefs, z, fzO, toP] at q; cases q
      | dcT _ _ => simp only [derefs, z, fzO, toP] at q; cases q
      | ins _ _ _ => simp only [derefs, z, fzO, toP] at q; cases q
      | lst ds =>
        obtain ⟨_, vs, h2, h3⟩ := h1
        simp only [derefs, z, fzO, toP] at q
        cases z2 : toPs ds with
        | none => rw [z2] at q; cases q
        | some ps =>
          rw [z2] at q
          cases q
          exact .lst (.inl (.inl h2)) (DenL.dp r.ex h3 z2)
  · have e : derefs R d = d := by
      cases d with
      | ref j i => cases h
      | _ => rfl
    rw [e] at q
    exact Den.dp r.ex h q
end

/-! ### comparisons -/
/-- a flat value -/
def flatD : D → Option V
  | .non => some .non
  | .bl b => some (.bl b)
  | .int i => some (.int i)
  | .str x => some (.str x)
  | _ => none
def flatDs : List D → Option (List V)
  | [] => some []
  | d :: ds => match flatD d, flatDs ds with
    | some v, some vs => some (v :: vs)
    | _, _ => none
def inOp (neg : Bool) (x y : D) (R : Sto) : Option Bool := match x, y with
  | .str a, .str b => some (if neg then !(!(Builtin.Str.occurrences b a 0 b.length 1).isEmpty) else !(Builtin.Str.occurrences b a 0 b.length 1).isEmpty)
  | x, y => match flatD x, asS R y with
    | some v, some (_, ds) => match flatDs ds with
      | some vs => some (if neg then !inV v vs else inV v vs)
      | none => none
    | _, _ => none
def isN : D → Bool
  | .non => true
  | _ => false
def cmpop (o : CmpOp) (x y : D) (R : Sto) : Option Bool :=
  match o with
  | .Lt => match x, y with
    | .int i, .int j => some (decide (i < j))
    | _, _ => none
  | .LtE => match x, y with
    | .int i, .int j => some (decide (i ≤ j))
    | _, _ => none
  | .Gt => match x, y with
    | .int i, .int j => some (decide (j < i))
    | _, _ => none
  | .GtE => match x, y with
    | .int i, .int j => some (decide (j ≤ i))
    | _, _ => none
  | .Eq => eqOp x y R
  | .NotEq => (eqOp x y R).map (!·)
  | .Is => match y with
    | .non => some (isN x)
    | _ => none
  | .IsNot => match y with
    | .non => some (!isN x)
    | _ => none
  | .In => inOp false x y R
  | .NotIn => inOp true x y R
section
variable {X : Cx} {M : Mp} {R R' : Sto} {P : Ps} {F H : Hp} {x y : D} {vx vy v : V} {rv : Rv} {Q : VK} {b : Bool}
theorem flatD_v {K : PySem.W.Frag} (h : flatD x = some v) (hx : Vr K M F x vx) : vx = v ∧ flatV v = true := by
  cases x with
  | non => cases h; exact ⟨hx.non, rfl⟩
  | bl b => cases h; exact ⟨hx.bl, rfl⟩
  | int i => cases h; exact ⟨hx.int, rfl⟩
  | str s => cases h; exact ⟨hx.str, rfl⟩
  | _ => cases h
theorem flatDs_v {K : PySem.W.Frag} : ∀ {ds : List D} {ws vs : List V}, flatDs ds = some ws → DenL K F ds vs → vs = ws ∧ ws.all flatV = true
  | [], _, _, h, .nil => by cases h; exact ⟨rfl, rfl⟩
  | d :: ds, ws, _, h, .cons hd ht => by
    simp only [flatDs] at h
    cases z1 : flatD d with
    | none => rw [z1] at h; cases h
    | some w =>
      cases z2 : flatDs ds with
      | none => rw [z1, z2] at h; cases h
      | some ws' =>
        rw [z1, z2] at h
        cases h
        obtain ⟨e1, f1⟩ := flatD_v (M := fun _ _ => 0) z1 (.inr hd)
        obtain ⟨e2, f2⟩ := flatDs_v z2 ht
        subst e1
        subst e2
        exact ⟨rfl, by rw [List.all_cons, f1, f2]; rfl⟩
theorem isNon {K : PySem.W.Frag} (hx : Vr K M F x vx) : decide (vx = .non) = isN x := by
  rcases hx with ⟨j, i, rfl, rfl⟩ | h
  · rfl
  · cases h <;> rfl
theorem opS_none {f : Value → Value → Sem Value} {neg : Bool} (h : OpR X f (fun x y H Q => y = .non ∧ Q (.bl (if neg then !decide (x = .non) else decide (x = .non))) H)) : OpS X f x .non R (.val (.bl (if neg then !isN x else isN x))) R :=
  ⟨_, h, fun M P F H vx vy Q r hx hy p => ⟨hy.non, by rw [isNon hx]; exact p.val r (.bl _)⟩⟩
theorem inOp_ok {neg : Bool} (h : inOp neg x y R = some b) : OpS X (compareOp (if neg then .NotIn else .In)) x y R (.val (.bl b)) R := by
  unfold inOp at h
  split at h
  · rename_i a c
    cases h
    cases neg with
    | true => exact ⟨_, op_notin_str, fun M P F H vx vy Q r hx hy p => by cases hx.str; cases hy.str; exact ⟨_, _, rfl, rfl, p.val r (.bl _)⟩⟩
    | false => exact ⟨_, op_in_str, fun M P F H vx vy Q r hx hy p => by cases hx.str; cases hy.str; exact ⟨_, _, rfl, rfl, p.val r (.bl _)⟩⟩
  · split at h
    · rename_i v k ds hv hs
      split at h
      · rename_i vs hvs
        cases h
        cases neg with
        | true =>
          refine ⟨_, op_notIn_seq, fun M P F H vx vy Q r hx hy p => ?_⟩
          obtain ⟨a, us, rfl, h1, h2⟩ := r.asS_len hy hs
          obtain ⟨e1, f1⟩ := flatD_v hv hx
          obtain ⟨e2, f2⟩ := flatDs_v hvs h1
          subst e1
          subst e2
          exact ⟨a, us, rfl, h2, f1, f2, p.val r (.bl _)⟩
        | false =>
          refine ⟨_, op_in_seq, fun M P F H vx vy Q r hx hy p => ?_⟩
          obtain ⟨a, us, rfl, h1, h2⟩ := r.asS_len hy hs
          obtain ⟨e1, f1⟩ := flatD_v hv hx
          obtain ⟨e2, f2⟩ := flatDs_v hvs h1
          subst e1
          subst e2
          exact ⟨a, us, rfl, h2, f1, f2, p.val r (.bl _)⟩
      · cases h
    · cases h
theorem eqOp_ok (hu : X.A.units + 64 < cLine) {neg : Bool} (h : eqOp x y R = some b) : OpS X (compareOp (if neg then .NotEq else .Eq)) x y R (.val (.bl (if neg then !b else b))) R := by
  unfold eqOp at h
  split at h
  · rename_i p q hp hq
    split at h
    · rename_i hs
      cases h
      rw [Bool.and_eq_true] at hs
      cases neg with
      | true => exact ⟨_, op_neD hu, fun M P F H vx vy Q r hx hy z => ⟨p, q, r.dp hx hp, r.dp hy hq, hs.1, hs.2, z.val r (.bl _)⟩⟩
      | false => exact ⟨_, op_eqD hu, fun M P F H vx vy Q r hx hy z => ⟨p, q, r.dp hx hp, r.dp hy hq, hs.1, hs.2, z.val r (.bl _)⟩⟩
    · cases h
  · cases h
theorem cmpop_ok (hu : X.A.units + 64 < cLine) {o : CmpOp} (h : cmpop o x y R = some b) : OpS X (compareOp o) x y R (.val (.bl b)) R := by
  cases o with
  | Lt =>
    simp only [cmpop] at h
    split at h
    · cases h; exact opS_B0 op_lt _ _ _
    · cases h
  | LtE =>
    simp only [cmpop] at h
    split at h
    · cases h; exact opS_B0 op_le _ _ _
    · cases h
  | Gt =>
    simp only [cmpop] at h
    split at h
    · cases h; exact opS_B0 op_gt _ _ _
    · cases h
  | GtE =>
    simp only [cmpop] at h
    split at h
    · cases h; exact opS_B0 op_ge _ _ _
    · cases h
  | Eq => exact eqOp_ok hu (neg := false) h
  | NotEq =>
    simp only [cmpop] at h
    cases z : eqOp x y R with
    | none => rw [z] at h; cases h
    | some c =>
      rw [z] at h
      cases h
      exact eqOp_ok hu (neg := true) z
  | Is =>
    simp only [cmpop] at h
    split at h
    · cases h; exact opS_none (neg := false) op_isN
    · cases h
  | IsNot =>
    simp only [cmpop] at h
    split at h
    · cases h; exact opS_none (neg := true) op_notN
    · cases h
  | In => exact inOp_ok (neg := false) h
  | NotIn => exact inOp_ok (neg := true) h
end

/-! ### truth -/
def truth (R : Sto) : D → Option Bool
  | .non => some false
  | .bl b => some b
  | .int i => some (i != 0)
  | .str y => if y.length ≤ 100000 then some ((y.length : Int) != 0) else none
  | .dct ks _ => some (!ks.isEmpty)
  | .obj _ _ _ => none
  | .dcT _ _ => none
  | d => (asS R d).map fun p => !p.2.isEmpty
theorem DenL.isEmpty {K : PySem.W.Frag} {F : Hp} {ds : List D} {vs : List V} (h : DenL K F ds vs) : (!vs.isEmpty) = !ds.isEmpty := by
  cases h <;> rfl
theorem Rel.truth {K : PySem.W.Frag} {M : Mp} {R : Sto} {P : Ps} {F H : Hp} {d : D} {v : V} {b : Bool} (r : Rel K M R P F H) (h : Vr K M F d v) (e : truth R d = some b) : TruV K v H b := by
  have key : (EV.asS R d).map (fun p => !p.2.isEmpty) = some b → TruV K v H b := fun e => by
    cases z : EV.asS R d with
    | none => rw [z] at e; cases e
    | some p =>
      obtain ⟨k, ds⟩ := p
      rw [z] at e
      cases e
      obtain ⟨a, vs, rfl, h1, h2⟩ := r.asS_len h z
      rcases h2 with h2 | h2
      · exact .inl ⟨vs, h2, h1.isEmpty.symm⟩
      · exact .inr (.inl ⟨vs, h2, h1.isEmpty.symm⟩)
  cases d with
  | non => cases e; cases h.non; rfl
  | bl k => cases e; cases h.bl; rfl
  | int i => cases e; cases h.int; rfl
  | str y =>
    simp only [EV.truth] at e
    split at e
    · rename_i hc
      cases e
      cases h.str
      exact ⟨sz_of hc, rfl⟩
    · cases e
  | dct ks ds =>
    cases e
    obtain ⟨a, kvs, rfl, h1, h2, h3⟩ := h.dct
    refine .inr (.inr ⟨kvs, r.ex _ _ h1, ?_⟩)
    subst h2
    cases kvs <;> rfl
  | obj _ _ _ => cases e
  | dcT _ _ => cases e
  | tup ds => exact key e
  | ktp ds => exact key e
  | lst ds => exact key e
  | scr ds => exact key e
  | ref j i => exact key e

/-! ### places of sequences -/
def subOp (x y : D) (R : Sto) : Option D := match y with
  | .int i => match x with
    | .str z => if z.length ≤ 100000 then (atI z.cps.toList i).map fun c => .str ⟨#[c]⟩ else none
    | x => (asS R x).bind fun p => atI p.2 i
  | _ => none
theorem DenL.atI {K : PySem.W.Frag} {F : Hp} {ds : List D} {vs : List V} {i : Int} {d : D} (h : DenL K F ds vs) (e : atI ds i = some d) : ∃ v, L2.atI vs i = some v ∧ Den K F d v := by
  unfold L2.atI at e ⊢
  rw [h.length]
  cases z : ixN ds.length i with
  | none => rw [z] at e; cases e
  | some j =>
    rw [z] at e
    exact h.get e
/-- what a place's rule asks is there -/
def IxS (X : Cx) (x y : D) (R : Sto) (rv : Rv) (R' : Sto) : Prop :=
  ∃ r, IxR X r ∧ ∀ (M : Mp) (P : Ps) (F H : Hp) (vx vy : V) (Q : VK), Rel X.K M R P F H → Vr X.K M F x vx → Vr X.K M F y vy → Pst X.K M P F rv R' Q → r vx vy H Q
theorem subOp_ok {X : Cx} {x y d : D} {R : Sto} (h : subOp x y R = some d) : IxS X x y R (.val d) R := by
  have seq : ∀ i : Int, ((asS R x).bind fun p => atI p.2 i) = some d → IxS X x (.int i) R (.val d) R := fun i h => by
    cases z : asS R x with
    | none => rw [z] at h; cases h
    | some p =>
      obtain ⟨k, ds⟩ := p
      rw [z] at h
      refine ⟨_, ix_seq, fun M P F H vx vy Q r hx hy p => ?_⟩
      obtain ⟨a, vs, rfl, h1, h2⟩ := r.asS_len hx z
      cases hy.int
      obtain ⟨v, h3, h4⟩ := h1.atI h
      rcases h2 with h2 | h2
      · exact .inl ⟨a, vs, i, v, rfl, rfl, h2, h3, p.val r h4⟩
      · exact .inr (.inl ⟨a, vs, i, v, rfl, rfl, h2, h3, p.val r h4⟩)
  unfold subOp at h
  split at h
  · rename_i i
    cases x with
    | str z =>
      simp only at h
      split at h
      · rename_i hc
        cases q : atI z.cps.toList i with
        | none => rw [q] at h; cases h
        | some c =>
          rw [q] at h
          cases h
          refine ⟨_, ix_seq, fun M P F H vx vy Q r hx hy p => ?_⟩
          cases hx.str
          cases hy.int
          exact .inr (.inr ⟨z, i, c, rfl, rfl, sz_of hc, q, p.val r (.str _)⟩)
      · cases h
    | _ => exact seq i h
  · cases h
end EV

/-! EvE: expressions as codes: what a code gives, and when a text's expression has a code. -/
namespace EV
open PySem PySem.Spec PyProof.Rows L2

inductive Ty where
  | non | bool | int | str | tuple | list | dict
def Ty.nm : Ty → String
  | .non => "NoneType" | .bool => "bool" | .int => "int" | .str => "str" | .tuple => "tuple" | .list => "list" | .dict => "dict"
def Ty.isi : Ty → Ty → Bool
  | .non, .non | .bool, .bool | .int, .int | .str, .str | .tuple, .tuple | .list, .list | .dict, .dict | .bool, .int => true
  | _, _ => false
theorem Ty.kit : ∀ a b : Ty, kitB a.nm b.nm = some (a.isi b) := by
  intro a b
  cases a <;> cases b <;> decide +kernel
def Ty.isNm : Ty → Bool
  | .non => false
  | _ => true
theorem Ty.boot : ∀ t : Ty, t.isNm = true → bootBuiltins (Str.ofString t.nm) = some (.type t.nm) ∧ ((Str.ofString t.nm == ("__debug__" : Str)) = false) ∧ Str.ofString t.nm ≠ "__name__" := by
  intro t
  cases t <;> intro h <;> first | exact absurd h (by decide) | (refine ⟨?_, ?_, ?_⟩ <;> decide +kernel)
def tyD (R : Sto) : D → Option Ty
  | .non => some .non
  | .bl _ => some .bool
  | .int _ => some .int
  | .str _ => some .str
  | .tup _ => some .tuple
  | .ktp _ => some .tuple
  | .lst _ => some .list
  | .dct _ _ => some .dict
  | .dcT _ _ => some .dict
  | _ => none
/-! names by numbers -/
def mInit : Nat := 1208932691942108501925727
def mAdd : Nat := 4722393327864333492063
def mSub : Nat := 4722393327941927984991
def mMul : Nat := 4722393327916158836575
def mAnd : Nat := 4722393327864501264223
def mNeg : Nat := 4722393327920185040735
def mEq : Nat := 18446848937038012255
def mBool : Nat := 1208932691934416315637599
def mStr : Nat := 4722393327941912256351
def mLen : Nat := 4722393327911595564895
def up : D → D
  | .ref j i => .ref (j + 1) i
  | d => d
def lookD : List Nat → List D → Nat → Option D
  | n :: ns, d :: ds, f => if n = f then some d else lookD ns ds f
  | _, _, _ => none
/-- a slot's value -/
def fldD (R : Sto) (x : D) (f : Nat) : Option D := match x with
  | .obj _ ns ds => lookD ns ds f
  | .ref j i => match sget R j i with
    | some (.ins _ ns ds) => lookD ns ds f
    | some (.frz (.obj _ ns ds)) => lookD ns ds f
    | _ => none
  | _ => none
/-- an instance's class -/
def clsD (R : Sto) : D → Option Nat
  | .obj c _ _ => some c
  | .ref j i => match sget R j i with
    | some (.ins c _ _) => some c
    | some (.frz (.obj c _ _)) => some c
    | _ => none
  | _ => none
/-- built-in functions -/
inductive Bk where
  | abs | max2 | min2 | int1 | bool1 | len | sum | tuple | list | divmod | all | any
def Bk.nm : Bk → Str
  | .abs => "abs" | .max2 => "max" | .min2 => "min" | .int1 => "int" | .bool1 => "bool" | .len => "len" | .sum => "sum" | .tuple => "tuple" | .list => "list" | .divmod => "divmod" | .all => "all" | .any => "any"

inductive C where
  | var (i : Nat) | lit (d : D) | glob (x : Nat) (d : D)
  | bin (o : Operator) (a b : C) | neg (a : C) | notE (a : C)
  | cmp (o : CmpOp) (a b : C) | chn (o p : CmpOp) (a b c : C) | chn3 (o p q : CmpOp) (a b c d : C)
  | andE (a b : C) | orE (a b : C) | ife (c a b : C)
  | nil | cons (a as : C) | tup (as : C) | lst (as : C)
  | call (f : Nat) (as : C) | blt (k : Bk) (as : C) | isi (a : C) (t : Ty)
  | sub (a i : C) | slc (a lo hi : C) | rng1 (a : C) | rng2 (a b : C)
  | comp (elt : C) (slots : List Nat) (it cond : C)
  | callD (f : Nat) (as : C) (dv : List D)
  | fld (a : C) (f : Nat) | prp (a : C) (f : Nat) | mth (a : C) (m : Nat) (as : C) | new (c : Nat) (as : C) (dv : List D) | isiC (a : C) (c : Nat) (cs : List Nat)
  | dnew | dget (a k z : C)
  | itm (a : C) | zipE (a b : C) | enmE (a : C)
  | dg2 (k1 v1 k2 v2 : Int) (a : C) (z : Int)

def bindV (o : Out Rv) (f : D → Sto → Out Rv) : Out Rv := match o with
  | .ok (.val d) R => f d R
  | .ok (.new u) R => f (fzO u) R
  | .ok (.many _) _ => .bad
  | .exc e R => .exc e R
  | .bad => .bad
def bindA (o : Out Rv) (f : List D → Sto → Out Rv) : Out Rv := match o with
  | .ok (.many ds) R => f ds R
  | .ok _ _ => .bad
  | .exc e R => .exc e R
  | .bad => .bad
def liftO {α : Type} (o : Option α) (R : Sto) (f : α → Rv) : Out Rv := match o with
  | some a => .ok (f a) R
  | none => .bad
def intsOf : List D → Option (List Int)
  | [] => some []
  | .int i :: ds => (intsOf ds).map (i :: ·)
  | _ => none
def blsOf : List D → Option (List Bool)
  | [] => some []
  | .bl b :: ds => (blsOf ds).map (b :: ·)
  | _ => none
def bltop (k : Bk) (as : List D) (R : Sto) : Out Rv := match k, as with
  | .abs, [.int i] => .ok (.val (.int (if i < 0 then -i else i))) R
  | .max2, [.int i, .int j] => .ok (.val (.int (if j > i then j else i))) R
  | .min2, [.int i, .int j] => .ok (.val (.int (if j < i then j else i))) R
  | .int1, [.int i] => .ok (.val (.int i)) R
  | .int1, [.bl b] => .ok (.val (.int (if b then 1 else 0))) R
  | .bool1, [.int i] => .ok (.val (.bl (i != 0))) R
  | .bool1, [.bl b] => .ok (.val (.bl b)) R
  | .len, [.str z] => if z.length ≤ 100000 then .ok (.val (.int z.length)) R else .bad
  | .len, [x] => match asS R x with
    | some (_, ds) => .ok (.val (.int ds.length)) R
    | none => .bad
  | .sum, [x] => match asS R x with
    | some (true, ds) => match intsOf ds with
      | some ns => .ok (.val (.int ns.sum)) R
      | none => .bad
    | _ => .bad
  | .tuple, [x] => match asS R x with
    | some (true, ds) => .ok (.val (.tup ds)) R
    | some (false, ds) => .ok (.val x) R
    | none => .bad
  | .list, [x] => match asS R x with
    | some (_, ds) => .ok (.new (.lst ds)) R
    | none => .bad
  | .divmod, [.int i, .int j] => if 0 < j ∧ j < 1073741824 then .ok (.val (.tup [.int (i / j), .int (i % j)])) R else .bad
  | .all, [x] => match asS R x with
    | some (true, ds) => match blsOf ds with
      | some bs => .ok (.val (.bl (bs.all id))) R
      | none => .bad
    | _ => .bad
  | .any, [x] => match asS R x with
    | some (true, ds) => match blsOf ds with
      | some bs => .ok (.val (.bl (bs.any id))) R
      | none => .bad
    | _ => .bad
  | _, _ => .bad
/-- a part of a slice: left out, or an int -/
def ptOf (out : Bool) : D → Option (Option Int)
  | .int i => if out then none else some (some i)
  | _ => if out then some none else none
def slcOp (x : D) (lo hi : Option (Option Int)) (R : Sto) : Out Rv :=
  match lo, hi with
  | some l, some h => match x with
    | .str _ => .bad
    | .tup ds => .ok (.val (.tup ((ds.drop (HT.sIx ds.length 0 l)).take (HT.sIx ds.length ds.length h - HT.sIx ds.length 0 l)))) R
    | x => match asS R x with
      | some (true, ds) => .ok (.new (.lst ((ds.drop (HT.sIx ds.length 0 l)).take (HT.sIx ds.length ds.length h - HT.sIx ds.length 0 l)))) R
      | _ => .bad
  | _, _ => .bad
/-- what is walked: told values, a thing of the store as it stands at each turn -/
inductive It where
  | vals (ds : List D) | live (x : D)
def itV (R : Sto) : D → Option It
  | .tup ds => some (.vals ds)
  | .ktp ds => some (.vals ds)
  | .lst ds => some (.vals ds)
  | .scr ds => some (.vals ds)
  | .ref j i => match asL R (.ref j i) with
    | some _ => some (.live (.ref j i))
    | none => none
  | _ => none
def zipL : List D → List D → List D
  | x :: xs, y :: ys => .tup [x, y] :: zipL xs ys
  | _, _ => []
def enmL : Nat → List D → List D
  | _, [] => []
  | i, x :: xs => .tup [.int (i : Nat), x] :: enmL (i + 1) xs
def itmL : List Key → List D → List D
  | k :: ks, d :: ds => .tup [(match k with | .inl i => .int i | .inr x => .str x), d] :: itmL ks ds
  | _, _ => []
/-- both lists, or both tuples; told ones -/
def zipOk : D → D → Option (List D)
  | .tup xs, .tup ys => some (zipL xs ys)
  | .tup xs, .ktp ys => some (zipL xs ys)
  | .lst xs, .lst ys => some (zipL xs ys)
  | _, _ => none
/-- how a code is walked -/
inductive Ik where
  | val | rng | zip | enm | itm
def ik : C → Ik
  | .rng1 _ => .rng
  | .rng2 _ _ => .rng
  | .zipE _ _ => .zip
  | .enmE _ => .enm
  | .itm _ => .itm
  | _ => .val
def rngOk (a b : Int) : Bool := decide (-(2 ^ 62) ≤ a ∧ a < 2 ^ 62 ∧ -(2 ^ 62) ≤ b ∧ b < 2 ^ 62)
def itOf (j : Ik) (R : Sto) (v : Rv) : Option It := match j with
  | .val => match v with
    | .val d => itV R d
    | .new o => itV R (fzO o)
    | .many _ => none
  | .rng => match v with
    | .many [.int a, .int b] => if rngOk a b then some (.vals ((List.range (b - a).toNat).map fun (i : Nat) => .int (a + (i : Int)))) else none
    | _ => none
  | .zip => match v with
    | .many [x, y] => (zipOk x y).map .vals
    | _ => none
  | .enm => match v with
    | .many [.lst xs] => some (.vals (enmL 0 xs))
    | .many [.tup xs] => some (.vals (enmL 0 xs))
    | _ => none
  | .itm => none
/-- a comprehension's turns; the items made so far, newest first -/
def compV (f : D → Sto → Out (Option D)) : List D → Sto → List D → Out Rv
  | [], R, acc => .ok (.new (.lst acc.reverse)) R
  | d :: ds, R, acc => match f d R with
    | .ok (some y) R' => if acc.length < 100000 then compV f ds R' (y :: acc) else .bad
    | .ok none R' => compV f ds R' acc
    | _ => .bad
def compR (f : D → Sto → Out (Option D)) (x : D) : Nat → Nat → Sto → List D → Out Rv
  | 0, _, _, _ => .bad
  | n + 1, i, R, acc => match asL R x with
    | none => .bad
    | some ds => match ds[i]? with
      | none => .ok (.new (.lst acc.reverse)) R
      | some d => match f d R with
        | .ok (some y) R' => if acc.length < 100000 then compR f x n (i + 1) R' (y :: acc) else .bad
        | .ok none R' => compR f x n (i + 1) R' acc
        | _ => .bad
def isNonC : C → Bool
  | .lit .non => true
  | _ => false
def setsTg : List Nat → List D → List (Option D) → Option (List (Option D))
  | [], [], σ => some σ
  | i :: is, d :: ds, σ => setsTg is ds (σ.set i (some d))
  | _, _, _ => none
/-- a target's names: one, or those of a tuple -/
def setTg : List Nat → D → List (Option D) → Option (List (Option D))
  | [i], d, σ => some (σ.set i (some d))
  | is, .tup ds, σ => setsTg is ds σ
  | is, .ktp ds, σ => setsTg is ds σ
  | _, _, _ => none
def wipeD (σ : List (Option D)) : List Nat → List (Option D)
  | [] => σ
  | v :: vs => (wipeD σ vs).set v none
/-- one turn of a comprehension -/
def compF (ec ee : List (Option D) → Sto → Out Rv) (slots : List Nat) (σ : List (Option D)) (d : D) (R : Sto) : Out (Option D) :=
  match setTg slots d (wipeD σ slots) with
  | none => .bad
  | some σ1 => match ec σ1 R with
    | .ok (.many _) _ => .bad
    | .ok c R2 => match truth R2 (fz c) with
      | some true => match ee σ1 R2 with
        | .ok (.many _) _ => .bad
        | .ok y R3 => match byv (fz y) R3 with
          | some (y', R4) => .ok (some y') R4
          | none => .bad
        | _ => .bad
      | some false => .ok none R2
      | none => .bad
    | _ => .bad
def compI (f : D → Sto → Out (Option D)) (lf : Nat) (j : Option It) (R : Sto) : Out Rv := match j with
  | some (.vals ds) => compV f ds R []
  | some (.live x) => compR f x lf 0 R []
  | none => .bad
abbrev Cf := Nat → List D → Sto → Out Rv
def isObj : D → Bool
  | .obj _ _ _ => true
  | _ => false
def opId : Operator → Option Nat
  | .Add => some mAdd | .Sub => some mSub | .Mult => some mMul | .BitAnd => some mAnd | _ => none
def keyD : D → Option Key
  | .int i => some (.inl i)
  | .str x => some (.inr x)
  | _ => none
def keysD : List D → Option (List Key)
  | [] => some []
  | d :: ds => match keyD d, keysD ds with
    | some k, some ks => some (k :: ks)
    | _, _ => none
def lookK {α : Type} [DecidableEq α] : List α → List D → α → Option D
  | k :: ks, d :: ds, k' => if k = k' then some d else lookK ks ds k'
  | _, _, _ => none
/-- what a dict holds now at a key: some none where there is nothing -/
def dctGet (R : Sto) (x k : D) : Option (Option D) := match derefs R x with
  | .dct ks ds => (keyD k).map fun k => lookK ks ds k
  | .dcT ks ds => match k with
    | .tup es => (keysD es).map fun k => lookK ks ds k
    | _ => none
  | _ => none
def isiX (t : Ty) (x : D) (R : Sto) : Out Rv := match x with
  | .obj _ _ _ => .ok (.val (.bl false)) R
  | x => liftO (tyD R x) R fun u => .val (.bl (u.isi t))
def isiY (c : Nat) (cs : List Nat) (x : D) (R : Sto) : Out Rv := match x with
  | .obj c' _ _ => if cs.contains c' then .ok (.val (.bl (decide (c' = c)))) R else .bad
  | x => liftO (tyD R x) R fun _ => .val (.bl false)
/-- an operator, an own one for instances -/
def binopX (cf : Cf) (o : Operator) (x y : D) (R : Sto) : Out Rv := match x with
  | .obj c _ _ => match y with
    | .obj c' _ _ => if c = c' then match opId o with
      | some m => cf (2 * m) [x, y] R
      | none => .bad else .bad
    | _ => .bad
  | x => binop o x y R
/-- what may stand right of an own == -/
def eqArg : D → Bool
  | .ref _ _ => false
  | .scr _ => false
  | _ => true
def isDct (R : Sto) (x : D) : Bool := match derefs R x with
  | .dct _ _ => true
  | .dcT _ _ => true
  | _ => false
/-- a place of a sequence, or of a dict -/
def subX (x y : D) (R : Sto) : Option D := match dctGet R x y with
  | some o => o
  | none => subOp x y R
/-- a comparison; in a dict -/
def cmpY (o : CmpOp) (x y : D) (R : Sto) : Option Bool := match o with
  | .In => match dctGet R y x with
    | some r => some r.isSome
    | none => cmpop .In x y R
  | .NotIn => match dctGet R y x with
    | some r => some (!r.isSome)
    | none => cmpop .NotIn x y R
  | o => cmpop o x y R
def cmpX (cf : Cf) (o : CmpOp) (x y : D) (R : Sto) : Out Rv := match x with
  | .obj _ _ _ => if eqArg y then match o with
    | .Eq => match cf (2 * mEq) [x, y] R with
      | .ok (.val (.bl b)) R' => .ok (.val (.bl b)) R'
      | _ => .bad
    | .NotEq => match cf (2 * mEq) [x, y] R with
      | .ok (.val (.bl b)) R' => .ok (.val (.bl (!b))) R'
      | _ => .bad
    | _ => .bad else .bad
  | x => liftO (cmpY o x y R) R fun b => .val (.bl b)
def negX (cf : Cf) (x : D) (R : Sto) : Out Rv := match x with
  | .int i => .ok (.val (.int (-i))) R
  | .obj _ _ _ => cf (2 * mNeg) [x] R
  | _ => .bad
/-- a built-in function, by an own method for instances -/
def bltX (cf : Cf) (k : Bk) (ds : List D) (R : Sto) : Out Rv := match ds with
  | [.obj c ns es] => match k with
    | .bool1 => match cf (2 * mBool) [.obj c ns es] R with
      | .ok (.val (.bl b)) R' => .ok (.val (.bl b)) R'
      | _ => .bad
    | _ => .bad
  | ds => bltop k ds R
/-- a new instance, by its __init__ -/
def newV (cf : Cf) (c : Nat) (ds : List D) (R : Sto) : Out Rv := match cf (2 * mInit) (.ref 0 0 :: ds.map up) ([.ins c [] []] :: R) with
  | .ok (.val .non) ([.ins c' ns es] :: R2) => if c' = c then .ok (.new (.ins c ns es)) R2 else .bad
  | _ => .bad
/-- what a code gives; cf: the defs, lf: turns at most, for what is walked as it stands -/
def ev (cf : Cf) (lf : Nat) : C → List (Option D) → Sto → Out Rv
  | .var i, σ, R => match σ[i]? with
    | some (some d) => .ok (.val d) R
    | _ => .bad
  | .lit d, _, R => .ok (.val d) R
  | .glob _ d, _, R => .ok (.val d) R
  | .bin o a b, σ, R => bindV (ev cf lf a σ R) fun x R1 => bindV (ev cf lf b σ R1) fun y R2 => binopX cf o x y R2
  | .neg a, σ, R => bindV (ev cf lf a σ R) fun x R1 => negX cf x R1
  | .notE a, σ, R => bindV (ev cf lf a σ R) fun x R1 => liftO (truth R1 x) R1 fun b => .val (.bl (!b))
  | .cmp o a b, σ, R => bindV (ev cf lf a σ R) fun x R1 => bindV (ev cf lf b σ R1) fun y R2 => cmpX cf o x y R2
  | .chn o p a b c, σ, R => bindV (ev cf lf a σ R) fun x R1 => bindV (ev cf lf b σ R1) fun y R2 => match cmpop o x y R2 with
    | some true => bindV (ev cf lf c σ R2) fun z R3 => liftO (cmpop p y z R3) R3 fun b => .val (.bl b)
    | some false => .ok (.val (.bl false)) R2
    | none => .bad
  | .chn3 o p q a b c d, σ, R => bindV (ev cf lf a σ R) fun x R1 => bindV (ev cf lf b σ R1) fun y R2 => match cmpop o x y R2 with
    | some true => bindV (ev cf lf c σ R2) fun z R3 => match cmpop p y z R3 with
      | some true => bindV (ev cf lf d σ R3) fun w R4 => liftO (cmpop q z w R4) R4 fun b => .val (.bl b)
      | some false => .ok (.val (.bl false)) R3
      | none => .bad
    | some false => .ok (.val (.bl false)) R2
    | none => .bad
  | .andE a b, σ, R => bindV (ev cf lf a σ R) fun x R1 => match truth R1 x with
    | some true => ev cf lf b σ R1
    | some false => .ok (.val x) R1
    | none => .bad
  | .orE a b, σ, R => bindV (ev cf lf a σ R) fun x R1 => match truth R1 x with
    | some true => .ok (.val x) R1
    | some false => ev cf lf b σ R1
    | none => .bad
  | .ife c a b, σ, R => bindV (ev cf lf c σ R) fun x R1 => match truth R1 x with
    | some true => ev cf lf a σ R1
    | some false => ev cf lf b σ R1
    | none => .bad
  | .nil, _, R => .ok (.many []) R
  | .cons a as, σ, R => bindV (ev cf lf a σ R) fun x R1 => bindA (ev cf lf as σ R1) fun ds R2 => .ok (.many (x :: ds)) R2
  | .tup as, σ, R => bindA (ev cf lf as σ R) fun ds R1 => match byvL ds R1 with
    | some (ds', R2) => if ds'.length ≤ 100000 then .ok (.val (.tup ds')) R2 else .bad
    | none => .bad
  | .lst as, σ, R => bindA (ev cf lf as σ R) fun ds R1 => match byvL ds R1 with
    | some (ds', R2) => if ds'.length ≤ 100000 then .ok (.new (.lst ds')) R2 else .bad
    | none => .bad
  | .call f as, σ, R => bindA (ev cf lf as σ R) fun ds R1 => cf f ds R1
  | .blt k as, σ, R => bindA (ev cf lf as σ R) fun ds R1 => bltX cf k ds R1
  | .callD f as dv, σ, R => bindA (ev cf lf as σ R) fun ds R1 => cf f (ds ++ dv) R1
  | .fld a f, σ, R => bindV (ev cf lf a σ R) fun x R1 => liftO (fldD R1 x f) R1 .val
  | .prp a f, σ, R => bindV (ev cf lf a σ R) fun x R1 => match x with
    | .obj c ns ds => cf (2 * f + 1) [.obj c ns ds] R1
    | _ => .bad
  | .mth a m as, σ, R => bindV (ev cf lf a σ R) fun x R1 => match x with
    | .obj c ns ds => bindA (ev cf lf as σ R1) fun es R2 => cf (2 * m) (.obj c ns ds :: es) R2
    | _ => .bad
  | .new c as dv, σ, R => bindA (ev cf lf as σ R) fun ds R1 => newV cf c (ds ++ dv) R1
  | .isiC a c cs, σ, R => bindV (ev cf lf a σ R) fun x R1 => isiY c cs x R1
  | .dnew, _, R => .ok (.new (.dct [] [])) R
  | .dget a k z, σ, R => bindV (ev cf lf a σ R) fun x R1 => if isDct R1 x then bindV (ev cf lf k σ R1) fun y R2 => bindV (ev cf lf z σ R2) fun w R3 => match dctGet R3 x y with
      | some (some d) => .ok (.val d) R3
      | some none => .ok (.val w) R3
      | none => .bad
    else .bad
  | .itm a, σ, R => bindV (ev cf lf a σ R) fun x R1 => .ok (.many [x]) R1
  | .zipE a b, σ, R => bindV (ev cf lf a σ R) fun x R1 => bindV (ev cf lf b σ R1) fun y R2 => .ok (.many [x, y]) R2
  | .enmE a, σ, R => bindV (ev cf lf a σ R) fun x R1 => .ok (.many [x]) R1
  | .isi a t, σ, R => bindV (ev cf lf a σ R) fun x R1 => isiX t x R1
  | .sub a i, σ, R => bindV (ev cf lf a σ R) fun x R1 => bindV (ev cf lf i σ R1) fun y R2 => liftO (subX x y R2) R2 .val
  | .slc a lo hi, σ, R => bindV (ev cf lf a σ R) fun x R1 => bindV (ev cf lf lo σ R1) fun l R2 => bindV (ev cf lf hi σ R2) fun h R3 => slcOp x (ptOf (isNonC lo) l) (ptOf (isNonC hi) h) R3
  | .rng1 a, σ, R => bindV (ev cf lf a σ R) fun x R1 => .ok (.many [.int 0, x]) R1
  | .rng2 a b, σ, R => bindV (ev cf lf a σ R) fun x R1 => bindV (ev cf lf b σ R1) fun y R2 => .ok (.many [x, y]) R2
  | .dg2 k1 v1 k2 v2 a z, σ, R => bindV (ev cf lf a σ R) fun x R1 => match x with
    | .int i => .ok (.val (.int (if i = k2 then v2 else if i = k1 then v1 else z))) R1
    | _ => .bad
  | .comp elt slots it cond, σ, R => match ev cf lf it σ R with
    | .ok x R1 => compI (compF (ev cf lf cond) (ev cf lf elt) slots σ) lf (itOf (ik it) R1 x) R1
    | _ => .bad

/-! equal, as data -/
mutual
def eqD : D → D → Bool
  | .non, .non => true
  | .bl a, .bl b => a == b
  | .int i, .int j => decide (i = j)
  | .str x, .str y => decide (x = y)
  | .tup ds, .tup es => eqDs ds es
  | .ktp ds, .ktp es => eqDs ds es
  | _, _ => false
def eqDs : List D → List D → Bool
  | [], [] => true
  | d :: ds, e :: es => eqD d e && eqDs ds es
  | _, _ => false
end
mutual
theorem eqD_ok : ∀ {a b : D}, eqD a b = true → a = b
  | .non, b, h => by cases b <;> simp_all [eqD]
  | .bl _, b, h => by cases b <;> simp_all [eqD]
  | .int _, b, h => by cases b <;> simp_all [eqD]
  | .str _, b, h => by cases b <;> simp_all [eqD]
  | .tup ds, b, h => by
    cases b with
    | tup es => simp only [eqD] at h; rw [eqDs_ok h]
    | _ => simp [eqD] at h
  | .lst _, b, h => by simp [eqD] at h
  | .scr _, b, h => by simp [eqD] at h
  | .dct _ _, b, h => by simp [eqD] at h
  | .dcT _ _, b, h => by simp [eqD] at h
  | .ktp ds, b, h => by
    cases b with
    | ktp es => simp only [eqD] at h; rw [eqDs_ok h]
    | _ => simp [eqD] at h
  | .obj _ _ _, b, h => by simp [eqD] at h
  | .ref _ _, b, h => by simp [eqD] at h
theorem eqDs_ok : ∀ {a b : List D}, eqDs a b = true → a = b
  | [], [], _ => rfl
  | d :: ds, e :: es, h => by
    simp only [eqDs, Bool.and_eq_true] at h
    rw [eqD_ok h.1, eqDs_ok h.2]
  | [], _ :: _, h => by simp [eqDs] at h
  | _ :: _, [], h => by simp [eqDs] at h
end

/-! ### when a text's expression has a code -/
structure Tb where
  fnm : List Str
  gnm : List Str
  gval : List D
  bnm : List Str
  /-- defs called with fewer arguments: the number, what fills up -/
  dfl : List (Nat × List D) := []
  /-- classes; those that are made: the class, what fills up -/
  cls : List Nat := []
  mks : List (Nat × List D) := []
  /-- class, method, def; class, property, def -/
  mts : List (Nat × Nat × Nat) := []
  prs : List (Nat × Nat × Nat) := []
  /-- class, its slots in their order -/
  sls : List (Nat × List Nat) := []
def isStar : Expr → Bool
  | .Starred _ _ => true
  | _ => false
def isSlice : Expr → Bool
  | .Slice _ _ _ _ => true
  | _ => false
def isSet : Expr → Bool
  | .Set _ _ _ => true
  | _ => false
def plainT : Expr → Bool
  | .UnaryOp .Not _ _ => false
  | .BoolOp _ _ _ => false
  | .IfExp _ _ _ _ => false
  | .Compare _ _ _ _ => false
  | _ => true
def visB (sc : Scope) (x : Str) : Bool := match sc.names.lookup x with
  | some .local => true
  | some .cell => true
  | some .free => true
  | _ => false
def glB (sc : Scope) (x : Str) : Bool := match sc.names.lookup x with
  | some .globalImplicit => !(x == ("__debug__" : Str)) && !decide (x = "__name__")
  | _ => false
def litB : D → Const → Bool
  | .int i, .int j => decide (i = j)
  | .bl b, .bool c => b == c
  | .non, .none => true
  | .str x, .str y => decide (x = y)
  | _, _ => false
def p0 : Pos := ⟨0, 0, 0, 0⟩
def isYes : C → Bool
  | .lit (.bl true) => true
  | _ => false
def relSc (scope sc : Scope) : Scope := relS scope sc
def locB (sc : Scope) (fnb : Str → Bool) (x : Str) : Bool := match sc.names.lookup x with
  | some .local => true
  | some .cell => fnb x
  | _ => false
def tgN1 : Expr → Str
  | .Name x _ => x
  | _ => ""
def tgNs : Expr → List Str
  | .Name x _ => [x]
  | .Tuple es _ _ => es.map tgN1
  | _ => []
def nmB (sc : Scope) (fnb : Str → Bool) (N : List Str) (i : Nat) : Expr → Bool
  | .Name x _ => decide (N[i]? = some x) && locB sc fnb x
  | _ => false
def nmsB (sc : Scope) (fnb : Str → Bool) (N : List Str) : List Nat → List Expr → Bool
  | [], [] => true
  | i :: is, e :: es => nmB sc fnb N i e && nmsB sc fnb N is es
  | _, _ => false
/-- a target of these slots -/
def tgB (sc : Scope) (fnb : Str → Bool) (N : List Str) (is : List Nat) : Expr → Bool
  | .Name x p => match is with
    | [i] => nmB sc fnb N i (.Name x p)
    | _ => false
  | .Tuple es _ _ => decide (2 ≤ es.length) && nmsB sc fnb N is es
  | _ => false
def supB : Expr → Bool
  | .Call (.Name id _) [] [] _ => id == ("super" : Str)
  | _ => false
def isTupT : Expr → Bool
  | .Tuple _ _ _ => true
  | _ => false
/-- what is walked goes with the target -/
def tgIk : C → Expr → Bool
  | .zipE _ _, e => isTupT e
  | .enmE _, e => isTupT e
  | .itm _, e => isTupT e
  | _, _ => true
def flatL : D → Bool
  | .non => true
  | .bl _ => true
  | .int _ => true
  | .str _ => true
  | _ => false
def eqDL (a b : List D) : Bool := eqDs a b
def memDfl (f : Nat) (dv : List D) : List (Nat × List D) → Bool
  | [] => false
  | (g, ds) :: r => (f == g && eqDs dv ds) || memDfl f dv r
def isNil : List Expr → Bool
  | [] => true
  | _ => false
def chk (T : Tb) : C → Scope → List Str → Expr → Bool
  | .var i, sc, N, e => match e with
    | .Name x _ => decide (N[i]? = some x) && visB sc x && !(x == ("__debug__" : Str)) && !(x == ("__classdict__" : Str))
    | _ => false
  | .lit d, _, _, e => match e with
    | .Constant c _ _ => litB d c
    | _ => false
  | .glob g d, sc, _, e => match e with
    | .Name x _ => decide (T.gnm[g]? = some x) && glB sc x && (match T.gval[g]? with | some d' => eqD d d' | none => false)
    | _ => false
  | .bin o a b, sc, N, e => match e with
    | .BinOp l o' r _ => decide (o = o') && chk T a sc N l && chk T b sc N r
    | _ => false
  | .neg a, sc, N, e => match e with
    | .UnaryOp .USub x _ => chk T a sc N x
    | _ => false
  | .notE a, sc, N, e => match e with
    | .UnaryOp .Not x _ => chk T a sc N x
    | _ => false
  | .cmp o a b, sc, N, e => match e with
    | .Compare l [o'] [r] _ => decide (o = o') && !behindInMarks o' r && chk T a sc N l && chk T b sc N r
    | _ => false
  | .chn o p a b c, sc, N, e => match e with
    | .Compare l [o', p'] [m, r] _ => decide (o = o') && decide (p = p') && !behindInMarks p' r && chk T a sc N l && chk T b sc N m && chk T c sc N r
    | _ => false
  | .chn3 o p q a b c d, sc, N, e => match e with
    | .Compare l [o', p', q'] [m, r, s] _ => decide (o = o') && decide (p = p') && decide (q = q') && !behindInMarks q' s && chk T a sc N l && chk T b sc N m && chk T c sc N r && chk T d sc N s
    | _ => false
  | .andE a b, sc, N, e => match e with
    | .BoolOp .And (x :: y :: r) p => chk T a sc N x && (if isNil r then chk T b sc N y else chk T b sc N (.BoolOp .And (y :: r) p))
    | _ => false
  | .orE a b, sc, N, e => match e with
    | .BoolOp .Or (x :: y :: r) p => chk T a sc N x && (if isNil r then chk T b sc N y else chk T b sc N (.BoolOp .Or (y :: r) p))
    | _ => false
  | .ife c a b, sc, N, e => match e with
    | .IfExp x y z _ => chk T c sc N x && chk T a sc N y && chk T b sc N z
    | _ => false
  | .nil, _, _, e => match e with
    | .List [] _ => true
    | _ => false
  | .cons a as, sc, N, e => match e with
    | .List (x :: r) _ => !isStar x && chk T a sc N x && chk T as sc N (.List r p0)
    | _ => false
  | .tup as, sc, N, e => match e with
    | .Tuple es _ _ => chk T as sc N (.List es p0)
    | _ => false
  | .lst as, sc, N, e => match e with
    | .List es _ => chk T as sc N (.List es p0)
    | _ => false
  | .call f as, sc, N, e => match e with
    | .Call (.Name x _) es [] _ => decide (T.fnm[f]? = some x) && glB sc x && chk T as sc N (.List es p0)
    | _ => false
  | .blt k as, sc, N, e => match e with
    | .Call (.Name x _) es [] _ => decide (x = k.nm) && decide (x ∈ T.bnm) && glB sc x && !isNil es && chk T as sc N (.List es p0)
    | _ => false
  | .callD f as dv, sc, N, e => match e with
    | .Call (.Name x _) es [] _ => decide (T.fnm[f]? = some x) && memDfl f dv T.dfl && glB sc x && chk T as sc N (.List es p0)
    | _ => false
  | .fld a f, sc, N, e => match e with
    | .Attribute x m _ => !supB x && decide (m = nmN f) && chk T a sc N x
    | _ => false
  | .prp a f, sc, N, e => match e with
    | .Attribute x m _ => !supB x && decide (65536 ≤ f) && decide (m = nmN f) && chk T a sc N x
    | _ => false
  | .mth a m as, sc, N, e => match e with
    | .Call (.Attribute x n ap) es [] cp => !supB x && (ap.endLine == cp.line) && decide (es.length < 30) && decide (65536 ≤ m) && decide (n = nmN m) && chk T a sc N x && chk T as sc N (.List es p0)
    | _ => false
  | .new c as dv, sc, N, e => match e with
    | .Call (.Name x _) es [] _ => decide (x = nmN c) && memDfl c dv T.mks && glB sc x && !isNil es && chk T as sc N (.List es p0)
    | _ => false
  | .isiC a c cs, sc, N, e => match e with
    | .Call (.Name x _) [y, .Name z _] [] _ => decide (x = "isinstance") && decide (x ∈ T.bnm) && glB sc x && decide (z = nmN c) && glB sc z && decide (c ∈ T.cls) && (cs.all fun d => (d == c) || !decide (nmN d = nmN c)) && !isStar y && chk T a sc N y
    | _ => false
  | .dnew, _, _, e => match e with
    | .Dict [] [] _ => true
    | _ => false
  | .dget a k z, sc, N, e => match e with
    | .Call (.Attribute x m ap) [y, w] [] cp => !supB x && decide (m = "get") && (ap.endLine == cp.line) && !isStar y && !isStar w && chk T a sc N x && chk T k sc N y && chk T z sc N w
    | _ => false
  | .itm a, sc, N, e => match e with
    | .Call (.Attribute x m ap) [] [] cp => !supB x && decide (m = "items") && (ap.endLine == cp.line) && chk T a sc N x
    | _ => false
  | .zipE a b, sc, N, e => match e with
    | .Call (.Name x _) [y, z] [] _ => decide (x = "zip") && decide (x ∈ T.bnm) && glB sc x && !isStar y && !isStar z && chk T a sc N y && chk T b sc N z
    | _ => false
  | .enmE a, sc, N, e => match e with
    | .Call (.Name x _) [y] [] _ => decide (x = "enumerate") && decide (x ∈ T.bnm) && glB sc x && !isStar y && chk T a sc N y
    | _ => false
  | .isi a t, sc, N, e => match e with
    | .Call (.Name x _) [y, .Name z _] [] _ => decide (x = "isinstance") && decide (x ∈ T.bnm) && decide (z ∈ T.bnm) && t.isNm && glB sc x && decide (z = Str.ofString t.nm) && glB sc z && !isStar y && chk T a sc N y
    | _ => false
  | .sub a i, sc, N, e => match e with
    | .Subscript x y _ => !isSlice y && chk T a sc N x && chk T i sc N y
    | _ => false
  | .slc a lo hi, sc, N, e => match e with
    | .Subscript x (.Slice l h none _) _ => chk T a sc N x && (match l with | none => isNonC lo | some l => !isNonC lo && chk T lo sc N l) && (match h with | none => isNonC hi | some h => !isNonC hi && chk T hi sc N h)
    | _ => false
  | .rng1 a, sc, N, e => match e with
    | .Call (.Name x _) [y] [] _ => decide (x = "range") && decide (x ∈ T.bnm) && glB sc x && !isStar y && chk T a sc N y
    | _ => false
  | .rng2 a b, sc, N, e => match e with
    | .Call (.Name x _) [y, z] [] _ => decide (x = "range") && decide (x ∈ T.bnm) && glB sc x && !isStar y && !isStar z && chk T a sc N y && chk T b sc N z
    | _ => false
  | .dg2 k1 v1 k2 v2 a z, sc, N, e => match e with
    | .Call (.Attribute (.Dict [some (.Constant (.int i1) _ _), some (.Constant (.int i2) _ _)] [.Constant (.int j1) _ _, .Constant (.int j2) _ _] _) m ap) [y, .Constant (.int j) _ _] [] cp =>
      decide (i1 = k1) && decide (i2 = k2) && decide (j1 = v1) && decide (j2 = v2) && decide (j = z) && decide (m = "get") && (ap.endLine == cp.line) && !isStar y && chk T a sc N y
    | _ => false
  | .comp elt slots it cond, sc, N, e => match e with
    | .ListComp el [⟨tg, iter, ifs, 0⟩] scope _ => tgB (relSc scope sc) (fun y => scope.names.lookup y == some .cell) N slots tg && blkC N sc scope ((tgNs tg).zip slots) && chk T it sc N iter && tgIk it tg && !isSet iter &&
      chk T elt (relSc scope sc) N el && (match ifs with | [] => isYes cond | [c] => chk T cond (relSc scope sc) N c | _ => false)
    | _ => false
end EV

/-! EvF: what the rules of calls and slices ask; the words for soundness. -/
namespace EV
open PySem PySem.Spec PyProof.Rows L2

theorem star_cons {e : Expr} {es : List Expr} {env : Env} (h : isStar e = false) : starEach (e :: es) env = (false, eval e env) :: starEach es env := by
  cases e <;> first | rfl | exact nomatch h
theorem plainIx_of {e : Expr} (h : isSlice e = false) : PlainIx e := by
  intro o i
  cases e <;> first | rfl | exact nomatch h
theorem notSet_of {e : Expr} {env : Env} (h : isSet e = false) (x : Value) : foldedSetIterable e env x = pure x := by
  cases e <;> first | rfl | exact nomatch h
theorem plainT_of {e : Expr} {env : Env} (h : plainT e = true) (whole : Sem Value) : isTrue e env whole = (do let v ← whole; standAt e.pos; holding [v] (truthy v)) := by
  cases e with
  | UnaryOp op x p => cases op <;> first | rfl | exact nomatch h
  | BoolOp _ _ _ => exact nomatch h
  | IfExp _ _ _ _ => exact nomatch h
  | Compare _ _ _ _ => exact nomatch h
  | _ => rfl
inductive NoStar : List Expr → Prop
  | nil : NoStar []
  | cons {e : Expr} {es : List Expr} : isStar e = false → NoStar es → NoStar (e :: es)
theorem any_star {env : Env} {pos : Pos} : ∀ {es : List Expr}, NoStar es → (backTo pos (starEach es env)).any (·.1) = false
  | [], .nil => rfl
  | e :: es, .cons h t => by
    rw [star_cons h]
    show (false || (backTo pos (starEach es env)).any (·.1)) = false
    rw [any_star t]
    rfl

/-! ### built-in functions -/
section
variable {K : PySem.W.Frag} {M : Mp} {R R' : Sto} {P : Ps} {F H : Hp} {ds : List D} {vs : List V}
theorem VrL.one {d : D} (h : VrL K M F [d] vs) : ∃ v, vs = [v] ∧ Vr K M F d v := by
  cases h with
  | cons h t => cases t; exact ⟨_, rfl, h⟩
theorem VrL.two {d e : D} (h : VrL K M F [d, e] vs) : ∃ v w, vs = [v, w] ∧ Vr K M F d v ∧ Vr K M F e w := by
  cases h with
  | cons h t =>
    cases t with
    | cons h2 t => cases t; exact ⟨_, _, rfl, h, h2⟩
theorem ints_v : ∀ {ds : List D} {ns : List Int} {vs : List V}, intsOf ds = some ns → DenL K F ds vs → vs = ns.map V.int
  | [], _, _, e, .nil => by cases e; rfl
  | d :: ds, ns, _, e, .cons h t => by
    cases d with
    | int i =>
      simp only [intsOf] at e
      cases q : intsOf ds with
      | none => rw [q] at e; cases e
      | some ms =>
        rw [q] at e
        cases e
        cases h
        rw [ints_v q t]
        rfl
    | _ => simp only [intsOf] at e; cases e
theorem bls_v : ∀ {ds : List D} {ns : List Bool} {vs : List V}, blsOf ds = some ns → DenL K F ds vs → vs = ns.map V.bl
  | [], _, _, e, .nil => by cases e; rfl
  | d :: ds, ns, _, e, .cons h t => by
    cases d with
    | bl i =>
      simp only [blsOf] at e
      cases q : blsOf ds with
      | none => rw [q] at e; cases e
      | some ms =>
        rw [q] at e
        cases e
        cases h
        rw [bls_v q t]
        rfl
    | _ => simp only [blsOf] at e; cases e
end
def Bk.val : Bk → Value
  | .abs => .builtin "abs" | .max2 => .builtin "max" | .min2 => .builtin "min" | .int1 => .type "int" | .bool1 => .type "bool" | .len => .builtin "len" | .sum => .builtin "sum"
  | .tuple => .type "tuple" | .list => .type "list" | .divmod => .builtin "divmod" | .all => .builtin "all" | .any => .builtin "any"
theorem Bk.boot : ∀ k : Bk, bootBuiltins k.nm = some k.val := by
  intro k
  cases k <;> decide +kernel
theorem asS_tup {R : Sto} {d : D} {ds : List D} (h : asS R d = some (false, ds)) : d = .tup ds ∨ d = .ktp ds := by
  have key : (asL R d).map (fun ds => (true, ds)) = some (false, ds) → d = .tup ds ∨ d = .ktp ds := fun h => by
    cases q : asL R d with
    | none => rw [q] at h; cases h
    | some es => rw [q] at h; cases h
  cases d with
  | tup es => cases h; exact .inl rfl
  | ktp es => cases h; exact .inr rfl
  | scr es => cases h
  | _ => exact key h
/-- what a call's rule asks is there -/
def CallS (X : Cx) (f : Value) (ds : List D) (R : Sto) (rv : Rv) (R' : Sto) : Prop :=
  ∃ r, CallR X f r ∧ ∀ (M : Mp) (P : Ps) (F H : Hp) (vs : List V) (Q : VK), Rel X.K M R P F H → VrL X.K M F ds vs → Pst X.K M P F rv R' Q → r vs H Q
theorem bltop_ok {X : Cx} (hc : X.calm = true) {k : Bk} {ds : List D} {R R' : Sto} {rv : Rv} (h : bltop k ds R = .ok rv R') : CallS X k.val ds R rv R' := by
  unfold bltop at h
  split at h
  · cases h
    exact ⟨_, call_abs, fun M P F H vs Q r hv p => by
      obtain ⟨v, rfl, h1⟩ := hv.one
      cases h1.int
      exact ⟨_, rfl, p.val r (.int _)⟩⟩
  · cases h
    exact ⟨_, call_max2 hc, fun M P F H vs Q r hv p => by
      obtain ⟨v, w, rfl, h1, h2⟩ := hv.two
      cases h1.int
      cases h2.int
      exact ⟨_, _, rfl, p.val r (.int _)⟩⟩
  · cases h
    exact ⟨_, call_min2 hc, fun M P F H vs Q r hv p => by
      obtain ⟨v, w, rfl, h1, h2⟩ := hv.two
      cases h1.int
      cases h2.int
      exact ⟨_, _, rfl, p.val r (.int _)⟩⟩
  · cases h
    exact ⟨_, call_int1, fun M P F H vs Q r hv p => by
      obtain ⟨v, rfl, h1⟩ := hv.one
      cases h1.int
      exact .inl ⟨_, rfl, p.val r (.int _)⟩⟩
  · cases h
    exact ⟨_, call_int1, fun M P F H vs Q r hv p => by
      obtain ⟨v, rfl, h1⟩ := hv.one
      cases h1.bl
      exact .inr ⟨_, rfl, p.val r (.int _)⟩⟩
  · cases h
    exact ⟨_, call_bool1, fun M P F H vs Q r hv p => by
      obtain ⟨v, rfl, h1⟩ := hv.one
      cases h1.int
      exact .inl ⟨_, rfl, p.val r (.bl _)⟩⟩
  · cases h
    exact ⟨_, call_bool1, fun M P F H vs Q r hv p => by
      obtain ⟨v, rfl, h1⟩ := hv.one
      cases h1.bl
      exact .inr ⟨_, rfl, p.val r (.bl _)⟩⟩
  · split at h
    · rename_i hz
      cases h
      exact ⟨_, call_len_str, fun M P F H vs Q r hv p => by
        obtain ⟨v, rfl, h1⟩ := hv.one
        cases h1.str
        exact ⟨_, rfl, sz_of hz, p.val r (.int _)⟩⟩
    · cases h
  · split at h
    · rename_i b ds' hs
      cases h
      exact ⟨_, call_len_seq, fun M P F H vs Q r hv p => by
        obtain ⟨v, rfl, h1⟩ := hv.one
        obtain ⟨a, us, rfl, h2, h3⟩ := r.asS_len h1 hs
        refine ⟨a, us, rfl, h3, ?_⟩
        rw [h2.length]
        exact p.val r (.int _)⟩
    · cases h
  · split at h
    · rename_i ds' hs
      split at h
      · rename_i ns hn
        cases h
        exact ⟨_, cr_sum hc, fun M P F H vs Q r hv p => by
          obtain ⟨v, rfl, h1⟩ := hv.one
          obtain ⟨a, us, rfl, h2, h3⟩ := r.asS h1 hs
          refine ⟨a, ns, rfl, ?_, p.val r (.int _)⟩
          rw [← ints_v hn h2]
          exact h3⟩
      · cases h
    · cases h
  · split at h
    · rename_i ds' hs
      cases h
      exact ⟨_, call_tuple_of, fun M P F H vs Q r hv p => by
        obtain ⟨v, rfl, h1⟩ := hv.one
        obtain ⟨a, us, rfl, h2, h3⟩ := r.asS h1 hs
        exact ⟨a, us, rfl, .inl ⟨h3, p.tup r h2⟩⟩⟩
    · rename_i ds' hs
      cases h
      refine ⟨_, call_tuple_of, fun M P F H vs Q r hv p => ?_⟩
      obtain ⟨v, rfl, h1⟩ := hv.one
      obtain ⟨a, us, rfl, h2, h3⟩ := r.asS h1 hs
      rcases h1 with ⟨j, i, e, _⟩ | h1
      · rcases asS_tup hs with hd | hd <;> rw [hd] at e <;> cases e
      · exact ⟨a, us, rfl, .inr ⟨h3, p.val r h1⟩⟩
    · cases h
  · split at h
    · rename_i b ds' hs
      cases h
      exact ⟨_, call_list_of, fun M P F H vs Q r hv p => by
        obtain ⟨v, rfl, h1⟩ := hv.one
        obtain ⟨a, us, rfl, h2, h3⟩ := r.asS_len h1 hs
        exact ⟨a, us, rfl, h3, p.lst r h2⟩⟩
    · cases h
  · split at h
    · rename_i hz
      cases h
      exact ⟨_, call_divmod, fun M P F H vs Q r hv p => by
        obtain ⟨v, w, rfl, h1, h2⟩ := hv.two
        cases h1.int
        cases h2.int
        exact ⟨_, _, rfl, hz, p.tup r (.cons (.int _) (.cons (.int _) .nil))⟩⟩
    · cases h
  · split at h
    · rename_i ds' hs
      split at h
      · rename_i ns hn
        cases h
        exact ⟨_, cr_all hc, fun M P F H vs Q r hv p => by
          obtain ⟨v, rfl, h1⟩ := hv.one
          obtain ⟨a, us, rfl, h2, h3⟩ := r.asS h1 hs
          refine ⟨a, ns, rfl, ?_, p.val r (.bl _)⟩
          rw [← bls_v hn h2]
          exact h3⟩
      · cases h
    · cases h
  · split at h
    · rename_i ds' hs
      split at h
      · rename_i ns hn
        cases h
        exact ⟨_, cr_any hc, fun M P F H vs Q r hv p => by
          obtain ⟨v, rfl, h1⟩ := hv.one
          obtain ⟨a, us, rfl, h2, h3⟩ := r.asS h1 hs
          refine ⟨a, ns, rfl, ?_, p.val r (.bl _)⟩
          rw [← bls_v hn h2]
          exact h3⟩
      · cases h
    · cases h
  · cases h

/-! ### slices -/
theorem slcOp_ok {X : Cx} {x : D} {lo hi : Option (Option Int)} {R R' : Sto} {rv : Rv} (h : slcOp x lo hi R = .ok rv R') : ∃ l u, lo = some l ∧ hi = some u ∧ ∃ r, L2.SlR X r ∧ ∀ (M : Mp) (P : Ps) (F H : Hp) (vx : V) (Q : VK), Rel X.K M R P F H → Vr X.K M F x vx → Pst X.K M P F rv R' Q → r vx l u H Q := by
  unfold slcOp at h
  split at h
  · rename_i l u
    refine ⟨l, u, rfl, rfl, ?_⟩
    split at h
    · cases h
    · rename_i ds
      cases h
      refine ⟨_, sl_tupA, fun M P F H vx Q r hv p => ?_⟩
      obtain ⟨a, us, rfl, h2, h3⟩ := hv.tupF
      have e : cutV us l u = (us.drop (HT.sIx us.length 0 l)).take (HT.sIx us.length us.length u - HT.sIx us.length 0 l) := rfl
      refine ⟨a, us, rfl, .inl (.inl (r.ex _ _ h2)), fun hw => ?_, fun _ => ?_⟩
      · refine p.val r (.tup h2 ?_)
        rw [← h3.length, hw.1, hw.2, List.drop_zero, Nat.sub_zero, h3.length, List.take_length]
        exact h3
      · rw [e, h3.length]
        exact p.tup r ((h3.drop _).take _)
    · split at h
      · rename_i ds hs
        cases h
        refine ⟨_, sl_list, fun M P F H vx Q r hv p => ?_⟩
        obtain ⟨a, us, rfl, h2, h3⟩ := r.asS hv hs
        refine ⟨a, us, rfl, h3, ?_⟩
        have e : cutV us l u = (us.drop (HT.sIx us.length 0 l)).take (HT.sIx us.length us.length u - HT.sIx us.length 0 l) := rfl
        rw [e, h2.length]
        exact p.lst r ((h2.drop _).take _)
      · cases h
  · cases h

/-! ### the words -/
structure Okx (CX : CXT) (k : Nat) (X : Cx) : Prop where
  calm : X.calm = true
  nd : X.N.Nodup
  pass : ∀ Y : Cx, Y.prog = X.prog → Y.w = X.w → Passes CX Y E0
  own : PassesOwn (model X.prog X.w) X.A X.env X.xe
  nex : ∀ (l : List Env) (H : Hp) (s : Shared) (e : Value) (s' : Shared), CX l H s E0 e s' → False
  room : Room (k + 3) X.A
def spC (K : PySem.W.Frag) (cf : Cf) (f : Nat) : Sp := fun vs H Q _ => ∃ ds M R P F rv R', cf f ds R = .ok rv R' ∧ VrL K M F ds vs ∧ Rel K M R P F H ∧ Pst K M P F rv R' Q
structure Facts (T : Tb) (cf : Cf) (CX : CXT) (k : Nat) (X : Cx) : Prop where
  fn : ∀ (f : Nat) (x : Str), T.fnm[f]? = some x → ∃ a fd ps, X.mg x = some (.ref a) ∧ PySem.W.keepIn X.K (.ref a) = true ∧ Binds X.K fd ps [] ∧ FnOk X.prog X.w X.K X.mg X.base CX k a fd ps (spC X.K cf f)
  gl : ∀ (g : Nat) (x : Str) (d : D), T.gnm[g]? = some x → T.gval[g]? = some d → ∃ u v, X.mg x = some u ∧ RelV v u ∧ Den X.K (fun _ => none) d v
  bl : ∀ x ∈ T.bnm, X.mg x = none
  df : ∀ (f : Nat) (x : Str) (dv : List D), T.fnm[f]? = some x → memDfl f dv T.dfl = true → ∃ a fd ps ds dvs, X.mg x = some (.ref a) ∧ PySem.W.keepIn X.K (.ref a) = true ∧ Binds X.K fd ps ds ∧ Vals dvs ds ∧ DenL X.K (fun _ => none) dv dvs ∧ FnOk X.prog X.w X.K X.mg X.base CX k a fd ps (spC X.K cf f)
  cl : ∀ c ∈ T.cls, ∃ C, ClsA X.K c C ∧ X.mg (nmN c) = some (.ref C)
  dm : ∀ (m : Nat) (ds : List D) (R : Sto) (rv : Rv) (R' : Sto), 65536 ≤ m → cf (2 * m) ds R = .ok rv R' → ∃ d r c g, ds = d :: r ∧ clsD R d = some c ∧ (c, m, g) ∈ T.mts ∧ cf g ds R = .ok rv R'
  dp : ∀ (f : Nat) (ds : List D) (R : Sto) (rv : Rv) (R' : Sto), 65536 ≤ f → cf (2 * f + 1) ds R = .ok rv R' → ∃ d r c g, ds = d :: r ∧ clsD R d = some c ∧ (c, f, g) ∈ T.prs ∧ cf g ds R = .ok rv R'
  me : ∀ (c m g : Nat), (c, m, g) ∈ T.mts → ∀ C, ClsA X.K c C → ∃ a, Meth X.K C (nmN m) a ∧ FnR X.prog X.w X.K X.mg X.base CX k a (spC X.K cf g)
  pr : ∀ (c f g : Nat), (c, f, g) ∈ T.prs → ∀ C, ClsA X.K c C → ∃ p a rest, PySem.W.findIn X.K (.ref C) (nmN f) = some (some (.ref p)) ∧ PySem.W.specialIn X.K (.ref p) "__get__" = some (some (.builtin "property.__get__")) ∧
    PySem.W.takesIn X.K (.ref p) = some true ∧ PySem.W.recIn X.K p "property" = some (.ref a :: rest) ∧ FnR X.prog X.w X.K X.mg X.base CX k a (spC X.K cf g)
  ma : ∀ (c : Nat) (dv : List D), memDfl c dv T.mks = true → ∃ C a fd ps ds dvs, ClsA X.K c C ∧ X.mg (nmN c) = some (.ref C) ∧ Mk X.K C a ∧ Binds X.K fd ps ds ∧ Vals dvs ds ∧ DenL X.K (fun _ => none) dv dvs ∧
    ∀ g, (c, mInit, g) ∈ T.mts → FnOk X.prog X.w X.K X.mg X.base CX k a fd ps (spC X.K cf g)
  sl : ∀ (c : Nat) (fs : List Nat), (c, fs) ∈ T.sls → ∀ C, ClsA X.K c C → ∀ (i f : Nat), fs[i]? = some f → ∃ p, SlX.Slot1 X.K C (nmN f) p i
def ER (K : PySem.W.Frag) (M : Mp) (F : Hp) (σD : List (Option D)) (σ : L2.St) : Prop := σ.length = σD.length ∧ ∀ (i : Nat) (d : D), σD[i]? = some (some d) → ∃ v, σ[i]? = some (some v) ∧ Vr K M F d v
def WE (X : Cx) (e : Expr) (σ : L2.St) (H : Hp) (Q : VK) : Prop := ∀ (pins : List (Addr × Obj)) (s : Shared), Inv X pins σ H s → wpAny (model X.prog X.w) X.A (eval e X.env) (EP X pins σ Q) X.xe s
def WA (X : Cx) (es : List Expr) (σ : L2.St) (H : Hp) (Q : List V → Hp → Prop) : Prop := ∀ (pos : Pos) (pins : List (Addr × Obj)) (s : Shared), Inv X pins σ H s → wpAny (model X.prog X.w) X.A (spliced (backTo pos (starEach es X.env))) (AP X pins σ Q) X.xe s
def WT (X : Cx) (e : Expr) (σ : L2.St) (H : Hp) (Q : Bool → Hp → Prop) : Prop := ∀ (pins : List (Addr × Obj)) (s : Shared), Inv X pins σ H s → wpAny (model X.prog X.w) X.A (isTrue e X.env (eval e X.env)) (TP X pins σ Q) X.xe s
section
variable {X : Cx} {e : Expr} {es : List Expr} {σ : L2.St} {H : Hp}
theorem pe_w : PE X e (WE X e) := ⟨fun pins s σ H Q I h => h pins s I⟩
theorem pa_w : PA X es (WA X es) := ⟨fun pos pins s σ H Q I h => h pos pins s I⟩
theorem pt_w : PT X e (WT X e) := ⟨fun pins s σ H Q I h => h pins s I⟩
theorem we_of {t : TE} {Q : VK} (h : PE X e t) (q : t σ H Q) : WE X e σ H Q := fun pins s I => h.run pins s σ H Q I q
theorem wa_of {t : TA} {Q : List V → Hp → Prop} (h : PA X es t) (q : t σ H Q) : WA X es σ H Q := fun pos pins s I => h.run pos pins s σ H Q I q
theorem wt_of {t : TT} {Q : Bool → Hp → Prop} (h : PT X e t) (q : t σ H Q) : WT X e σ H Q := fun pins s I => h.run pins s σ H Q I q
theorem we_mono {Q Q' : VK} (h : WE X e σ H Q) (k : ∀ v H', Q v H' → Q' v H') : WE X e σ H Q' := fun pins s I => thn (h pins s I) fun _ _ ⟨v, H', I', r, q⟩ => ⟨v, H', I', r, k v H' q⟩
theorem wa_mono {Q Q' : List V → Hp → Prop} (h : WA X es σ H Q) (k : ∀ v H', Q v H' → Q' v H') : WA X es σ H Q' := fun pos pins s I => thn (h pos pins s I) fun _ _ ⟨v, H', I', r, q⟩ => ⟨v, H', I', r, k v H' q⟩
theorem wt_mono {Q Q' : Bool → Hp → Prop} (h : WT X e σ H Q) (k : ∀ v H', Q v H' → Q' v H') : WT X e σ H Q' := fun pins s I => thn (h pins s I) fun b _ ⟨H', I', q⟩ => ⟨H', I', k b H' q⟩
end
/-- behind a value; behind a told value; behind arguments; behind a test -/
def PV (X : Cx) (M : Mp) (R : Sto) (P : Ps) (F : Hp) (rv : Rv) : VK := fun v H' => ∃ F', Ex F F' ∧ Rel X.K M R P F' H' ∧ RVR X.K M R P F' H' v rv
def PD (X : Cx) (M : Mp) (R : Sto) (P : Ps) (F : Hp) (d : D) : VK := fun v H' => ∃ F', Ex F F' ∧ Rel X.K M R P F' H' ∧ Vr X.K M F' d v
def PL (X : Cx) (M : Mp) (R : Sto) (P : Ps) (F : Hp) (ds : List D) : List V → Hp → Prop := fun vs H' => ∃ F', Ex F F' ∧ Rel X.K M R P F' H' ∧ VrL X.K M F' ds vs
def PB (X : Cx) (M : Mp) (R : Sto) (P : Ps) (F : Hp) (b : Bool) : Bool → Hp → Prop := fun b' H' => b' = b ∧ ∃ F', Ex F F' ∧ Rel X.K M R P F' H'
section
variable {X : Cx} {M : Mp} {R R' : Sto} {P : Ps} {F G H : Hp} {σ : L2.St} {σD : List (Option D)}
theorem ER.mono (e : Ex F G) (h : ER X.K M F σD σ) : ER X.K M G σD σ := ⟨h.1, fun i d q => let ⟨v, h1, h2⟩ := h.2 i d q; ⟨v, h1, h2.mono e⟩⟩
theorem ER.set {i : Nat} {d : D} {v : V} (h : ER X.K M F σD σ) (hv : Vr X.K M F d v) : ER X.K M F (σD.set i (some d)) (σ.set i (some v)) := by
  refine ⟨by rw [List.length_set, List.length_set]; exact h.1, fun j d' q => ?_⟩
  by_cases hj : j = i
  · subst hj
    have hl : j < σD.length := by
      have := (List.getElem?_eq_some_iff.mp q).1
      rwa [List.length_set] at this
    rw [List.getElem?_set_self hl] at q
    cases q
    exact ⟨v, List.getElem?_set_self (by rw [h.1]; exact hl), hv⟩
  · rw [List.getElem?_set_ne (Ne.symm hj)] at q
    obtain ⟨w, h1, h2⟩ := h.2 j d' q
    exact ⟨w, by rw [List.getElem?_set_ne (Ne.symm hj)]; exact h1, h2⟩
theorem bindV_ok {o : Out Rv} {f : D → Sto → Out Rv} {rv : Rv} (h : bindV o f = .ok rv R') : ∃ x R1, o = .ok x R1 ∧ (∀ ds, x ≠ .many ds) ∧ f (fz x) R1 = .ok rv R' := by
  cases o with
  | ok x R1 =>
    cases x with
    | val d => exact ⟨_, _, rfl, fun _ z => (nomatch z), h⟩
    | new u => exact ⟨_, _, rfl, fun _ z => (nomatch z), h⟩
    | many _ => cases h
  | exc _ _ => cases h
  | bad => cases h
theorem bindA_ok {o : Out Rv} {f : List D → Sto → Out Rv} {rv : Rv} (h : bindA o f = .ok rv R') : ∃ ds R1, o = .ok (.many ds) R1 ∧ f ds R1 = .ok rv R' := by
  cases o with
  | ok x R1 =>
    cases x with
    | many ds => exact ⟨_, _, rfl, h⟩
    | _ => cases h
  | exc _ _ => cases h
  | bad => cases h
theorem liftO_ok {α : Type} {o : Option α} {f : α → Rv} {rv : Rv} (h : liftO o R f = .ok rv R') : ∃ a, o = some a ∧ rv = f a ∧ R' = R := by
  cases o with
  | none => cases h
  | some a => cases h; exact ⟨a, rfl, rfl, rfl⟩
end
end EV

/-! EvC: instances: operators, comparisons, slots, properties, methods, new ones. -/
namespace EV
open PySem PySem.Spec PyProof.Rows L2

section
open PySem.W
variable {prog : Program} {w : World} {A : Around} {E : Value → Shared → Prop} {s : Shared} {K : Frag} {x C L f : Addr} {h₀ : Heap} {m : Str → Option Value} {ox : Obj} {od : Option Obj} {b tb : Value}
theorem ne_try {Q : Value → Shared → Prop} (hu : A.units + 1 < cLine) (X : K.In s.heap) (I : InstAt s.heap x ox C od)
    (he : findIn K (.ref C) "__eq__" = some (some (.ref f))) (hne : findIn K (.ref C) "__ne__" = some (some (.builtin "object.__ne__"))) (hm : mroIn K C (.type "object") = some true) (hf : isFn K (.ref f) = true)
    (h : wpAny (model prog w) A.in1 (call (.ref f) [.ref x, b]) (fun v s' => ∃ r, v = .bool r ∧ Q (.bool (!r)) s') E s) :
    wpAny (model prog w) A (tryCompare (.ref x) "__ne__" b) (fun r s' => ∃ v, r = some v ∧ Q v s') E s := by
  simp only [tryCompare]
  have hobj : Looks (model prog w) s.heap (isInstance (.ref x) (.type "object")) true := I.type.andThen (looks_mroIn X hm)
  have key : wpAny (model prog w) A (call (.builtin "object.__ne__") [.ref x, b]) (fun v s' => ∃ r : Bool, v = .bool r ∧ Q v s') E s := by
    refine wpAny_call (codeAny_call_builtin F.cmp_object.ne.plain F.cmpEntry_ne (check_slot F.cmpKind_ne F.cmpSplit_ne hobj (F.cmpArgs_ne _ _) ?_))
    unfold Builtin.«object.__ne__»
    refine wpAny_bind (wpAny_of_eq (a := ((Value.ref x : Value), [b])) (by first | rfl | (simp only [slotArgs]; rfl)) ?_)
    refine wpAny_bind (wpAny_cRoomFor hu ?_)
    refine wpAny_bind (m := callSpecialIfBound? (.ref x) (Str.ofString "__eq__") [b]) (ifBound_K X I he hf (wpAny_mono h (fun v s' hv => ?_) fun _ _ e => e))
    obtain ⟨r, rfl, hq⟩ := hv
    refine wpAny_bind (m := truthy (.bool r)) (wpAny_truthy_bool ?_)
    exact wpAny_pure ⟨_, rfl, hq⟩
  have fin : wpAny (model prog w) A (call (.builtin "object.__ne__") ([.ref x] ++ [b]) >>= fun v => pure (some v)) (fun v s' => ∃ r : Bool, v = some (.bool r) ∧ Q (.bool r) s') E s :=
    wpAny_bind (wpAny_mono key (fun v s' ⟨r, e, q⟩ => wpAny_pure (by subst e; exact ⟨r, rfl, q⟩)) fun _ _ h' => h')
  refine wpAny_bind (m := callSpecialIfBound? (.ref x) "__ne__" [b]) (wpAny_mono (Q := fun v s' => ∃ r : Bool, v = some (.bool r) ∧ Q (.bool r) s') ?_ (fun v s' ⟨r, e, q⟩ => ?_) fun _ _ e => e)
  · simp only [callSpecialIfBound?, bindSpecialIfBound?]
    refine wpAny_holding (wpAny_bind (wpAny_bind (wpAny_bind (I.type.here ((looks_findIn X hne).here ?_)))))
    dsimp only
    rw [F.cmp_object.ne.bind]
    refine wpAny_bind (wpAny_askSetting (wpAny_ite ?_))
    split
    · exact wpAny_bind (wpAny_pure (wpAny_pure fin))
    · exact wpAny_tryCatch (wpAny_bind (wpAny_pure (wpAny_pure fin)))
  · subst e
    exact wpAny_pure ⟨_, rfl, q⟩
theorem ne_K {Q : Value → Shared → Prop} (hu : A.units + 1 < cLine) (F : Fr h₀ L s.heap m) (X₀ : K.In h₀) (I : InstAt s.heap x ox C od) (hb : Looks (model prog w) s.heap (typeOf b) tb) (hn : notFirst K C tb = true)
    (he : findIn K (.ref C) "__eq__" = some (some (.ref f))) (hne : findIn K (.ref C) "__ne__" = some (some (.builtin "object.__ne__"))) (hm : mroIn K C (.type "object") = some true) (hf : isFn K (.ref f) = true)
    (h : wpAny (model prog w) A.in1 (call (.ref f) [.ref x, b]) (fun v s' => ∃ r, v = .bool r ∧ Q (.bool (!r)) s') E s) : wpAny (model prog w) A (richCompare .NotEq (.ref x) b) Q E s := by
  have X := X₀.keeps F.keep
  have one := ne_try (Q := Q) hu X I he hne hm hf h
  unfold richCompare
  simp only [oneThing_ref]
  refine wpAny_holding (wpAny_bind (wpAny_cRoomFor (Nat.lt_of_succ_lt hu) ?_))
  rw [cmpInfo_NotEq]
  dsimp only
  refine wpAny_bind (I.type.here (wpAny_bind (hb.here ?_)))
  split
  · rename_i q
    have e : subIn K tb (.ref C) = some false := by
      rcases Bool.or_eq_true_iff.mp hn with e | e
      · rw [beq_iff_eq.mp e] at q; simp at q
      · exact beq_iff_eq.mp e
    refine wpAny_bind ((looks_subIn X e).here ?_)
    simp only [Bool.false_eq_true, if_false]
    refine wpAny_bind (wpAny_mono one (fun r s' z => ?_) fun _ _ e => e)
    obtain ⟨v, rfl, hq⟩ := z
    exact wpAny_pure hq
  · refine wpAny_bind (wpAny_pure ?_)
    simp only [Bool.false_eq_true, if_false]
    refine wpAny_bind (wpAny_mono one (fun r s' z => ?_) fun _ _ e => e)
    obtain ⟨v, rfl, hq⟩ := z
    exact wpAny_pure hq
theorem neg_K {Q : Value → Shared → Prop} (X : K.In s.heap) (I : InstAt s.heap x ox C od) (hs : findIn K (.ref C) "__neg__" = some (some (.ref f))) (hf : isFn K (.ref f) = true)
    (h : wpAny (model prog w) A (call (.ref f) [.ref x]) Q E s) : wpAny (model prog w) A (unaryOp .USub (.ref x)) Q E s := by
  unfold unaryOp
  refine wpAny_holding ?_
  refine PySem.W.KFB.if_not (by rfl) ?_
  refine wpAny_bind (special_fn X I hs (beq_iff_eq.mp hf) (wpAny_mono h (fun v s' hv => ?_) fun _ _ e => e))
  exact wpAny_pure hv
theorem bool_own {Q : Value → Shared → Prop} (F : Fr h₀ L s.heap m) (X₀ : K.In h₀) (I : InstAt s.heap x ox C od) (hs : findIn K (.ref C) "__bool__" = some (some (.ref f))) (hf : isFn K (.ref f) = true)
    (h : wpAny (model prog w) A.in1.in1 (call (.ref f) [.ref x]) (fun r s₁ => ∃ b, r = Value.bool b ∧ Q r s₁) E s) : wpAny (model prog w) A (call (.type "bool") [.ref x]) Q E s := by
  refine callType_codes (T := "bool") (Bi := Builtin.«object.__init__») (Q₁ := fun r s₁ => ∃ b, r = Value.bool b ∧ Q r s₁) PySem.F.called_bool (PySem.F.typeCall_bool_1 _) PySem.F.entry_object_init ?_ ?_
  · refine codeAny_of_tree ?_
    show wpAny _ A.in1.in1 (do checkBuiltinCall "bool.__new__" ⟨[.type "bool", .ref x], []⟩; again (.builtin "bool.__new__" ⟨[.type "bool", .ref x], []⟩)) _ _ s
    refine wpAny_bind (wpAny_of_eq (PySem.F.newCall_bool_1 _) (wpAny_pure ⟨plainId_quiet (by decide +kernel) _, codeAny_builtin PySem.F.entry_bool_new ?_⟩))
    rw [Around.under_plainId (by decide +kernel) _]
    have h' : wpAny (model prog w) A.in1.in1 (truthy (.ref x)) (fun b s₁ => Q (.bool b) s₁) E s := truthy_K F X₀ I hs hf (wpAny_mono h (fun r s₁ hr => by
      obtain ⟨b, rfl, hq⟩ := hr
      exact hq) fun _ _ y => y)
    have f1 := PySem.F.conv_sub_bool
    unfold Builtin.«bool.__new__»
    repeat (any_goals (first | assumption | with_reducible refine wpAny_mono h' (fun b s₁ hq => ?_) (fun _ _ y => y) | wp_step))
    all_goals first | exact ⟨_, rfl, hq⟩ | exact ⟨_, rfl, _, rfl, hq⟩ | skip
  · rintro obj s₁ ⟨n, rfl, hq⟩
    exact ⟨PySem.typeIs_bool _ _, PySem.F.args_object_init_2 _ _, object_init_meets PySem.F.called_bool.init.lookup PySem.F.called_bool.made (by decide) prog w A.in1 _ s₁ ⟨PySem.typeIs_bool _ _, rfl, hq⟩⟩
end

/-! ### an own method, called on an instance -/
section
variable {T : Tb} {cf : Cf} {k : Nat} {CX : CXT} {X : Cx} {M : Mp} {R R' : Sto} {P : Ps} {F H : Hp} {rv : Rv} {x y : D}
/-- whatever the values do -/
def WO (X : Cx) (f : Value → Value → Sem Value) : R2 := fun x y H Q => ∀ (pins : List (Addr × Obj)) (s : Shared) (σ : L2.St) (v u : Value), Inv X pins σ H s → RelV x v → RelV y u → wpAny (model X.prog X.w) X.A (f v u) (EP X pins σ Q) X.xe s
theorem opr_w {f : Value → Value → Sem Value} : OpR X f (WO X f) := fun pins s σ H x y v u Q I rx ry h => h pins s σ v u I rx ry
def WC (X : Cx) (f : Value) : List V → Hp → VK → Prop := fun vs H Q => ∀ (pins : List (Addr × Obj)) (s : Shared) (σ : L2.St) (us : List Value), Inv X pins σ H s → Vals vs us → wpAny (model X.prog X.w) X.A (call f us) (EP X pins σ Q) X.xe s
theorem callr_w {f : Value} : CallR X f (WC X f) := fun pins s σ H xs us Q I r h => h pins s σ us I r
theorem wc_of {f : Value} {r : List V → Hp → VK → Prop} (h : CallR X f r) {vs : List V} {Q : VK} (q : r vs H Q) : WC X f vs H Q := fun pins s σ us I ru => h pins s σ H vs us Q I ru q
def WU (X : Cx) (f : Value → Sem Value) : V → Hp → VK → Prop := fun x H Q => ∀ (pins : List (Addr × Obj)) (s : Shared) (σ : L2.St) (v : Value), Inv X pins σ H s → RelV x v → wpAny (model X.prog X.w) X.A (f v) (EP X pins σ Q) X.xe s
theorem unr_w {f : Value → Sem Value} : UnR X f (WU X f) := fun pins s σ H x v Q I rx h => h pins s σ v I rx
theorem WO.mono {f : Value → Value → Sem Value} {vx vy : V} {Q Q' : VK} (h : WO X f vx vy H Q) (k : ∀ v H', Q v H' → Q' v H') : WO X f vx vy H Q' := fun pins s σ v u I rx ry => thn (h pins s σ v u I rx ry) fun _ _ ⟨v, H', I', r, q⟩ => ⟨v, H', I', r, k v H' q⟩
/-- an own method of an instance -/
structure OwnM (X : Cx) (CX : CXT) (k : Nat) (cf : Cf) (c m g : Nat) (C a : Addr) : Prop where
  cls : ClsA X.K c C
  mt : Meth X.K C (nmN m) a
  fn : FnR X.prog X.w X.K X.mg X.base CX k a (spC X.K cf g)
theorem own_of (fa : Facts T cf CX k X) {m c : Nat} {ns : List Nat} {ds r : List D} (hm : 65536 ≤ m) (q : cf (2 * m) (.obj c ns ds :: r) R = .ok rv R') {v : V} (hv : Vr X.K M F (.obj c ns ds) v) (hr : Rel X.K M R P F H) :
    ∃ g C a b dx vs, v = .ref b ∧ SlX.Slt H b C dx vs ∧ OwnM X CX k cf c m g C a ∧ cf g (.obj c ns ds :: r) R = .ok rv R' := by
  obtain ⟨d, r', c', g, e, hc, hg, q'⟩ := fa.dm m _ R rv R' hm q
  cases e
  cases hc
  obtain ⟨b, C, dx, vs, us, rfl, h1, h2, h3, h4⟩ := hv.obj
  obtain ⟨a, h5, h6⟩ := fa.me c m g hg C h1
  exact ⟨g, C, a, b, dx, vs, rfl, (hr.ex.slo h2).slt, ⟨h1, h5, h6⟩, q'⟩
/-- its promise -/
theorem own_sp {g : Nat} {ds : List D} {vs : List V} {Q : VK} {E : XK} (q : cf g ds R = .ok rv R') (hv : VrL X.K M F ds vs) (hr : Rel X.K M R P F H) (p : Pst X.K M P F rv R' Q) : spC X.K cf g vs H Q E :=
  ⟨ds, M, R, P, F, rv, R', q, hv, hr, p⟩
theorem passN (ok : Okx CX k X) : ∀ Y : Cx, Y.prog = X.prog → Y.w = X.w → Passes CX Y E0 := ok.pass
theorem binopX_ok (ok : Okx CX k X) (fa : Facts T cf CX k X) {o : Operator} (h : binopX cf o x y R = .ok rv R') : OpS X (binaryOp o) x y R rv R' := by
  cases x with
  | obj c ns ds =>
    cases y with
    | obj c' ns' ds' =>
      simp only [binopX] at h
      split at h
      · rename_i hcc
        subst hcc
        cases ho' : opId o with
        | none => rw [ho'] at h; cases h
        | some m =>
          rw [ho'] at h
          dsimp only at h
          refine ⟨_, opr_w, fun M P F H vx vy Q r hx hy p => ?_⟩
          have ho : 65536 ≤ m ∧ nmN m = dunder o.info.2 := by
            cases o <;> first | cases ho'; exact ⟨by decide, by decide +kernel⟩ | cases ho'
          obtain ⟨g, C, a, b, dx, vs, rfl, hsl, O, q'⟩ := own_of fa ho.1 h hx r
          obtain ⟨b', C', dx', vs', us', rfl, h1', h2', h3', h4'⟩ := hy.obj
          have hCC := O.cls.one h1'
          subst hCC
          intro pins s σ v u I rx ry
          obtain rfl : v = Value.ref b := rx
          obtain rfl : u = Value.ref b' := ry
          obtain ⟨sl, od, _, J, _⟩ := SlX.slt_inst I hsl
          obtain ⟨sl', od', _, J', _⟩ := SlX.slt_inst I (r.ex.slo h2').slt
          obtain ⟨mm, hF⟩ := I.fr
          have hat := O.mt.at_
          rw [ho.2] at hat
          refine PySem.W.binop_K hF I.ok.mod.kin J J'.type O.cls.sf hat O.mt.fn ?_
          refine wpAny_mono (wpAny_call (run_fnR (us := [.ref b, .ref b']) (vs := [.ref b, .ref b']) O.fn (ok.room.mono (by omega)) (ok.pass X rfl rfl) I (.cons rfl (.cons rfl .nil)) (own_sp q' (.cons hx (.cons hy .nil)) r p))) (fun w s' z => ?_) fun _ _ x => x
          obtain ⟨z', H', I', rz, qz⟩ := z
          exact SlX.cmpback rz ⟨z', H', I', rz, qz⟩
      · cases h
    | _ => cases h
  | _ => exact binop_ok h
/-- -x -/
theorem negX_ok (ok : Okx CX k X) (fa : Facts T cf CX k X) (h : negX cf x R = .ok rv R') : ∀ (M : Mp) (P : Ps) (F H : Hp) (vx : V) (Q : VK), Rel X.K M R P F H → Vr X.K M F x vx → Pst X.K M P F rv R' Q →
    ∀ (pins : List (Addr × Obj)) (s : Shared) (σ : L2.St) (v : Value), Inv X pins σ H s → RelV vx v → wpAny (model X.prog X.w) X.A (unaryOp .USub v) (EP X pins σ Q) X.xe s := by
  intro M P F H vx Q r hx p pins s σ v I rx
  cases x with
  | int i =>
    simp only [negX] at h
    cases h
    exact un_neg pins s σ H vx v Q I rx ⟨i, hx.int, p.val r (.int _)⟩
  | obj c ns ds =>
    simp only [negX] at h
    obtain ⟨g, C, a, b, dx, vs, rfl, hsl, O, q'⟩ := own_of fa (by decide) h hx r
    obtain rfl : v = Value.ref b := rx
    obtain ⟨sl, od, _, J, _⟩ := SlX.slt_inst I hsl
    have hat := O.mt.at_
    rw [show nmN mNeg = "__neg__" by decide +kernel] at hat
    exact neg_K I.kIn J hat O.mt.fn (wpAny_call (run_fnR (us := [.ref b]) (vs := [.ref b]) O.fn (ok.room.mono (by omega)) (ok.pass X rfl rfl) I (.cons rfl .nil) (own_sp q' (.cons hx .nil) r p)))
  | _ => cases h
def isTyV : Value → Bool
  | .type _ => true
  | _ => false
theorem sub_ty {C : Addr} {t : String} (h : ((fastBuiltinMro t).any fun l => l.all isTyV) = true) : PySem.W.subIn X.K (.type t) (.ref C) = some false := by
  unfold PySem.W.subIn
  cases e : fastBuiltinMro t with
  | none => rw [e] at h; cases h
  | some l =>
    rw [e] at h
    have h : l.all isTyV = true := h
    show (fastBuiltinMro t).map (fun x => x.contains (.ref C)) = some false
    rw [e]
    show some (l.contains (.ref C)) = some false
    congr 1
    rw [Bool.eq_false_iff]
    intro z
    have := List.all_eq_true.mp h _ (List.contains_iff_mem.mp z)
    cases this
theorem sub_own {c : Nat} {C D : Addr} (h : ClsA X.K c C) : PySem.W.subIn X.K (.ref C) (.ref D) = some (decide (D = C)) := by
  obtain ⟨cd, h1, h2, _⟩ := h.mro
  show PySem.W.mroIn X.K C (.ref D) = _
  unfold PySem.W.mroIn
  rw [h1, Option.bind_some, h2]
  by_cases e : D = C
  · subst e
    simp
  · rw [decide_eq_false e]
    simp [e]
def tyNms : List String := ["NoneType", "bool", "int", "str", "tuple", "list", "dict"]
theorem sub_nm {C : Addr} {t : String} (ht : t ∈ tyNms) : PySem.W.subIn X.K (.type t) (.ref C) = some false := by
  simp only [tyNms, List.mem_cons, List.not_mem_nil, or_false] at ht
  refine sub_ty ?_
  rcases ht with rfl | rfl | rfl | rfl | rfl | rfl | rfl <;> decide +kernel
/-- the type of what may stand right of an own == -/
theorem eqArg_ty {D : Addr} (hy : eqArg y = true) {v : V} {u : Value} {pins : List (Addr × Obj)} {s : Shared} {σ : L2.St} (hv : Vr X.K M F y v) (r : Rel X.K M R P F H) (I : Inv X pins σ H s) (ru : RelV v u) :
    ∃ tb, PySem.W.Looks (model X.prog X.w) s.heap (typeOf u) tb ∧ PySem.W.notFirst X.K D tb = true := by
  have bt : ∀ t : String, t ∈ tyNms → PySem.W.notFirst X.K D (.type t) = true := fun t ht => by
    unfold PySem.W.notFirst
    rw [sub_nm ht]
    simp
  have ty : ∀ {t : String}, TyX X.K H v (.type t) → t ∈ tyNms → ∃ tb, PySem.W.Looks (model X.prog X.w) s.heap (typeOf u) tb ∧ PySem.W.notFirst X.K D tb = true := fun {t} h ht => by
    obtain ⟨Pp, Z, pp, _⟩ := kit_of I ru h
    exact ⟨_, Z.ty _ _ I.kIn pp, bt t ht⟩
  cases y with
  | non => cases hv.non; exact ty (.base .non) (by decide)
  | bl b => cases hv.bl; exact ty (.base (.bl _)) (by decide)
  | int i => cases hv.int; exact ty (.base (.int _)) (by decide)
  | str x => cases hv.str; exact ty (.base (.str _)) (by decide)
  | tup ds =>
    obtain ⟨a, vs, rfl, h1, h2⟩ := hv.tup
    rcases r.ex.sqT h1 with (h | ⟨o, h⟩) | ⟨o, its, n, h, hc, _⟩
    · exact ty (.base (.tup h)) (by decide)
    · exact ty (.fTuple h) (by decide)
    · exact ty (.kTuple h hc) (by decide)
  | ktp ds =>
    obtain ⟨a, vs, rfl, h1, h2⟩ := hv.ktp
    rcases r.ex.sqT h1 with (h | ⟨o, h⟩) | ⟨o, its, n, h, hc, _⟩
    · exact ty (.base (.tup h)) (by decide)
    · exact ty (.fTuple h) (by decide)
    · exact ty (.kTuple h hc) (by decide)
  | lst ds =>
    obtain ⟨a, vs, rfl, h1, h2⟩ := hv.lst
    exact ty (.base (.lst (r.ex _ _ h1))) (by decide)
  | scr ds => cases hy
  | dct ks ds =>
    obtain ⟨a, vs, rfl, h1, h2⟩ := hv.dct
    exact ty (.base (.dK (r.ex _ _ h1))) (by decide)
  | dcT ks ds =>
    obtain ⟨a, vs, rfl, h1, h2⟩ := hv.dcT
    exact ty (.base (.dT (r.ex _ _ h1))) (by decide)
  | obj c ns ds =>
    obtain ⟨a, C, dx, vs, us, rfl, h1, h2, h3, h4⟩ := hv.obj
    obtain rfl : u = Value.ref a := ru
    obtain ⟨sl, od, _, J, _⟩ := SlX.slt_inst I (r.ex.slo h2).slt
    refine ⟨_, J.type, ?_⟩
    unfold PySem.W.notFirst
    rw [sub_own h1]
    by_cases e : D = C
    · subst e
      simp
    · simp [e]
  | ref _ _ => cases hy
theorem keyD_v {d : D} {v : V} {kk : Key} (h : keyD d = some kk) (hv : Vr X.K M F d v) : v = kV kk := by
  cases d with
  | int i => cases h; exact hv.int
  | str x => cases h; exact hv.str
  | _ => cases h
theorem keysD_v : ∀ {ds : List D} {vs : List V} {kk : List Key}, keysD ds = some kk → DenL X.K F ds vs → vs = kk.map kV
  | [], _, _, h, .nil => by cases h; rfl
  | d :: ds, _, kk, h, .cons hd ht => by
    simp only [keysD] at h
    cases z1 : keyD d with
    | none => rw [z1] at h; cases h
    | some k1 =>
      cases z2 : keysD ds with
      | none => rw [z1, z2] at h; cases h
      | some k2 =>
        rw [z1, z2] at h
        cases h
        rw [keyD_v (M := fun _ _ => 0) z1 (.inr hd), keysD_v z2 ht]
        rfl
/-- what is held, and what its denotation holds -/
def OptD (K : PySem.W.Frag) (F : Hp) : Option D → Option V → Prop
  | some d, some v => Den K F d v
  | none, none => True
  | _, _ => False
theorem lookK_v {α : Type} [DecidableEq α] {K : PySem.W.Frag} {F : Hp} (kk : α) : ∀ {kvs : List (α × V)} {ds : List D}, DenL K F ds (kvs.map (·.2)) → OptD K F (lookK (kvs.map (·.1)) ds kk) (valV kvs kk)
  | [], _, .nil => trivial
  | (k1, v) :: kvs, _, .cons h t => by
    simp only [List.map_cons, lookK]
    by_cases e : k1 = kk
    · rw [if_pos e, valV_pos (p := (k1, v)) e]
      exact h
    · rw [if_neg e, valV_neg (p := (k1, v)) e]
      exact lookK_v kk t
theorem dctGet_ok {k' : D} {o : Option D} {vx vk : V} (r : Rel X.K M R P F H) (hx : Vr X.K M F x vx) (hk : Vr X.K M F k' vk) (h : dctGet R x k' = some o) : ∃ a ov, vx = .ref a ∧ DGet H a vk ov ∧ OptD X.K F o ov := by
  have one : ∀ {ks : List Key} {ds : List D} {a : Addr} {kvs : List (Key × V)}, vx = .ref a → H a = some (.dK kvs) → kvs.map (·.1) = ks → DenL X.K F ds (kvs.map (·.2)) → (keyD k').map (fun k => lookK ks ds k) = some o → ∃ a ov, vx = .ref a ∧ DGet H a vk ov ∧ OptD X.K F o ov := by
    intro ks ds a kvs e h1 h2 h3 h
    cases z : keyD k' with
    | none => rw [z] at h; cases h
    | some kk =>
      rw [z] at h
      cases h
      refine ⟨a, valV kvs kk, e, ?_, ?_⟩
      · rw [keyD_v z hk]
        exact DGet.k h1
      · subst h2
        exact lookK_v kk h3
  have two : ∀ {ks : List (List Key)} {ds : List D} {a : Addr} {kvs : List (List Key × V)}, vx = .ref a → H a = some (.dT kvs) → kvs.map (·.1) = ks → DenL X.K F ds (kvs.map (·.2)) → (match k' with
    | .tup es => (keysD es).map fun k => lookK ks ds k
    | _ => none) = some o → ∃ a ov, vx = .ref a ∧ DGet H a vk ov ∧ OptD X.K F o ov := by
    intro ks ds a kvs e h1 h2 h3 h
    cases k' with
    | tup es =>
      dsimp only at h
      cases z : keysD es with
      | none => rw [z] at h; cases h
      | some kk =>
        rw [z] at h
        cases h
        obtain ⟨b, us, rfl, g1, g2⟩ := hk.tupF
        refine ⟨a, valV kvs kk, e, ?_, ?_⟩
        · rw [keysD_v z g2] at g1
          exact DGet.t h1 (r.ex _ _ g1)
        · subst h2
          exact lookK_v kk h3
    | _ => cases h
  cases x with
  | dct ks ds =>
    obtain ⟨a, kvs, rfl, h1, h2, h3⟩ := hx.dct
    exact one rfl (r.ex _ _ h1) h2 h3 h
  | dcT ks ds =>
    obtain ⟨a, kvs, rfl, h1, h2, h3⟩ := hx.dcT
    exact two rfl (r.ex _ _ h1) h2 h3 h
  | ref j i =>
    have := hx.ref
    subst this
    cases hs : sget R j i with
    | none => simp only [dctGet, derefs, hs] at h; cases h
    | some u =>
      have ho := r.ob j i u hs
      cases u with
      | dct ks ds =>
        simp only [dctGet, derefs, hs, fzO] at h
        obtain ⟨_, kvs, h1, h2, h3⟩ := ho
        exact one rfl h1 h2 h3 h
      | dcT ks ds =>
        simp only [dctGet, derefs, hs, fzO] at h
        obtain ⟨_, kvs, h1, h2, h3⟩ := ho
        exact two rfl h1 h2 h3 h
      | frz d =>
        cases d with
        | dct ks ds =>
          simp only [dctGet, derefs, hs, fzO] at h
          have ho : Den X.K F (.dct ks ds) (.ref (M j i)) := ho
          cases ho with
          | dct h1 h2 h3 => exact one rfl (r.ex _ _ h1) h2 h3 h
        | dcT ks ds =>
          simp only [dctGet, derefs, hs, fzO] at h
          have ho : Den X.K F (.dcT ks ds) (.ref (M j i)) := ho
          cases ho with
          | dcT h1 h2 h3 => exact two rfl (r.ex _ _ h1) h2 h3 h
        | _ => simp only [dctGet, derefs, hs, fzO] at h; cases h
      | _ => simp only [dctGet, derefs, hs, fzO] at h; cases h
  | _ => simp only [dctGet, derefs] at h; cases h
theorem units1 (ok : Okx CX k X) : X.A.units + 1 < cLine := Nat.lt_of_le_of_lt (Nat.add_le_add_left (by decide : 1 ≤ 64) _) ok.room.units
/-- d[k], xs[i] -/
theorem subX_ok (ok : Okx CX k X) {d : D} (h : subX x y R = some d) : IxS X x y R (.val d) R := by
  unfold subX at h
  split at h
  · rename_i o hd
    subst h
    refine ⟨fun x y H Q => ∃ a v, x = .ref a ∧ DGet H a y (some v) ∧ Q v H, fun value slice pins s σ H x y v u Q I rx ry h hs => ?_, fun M P F H vx vy Q r hx hy p => ?_⟩
    · obtain ⟨a, v', rfl, g, q⟩ := h
      obtain rfl : v = Value.ref a := rx
      exact tail_any (dict_typeIs I g) PySem.F.slot_dict_getitem.lookup (d_getItem (units1 ok) I g ry fun w' s3 I3 rw' => ⟨v', H, I3, rw', q⟩) hs
    · obtain ⟨a, ov, rfl, g, ho⟩ := dctGet_ok r hx hy hd
      cases ov with
      | none => exact ho.elim
      | some v => exact ⟨a, v, rfl, g, p.val r ho⟩
  · exact subOp_ok h
theorem cmpY_ok (ok : Okx CX k X) {o : CmpOp} {b : Bool} (h : cmpY o x y R = some b) : OpS X (compareOp o) x y R (.val (.bl b)) R := by
  unfold cmpY at h
  split at h
  · split at h
    · rename_i r hd
      cases h
      refine ⟨fun x y H Q => ∃ a ov, y = .ref a ∧ DGet H a x ov ∧ Q (.bl ov.isSome) H, fun pins s σ H x y v u Q I rx ry h => ?_, fun M P F H vx vy Q r' hx hy p => ?_⟩
      · obtain ⟨a, ov, rfl, g, q⟩ := h
        obtain rfl : u = Value.ref a := ry
        exact d_in (units1 ok) I g rx fun s3 I3 => ⟨.bl ov.isSome, H, I3, rfl, q⟩
      · obtain ⟨a, ov, rfl, g, ho⟩ := dctGet_ok r' hy hx hd
        refine ⟨a, ov, rfl, g, ?_⟩
        have e : ov.isSome = r.isSome := by cases ov <;> cases r <;> first | rfl | exact ho.elim
        rw [e]
        exact p.val r' (.bl _)
    · exact cmpop_ok ok.room.units h
  · split at h
    · rename_i r hd
      cases h
      refine ⟨fun x y H Q => ∃ a ov, y = .ref a ∧ DGet H a x ov ∧ Q (.bl (!ov.isSome)) H, fun pins s σ H x y v u Q I rx ry h => ?_, fun M P F H vx vy Q r' hx hy p => ?_⟩
      · obtain ⟨a, ov, rfl, g, q⟩ := h
        obtain rfl : u = Value.ref a := ry
        exact d_notIn (units1 ok) I g rx fun s3 I3 => ⟨.bl (!ov.isSome), H, I3, rfl, q⟩
      · obtain ⟨a, ov, rfl, g, ho⟩ := dctGet_ok r' hy hx hd
        refine ⟨a, ov, rfl, g, ?_⟩
        have e : ov.isSome = r.isSome := by cases ov <;> cases r <;> first | rfl | exact ho.elim
        rw [e]
        exact p.val r' (.bl _)
    · exact cmpop_ok ok.room.units h
  · exact cmpop_ok ok.room.units h
/-- x == y, x != y -/
theorem cmpX_ok (ok : Okx CX k X) (fa : Facts T cf CX k X) {o : CmpOp} (h : cmpX cf o x y R = .ok rv R') : ∃ b, rv = .val (.bl b) ∧ OpS X (compareOp o) x y R rv R' := by
  cases x with
  | obj c ns ds =>
    simp only [cmpX] at h
    split at h
    · rename_i hy
      cases o with
      | Eq =>
        dsimp only at h
        split at h
        · rename_i b R1 q
          cases h
          refine ⟨b, rfl, _, opr_w, fun M P F H vx vy Q r hx hy' p => ?_⟩
          obtain ⟨g, C, a, bb, dx, vs, rfl, hsl, O, q'⟩ := own_of fa (by decide) q hx r
          intro pins s σ v u I rx ry
          obtain rfl : v = Value.ref bb := rx
          obtain ⟨sl, od, _, J, _⟩ := SlX.slt_inst I hsl
          obtain ⟨mm, hF⟩ := I.fr
          obtain ⟨tb, hb, hn⟩ := eqArg_ty (D := C) hy hy' r I ry
          have hat := O.mt.at_
          rw [show nmN mEq = (cmpInfo .Eq).2.1 by decide +kernel] at hat
          refine PySem.W.cmp_K (op := .Eq) ok.room.units0 hF I.ok.mod.kin J hb hn hat O.mt.fn ?_
          refine wpAny_mono (wpAny_call (run_fnR (us := [.ref bb, u]) (vs := [.ref bb, vy]) O.fn (ok.room.mono (by omega)) (ok.pass X rfl rfl) I (.cons rfl (.cons ry .nil)) (own_sp q' (.cons hx (.cons hy' .nil)) r p))) (fun w s' z => ?_) fun _ _ x => x
          obtain ⟨z', H', I', rz, qz⟩ := z
          exact SlX.cmpback rz ⟨z', H', I', rz, qz⟩
        · cases h
      | NotEq =>
        dsimp only at h
        split at h
        · rename_i b R1 q
          cases h
          refine ⟨!b, rfl, _, opr_w, fun M P F H vx vy Q r hx hy' p => ?_⟩
          obtain ⟨g, C, a, bb, dx, vs, rfl, hsl, O, q'⟩ := own_of fa (by decide) q hx r
          intro pins s σ v u I rx ry
          obtain rfl : v = Value.ref bb := rx
          obtain ⟨sl, od, _, J, _⟩ := SlX.slt_inst I hsl
          obtain ⟨mm, hF⟩ := I.fr
          obtain ⟨tb, hb, hn⟩ := eqArg_ty (D := C) hy hy' r I ry
          have hat := O.mt.at_
          rw [show nmN mEq = "__eq__" by decide +kernel] at hat
          have hr1 : Room (k + 2) X.A.in1 := Room.in1 ok.room
          refine ne_K hr1.units0 hF I.ok.mod.kin J hb hn hat O.cls.ne O.cls.si.cm O.mt.fn ?_
          have p' : Pst X.K M P F (.val (.bl b)) R' (fun v H' => v = .bl b ∧ Q (.bl (!b)) H') := fun v F' H' e r' hv => ⟨Vr.bl hv, p _ F' H' e r' (.inr (.bl _))⟩
          refine wpAny_mono (wpAny_call (SlX.run_at (us := [.ref bb, u]) (ws := [.ref bb, vy]) O.fn (hr1.mono (by omega)) I.env0.in1 (ok.pass X rfl rfl) I (.cons rfl (.cons ry .nil)) (own_sp q' (.cons hx (.cons hy' .nil)) r p'))) (fun w s' z => ?_) fun _ _ x => x
          obtain ⟨z', H', I', rz, rfl, qz⟩ := z
          cases rz
          exact ⟨b, rfl, .bl (!b), H', I', rfl, qz⟩
        · cases h
      | _ => cases h
    · cases h
  | _ =>
    obtain ⟨b, q, rfl, rfl⟩ := liftO_ok h
    exact ⟨b, rfl, cmpY_ok ok q⟩
/-- a built-in function -/
theorem bltX_ok (ok : Okx CX k X) (fa : Facts T cf CX k X) {b : Bk} {ds : List D} (h : bltX cf b ds R = .ok rv R') : CallS X b.val ds R rv R' := by
  unfold bltX at h
  split at h
  · rename_i c ns es
    cases b with
    | bool1 =>
      dsimp only at h
      split at h
      · rename_i bb R1 q
        cases h
        refine ⟨fun vs H Q => ∀ (pins : List (Addr × Obj)) (s : Shared) (σ : L2.St) (us : List Value), Inv X pins σ H s → Vals vs us → wpAny (model X.prog X.w) X.A (call (.type "bool") us) (EP X pins σ Q) X.xe s,
          fun pins s σ H xs us Q I r h => h pins s σ us I r, fun M P F H vs Q r hv p => ?_⟩
        obtain ⟨v, rfl, hv1⟩ := hv.one
        obtain ⟨g, C, a, b', dx, vs, rfl, hsl, O, q'⟩ := own_of fa (by decide) q hv1 r
        intro pins s σ us I rus
        obtain rfl := Vals.ref1 rus
        obtain ⟨sl, od, _, J, _⟩ := SlX.slt_inst I hsl
        obtain ⟨mm, hF⟩ := I.fr
        have hat := O.mt.at_
        rw [show nmN mBool = "__bool__" by decide +kernel] at hat
        have hr1 : Room (k + 1) X.A.in1.in1 := Room.in1 (Room.in1 ok.room)
        refine bool_own hF I.ok.mod.kin J hat O.mt.fn ?_
        have p' : Pst X.K M P F (.val (.bl bb)) R' (fun v H' => v = .bl bb ∧ Q (.bl bb) H') := fun v F' H' e r' hv => ⟨Vr.bl hv, p _ F' H' e r' (.inr (.bl _))⟩
        refine wpAny_mono (wpAny_call (SlX.run_at (us := [.ref b']) (ws := [.ref b']) O.fn (hr1.mono (by omega)) I.env0.in1.in1 (ok.pass X rfl rfl) I (.cons rfl .nil) (own_sp q' (.cons hv1 .nil) r p'))) (fun w s' z => ?_) fun _ _ x => x
        obtain ⟨z', H', I', rz, rfl, qz⟩ := z
        cases rz
        exact ⟨bb, rfl, .bl bb, H', I', rfl, qz⟩
      · cases h
    | _ => cases h
  · exact bltop_ok ok.calm h
end
end EV

/-! EvG: what a code gives, the text's expression gives. -/
namespace EV
open PySem PySem.Spec PyProof.Rows L2

def SV (X : Cx) (cf : Cf) (lf : Nat) (c : C) (e : Expr) : Prop := ∀ (σD : List (Option D)) (R R' : Sto) (M : Mp) (P : Ps) (F : Hp) (σ : L2.St) (H : Hp) (rv : Rv), Rel X.K M R P F H → ER X.K M F σD σ → ev cf lf c σD R = .ok rv R' → (∀ ds, rv ≠ .many ds) → WE X e σ H (PV X M R' P F rv)
def SA (X : Cx) (cf : Cf) (lf : Nat) (c : C) (es : List Expr) : Prop := ∀ (σD : List (Option D)) (R R' : Sto) (M : Mp) (P : Ps) (F : Hp) (σ : L2.St) (H : Hp) (ds : List D), Rel X.K M R P F H → ER X.K M F σD σ → ev cf lf c σD R = .ok (.many ds) R' → WA X es σ H (PL X M R' P F ds)
def ST (X : Cx) (cf : Cf) (lf : Nat) (c : C) (e : Expr) : Prop := ∀ (σD : List (Option D)) (R R' : Sto) (M : Mp) (P : Ps) (F : Hp) (σ : L2.St) (H : Hp) (rv : Rv) (b : Bool), Rel X.K M R P F H → ER X.K M F σD σ → ev cf lf c σD R = .ok rv R' → (∀ ds, rv ≠ .many ds) → truth R' (fz rv) = some b → WT X e σ H (PB X M R' P F b)

section
variable {T : Tb} {cf : Cf} {lf k : Nat} {CX : CXT} {X : Cx} {c : C} {e : Expr} {es : List Expr} {σD : List (Option D)} {R R' : Sto} {M : Mp} {P : Ps} {F : Hp} {σ : L2.St} {H : Hp} {rv : Rv}
theorem SV.d (h : SV X cf lf c e) (r : Rel X.K M R P F H) (er : ER X.K M F σD σ) (q : ev cf lf c σD R = .ok rv R') (hm : ∀ ds, rv ≠ .many ds) : WE X e σ H (PD X M R' P F (fz rv)) :=
  we_mono (h σD R R' M P F σ H rv r er q hm) fun v H' ⟨F', e1, r1, v1⟩ => by
    obtain ⟨G, g1, g2, g3⟩ := r1.fz v1
    exact ⟨G, e1.trans g1, g2, g3⟩
/-- a test of an expression whose value is tested -/
theorem SV.t (h : SV X cf lf c e) (hp : plainT e = true) : ST X cf lf c e := fun σD R R' M P F σ H rv b r er q hm ht => by
  refine wt_of (pt_truth pe_w (plainT_of hp)) ?_
  refine we_mono (h.d r er q hm) fun v H' ⟨F', e1, r1, v1⟩ => ?_
  exact ⟨b, r1.truth v1 ht, rfl, F', e1, r1⟩
theorem gl_of {x : Str} (h : glB X.env.scope x = true) : Gl X x ∧ (x == ("__debug__" : Str)) = false ∧ x ≠ "__name__" := by
  unfold glB at h
  split at h
  · rename_i hl
    rw [Bool.and_eq_true] at h
    obtain ⟨h1, h2⟩ := h
    refine ⟨hl, ?_, ?_⟩
    · cases q : (x == ("__debug__" : Str)) with
      | false => rfl
      | true => rw [q] at h1; cases h1
    · intro z
      rw [decide_eq_true z] at h2
      cases h2
  · cases h
theorem vis_of {sc : Scope} {x : Str} (h : visB sc x = true) : Vis sc x := by
  unfold visB at h
  split at h
  · rename_i hl; exact .inl hl
  · rename_i hl; exact .inr (.inl hl)
  · rename_i hl; exact .inr (.inr hl)
  · cases h
theorem lit_of {d : D} {c : Const} {p : Pos} {n : Nat} (h : litB d c = true) : ∃ v, PE X (.Constant c n p) (tC v) ∧ ∀ K F, Den K F d v := by
  unfold litB at h
  split at h
  · cases of_decide_eq_true h; exact ⟨_, pe_int, fun _ _ => .int _⟩
  · cases beq_iff_eq.mp h; exact ⟨_, pe_bl, fun _ _ => .bl _⟩
  · exact ⟨_, pe_non, fun _ _ => .non⟩
  · cases of_decide_eq_true h; exact ⟨_, pe_str, fun _ _ => .str _⟩
  · cases h
theorem nobool {b : Bool} (h : (!b) = true) : b = false := by
  cases b with
  | false => rfl
  | true => cases h
theorem litB_notMany {c : C} : True := trivial
theorem chkA_noStar : ∀ {c : C} {sc : Scope} {N : List Str} {es : List Expr} {p : Pos}, chk T c sc N (.List es p) = true → (∃ σD R ds R', ev cf lf c σD R = .ok (.many ds) R') → NoStar es
  | .nil, _, _, es, _, h, _ => by
    cases es with
    | nil => exact .nil
    | cons _ _ => simp [chk] at h
  | .cons a as, _, _, es, _, h, ⟨σD, R, ds, R', q⟩ => by
    cases es with
    | nil => simp [chk] at h
    | cons x r =>
      simp only [chk, Bool.and_eq_true] at h
      simp only [ev] at q
      obtain ⟨_, R1, _, _, q⟩ := bindV_ok q
      obtain ⟨ds', R2, q, _⟩ := bindA_ok q
      exact .cons (nobool h.1.1) (chkA_noStar h.2 ⟨_, _, _, _, q⟩)
  | .lst _, _, _, _, _, _, ⟨σD, R, ds, R', q⟩ => by
    simp only [ev] at q
    obtain ⟨_, _, _, q⟩ := bindA_ok q
    split at q
    · split at q <;> cases q
    · cases q
  | .var _, _, _, _, _, h, _ => by simp [chk] at h
  | .lit _, _, _, _, _, h, _ => by simp [chk] at h
  | .glob _ _, _, _, _, _, h, _ => by simp [chk] at h
  | .bin _ _ _, _, _, _, _, h, _ => by simp [chk] at h
  | .neg _, _, _, _, _, h, _ => by simp [chk] at h
  | .notE _, _, _, _, _, h, _ => by simp [chk] at h
  | .cmp _ _ _, _, _, _, _, h, _ => by simp [chk] at h
  | .chn _ _ _ _ _, _, _, _, _, h, _ => by simp [chk] at h
  | .chn3 _ _ _ _ _ _ _, _, _, _, _, h, _ => by simp [chk] at h
  | .andE _ _, _, _, _, _, h, _ => by simp [chk] at h
  | .orE _ _, _, _, _, _, h, _ => by simp [chk] at h
  | .ife _ _ _, _, _, _, _, h, _ => by simp [chk] at h
  | .tup _, _, _, _, _, h, _ => by simp [chk] at h
  | .call _ _, _, _, _, _, h, _ => by simp [chk] at h
  | .blt _ _, _, _, _, _, h, _ => by simp [chk] at h
  | .isi _ _, _, _, _, _, h, _ => by simp [chk] at h
  | .sub _ _, _, _, _, _, h, _ => by simp [chk] at h
  | .slc _ _ _, _, _, _, _, h, _ => by simp [chk] at h
  | .rng1 _, _, _, _, _, h, _ => by simp [chk] at h
  | .dg2 _ _ _ _ _ _, _, _, _, _, h, _ => by simp [chk] at h
  | .rng2 _ _, _, _, _, _, h, _ => by simp [chk] at h
  | .comp _ _ _ _, _, _, _, _, h, _ => by simp [chk] at h
  | .callD _ _ _, _, _, _, _, h, _ => by simp [chk] at h
  | .fld _ _, _, _, _, _, h, _ => by simp [chk] at h
  | .prp _ _, _, _, _, _, h, _ => by simp [chk] at h
  | .mth _ _ _, _, _, _, _, h, _ => by simp [chk] at h
  | .new _ _ _, _, _, _, _, h, _ => by simp [chk] at h
  | .isiC _ _ _, _, _, _, _, h, _ => by simp [chk] at h
  | .dnew, _, _, _, _, h, _ => by simp [chk] at h
  | .dget _ _ _, _, _, _, _, h, _ => by simp [chk] at h
  | .itm _, _, _, _, _, h, _ => by simp [chk] at h
  | .zipE _ _, _, _, _, _, h, _ => by simp [chk] at h
  | .enmE _, _, _, _, _, h, _ => by simp [chk] at h
end

structure Snd (T : Tb) (cf : Cf) (lf : Nat) (CX : CXT) (k : Nat) (c : C) : Prop where
  v : ∀ X, Okx CX k X → Facts T cf CX k X → ∀ e, chk T c X.env.scope X.N e = true → SV X cf lf c e
  a : ∀ X, Okx CX k X → Facts T cf CX k X → ∀ es p, chk T c X.env.scope X.N (.List es p) = true → SA X cf lf c es
  t : ∀ X, Okx CX k X → Facts T cf CX k X → ∀ e, chk T c X.env.scope X.N e = true → ST X cf lf c e
section
variable {T : Tb} {cf : Cf} {lf k : Nat} {CX : CXT} {c : C}
/-- a code whose text is tested by its value, and that is no list of arguments -/
theorem Snd.of (hv : ∀ X, Okx CX k X → Facts T cf CX k X → ∀ e, chk T c X.env.scope X.N e = true → SV X cf lf c e) (hp : ∀ sc N e, chk T c sc N e = true → plainT e = true) (hl : ∀ sc N es p, chk T c sc N (.List es p) = true → ∀ σD R ds R', ev cf lf c σD R ≠ .ok (.many ds) R') : Snd T cf lf CX k c :=
  ⟨hv, fun X ok fa es p h σD R R' M P F σ H ds r er q => absurd q (hl _ _ _ _ h _ _ _ _), fun X ok fa e h => (hv X ok fa e h).t (hp _ _ _ h)⟩
theorem snd_var (i : Nat) : Snd T cf lf CX k (.var i) := by
  refine .of (fun X ok fa e h => ?_) (fun sc N e h => ?_) (fun sc N es p h => by simp [chk] at h)
  · cases e with
    | Name x p =>
      simp only [chk, Bool.and_eq_true] at h
      obtain ⟨⟨⟨h1, h2⟩, h3⟩, h4⟩ := h
      intro σD R R' M P F σ H rv r er q hm
      simp only [ev] at q
      split at q
      · rename_i d hd
        cases q
        obtain ⟨v, e1, e2⟩ := er.2 i d hd
        exact we_of (pe_var (of_decide_eq_true h1) (vis_of h2) (nobool h3) (nobool h4)) ⟨v, e1, F, .refl F, r, e2⟩
      · cases q
    | _ => simp [chk] at h
  · cases e <;> first | rfl | simp [chk] at h
theorem snd_lit (d : D) : Snd T cf lf CX k (.lit d) := by
  refine .of (fun X ok fa e h => ?_) (fun sc N e h => ?_) (fun sc N es p h => by simp [chk] at h)
  · cases e with
    | Constant c n p =>
      simp only [chk] at h
      intro σD R R' M P F σ H rv r er q hm
      simp only [ev] at q
      cases q
      obtain ⟨v, h1, h2⟩ := lit_of (X := X) (p := p) (n := n) h
      exact we_of h1 ⟨F, .refl F, r, .inr (h2 _ _)⟩
    | _ => simp [chk] at h
  · cases e <;> first | rfl | simp [chk] at h
theorem snd_glob (g : Nat) (d : D) : Snd T cf lf CX k (.glob g d) := by
  refine .of (fun X ok fa e h => ?_) (fun sc N e h => ?_) (fun sc N es p h => by simp [chk] at h)
  · cases e with
    | Name x p =>
      simp only [chk, Bool.and_eq_true] at h
      obtain ⟨⟨h1, h2⟩, h3⟩ := h
      split at h3
      · rename_i d' hd
        cases eqD_ok h3
        intro σD R R' M P F σ H rv r er q hm
        simp only [ev] at q
        cases q
        obtain ⟨u, v, f1, f2, f3⟩ := fa.gl g x d (of_decide_eq_true h1) hd
        obtain ⟨g1, g2, _⟩ := gl_of h2
        exact we_of (pe_glob g1 f1 f2 g2) ⟨F, .refl F, r, .inr (f3.mono fun a o (z : none = some o) => by cases z)⟩
      · cases h3
    | _ => simp [chk] at h
  · cases e <;> first | rfl | simp [chk] at h
theorem snd_bin (o : Operator) {a b : C} (ha : Snd T cf lf CX k a) (hb : Snd T cf lf CX k b) : Snd T cf lf CX k (.bin o a b) := by
  refine .of (fun X ok fa e h => ?_) (fun sc N e h => ?_) (fun sc N es p h => by simp [chk] at h)
  · cases e with
    | BinOp x o' y p =>
      simp only [chk, Bool.and_eq_true] at h
      obtain ⟨⟨h1, h2⟩, h3⟩ := h
      cases of_decide_eq_true h1
      intro σD R R' M P F σ H rv r er q hm
      simp only [ev] at q
      obtain ⟨x, R1, q1, m1, q⟩ := bindV_ok q
      obtain ⟨y, R2, q2, m2, q⟩ := bindV_ok q
      obtain ⟨rl, o1, o2⟩ := binopX_ok (X := X) ok fa q
      refine we_of (pe_op o1 pe_w pe_w) ?_
      refine we_mono ((ha.v X ok fa _ h2).d r er q1 m1) fun vx H1 ⟨F1, e1, r1, v1⟩ => ?_
      refine we_mono ((hb.v X ok fa _ h3).d r1 (er.mono e1) q2 m2) fun vy H2 ⟨F2, e2, r2, v2⟩ => ?_
      exact o2 M P F2 H2 vx vy _ r2 (v1.mono e2) v2 fun v F' H' e3 r3 h => ⟨F', (e1.trans e2).trans e3, r3, h⟩
    | _ => simp [chk] at h
  · cases e <;> first | rfl | simp [chk] at h
theorem snd_neg {a : C} (ha : Snd T cf lf CX k a) : Snd T cf lf CX k (.neg a) := by
  refine .of (fun X ok fa e h => ?_) (fun sc N e h => ?_) (fun sc N es p h => by simp [chk] at h)
  · cases e with
    | UnaryOp o x p =>
      cases o with
      | USub =>
        simp only [chk] at h
        intro σD R R' M P F σ H rv r er q hm
        simp only [ev] at q
        obtain ⟨x, R1, q1, m1, q⟩ := bindV_ok q
        refine we_of (pe_un unr_w pe_w) ?_
        refine we_mono ((ha.v X ok fa _ h).d r er q1 m1) fun vx H1 ⟨F1, e1, r1, v1⟩ => ?_
        exact negX_ok ok fa q M P F1 H1 vx _ r1 v1 fun v F' H' e3 r3 h => ⟨F', e1.trans e3, r3, h⟩
      | _ => simp [chk] at h
    | _ => simp [chk] at h
  · cases e with
    | UnaryOp o x p => cases o <;> first | rfl | simp [chk] at h
    | _ => first | rfl | simp [chk] at h
theorem snd_sub {a i : C} (ha : Snd T cf lf CX k a) (hi : Snd T cf lf CX k i) : Snd T cf lf CX k (.sub a i) := by
  refine .of (fun X ok fa e h => ?_) (fun sc N e h => ?_) (fun sc N es p h => by simp [chk] at h)
  · cases e with
    | Subscript x y p =>
      simp only [chk, Bool.and_eq_true] at h
      obtain ⟨⟨h1, h2⟩, h3⟩ := h
      intro σD R R' M P F σ H rv r er q hm
      simp only [ev] at q
      obtain ⟨x, R1, q1, m1, q⟩ := bindV_ok q
      obtain ⟨y, R2, q2, m2, q⟩ := bindV_ok q
      obtain ⟨d, q3, rfl, rfl⟩ := liftO_ok q
      obtain ⟨rl, o1, o2⟩ := subX_ok (X := X) ok q3
      refine we_of (pe_ix o1 pe_w pe_w (plainIx_of (nobool h1))) ?_
      refine we_mono ((ha.v X ok fa _ h2).d r er q1 m1) fun vx H1 ⟨F1, e1, r1, v1⟩ => ?_
      refine we_mono ((hi.v X ok fa _ h3).d r1 (er.mono e1) q2 m2) fun vy H2 ⟨F2, e2, r2, v2⟩ => ?_
      exact o2 M P F2 H2 vx vy _ r2 (v1.mono e2) v2 fun v F' H' e3 r3 h => ⟨F', (e1.trans e2).trans e3, r3, h⟩
    | _ => simp [chk] at h
  · cases e <;> first | rfl | simp [chk] at h
theorem snd_nil : Snd T cf lf CX k .nil := by
  refine ⟨fun X ok fa e h σD R R' M P F σ H rv r er q hm => ?_, fun X ok fa es p h σD R R' M P F σ H ds r er q => ?_, fun X ok fa e h σD R R' M P F σ H rv b r er q hm => ?_⟩
  · simp only [ev] at q
    cases q
    exact absurd rfl (hm _)
  · cases es with
    | nil =>
      simp only [ev] at q
      cases q
      exact wa_of pa_nil ⟨F, .refl F, r, .nil⟩
    | cons _ _ => simp [chk] at h
  · simp only [ev] at q
    cases q
    exact absurd rfl (hm _)
theorem snd_cons {a as : C} (ha : Snd T cf lf CX k a) (hs : Snd T cf lf CX k as) : Snd T cf lf CX k (.cons a as) := by
  have nm : ∀ {σD R rv R'}, ev cf lf (.cons a as) σD R = .ok rv R' → ∃ ds, rv = .many ds := fun q => by
    simp only [ev] at q
    obtain ⟨x, R1, q1, m1, q⟩ := bindV_ok q
    obtain ⟨ds, R2, q2, q⟩ := bindA_ok q
    cases q
    exact ⟨_, rfl⟩
  refine ⟨fun X ok fa e h σD R R' M P F σ H rv r er q hm => ?_, fun X ok fa es p h σD R R' M P F σ H ds r er q => ?_, fun X ok fa e h σD R R' M P F σ H rv b r er q hm => ?_⟩
  · obtain ⟨ds, e⟩ := nm q
    exact absurd e (hm _)
  · cases es with
    | nil => simp [chk] at h
    | cons x l =>
      simp only [chk, Bool.and_eq_true] at h
      obtain ⟨⟨h1, h2⟩, h3⟩ := h
      simp only [ev] at q
      obtain ⟨y, R1, q1, m1, q⟩ := bindV_ok q
      obtain ⟨ds', R2, q2, q⟩ := bindA_ok q
      cases q
      refine wa_of (pa_cons pe_w pa_w (star_cons (nobool h1))) ?_
      refine we_mono ((ha.v X ok fa _ h2).d r er q1 m1) fun vx H1 ⟨F1, e1, r1, v1⟩ => ?_
      refine wa_mono (hs.a X ok fa l p0 h3 σD R1 R' M P F1 σ H1 ds' r1 (er.mono e1) q2) fun vs H2 ⟨F2, e2, r2, v2⟩ => ?_
      exact ⟨F2, e1.trans e2, r2, .cons (v1.mono e2) v2⟩
  · obtain ⟨ds, e⟩ := nm q
    exact absurd e (hm _)
theorem snd_tup {as : C} (hs : Snd T cf lf CX k as) : Snd T cf lf CX k (.tup as) := by
  refine .of (fun X ok fa e h => ?_) (fun sc N e h => ?_) (fun sc N es p h => by simp [chk] at h)
  · cases e with
    | Tuple es n p =>
      simp only [chk] at h
      intro σD R R' M P F σ H rv r er q hm
      simp only [ev] at q
      obtain ⟨ds, R1, q1, q⟩ := bindA_ok q
      split at q
      · rename_i ds' R2 hb
        split at q
        · rename_i hz
          cases q
          refine we_of (pe_tup pa_w) ?_
          refine wa_mono (hs.a X ok fa es p0 h σD R R1 M P F σ H ds r er q1) fun vs H1 ⟨F1, e1, r1, v1⟩ => ?_
          obtain ⟨G, g1, g2, g3⟩ := r1.byvL v1 hb
          refine ⟨by rw [g3.length]; exact sz_of hz, fun a ha => ?_⟩
          obtain ⟨G', g4, g5, g6⟩ := g2.tup ha g3
          exact ⟨G', (e1.trans g1).trans g4, g5, g6⟩
        · cases q
      · cases q
    | _ => simp [chk] at h
  · cases e <;> first | rfl | simp [chk] at h
theorem snd_lst {as : C} (hs : Snd T cf lf CX k as) : Snd T cf lf CX k (.lst as) := by
  refine .of (fun X ok fa e h => ?_) (fun sc N e h => ?_) (fun sc N es p h σD R ds R' q => ?_)
  · cases e with
    | List es p =>
      simp only [chk] at h
      intro σD R R' M P F σ H rv r er q hm
      simp only [ev] at q
      obtain ⟨ds, R1, q1, q⟩ := bindA_ok q
      split at q
      · rename_i ds' R2 hb
        split at q
        · rename_i hz
          cases q
          refine we_of (pe_lst pa_w) ?_
          refine wa_mono (hs.a X ok fa es p0 h σD R R1 M P F σ H ds r er q1) fun vs H1 ⟨F1, e1, r1, v1⟩ => ?_
          obtain ⟨G, g1, g2, g3⟩ := r1.byvL v1 hb
          refine ⟨by rw [g3.length]; exact sz_of hz, fun a ha => ?_⟩
          obtain ⟨g5, g6⟩ := g2.lst ha g3
          exact ⟨G, e1.trans g1, g5, g6⟩
        · cases q
      · cases q
    | _ => simp [chk] at h
  · cases e <;> first | rfl | simp [chk] at h
  · simp only [ev] at q
    obtain ⟨ds, R1, q1, q⟩ := bindA_ok q
    split at q
    · split at q <;> cases q
    · cases q
theorem snd_call (f : Nat) {as : C} (hs : Snd T cf lf CX k as) : Snd T cf lf CX k (.call f as) := by
  refine .of (fun X ok fa e h => ?_) (fun sc N e h => ?_) (fun sc N es p h => by simp [chk] at h)
  · cases e with
    | Call g es kws p =>
      cases g with
      | Name x px =>
        cases kws with
        | nil =>
          simp only [chk, Bool.and_eq_true] at h
          obtain ⟨⟨h1, h2⟩, h3⟩ := h
          intro σD R R' M P F σ H rv r er q hm
          simp only [ev] at q
          obtain ⟨ds, R1, q1, q⟩ := bindA_ok q
          obtain ⟨a, fd, ps, f1, f2, f3, f4⟩ := fa.fn f x (of_decide_eq_true h1)
          obtain ⟨g1, g2, _⟩ := gl_of h2
          have ns := chkA_noStar h3 ⟨_, _, _, _, q1⟩
          have W := hs.a X ok fa es p0 h3 σD R R1 M P F σ H ds r er q1
          have fin : ∀ vs H1, PL X M R1 P F ds vs H1 → spC X.K cf f (vs ++ []) H1 (PV X M R' P F rv) E0 := fun vs H1 ⟨F1, e1, r1, v1⟩ => by
            rw [List.append_nil]
            exact ⟨ds, M, R1, P, F1, rv, R', q, v1, r1, fun v F' H' e2 r2 h => ⟨F', e1.trans e2, r2, h⟩⟩
          cases ns with
          | nil =>
            refine we_of (pe_call0 f4 (ok.room.mono (by omega)) g1 f1 f2 f3 .nil (ok.pass X rfl rfl) g2) ?_
            cases as with
            | nil =>
              simp only [ev] at q1
              cases q1
              exact fin [] H ⟨F, .refl F, r, .nil⟩
            | cons _ _ => simp [chk] at h3
            | lst _ =>
              simp only [ev] at q1
              obtain ⟨_, _, _, q1⟩ := bindA_ok q1
              split at q1
              · split at q1 <;> cases q1
              · cases q1
            | _ => simp [chk] at h3
          | cons hn ns =>
            exact we_of (pe_call f4 (ok.room.mono (by omega)) g1 f1 f2 f3 .nil (ok.pass X rfl rfl) pa_w g2 (star_cons hn) (any_star ns)) (wa_mono W fin)
        | cons _ _ => simp [chk] at h
      | _ => simp [chk] at h
    | _ => simp [chk] at h
  · cases e <;> first | rfl | simp [chk] at h
theorem snd_blt (b : Bk) {as : C} (hs : Snd T cf lf CX k as) : Snd T cf lf CX k (.blt b as) := by
  refine .of (fun X ok fa e h => ?_) (fun sc N e h => ?_) (fun sc N es p h => by simp [chk] at h)
  · cases e with
    | Call g es kws p =>
      cases g with
      | Name x px =>
        cases kws with
        | nil =>
          simp only [chk, Bool.and_eq_true] at h
          obtain ⟨⟨⟨⟨h1, h2⟩, h3⟩, h4⟩, h5⟩ := h
          cases of_decide_eq_true h1
          intro σD R R' M P F σ H rv r er q hm
          simp only [ev] at q
          obtain ⟨ds, R1, q1, q⟩ := bindA_ok q
          obtain ⟨rl, o1, o2⟩ := bltX_ok (X := X) ok fa q
          obtain ⟨g1, g2, g3⟩ := gl_of h3
          have ns := chkA_noStar h5 ⟨_, _, _, _, q1⟩
          have W := hs.a X ok fa es p0 h5 σD R R1 M P F σ H ds r er q1
          have fin : ∀ vs H1, PL X M R1 P F ds vs H1 → rl vs H1 (PV X M R' P F rv) := fun vs H1 ⟨F1, e1, r1, v1⟩ =>
            o2 M P F1 H1 vs _ r1 v1 fun v F' H' e2 r2 h => ⟨F', e1.trans e2, r2, h⟩
          have hm := fa.bl _ (of_decide_eq_true h2)
          cases ns with
          | nil => simp [isNil] at h4
          | cons hn ns =>
            have boot := b.boot
            cases b <;> first
              | exact we_of (pe_callB o1 g1 hm boot pa_w g3 g2 (star_cons hn) (any_star ns)) (wa_mono W fin)
              | exact we_of (pe_callTy o1 g1 hm boot pa_w g3 g2 (star_cons hn) (any_star ns)) (wa_mono W fin)
        | cons _ _ => simp [chk] at h
      | _ => simp [chk] at h
    | _ => simp [chk] at h
  · cases e <;> first | rfl | simp [chk] at h
end
end EV

/-! EvH: the rest of the expressions: tests, chains, slices, comprehensions. -/
namespace EV
open PySem PySem.Spec PyProof.Rows L2

section
variable {X : Cx} {a b c d : Expr} {ta tb tc td : TE} {pos : Pos}
/-- a op1 b op2 c op3 d -/
def tChain3 (r r' r'' : R2) (ta tb tc td : TE) : TE := fun σ H Q => ta σ H fun x H1 => tb σ H1 fun y H2 => r x y H2 fun z H3 => ∃ k, z = .bl k ∧
  (if k = true then tc σ H3 fun w H4 => r' y w H4 fun z' H5 => ∃ k', z' = .bl k' ∧ (if k' = true then td σ H5 fun u H6 => r'' w u H6 Q else Q (.bl false) H5) else Q (.bl false) H3)
theorem marks_last {o o' : CmpOp} {b c : Expr} (h : behindInMarks o' c = false) : lastMarks [o, o'] [b, c] = false := h
theorem marks_last3 {o o' o'' : CmpOp} {b c d : Expr} (h : behindInMarks o'' d = false) : lastMarks [o, o', o''] [b, c, d] = false := h
theorem pe_chain3 {op op' op'' : CmpOp} {r r' r'' : R2} (ho : OpR X (compareOp op) r) (ho' : OpR X (compareOp op') r') (ho'' : OpR X (compareOp op'') r'') (ha : PE X a ta) (hb : PE X b tb) (hc : PE X c tc) (hd : PE X d td)
    (hm : lastMarks [op, op', op''] [b, c, d] = false) : PE X (.Compare a [op, op', op''] [b, c, d] pos) (tChain3 r r' r'' ta tb tc td) := by
  refine ⟨fun pins s σ H Q I h => ?_⟩
  refine Compare_chain (thn (ha.run pins s σ H _ I h) fun v s1 ⟨x, H1, I1, r1, q1⟩ => chain_link (thn (hb.run pins s1 σ H1 _ I1 q1) fun u s2 ⟨y, H2, I2, r2, q2⟩ =>
    thn (ho pins s2 σ H2 x y v u _ I2 r1 r2 q2) fun d s3 ⟨z, H3, I3, r3, k, e, q3⟩ => ?_)) hm
  subst e
  cases r3
  refine wpAny_truthy_bool ?_
  cases k with
  | false => exact ite_ff ⟨.bl false, H3, I3, rfl, q3⟩
  | true =>
    refine ite_tt (chain_link (thn (hc.run pins s3 σ H3 _ I3 q3) fun w s4 ⟨z, H4, I4, r4, q4⟩ => thn (ho' pins s4 σ H4 y z u w _ I4 r2 r4 q4) fun d s5 ⟨z', H5, I5, r5, k', e, q5⟩ => ?_))
    subst e
    cases r5
    refine wpAny_truthy_bool ?_
    cases k' with
    | false => exact ite_ff ⟨.bl false, H5, I5, rfl, q5⟩
    | true => exact ite_tt (chain_last (thn (hd.run pins s5 σ H5 _ I5 q5) fun w' s6 ⟨z6, H6, I6, r6, q6⟩ => ho'' pins s6 σ H6 z z6 w w' Q I6 r4 r6 q6))
theorem pt_chain3 {op op' op'' : CmpOp} {r r' r'' : R2} (ho : OpR X (compareOp op) r) (ho' : OpR X (compareOp op') r') (ho'' : OpR X (compareOp op'') r'') (ha : PE X a ta) (hb : PE X b tb) (hc : PE X c tc) (hd : PE X d td)
    (hm : lastMarks [op, op', op''] [b, c, d] = false) : PT X (.Compare a [op, op', op''] [b, c, d] pos) (tTest (tChain3 r r' r'' ta tb tc td)) := by
  refine ⟨fun pins s σ H Q I h => ?_⟩
  refine isTrue_chain (thn (ha.run pins s σ H _ I h) fun v s1 ⟨x, H1, I1, r1, q1⟩ => test_link (thn (hb.run pins s1 σ H1 _ I1 q1) fun u s2 ⟨y, H2, I2, r2, q2⟩ =>
    thn (ho pins s2 σ H2 x y v u _ I2 r1 r2 q2) fun d s3 ⟨z, H3, I3, r3, k, e, q3⟩ => ?_)) hm
  subst e
  cases r3
  refine wpAny_truthy_bool ?_
  cases k with
  | false =>
    obtain ⟨k', e', q'⟩ := q3
    cases e'
    exact ite_ff ⟨H3, I3, q'⟩
  | true =>
    refine ite_tt (test_link (thn (hc.run pins s3 σ H3 _ I3 q3) fun w s4 ⟨z, H4, I4, r4, q4⟩ => thn (ho' pins s4 σ H4 y z u w _ I4 r2 r4 q4) fun d s5 ⟨z', H5, I5, r5, k', e, q5⟩ => ?_))
    subst e
    cases r5
    refine wpAny_truthy_bool ?_
    cases k' with
    | false =>
      obtain ⟨k'', e', q'⟩ := q5
      cases e'
      exact ite_ff ⟨H5, I5, q'⟩
    | true =>
      refine ite_tt (test_last (thn (hd.run pins s5 σ H5 _ I5 q5) fun w' s6 ⟨z6, H6, I6, r6, q6⟩ => thn (ho'' pins s6 σ H6 z z6 w w' _ I6 r4 r6 q6) fun d s7 ⟨z7, H7, I7, r7, k7, e7, q7⟩ => ?_))
      subst e7
      cases r7
      exact wpAny_truthy_bool ⟨H7, I7, q7⟩
end

section
variable {T : Tb} {cf : Cf} {lf k : Nat} {CX : CXT} {c : C}
theorem hu_ok {X : Cx} (ok : Okx CX k X) : X.A.units + 64 < cLine := ok.room.units
/-- a comparison's reading, whatever is wanted -/
theorem cmp_reads {X : Cx} {a b : C} {x y : Expr} {σD : List (Option D)} {R R1 R2 : Sto} {M : Mp} {P : Ps} {F : Hp} {σ : L2.St} {H : Hp} {dx dy : Rv} {rl : L2.R2} {bb : Bool} {R3 : Sto} {Q : VK} (ha : SV X cf lf a x) (hb : SV X cf lf b y) (r : Rel X.K M R P F H) (er : ER X.K M F σD σ)
    (q1 : ev cf lf a σD R = .ok dx R1) (m1 : ∀ ds, dx ≠ .many ds) (q2 : ev cf lf b σD R1 = .ok dy R2) (m2 : ∀ ds, dy ≠ .many ds)
    (o2 : ∀ (M : Mp) (P : Ps) (F H : Hp) (vx vy : V) (Q : VK), Rel X.K M R2 P F H → Vr X.K M F (fz dx) vx → Vr X.K M F (fz dy) vy → Pst X.K M P F (.val (.bl bb)) R3 Q → rl vx vy H Q)
    (k : ∀ H' F', Ex F F' → Rel X.K M R3 P F' H' → Q (.bl bb) H') : tOp rl (WE X x) (WE X y) σ H Q := by
  refine we_mono (ha.d r er q1 m1) fun vx H1 ⟨F1, e1, r1, v1⟩ => ?_
  refine we_mono (hb.d r1 (er.mono e1) q2 m2) fun vy H2 ⟨F2, e2, r2, v2⟩ => ?_
  exact o2 M P F2 H2 vx vy _ r2 (v1.mono e2) v2 fun v F' H' e3 r3 h => by
    have hv : v = .bl bb := Vr.bl h
    subst hv
    exact k H' F' ((e1.trans e2).trans e3) r3
theorem snd_cmp (o : CmpOp) {a b : C} (ha : Snd T cf lf CX k a) (hb : Snd T cf lf CX k b) : Snd T cf lf CX k (.cmp o a b) := by
  have key : ∀ X, Okx CX k X → Facts T cf CX k X → ∀ e, chk T (.cmp o a b) X.env.scope X.N e = true → ∀ (σD : List (Option D)) (R R' : Sto) (M : Mp) (P : Ps) (F : Hp) (σ : L2.St) (H : Hp) (rv : Rv), Rel X.K M R P F H → ER X.K M F σD σ → ev cf lf (.cmp o a b) σD R = .ok rv R' →
      ∃ bb, rv = .val (.bl bb) ∧ WE X e σ H (PV X M R' P F rv) ∧ WT X e σ H (PB X M R' P F bb) := by
    intro X ok fa e h σD R R' M P F σ H rv r er q
    cases e with
    | Compare l os rs p =>
      match os, rs, h with
      | [o'], [y], h =>
        simp only [chk, Bool.and_eq_true] at h
        obtain ⟨⟨⟨h1, h2⟩, h3⟩, h4⟩ := h
        cases of_decide_eq_true h1
        simp only [ev] at q
        obtain ⟨dx, R1, q1, m1, q⟩ := bindV_ok q
        obtain ⟨dy, R2, q2, m2, q⟩ := bindV_ok q
        obtain ⟨bb, rfl, rl, o1, o2⟩ := cmpX_ok (X := X) ok fa q
        refine ⟨bb, rfl, we_of (pe_cmpR o1 pe_w pe_w (nobool h2)) ?_, wt_of (pt_cmpR o1 pe_w pe_w (nobool h2)) ?_⟩
        · exact cmp_reads (ha.v X ok fa _ h3) (hb.v X ok fa _ h4) r er q1 m1 q2 m2 o2 fun H' F' e r => ⟨F', e, r, .inr (.bl _)⟩
        · exact cmp_reads (ha.v X ok fa _ h3) (hb.v X ok fa _ h4) r er q1 m1 q2 m2 o2 fun H' F' e r => ⟨bb, rfl, rfl, F', e, r⟩
      | [], _, h => simp [chk] at h
      | _ :: _ :: _, _, h => simp [chk] at h
      | [_], [], h => simp [chk] at h
      | [_], _ :: _ :: _, h => simp [chk] at h
    | _ => simp [chk] at h
  refine ⟨fun X ok fa e h σD R R' M P F σ H rv r er q hm => ?_, fun X ok fa es p h => by simp [chk] at h, fun X ok fa e h σD R R' M P F σ H rv b r er q hm ht => ?_⟩
  · obtain ⟨bb, _, h1, _⟩ := key X ok fa e h σD R R' M P F σ H rv r er q
    exact h1
  · obtain ⟨bb, rfl, _, h1⟩ := key X ok fa e h σD R R' M P F σ H rv r er q
    cases ht
    exact h1
theorem chain_reads {X : Cx} {a b c : C} {x y z : Expr} {σD : List (Option D)} {R R1 R2 R' : Sto} {M : Mp} {P : Ps} {F : Hp} {σ : L2.St} {H : Hp} {dx dy : Rv} {p : CmpOp} {rl : L2.R2} {b1 : Bool} {rv : Rv} (ok : Okx CX k X) (ha : SV X cf lf a x) (hb : SV X cf lf b y) (hc : SV X cf lf c z) (r : Rel X.K M R P F H) (er : ER X.K M F σD σ)
    (q1 : ev cf lf a σD R = .ok dx R1) (m1 : ∀ ds, dx ≠ .many ds) (q2 : ev cf lf b σD R1 = .ok dy R2) (m2 : ∀ ds, dy ≠ .many ds)
    (o2 : ∀ (M : Mp) (P : Ps) (F H : Hp) (vx vy : V) (Q : VK), Rel X.K M R2 P F H → Vr X.K M F (fz dx) vx → Vr X.K M F (fz dy) vy → Pst X.K M P F (.val (.bl b1)) R2 Q → rl vx vy H Q)
    (q : (if b1 = true then bindV (ev cf lf c σD R2) fun z R3 => liftO (cmpop p (fz dy) z R3) R3 fun b => .val (.bl b) else .ok (.val (.bl false)) R2) = .ok rv R') :
    ∃ bb, rv = .val (.bl bb) ∧ ∃ rp, OpR X (compareOp p) rp ∧ ∀ Q : VK, (∀ H' F', Ex F F' → Rel X.K M R' P F' H' → Q (.bl bb) H') → tChain rl rp (WE X x) (WE X y) (WE X z) σ H Q := by
  cases b1 with
  | false =>
    rw [if_neg Bool.false_ne_true] at q
    cases q
    have any : ∃ rp, OpR X (compareOp p) rp := ⟨fun _ _ _ _ => False, fun _ _ _ _ _ _ _ _ _ _ _ _ h => h.elim⟩
    obtain ⟨rp, o3⟩ := any
    refine ⟨false, rfl, rp, o3, fun Q kq => ?_⟩
    refine we_mono (ha.d r er q1 m1) fun vx H1 ⟨F1, e1, r1, v1⟩ => ?_
    refine we_mono (hb.d r1 (er.mono e1) q2 m2) fun vy H2 ⟨F2, e2, r2, v2⟩ => ?_
    refine o2 M P F2 H2 vx vy _ r2 (v1.mono e2) v2 fun v F' H' e3 r3 h => ?_
    have hv : v = .bl false := Vr.bl h
    subst hv
    exact ⟨false, rfl, iteF (kq H' F' ((e1.trans e2).trans e3) r3)⟩
  | true =>
    rw [if_pos rfl] at q
    obtain ⟨dz, R3, q3, m3, q⟩ := bindV_ok q
    obtain ⟨bb, q4, rfl, rfl⟩ := liftO_ok q
    obtain ⟨rp, o3, o4⟩ := cmpop_ok (X := X) (hu_ok ok) q4
    refine ⟨bb, rfl, rp, o3, fun Q kq => ?_⟩
    refine we_mono (ha.d r er q1 m1) fun vx H1 ⟨F1, e1, r1, v1⟩ => ?_
    refine we_mono (hb.d r1 (er.mono e1) q2 m2) fun vy H2 ⟨F2, e2, r2, v2⟩ => ?_
    refine o2 M P F2 H2 vx vy _ r2 (v1.mono e2) v2 fun v F3 H3 e3 r3 h => ?_
    have hv : v = .bl true := Vr.bl h
    subst hv
    refine ⟨true, rfl, iteT ?_⟩
    refine we_mono (hc.d r3 (er.mono ((e1.trans e2).trans e3)) q3 m3) fun vz H4 ⟨F4, e4, r4, v4⟩ => ?_
    exact o4 M P F4 H4 vy vz _ r4 ((v2.mono e3).mono e4) v4 fun v F' H' e5 r5 h => by
      have hv : v = .bl bb := Vr.bl h
      subst hv
      exact kq H' F' ((((e1.trans e2).trans e3).trans e4).trans e5) r5
theorem snd_chn (o p : CmpOp) {a b c : C} (ha : Snd T cf lf CX k a) (hb : Snd T cf lf CX k b) (hc : Snd T cf lf CX k c) : Snd T cf lf CX k (.chn o p a b c) := by
  have key : ∀ X, Okx CX k X → Facts T cf CX k X → ∀ e, chk T (.chn o p a b c) X.env.scope X.N e = true → ∀ (σD : List (Option D)) (R R' : Sto) (M : Mp) (P : Ps) (F : Hp) (σ : L2.St) (H : Hp) (rv : Rv), Rel X.K M R P F H → ER X.K M F σD σ → ev cf lf (.chn o p a b c) σD R = .ok rv R' →
      ∃ bb, rv = .val (.bl bb) ∧ WE X e σ H (PV X M R' P F rv) ∧ WT X e σ H (PB X M R' P F bb) := by
    intro X ok fa e h σD R R' M P F σ H rv r er q
    cases e with
    | Compare l os rs ps =>
      match os, rs, h with
      | [o', p'], [y, z], h =>
        simp only [chk, Bool.and_eq_true] at h
        obtain ⟨⟨⟨⟨⟨h1, h1'⟩, h2⟩, h3⟩, h4⟩, h5⟩ := h
        cases of_decide_eq_true h1
        cases of_decide_eq_true h1'
        simp only [ev] at q
        obtain ⟨dx, R1, q1, m1, q⟩ := bindV_ok q
        obtain ⟨dy, R2, q2, m2, q⟩ := bindV_ok q
        cases q3 : cmpop o (fz dx) (fz dy) R2 with
        | none => rw [q3] at q; cases q
        | some b1 =>
          rw [q3] at q
          obtain ⟨rl, o1, o2⟩ := cmpop_ok (X := X) (hu_ok ok) q3
          have q' : (if b1 = true then bindV (ev cf lf c σD R2) fun z R3 => liftO (cmpop p (fz dy) z R3) R3 fun b => .val (.bl b) else .ok (.val (.bl false)) R2) = .ok rv R' := by
            cases b1 <;> exact q
          obtain ⟨bb, rfl, rp, o3, o4⟩ := chain_reads ok (ha.v X ok fa _ h3) (hb.v X ok fa _ h4) (hc.v X ok fa _ h5) r er q1 m1 q2 m2 o2 q'
          refine ⟨bb, rfl, we_of (pe_chain o1 o3 pe_w pe_w pe_w (marks_last (nobool h2))) ?_, wt_of (pt_chain o1 o3 pe_w pe_w pe_w (marks_last (nobool h2))) ?_⟩
          · exact o4 _ fun H' F' e r => ⟨F', e, r, .inr (.bl _)⟩
          · exact o4 _ fun H' F' e r => ⟨bb, rfl, rfl, F', e, r⟩
      | [], _, h => simp [chk] at h
      | [_], [], h => simp [chk] at h
      | [_], _ :: _, h => simp [chk] at h
      | [_, _], [], h => simp [chk] at h
      | [_, _], [_], h => simp [chk] at h
      | [_, _], _ :: _ :: _ :: _, h => simp [chk] at h
      | _ :: _ :: _ :: _, _, h => simp [chk] at h
    | _ => simp [chk] at h
  refine ⟨fun X ok fa e h σD R R' M P F σ H rv r er q hm => ?_, fun X ok fa es p h => by simp [chk] at h, fun X ok fa e h σD R R' M P F σ H rv b r er q hm ht => ?_⟩
  · obtain ⟨bb, _, h1, _⟩ := key X ok fa e h σD R R' M P F σ H rv r er q
    exact h1
  · obtain ⟨bb, rfl, _, h1⟩ := key X ok fa e h σD R R' M P F σ H rv r er q
    cases ht
    exact h1
end
end EV

/-! EvI: and, or, not, conditional expressions, isinstance, slices. -/
namespace EV
open PySem PySem.Spec PyProof.Rows L2
section
variable {T : Tb} {cf : Cf} {lf k : Nat} {CX : CXT} {c : C}
theorem snd_chn3 (o p t : CmpOp) {a b c d : C} (ha : Snd T cf lf CX k a) (hb : Snd T cf lf CX k b) (hc : Snd T cf lf CX k c) (hd : Snd T cf lf CX k d) : Snd T cf lf CX k (.chn3 o p t a b c d) := by
  have key : ∀ X, Okx CX k X → Facts T cf CX k X → ∀ e, chk T (.chn3 o p t a b c d) X.env.scope X.N e = true → ∀ (σD : List (Option D)) (R R' : Sto) (M : Mp) (P : Ps) (F : Hp) (σ : L2.St) (H : Hp) (rv : Rv), Rel X.K M R P F H → ER X.K M F σD σ → ev cf lf (.chn3 o p t a b c d) σD R = .ok rv R' →
      ∃ bb, rv = .val (.bl bb) ∧ WE X e σ H (PV X M R' P F rv) ∧ WT X e σ H (PB X M R' P F bb) := by
    intro X ok fa e h σD R R' M P F σ H rv r er q
    cases e with
    | Compare l os rs ps =>
      match os, rs, h with
      | [o', p', t'], [y, z, w], h =>
        simp only [chk, Bool.and_eq_true] at h
        obtain ⟨⟨⟨⟨⟨⟨⟨h1, h1'⟩, h1''⟩, h2⟩, h3⟩, h4⟩, h5⟩, h6⟩ := h
        cases of_decide_eq_true h1
        cases of_decide_eq_true h1'
        cases of_decide_eq_true h1''
        simp only [ev] at q
        obtain ⟨dx, R1, q1, m1, q⟩ := bindV_ok q
        obtain ⟨dy, R2, q2, m2, q⟩ := bindV_ok q
        have any : ∀ p, ∃ rp, OpR X (compareOp p) rp := fun p => ⟨fun _ _ _ _ => False, fun _ _ _ _ _ _ _ _ _ _ _ _ h => h.elim⟩
        have sa := ha.v X ok fa _ h3
        have sb := hb.v X ok fa _ h4
        have sc := hc.v X ok fa _ h5
        have sd := hd.v X ok fa _ h6
        suffices hh : ∃ bb, rv = .val (.bl bb) ∧ ∃ rl rp rt, OpR X (compareOp o) rl ∧ OpR X (compareOp p) rp ∧ OpR X (compareOp t) rt ∧ ∀ Q : VK, (∀ H' F', Ex F F' → Rel X.K M R' P F' H' → Q (.bl bb) H') → tChain3 rl rp rt (WE X l) (WE X y) (WE X z) (WE X w) σ H Q by
          obtain ⟨bb, rfl, rl, rp, rt, o1, o2, o3, kq⟩ := hh
          refine ⟨bb, rfl, we_of (pe_chain3 o1 o2 o3 pe_w pe_w pe_w pe_w (marks_last3 (nobool h2))) ?_, wt_of (pt_chain3 o1 o2 o3 pe_w pe_w pe_w pe_w (marks_last3 (nobool h2))) ?_⟩
          · exact kq _ fun H' F' e r => ⟨F', e, r, .inr (.bl _)⟩
          · exact kq _ fun H' F' e r => ⟨bb, rfl, rfl, F', e, r⟩
        cases q3 : cmpop o (fz dx) (fz dy) R2 with
        | none => rw [q3] at q; cases q
        | some b1 =>
          rw [q3] at q
          obtain ⟨rl, o1, o2⟩ := cmpop_ok (X := X) (hu_ok ok) q3
          cases b1 with
          | false =>
            cases q
            obtain ⟨rp, op⟩ := any p
            obtain ⟨rt, ot⟩ := any t
            refine ⟨false, rfl, rl, rp, rt, o1, op, ot, fun Q kq => ?_⟩
            refine we_mono (sa.d r er q1 m1) fun vx H1 ⟨F1, e1, r1, v1⟩ => ?_
            refine we_mono (sb.d r1 (er.mono e1) q2 m2) fun vy H2 ⟨F2, e2, r2, v2⟩ => ?_
            refine o2 M P F2 H2 vx vy _ r2 (v1.mono e2) v2 fun v F' H' e3 r3 h => ?_
            have hv : v = .bl false := Vr.bl h
            subst hv
            exact ⟨false, rfl, iteF (kq H' F' ((e1.trans e2).trans e3) r3)⟩
          | true =>
            obtain ⟨dz, R3, q4, m4, q⟩ := bindV_ok q
            cases q5 : cmpop p (fz dy) (fz dz) R3 with
            | none => rw [q5] at q; cases q
            | some b2 =>
              rw [q5] at q
              obtain ⟨rp, o3, o4⟩ := cmpop_ok (X := X) (hu_ok ok) q5
              cases b2 with
              | false =>
                cases q
                obtain ⟨rt, ot⟩ := any t
                refine ⟨false, rfl, rl, rp, rt, o1, o3, ot, fun Q kq => ?_⟩
                refine we_mono (sa.d r er q1 m1) fun vx H1 ⟨F1, e1, r1, v1⟩ => ?_
                refine we_mono (sb.d r1 (er.mono e1) q2 m2) fun vy H2 ⟨F2, e2, r2, v2⟩ => ?_
                refine o2 M P F2 H2 vx vy _ r2 (v1.mono e2) v2 fun v F3 H3 e3 r3 h => ?_
                have hv : v = .bl true := Vr.bl h
                subst hv
                refine ⟨true, rfl, iteT ?_⟩
                refine we_mono (sc.d r3 (er.mono ((e1.trans e2).trans e3)) q4 m4) fun vz H4 ⟨F4, e4, r4, v4⟩ => ?_
                refine o4 M P F4 H4 vy vz _ r4 ((v2.mono e3).mono e4) v4 fun v F' H' e5 r5 h => ?_
                have hv : v = .bl false := Vr.bl h
                subst hv
                exact ⟨false, rfl, iteF (kq H' F' ((((e1.trans e2).trans e3).trans e4).trans e5) r5)⟩
              | true =>
                obtain ⟨dw, R4, q6, m6, q⟩ := bindV_ok q
                obtain ⟨bb, q7, rfl, rfl⟩ := liftO_ok q
                obtain ⟨rt, o5, o6⟩ := cmpop_ok (X := X) (hu_ok ok) q7
                refine ⟨bb, rfl, rl, rp, rt, o1, o3, o5, fun Q kq => ?_⟩
                refine we_mono (sa.d r er q1 m1) fun vx H1 ⟨F1, e1, r1, v1⟩ => ?_
                refine we_mono (sb.d r1 (er.mono e1) q2 m2) fun vy H2 ⟨F2, e2, r2, v2⟩ => ?_
                refine o2 M P F2 H2 vx vy _ r2 (v1.mono e2) v2 fun v F3 H3 e3 r3 h => ?_
                have hv : v = .bl true := Vr.bl h
                subst hv
                refine ⟨true, rfl, iteT ?_⟩
                refine we_mono (sc.d r3 (er.mono ((e1.trans e2).trans e3)) q4 m4) fun vz H4 ⟨F4, e4, r4, v4⟩ => ?_
                refine o4 M P F4 H4 vy vz _ r4 ((v2.mono e3).mono e4) v4 fun v F5 H5 e5 r5 h => ?_
                have hv : v = .bl true := Vr.bl h
                subst hv
                refine ⟨true, rfl, iteT ?_⟩
                refine we_mono (sd.d r5 (er.mono ((((e1.trans e2).trans e3).trans e4).trans e5)) q6 m6) fun vw H6 ⟨F6, e6, r6, v6⟩ => ?_
                refine o6 M P F6 H6 vz vw _ r6 ((v4.mono e5).mono e6) v6 fun v F' H' e7 r7 h => ?_
                have hv : v = .bl bb := Vr.bl h
                subst hv
                exact kq H' F' ((((((e1.trans e2).trans e3).trans e4).trans e5).trans e6).trans e7) r7
      | [], _, h => simp [chk] at h
      | [_], [], h => simp [chk] at h
      | [_], _ :: _, h => simp [chk] at h
      | [_, _], [], h => simp [chk] at h
      | [_, _], _ :: _, h => simp [chk] at h
      | [_, _, _], [], h => simp [chk] at h
      | [_, _, _], [_], h => simp [chk] at h
      | [_, _, _], [_, _], h => simp [chk] at h
      | [_, _, _], _ :: _ :: _ :: _ :: _, h => simp [chk] at h
      | _ :: _ :: _ :: _ :: _, [], h => simp [chk] at h
      | _ :: _ :: _ :: _ :: _, _ :: _, h => simp [chk] at h
    | _ => simp [chk] at h
  refine ⟨fun X ok fa e h σD R R' M P F σ H rv r er q hm => ?_, fun X ok fa es p h => by simp [chk] at h, fun X ok fa e h σD R R' M P F σ H rv b r er q hm ht => ?_⟩
  · obtain ⟨bb, _, h1, _⟩ := key X ok fa e h σD R R' M P F σ H rv r er q
    exact h1
  · obtain ⟨bb, rfl, _, h1⟩ := key X ok fa e h σD R R' M P F σ H rv r er q
    cases ht
    exact h1

/-! ### not, and, or -/
theorem chk_not {a : C} {sc : Scope} {N : List Str} {e : Expr} (h : chk T (.notE a) sc N e = true) : ∃ x p, e = .UnaryOp .Not x p ∧ chk T a sc N x = true := by
  cases e with
  | UnaryOp o x p =>
    cases o with
    | Not => exact ⟨x, p, rfl, by simpa only [chk] using h⟩
    | _ => simp [chk] at h
  | _ => simp [chk] at h
theorem chk_and {a b : C} {sc : Scope} {N : List Str} {e : Expr} (h : chk T (.andE a b) sc N e = true) : ∃ x y l p, e = .BoolOp .And (x :: y :: l) p ∧ chk T a sc N x = true ∧ (if isNil l then chk T b sc N y else chk T b sc N (.BoolOp .And (y :: l) p)) = true := by
  cases e with
  | BoolOp o es p =>
    cases o with
    | And =>
      match es, h with
      | x :: y :: l, h =>
        simp only [chk, Bool.and_eq_true] at h
        exact ⟨x, y, l, p, rfl, h.1, h.2⟩
      | [], h => simp [chk] at h
      | [_], h => simp [chk] at h
    | Or => simp [chk] at h
  | _ => simp [chk] at h
theorem chk_or {a b : C} {sc : Scope} {N : List Str} {e : Expr} (h : chk T (.orE a b) sc N e = true) : ∃ x y l p, e = .BoolOp .Or (x :: y :: l) p ∧ chk T a sc N x = true ∧ (if isNil l then chk T b sc N y else chk T b sc N (.BoolOp .Or (y :: l) p)) = true := by
  cases e with
  | BoolOp o es p =>
    cases o with
    | Or =>
      match es, h with
      | x :: y :: l, h =>
        simp only [chk, Bool.and_eq_true] at h
        exact ⟨x, y, l, p, rfl, h.1, h.2⟩
      | [], h => simp [chk] at h
      | [_], h => simp [chk] at h
    | And => simp [chk] at h
  | _ => simp [chk] at h
theorem chk_ife {c a b : C} {sc : Scope} {N : List Str} {e : Expr} (h : chk T (.ife c a b) sc N e = true) : ∃ x y z p, e = .IfExp x y z p ∧ chk T c sc N x = true ∧ chk T a sc N y = true ∧ chk T b sc N z = true := by
  cases e with
  | IfExp x y z p =>
    simp only [chk, Bool.and_eq_true] at h
    exact ⟨x, y, z, p, rfl, h.1.1, h.1.2, h.2⟩
  | _ => simp [chk] at h
theorem snd_not {a : C} (ha : Snd T cf lf CX k a) : Snd T cf lf CX k (.notE a) := by
  refine ⟨fun X ok fa e h σD R R' M P F σ H rv r er q hm => ?_, fun X ok fa es p h => by simp [chk] at h, fun X ok fa e h σD R R' M P F σ H rv b r er q hm ht => ?_⟩
  · obtain ⟨x, p, rfl, h⟩ := chk_not h
    simp only [ev] at q
    obtain ⟨dx, R1, q1, m1, q⟩ := bindV_ok q
    obtain ⟨bb, q2, rfl, rfl⟩ := liftO_ok q
    refine we_of (pe_notT pe_w) (we_mono ((ha.v X ok fa _ h).d r er q1 m1) fun vx H1 ⟨F1, e1, r1, v1⟩ => ?_)
    exact ⟨bb, r1.truth v1 q2, F1, e1, r1, .inr (.bl _)⟩
  · obtain ⟨x, p, rfl, h⟩ := chk_not h
    simp only [ev] at q
    obtain ⟨dx, R1, q1, m1, q⟩ := bindV_ok q
    obtain ⟨bb, q2, rfl, rfl⟩ := liftO_ok q
    cases ht
    exact wt_of (pt_not pt_w) (wt_mono (ha.t X ok fa _ h σD R R' M P F σ H dx bb r er q1 m1 q2) fun b' H1 ⟨e0, F1, e1, r1⟩ => ⟨by rw [e0], F1, e1, r1⟩)
theorem pw_bool {X : Cx} {op : BoolOp} {es : List Expr} {p : Pos} : PW X (.BoolOp op es p) (WT X (.BoolOp op es p)) := ⟨fun wh pins s σ H Q I h => by
  have g := h pins s I
  rw [arm_isTrue_BoolOp] at g ⊢
  exact g⟩
theorem chkTail {X : Cx} {op : BoolOp} {b : C} {y : Expr} {l : List Expr} {p : Pos} (h : (if isNil l then chk T b X.env.scope X.N y else chk T b X.env.scope X.N (.BoolOp op (y :: l) p)) = true) : (l = [] ∧ chk T b X.env.scope X.N y = true) ∨ (chk T b X.env.scope X.N (.BoolOp op (y :: l) p) = true) := by
  cases l with
  | nil => exact .inl ⟨rfl, h⟩
  | cons _ _ => exact .inr h
theorem snd_and {a b : C} (ha : Snd T cf lf CX k a) (hb : Snd T cf lf CX k b) : Snd T cf lf CX k (.andE a b) := by
  refine ⟨fun X ok fa e h σD R R' M P F σ H rv r er q hm => ?_, fun X ok fa es p h => by simp [chk] at h, fun X ok fa e h σD R R' M P F σ H rv bb r er q hm ht => ?_⟩
  · obtain ⟨x, y, l, p, rfl, h1, h2⟩ := chk_and h
    simp only [ev] at q
    obtain ⟨dx, R1, q1, m1, q⟩ := bindV_ok q
    have rd : ∀ t : TE, (∀ (F1 : Hp) (H1 : Hp), Ex F F1 → Rel X.K M R1 P F1 H1 → truth R1 (fz dx) = some true → t σ H1 (PV X M R' P F rv)) → tAndT X.K (WE X x) t σ H (PV X M R' P F rv) := fun t ht => by
      refine we_mono ((ha.v X ok fa _ h1).d r er q1 m1) fun vx H1 ⟨F1, e1, r1, v1⟩ => ?_
      cases q2 : truth R1 (fz dx) with
      | none => rw [q2] at q; cases q
      | some k1 =>
        rw [q2] at q
        refine ⟨k1, r1.truth v1 q2, ?_⟩
        cases k1 with
        | true => exact iteT (ht F1 H1 e1 r1 q2)
        | false =>
          cases q
          exact iteF ⟨F1, e1, r1, v1⟩
    have tl : ∀ (F1 : Hp) (H1 : Hp) (z : Expr), Ex F F1 → Rel X.K M R1 P F1 H1 → truth R1 (fz dx) = some true → chk T b X.env.scope X.N z = true → WE X z σ H1 (PV X M R' P F rv) := fun F1 H1 z e1 r1 q2 hz => by
      rw [q2] at q
      exact we_mono (hb.v X ok fa z hz σD R1 R' M P F1 σ H1 rv r1 (er.mono e1) q hm) fun v H' ⟨F', e2, r2, v2⟩ => ⟨F', e1.trans e2, r2, v2⟩
    rcases chkTail h2 with ⟨rfl, h2⟩ | h2
    · exact we_of (pe_andT pe_w (pe_one pe_w)) (rd _ fun F1 H1 e1 r1 q2 => tl F1 H1 y e1 r1 q2 h2)
    · exact we_of (pe_andT pe_w pe_w) (rd _ fun F1 H1 e1 r1 q2 => tl F1 H1 _ e1 r1 q2 h2)
  · obtain ⟨x, y, l, p, rfl, h1, h2⟩ := chk_and h
    simp only [ev] at q
    obtain ⟨dx, R1, q1, m1, q⟩ := bindV_ok q
    have rd : ∀ t : TT, (∀ (F1 : Hp) (H1 : Hp), Ex F F1 → Rel X.K M R1 P F1 H1 → truth R1 (fz dx) = some true → t σ H1 (PB X M R' P F bb)) → tAnd (WT X x) t σ H (PB X M R' P F bb) := fun t htt => by
      cases q2 : truth R1 (fz dx) with
      | none => rw [q2] at q; cases q
      | some k1 =>
        refine wt_mono (ha.t X ok fa _ h1 σD R R1 M P F σ H dx k1 r er q1 m1 q2) fun b' H1 ⟨e0, F1, e1, r1⟩ => ?_
        subst e0
        rw [q2] at q
        cases b' with
        | true => exact iteT (htt F1 H1 e1 r1 q2)
        | false =>
          cases q
          rw [show fz (.val (fz dx)) = fz dx from rfl, q2] at ht
          cases ht
          exact iteF ⟨rfl, F1, e1, r1⟩
    have tl : ∀ (F1 : Hp) (H1 : Hp) (z : Expr), Ex F F1 → Rel X.K M R1 P F1 H1 → truth R1 (fz dx) = some true → chk T b X.env.scope X.N z = true → WT X z σ H1 (PB X M R' P F bb) := fun F1 H1 z e1 r1 q2 hz => by
      rw [q2] at q
      exact wt_mono (hb.t X ok fa z hz σD R1 R' M P F1 σ H1 rv bb r1 (er.mono e1) q hm ht) fun v H' ⟨e0, F', e2, r2⟩ => ⟨e0, F', e1.trans e2, r2⟩
    rcases chkTail h2 with ⟨rfl, h2⟩ | h2
    · exact wt_of (PW.pt (pw_and pt_w (pw_and1 pt_w))) (rd _ fun F1 H1 e1 r1 q2 => tl F1 H1 y e1 r1 q2 h2)
    · exact wt_of (PW.pt (pw_and pt_w pw_bool)) (rd _ fun F1 H1 e1 r1 q2 => tl F1 H1 _ e1 r1 q2 h2)
theorem snd_or {a b : C} (ha : Snd T cf lf CX k a) (hb : Snd T cf lf CX k b) : Snd T cf lf CX k (.orE a b) := by
  refine ⟨fun X ok fa e h σD R R' M P F σ H rv r er q hm => ?_, fun X ok fa es p h => by simp [chk] at h, fun X ok fa e h σD R R' M P F σ H rv bb r er q hm ht => ?_⟩
  · obtain ⟨x, y, l, p, rfl, h1, h2⟩ := chk_or h
    simp only [ev] at q
    obtain ⟨dx, R1, q1, m1, q⟩ := bindV_ok q
    have rd : ∀ t : TE, (∀ (F1 : Hp) (H1 : Hp), Ex F F1 → Rel X.K M R1 P F1 H1 → truth R1 (fz dx) = some false → t σ H1 (PV X M R' P F rv)) → tOrT X.K (WE X x) t σ H (PV X M R' P F rv) := fun t ht => by
      refine we_mono ((ha.v X ok fa _ h1).d r er q1 m1) fun vx H1 ⟨F1, e1, r1, v1⟩ => ?_
      cases q2 : truth R1 (fz dx) with
      | none => rw [q2] at q; cases q
      | some k1 =>
        rw [q2] at q
        refine ⟨k1, r1.truth v1 q2, ?_⟩
        cases k1 with
        | false => exact iteF (ht F1 H1 e1 r1 q2)
        | true =>
          cases q
          exact iteT ⟨F1, e1, r1, v1⟩
    have tl : ∀ (F1 : Hp) (H1 : Hp) (z : Expr), Ex F F1 → Rel X.K M R1 P F1 H1 → truth R1 (fz dx) = some false → chk T b X.env.scope X.N z = true → WE X z σ H1 (PV X M R' P F rv) := fun F1 H1 z e1 r1 q2 hz => by
      rw [q2] at q
      exact we_mono (hb.v X ok fa z hz σD R1 R' M P F1 σ H1 rv r1 (er.mono e1) q hm) fun v H' ⟨F', e2, r2, v2⟩ => ⟨F', e1.trans e2, r2, v2⟩
    rcases chkTail h2 with ⟨rfl, h2⟩ | h2
    · exact we_of (pe_orT pe_w (pe_one pe_w)) (rd _ fun F1 H1 e1 r1 q2 => tl F1 H1 y e1 r1 q2 h2)
    · exact we_of (pe_orT pe_w pe_w) (rd _ fun F1 H1 e1 r1 q2 => tl F1 H1 _ e1 r1 q2 h2)
  · obtain ⟨x, y, l, p, rfl, h1, h2⟩ := chk_or h
    simp only [ev] at q
    obtain ⟨dx, R1, q1, m1, q⟩ := bindV_ok q
    have rd : ∀ t : TT, (∀ (F1 : Hp) (H1 : Hp), Ex F F1 → Rel X.K M R1 P F1 H1 → truth R1 (fz dx) = some false → t σ H1 (PB X M R' P F bb)) → tOr (WT X x) t σ H (PB X M R' P F bb) := fun t htt => by
      cases q2 : truth R1 (fz dx) with
      | none => rw [q2] at q; cases q
      | some k1 =>
        refine wt_mono (ha.t X ok fa _ h1 σD R R1 M P F σ H dx k1 r er q1 m1 q2) fun b' H1 ⟨e0, F1, e1, r1⟩ => ?_
        subst e0
        rw [q2] at q
        cases b' with
        | false => exact iteF (htt F1 H1 e1 r1 q2)
        | true =>
          cases q
          rw [show fz (.val (fz dx)) = fz dx from rfl, q2] at ht
          cases ht
          exact iteT ⟨rfl, F1, e1, r1⟩
    have tl : ∀ (F1 : Hp) (H1 : Hp) (z : Expr), Ex F F1 → Rel X.K M R1 P F1 H1 → truth R1 (fz dx) = some false → chk T b X.env.scope X.N z = true → WT X z σ H1 (PB X M R' P F bb) := fun F1 H1 z e1 r1 q2 hz => by
      rw [q2] at q
      exact wt_mono (hb.t X ok fa z hz σD R1 R' M P F1 σ H1 rv bb r1 (er.mono e1) q hm ht) fun v H' ⟨e0, F', e2, r2⟩ => ⟨e0, F', e1.trans e2, r2⟩
    rcases chkTail h2 with ⟨rfl, h2⟩ | h2
    · exact wt_of (PW.pt (pw_or pt_w (pw_or1 pt_w))) (rd _ fun F1 H1 e1 r1 q2 => tl F1 H1 y e1 r1 q2 h2)
    · exact wt_of (PW.pt (pw_or pt_w pw_bool)) (rd _ fun F1 H1 e1 r1 q2 => tl F1 H1 _ e1 r1 q2 h2)

/-! ### a if c else b -/
theorem pt_ifExp {X : Cx} {c a b : Expr} {pos : Pos} {tc ta tb : TT} (hc : PT X c tc) (ha : PT X a ta) (hb : PT X b tb) : PT X (.IfExp c a b pos) (fun σ H Q => tc σ H fun k H1 => if k = true then ta σ H1 Q else tb σ H1 Q) := by
  refine ⟨fun pins s σ H Q I h => ?_⟩
  rw [arm_isTrue_IfExp]
  refine wpAny_bind (thn (hc.run pins s σ H _ I h) fun k s1 ⟨H1, I1, q1⟩ => ?_)
  cases k with
  | true => exact ha.run pins s1 σ H1 Q I1 q1
  | false => exact hb.run pins s1 σ H1 Q I1 q1
theorem snd_ife {c a b : C} (hc : Snd T cf lf CX k c) (ha : Snd T cf lf CX k a) (hb : Snd T cf lf CX k b) : Snd T cf lf CX k (.ife c a b) := by
  refine ⟨fun X ok fa e h σD R R' M P F σ H rv r er q hm => ?_, fun X ok fa es p h => by simp [chk] at h, fun X ok fa e h σD R R' M P F σ H rv bb r er q hm ht => ?_⟩
  · obtain ⟨x, y, z, p, rfl, h1, h2, h3⟩ := chk_ife h
    simp only [ev] at q
    obtain ⟨dx, R1, q1, m1, q⟩ := bindV_ok q
    cases q2 : truth R1 (fz dx) with
    | none => rw [q2] at q; cases q
    | some k1 =>
      rw [q2] at q
      refine we_of (pe_ifExp pt_w pe_w pe_w) (wt_mono (hc.t X ok fa _ h1 σD R R1 M P F σ H dx k1 r er q1 m1 q2) fun b' H1 ⟨e0, F1, e1, r1⟩ => ?_)
      subst e0
      cases b' with
      | true => exact iteT (we_mono (ha.v X ok fa y h2 σD R1 R' M P F1 σ H1 rv r1 (er.mono e1) q hm) fun v H' ⟨F', e2, r2, v2⟩ => ⟨F', e1.trans e2, r2, v2⟩)
      | false => exact iteF (we_mono (hb.v X ok fa z h3 σD R1 R' M P F1 σ H1 rv r1 (er.mono e1) q hm) fun v H' ⟨F', e2, r2, v2⟩ => ⟨F', e1.trans e2, r2, v2⟩)
  · obtain ⟨x, y, z, p, rfl, h1, h2, h3⟩ := chk_ife h
    simp only [ev] at q
    obtain ⟨dx, R1, q1, m1, q⟩ := bindV_ok q
    cases q2 : truth R1 (fz dx) with
    | none => rw [q2] at q; cases q
    | some k1 =>
      rw [q2] at q
      refine wt_of (pt_ifExp pt_w pt_w pt_w) (wt_mono (hc.t X ok fa _ h1 σD R R1 M P F σ H dx k1 r er q1 m1 q2) fun b' H1 ⟨e0, F1, e1, r1⟩ => ?_)
      subst e0
      cases b' with
      | true => exact iteT (wt_mono (ha.t X ok fa y h2 σD R1 R' M P F1 σ H1 rv bb r1 (er.mono e1) q hm ht) fun v H' ⟨e0, F', e2, r2⟩ => ⟨e0, F', e1.trans e2, r2⟩)
      | false => exact iteF (wt_mono (hb.t X ok fa z h3 σD R1 R' M P F1 σ H1 rv bb r1 (er.mono e1) q hm ht) fun v H' ⟨e0, F', e2, r2⟩ => ⟨e0, F', e1.trans e2, r2⟩)

/-! ### isinstance, slices -/
theorem Rel.ty {X : Cx} {M : Mp} {R : Sto} {P : Ps} {F H : Hp} {d : D} {v : V} {t : Ty} (r : Rel X.K M R P F H) (h : Vr X.K M F d v) (e : tyD R d = some t) : TyX X.K H v (.type t.nm) := by
  cases d with
  | non => cases e; cases h.non; exact .base .non
  | bl b => cases e; cases h.bl; exact .base (.bl _)
  | int i => cases e; cases h.int; exact .base (.int _)
  | str x => cases e; cases h.str; exact .base (.str _)
  | tup ds =>
    cases e
    obtain ⟨a, vs, rfl, h1, h2⟩ := h.tup
    rcases h1 with (h1 | ⟨o, h1⟩) | ⟨o, its, n, h1, h3, _⟩
    · exact .base (.tup (r.ex _ _ h1))
    · exact .fTuple (r.ex _ _ h1)
    · exact .kTuple h1 h3
  | lst ds =>
    cases e
    obtain ⟨a, vs, rfl, h1, h2⟩ := h.lst
    exact .base (.lst (r.ex _ _ h1))
  | dct ks ds =>
    cases e
    obtain ⟨a, vs, rfl, h1, h2⟩ := h.dct
    exact .base (.dK (r.ex _ _ h1))
  | dcT ks ds =>
    cases e
    obtain ⟨a, vs, rfl, h1, h2⟩ := h.dcT
    exact .base (.dT (r.ex _ _ h1))
  | ktp ds =>
    cases e
    obtain ⟨a, vs, rfl, h1, h2⟩ := h.ktp
    rcases h1 with (h1 | ⟨o, h1⟩) | ⟨o, its, n, h1, h3, _⟩
    · exact .base (.tup (r.ex _ _ h1))
    · exact .fTuple (r.ex _ _ h1)
    · exact .kTuple h1 h3
  | _ => cases e
theorem kit_own {X : Cx} {c : Nat} {C : Addr} (h : ClsA X.K c C) (t : Ty) : PySem.W.kitOne X.K (.ref C) (.type t.nm) = some false := by
  unfold PySem.W.kitOne
  rw [if_neg (by simp)]
  unfold PySem.W.kitCls
  have : PySem.W.kitMeta t.nm = true := by cases t <;> decide +kernel
  dsimp only
  rw [if_pos this]
  obtain ⟨cd, h1, h2, _⟩ := h.mro
  show PySem.W.mroIn X.K C (.type t.nm) = _
  unfold PySem.W.mroIn
  rw [h1, Option.bind_some, h2]
  cases t <;> simp [Ty.nm]
theorem isi_go {X : Cx} {M : Mp} {R : Sto} {P : Ps} {F H : Hp} {x : D} {v : V} {t : Ty} {rv : Rv} {R' : Sto} {Q : VK} (r : Rel X.K M R P F H) (hv : Vr X.K M F x v)
    (q : isiX t x R = .ok rv R') (kq : ∀ b, rv = .val (.bl b) → R' = R → Q (.bl b) H) : WC X (.builtin "isinstance") [v, .ty t.nm] H Q := by
  have plain : ∀ {u : Ty}, TyX X.K H v (.type u.nm) → .ok (.val (.bl (u.isi t))) R = Out.ok rv R' → WC X (.builtin "isinstance") [v, .ty t.nm] H Q := fun {u} ht e => by
    cases e
    exact wc_of call_isi ⟨v, .ty t.nm, .type u.nm, .type t.nm, u.isi t, rfl, .ty _, ht, kit_ty (Ty.kit u t), kq _ rfl rfl⟩
  cases x with
  | obj c ns ds =>
    cases q
    obtain ⟨a, C, dx, vs, us, rfl, h1, h2, h3, h4⟩ := hv.obj
    exact wc_of (SlX.call_isiSl (.type t.nm)) ⟨a, C, dx, vs, .ty t.nm, false, rfl, rfl, fun w hw => hw, (r.ex.slo h2).slt, h1.sc, h1.si, kit_own h1 t, kq _ rfl rfl⟩
  | _ =>
    simp only [isiX] at q
    obtain ⟨u, q2, e1, e2⟩ := liftO_ok q
    subst e1
    subst e2
    exact plain (r.ty hv q2) rfl
theorem snd_isi {a : C} (t : Ty) (ha : Snd T cf lf CX k a) : Snd T cf lf CX k (.isi a t) := by
  refine .of (fun X ok fa e h => ?_) (fun sc N e h => ?_) (fun sc N es p h => by simp [chk] at h)
  · cases e with
    | Call g es kws p =>
      cases g with
      | Name x px =>
        have inv : ∃ y z pz, es = [y, .Name z pz] ∧ kws = [] := by
          match es, kws, h with
          | [y, .Name z pz], [], _ => exact ⟨y, z, pz, rfl, rfl⟩
          | [], _, h => simp [chk] at h
          | [_], _, h => simp [chk] at h
          | _ :: _ :: _ :: _, _, h => simp [chk] at h
          | [_, w], _ :: _, h => cases w <;> simp [chk] at h
          | [y, w], [], h =>
            cases w with
            | Name z pz => exact ⟨y, z, pz, rfl, rfl⟩
            | _ => simp [chk] at h
        obtain ⟨y, z, pz, rfl, rfl⟩ := inv
        simp only [chk, Bool.and_eq_true] at h
        obtain ⟨⟨⟨⟨⟨⟨⟨⟨h1, h2⟩, h3⟩, h4⟩, h5⟩, h6⟩, h7⟩, h8⟩, h9⟩ := h
        cases of_decide_eq_true h1
        cases of_decide_eq_true h6
        intro σD R R' M P F σ H rv r er q hm
        simp only [ev] at q
        obtain ⟨dx, R1, q1, m1, q⟩ := bindV_ok q
        obtain ⟨g1, g2, g3⟩ := gl_of h5
        obtain ⟨g4, g5, g6⟩ := gl_of h7
        obtain ⟨b1, b2, b3⟩ := t.boot h4
        have pz : PE X (.Name (Str.ofString t.nm) pz) (tC (.ty t.nm)) := pe_bltn g4 (fa.bl _ (of_decide_eq_true h3)) b1 rfl g6 g5
        refine we_of (pe_callB (callr_w (f := .builtin "isinstance")) g1 (fa.bl _ (of_decide_eq_true h2)) (by decide +kernel) (pa_cons pe_w (pa_cons pz pa_nil (star_cons rfl)) (star_cons (nobool h8))) g3 g2 (star_cons (nobool h8)) (any_star (.cons rfl .nil))) ?_
        refine we_mono ((ha.v X ok fa _ h9).d r er q1 m1) fun vx H1 ⟨F1, e1, r1, v1⟩ => ?_
        exact isi_go r1 v1 q fun b e e2 => by
          subst e
          subst e2
          exact ⟨F1, e1, r1, .inr (.bl _)⟩
      | _ => simp [chk] at h
    | _ => simp [chk] at h
  · cases e <;> first | rfl | simp [chk] at h
end
end EV

/-! EvL: slots, properties, methods, new instances, isinstance of own classes, dicts. -/
namespace EV
open PySem PySem.Spec PyProof.Rows L2

theorem abase {o : Expr} {m : Str} {env : Env} (h : supB o = false) : attributeBase o m env (eval o env) = eval o env := by
  cases o with
  | Call f es ks p =>
    cases f with
    | Name id q =>
      cases es with
      | nil =>
        cases ks with
        | nil =>
          refine abase_call ?_
          have h : (id == ("super" : Str)) = false := h
          show (!(id == ("super" : Str))) = true
          rw [h]
          rfl
        | cons _ _ => rfl
      | cons _ _ => rfl
    | _ => rfl
  | _ => rfl
theorem few_of {env : Env} {pos : Pos} : ∀ {es : List Expr}, NoStar es → (backTo pos (starEach es env)).all (fun x => !x.1) = true
  | [], .nil => rfl
  | e :: es, .cons h t => by
    rw [star_cons h]
    show (true && (backTo pos (starEach es env)).all (fun x => !x.1)) = true
    rw [few_of t]
    rfl
theorem mcall {o : Expr} {m : Str} {apos pos : Pos} {es : List Expr} {env : Env} (hb : supB o = false) (hs : NoStar es) (hl : (apos.endLine == pos.line) = true) (h30 : es.length < 30) :
    eval (.Call (.Attribute o m apos) es [] pos) env = (do
      let ov ← eval o env
      standAt apos.atName
      let (f, first) ← holding [ov] (getMethod ov m (do return (← importBound o env).getD true))
      callWith pos f first (backTo pos (starEach es env)) (backToKw pos (keywordEach [] env))) := by
  refine mcall_of (abase hb) fun ov => ?_
  have hform : methodCallForm (es.length + ([] : List Keyword).length) (backTo pos (starEach es env)) (backToKw pos (keywordEach [] env)) = true := by
    unfold methodCallForm
    rw [few_of hs]
    simp [keywordEach, backToKw, h30]
  have hpos : methodCallPos true o env apos pos = pure pos := by unfold methodCallPos; simp [hl]
  unfold methodCall
  rw [hform]
  simp only [calleeOf, if_true, hpos, pure_bind]
section
variable {T : Tb} {cf : Cf} {lf k : Nat} {CX : CXT} {c : C}
theorem lookD_get {K : PySem.W.Frag} {F : Hp} : ∀ {ns : List Nat} {ds : List D} {us : List V} {f : Nat} {d : D}, lookD ns ds f = some d → DenL K F ds us → ns.length = us.length → ∃ (j : Nat) (u : V), ns[j]? = some f ∧ us[j]? = some u ∧ Den K F d u
  | [], _, _, _, _, h, _, _ => by simp [lookD] at h
  | _ :: _, [], _, _, _, h, _, _ => by simp [lookD] at h
  | n :: ns, d :: ds, u :: us, f, d', h, .cons hd ht, hl => by
    simp only [lookD] at h
    split at h
    · rename_i e
      cases h
      subst e
      exact ⟨0, u, rfl, rfl, hd⟩
    · obtain ⟨j, u', h1, h2, h3⟩ := lookD_get h ht (by simpa using hl)
      exact ⟨j + 1, u', h1, h2, h3⟩
/-- a slot is read -/
theorem fldD_ok {X : Cx} {M : Mp} {R : Sto} {P : Ps} {F H : Hp} {x d : D} {f : Nat} {v : V} (r : Rel X.K M R P F H) (hv : Vr X.K M F x v) (h : fldD R x f = some d) :
    ∃ a C dx vs p i u, v = .ref a ∧ SlX.Slt H a C dx vs ∧ SlX.SCls X.K C ∧ SlX.Slot1 X.K C (nmN f) p i ∧ vs[i]? = some (some u) ∧ Den X.K F d u := by
  have obj : ∀ {c ns ds}, Den X.K F (.obj c ns ds) v → lookD ns ds f = some d → ∃ a C dx vs p i u, v = .ref a ∧ SlX.Slt H a C dx vs ∧ SlX.SCls X.K C ∧ SlX.Slot1 X.K C (nmN f) p i ∧ vs[i]? = some (some u) ∧ Den X.K F d u := fun {c ns ds} hd hl => by
    cases hd with
    | obj h1 h2 h3 h4 =>
      obtain ⟨j, u, e1, e2, e3⟩ := lookD_get hl h4 h3.1.symm
      obtain ⟨p, i, s1, s2⟩ := h3.2 j f u e1 e2
      exact ⟨_, _, _, _, p, i, u, rfl, (r.ex.slo h2).slt, h1.sc, s1, s2, e3⟩
  cases x with
  | obj c ns ds =>
    rcases hv with ⟨_, _, e, _⟩ | hv
    · cases e
    · exact obj hv h
  | ref j i =>
    have := hv.ref
    subst this
    simp only [fldD] at h
    split at h
    · rename_i c ns ds hs
      obtain ⟨_, C, dx, vs, us, h1, h2, h3, h4⟩ := r.ob j i _ hs
      obtain ⟨j', u, e1, e2, e3⟩ := lookD_get h h4 h3.1.symm
      obtain ⟨p, i', s1, s2⟩ := h3.2 j' f u e1 e2
      exact ⟨_, _, _, _, p, i', u, rfl, h2.slo.slt, h1.sc, s1, s2, e3⟩
    · rename_i c ns ds hs
      exact obj (r.ob j i _ hs) h
    · cases h
  | _ => cases h
theorem snd_fld {a : C} (f : Nat) (ha : Snd T cf lf CX k a) : Snd T cf lf CX k (.fld a f) := by
  refine .of (fun X ok fa e h => ?_) (fun sc N e h => ?_) (fun sc N es p h => by simp [chk] at h)
  · cases e with
    | Attribute x m p =>
      simp only [chk, Bool.and_eq_true] at h
      obtain ⟨⟨h0, h1⟩, h2⟩ := h
      cases of_decide_eq_true h1
      intro σD R R' M P F σ H rv r er q hm
      simp only [ev] at q
      obtain ⟨x, R1, q1, m1, q⟩ := bindV_ok q
      obtain ⟨d, q2, rfl, rfl⟩ := liftO_ok q
      refine we_of (SlX.pe_sl pe_w (abase (nobool h0))) ?_
      refine we_mono ((ha.v X ok fa _ h2).d r er q1 m1) fun vx H1 ⟨F1, e1, r1, v1⟩ => ?_
      obtain ⟨a, C, dx, vs, p, i, u, rfl, g1, g2, g3, g4, g5⟩ := fldD_ok r1 v1 q2
      exact ⟨a, C, dx, p, vs, i, u, rfl, g1, g2, g3, g4, F1, e1, r1, .inr g5⟩
    | _ => simp [chk] at h
  · cases e <;> first | rfl | simp [chk] at h
/-- a property is read -/
theorem snd_prp {a : C} (f : Nat) (ha : Snd T cf lf CX k a) : Snd T cf lf CX k (.prp a f) := by
  refine .of (fun X ok fa e h => ?_) (fun sc N e h => ?_) (fun sc N es p h => by simp [chk] at h)
  · cases e with
    | Attribute x m p =>
      simp only [chk, Bool.and_eq_true] at h
      obtain ⟨⟨⟨h0, h3⟩, h1⟩, h2⟩ := h
      cases of_decide_eq_true h1
      intro σD R R' M P F σ H rv r er q hm
      simp only [ev] at q
      obtain ⟨x, R1, q1, m1, q⟩ := bindV_ok q
      cases hx : fz x with
      | obj c ns ds =>
        rw [hx] at q
        dsimp only at q
        intro pins s I
        refine attr_of (abase (nobool h0)) (thn ((ha.v X ok fa _ h2).d r er q1 m1 pins s I) fun u s1 ⟨v, H1, I1, rx, F1, e1, r1, v1⟩ => ?_)
        rw [hx] at v1
        obtain ⟨d, rr, c', g, e, hc, hg, q'⟩ := fa.dp f _ R1 rv R' (of_decide_eq_true h3) q
        cases e
        cases hc
        obtain ⟨b, C, dx, vs, us, rfl, g1, g2, g3, g4⟩ := v1.obj
        obtain ⟨p, a', rest, p1, p2, p3, p4, p5⟩ := fa.pr c f g hg C g1
        obtain rfl : u = Value.ref b := rx
        refine SlX.getprop_sl I1 (r1.ex.slo g2).slt g1.sc p1 p2 p3 ⟨rest, p4⟩ p5 (ok.room.mono (by omega)) (E := E0) ?_ ?_
        · exact fun H s e s' z => ok.nex _ H s e s' z
        · exact own_sp q' (.cons v1 .nil) r1 fun v F' H' e3 r3 h => ⟨F', e1.trans e3, r3, h⟩
      | _ => rw [hx] at q; cases q
    | _ => simp [chk] at h
  · cases e <;> first | rfl | simp [chk] at h
theorem we_nil {X : Cx} {as : C} {es : List Expr} {σD : List (Option D)} {R R1 : Sto} {M : Mp} {P : Ps} {F H : Hp} {ds : List D} (h3 : chk T as X.env.scope X.N (.List [] p0) = true) (q1 : ev cf lf as σD R = .ok (.many ds) R1) : ds = [] ∧ R1 = R := by
  cases as with
  | nil =>
    simp only [ev] at q1
    cases q1
    exact ⟨rfl, rfl⟩
  | cons _ _ => simp [chk] at h3
  | lst _ =>
    simp only [ev] at q1
    obtain ⟨_, _, _, q1⟩ := bindA_ok q1
    split at q1
    · split at q1 <;> cases q1
    · cases q1
  | _ => simp [chk] at h3
theorem VrL.append {K : PySem.W.Frag} {M : Mp} {F : Hp} : ∀ {ds es : List D} {vs us : List V}, VrL K M F ds vs → VrL K M F es us → VrL K M F (ds ++ es) (vs ++ us)
  | _, _, _, _, .nil, h => h
  | _, _, _, _, .cons h t, h2 => .cons h (VrL.append t h2)
theorem VrL.ofDen {K : PySem.W.Frag} {M : Mp} {F : Hp} : ∀ {ds : List D} {vs : List V}, DenL K F ds vs → VrL K M F ds vs
  | _, _, .nil => .nil
  | _, _, .cons h t => .cons (.inr h) (VrL.ofDen t)
theorem den0 {K : PySem.W.Frag} {F : Hp} {ds : List D} {vs : List V} (h : DenL K (fun _ => none) ds vs) : DenL K F ds vs := h.mono fun a o (z : none = some o) => by cases z
/-- a def called, defaults filled up -/
theorem snd_callD (f : Nat) (dv : List D) {as : C} (hs : Snd T cf lf CX k as) : Snd T cf lf CX k (.callD f as dv) := by
  refine .of (fun X ok fa e h => ?_) (fun sc N e h => ?_) (fun sc N es p h => by simp [chk] at h)
  · cases e with
    | Call g es kws p =>
      cases g with
      | Name x px =>
        cases kws with
        | nil =>
          simp only [chk, Bool.and_eq_true] at h
          obtain ⟨⟨⟨h1, h0⟩, h2⟩, h3⟩ := h
          intro σD R R' M P F σ H rv r er q hm
          simp only [ev] at q
          obtain ⟨ds, R1, q1, q⟩ := bindA_ok q
          obtain ⟨a, fd, ps, dvs, vvs, f1, f2, f3, f5, f6, f4⟩ := fa.df f x dv (of_decide_eq_true h1) h0
          obtain ⟨g1, g2, _⟩ := gl_of h2
          have ns := chkA_noStar h3 ⟨_, _, _, _, q1⟩
          have W := hs.a X ok fa es p0 h3 σD R R1 M P F σ H ds r er q1
          have fin : ∀ vs H1, PL X M R1 P F ds vs H1 → spC X.K cf f (vs ++ vvs) H1 (PV X M R' P F rv) E0 := fun vs H1 ⟨F1, e1, r1, v1⟩ =>
            ⟨ds ++ dv, M, R1, P, F1, rv, R', q, v1.append (.ofDen (den0 f6)), r1, fun v F' H' e2 r2 h => ⟨F', e1.trans e2, r2, h⟩⟩
          cases ns with
          | nil =>
            obtain ⟨rfl, rfl⟩ := we_nil (X := X) (es := []) (M := M) (P := P) (F := F) (H := H) h3 q1
            exact we_of (pe_call0 f4 (ok.room.mono (by omega)) g1 f1 f2 f3 f5 (ok.pass X rfl rfl) g2) (fin [] H ⟨F, .refl F, r, .nil⟩)
          | cons hn ns =>
            exact we_of (pe_call f4 (ok.room.mono (by omega)) g1 f1 f2 f3 f5 (ok.pass X rfl rfl) pa_w g2 (star_cons hn) (any_star ns)) (wa_mono W fin)
        | cons _ _ => simp [chk] at h
      | _ => simp [chk] at h
    | _ => simp [chk] at h
  · cases e <;> first | rfl | simp [chk] at h
/-- o.m(..) -/
theorem snd_mth {a : C} (m : Nat) {as : C} (ha : Snd T cf lf CX k a) (hs : Snd T cf lf CX k as) : Snd T cf lf CX k (.mth a m as) := by
  refine .of (fun X ok fa e h => ?_) (fun sc N e h => ?_) (fun sc N es p h => by simp [chk] at h)
  · cases e with
    | Call g es kws p =>
      cases g with
      | Attribute x n ap =>
        cases kws with
        | nil =>
          simp only [chk, Bool.and_eq_true] at h
          obtain ⟨⟨⟨⟨⟨⟨h0, h1⟩, h2⟩, h3⟩, h4⟩, h5⟩, h6⟩ := h
          cases of_decide_eq_true h4
          intro σD R R' M P F σ H rv r er q hm
          simp only [ev] at q
          obtain ⟨x', R1, q1, m1, q⟩ := bindV_ok q
          cases hx : fz x' with
          | obj c ns ds =>
            rw [hx] at q
            dsimp only at q
            obtain ⟨es', R2, q2, q⟩ := bindA_ok q
            have nst := chkA_noStar h6 ⟨_, _, _, _, q2⟩
            have ht := mcall (m := nmN m) (env := X.env) (nobool h0) nst h1 (of_decide_eq_true h2)
            intro pins s I
            refine PySem.W.methodCall_KW (thn ((ha.v X ok fa _ h5).d r er q1 m1 pins s I) fun u s1 ⟨v, H1, I1, rx, F1, e1, r1, v1⟩ => ?_) ht
            rw [hx] at v1
            obtain ⟨d, rr, c', g, e, hc, hg, q'⟩ := fa.dm m _ R2 rv R' (of_decide_eq_true h3) q
            cases e
            cases hc
            obtain ⟨b, C, dx, vs, us, rfl, g1, g2, g3, g4⟩ := v1.obj
            obtain ⟨a', p1, p2⟩ := fa.me c m g hg C g1
            obtain rfl : u = Value.ref b := rx
            refine SlX.getmethsl_ok I1 (r1.ex.slo g2).slt g1.sc p1 ?_
            have W := hs.a X ok fa es p0 h6 σD R1 R2 M P F1 σ H1 es' r1 (er.mono e1) q2
            have fin : ∀ (us : List Value) (s2 : Shared) (vs2 : List V) (H2 : Hp), Inv X pins σ H2 s2 → Vals vs2 us → PL X M R2 P F1 es' vs2 H2 →
                wpAny (model X.prog X.w) X.A (call (.ref a') ([.ref b] ++ us)) (EP X pins σ (PV X M R' P F rv)) X.xe s2 := fun us s2 vs2 H2 I2 rv2 ⟨F2, e2, r2, v2⟩ =>
              wpAny_call (run_fnR (us := .ref b :: us) (vs := .ref b :: vs2) p2 (ok.room.mono (by omega)) (ok.pass X rfl rfl) I2 (.cons rfl rv2)
                (own_sp q' (.cons (v1.mono e2) v2) r2 fun v F' H' e3 r3 h => ⟨F', (e1.trans e2).trans e3, r3, h⟩))
            cases nst with
            | nil =>
              obtain ⟨rfl, rfl⟩ := we_nil (X := X) (es := []) (M := M) (P := P) (F := F) (H := H) h6 q2
              exact PySem.W.callWith_K0 (first := [.ref b]) I1.kIn p1.kp (fin [] s1 [] H1 I1 .nil ⟨F1, .refl F1, r1, .nil⟩)
            | cons hn nst =>
              refine PySem.W.callWith_K (first := [.ref b]) (h₀ := X.base) I.ok.mod.kin p1.kp (thn (W p pins s1 I1) fun us s2 ⟨vs2, H2, I2, rv2, pl⟩ => ⟨I2.kIn, fin us s2 vs2 H2 I2 rv2 pl⟩) (star_cons hn) (any_star nst)
          | _ => rw [hx] at q; cases q
        | cons _ _ => simp [chk] at h
      | _ => simp [chk] at h
    | _ => simp [chk] at h
  · cases e <;> first | rfl | simp [chk] at h
theorem VrL.up {K : PySem.W.Frag} {M M' : Mp} {F : Hp} (hM : ∀ j i, M' (j + 1) i = M j i) : ∀ {ds : List D} {vs : List V}, VrL K M F ds vs → VrL K M' F (ds.map up) vs
  | _, _, .nil => .nil
  | d :: _, _, .cons h t => by
    refine .cons ?_ (VrL.up hM t)
    rcases h with ⟨j, i, rfl, rfl⟩ | h
    · exact .inl ⟨j + 1, i, rfl, by rw [hM]⟩
    · have e : EV.up d = d := by
        cases d with
        | ref j i => cases h
        | _ => rfl
      rw [e]
      exact .inr h
theorem Rel.dropN {K : PySem.W.Frag} {M M' : Mp} {R : Sto} {P : Ps} {F H : Hp} {own : List O} (r : Rel K M' (own :: R) P F H) (h : ∀ j i, M' (j + 1) i = M j i) : Rel K M R P F H := by
  refine ⟨r.ex, fun j i o e => ?_, fun j1 i1 j2 i2 l1 l2 e => ?_, fun q hq => ?_, r.pd⟩
  · rw [← h]
    exact r.ob (j + 1) i o e
  · rw [← h, ← h] at e
    obtain ⟨h1, h2⟩ := r.inj (j1 + 1) i1 (j2 + 1) i2 l1 l2 e
    exact ⟨by omega, h2⟩
  · obtain ⟨h1, h2, h3, h4⟩ := r.pr q hq
    refine ⟨h1, h2, h3, fun j i l => ?_⟩
    rw [← h]
    exact h4 (j + 1) i l
/-- C(..) -/
theorem snd_new (c : Nat) (dv : List D) {as : C} (hs : Snd T cf lf CX k as) : Snd T cf lf CX k (.new c as dv) := by
  refine .of (fun X ok fa e h => ?_) (fun sc N e h => ?_) (fun sc N es p h => by simp [chk] at h)
  · cases e with
    | Call g es kws p =>
      cases g with
      | Name x px =>
        cases kws with
        | nil =>
          simp only [chk, Bool.and_eq_true] at h
          obtain ⟨⟨⟨⟨h1, h0⟩, h2⟩, h4⟩, h3⟩ := h
          cases of_decide_eq_true h1
          intro σD R R' M P F σ H rv r er q hm
          simp only [ev] at q
          obtain ⟨ds, R1, q1, q⟩ := bindA_ok q
          obtain ⟨C, a, fd, ps, dvs, vvs, g1, f1, f2, f3, f5, f6, f4⟩ := fa.ma c dv h0
          obtain ⟨gg1, gg2, _⟩ := gl_of h2
          have ns := chkA_noStar h3 ⟨_, _, _, _, q1⟩
          have W := hs.a X ok fa es p0 h3 σD R R1 M P F σ H ds r er q1
          unfold newV at q
          split at q
          · rename_i c' ns' es' R2 q2
            split at q
            · rename_i hcc
              subst hcc
              cases q
              obtain ⟨d, rr, c2, g, e, hc, hg, q'⟩ := fa.dm mInit _ _ _ _ (by decide) q2
              cases e
              cases hc
              cases ns with
              | nil => simp [isNil] at h4
              | cons hn ns =>
                refine we_of (pe_make f2 (f4 g hg) (ok.room.mono (by omega)) gg1 f1 f3 f5 (ok.pass X rfl rfl) pa_w gg2 (star_cons hn) (any_star ns)) ?_
                refine wa_mono W fun vs H1 ⟨F1, e1, r1, v1⟩ => ?_
                intro xa dx nx ndx ne
                have r2 := r1.pushNew g1 nx ndx ne
                refine ⟨.ref 0 0 :: (ds ++ dv).map up, _, [.ins c' [] []] :: R1, P, F1, .val .non, [.ins c' ns' es'] :: R', q', ?_, r2, ?_⟩
                · refine .cons (.inl ⟨0, 0, rfl, rfl⟩) (VrL.up (M := M) (fun j i => rfl) (v1.append (.ofDen (den0 f6))))
                · intro v F' H' e3 r3 hv
                  refine ⟨Vr.non hv, F', e1.trans e3, r3.dropN (M := M) (fun j i => rfl), xa, rfl, rfl, r3.ob 0 0 _ rfl, fun j i l z => ?_, fun q hq z => (r3.pr q hq).2.2.2 0 0 ⟨_, rfl, rfl⟩ z.symm⟩
                  have := r3.inj (j + 1) i 0 0 l ⟨_, rfl, rfl⟩ z
                  omega
            · cases q
          · cases q
        | cons _ _ => simp [chk] at h
      | _ => simp [chk] at h
    | _ => simp [chk] at h
  · cases e <;> first | rfl | simp [chk] at h
theorem kit_cls {X : Cx} {c : Nat} {C : Addr} (h : ClsA X.K c C) (t : Ty) : PySem.W.kitOne X.K (.type t.nm) (.ref C) = some false := by
  unfold PySem.W.kitOne
  rw [if_neg (by simp)]
  unfold PySem.W.kitCls
  dsimp only
  have h1 : (PySem.W.clsIn X.K C).isSome = true := by
    obtain ⟨cd, h1, _⟩ := h.mro
    rw [h1]
    rfl
  rw [if_pos (by rw [h1, h.ty]; rfl)]
  exact sub_nm (by cases t <;> decide)
theorem kit_obj {X : Cx} {c c' : Nat} {C C' : Addr} (h : ClsA X.K c C) (h' : ClsA X.K c' C') (hn : c' = c ∨ nmN c' ≠ nmN c) : PySem.W.kitOne X.K (.ref C') (.ref C) = some (decide (c' = c)) := by
  by_cases e : C' = C
  · subst e
    have hc : c' = c := by
      rcases hn with e | e
      · exact e
      · obtain ⟨cd, h1, _, h2⟩ := h.mro
        obtain ⟨cd', h1', _, h2'⟩ := h'.mro
        rw [h1] at h1'
        cases h1'
        exact absurd (h2'.symm.trans h2) e
    unfold PySem.W.kitOne
    rw [if_pos (by simp), decide_eq_true hc]
  · have hc : ¬ c' = c := fun z => by
      subst z
      exact e (h.one h')
    unfold PySem.W.kitOne
    rw [if_neg (by simpa using e)]
    unfold PySem.W.kitCls
    dsimp only
    have h1 : (PySem.W.clsIn X.K C).isSome = true := by
      obtain ⟨cd, h1, _⟩ := h.mro
      rw [h1]
      rfl
    rw [if_pos (by rw [h1, h.ty]; rfl), sub_own h', decide_eq_false hc, decide_eq_false (fun z => e z.symm)]
theorem isiY_go {X : Cx} {M : Mp} {R : Sto} {P : Ps} {F H : Hp} {x : D} {v : V} {c : Nat} {cs : List Nat} {C : Addr} {rv : Rv} {R' : Sto} {Q : VK} (hC : ClsA X.K c C) (hcs : ∀ d ∈ cs, d = c ∨ nmN d ≠ nmN c) (r : Rel X.K M R P F H) (hv : Vr X.K M F x v)
    (q : isiY c cs x R = .ok rv R') (kq : ∀ b, rv = .val (.bl b) → R' = R → Q (.bl b) H) : WC X (.builtin "isinstance") [v, .ref C] H Q := by
  have plain : ∀ {u : Ty}, TyX X.K H v (.type u.nm) → .ok (.val (.bl false)) R = Out.ok rv R' → WC X (.builtin "isinstance") [v, .ref C] H Q := fun {u} ht e => by
    cases e
    exact wc_of call_isi ⟨v, .ref C, .type u.nm, .ref C, false, rfl, .own C, ht, kit_cls hC u, kq _ rfl rfl⟩
  cases x with
  | obj c' ns ds =>
    simp only [isiY] at q
    split at q
    · rename_i hc
      cases q
      obtain ⟨a, C', dx, vs, us, rfl, h1, h2, h3, h4⟩ := hv.obj
      exact wc_of (SlX.call_isiSl (.ref C)) ⟨a, C', dx, vs, .ref C, _, rfl, rfl, fun w hw => hw, (r.ex.slo h2).slt, h1.sc, h1.si, kit_obj hC h1 (hcs _ (List.contains_iff_mem.mp hc)), kq _ rfl rfl⟩
    · cases q
  | _ =>
    simp only [isiY] at q
    obtain ⟨u, q2, e1, e2⟩ := liftO_ok q
    subst e1
    subst e2
    exact plain (r.ty hv q2) rfl
theorem snd_isiC {a : C} (c : Nat) (cs : List Nat) (ha : Snd T cf lf CX k a) : Snd T cf lf CX k (.isiC a c cs) := by
  refine .of (fun X ok fa e h => ?_) (fun sc N e h => ?_) (fun sc N es p h => by simp [chk] at h)
  · cases e with
    | Call g es kws p =>
      cases g with
      | Name x px =>
        have inv : ∃ y z pz, es = [y, .Name z pz] ∧ kws = [] := by
          match es, kws, h with
          | [y, .Name z pz], [], _ => exact ⟨y, z, pz, rfl, rfl⟩
          | [], _, h => simp [chk] at h
          | [_], _, h => simp [chk] at h
          | _ :: _ :: _ :: _, _, h => simp [chk] at h
          | [_, w], _ :: _, h => cases w <;> simp [chk] at h
          | [y, w], [], h =>
            cases w with
            | Name z pz => exact ⟨y, z, pz, rfl, rfl⟩
            | _ => simp [chk] at h
        obtain ⟨y, z, pz, rfl, rfl⟩ := inv
        simp only [chk, Bool.and_eq_true] at h
        obtain ⟨⟨⟨⟨⟨⟨⟨⟨h1, h2⟩, h3⟩, h4⟩, h5⟩, h6⟩, h7⟩, h8⟩, h9⟩ := h
        cases of_decide_eq_true h1
        cases of_decide_eq_true h4
        intro σD R R' M P F σ H rv r er q hm
        simp only [ev] at q
        obtain ⟨dx, R1, q1, m1, q⟩ := bindV_ok q
        obtain ⟨g1, g2, g3⟩ := gl_of h3
        obtain ⟨g4, g5, g6⟩ := gl_of h5
        obtain ⟨C, hC, hg⟩ := fa.cl c (of_decide_eq_true h6)
        have hcs : ∀ d ∈ cs, d = c ∨ nmN d ≠ nmN c := fun d hd => by
          have := List.all_eq_true.mp h7 d hd
          rw [Bool.or_eq_true] at this
          rcases this with e | e
          · exact .inl (beq_iff_eq.mp e)
          · exact .inr (of_decide_eq_false (nobool e))
        have pz : PE X (.Name (nmN c) pz) (tC (.ref C)) := pe_glob g4 hg rfl g5
        refine we_of (pe_callB (callr_w (f := .builtin "isinstance")) g1 (fa.bl _ (of_decide_eq_true h2)) (by decide +kernel) (pa_cons pe_w (pa_cons pz pa_nil (star_cons rfl)) (star_cons (nobool h8))) g3 g2 (star_cons (nobool h8)) (any_star (.cons rfl .nil))) ?_
        refine we_mono ((ha.v X ok fa _ h9).d r er q1 m1) fun vx H1 ⟨F1, e1, r1, v1⟩ => ?_
        exact isiY_go hC hcs r1 v1 q fun b e e2 => by
          subst e
          subst e2
          exact ⟨F1, e1, r1, .inr (.bl _)⟩
      | _ => simp [chk] at h
    | _ => simp [chk] at h
  · cases e <;> first | rfl | simp [chk] at h
/-- a new dict -/
theorem Rel.dct {K : PySem.W.Frag} {M : Mp} {R : Sto} {P : Ps} {F H : Hp} {p : Addr} (r : Rel K M R P F H) (h : H p = Option.none) : Rel K M R P F (upd H p (.dK [])) ∧ RVR K M R P F (upd H p (.dK [])) (.ref p) (.new (.dct [] [])) :=
  ⟨r.lay h, p, rfl, rfl, ⟨r.none h, [], upd_same, rfl, .nil⟩, fun _ _ l => r.live_ne h l, r.aside_ne h⟩
theorem snd_dnew : Snd T cf lf CX k .dnew := by
  refine .of (fun X ok fa e h => ?_) (fun sc N e h => ?_) (fun sc N es p h => by simp [chk] at h)
  · cases e with
    | Dict ks vs p =>
      cases ks with
      | nil =>
        cases vs with
        | nil =>
          intro σD R R' M P F σ H rv r er q hm
          simp only [ev] at q
          cases q
          refine we_of pe_dnewK fun p hp => ?_
          obtain ⟨r', h'⟩ := r.dct hp
          exact ⟨F, .refl F, r', h'⟩
        | cons _ _ => simp [chk] at h
      | cons _ _ => simp [chk] at h
    | _ => simp [chk] at h
  · cases e <;> first | rfl | simp [chk] at h
theorem isDct_ok {X : Cx} {M : Mp} {R : Sto} {P : Ps} {F H : Hp} {x : D} {v : V} (r : Rel X.K M R P F H) (hx : Vr X.K M F x v) (h : isDct R x = true) : ∃ a, v = .ref a ∧ IsD H a := by
  cases x with
  | dct ks ds =>
    obtain ⟨a, kvs, rfl, h1, _⟩ := hx.dct
    exact ⟨a, rfl, .inl ⟨kvs, .inl (r.ex _ _ h1)⟩⟩
  | dcT ks ds =>
    obtain ⟨a, kvs, rfl, h1, _⟩ := hx.dcT
    exact ⟨a, rfl, .inr ⟨kvs, .inl (r.ex _ _ h1)⟩⟩
  | ref j i =>
    have := hx.ref
    subst this
    cases hs : sget R j i with
    | none => simp only [isDct, derefs, hs] at h; cases h
    | some u =>
      have ho := r.ob j i u hs
      cases u with
      | dct ks ds =>
        obtain ⟨_, kvs, h1, _⟩ := ho
        exact ⟨_, rfl, .inl ⟨kvs, .inl h1⟩⟩
      | dcT ks ds =>
        obtain ⟨_, kvs, h1, _⟩ := ho
        exact ⟨_, rfl, .inr ⟨kvs, .inl h1⟩⟩
      | frz d =>
        cases d with
        | dct ks ds =>
          have ho : Den X.K F (.dct ks ds) (.ref (M j i)) := ho
          cases ho with
          | dct h1 _ _ => exact ⟨_, rfl, .inl ⟨_, .inl (r.ex _ _ h1)⟩⟩
        | dcT ks ds =>
          have ho : Den X.K F (.dcT ks ds) (.ref (M j i)) := ho
          cases ho with
          | dcT h1 _ _ => exact ⟨_, rfl, .inr ⟨_, .inl (r.ex _ _ h1)⟩⟩
        | _ => simp only [isDct, derefs, hs, fzO] at h; cases h
      | _ => simp only [isDct, derefs, hs, fzO] at h; cases h
  | _ => cases h
theorem snd_dget {a k' z : C} (ha : Snd T cf lf CX k a) (hk : Snd T cf lf CX k k') (hz : Snd T cf lf CX k z) : Snd T cf lf CX k (.dget a k' z) := by
  refine .of (fun X ok fa e h => ?_) (fun sc N e h => ?_) (fun sc N es p h => by simp [chk] at h)
  · have inv : ∃ x m ap y w cp, e = .Call (.Attribute x m ap) [y, w] [] cp := by
      cases e with
      | Call g es kws cp =>
        cases g with
        | Attribute x m ap =>
          match es, kws, h with
          | [y, w], [], _ => exact ⟨x, m, ap, y, w, cp, rfl⟩
          | [], _, h => simp [chk] at h
          | [_], _, h => simp [chk] at h
          | _ :: _ :: _ :: _, _, h => simp [chk] at h
          | [_, _], _ :: _, h => simp [chk] at h
        | _ => simp [chk] at h
      | _ => simp [chk] at h
    obtain ⟨x, m, ap, y, w, cp, rfl⟩ := inv
    simp only [chk, Bool.and_eq_true] at h
    obtain ⟨⟨⟨⟨⟨⟨⟨h0, h1⟩, h2⟩, h3⟩, h4⟩, h5⟩, h6⟩, h7⟩ := h
    cases of_decide_eq_true h1
    intro σD R R' M P F σ H rv r er q hm
    simp only [ev] at q
    obtain ⟨x', R1, q1, m1, q⟩ := bindV_ok q
    split at q
    · rename_i hd
      obtain ⟨y', R2, q2, m2, q⟩ := bindV_ok q
      obtain ⟨w', R3, q3, m3, q⟩ := bindV_ok q
      have hs2 : starEach [y, w] X.env = [(false, eval y X.env), (false, eval w X.env)] := by
        rw [star_cons (nobool h3), star_cons (nobool h4)]
        rfl
      refine we_of (pe_dget2 (units1 ok) pe_w pe_w pe_w ⟨abase (nobool h0), by rw [hs2]; rfl, h2, by rw [hs2]; rfl⟩) ?_
      refine we_mono ((ha.v X ok fa _ h5).d r er q1 m1) fun vx H1 ⟨F1, e1, r1, v1⟩ => ?_
      obtain ⟨a, rfl, hI⟩ := isDct_ok r1 v1 hd
      refine ⟨a, rfl, hI, ?_⟩
      refine we_mono ((hk.v X ok fa _ h6).d r1 (er.mono e1) q2 m2) fun vy H2 ⟨F2, e2, r2, v2⟩ => ?_
      refine we_mono ((hz.v X ok fa _ h7).d r2 (er.mono (e1.trans e2)) q3 m3) fun vz H3 ⟨F3, e3, r3, v3⟩ => ?_
      cases hg : dctGet R3 (fz x') (fz y') with
      | none => rw [hg] at q; cases q
      | some o =>
        obtain ⟨a', ov, ea, g, ho⟩ := dctGet_ok r3 ((v1.mono e2).mono e3) (v2.mono e3) hg
        cases ea
        refine ⟨ov, g, ?_⟩
        rw [hg] at q
        cases o with
        | none =>
          cases q
          cases ov with
          | some _ => exact ho.elim
          | none => exact ⟨F3, (e1.trans e2).trans e3, r3, v3⟩
        | some d =>
          cases q
          cases ov with
          | none => exact ho.elim
          | some v => exact ⟨F3, (e1.trans e2).trans e3, r3, .inr ho⟩
    · cases q
  · cases e <;> first | rfl | simp [chk] at h
end
end EV

/-! EvQ: enumerate over a tuple. -/
namespace EQ
open PySem
open PySem.Sem (wp)
open AutoSeq1 (wpAny_loadPart')
theorem meets_enumerate_newT (t : Addr) (items : Array Value) :
    Meets (Builtin.«enumerate.__new__» ⟨[.type "enumerate", .ref t], []⟩) (fun _ R s => s.heap.IsTuple t items ∧
      R (.ok (.ret (.ref (s.heap.push { cls := .type "tuple_iterator", data := .fields #[.ref t, .int 0 0] }).objs.size)))
        { s with heap := (s.heap.push { cls := .type "tuple_iterator", data := .fields #[.ref t, .int 0 0] }).push { cls := .type "enumerate", data := .fields #[.none, .bool false, .ref s.heap.objs.size, rawInt 0, .none, .none] } }) :=
  .of_wp fun prog w A R s h => by
    obtain ⟨hp, g, d, tk, os⟩ := s; obtain ⟨hL, h⟩ := h
    have hsub := sub_enumerate
    obtain ⟨⟨c, dct, dt, sl⟩, hl, hc, n, hd⟩ := id hL
    replace hc : c = .type "tuple" := hc
    replace hd : dt = .seq items n := hd
    subst hc hd
    wp_walk using wpAny_loadPart' hl
    refine wpAny_stack_any fun st => wpAny_pure ?_
    split
    · rename_i c _ _ _ _ _
      cases (c == Value.type "enumerate")
      · wp_walk using wpAny_loadPart' hl, wpAny_pyIter_tuple hL
        exact ⟨_, rfl, h⟩
      · wp_walk using wpAny_loadPart' hl, wpAny_pyIter_tuple hL
        exact ⟨_, rfl, h⟩
    · wp_walk using wpAny_loadPart' hl, wpAny_pyIter_tuple hL
      exact ⟨_, rfl, h⟩
section
variable {prog : Program} {w : World} {A : Around} {E : Value → Shared → Prop} {s : Shared}
theorem call_enumerate_tuple {t : Addr} {items : Array Value} {Q : Value → Shared → Prop} (hL : s.heap.IsTuple t items)
    (h : ∀ h', IsEnum h' (s.heap.objs.size + 1) s.heap.objs.size 0 .none → h'.IsTupleIter s.heap.objs.size t 0 → h'.objs.size = s.heap.objs.size + 2 →
      (∀ b o, s.heap.get? b = some o → h'.get? b = some o) → Q (.ref (s.heap.objs.size + 1)) { s with heap := h' }) :
    wpAny (model prog w) A (call (.type "enumerate") [.ref t]) Q E s := by
  refine callType_new F.called_enumerate (by decide) (F.typeCall_enumerate_1 _) (F.newCall_enumerate_1 _) (fun obj => F.args_object_init_2 obj _) F.entry_enumerate_new
    (meets_enumerate_newT t items) ⟨hL, ?_⟩
  have hz : (s.heap.push { cls := .type "tuple_iterator", data := .fields #[.ref t, .int 0 0] }).objs.size = s.heap.objs.size + 1 := Heap.size_push ..
  show _ ∧ _
  rw [hz]
  have he : IsEnum ((s.heap.push { cls := .type "tuple_iterator", data := .fields #[.ref t, .int 0 0] }).push
      { cls := .type "enumerate", data := .fields #[.none, .bool false, .ref s.heap.objs.size, rawInt 0, .none, .none] }) (s.heap.objs.size + 1) s.heap.objs.size 0 .none := by
    have := Heap.get?_push_size (s.heap.push { cls := .type "tuple_iterator", data := .fields #[.ref t, .int 0 0] })
      (o := { cls := .type "enumerate", data := .fields #[.none, .bool false, .ref s.heap.objs.size, rawInt 0, .none, .none] }) rfl
    rw [hz] at this; exact this
  refine ⟨⟨_, he, rfl⟩, h _ he ⟨_, Heap.get?_push_of_some _ (Heap.get?_push_size _ rfl), rfl, rfl⟩ (by rw [Heap.size_push, hz]) fun b o x => Heap.get?_push_of_some _ (Heap.get?_push_of_some _ x)⟩
end
end EQ
namespace L2
open PySem PySem.Spec PyProof.Rows
/-- the tuple at a, each item in a new pair -/
def IteT (K : PySem.W.Frag) (a : Addr) : It :=
  ⟨fun i H => ∃ (xs : List V) (x : V), SqT K H a xs ∧ xs[i]? = some x, fun i H v H' => ∃ T x, v = .ref T ∧ H T = none ∧ H' = upd H T (.tup [.int (i : Nat), x]) ∧ ∀ xs, SqT K H a xs → xs[i]? = some x, fun i H => ∃ xs : List V, SqT K H a xs ∧ xs.length ≤ i⟩
theorem turn_enumT {P : Program} {w : World} {K : PySem.W.Frag} {elts : List Expr} {kk : Nat} {tpos : Pos} (a e it : Addr) :
    Turn P w K (.Tuple elts kk tpos) (IteT K a) [e, it] e (fun i h => (∃ old, IsEnum h e it ((i : Nat) : Int) old) ∧ h.IsTupleIter it a i ∧ e ≠ it ∧ a ≠ it ∧ a ≠ e) where
  mem := by simp
  obj := fun i h st b hb => by
    obtain ⟨⟨old, he⟩, ⟨o, ho, hc, hd⟩, _⟩ := st
    have e' : b = e ∨ b = it := by simpa using hb
    rcases e' with z | z
    · rw [z]; exact ⟨_, he, fun v q => nomatch q⟩
    · rw [z]; exact ⟨o, ho, fun v q => by rw [hd] at q; cases q⟩
  keep := fun i h h' st k => let ⟨⟨old, he⟩, hi, hne⟩ := st; ⟨⟨old, k e (by simp) _ he⟩, hi.at fun o q => k it (by simp) o q, hne⟩
  item := by
    intro X hP hw hK hc i pins s σ H E I hf st hg
    subst hP hw hK
    obtain ⟨⟨old, he⟩, hit, hne, hai, hae⟩ := st
    obtain ⟨xs, x, hq, hx⟩ := hg
    obtain ⟨its, rv, p, hz⟩ := I.tuple hq
    obtain ⟨u, hu, ru⟩ := rv.get hx
    have hel : e < s.heap.objs.size := Heap.lt_size he
    have hil : it < s.heap.objs.size := by obtain ⟨_, q, _⟩ := hit; exact Heap.lt_size q
    have hlt : i < its.toArray.size := by
      have := (List.getElem?_eq_some_iff.mp hu).1
      simpa using this
    have hh : X.A.in1.handled = none := I.ok.hd hc
    refine wpAny_pyNext_enum_itemC (c := ((i : Nat) : Int)) (Draws.tuple (prog := X.prog) (w := X.w) hh it a hai its.toArray) he ⟨hit, p⟩ hlt hne (by simp [hne, Ne.symm hae]) fun x' h' tk hP' ho hs' hT hsz hk => ?_
    have ex : x' = u := by
      have h1 : its.toArray[i]? = some x' := hP'
      have h2 : its.toArray[i]? = some u := by simpa using hu
      rw [h1] at h2
      exact Option.some.inj h2
    subst ex
    refine ⟨_, rfl, wpAny_letOwnedTupleGo_enum (s := { s with heap := h', toks := tk + 1 }) ho fun h'' he' sb => ?_⟩
    have hT2 : h''.get? s.heap.objs.size = some { cls := .type "tuple", data := .seq #[.int i tk, x'] } := (sb.2 _ (Nat.ne_of_gt hel)).trans hT
    have new : ObjOk X.prog X.w (upd H s.heap.objs.size (.tup [.int (i : Nat), x])) h'' s.heap.objs.size (.tup [.int (i : Nat), x]) :=
      ⟨by show 2 ≤ sizeLine; decide, [.int i tk, x'], .cons ⟨_, rfl⟩ (.cons ru .nil), ⟨_, hT2, rfl, _, rfl⟩⟩
    have I1 : Inv X pins σ (upd H s.heap.objs.size (.tup [.int (i : Nat), x])) { s with heap := h'', toks := tk + 1 } :=
      I.turnedNew (ch := [e, it]) (fun b ob hb q => (sb.2 b (fun z => hb (by simp [z]))).trans (hk b ob (fun z => hb (by simp [z])) (fun z => hb (by simp [z])) q)) hf (Nat.le_refl _) new
    refine ⟨.ref s.heap.objs.size, _, I1, rfl, ⟨_, x, rfl, I.hok.fresh (Nat.le_refl _), rfl, fun ys hy => by rw [I.tuple_inj hy hq]; exact hx⟩, ⟨⟨x', ?_⟩, hs'.1.at fun o q => (sb.2 it (Ne.symm hne)).trans q, hne, hai, hae⟩, fun b hb => ?_⟩
    · have e1 : ((i + 1 : Nat) : Int) = (i : Int) + 1 := by omega
      rw [e1]; exact he'
    · have hb' : b < s.heap.objs.size := by
        have e' : b = e ∨ b = it := by simpa using hb
        rcases e' with z | z
        · rw [z]; exact hel
        · rw [z]; exact hil
      rw [upd_ne (Nat.ne_of_lt hb')]
      exact (hf b hb).1
  done := by
    intro X hP hw hK hc i pins s σ H E I hf st hg
    subst hP hw hK
    obtain ⟨⟨old, he⟩, hit, hne, hai, hae⟩ := st
    obtain ⟨xs, hq, hx⟩ := hg
    obtain ⟨its, rv, p, hz⟩ := I.tuple hq
    obtain ⟨f0, f1, f2, f3, f4, f5⟩ := hf it (by simp)
    have hl := rv.length
    have hh : X.A.in1.handled = none := I.ok.hd hc
    have hT : s.TypeIs (.ref e) "enumerate" := ⟨_, he, rfl⟩
    unfold pyNext
    refine wpAny_bind (wpAny_attempt (wpAny_callSpecial?_slot (name := Str.ofString "__next__") hT F.slot_enumerate_next
      (wpAny_call_entry F.slot_enumerate_next hT F.entry_enumerate_next ?_ (F.args_enumerate_next_1 _))))
    show wpAny _ _ (field (.ref e) 2 >>= _) _ _ _
    refine wpAny_bind (wpAny_field he rfl (x := .ref it) rfl ?_)
    refine wpAny_bind (wpAny_nextOf_tuple_end hh hit p (by simp; omega) fun h' x he' hx' => ?_)
    obtain ⟨o, ho, hcl⟩ := hx'
    refine wpAny_bind (wpAny_isInstance (T := "StopIteration") (b := true) ⟨o, ho, hcl⟩ isSubtype_stop ?_)
    exact wpAny_pure ⟨rfl, I.turned (t' := s.toks) (fun b o hb q => he' b o hb q) f0 f1 f3 f4 f5⟩
  self := fun A i s Q E st h => let ⟨⟨_, he⟩, _⟩ := st; wpAny_pyIter_enum he h
def iEnumT (K : PySem.W.Frag) (ta : TA) : TI := fun σ H R => ta σ H fun vs H1 => ∃ a xs, vs = [.ref a] ∧ SqT K H1 a xs ∧ R (IteT K a) H1
theorem pi_enumT {X : Cx} {e : Expr} {ta : TA} {p pos tpos : Pos} {elts : List Expr} {kk : Nat} (hg : Gl X "enumerate") (hm : X.mg "enumerate" = none) (ha : PA X [e] ta) (hs : starEach [e] X.env = [(false, eval e X.env)] := by rfl) :
    PI X (.Tuple elts kk tpos) (.Call (.Name "enumerate" p) [e] [] pos) (iEnumT X.K ta) := by
  refine ⟨fun pins s σ H R I h => ?_⟩
  refine Call_ (ld_blt I hg hm boot_enumerate (PyProof.Rows.callWith_type1 (thn (ha.run pos pins s σ H _ I h) fun us s1 ⟨vs, H1, I1, r1, q1⟩ => ?_) hs rfl))
  obtain ⟨a, xs, ex, hq, q⟩ := q1
  subst ex
  cases r1 with
  | cons r rr =>
    cases rr
    cases r
    obtain ⟨its, rv, p', hz⟩ := I1.tuple hq
    have ha : a < s1.heap.objs.size := by obtain ⟨_, q, _⟩ := p'; exact Heap.lt_size q
    refine EQ.call_enumerate_tuple p' fun h' he hit hsz hk => wpAny_pyIter_enum he ?_
    have I2 : Inv X pins σ H1 { s1 with heap := h' } := I1.kept (t' := s1.toks) hk
    refine ⟨s1.heap.objs.size + 1, [s1.heap.objs.size + 1, s1.heap.objs.size], _, _, H1, rfl, I2, turn_enumT a (s1.heap.objs.size + 1) s1.heap.objs.size, ⟨⟨.none, he⟩, hit, Nat.succ_ne_self _, Nat.ne_of_lt ha, Nat.ne_of_lt (Nat.lt_succ_of_lt ha)⟩, fun b hb => ?_, q⟩
    have e' : b = s1.heap.objs.size + 1 ∨ b = s1.heap.objs.size := by simpa using hb
    have hle : s1.heap.objs.size ≤ b := by
      rcases e' with z | z
      · rw [z]; exact Nat.le_add_right _ _
      · rw [z]; exact Nat.le_refl _
    exact I1.fpOk hle (I1.hok.fresh hle)
end L2

/-! EvJ: slices, what is walked, comprehensions; all expressions together. -/
namespace EV
open PySem PySem.Spec PyProof.Rows L2

/-! ### what is walked -/
/-- told values are walked by J -/
def ItV (K : PySem.W.Frag) (F : Hp) (ds : List D) (J : L2.It) : Prop := ∀ H, Ex F H → (∀ i d, ds[i]? = some d → J.go i H ∧ ∀ x H', J.yld i H x H' → ∀ (M : Mp) (R : Sto) (P : Ps) (G : Hp), Ex F G → Rel K M R P G H → ∃ G', Ex G G' ∧ Rel K M R P G' H' ∧ Den K G' d x) ∧ J.stop ds.length H
/-- where the heap stays as it is -/
theorem itV_same {K : PySem.W.Frag} {F : Hp} {ds : List D} {vs : List V} {J : L2.It} (h : DenL K F ds vs) (k : ∀ H, Ex F H → (∀ i, i < vs.length → J.go i H ∧ ∀ x H', J.yld i H x H' → H' = H ∧ vs[i]? = some x) ∧ J.stop vs.length H) : ItV K F ds J := fun H e => by
  obtain ⟨k1, k2⟩ := k H e
  refine ⟨fun i d hd => ?_, ?_⟩
  · obtain ⟨v, h1, h2⟩ := h.get hd
    have hi := (List.getElem?_eq_some_iff.mp h1).1
    refine ⟨(k1 i hi).1, fun x H' y M R P G eG r => ?_⟩
    obtain ⟨e1, e2⟩ := (k1 i hi).2 x H' y
    subst e1
    rw [h1] at e2
    cases e2
    exact ⟨G, .refl G, r, h2.mono eG⟩
  · rw [← h.length]
    exact k2
def ItR (K : PySem.W.Frag) (M : Mp) (F : Hp) (j : It) (J : L2.It) : Prop := match j with
  | .vals ds => ItV K F ds J
  | .live x => ∃ a, Vr K M F x (.ref a) ∧ J = Itl K a
def WI (X : Cx) (tg e : Expr) (σ : L2.St) (H : Hp) (R : L2.It → Hp → Prop) : Prop := ∀ (pins : List (Addr × Obj)) (s : Shared), Inv X pins σ H s → wpAny (model X.prog X.w) X.A (eval e X.env) (fun v s1 => wpAny (model X.prog X.w) X.A (pyIter v) (PIE X pins σ tg R) X.xe s1) X.xe s
theorem pi_w {X : Cx} {tg e : Expr} : PI X tg e (WI X tg e) := ⟨fun pins s σ H R I h => h pins s I⟩
theorem wi_of {X : Cx} {tg e : Expr} {t : TI} {σ : L2.St} {H : Hp} {R : L2.It → Hp → Prop} (h : PI X tg e t) (q : t σ H R) : WI X tg e σ H R := fun pins s I => h.run pins s σ H R I q
section
variable {K : PySem.W.Frag} {F : Hp} {ds : List D} {vs : List V} {a : Addr}
theorem itV_list (h : DenL K F ds vs) (ha : ∀ H, Ex F H → SqL K H a vs) : ItV K F ds (Itl K a) := by
  refine itV_same h fun H e => ⟨fun i hi => ⟨⟨vs, vs[i], ha H e, List.getElem?_eq_getElem hi⟩, fun x H' y => ?_⟩, ⟨vs, ha H e, Nat.le_refl _⟩⟩
  obtain ⟨e1, y⟩ := y
  exact ⟨e1, y vs (ha H e)⟩
theorem itV_tup (h : DenL K F ds vs) (ha : SqT K F a vs) : ItV K F ds (Itt K a) := by
  refine itV_same h fun H e => ⟨fun i hi => ⟨⟨vs, vs[i], e.sqT ha, List.getElem?_eq_getElem hi⟩, fun x H' y => ?_⟩, ⟨vs, e.sqT ha, Nat.le_refl _⟩⟩
  obtain ⟨e1, y⟩ := y
  exact ⟨e1, y vs (e.sqT ha)⟩
theorem denl_ints (K : PySem.W.Frag) (F : Hp) (lo : Int) : ∀ n : Nat, DenL K F ((List.range n).map fun (i : Nat) => D.int (lo + (i : Int))) ((List.range n).map fun (i : Nat) => V.int (lo + (i : Int))) := fun n => by
  generalize List.range n = l
  induction l with
  | nil => exact .nil
  | cons x l ih => exact .cons (.int _) ih
theorem itV_range (lo : Int) (n : Nat) : ItV K F ((List.range n).map fun (i : Nat) => D.int (lo + (i : Int))) (Itr lo n) := by
  refine itV_same (denl_ints K F lo n) fun H e => ⟨fun i hi => ?_, ?_⟩
  · rw [List.length_map, List.length_range] at hi
    refine ⟨hi, fun x H' y => ?_⟩
    obtain ⟨e1, e2⟩ := y
    refine ⟨e1, ?_⟩
    rw [List.getElem?_map, List.getElem?_range hi, e2]
    rfl
  · rw [List.length_map, List.length_range]
    exact Nat.le_refl _
theorem ItV.mono {G : Hp} {J : L2.It} (e : Ex F G) (h : ItV K F ds J) : ItV K G ds J := fun H e' => by
  obtain ⟨h1, h2⟩ := h H (e.trans e')
  exact ⟨fun i d hd => ⟨(h1 i d hd).1, fun x H' y M R P I eI r => (h1 i d hd).2 x H' y M R P I (e.trans eI) r⟩, h2⟩
end

section
variable {T : Tb} {cf : Cf} {lf k : Nat} {CX : CXT} {c : C}
theorem po_w {X : Cx} {o : Option Expr} {lo : C} {σD : List (Option D)} {R R' : Sto} {M : Mp} {P : Ps} {F : Hp} {σ : L2.St} {H : Hp} {rv : Rv} {l : Option Int} (ok : Okx CX k X) (fa : Facts T cf CX k X) (hs : Snd T cf lf CX k lo) (h : (match o with | none => isNonC lo | some l => !isNonC lo && chk T lo X.env.scope X.N l) = true)
    (r : Rel X.K M R P F H) (er : ER X.K M F σD σ) (q : ev cf lf lo σD R = .ok rv R') (hm : ∀ ds, rv ≠ .many ds) (hl : ptOf (isNonC lo) (fz rv) = some l) :
    ∃ t, PO X o t ∧ ∀ Q : Option Int → Hp → Prop, (∀ H' F', Ex F F' → Rel X.K M R' P F' H' → Q l H') → t σ H Q := by
  cases o with
  | none =>
    have h : isNonC lo = true := h
    have e : lo = .lit .non := by
      unfold isNonC at h
      split at h
      · rfl
      · cases h
    subst e
    simp only [ev] at q
    cases q
    cases hl
    exact ⟨_, po_none, fun Q kq => kq H F (.refl F) r⟩
  | some e =>
    simp only [Bool.and_eq_true] at h
    rw [nobool h.1] at hl
    refine ⟨_, po_some pe_w, fun Q kq => we_mono ((hs.v X ok fa e h.2).d r er q hm) fun v H1 ⟨F1, e1, r1, v1⟩ => ?_⟩
    cases hd : fz rv with
    | int i =>
      rw [hd] at hl v1
      cases hl
      exact ⟨i, v1.int, kq H1 F1 e1 r1⟩
    | _ => rw [hd] at hl; cases hl
theorem snd_slc {a lo hi : C} (ha : Snd T cf lf CX k a) (hl : Snd T cf lf CX k lo) (hh : Snd T cf lf CX k hi) : Snd T cf lf CX k (.slc a lo hi) := by
  refine .of (fun X ok fa e h => ?_) (fun sc N e h => ?_) (fun sc N es p h => by simp [chk] at h)
  · have inv : ∃ x l u p2 p, e = .Subscript x (.Slice l u none p2) p ∧ chk T a X.env.scope X.N x = true ∧ (match l with | none => isNonC lo | some l => !isNonC lo && chk T lo X.env.scope X.N l) = true ∧ (match u with | none => isNonC hi | some l => !isNonC hi && chk T hi X.env.scope X.N l) = true := by
      cases e with
      | Subscript x y p =>
        cases y with
        | Slice l u st p2 =>
          cases st with
          | none =>
            simp only [chk, Bool.and_eq_true] at h
            exact ⟨x, l, u, p2, p, rfl, h.1.1, h.1.2, h.2⟩
          | some _ => simp [chk] at h
        | _ => simp [chk] at h
      | _ => simp [chk] at h
    obtain ⟨x, l, u, p2, p, rfl, h1, h2, h3⟩ := inv
    intro σD R R' M P F σ H rv r er q hm
    simp only [ev] at q
    obtain ⟨dx, R1, q1, m1, q⟩ := bindV_ok q
    obtain ⟨dl, R2, q2, m2, q⟩ := bindV_ok q
    obtain ⟨dh, R3, q3, m3, q⟩ := bindV_ok q
    obtain ⟨lv, uv, e1, e2, rl, o1, o2⟩ := slcOp_ok (X := X) q
    have plo : ∀ (F1 H1 : Hp), Ex F F1 → Rel X.K M R1 P F1 H1 → ∃ t, PO X l t ∧ ∀ Q : Option Int → Hp → Prop, (∀ H' F', Ex F1 F' → Rel X.K M R2 P F' H' → Q lv H') → t σ H1 Q := fun F1 H1 e r1 => po_w ok fa hl h2 r1 (er.mono e) q2 m2 e1
    have phi : ∀ (F1 H1 : Hp), Ex F F1 → Rel X.K M R2 P F1 H1 → ∃ t, PO X u t ∧ ∀ Q : Option Int → Hp → Prop, (∀ H' F', Ex F1 F' → Rel X.K M R3 P F' H' → Q uv H') → t σ H1 Q := fun F1 H1 e r1 => po_w ok fa hh h3 r1 (er.mono e) q3 m3 e2
    refine we_of (pe_slice (tl := fun σ H Q => ∃ t, PO X l t ∧ t σ H Q) (th := fun σ H Q => ∃ t, PO X u t ∧ t σ H Q) o1 pe_w ⟨fun pins s σ H Q I ⟨t, ht, hq⟩ => ht.run pins s σ H Q I hq⟩ ⟨fun pins s σ H Q I ⟨t, ht, hq⟩ => ht.run pins s σ H Q I hq⟩) ?_
    refine we_mono ((ha.v X ok fa _ h1).d r er q1 m1) fun vx H1 ⟨F1, f1, r1, v1⟩ => ?_
    obtain ⟨t, ht, hq⟩ := plo F1 H1 f1 r1
    refine ⟨t, ht, hq _ fun H2 F2 f2 r2 => ?_⟩
    obtain ⟨t', ht', hq'⟩ := phi F2 H2 (f1.trans f2) r2
    refine ⟨t', ht', hq' _ fun H3 F3 f3 r3 => ?_⟩
    exact o2 M P F3 H3 vx _ r3 ((v1.mono f2).mono f3) fun v F' H' e3 r4 h => ⟨F', ((f1.trans f2).trans f3).trans e3, r4, h⟩
  · cases e <;> first | rfl | simp [chk] at h
theorem snd_rng1 {a : C} : Snd T cf lf CX k (.rng1 a) := by
  have nm : ∀ {σD R rv R'}, ev cf lf (.rng1 a) σD R = .ok rv R' → ∃ ds, rv = .many ds := fun q => by
    simp only [ev] at q
    obtain ⟨x, R2, q2, m2, q⟩ := bindV_ok q
    cases q
    exact ⟨_, rfl⟩
  refine ⟨fun X ok fa e h σD R R' M P F σ H rv r er q hm => ?_, fun X ok fa es p h => by simp [chk] at h, fun X ok fa e h σD R R' M P F σ H rv b r er q hm => ?_⟩
  · obtain ⟨ds, e⟩ := nm q
    exact absurd e (hm _)
  · obtain ⟨ds, e⟩ := nm q
    exact absurd e (hm _)
theorem snd_rng2 {a b : C} : Snd T cf lf CX k (.rng2 a b) := by
  have nm : ∀ {σD R rv R'}, ev cf lf (.rng2 a b) σD R = .ok rv R' → ∃ ds, rv = .many ds := fun q => by
    simp only [ev] at q
    obtain ⟨x, R2, q2, m2, q⟩ := bindV_ok q
    obtain ⟨y, R3, q3, m3, q⟩ := bindV_ok q
    cases q
    exact ⟨_, rfl⟩
  refine ⟨fun X ok fa e h σD R R' M P F σ H rv r er q hm => ?_, fun X ok fa es p h => by simp [chk] at h, fun X ok fa e h σD R R' M P F σ H rv b r er q hm => ?_⟩
  · obtain ⟨ds, e⟩ := nm q
    exact absurd e (hm _)
  · obtain ⟨ds, e⟩ := nm q
    exact absurd e (hm _)
theorem itOf_false {rv : Rv} {j : It} {R : Sto} (h : itOf .val R rv = some j) : ∀ ds, rv ≠ .many ds := by
  intro ds z
  subst z
  cases h
theorem itOf_many {ds : List D} {j : It} {R : Sto} (h : itOf .rng R (.many ds) = some j) : ∃ a b : Int, ds = [.int a, .int b] ∧ (-(2 ^ 62) ≤ a ∧ a < 2 ^ 62 ∧ -(2 ^ 62) ≤ b ∧ b < 2 ^ 62) ∧ j = .vals ((List.range (b - a).toNat).map fun (i : Nat) => .int (a + (i : Int))) := by
  simp only [itOf] at h
  split at h
  · rename_i a b z
    cases z
    split at h
    · rename_i hb
      cases h
      exact ⟨_, _, rfl, of_decide_eq_true hb, rfl⟩
    · cases h
  · cases h
/-- what is walked, as the machine has it -/
def WJ (it : C) (X : Cx) (M : Mp) (R : Sto) (P : Ps) (F : Hp) (j : It) (e : Expr) (σ : L2.St) (H : Hp) : Prop := ∀ (tg : Expr) (Q : L2.It → Hp → Prop), tgIk it tg = true → (∀ J H' F', Ex F F' → Rel X.K M R P F' H' → ItR X.K M F' j J → Q J H') → WI X tg e σ H Q
theorem itV_eq {rv : Rv} {j : It} {R : Sto} (h : itOf .val R rv = some j) (hm : ∀ ds, rv ≠ .many ds) : itV R (fz rv) = some j := by
  cases rv with
  | val d => exact h
  | new o => exact h
  | many ds => exact absurd rfl (hm ds)
theorem it_val {it : C} (hs : Snd T cf lf CX k it) {X : Cx} {e : Expr} (ok : Okx CX k X) (fa : Facts T cf CX k X) (h : chk T it X.env.scope X.N e = true) {σD : List (Option D)} {R R' : Sto} {M : Mp} {P : Ps} {F : Hp} {σ : L2.St} {H : Hp} {rv : Rv} {j : It}
    (r : Rel X.K M R P F H) (er : ER X.K M F σD σ) (q : ev cf lf it σD R = .ok rv R') (hj : itOf .val R' rv = some j) : WJ it X M R' P F j e σ H := by
  intro tg Q ktg kq
  have hm := itOf_false hj
  have W := (hs.v X ok fa e h).d r er q hm
  have hj := itV_eq hj hm
  cases hd : fz rv with
  | tup ds =>
    rw [hd] at hj W
    cases hj
    refine wi_of (pi_tup pe_w) (we_mono W fun v H1 ⟨F1, e1, r1, v1⟩ => ?_)
    obtain ⟨a, vs, rfl, h1, h2⟩ := v1.tup
    exact ⟨a, rfl, ⟨vs, r1.ex.sqT h1⟩, kq _ _ F1 e1 r1 (itV_tup h2 h1)⟩
  | ktp ds =>
    rw [hd] at hj W
    cases hj
    refine wi_of (pi_tup pe_w) (we_mono W fun v H1 ⟨F1, e1, r1, v1⟩ => ?_)
    obtain ⟨a, vs, rfl, h1, h2⟩ := v1.ktp
    exact ⟨a, rfl, ⟨vs, r1.ex.sqT h1⟩, kq _ _ F1 e1 r1 (itV_tup h2 h1)⟩
  | lst ds =>
    rw [hd] at hj W
    cases hj
    refine wi_of (pi_list pe_w) (we_mono W fun v H1 ⟨F1, e1, r1, v1⟩ => ?_)
    obtain ⟨a, vs, rfl, h1, h2⟩ := v1.lst
    exact ⟨a, rfl, ⟨vs, .inl (.inl (r1.ex _ _ h1))⟩, kq _ _ F1 e1 r1 (itV_list h2 (fun H e => .inl (.inl (e _ _ h1))))⟩
  | scr ds =>
    rw [hd] at hj W
    cases hj
    refine wi_of (pi_list pe_w) (we_mono W fun v H1 ⟨F1, e1, r1, v1⟩ => ?_)
    obtain ⟨a, vs, rfl, h1, h2⟩ := v1.scr
    exact ⟨a, rfl, ⟨vs, r1.ex.sqL h1⟩, kq _ _ F1 e1 r1 (itV_list h2 (fun H e => e.sqL h1))⟩
  | ref j i =>
    rw [hd] at hj W
    simp only [itV] at hj
    split at hj
    · rename_i ds hds
      cases hj
      refine wi_of (pi_list pe_w) (we_mono W fun v H1 ⟨F1, e1, r1, v1⟩ => ?_)
      obtain ⟨a, vs, rfl, h1, h2⟩ := r1.asL v1 hds
      exact ⟨a, rfl, ⟨vs, .inl (.inl h1)⟩, kq _ _ F1 e1 r1 ⟨a, v1, rfl⟩⟩
    · cases hj
  | _ => rw [hd] at hj; cases hj
theorem it_rng1 {a it0 : C} (ha : Snd T cf lf CX k a) {X : Cx} {e : Expr} (ok : Okx CX k X) (fa : Facts T cf CX k X) (h : chk T (.rng1 a) X.env.scope X.N e = true) {σD : List (Option D)} {R R' : Sto} {M : Mp} {P : Ps} {F : Hp} {σ : L2.St} {H : Hp} {rv : Rv} {j : It}
    (r : Rel X.K M R P F H) (er : ER X.K M F σD σ) (q : ev cf lf (.rng1 a) σD R = .ok rv R') (hj : itOf .rng R' rv = some j) : WJ it0 X M R' P F j e σ H := by
  intro tg Q ktg kq
  have inv : ∃ y px p, e = .Call (.Name "range" px) [y] [] p ∧ ("range" : Str) ∈ T.bnm ∧ glB X.env.scope "range" = true ∧ isStar y = false ∧ chk T a X.env.scope X.N y = true := by
    cases e with
    | Call g es kws p =>
      cases g with
      | Name x px =>
        cases kws with
        | nil =>
          cases es with
          | nil => simp [chk] at h
          | cons y es =>
            cases es with
            | nil =>
              simp only [chk, Bool.and_eq_true] at h
              obtain ⟨⟨⟨⟨h1, h2⟩, h3⟩, h4⟩, h5⟩ := h
              cases of_decide_eq_true h1
              exact ⟨y, px, p, rfl, of_decide_eq_true h2, h3, nobool h4, h5⟩
            | cons _ _ => simp [chk] at h
        | cons _ _ => simp [chk] at h
      | _ => simp [chk] at h
    | _ => simp [chk] at h
  obtain ⟨y, px, p, rfl, h2, h3, h4, h5⟩ := inv
  obtain ⟨g1, g2, g3⟩ := gl_of h3
  simp only [ev] at q
  obtain ⟨x, R1, q1, m1, q⟩ := bindV_ok q
  cases q
  obtain ⟨lo, hi, e1, hb, rfl⟩ := itOf_many hj
  have W := (ha.v X ok fa y h5).d r er q1 m1
  cases hd : fz x with
  | int n =>
    rw [hd] at e1 W
    cases e1
    refine wi_of (pi_range1 g1 (fa.bl _ h2) (pa_cons pe_w pa_nil (star_cons h4)) (by rw [star_cons h4]; rfl)) ?_
    refine we_mono W fun v H1 ⟨F1, f1, r1, v1⟩ => ?_
    refine ⟨hi, ?_, hb.2.2.1, hb.2.2.2, kq _ _ F1 f1 r1 ?_⟩
    · rw [v1.int]
    · have z : (hi - 0).toNat = hi.toNat := by rw [Int.sub_zero]
      rw [z]
      exact itV_range 0 _
  | _ => rw [hd] at e1; cases e1
theorem it_rng2 {a b it0 : C} (ha : Snd T cf lf CX k a) (hb : Snd T cf lf CX k b) {X : Cx} {e : Expr} (ok : Okx CX k X) (fa : Facts T cf CX k X) (h : chk T (.rng2 a b) X.env.scope X.N e = true) {σD : List (Option D)} {R R' : Sto} {M : Mp} {P : Ps} {F : Hp} {σ : L2.St} {H : Hp} {rv : Rv} {j : It}
    (r : Rel X.K M R P F H) (er : ER X.K M F σD σ) (q : ev cf lf (.rng2 a b) σD R = .ok rv R') (hj : itOf .rng R' rv = some j) : WJ it0 X M R' P F j e σ H := by
  intro tg Q ktg kq
  have inv : ∃ y z px p, e = .Call (.Name "range" px) [y, z] [] p ∧ ("range" : Str) ∈ T.bnm ∧ glB X.env.scope "range" = true ∧ isStar y = false ∧ isStar z = false ∧ chk T a X.env.scope X.N y = true ∧ chk T b X.env.scope X.N z = true := by
    cases e with
    | Call g es kws p =>
      cases g with
      | Name x px =>
        cases kws with
        | nil =>
          cases es with
          | nil => simp [chk] at h
          | cons y es =>
            cases es with
            | nil => simp [chk] at h
            | cons z es =>
              cases es with
              | nil =>
                simp only [chk, Bool.and_eq_true] at h
                obtain ⟨⟨⟨⟨⟨⟨h1, h2⟩, h3⟩, h4⟩, h5⟩, h6⟩, h7⟩ := h
                cases of_decide_eq_true h1
                exact ⟨y, z, px, p, rfl, of_decide_eq_true h2, h3, nobool h4, nobool h5, h6, h7⟩
              | cons _ _ => simp [chk] at h
        | cons _ _ => simp [chk] at h
      | _ => simp [chk] at h
    | _ => simp [chk] at h
  obtain ⟨y, z, px, p, rfl, h2, h3, h4, h4', h5, h6⟩ := inv
  obtain ⟨g1, g2, g3⟩ := gl_of h3
  simp only [ev] at q
  obtain ⟨x, R1, q1, m1, q⟩ := bindV_ok q
  obtain ⟨w, R2, q2, m2, q⟩ := bindV_ok q
  cases q
  obtain ⟨lo, hi, e1, hbd, rfl⟩ := itOf_many hj
  have W := (ha.v X ok fa y h5).d r er q1 m1
  cases hd : fz x with
  | int n =>
    cases hd2 : fz w with
    | int m =>
      rw [hd, hd2] at e1
      rw [hd] at W
      cases e1
      refine wi_of (pi_range2 g1 (fa.bl _ h2) (pa_cons pe_w (pa_cons pe_w pa_nil (star_cons h4')) (star_cons h4)) (by rw [star_cons h4, star_cons h4']; rfl) (by rw [star_cons h4']; rfl)) ?_
      refine we_mono W fun v H1 ⟨F1, f1, r1, v1⟩ => ?_
      have W2 := (hb.v X ok fa z h6).d r1 (er.mono f1) q2 m2
      refine we_mono W2 fun v2 H2 ⟨F2, f2, r2, w2⟩ => ?_
      rw [hd2] at w2
      refine ⟨lo, hi, ?_, hbd, kq _ _ F2 (f1.trans f2) r2 (itV_range lo _)⟩
      rw [v1.int, w2.int]
    | _ => rw [hd, hd2] at e1; cases e1
  | _ => rw [hd] at e1; cases e1
/-! ### pairs at each turn: zip, enumerate, items -/
theorem snd_many1 {it a : C} (hev : ∀ σ R, ev cf lf it σ R = bindV (ev cf lf a σ R) fun x R1 => .ok (.many [x]) R1) (hl : ∀ T sc N es p, chk T it sc N (.List es p) = false) : Snd T cf lf CX k it := by
  have nm : ∀ {σD R rv R'}, ev cf lf it σD R = .ok rv R' → ∃ ds, rv = .many ds := fun q => by
    rw [hev] at q
    obtain ⟨x, R2, q2, m2, q⟩ := bindV_ok q
    cases q
    exact ⟨_, rfl⟩
  refine ⟨fun X ok fa e h σD R R' M P F σ H rv r er q hm => ?_, fun X ok fa es p h => (by rw [hl] at h; cases h), fun X ok fa e h σD R R' M P F σ H rv b r er q hm => ?_⟩
  · obtain ⟨ds, e⟩ := nm q
    exact absurd e (hm _)
  · obtain ⟨ds, e⟩ := nm q
    exact absurd e (hm _)
theorem snd_zipE {a b : C} : Snd T cf lf CX k (.zipE a b) := by
  have nm : ∀ {σD R rv R'}, ev cf lf (.zipE a b) σD R = .ok rv R' → ∃ ds, rv = .many ds := fun q => by
    simp only [ev] at q
    obtain ⟨x, R2, q2, m2, q⟩ := bindV_ok q
    obtain ⟨y, R3, q3, m3, q⟩ := bindV_ok q
    cases q
    exact ⟨_, rfl⟩
  refine ⟨fun X ok fa e h σD R R' M P F σ H rv r er q hm => ?_, fun X ok fa es p h => by simp [chk] at h, fun X ok fa e h σD R R' M P F σ H rv b r er q hm => ?_⟩
  · obtain ⟨ds, e⟩ := nm q
    exact absurd e (hm _)
  · obtain ⟨ds, e⟩ := nm q
    exact absurd e (hm _)
theorem snd_enmE {a : C} : Snd T cf lf CX k (.enmE a) := snd_many1 (a := a) (fun _ _ => by simp only [ev]) fun _ _ _ _ _ => (by simp [chk])
theorem snd_itm {a : C} : Snd T cf lf CX k (.itm a) := snd_many1 (a := a) (fun _ _ => by simp only [ev]) fun _ _ _ _ _ => (by simp [chk])
theorem zipL_get : ∀ {xs ys : List D} {i : Nat} {d : D}, (zipL xs ys)[i]? = some d → ∃ x y, xs[i]? = some x ∧ ys[i]? = some y ∧ d = .tup [x, y]
  | [], _, _, _, h => by simp [zipL] at h
  | _ :: _, [], _, _, h => by simp [zipL] at h
  | x :: xs, y :: ys, 0, d, h => by
    simp [zipL] at h
    exact ⟨x, y, rfl, rfl, h.symm⟩
  | x :: xs, y :: ys, i + 1, d, h => by
    simp [zipL] at h
    obtain ⟨x', y', h1, h2, h3⟩ := zipL_get h
    exact ⟨x', y', by simpa using h1, by simpa using h2, h3⟩
theorem zipL_len : ∀ (xs ys : List D), (zipL xs ys).length = min xs.length ys.length
  | [], _ => by simp [zipL]
  | _ :: _, [] => by simp [zipL]
  | x :: xs, y :: ys => by
    simp only [zipL, List.length_cons, zipL_len xs ys]
    omega
theorem enmL_get : ∀ {xs : List D} {n i : Nat} {d : D}, (enmL n xs)[i]? = some d → ∃ x, xs[i]? = some x ∧ d = .tup [.int ((n + i : Nat) : Int), x]
  | [], _, _, _, h => by simp [enmL] at h
  | x :: xs, n, 0, d, h => by
    simp [enmL] at h
    exact ⟨x, rfl, by rw [← h]; simp⟩
  | x :: xs, n, i + 1, d, h => by
    simp [enmL] at h
    obtain ⟨x', h1, h2⟩ := enmL_get h
    exact ⟨x', by simpa using h1, by rw [h2]; congr 4; omega⟩
theorem enmL_len : ∀ (xs : List D) (n : Nat), (enmL n xs).length = xs.length
  | [], _ => rfl
  | x :: xs, n => by simp only [enmL, List.length_cons, enmL_len xs]
/-- a turn that lays a new pair -/
theorem pair_turn {K : PySem.W.Frag} {M : Mp} {R : Sto} {P : Ps} {G H : Hp} {p : Addr} {x y : D} {vx vy : V} (r : Rel K M R P G H) (hp : H p = none) (hx : Den K G x vx) (hy : Den K G y vy) :
    ∃ G', Ex G G' ∧ Rel K M R P G' (upd H p (.tup [vx, vy])) ∧ Den K G' (.tup [x, y]) (.ref p) := by
  obtain ⟨G', e, r', h⟩ := r.tup hp (.cons hx (.cons hy .nil))
  refine ⟨G', e, r', ?_⟩
  rcases h with ⟨_, _, z, _⟩ | h
  · cases z
  · exact h
section
variable {K : PySem.W.Frag} {F : Hp} {xs ys : List D} {vs us : List V} {a b : Addr}
theorem itV_zip (hx : DenL K F xs vs) (hy : DenL K F ys us) (ha : F a = some (.lst vs)) (hb : F b = some (.lst us)) : ItV K F (zipL xs ys) (Itz K a b) := by
  intro H e
  refine ⟨fun i d hd => ?_, ?_⟩
  · obtain ⟨x, y, h1, h2, rfl⟩ := zipL_get hd
    obtain ⟨vx, g1, g2⟩ := hx.get h1
    obtain ⟨vy, g3, g4⟩ := hy.get h2
    refine ⟨⟨vs, us, vx, vy, .inl (.inl (e _ _ ha)), .inl (.inl (e _ _ hb)), g1, g3⟩, fun v H' yl M R P G eG r => ?_⟩
    obtain ⟨T, x', y', rfl, hT, rfl, k1, k2⟩ := yl
    have e1 := k1 vs (.inl (.inl (e _ _ ha)))
    have e2 := k2 us (.inl (.inl (e _ _ hb)))
    rw [g1] at e1
    rw [g3] at e2
    cases e1
    cases e2
    exact pair_turn r hT (g2.mono eG) (g4.mono eG)
  · refine ⟨vs, us, .inl (.inl (e _ _ ha)), .inl (.inl (e _ _ hb)), ?_⟩
    rw [zipL_len, hx.length, hy.length]
    omega
theorem itV_zipT (hx : DenL K F xs vs) (hy : DenL K F ys us) (ha : SqT K F a vs) (hb : SqT K F b us) : ItV K F (zipL xs ys) (RZ.ItzT K a b) := by
  intro H e
  refine ⟨fun i d hd => ?_, ?_⟩
  · obtain ⟨x, y, h1, h2, rfl⟩ := zipL_get hd
    obtain ⟨vx, g1, g2⟩ := hx.get h1
    obtain ⟨vy, g3, g4⟩ := hy.get h2
    refine ⟨⟨vs, us, vx, vy, e.sqT ha, e.sqT hb, g1, g3⟩, fun v H' yl M R P G eG r => ?_⟩
    obtain ⟨T, x', y', rfl, hT, rfl, k1, k2⟩ := yl
    have e1 := k1 vs (e.sqT ha)
    have e2 := k2 us (e.sqT hb)
    rw [g1] at e1
    rw [g3] at e2
    cases e1
    cases e2
    exact pair_turn r hT (g2.mono eG) (g4.mono eG)
  · refine ⟨vs, us, e.sqT ha, e.sqT hb, ?_⟩
    rw [zipL_len, hx.length, hy.length]
    omega
theorem itV_enum (hx : DenL K F xs vs) (ha : F a = some (.lst vs)) : ItV K F (enmL 0 xs) (Ite K a) := by
  intro H e
  refine ⟨fun i d hd => ?_, ?_⟩
  · obtain ⟨x, h1, rfl⟩ := enmL_get hd
    obtain ⟨vx, g1, g2⟩ := hx.get h1
    refine ⟨⟨vs, vx, .inl (.inl (e _ _ ha)), g1⟩, fun v H' yl M R P G eG r => ?_⟩
    obtain ⟨T, x', rfl, hT, rfl, k1⟩ := yl
    have e1 := k1 vs (.inl (.inl (e _ _ ha)))
    rw [g1] at e1
    cases e1
    rw [Nat.zero_add]
    exact pair_turn r hT (.int _) (g2.mono eG)
  · refine ⟨vs, .inl (.inl (e _ _ ha)), ?_⟩
    rw [enmL_len, hx.length]
    exact Nat.le_refl _
theorem itV_enumT (hx : DenL K F xs vs) (ha : SqT K F a vs) : ItV K F (enmL 0 xs) (IteT K a) := by
  intro H e
  refine ⟨fun i d hd => ?_, ?_⟩
  · obtain ⟨x, h1, rfl⟩ := enmL_get hd
    obtain ⟨vx, g1, g2⟩ := hx.get h1
    refine ⟨⟨vs, vx, e.sqT ha, g1⟩, fun v H' yl M R P G eG r => ?_⟩
    obtain ⟨T, x', rfl, hT, rfl, k1⟩ := yl
    have e1 := k1 vs (e.sqT ha)
    rw [g1] at e1
    cases e1
    rw [Nat.zero_add]
    exact pair_turn r hT (.int _) (g2.mono eG)
  · refine ⟨vs, e.sqT ha, ?_⟩
    rw [enmL_len, hx.length]
    exact Nat.le_refl _
end
theorem it_enmE {a it0 : C} (h0 : it0 = .enmE a) (ha : Snd T cf lf CX k a) {X : Cx} {e : Expr} (ok : Okx CX k X) (fa : Facts T cf CX k X) (h : chk T (.enmE a) X.env.scope X.N e = true) {σD : List (Option D)} {R R' : Sto} {M : Mp} {P : Ps} {F : Hp} {σ : L2.St} {H : Hp} {rv : Rv} {j : It}
    (r : Rel X.K M R P F H) (er : ER X.K M F σD σ) (q : ev cf lf (.enmE a) σD R = .ok rv R') (hj : itOf .enm R' rv = some j) : WJ it0 X M R' P F j e σ H := by
  intro tg Q ktg kq
  subst h0
  have inv : ∃ y px p, e = .Call (.Name "enumerate" px) [y] [] p ∧ ("enumerate" : Str) ∈ T.bnm ∧ glB X.env.scope "enumerate" = true ∧ isStar y = false ∧ chk T a X.env.scope X.N y = true := by
    cases e with
    | Call g es kws p =>
      cases g with
      | Name x px =>
        cases kws with
        | nil =>
          cases es with
          | nil => simp [chk] at h
          | cons y es =>
            cases es with
            | nil =>
              simp only [chk, Bool.and_eq_true] at h
              obtain ⟨⟨⟨⟨h1, h2⟩, h3⟩, h4⟩, h5⟩ := h
              cases of_decide_eq_true h1
              exact ⟨y, px, p, rfl, of_decide_eq_true h2, h3, nobool h4, h5⟩
            | cons _ _ => simp [chk] at h
        | cons _ _ => simp [chk] at h
      | _ => simp [chk] at h
    | _ => simp [chk] at h
  obtain ⟨y, px, p, rfl, h2, h3, h4, h5⟩ := inv
  obtain ⟨g1, g2, g3⟩ := gl_of h3
  cases tg with
  | Tuple elts kk tpos =>
    simp only [ev] at q
    obtain ⟨x, R1, q1, m1, q⟩ := bindV_ok q
    cases q
    have W := (ha.v X ok fa y h5).d r er q1 m1
    cases hd : fz x with
    | lst xs =>
      rw [hd] at hj W
      cases hj
      refine wi_of (pi_enum g1 (fa.bl _ h2) (pa_cons pe_w pa_nil (star_cons h4)) (by rw [star_cons h4]; rfl)) ?_
      refine we_mono W fun v H1 ⟨F1, f1, r1, v1⟩ => ?_
      obtain ⟨b, vs, rfl, k1, k2⟩ := v1.lst
      exact ⟨b, vs, rfl, .inl (.inl (r1.ex _ _ k1)), kq _ _ F1 f1 r1 (itV_enum k2 k1)⟩
    | tup xs =>
      rw [hd] at hj W
      cases hj
      refine wi_of (pi_enumT g1 (fa.bl _ h2) (pa_cons pe_w pa_nil (star_cons h4)) (by rw [star_cons h4]; rfl)) ?_
      refine we_mono W fun v H1 ⟨F1, f1, r1, v1⟩ => ?_
      obtain ⟨b, vs, rfl, k1, k2⟩ := v1.tup
      exact ⟨b, vs, rfl, r1.ex.sqT k1, kq _ _ F1 f1 r1 (itV_enumT k2 k1)⟩
    | _ => rw [hd] at hj; cases hj
  | _ => cases ktg
theorem it_zipE {a b it0 : C} (h0 : it0 = .zipE a b) (ha : Snd T cf lf CX k a) (hb : Snd T cf lf CX k b) {X : Cx} {e : Expr} (ok : Okx CX k X) (fa : Facts T cf CX k X) (h : chk T (.zipE a b) X.env.scope X.N e = true) {σD : List (Option D)} {R R' : Sto} {M : Mp} {P : Ps} {F : Hp} {σ : L2.St} {H : Hp} {rv : Rv} {j : It}
    (r : Rel X.K M R P F H) (er : ER X.K M F σD σ) (q : ev cf lf (.zipE a b) σD R = .ok rv R') (hj : itOf .zip R' rv = some j) : WJ it0 X M R' P F j e σ H := by
  intro tg Q ktg kq
  subst h0
  have inv : ∃ y z px p, e = .Call (.Name "zip" px) [y, z] [] p ∧ ("zip" : Str) ∈ T.bnm ∧ glB X.env.scope "zip" = true ∧ isStar y = false ∧ isStar z = false ∧ chk T a X.env.scope X.N y = true ∧ chk T b X.env.scope X.N z = true := by
    cases e with
    | Call g es kws p =>
      cases g with
      | Name x px =>
        cases kws with
        | nil =>
          cases es with
          | nil => simp [chk] at h
          | cons y es =>
            cases es with
            | nil => simp [chk] at h
            | cons z es =>
              cases es with
              | nil =>
                simp only [chk, Bool.and_eq_true] at h
                obtain ⟨⟨⟨⟨⟨⟨h1, h2⟩, h3⟩, h4⟩, h5⟩, h6⟩, h7⟩ := h
                cases of_decide_eq_true h1
                exact ⟨y, z, px, p, rfl, of_decide_eq_true h2, h3, nobool h4, nobool h5, h6, h7⟩
              | cons _ _ => simp [chk] at h
        | cons _ _ => simp [chk] at h
      | _ => simp [chk] at h
    | _ => simp [chk] at h
  obtain ⟨y, z, px, p, rfl, h2, h3, h4, h4', h5, h6⟩ := inv
  obtain ⟨g1, g2, g3⟩ := gl_of h3
  cases tg with
  | Tuple elts kk tpos =>
    simp only [ev] at q
    obtain ⟨x, R1, q1, m1, q⟩ := bindV_ok q
    obtain ⟨w, R2, q2, m2, q⟩ := bindV_ok q
    cases q
    have W := (ha.v X ok fa y h5).d r er q1 m1
    have rule := RZ.pi_zipA (elts := elts) (kk := kk) (tpos := tpos) (p := px) (pos := p) g1 (fa.bl _ h2) (pa_cons (pe_w (e := y)) (pa_cons (pe_w (e := z)) pa_nil (star_cons h4')) (star_cons h4)) (by rw [star_cons h4]) (by rw [star_cons h4']; rfl)
    simp only [itOf] at hj
    cases hd : fz x with
    | lst xs =>
      rw [hd] at hj W
      cases hd2 : fz w with
      | lst ys =>
        rw [hd2] at hj
        cases hj
        refine wi_of rule ?_
        refine we_mono W fun v H1 ⟨F1, f1, r1, v1⟩ => ?_
        refine we_mono ((hb.v X ok fa z h6).d r1 (er.mono f1) q2 m2) fun v2 H2 ⟨F2, f2, r2, w2⟩ => ?_
        rw [hd2] at w2
        obtain ⟨b1, vs, rfl, k1, k2⟩ := (v1.mono f2).lst
        obtain ⟨b2, us, rfl, k3, k4⟩ := w2.lst
        exact ⟨b1, b2, vs, us, rfl, .inl ⟨.inl (.inl (r2.ex _ _ k1)), .inl (.inl (r2.ex _ _ k3)), kq _ _ F2 (f1.trans f2) r2 (itV_zip k2 k4 k1 k3)⟩⟩
      | _ => rw [hd2] at hj; cases hj
    | tup xs =>
      rw [hd] at hj W
      cases hd2 : fz w with
      | tup ys =>
        rw [hd2] at hj
        cases hj
        refine wi_of rule ?_
        refine we_mono W fun v H1 ⟨F1, f1, r1, v1⟩ => ?_
        refine we_mono ((hb.v X ok fa z h6).d r1 (er.mono f1) q2 m2) fun v2 H2 ⟨F2, f2, r2, w2⟩ => ?_
        rw [hd2] at w2
        obtain ⟨b1, vs, rfl, k1, k2⟩ := (v1.mono f2).tup
        obtain ⟨b2, us, rfl, k3, k4⟩ := w2.tup
        exact ⟨b1, b2, vs, us, rfl, .inr ⟨r2.ex.sqT k1, r2.ex.sqT k3, kq _ _ F2 (f1.trans f2) r2 (itV_zipT k2 k4 k1 k3)⟩⟩
      | ktp ys =>
        rw [hd2] at hj
        cases hj
        refine wi_of rule ?_
        refine we_mono W fun v H1 ⟨F1, f1, r1, v1⟩ => ?_
        refine we_mono ((hb.v X ok fa z h6).d r1 (er.mono f1) q2 m2) fun v2 H2 ⟨F2, f2, r2, w2⟩ => ?_
        rw [hd2] at w2
        obtain ⟨b1, vs, rfl, k1, k2⟩ := (v1.mono f2).tup
        obtain ⟨b2, us, rfl, k3, k4⟩ := w2.ktp
        exact ⟨b1, b2, vs, us, rfl, .inr ⟨r2.ex.sqT k1, r2.ex.sqT k3, kq _ _ F2 (f1.trans f2) r2 (itV_zipT k2 k4 k1 k3)⟩⟩
      | _ => rw [hd2] at hj; cases hj
    | _ => rw [hd] at hj; cases hj
  | _ => cases ktg
end
end EV

/-! EvK: comprehensions; all expressions together. -/
namespace EV
open PySem PySem.Spec PyProof.Rows L2

section
variable {T : Tb} {cf : Cf} {lf k : Nat} {CX : CXT} {c : C}
/-- a block's context is as good -/
theorem Okx.blk {X : Cx} (ok : Okx CX k X) (s : Shared) (H : Hp) (scope : Scope) (env : Env) (fp : List Addr) : Okx CX k (X.blk s H scope env fp) :=
  ⟨ok.calm, ok.nd, ok.pass, PassesOwn.never, ok.nex, ok.room⟩
theorem Facts.blk {X : Cx} (fa : Facts T cf CX k X) (s : Shared) (H : Hp) (scope : Scope) (env : Env) (fp : List Addr) : Facts T cf CX k (X.blk s H scope env fp) :=
  ⟨fa.fn, fa.gl, fa.bl, fa.df, fa.cl, fa.dm, fa.dp, fa.me, fa.pr, fa.ma, fa.sl⟩
def WTs (X : Cx) (ifs : List Expr) (σ : L2.St) (H : Hp) (Q : Bool → Hp → Prop) : Prop := ∀ (pins : List (Addr × Obj)) (s : Shared), Inv X pins σ H s →
  wpAny (model X.prog X.w) X.A (forIn ifs true fun c r => if r = true then do let ok ← isTrue c X.env (eval c X.env); pure (ForInStep.yield ok) else pure (ForInStep.yield r)) (TP X pins σ Q) X.xe s
theorem pts_w {X : Cx} {ifs : List Expr} : PTs X ifs (WTs X ifs) := ⟨fun pins s σ H Q I h => h pins s I⟩
theorem wts_of {X : Cx} {ifs : List Expr} {t : TT} {σ : L2.St} {H : Hp} {Q : Bool → Hp → Prop} (h : PTs X ifs t) (q : t σ H Q) : WTs X ifs σ H Q := fun pins s I => h.run pins s σ H Q I q
/-- a block's element and tests, wherever it runs -/
def bkE (X : Cx) (scope : Scope) (e : Expr) : TE := fun σ H Q => ∀ (s : Shared) (H0 : Hp) (C : Addr) (cl : List (Str × Addr)) (fp : List Addr), WE (X.blk s H0 scope (compEnvC scope cl C X.env) fp) e σ H Q
def bkT (X : Cx) (scope : Scope) (ifs : List Expr) : TT := fun σ H Q => ∀ (s : Shared) (H0 : Hp) (C : Addr) (cl : List (Str × Addr)) (fp : List Addr), WTs (X.blk s H0 scope (compEnvC scope cl C X.env) fp) ifs σ H Q
abbrev En := List (Option D)
/-! ### targets -/
theorem assignEach_cons {e : Expr} {es : List Expr} {env : Env} (h : isStar e = false) : assignEach (e :: es) env = (false, assign e env) :: assignEach es env := by
  cases e <;> first | rfl | exact nomatch h
theorem setTg_many {is : List Nat} {d : D} {σD σD1 : En} (h : 2 ≤ is.length) (q : setTg is d σD = some σD1) : ∃ ds, (d = .tup ds ∨ d = .ktp ds) ∧ setsTg is ds σD = some σD1 := by
  unfold setTg at q
  split at q
  · simp at h
  · exact ⟨_, .inl rfl, q⟩
  · exact ⟨_, .inr rfl, q⟩
  · cases q
theorem Vr.tups {K : PySem.W.Frag} {M : Mp} {F : Hp} {d : D} {ds : List D} {v : V} (e : d = .tup ds ∨ d = .ktp ds) (h : Vr K M F d v) : ∃ a vs, v = .ref a ∧ SqT K F a vs ∧ DenL K F ds vs := by
  rcases e with rfl | rfl
  · exact h.tup
  · exact h.ktp
theorem loc_of {sc : Scope} {f : Str → Bool} {x : Str} (h : locB sc f x = true) : Loc sc x ∧ (f x = true ∨ sc.names.lookup x = some .local) := by
  unfold locB at h
  split at h
  · rename_i q; exact ⟨.inl q, .inr q⟩
  · rename_i q; exact ⟨.inr q, .inl h⟩
  · cases h
/-- the same but for these places -/
def Off (is : List Nat) (σ1 σ : L2.St) : Prop := σ1.length = σ.length ∧ ∀ i, i ∉ is → σ1[i]? = σ[i]?
theorem wipe_at (σ : L2.St) : ∀ (vs : List Nat) (i : Nat), (wipe σ vs)[i]? = if i ∈ vs then (if i < σ.length then some none else none) else σ[i]?
  | [], i => by simp [wipe]
  | v :: vs, i => by
    unfold wipe
    by_cases hv : v = i
    · subst hv
      rw [if_pos (List.mem_cons_self)]
      by_cases hl : v < σ.length
      · rw [List.getElem?_set_self (by rw [wipe_length]; exact hl), if_pos hl]
      · rw [List.getElem?_eq_none (by rw [List.length_set, wipe_length]; omega), if_neg hl]
    · rw [List.getElem?_set_ne hv, wipe_at σ vs i]
      by_cases hm : i ∈ vs
      · rw [if_pos hm, if_pos (List.mem_cons_of_mem _ hm)]
      · rw [if_neg hm, if_neg (by simp only [List.mem_cons, not_or]; exact ⟨fun e => hv e.symm, hm⟩)]
theorem wipe_off {is : List Nat} {σ1 σ : L2.St} (h : Off is σ1 (wipe σ is)) : wipe σ1 is = wipe σ is := by
  refine List.ext_getElem? fun i => ?_
  have hl : σ1.length = σ.length := by rw [h.1, wipe_length]
  rw [wipe_at, wipe_at σ, hl]
  by_cases hm : i ∈ is
  · rw [if_pos hm, if_pos hm]
  · rw [if_neg hm, if_neg hm, h.2 i hm, wipe_at, if_neg hm]
theorem ER.setK {K : PySem.W.Frag} {M : Mp} {F : Hp} {σD : En} {σ : L2.St} {i : Nat} {d : D} {v : V} (h : ER K M F σD σ) (hv : Vr K M F d v) : ER K M F (σD.set i (some d)) (σ.set i (some v)) := by
  refine ⟨by rw [List.length_set, List.length_set]; exact h.1, fun j d' q => ?_⟩
  by_cases hj : j = i
  · subst hj
    have hl : j < σD.length := by
      have := (List.getElem?_eq_some_iff.mp q).1
      rwa [List.length_set] at this
    rw [List.getElem?_set_self hl] at q
    cases q
    exact ⟨v, List.getElem?_set_self (by rw [h.1]; exact hl), hv⟩
  · rw [List.getElem?_set_ne (Ne.symm hj)] at q
    obtain ⟨w, h1, h2⟩ := h.2 j d' q
    exact ⟨w, by rw [List.getElem?_set_ne (Ne.symm hj)]; exact h1, h2⟩
theorem ER.clr {K : PySem.W.Frag} {M : Mp} {F : Hp} {σD : En} {σ : L2.St} (i : Nat) (h : ER K M F σD σ) : ER K M F (σD.set i none) (σ.set i none) := by
  refine ⟨by rw [List.length_set, List.length_set]; exact h.1, fun j d q => ?_⟩
  by_cases hj : j = i
  · subst hj
    have hl : j < σD.length := by
      have := (List.getElem?_eq_some_iff.mp q).1
      rwa [List.length_set] at this
    rw [List.getElem?_set_self hl] at q
    cases q
  · rw [List.getElem?_set_ne (Ne.symm hj)] at q
    obtain ⟨w, h1, h2⟩ := h.2 j d q
    exact ⟨w, by rw [List.getElem?_set_ne (Ne.symm hj)]; exact h1, h2⟩
theorem ER.wipe {K : PySem.W.Frag} {M : Mp} {F : Hp} {σD : En} {σ : L2.St} (h : ER K M F σD σ) : ∀ is : List Nat, ER K M F (wipeD σD is) (L2.wipe σ is)
  | [] => h
  | i :: is => (ER.wipe h is).clr i
theorem nmB_star {sc : Scope} {f : Str → Bool} {N : List Str} {i : Nat} {e : Expr} (h : nmB sc f N i e = true) : isStar e = false := by
  cases e <;> first | rfl | cases h
theorem nmsB_each {sc : Scope} {f : Str → Bool} {N : List Str} {env : Env} : ∀ {is : List Nat} {es : List Expr}, nmsB sc f N is es = true → is.length = es.length ∧ (assignEach es env).length = es.length ∧ (assignEach es env).findIdx? (·.1) = none
  | [], [], _ => ⟨rfl, rfl, rfl⟩
  | i :: is, e :: es, h => by
    simp only [nmsB, Bool.and_eq_true] at h
    obtain ⟨h1, h2, h3⟩ := nmsB_each (env := env) h.2
    rw [assignEach_cons (nmB_star h.1)]
    exact ⟨by rw [List.length_cons, h1, List.length_cons], by rw [List.length_cons, h2, List.length_cons], by rw [List.findIdx?_cons, h3]; rfl⟩
  | [], _ :: _, h => by simp [nmsB] at h
  | _ :: _, [], h => by simp [nmsB] at h
theorem nmsB_len {sc : Scope} {f : Str → Bool} {N : List Str} : ∀ {is : List Nat} {es : List Expr}, nmsB sc f N is es = true → is.length = es.length
  | [], [], _ => rfl
  | i :: is, e :: es, h => by
    simp only [nmsB, Bool.and_eq_true] at h
    rw [List.length_cons, nmsB_len h.2, List.length_cons]
  | [], _ :: _, h => by simp [nmsB] at h
  | _ :: _, [], h => by simp [nmsB] at h
def gNms : List Nat → TGs
  | [] => gNil
  | i :: is => gCons (gName i) (gNms is)
def gTg (K : PySem.W.Frag) : List Nat → Expr → TG
  | is, .Tuple _ _ _ => gTup K is.length (gNms is)
  | is, _ => gName (is.headD 0)
theorem blk_nm {X : Cx} (ok : Okx CX k X) {scope : Scope} {i : Nat} {e : Expr} (h : nmB (relSc scope X.env.scope) (fun y => scope.names.lookup y == some .cell) X.N i e = true) :
    ∀ (s : Shared) (H : Hp) (C : Addr) (cl : List (Str × Addr)) (fp : List Addr), PG (X.blk s H scope (compEnvC scope cl C X.env) fp) e (gName i) := fun s H C cl fp => by
  cases e with
  | Name x px =>
    simp only [nmB, Bool.and_eq_true] at h
    obtain ⟨l1, l2⟩ := loc_of h.2
    exact pg_name ok.nd (of_decide_eq_true h.1) l1 l2
  | _ => cases h
theorem blk_nms {X : Cx} (ok : Okx CX k X) {scope : Scope} : ∀ {is : List Nat} {es : List Expr}, nmsB (relSc scope X.env.scope) (fun y => scope.names.lookup y == some .cell) X.N is es = true →
    ∀ (s : Shared) (H : Hp) (C : Addr) (cl : List (Str × Addr)) (fp : List Addr), PGs (X.blk s H scope (compEnvC scope cl C X.env) fp) es (gNms is)
  | [], [], _ => fun _ _ _ _ _ => pgs_nil
  | i :: is, e :: es, h => fun s H C cl fp => by
    simp only [nmsB, Bool.and_eq_true] at h
    exact pgs_cons (blk_nm ok h.1 s H C cl fp) (blk_nms ok h.2 s H C cl fp) (by rw [assignEach_cons (nmB_star h.1)]; rfl)
  | [], _ :: _, h => by simp [nmsB] at h
  | _ :: _, [], h => by simp [nmsB] at h
theorem blk_pg {X : Cx} (ok : Okx CX k X) {scope : Scope} {is : List Nat} {tg : Expr} (h : tgB (relSc scope X.env.scope) (fun y => scope.names.lookup y == some .cell) X.N is tg = true) :
    ∀ (s : Shared) (H : Hp) (C : Addr) (cl : List (Str × Addr)) (fp : List Addr), PG (X.blk s H scope (compEnvC scope cl C X.env) fp) tg (gTg X.K is tg) := fun s H C cl fp => by
  cases tg with
  | Name x px =>
    simp only [tgB] at h
    split at h
    · exact blk_nm ok h s H C cl fp
    · cases h
  | Tuple es kk pt =>
    simp only [tgB, Bool.and_eq_true] at h
    obtain ⟨h1, h2, h3⟩ := nmsB_each (env := (X.blk s H scope (compEnvC scope cl C X.env) fp).env) h.2
    exact pg_tup ok.calm (blk_nms ok h.2 s H C cl fp) (by rw [h2, h1]) h3
  | _ => cases h
theorem gNms_ok {K : PySem.W.Frag} : ∀ {is : List Nat} {ds : List D} {vs : List V} {σD σD1 : En} {M : Mp} {F : Hp} {σ : L2.St} {H : Hp} {Q : L2.St → Hp → Prop}, setsTg is ds σD = some σD1 → DenL K F ds vs → ER K M F σD σ → (∀ σ1, ER K M F σD1 σ1 → Off is σ1 σ → Q σ1 H) → vs.length = is.length ∧ gNms is vs σ H Q
  | [], ds, vs, σD, σD1, M, F, σ, H, Q, q, hv, er, kq => by
    cases ds with
    | nil =>
      cases hv
      cases q
      exact ⟨rfl, rfl, kq σ er ⟨rfl, fun _ _ => rfl⟩⟩
    | cons _ _ => cases q
  | i :: is, ds, vs, σD, σD1, M, F, σ, H, Q, q, hv, er, kq => by
    cases ds with
    | nil => cases q
    | cons d ds =>
      cases hv with
      | cons h1 h2 =>
        obtain ⟨e1, e2⟩ := gNms_ok (H := H) (Q := Q) (is := is) (ds := ds) (σD := σD.set i (some d)) (σD1 := σD1) (M := M) q h2 (er.setK (i := i) (.inr h1)) fun σ1 er1 off => kq σ1 er1 ⟨by rw [off.1, List.length_set], fun j hj => (by
          rw [List.mem_cons, not_or] at hj
          rw [off.2 j hj.2, List.getElem?_set_ne (Ne.symm hj.1)])⟩
        exact ⟨by rw [List.length_cons, List.length_cons, e1], _, _, rfl, e2⟩
theorem gTg_ok {sc : Scope} {f : Str → Bool} {N : List Str} {K : PySem.W.Frag} {is : List Nat} {tg : Expr} (h : tgB sc f N is tg = true) {d : D} {v : V} {R : Sto} {σD σD1 : En} {M : Mp} {P : Ps} {F : Hp} {σ : L2.St} {H : Hp} {Q : L2.St → Hp → Prop}
    (q : setTg is d σD = some σD1) (hv : Vr K M F d v) (r : Rel K M R P F H) (er : ER K M F σD σ) (kq : ∀ σ1, ER K M F σD1 σ1 → Off is σ1 σ → Q σ1 H) : gTg K is tg v σ H Q := by
  cases tg with
  | Name x px =>
    simp only [tgB] at h
    split at h
    · rename_i i
      simp only [setTg] at q
      cases q
      exact kq _ (er.setK hv) ⟨List.length_set, fun j hj => List.getElem?_set_ne (fun e => hj (List.mem_singleton.mpr e.symm))⟩
    · cases h
  | Tuple es kk pt =>
    simp only [tgB, Bool.and_eq_true] at h
    have hl := nmsB_len h.2
    obtain ⟨ds, e, q'⟩ := setTg_many (by rw [hl]; exact of_decide_eq_true h.1) q
    obtain ⟨a, vs, rfl, h1, h2⟩ := Vr.tups e hv
    obtain ⟨e1, e2⟩ := gNms_ok q' h2 er kq
    exact ⟨a, vs, rfl, r.ex.sqT h1, e1, e2⟩
  | _ => cases h
theorem own_snd {sc : Scope} {f : Str → Bool} {N : List Str} {is : List Nat} {tg : Expr} (h : tgB sc f N is tg = true) : ((tgNs tg).zip is).map (·.2) = is := by
  cases tg with
  | Name x px =>
    simp only [tgB] at h
    split at h
    · rfl
    · cases h
  | Tuple es kk pt =>
    simp only [tgB, Bool.and_eq_true] at h
    have hl := nmsB_len h.2
    exact List.map_snd_zip (by rw [show tgNs (.Tuple es kk pt) = es.map tgN1 from rfl, List.length_map, hl]; exact Nat.le_refl _)
  | _ => cases h

/-- what a turn gives -/
def TurnQ (X : Cx) (scope : Scope) (el : Expr) (ifs : List Expr) (M : Mp) (P : Ps) (F : Hp) (R' : Sto) (o : Option D) (σ2 : L2.St) (H : Hp) : Prop := bkT X scope ifs σ2 H fun b H3 => match o with
  | none => b = false ∧ ∃ F', Ex F F' ∧ Rel X.K M R' P F' H3
  | some y => b = true ∧ bkE X scope el σ2 H3 fun u H4 => ∃ F', Ex F F' ∧ Rel X.K M R' P F' H4 ∧ Den X.K F' y u
/-- one turn: what the code's turn gives, the block's turn gives -/
def Turn1 (X : Cx) (f : D → Sto → Out (Option D)) (σD : List (Option D)) (slots : List Nat) (g : TG) (scope : Scope) (el : Expr) (ifs : List Expr) : Prop :=
  ∀ (d : D) (R R' : Sto) (o : Option D) (M : Mp) (P : Ps) (F : Hp) (σ : L2.St) (H : Hp) (v : V) (Q : L2.St → Hp → Prop), f d R = .ok o R' → Rel X.K M R P F H → ER X.K M F σD σ → Vr X.K M F d v →
    (∀ σ2, wipe σ2 slots = wipe σ slots → TurnQ X scope el ifs M P F R' o σ2 H → Q σ2 H) → g v (wipe σ slots) H Q
theorem turn1 {elt cond : C} {slots : List Nat} {tg : Expr} {scope : Scope} {el : Expr} {ifs : List Expr} (he : Snd T cf lf CX k elt) (hc : Snd T cf lf CX k cond) {X : Cx} (ok : Okx CX k X) (fa : Facts T cf CX k X)
    (h0 : tgB (relSc scope X.env.scope) (fun y => scope.names.lookup y == some .cell) X.N slots tg = true) (h1 : chk T elt (relSc scope X.env.scope) X.N el = true)
    (h2 : (match ifs with | [] => isYes cond | [c] => chk T cond (relSc scope X.env.scope) X.N c | _ => false) = true) (σD : List (Option D)) : Turn1 X (compF (ev cf lf cond) (ev cf lf elt) slots σD) σD slots (gTg X.K slots tg) scope el ifs := by
  intro d R R' o M P F σ H v Q0 q r er hv kq
  unfold compF at q
  split at q
  · cases q
  rename_i σD1 hset
  refine gTg_ok h0 hset hv r (er.wipe slots) fun σ1 er1 off => kq σ1 (wipe_off off) ?_
  -- the tests
  have tests : ∀ (R2 : Sto) (cv : Rv) (b : Bool), ev cf lf cond σD1 R = .ok cv R2 → (∀ ds, cv ≠ .many ds) → truth R2 (fz cv) = some b → ∀ Q : Bool → Hp → Prop, (∀ H3 F', Ex F F' → Rel X.K M R2 P F' H3 → Q b H3) → bkT X scope ifs σ1 H Q := by
    intro R2 cv b q1 hm ht Q kq s0 H0 C cl fp
    cases ifs with
    | nil =>
      have e : cond = .lit (.bl true) := by
        revert h2
        dsimp only
        intro h2
        unfold isYes at h2
        split at h2
        · rfl
        · cases h2
      subst e
      simp only [ev] at q1
      cases q1
      cases ht
      exact wts_of pts_nil (kq H F (.refl F) r)
    | cons c l =>
      cases l with
      | cons _ _ => cases h2
      | nil =>
        have W := hc.t (X.blk s0 H0 scope (compEnvC scope cl C X.env) fp) (ok.blk _ _ _ _ _) (fa.blk _ _ _ _ _) c h2 σD1 R R2 M P F σ1 H cv b r er1 q1 hm ht
        exact wts_of (pts_one pt_w) (wt_mono W fun b' H3 ⟨eb, F', e1, r1⟩ => by subst eb; exact kq H3 F' e1 r1)
  split at q
  · cases q
  · rename_i cv R2 hm q1
    have hm : ∀ ds, cv ≠ .many ds := fun ds z => by subst z; exact hm ds rfl
    split at q
    · rename_i ht
      split at q
      · cases q
      · rename_i y R3 hm2 q2
        have hm2 : ∀ ds, y ≠ .many ds := fun ds z => by subst z; exact hm2 ds rfl
        split at q
        · rename_i y' R4 hb
          cases q
          refine tests R2 cv true q1 hm ht _ fun H3 F' e1 r1 => ⟨rfl, ?_⟩
          intro s0 H0 C cl fp
          have W := (he.v (X.blk s0 H0 scope (compEnvC scope cl C X.env) fp) (ok.blk _ _ _ _ _) (fa.blk _ _ _ _ _) el h1).d r1 (er1.mono e1) q2 hm2
          refine we_mono W fun u H4 ⟨F2, e2, r2, v2⟩ => ?_
          obtain ⟨G, g1, g2, g3⟩ := r2.byv v2 hb
          exact ⟨G, (e1.trans e2).trans g1, g2, g3⟩
        · cases q
      · cases q
    · rename_i ht
      cases q
      exact tests _ cv false q1 hm ht _ fun H3 F' e1 r1 => ⟨rfl, F', e1, r1⟩
    · cases q
  · cases q
/-- the turns of a comprehension over told values -/
theorem comp_vals {X : Cx} {f : D → Sto → Out (Option D)} {σD : List (Option D)} {slots : List Nat} {g : TG} {scope : Scope} {el : Expr} {ifs : List Expr} (ht : Turn1 X f σD slots g scope el ifs) {ds : List D} {R R' : Sto} {rv : Rv} {M : Mp} {P : Ps} {F : Hp} {σ : L2.St} {H1 : Hp} {J : L2.It} {a : Addr}
    (q : compV f ds R [] = .ok rv R') (r : Rel X.K M R P F H1) (er : ER X.K M F σD σ) (hJ : ItV X.K F ds J) (ha : H1 a = none) :
    ∃ W : Nat → Nat → Hp → Prop, (∃ m, W 0 m (upd H1 a (.lst []))) ∧ ∀ i m H, W i m H →
      (J.stop i H ∧ PV X M R' P F rv (.ref a) H) ∨ (J.go i H ∧ ∃ Nx : Hp → Prop, (∀ H', Nx H' → ∃ m', m' < m ∧ W (i + 1) m' H') ∧ ∀ x H', J.yld i H x H' → g x (wipe σ slots) H' fun σ2 H2 => wipe σ2 slots = wipe σ slots ∧ bkT X scope ifs σ2 H2 fun b H3 =>
        if b = true then bkE X scope el σ2 H3 fun y H4 => ∃ acc, H4 a = some (.lst acc) ∧ acc.length < sizeLine ∧ Nx (upd H4 a (.lst (acc ++ [y]))) else Nx H3) := by
  refine ⟨fun i m H => m = ds.length - i ∧ i ≤ ds.length ∧ ∃ Ri acc avs Fi, compV f (ds.drop i) Ri acc = .ok rv R' ∧ Ex F Fi ∧ Rel X.K M Ri ((a, .lst avs) :: P) Fi H ∧ DenL X.K Fi acc.reverse avs, ⟨ds.length, rfl, Nat.zero_le _, R, [], [], F, q, .refl F, r.aside ha (main_lst _), .nil⟩, ?_⟩
  rintro i m H ⟨rfl, hi, Ri, acc, avs, Fi, qi, ei, ri, di⟩
  have hF : Ex F H := ei.trans ri.ex
  by_cases hlt : i < ds.length
  · have hd : ds.drop i = ds[i] :: ds.drop (i + 1) := List.drop_eq_getElem_cons hlt
    rw [hd] at qi
    unfold compV at qi
    have go := (hJ H hF).1 i ds[i] (List.getElem?_eq_getElem hlt)
    refine .inr ⟨go.1, fun H' => ∃ Ri acc avs Fi, compV f (ds.drop (i + 1)) Ri acc = .ok rv R' ∧ Ex F Fi ∧ Rel X.K M Ri ((a, .lst avs) :: P) Fi H' ∧ DenL X.K Fi acc.reverse avs, fun H' p' => ⟨ds.length - (i + 1), by omega, rfl, hlt, p'⟩, fun x H' y => ?_⟩
    obtain ⟨Fj, ej, rj, g2⟩ := go.2 x H' y M Ri ((a, .lst avs) :: P) Fi ei ri
    cases qf : f ds[i] Ri with
    | bad => rw [qf] at qi; cases qi
    | exc _ _ => rw [qf] at qi; cases qi
    | ok o R2 =>
      rw [qf] at qi
      refine ht ds[i] Ri R2 o M ((a, .lst avs) :: P) Fj σ H' x _ qf rj (er.mono (ei.trans ej)) (.inr g2) fun σ2 hw W => ⟨hw, ?_⟩
      intro s0 H0 C cl fp
      intro pins s I
      refine thn (W s0 H0 C cl fp pins s I) fun b s' ⟨H3, I3, w⟩ => ⟨H3, I3, ?_⟩
      cases o with
      | none =>
        obtain ⟨eb, F', f1, f2⟩ := w
        subst eb
        dsimp only at qi
        exact ⟨R2, acc, avs, F', qi, (ei.trans ej).trans f1, f2, di.mono (ej.trans f1)⟩
      | some y' =>
        obtain ⟨eb, w⟩ := w
        subst eb
        dsimp only at qi
        split at qi
        · rename_i hz
          intro s0 H0 C cl fp
          refine we_mono (w s0 H0 C cl fp) fun u H4 ⟨F', f1, f2, f3⟩ => ?_
          have hp := (f2.pr _ List.mem_cons_self).1
          refine ⟨avs, hp, by rw [di.length, List.length_reverse]; exact sz_lt hz, R2, y' :: acc, avs ++ [u], F', qi, (ei.trans ej).trans f1, f2.turn (main_lst _), ?_⟩
          rw [List.reverse_cons]
          exact (di.mono (ej.trans f1)).append (.cons f3 .nil)
        · cases qi
  · have e : i = ds.length := by omega
    subst e
    rw [List.drop_length] at qi
    unfold compV at qi
    cases qi
    refine .inl ⟨?_, ?_⟩
    · exact (hJ H hF).2
    · obtain ⟨r', h'⟩ := ri.backL di
      exact ⟨Fi, ei, r', h'⟩
theorem comp_live {X : Cx} {f : D → Sto → Out (Option D)} {σD : List (Option D)} {slots : List Nat} {g : TG} {scope : Scope} {el : Expr} {ifs : List Expr} (ht : Turn1 X f σD slots g scope el ifs) {x : D} {n : Nat} {R R' : Sto} {rv : Rv} {M : Mp} {P : Ps} {F : Hp} {σ : L2.St} {H1 : Hp} {J : L2.It} {a : Addr}
    (q : compR f x n 0 R [] = .ok rv R') (r : Rel X.K M R P F H1) (er : ER X.K M F σD σ) (hJ : ItR X.K M F (.live x) J) (ha : H1 a = none) :
    ∃ W : Nat → Nat → Hp → Prop, (∃ m, W 0 m (upd H1 a (.lst []))) ∧ ∀ i m H, W i m H →
      (J.stop i H ∧ PV X M R' P F rv (.ref a) H) ∨ (J.go i H ∧ ∃ Nx : Hp → Prop, (∀ H', Nx H' → ∃ m', m' < m ∧ W (i + 1) m' H') ∧ ∀ x H', J.yld i H x H' → g x (wipe σ slots) H' fun σ2 H2 => wipe σ2 slots = wipe σ slots ∧ bkT X scope ifs σ2 H2 fun b H3 =>
        if b = true then bkE X scope el σ2 H3 fun y H4 => ∃ acc, H4 a = some (.lst acc) ∧ acc.length < sizeLine ∧ Nx (upd H4 a (.lst (acc ++ [y]))) else Nx H3) := by
  obtain ⟨p, hp, rfl⟩ := hJ
  refine ⟨fun i m H => ∃ Ri acc avs Fi, compR f x m i Ri acc = .ok rv R' ∧ Ex F Fi ∧ Rel X.K M Ri ((a, .lst avs) :: P) Fi H ∧ DenL X.K Fi acc.reverse avs, ⟨n, R, [], [], F, q, .refl F, r.aside ha (main_lst _), .nil⟩, ?_⟩
  rintro i m H ⟨Ri, acc, avs, Fi, qi, ei, ri, di⟩
  cases m with
  | zero => unfold compR at qi; cases qi
  | succ m =>
    unfold compR at qi
    split at qi
    · cases qi
    · rename_i ds hds
      obtain ⟨a', vs, e1, h1, h2⟩ := ri.asL (hp.mono ei) hds
      cases e1
      split at qi
      · rename_i hi
        cases qi
        refine .inl ⟨⟨vs, .inl (.inl h1), ?_⟩, ?_⟩
        · rw [h2.length]
          exact List.getElem?_eq_none_iff.mp hi
        · obtain ⟨r', h'⟩ := ri.backL di
          exact ⟨Fi, ei, r', h'⟩
      · rename_i d hi
        obtain ⟨v, g1, g2⟩ := h2.get hi
        refine .inr ⟨⟨vs, v, .inl (.inl h1), g1⟩, fun H' => ∃ Ri acc avs Fi, compR f x m (i + 1) Ri acc = .ok rv R' ∧ Ex F Fi ∧ Rel X.K M Ri ((a, .lst avs) :: P) Fi H' ∧ DenL X.K Fi acc.reverse avs, fun H' p' => ⟨m, Nat.lt_succ_self _, p'⟩, fun u H' y => ?_⟩
        obtain ⟨e1, e2⟩ := y
        subst e1
        have e2 := e2 vs (.inl (.inl h1))
        obtain rfl : u = v := by
          rw [e2] at g1
          exact Option.some.inj g1
        cases qf : f d Ri with
        | bad => rw [qf] at qi; cases qi
        | exc _ _ => rw [qf] at qi; cases qi
        | ok o R2 =>
          rw [qf] at qi
          refine ht d Ri R2 o M ((a, .lst avs) :: P) Fi σ H' u _ qf ri (er.mono ei) (.inr g2) fun σ2 hw W => ⟨hw, ?_⟩
          intro s0 H0 C cl fp
          intro pins s I
          refine thn (W s0 H0 C cl fp pins s I) fun b s' ⟨H3, I3, w⟩ => ⟨H3, I3, ?_⟩
          cases o with
          | none =>
            obtain ⟨eb, F', f1, f2⟩ := w
            subst eb
            dsimp only at qi
            exact ⟨R2, acc, avs, F', qi, ei.trans f1, f2, di.mono f1⟩
          | some y' =>
            obtain ⟨eb, w⟩ := w
            subst eb
            dsimp only at qi
            split at qi
            · rename_i hz
              intro s0 H0 C cl fp
              refine we_mono (w s0 H0 C cl fp) fun u H4 ⟨F', f1, f2, f3⟩ => ?_
              have hp := (f2.pr _ List.mem_cons_self).1
              refine ⟨avs, hp, by rw [di.length, List.length_reverse]; exact sz_lt hz, R2, y' :: acc, avs ++ [u], F', qi, ei.trans f1, f2.turn (main_lst _), ?_⟩
              rw [List.reverse_cons]
              exact (di.mono f1).append (.cons f3 .nil)
            · cases qi
/-- what is walked -/
def SIt (T : Tb) (cf : Cf) (lf : Nat) (CX : CXT) (k : Nat) (it : C) : Prop := ∀ (X : Cx) (e : Expr), Okx CX k X → Facts T cf CX k X → chk T it X.env.scope X.N e = true → ∀ (σD : List (Option D)) (R R' : Sto) (M : Mp) (P : Ps) (F : Hp) (σ : L2.St) (H : Hp) (rv : Rv) (j : It),
  Rel X.K M R P F H → ER X.K M F σD σ → ev cf lf it σD R = .ok rv R' → itOf (ik it) R' rv = some j → WJ it X M R' P F j e σ H
/-- the code's parts of a comprehension, and its text's -/
structure CompT (T : Tb) (X : Cx) (elt : C) (slots : List Nat) (it cond : C) (el iter tg : Expr) (ifs : List Expr) (scope : Scope) : Prop where
  tgo : tgB (relSc scope X.env.scope) (fun y => scope.names.lookup y == some .cell) X.N slots tg = true
  blk : BlkOk X.N X.env.scope scope ((tgNs tg).zip slots)
  ito : chk T it X.env.scope X.N iter = true
  ik : tgIk it tg = true
  ns : isSet iter = false
  el : chk T elt (relSc scope X.env.scope) X.N el = true
  ifs : (match ifs with | [] => isYes cond | [c] => chk T cond (relSc scope X.env.scope) X.N c | _ => false) = true
theorem comp_inv {elt : C} {slots : List Nat} {it cond : C} {X : Cx} {e : Expr} (h : chk T (.comp elt slots it cond) X.env.scope X.N e = true) : ∃ el tg iter ifs scope pos, e = .ListComp el [⟨tg, iter, ifs, 0⟩] scope pos ∧ CompT T X elt slots it cond el iter tg ifs scope := by
  simp only [chk] at h
  split at h
  · simp only [Bool.and_eq_true] at h
    obtain ⟨⟨⟨⟨⟨⟨h1, h2⟩, h3⟩, h4⟩, h5⟩, h6⟩, h7⟩ := h
    exact ⟨_, _, _, _, _, _, rfl, h1, blkOk_by h2, h3, h4, nobool h5, h6, h7⟩
  · cases h
/-- what pe_lc asks of the walk -/
theorem comp_lc {elt : C} {slots : List Nat} {it cond : C} (he : Snd T cf lf CX k elt) (hi : SIt T cf lf CX k it) (hc : Snd T cf lf CX k cond) {X : Cx} (ok : Okx CX k X) (fa : Facts T cf CX k X) {el iter tg : Expr} {ifs : List Expr} {scope : Scope} (c : CompT T X elt slots it cond el iter tg ifs scope)
    {σD : List (Option D)} {R R' : Sto} {M : Mp} {P : Ps} {F : Hp} {σ : L2.St} {H : Hp} {rv : Rv} {Q : VK} (r : Rel X.K M R P F H) (er : ER X.K M F σD σ) (q : ev cf lf (.comp elt slots it cond) σD R = .ok rv R') (kq : ∀ v H', PV X M R' P F rv v H' → Q v H') :
    tLc (WI X tg iter) (gTg X.K slots tg) (bkT X scope ifs) (bkE X scope el) slots σ H Q := by
  simp only [ev] at q
  split at q
  · rename_i xv R1 q1
    cases hj : itOf (ik it) R1 xv with
    | none => rw [hj] at q; cases q
    | some j =>
      rw [hj] at q
      refine hi X iter ok fa c.ito σD R R1 M P F σ H xv j r er q1 hj tg _ c.ik fun J H1 F1 e1 r1 hJ => ?_
      intro a ha
      have ht := turn1 (slots := slots) he hc ok fa c.tgo c.el c.ifs σD
      have fin : ∀ v H', PV X M R' P F1 rv v H' → Q v H' := fun v H' ⟨F', f1, f2, f3⟩ => kq v H' ⟨F', e1.trans f1, f2, f3⟩
      cases j with
      | vals ds =>
        obtain ⟨W, w0, w1⟩ := comp_vals ht q r1 (er.mono e1) hJ ha
        exact ⟨W, w0, fun i m H w => (w1 i m H w).imp (fun z => ⟨z.1, fin _ _ z.2⟩) id⟩
      | live y =>
        obtain ⟨W, w0, w1⟩ := comp_live ht q r1 (er.mono e1) hJ ha
        exact ⟨W, w0, fun i m H w => (w1 i m H w).imp (fun z => ⟨z.1, fin _ _ z.2⟩) id⟩
  · cases q
theorem bk_pts {X : Cx} {scope : Scope} {ifs : List Expr} : ∀ (s : Shared) (H : Hp) (C : Addr) (cl : List (Str × Addr)) (fp : List Addr), PTs (X.blk s H scope (compEnvC scope cl C X.env) fp) ifs (bkT X scope ifs) := fun s H C cl fp => ⟨fun pins s' σ H' Q I h => h s H C cl fp pins s' I⟩
theorem bk_pe {X : Cx} {scope : Scope} {el : Expr} : ∀ (s : Shared) (H : Hp) (C : Addr) (cl : List (Str × Addr)) (fp : List Addr), PE (X.blk s H scope (compEnvC scope cl C X.env) fp) el (bkE X scope el) := fun s H C cl fp => ⟨fun pins s' σ H' Q I h => h s H C cl fp pins s' I⟩
theorem snd_comp {elt : C} {slots : List Nat} {it cond : C} (he : Snd T cf lf CX k elt) (hi : SIt T cf lf CX k it) (hc : Snd T cf lf CX k cond) : Snd T cf lf CX k (.comp elt slots it cond) := by
  refine .of (fun X ok fa e h => ?_) (fun sc N e h => ?_) (fun sc N es p h => by simp [chk] at h)
  · obtain ⟨el, tg, iter, ifs, scope, pos, rfl, c⟩ := comp_inv h
    intro σD R R' M P F σ H rv r er q hm
    have L := comp_lc he hi hc ok fa c r er q fun _ _ h => h
    rw [← own_snd c.tgo] at L
    have e2 : gTg X.K (((tgNs tg).zip slots).map (·.2)) tg = gTg X.K slots tg := by rw [own_snd c.tgo]
    rw [e2] at L
    exact we_of (pe_lc ok.calm ok.nd pi_w c.blk (blk_pg ok c.tgo) bk_pts bk_pe (notSet_of c.ns)) L
  · cases e <;> first | rfl | simp [chk] at h
theorem snd_dg2 (k1 v1 k2 v2 : Int) {a : C} (z : Int) (ha : Snd T cf lf CX k a) : Snd T cf lf CX k (.dg2 k1 v1 k2 v2 a z) := by
  refine .of (fun X ok fa e h => ?_) (fun sc N e h => ?_) (fun sc N es p h => by simp [chk] at h)
  · simp only [chk] at h
    split at h
    · rename_i i1 n1 p1 i2 n2 p2 j1 n3 p3 j2 n4 p4 pd m ap y j n5 p5 cp
      simp only [Bool.and_eq_true] at h
      obtain ⟨⟨⟨⟨⟨⟨⟨⟨h1, h2⟩, h3⟩, h4⟩, h5⟩, h6⟩, h7⟩, h8⟩, h9⟩ := h
      cases of_decide_eq_true h1
      cases of_decide_eq_true h2
      cases of_decide_eq_true h3
      cases of_decide_eq_true h4
      cases of_decide_eq_true h5
      cases of_decide_eq_true h6
      have st := nobool h8
      intro σD R R' M P F σ H rv r er q hm
      simp only [ev] at q
      obtain ⟨x, R1, q1, m1, q⟩ := bindV_ok q
      split at q
      · rename_i i hi
        cases q
        have hs2 : starEach [y, .Constant (.int z) n5 p5] X.env = [(false, eval y X.env), (false, eval (.Constant (.int z) n5 p5) X.env)] := by
          rw [star_cons st]
          rfl
        refine we_of (pe_dget2 (Nat.lt_of_le_of_lt (Nat.add_le_add_left (by decide : 1 ≤ 64) _) ok.room.units) (pe_disp (pps_cons pe_int pe_int (pps_cons pe_int pe_int pps_nil)) rfl rfl (by simp) (by simp)) pe_w pe_int
          ⟨rfl, by rw [hs2]; rfl, h7, by rw [hs2]; rfl⟩) ?_
        intro p hp
        refine ⟨upd_same, [(.inl k1, .int v1), (.inl k2, .int v2)], rfl, by simp, ?_⟩
        have r1 := (r.aside (u := .dK []) hp (main_dK _)).turn (w := .dK (mergeK [] [(.inl k1, .int v1), (.inl k2, .int v2)])) (main_dK _)
        refine ⟨p, rfl, .inl ⟨_, .inl upd_same⟩, ?_⟩
        refine we_mono ((ha.v X ok fa _ h9).d r1 er q1 m1) fun vx H1 ⟨F1, e1, r2, vx1⟩ => ?_
        rw [hi] at vx1
        cases vx1.int
        have hd := (r2.pr _ List.mem_cons_self).1
        refine ⟨_, DGet.k (k := .inl i) hd, F1, e1, r2.back.1, ?_⟩
        have e2 : (valV (mergeK [] [(.inl k1, V.int v1), (.inl k2, V.int v2)]) (.inl i : Key)).getD (.int z) = .int (if i = k2 then v2 else if i = k1 then v1 else z) := by
          show (valV (putK (putK [] (.inl k1) (V.int v1)) (.inl k2) (V.int v2)) (.inl i : Key)).getD (.int z) = _
          rw [valV_put, valV_put, valV_nil]
          by_cases a1 : i = k2
          · rw [if_pos (by rw [a1]), if_pos a1]
            rfl
          · rw [if_neg (fun w => a1 (Sum.inl.inj w)), if_neg a1]
            by_cases a2 : i = k1
            · rw [if_pos (by rw [a2]), if_pos a2]
              rfl
            · rw [if_neg (fun w => a2 (Sum.inl.inj w)), if_neg a2]
              rfl
        rw [e2]
        exact .inr (.int _)
      · cases q
    · cases h
  · simp only [chk] at h
    split at h
    · rfl
    · cases h
theorem sit_of {it : C} (hs : Snd T cf lf CX k it) (hr : ik it = .val) : SIt T cf lf CX k it := fun X e ok fa h σD R R' M P F σ H rv j r er q hj => by
  rw [hr] at hj
  exact it_val hs ok fa h r er q hj
theorem snd_both : ∀ c : C, Snd T cf lf CX k c ∧ SIt T cf lf CX k c
  | .var i => ⟨snd_var i, sit_of (snd_var i) rfl⟩
  | .lit d => ⟨snd_lit d, sit_of (snd_lit d) rfl⟩
  | .glob x d => ⟨snd_glob x d, sit_of (snd_glob x d) rfl⟩
  | .bin o a b => have h := snd_bin o (snd_both a).1 (snd_both b).1; ⟨h, sit_of h rfl⟩
  | .neg a => have h := snd_neg (snd_both a).1; ⟨h, sit_of h rfl⟩
  | .notE a => have h := snd_not (snd_both a).1; ⟨h, sit_of h rfl⟩
  | .cmp o a b => have h := snd_cmp o (snd_both a).1 (snd_both b).1; ⟨h, sit_of h rfl⟩
  | .chn o p a b c => have h := snd_chn o p (snd_both a).1 (snd_both b).1 (snd_both c).1; ⟨h, sit_of h rfl⟩
  | .chn3 o p q a b c d => have h := snd_chn3 o p q (snd_both a).1 (snd_both b).1 (snd_both c).1 (snd_both d).1; ⟨h, sit_of h rfl⟩
  | .andE a b => have h := snd_and (snd_both a).1 (snd_both b).1; ⟨h, sit_of h rfl⟩
  | .orE a b => have h := snd_or (snd_both a).1 (snd_both b).1; ⟨h, sit_of h rfl⟩
  | .ife c a b => have h := snd_ife (snd_both c).1 (snd_both a).1 (snd_both b).1; ⟨h, sit_of h rfl⟩
  | .nil => ⟨snd_nil, sit_of snd_nil rfl⟩
  | .cons a as => have h := snd_cons (snd_both a).1 (snd_both as).1; ⟨h, sit_of h rfl⟩
  | .tup as => have h := snd_tup (snd_both as).1; ⟨h, sit_of h rfl⟩
  | .lst as => have h := snd_lst (snd_both as).1; ⟨h, sit_of h rfl⟩
  | .call f as => have h := snd_call f (snd_both as).1; ⟨h, sit_of h rfl⟩
  | .blt b as => have h := snd_blt b (snd_both as).1; ⟨h, sit_of h rfl⟩
  | .callD f as dv => have h := snd_callD f dv (snd_both as).1; ⟨h, sit_of h rfl⟩
  | .fld a f => have h := snd_fld f (snd_both a).1; ⟨h, sit_of h rfl⟩
  | .prp a f => have h := snd_prp f (snd_both a).1; ⟨h, sit_of h rfl⟩
  | .mth a m as => have h := snd_mth m (snd_both a).1 (snd_both as).1; ⟨h, sit_of h rfl⟩
  | .new c as dv => have h := snd_new c dv (snd_both as).1; ⟨h, sit_of h rfl⟩
  | .isiC a c cs => have h := snd_isiC c cs (snd_both a).1; ⟨h, sit_of h rfl⟩
  | .dnew => ⟨snd_dnew, sit_of snd_dnew rfl⟩
  | .dget a y z => have h := snd_dget (snd_both a).1 (snd_both y).1 (snd_both z).1; ⟨h, sit_of h rfl⟩
  | .itm a => ⟨snd_itm, fun X e ok fa h σD R R' M P F σ H rv j r er q hj => by cases hj⟩
  | .zipE a b => ⟨snd_zipE, fun X e ok fa h σD R R' M P F σ H rv j r er q hj => it_zipE rfl (snd_both a).1 (snd_both b).1 ok fa h r er q hj⟩
  | .enmE a => ⟨snd_enmE, fun X e ok fa h σD R R' M P F σ H rv j r er q hj => it_enmE rfl (snd_both a).1 ok fa h r er q hj⟩
  | .isi a t => have h := snd_isi t (snd_both a).1; ⟨h, sit_of h rfl⟩
  | .sub a i => have h := snd_sub (snd_both a).1 (snd_both i).1; ⟨h, sit_of h rfl⟩
  | .slc a lo hi => have h := snd_slc (snd_both a).1 (snd_both lo).1 (snd_both hi).1; ⟨h, sit_of h rfl⟩
  | .rng1 a => ⟨snd_rng1, fun X e ok fa h σD R R' M P F σ H rv j r er q hj => it_rng1 (snd_both a).1 ok fa h r er q hj⟩
  | .rng2 a b => ⟨snd_rng2, fun X e ok fa h σD R R' M P F σ H rv j r er q hj => it_rng2 (snd_both a).1 (snd_both b).1 ok fa h r er q hj⟩
  | .dg2 k1 v1 k2 v2 a z => have h := snd_dg2 k1 v1 k2 v2 z (snd_both a).1; ⟨h, sit_of h rfl⟩
  | .comp elt slots it cond => have h := snd_comp (slots := slots) (snd_both elt).1 (snd_both it).2 (snd_both cond).1; ⟨h, sit_of h rfl⟩
theorem snd (c : C) : Snd T cf lf CX k c := (snd_both c).1
theorem sit (c : C) : SIt T cf lf CX k c := (snd_both c).2
end
end EV

/-! EvS: statements as codes: what a code does, and when a text's suite has a code. -/
namespace EV
open PySem PySem.Spec PyProof.Rows L2

inductive S where
  | nop | never
  | asg (i : Nat) (c : C) | asgN (i p : Nat) (c : C)
  | par2 (i j : Nat) (pi pj : Option Nat) (a b : C) | par3 (i j l : Nat) (a b c : C)
  | unp (is : List Nat) (c : C)
  | aug (i : Nat) (o : Operator) (c : C)
  | app (a e : C) | extd (a e : C) | sets (a i e : C) | expr (c : C)
  | fset (a : C) (f : Nat) (cls : List (Nat × List Nat)) (e : C) | faug (a : C) (f : Nat) (cls : List (Nat × List Nat)) (o : Operator) (e : C)
  | fset2 (a : C) (f : Nat) (b : C) (g : Nat) (cls : List (Nat × List Nat)) (e : C)
  | ret (c : C) | retN
  | ifS (c : C) (a b : S)
  | whl (c : C) (b : S)
  | forS (is : List Nat) (it : C) (b : S)
  | brk | cnt
  | seq (a b : S)
inductive Res where
  | nx (σ : En) (R : Sto) | bk (σ : En) (R : Sto) | ct (σ : En) (R : Sto)
  | rt (rv : Rv) (R : Sto) | bad
def noRef (σ : En) (p : Nat) : Bool := σ.all fun x => match x with
  | some (.ref 0 q) => !(q == p)
  | _ => true
def bvS (o : Out Rv) (f : Rv → Sto → Res) : Res := match o with
  | .ok (.many _) _ => .bad
  | .ok rv R => f rv R
  | _ => .bad
def iop (o : Operator) (x y : D) : Option D := match o, x, y with
  | .Add, .int i, .int j => some (.int (i + j))
  | .Sub, .int i, .int j => some (.int (i - j))
  | .Mult, .int i, .int j => if mulOk i j then some (.int (i * j)) else none
  | .FloorDiv, .int i, .int j => if divOk j then some (.int (i.fdiv j)) else none
  | .Add, .str a, .str b => if a.length + b.length ≤ 100000 then some (.str (a ++ b)) else none
  | _, _, _ => none
def setN (i p : Nat) (o : O) (σ : En) (R : Sto) : Res :=
  if noRef (σ.set i none) p then match sget R 0 p with
    | some _ => .nx (σ.set i (some (.ref 0 p))) (sset R 0 p o)
    | none => .bad
  else .bad
/-- a value's place: told, or a new thing at a place of the own frame -/
def putP (o : Option Nat) (i : Nat) (v : Rv) (σ : En) (R : Sto) : Res := match o with
  | none => .nx (σ.set i (some (fz v))) R
  | some p => match v with
    | .new u => setN i p u σ R
    | _ => .bad
/-- no instance -/
def plainR : Rv → Bool
  | .new (.ins _ _ _) => false
  | _ => true
def putPP (pi pj : Option Nat) (i j : Nat) (x y : Rv) (σ : En) (R : Sto) : Res := match pi with
  | none => putP pj j y (σ.set i (some (fz x))) R
  | some p => if plainR x then match putP pj j y σ R with
    | .nx σ1 R1 => putP (some p) i x σ1 R1
    | r => r
    else .bad
def appO (x : D) (y : D) (R : Sto) : Option Sto := match x with
  | .ref j i => match sget R j i with
    | some (.lst ds) => if ds.length < 100000 then some (sset R j i (.lst (ds ++ [y]))) else none
    | _ => none
  | _ => none
def extO (x : D) (es : List D) (R : Sto) : Option Sto := match x with
  | .ref j i => match sget R j i with
    | some (.lst ds) => if ds.length + es.length ≤ 100000 then some (sset R j i (.lst (ds ++ es))) else none
    | _ => none
  | _ => none
def repD {α : Type} [DecidableEq α] (k : α) (d : D) : List α → List D → List D
  | k1 :: ks, d1 :: ds => (if k1 = k then d else d1) :: repD k d ks ds
  | _, _ => []
/-- a dict's keys and values behind d[k] = v -/
def putD {α : Type} [DecidableEq α] (ks : List α) (ds : List D) (k : α) (d : D) : List α × List D :=
  if k ∈ ks then (ks, repD k d ks ds) else (ks ++ [k], ds ++ [d])
def tupD : D → Option (List D)
  | .tup es => some es
  | _ => none
def setO (x i y : D) (R : Sto) : Option Sto := match x with
  | .ref j k => match sget R j k with
    | some (.lst ds) => match i with
      | .int n => match L2.ixN ds.length n with
        | some m => some (sset R j k (.lst (ds.set m y)))
        | none => none
      | _ => none
    | some (.dct ks ds) => match keyD i with
      | some kk => if ks.length < 100000 then some (sset R j k (.dct (putD ks ds kk y).1 (putD ks ds kk y).2)) else none
      | none => none
    | some (.dcT ks ds) => match tupD i with
      | some es => match keysD es with
        | some kk => if ks.length < 100000 then some (sset R j k (.dcT (putD ks ds kk y).1 (putD ks ds kk y).2)) else none
        | none => none
      | none => none
    | _ => none
  | _ => none
def fstO (cls : List (Nat × List Nat)) (x : D) (f : Nat) (y : D) (R : Sto) : Option Sto := match x with
  | .ref j i => match sget R j i with
    | some (.ins c ns ds) => match cls.lookup c with
      | some fs => if fs.contains f && (ns.all fun n => fs.contains n) then some (sset R j i (.ins c (putD ns ds f y).1 (putD ns ds f y).2)) else none
      | none => none
    | _ => none
  | _ => none
def S.places : S → List Nat
  | .asgN _ p _ => [p]
  | .par2 _ _ pi pj _ _ => pi.toList ++ pj.toList
  | .ifS _ a b => a.places ++ b.places
  | .whl _ b => b.places
  | .forS _ _ b => b.places
  | .seq a b => a.places ++ b.places
  | _ => []
def whR (c : En → Sto → Out Rv) (f : En → Sto → Res) : Nat → En → Sto → Res
  | 0, _, _ => .bad
  | n + 1, σ, R => bvS (c σ R) fun x R1 => match truth R1 (fz x) with
    | some true => match f σ R1 with
      | .nx σ2 R2 => whR c f n σ2 R2
      | .ct σ2 R2 => whR c f n σ2 R2
      | .bk σ2 R2 => .nx σ2 R2
      | .rt v R2 => .rt v R2
      | .bad => .bad
    | some false => .nx σ R1
    | none => .bad
def forV (g : D → En → Option En) (f : En → Sto → Res) : List D → En → Sto → Res
  | [], σ, R => .nx σ R
  | d :: ds, σ, R => match g d σ with
    | none => .bad
    | some σ1 => match f σ1 R with
      | .nx σ2 R2 => forV g f ds σ2 R2
      | .ct σ2 R2 => forV g f ds σ2 R2
      | .bk σ2 R2 => .nx σ2 R2
      | .rt v R2 => .rt v R2
      | .bad => .bad
def forR (g : D → En → Option En) (f : En → Sto → Res) (x : D) : Nat → Nat → En → Sto → Res
  | 0, _, _, _ => .bad
  | n + 1, i, σ, R => match asL R x with
    | none => .bad
    | some ds => match ds[i]? with
      | none => .nx σ R
      | some d => match g d σ with
        | none => .bad
        | some σ1 => match f σ1 R with
          | .nx σ2 R2 => forR g f x n (i + 1) σ2 R2
          | .ct σ2 R2 => forR g f x n (i + 1) σ2 R2
          | .bk σ2 R2 => .nx σ2 R2
          | .rt v R2 => .rt v R2
          | .bad => .bad
def okLive (L : List Nat) : D → Bool
  | .ref 0 i => !(L.contains i)
  | .ref _ _ => true
  | _ => false
def forI (g : D → En → Option En) (f : En → Sto → Res) (L : List Nat) (lf : Nat) (σ : En) (R : Sto) : Option It → Res
  | some (.vals ds) => forV g f ds σ R
  | some (.live x) => if okLive L x then forR g f x lf 0 σ R else .bad
  | none => .bad
/-- what a suite's code does -/
def ex (cf : Cf) (lf : Nat) : S → En → Sto → Res
  | .nop, σ, R => .nx σ R
  | .never, _, _ => .bad
  | .asg i c, σ, R => bvS (ev cf lf c σ R) fun v R1 => .nx (σ.set i (some (fz v))) R1
  | .asgN i p c, σ, R => bvS (ev cf lf c σ R) fun v R1 => match v with
    | .new o => setN i p o σ R1
    | _ => .bad
  | .par2 i j pi pj a b, σ, R => bvS (ev cf lf a σ R) fun x R1 => bvS (ev cf lf b σ R1) fun y R2 => putPP pi pj i j x y σ R2
  | .par3 i j l a b c, σ, R => bvS (ev cf lf a σ R) fun x R1 => bvS (ev cf lf b σ R1) fun y R2 => bvS (ev cf lf c σ R2) fun z R3 => .nx (((σ.set i (some (fz x))).set j (some (fz y))).set l (some (fz z))) R3
  | .unp is c, σ, R => bvS (ev cf lf c σ R) fun v R1 => match setTg is (fz v) σ with
    | some σ1 => .nx σ1 R1
    | none => .bad
  | .aug i o c, σ, R => match σ[i]? with
    | some (some x) => bvS (ev cf lf c σ R) fun y R1 => match iop o x (fz y) with
      | some z => .nx (σ.set i (some z)) R1
      | none => .bad
    | _ => .bad
  | .app a e, σ, R => bvS (ev cf lf a σ R) fun x R1 => match asL R1 (fz x) with
    | none => .bad
    | some _ => bvS (ev cf lf e σ R1) fun y R2 => match byv (fz y) R2 with
      | none => .bad
      | some (y', R3) => match appO (fz x) y' R3 with
        | some R4 => .nx σ R4
        | none => .bad
  | .extd a e, σ, R => bvS (ev cf lf a σ R) fun x R1 => match asL R1 (fz x) with
    | none => .bad
    | some _ => bvS (ev cf lf e σ R1) fun y R2 => match asL R2 (fz y) with
      | none => .bad
      | some es => match extO (fz x) es R2 with
        | some R4 => .nx σ R4
        | none => .bad
  | .sets a i e, σ, R => bvS (ev cf lf e σ R) fun y R1 => match byv (fz y) R1 with
    | none => .bad
    | some (y', R2) => bvS (ev cf lf a σ R2) fun x R3 => bvS (ev cf lf i σ R3) fun n R4 => match setO (fz x) (fz n) y' R4 with
      | some R5 => .nx σ R5
      | none => .bad
  | .fset a f cls e, σ, R => bvS (ev cf lf e σ R) fun y R1 => match byv (fz y) R1 with
    | none => .bad
    | some (y', R2) => bvS (ev cf lf a σ R2) fun x R3 => match fstO cls (fz x) f y' R3 with
      | some R4 => .nx σ R4
      | none => .bad
  | .faug a f cls o e, σ, R => bvS (ev cf lf a σ R) fun x R1 => match fldD R1 (fz x) f with
    | none => .bad
    | some old => bvS (ev cf lf e σ R1) fun y R2 => match iop o old (fz y) with
      | none => .bad
      | some z => match fstO cls (fz x) f z R2 with
        | some R3 => .nx σ R3
        | none => .bad
  | .fset2 a f b g cls e, σ, R => bvS (ev cf lf e σ R) fun v R1 => match fz v with
    | .tup [d1, d2] => bvS (ev cf lf a σ R1) fun x R2 => match fstO cls (fz x) f d1 R2 with
      | none => .bad
      | some R3 => bvS (ev cf lf b σ R3) fun y R4 => match fstO cls (fz y) g d2 R4 with
        | some R5 => .nx σ R5
        | none => .bad
    | _ => .bad
  | .expr c, σ, R => bvS (ev cf lf c σ R) fun _ R1 => .nx σ R1
  | .ret c, σ, R => bvS (ev cf lf c σ R) fun v R1 => .rt v R1
  | .retN, _, R => .rt (.val .non) R
  | .ifS c a b, σ, R => bvS (ev cf lf c σ R) fun x R1 => match truth R1 (fz x) with
    | some true => ex cf lf a σ R1
    | some false => ex cf lf b σ R1
    | none => .bad
  | .whl c b, σ, R => whR (ev cf lf c) (ex cf lf b) lf σ R
  | .forS is it b, σ, R => match ev cf lf it σ R with
    | .ok x R1 => forI (setTg is) (ex cf lf b) b.places lf σ R1 (itOf (ik it) R1 x)
    | _ => .bad
  | .brk, σ, R => .bk σ R
  | .cnt, σ, R => .ct σ R
  | .seq a b, σ, R => match ex cf lf a σ R with
    | .nx σ1 R1 => ex cf lf b σ1 R1
    | r => r

/-! ### when a text's suite has a code -/
def isComp : Expr → Bool
  | .ListComp _ _ _ _ => true
  | .SetComp _ _ _ _ => true
  | .DictComp _ _ _ _ _ => true
  | _ => false
def lcB (sc : Scope) (x : Str) : Bool := match sc.names.lookup x with
  | some .local => true
  | _ => false
def stB (sc : Scope) (x : Str) : Bool := match sc.names.lookup x with
  | some .local => true
  | some .cell => true
  | _ => false
def isTupE : Expr → Bool
  | .Tuple _ _ _ => true
  | _ => false
def cmpB : Expr → Bool
  | .ListComp _ _ _ _ => true
  | e => !isComp e
def chkNm (sc : Scope) (N : List Str) (i : Nat) : Expr → Bool
  | .Name x _ => decide (N[i]? = some x) && stB sc x
  | _ => false
def chkNms (sc : Scope) (N : List Str) : List Nat → List Expr → Bool
  | [], [] => true
  | i :: is, e :: es => chkNm sc N i e && chkNms sc N is es
  | _, _ => false
def chkTg (sc : Scope) (N : List Str) (is : List Nat) : Expr → Bool
  | .Name x p => match is with
    | [i] => chkNm sc N i (.Name x p)
    | _ => false
  | .Tuple es _ _ => decide (2 ≤ es.length) && chkNms sc N is es
  | _ => false
def noSwap (n : Nat) : Expr → Bool
  | .Tuple vs _ _ => !(n == 2 || n == 3) || vs.length != n || vs.all (foldedForSure 8)
  | _ => true
def chkS (T : Tb) : S → Scope → List Str → List Stmt → Bool
  | .nop, _, _, sts => match sts with
    | [] => true
    | [.Pass _] => true
    | [.Expr (.Constant (.str _) _ _) _] => true
    | _ => false
  | .never, _, _, _ => true
  | .asg i c, sc, N, sts => match sts with
    | [.Assign [.Name x px] e p] => decide (N[i]? = some x) && stB sc x && chk T c sc N e && cmpB e
    | _ => false
  | .asgN i p c, sc, N, sts => match sts with
    | [.Assign [.Name x px] e _] => decide (N[i]? = some x) && stB sc x && chk T c sc N e && cmpB e
    | _ => false
  | .par2 i j _ _ a b, sc, N, sts => match sts with
    | [.Assign [.Tuple [.Name x px, .Name y py] _ _] (.Tuple [e, f] _ _) _] => decide (N[i]? = some x) && decide (N[j]? = some y) && !(i == j) && lcB sc x && lcB sc y && (py.line == px.line) && !(x == y) && !isStar e && !isStar f && chk T a sc N e && chk T b sc N f &&
      !([e, f].all (foldedForSure 8)) && !([e, f].all (constantsAlone 8))
    | _ => false
  | .par3 i j l a b c, sc, N, sts => match sts with
    | [.Assign [.Tuple [.Name x px, .Name y py, .Name z pz] _ _] (.Tuple [e, f, g] _ _) _] => decide (N[i]? = some x) && decide (N[j]? = some y) && decide (N[l]? = some z) && !(i == j) && !(i == l) && !(j == l) && lcB sc x && lcB sc y && lcB sc z && (py.line == px.line) && (pz.line == px.line) &&
      !(x == y) && !(x == z) && !(y == z) && !isStar e && !isStar f && !isStar g && chk T a sc N e && chk T b sc N f && chk T c sc N g && !([e, f, g].all (foldedForSure 8)) && !([e, f, g].all (constantsAlone 8))
    | _ => false
  | .unp is c, sc, N, sts => match sts with
    | [.Assign [.Tuple es k pt] e p] => chkTg sc N is (.Tuple es k pt) && noSwap es.length e && chk T c sc N e
    | _ => false
  | .aug i o c, sc, N, sts => match sts with
    | [.AugAssign (.Name x _) o' e _] => decide (N[i]? = some x) && stB sc x && decide (o = o') && chk T c sc N e
    | _ => false
  | .app a e, sc, N, sts => match sts with
    | [.Expr (.Call (.Attribute (.Name x px) m ap) [y] [] cp) _] => decide (m = "append") && (ap.endLine == cp.line) && !isStar y && chk T a sc N (.Name x px) && chk T e sc N y
    | _ => false
  | .extd a e, sc, N, sts => match sts with
    | [.Expr (.Call (.Attribute (.Name x px) m ap) [y] [] cp) _] => decide (m = "extend") && (ap.endLine == cp.line) && !isStar y && chk T a sc N (.Name x px) && chk T e sc N y
    | _ => false
  | .sets a i e, sc, N, sts => match sts with
    | [.Assign [.Subscript o y ps] v _] => !isSlice y && !isComp v && chk T a sc N o && chk T i sc N y && chk T e sc N v
    | _ => false
  | .fset a f cls e, sc, N, sts => match sts with
    | [.Assign [.Attribute o m pa] v _] => decide (m = nmN f) && (cls.all fun p => decide (p ∈ T.sls)) && !isComp v && chk T a sc N o && chk T e sc N v
    | _ => false
  | .faug a f cls op e, sc, N, sts => match sts with
    | [.AugAssign (.Attribute o m pa) op' v _] => decide (m = nmN f) && decide (op = op') && (cls.all fun p => decide (p ∈ T.sls)) && chk T a sc N o && chk T e sc N v
    | _ => false
  | .fset2 a f b g cls e, sc, N, sts => match sts with
    | [.Assign [.Tuple [.Attribute o m pa, .Attribute q l pb] k pt] v _] => decide (m = nmN f) && decide (l = nmN g) && (cls.all fun p => decide (p ∈ T.sls)) && noSwap 2 v && chk T a sc N o && chk T b sc N q && chk T e sc N v
    | _ => false
  | .expr c, sc, N, sts => match sts with
    | [.Expr e _] => !isComp e && chk T c sc N e
    | _ => false
  | .ret c, sc, N, sts => match sts with
    | [.Return (some e) _] => chk T c sc N e
    | _ => false
  | .retN, _, _, sts => match sts with
    | [.Return none _] => true
    | _ => false
  | .ifS c a b, sc, N, sts => match sts with
    | [.If e x y _] => chk T c sc N e && chkS T a sc N x && chkS T b sc N y
    | _ => false
  | .whl c b, sc, N, sts => match sts with
    | [.While e x [] _] => chk T c sc N e && chkS T b sc N x
    | _ => false
  | .forS is it b, sc, N, sts => match sts with
    | [.For tg e x [] _] => chkTg sc N is tg && tgIk it tg && chk T it sc N e && !isSet e && chkS T b sc N x
    | _ => false
  | .brk, _, _, sts => match sts with
    | [.Break _] => true
    | _ => false
  | .cnt, _, _, sts => match sts with
    | [.Continue _] => true
    | _ => false
  | .seq a b, sc, N, sts => match sts with
    | st :: r => chkS T a sc N [st] && chkS T b sc N r
    | [] => false
end EV

/-! EvT: what a suite's code does, the text's suite does (words, leaves). -/
namespace EV
open PySem PySem.Spec PyProof.Rows L2

/-- places of the own frame may be laid anew -/
def Agr (L : List Nat) (M M' : Mp) : Prop := ∀ j i, (j = 0 → i ∉ L) → M' j i = M j i
theorem Agr.refl (L : List Nat) (M : Mp) : Agr L M M := fun _ _ _ => rfl
theorem Agr.trans {L : List Nat} {M M' M'' : Mp} (a : Agr L M M') (b : Agr L M' M'') : Agr L M M'' := fun j i h => (b j i h).trans (a j i h)
theorem Agr.mono {L L' : List Nat} {M M' : Mp} (a : Agr L M M') (h : ∀ x ∈ L, x ∈ L') : Agr L' M M' := fun j i q => a j i fun z w => q z (h i w)
def setM (M : Mp) (p : Nat) (a : Addr) : Mp := fun j i => if j = 0 ∧ i = p then a else M j i
theorem setM_same (M : Mp) (p : Nat) (a : Addr) : setM M p a 0 p = a := if_pos ⟨rfl, rfl⟩
theorem setM_ne {M : Mp} {p : Nat} {a : Addr} {j i : Nat} (h : ¬ (j = 0 ∧ i = p)) : setM M p a j i = M j i := if_neg h
def DS (X : Cx) (L : List Nat) (M : Mp) (P : Ps) (F : Hp) (D : Ends) : Res → Prop
  | .nx σD R => ∀ M' F' σ H, Agr L M M' → Ex F F' → Rel X.K M' R P F' H → ER X.K M' F' σD σ → D.nx σ H
  | .bk σD R => ∀ M' F' σ H, Agr L M M' → Ex F F' → Rel X.K M' R P F' H → ER X.K M' F' σD σ → D.bk σ H
  | .ct σD R => ∀ M' F' σ H, Agr L M M' → Ex F F' → Rel X.K M' R P F' H → ER X.K M' F' σD σ → D.ct σ H
  | .rt rv R => ∀ M' F' v H, Agr L M M' → Ex F F' → Rel X.K M' R P F' H → RVR X.K M' R P F' H v rv → D.rt v H
  | .bad => False
def WSs (X : Cx) (sts : List Stmt) (D : Ends) (σ : L2.St) (H : Hp) : Prop := ∀ (pins : List (Addr × Obj)) (s : Shared), Inv X pins σ H s → wpAny (model X.prog X.w) X.A (execs sts X.env) (SP X pins D) X.xe s
theorem pss_w {X : Cx} {sts : List Stmt} : PSs X sts (WSs X sts) := ⟨fun pins s σ H D I h => h pins s I⟩
theorem wss_of {X : Cx} {sts : List Stmt} {t : TS} {D : Ends} {σ : L2.St} {H : Hp} (h : PSs X sts t) (q : t D σ H) : WSs X sts D σ H := fun pins s I => h.run pins s σ H D I q
/-- with the context's kind at hand -/
theorem wss_k {X : Cx} {sts : List Stmt} {D : Ends} {σ : L2.St} {H : Hp} (h : X.env.scope.kind = .function → WSs X sts D σ H) : WSs X sts D σ H := fun pins s I => h I.ok.kind pins s I
structure Oks (CX : CXT) (k : Nat) (X : Cx) : Prop where
  ok : Okx CX k X
  fn : ∀ x, X.fn x = true
def SS (T : Tb) (cf : Cf) (lf : Nat) (CX : CXT) (k : Nat) (s : S) : Prop := ∀ (X : Cx) (sts : List Stmt), Oks CX k X → Facts T cf CX k X → chkS T s X.env.scope X.N sts = true → ∀ (σD : En) (R : Sto) (M : Mp) (P : Ps) (F : Hp) (σ : L2.St) (H : Hp) (D : Ends),
  Rel X.K M R P F H → ER X.K M F σD σ → DS X s.places M P F D (ex cf lf s σD R) → WSs X sts D σ H
section
variable {X : Cx} {L L' : List Nat} {M M' : Mp} {P : Ps} {F G H : Hp} {D D' : Ends} {r : Res} {R : Sto} {σD : En} {σ : L2.St}
theorem DS.mono (h : DS X L' M P F D r) (hl : ∀ x ∈ L, x ∈ L') (a : Agr L' M M') (e : Ex F G) : DS X L M' P G D r := by
  cases r with
  | nx σD R => exact fun M2 F2 σ H a2 e2 => h M2 F2 σ H (a.trans (a2.mono hl)) (e.trans e2)
  | bk σD R => exact fun M2 F2 σ H a2 e2 => h M2 F2 σ H (a.trans (a2.mono hl)) (e.trans e2)
  | ct σD R => exact fun M2 F2 σ H a2 e2 => h M2 F2 σ H (a.trans (a2.mono hl)) (e.trans e2)
  | rt rv R => exact fun M2 F2 v H a2 e2 => h M2 F2 v H (a.trans (a2.mono hl)) (e.trans e2)
  | bad => exact h
theorem DS.nx' (h : DS X L M P F D (.nx σD R)) (a : Agr L M M') (e : Ex F G) (r : Rel X.K M' R P G H) (er : ER X.K M' G σD σ) : D.nx σ H := h M' G σ H a e r er
theorem DS.nx0 (h : DS X L M P F D (.nx σD R)) (e : Ex F G) (r : Rel X.K M R P G H) (er : ER X.K M G σD σ) : D.nx σ H := h M G σ H (.refl L M) e r er
theorem bvS_ok {o : Out Rv} {f : Rv → Sto → Res} (h : DS X L M P F D (bvS o f)) : ∃ rv R1, o = .ok rv R1 ∧ (∀ ds, rv ≠ .many ds) ∧ DS X L M P F D (f rv R1) := by
  cases o with
  | ok x R1 =>
    cases x with
    | val d => exact ⟨_, _, rfl, fun _ z => (nomatch z), h⟩
    | new u => exact ⟨_, _, rfl, fun _ z => (nomatch z), h⟩
    | many _ => exact h.elim
  | exc _ _ => exact h.elim
  | bad => exact h.elim
end

/-! ### targets -/
section
variable {CX : CXT} {k : Nat} {X : Cx}
theorem stB_of (ok : Oks CX k X) {x : Str} (h : stB X.env.scope x = true) : Loc X.env.scope x := by
  unfold stB at h
  split at h
  · rename_i q; exact .inl q
  · rename_i q; exact .inr q
  · cases h
theorem lcB_of {sc : Scope} {x : Str} (h : lcB sc x = true) : sc.names.lookup x = some .local := by
  unfold lcB at h
  split at h
  · rename_i q; exact q
  · cases h
theorem nm_ok (ok : Oks CX k X) {i : Nat} {e : Expr} (h : chkNm X.env.scope X.N i e = true) : PG X e (gName i) ∧ isStar e = false ∧ (assignEach [e] X.env) = [(false, assign e X.env)] := by
  unfold chkNm at h
  split at h
  · rw [Bool.and_eq_true] at h
    exact ⟨pg_name ok.ok.nd (of_decide_eq_true h.1) (stB_of ok h.2) (.inl (ok.fn _)), rfl, rfl⟩
  · cases h
theorem nms_ok (ok : Oks CX k X) : ∀ {is : List Nat} {es : List Expr}, chkNms X.env.scope X.N is es = true → ∃ g, PGs X es g ∧ (assignEach es X.env).length = es.length ∧ (assignEach es X.env).findIdx? (·.1) = none ∧ is.length = es.length ∧
    ∀ (ds : List D) (vs : List V) (σD σD1 : En) (M : Mp) (F : Hp) (σ : L2.St) (H : Hp) (Q : L2.St → Hp → Prop), setsTg is ds σD = some σD1 → DenL X.K F ds vs → ER X.K M F σD σ → (∀ σ1, ER X.K M F σD1 σ1 → Q σ1 H) → vs.length = es.length ∧ g vs σ H Q
  | [], [], h => ⟨_, pgs_nil, rfl, rfl, rfl, fun ds vs σD σD1 M F σ H Q q hv er kq => by
    cases ds with
    | nil =>
      cases hv
      cases q
      exact ⟨rfl, rfl, kq σ er⟩
    | cons _ _ => cases q⟩
  | i :: is, e :: es, h => by
    simp only [chkNms, Bool.and_eq_true] at h
    obtain ⟨p1, st, ae⟩ := nm_ok ok h.1
    obtain ⟨g, p2, l1, l2, l3, kk⟩ := nms_ok ok h.2
    have ac := assignEach_cons (env := X.env) (es := es) st
    refine ⟨_, pgs_cons p1 p2 (by rw [ac]; rfl), by rw [ac, List.length_cons, l1, List.length_cons], by rw [ac, List.findIdx?_cons, l2]; rfl, by rw [List.length_cons, l3, List.length_cons], fun ds vs σD σD1 M F σ H Q q hv er kq => ?_⟩
    cases ds with
    | nil => cases q
    | cons d ds =>
      cases hv with
      | cons h1 h2 =>
        obtain ⟨e1, e2⟩ := kk ds _ (σD.set i (some d)) σD1 M F (σ.set i (some _)) H Q q h2 (er.set (.inr h1)) kq
        exact ⟨by rw [List.length_cons, List.length_cons, e1], _, _, rfl, e2⟩
  | [], _ :: _, h => by simp [chkNms] at h
  | _ :: _, [], h => by simp [chkNms] at h
theorem tg_ok (ok : Oks CX k X) {is : List Nat} {e : Expr} (h : chkTg X.env.scope X.N is e = true) : ∃ g, PG X e g ∧ (assignEach [e] X.env).map (·.2) = [assign e X.env] ∧
    ∀ (d : D) (v : V) (R : Sto) (σD σD1 : En) (M : Mp) (P : Ps) (F : Hp) (σ : L2.St) (H : Hp) (Q : L2.St → Hp → Prop), setTg is d σD = some σD1 → Vr X.K M F d v → Rel X.K M R P F H → ER X.K M F σD σ → (∀ σ1, ER X.K M F σD1 σ1 → Q σ1 H) → g v σ H Q := by
  unfold chkTg at h
  split at h
  · split at h
    · obtain ⟨p1, st, ae⟩ := nm_ok ok h
      refine ⟨_, p1, rfl, fun d v R σD σD1 M P F σ H Q q hv r er kq => ?_⟩
      simp only [setTg] at q
      cases q
      exact kq _ (er.set hv)
    · cases h
  · rw [Bool.and_eq_true] at h
    obtain ⟨g, p2, l1, l2, l3, kk⟩ := nms_ok ok h.2
    refine ⟨_, pg_tup ok.ok.calm p2 l1 l2, rfl, fun d v R σD σD1 M P F σ H Q q hv r er kq => ?_⟩
    obtain ⟨ds, e, q'⟩ := setTg_many (by rw [l3]; exact of_decide_eq_true h.1) q
    obtain ⟨a, vs, rfl, h1, h2⟩ := Vr.tups e hv
    obtain ⟨e1, e2⟩ := kk ds vs σD σD1 M F σ H Q q' h2 er kq
    exact ⟨a, vs, rfl, r.ex.sqT h1, e1, e2⟩
  · cases h
end

/-! ### leaves -/
section
variable {T : Tb} {cf : Cf} {lf k : Nat} {CX : CXT}
theorem ss_nop : SS T cf lf CX k .nop := fun X sts ok fa h σD R M P F σ H D r er q => by
  simp only [chkS] at h
  simp only [ex] at q
  have q := q.nx0 (.refl F) r er
  split at h
  · exact wss_of pss_nil q
  · exact wss_of (pss_one ps_pass) q
  · exact wss_of (pss_one ps_doc) q
  · cases h
theorem ss_never : SS T cf lf CX k .never := fun X sts ok fa h σD R M P F σ H D r er q => by
  simp only [ex] at q
  exact q.elim
theorem ss_brk : SS T cf lf CX k .brk := fun X sts ok fa h σD R M P F σ H D r er q => by
  simp only [chkS] at h
  simp only [ex] at q
  split at h
  · exact wss_of (pss_one ps_break) (q M F σ H (.refl _ M) (.refl F) r er)
  · cases h
theorem ss_cnt : SS T cf lf CX k .cnt := fun X sts ok fa h σD R M P F σ H D r er q => by
  simp only [chkS] at h
  simp only [ex] at q
  split at h
  · exact wss_of (pss_one ps_continue) (q M F σ H (.refl _ M) (.refl F) r er)
  · cases h
theorem ss_retN : SS T cf lf CX k .retN := fun X sts ok fa h σD R M P F σ H D r er q => by
  simp only [chkS] at h
  simp only [ex] at q
  split at h
  · exact wss_of (pss_one ps_retN) (q M F .non H (.refl _ M) (.refl F) r (.inr .non))
  · cases h
theorem ss_ret (c : C) : SS T cf lf CX k (.ret c) := fun X sts ok fa h σD R M P F σ H D r er q => by
  simp only [chkS] at h
  simp only [ex] at q
  split at h
  · rename_i e p
    obtain ⟨rv, R1, q1, m1, q⟩ := bvS_ok q
    refine wss_of (pss_one (ps_ret pe_w)) ?_
    exact we_mono ((snd c).v X ok.ok fa e h σD R R1 M P F σ H rv r er q1 m1) fun v H1 ⟨F1, e1, r1, v1⟩ => q M F1 v H1 (.refl _ M) e1 r1 v1
  · cases h
theorem sw_none {e : Expr} {tg : Option Expr} {l : Nat} {env : Env} (h : isComp e = false) : swapsWith e tg l env = pure false := by
  cases e <;> first | rfl | cases h
theorem ss_expr (c : C) : SS T cf lf CX k (.expr c) := fun X sts ok fa h σD R M P F σ H D r er q => by
  simp only [chkS] at h
  simp only [ex] at q
  split at h
  · rename_i e p
    rw [Bool.and_eq_true] at h
    obtain ⟨rv, R1, q1, m1, q⟩ := bvS_ok q
    refine wss_of (pss_one (ps_expr pe_w (sw_none (nobool h.1)))) ?_
    exact we_mono (((snd c).v X ok.ok fa _ h.2).d r er q1 m1) fun v H1 ⟨F1, e1, r1, v1⟩ => q.nx0 e1 r1 (er.mono e1)
  · cases h
end
end EV

/-! EvU: assignments. -/
namespace EV
open PySem PySem.Spec PyProof.Rows L2

section
variable {K : PySem.W.Frag} {M : Mp} {R : Sto} {P : Ps} {F G H : Hp} {v : V} {o u : O} {a : Addr} {p : Nat}
/-- a new thing takes a place of the own frame -/
theorem Rel.alloc (r : Rel K M R P F H) (hs : sget R 0 p = some u) (h : RVR K M R P F H v (.new o)) : ∃ a, v = .ref a ∧ Rel K (setM M p a) (sset R 0 p o) P F H := by
  obtain ⟨a, rfl, hf, h1, h2, h3⟩ := h
  refine ⟨a, rfl, ⟨r.ex, fun j i q e => ?_, fun j1 i1 j2 i2 l1 l2 e => ?_, fun q hq => ?_, r.pd⟩⟩
  · by_cases z : j = 0 ∧ i = p
    · obtain ⟨rfl, rfl⟩ := z
      rw [sget_set_same hs] at e
      cases e
      rw [setM_same]
      exact h1
    · rw [sget_set_ne z] at e
      rw [setM_ne z]
      exact r.ob j i q e
  · have old : ∀ {j i}, live (sset R 0 p o) j i → ¬ (j = 0 ∧ i = p) → live R j i := fun {j i} ⟨w, g1, g2⟩ z => by
      rw [sget_set_ne z] at g1
      exact ⟨w, g1, g2⟩
    by_cases z1 : j1 = 0 ∧ i1 = p
    · by_cases z2 : j2 = 0 ∧ i2 = p
      · exact ⟨z1.1.trans z2.1.symm, z1.2.trans z2.2.symm⟩
      · obtain ⟨rfl, rfl⟩ := z1
        rw [setM_same, setM_ne z2] at e
        exact absurd e.symm (h2 _ _ (old l2 z2))
    · by_cases z2 : j2 = 0 ∧ i2 = p
      · obtain ⟨rfl, rfl⟩ := z2
        rw [setM_same, setM_ne z1] at e
        exact absurd e (h2 _ _ (old l1 z1))
      · rw [setM_ne z1, setM_ne z2] at e
        exact r.inj _ _ _ _ (old l1 z1) (old l2 z2) e
  · obtain ⟨g1, g2, gm, g3⟩ := r.pr q hq
    refine ⟨g1, g2, gm, fun j i ⟨w, l1, l2⟩ => ?_⟩
    by_cases z : j = 0 ∧ i = p
    · obtain ⟨rfl, rfl⟩ := z
      rw [setM_same]
      exact fun e => h3 q hq e.symm
    · rw [sget_set_ne z] at l1
      rw [setM_ne z]
      exact g3 j i ⟨w, l1, l2⟩
theorem noRef_ne {σ : En} {j : Nat} {d : D} (h : noRef σ p = true) (e : σ[j]? = some (some d)) : d ≠ .ref 0 p := by
  intro z
  subst z
  unfold noRef at h
  have := List.all_eq_true.mp h _ (List.mem_of_getElem? e)
  simp at this
theorem Vr.setM {d : D} (h : Vr K M F d v) (hd : d ≠ .ref 0 p) : Vr K (setM M p a) F d v := by
  rcases h with ⟨j, i, rfl, rfl⟩ | h
  · refine .inl ⟨j, i, rfl, ?_⟩
    rw [setM_ne fun z => hd (by rw [z.1, z.2])]
  · exact .inr h
theorem ER.setNew {σD : En} {σ : L2.St} {i : Nat} (h : ER K M F σD σ) (hn : noRef (σD.set i none) p = true) : ER K (EV.setM M p a) F (σD.set i (some (.ref 0 p))) (σ.set i (some (.ref a))) := by
  refine ⟨by rw [List.length_set, List.length_set]; exact h.1, fun j d q => ?_⟩
  by_cases hj : j = i
  · subst hj
    have hl : j < σD.length := by
      have := (List.getElem?_eq_some_iff.mp q).1
      rwa [List.length_set] at this
    rw [List.getElem?_set_self hl] at q
    cases q
    exact ⟨.ref a, List.getElem?_set_self (by rw [h.1]; exact hl), .inl ⟨0, p, rfl, by rw [setM_same]⟩⟩
  · rw [List.getElem?_set_ne (Ne.symm hj)] at q
    obtain ⟨w, h1, h2⟩ := h.2 j d q
    refine ⟨w, by rw [List.getElem?_set_ne (Ne.symm hj)]; exact h1, h2.setM ?_⟩
    exact noRef_ne hn (by rw [List.getElem?_set_ne (Ne.symm hj)]; exact q)
theorem Agr.setM : Agr [p] M (EV.setM M p a) := fun j i h => setM_ne fun z => by
  have := h z.1
  rw [z.2] at this
  simp at this
end

section
variable {T : Tb} {cf : Cf} {lf k : Nat} {CX : CXT}
theorem isComp_lc {e : Expr} (h : cmpB e = true) : isComp e = false ∨ ∃ el gs scope pos, e = .ListComp el gs scope pos := by
  cases e <;> first | exact .inl rfl | exact .inr ⟨_, _, _, _, rfl⟩ | exact nomatch h
theorem code_lc {c : C} {sc : Scope} {N : List Str} {el : Expr} {gs : List Comprehension} {scope : Scope} {pos : Pos} (h : chk T c sc N (.ListComp el gs scope pos) = true) : ∃ elt slot it cond, c = .comp elt slot it cond := by
  cases c with
  | comp a b c d => exact ⟨a, b, c, d, rfl⟩
  | _ => simp [chk] at h
/-- name = e -/
theorem asg_go {X : Cx} (ok : Oks CX k X) (fa : Facts T cf CX k X) {c : C} {i : Nat} {x : Str} {px p : Pos} {e : Expr} (hi : X.N[i]? = some x) (hx : stB X.env.scope x = true) (hc : chk T c X.env.scope X.N e = true) (he : cmpB e = true)
    {σD : En} {R R1 : Sto} {M : Mp} {P : Ps} {F : Hp} {σ : L2.St} {H : Hp} {D : Ends} {rv : Rv} (r : Rel X.K M R P F H) (er : ER X.K M F σD σ) (q : ev cf lf c σD R = .ok rv R1) (hm : ∀ ds, rv ≠ .many ds)
    (kq : ∀ v H1, PV X M R1 P F rv v H1 → D.nx (σ.set i (some v)) H1) : WSs X [.Assign [.Name x px] e p] D σ H := by
  have plain : swapsWith e (some (.Name x px)) p.line X.env = pure false → WSs X [.Assign [.Name x px] e p] D σ H := fun sw => by
    refine wss_of (pss_one (ps_set ok.ok.nd hi (stB_of ok hx) pe_w sw (.inl (ok.fn x)))) ?_
    exact we_mono ((snd c).v X ok.ok fa e hc σD R R1 M P F σ H rv r er q hm) fun v H1 h => kq v H1 h
  rcases isComp_lc he with h | ⟨el, gs, scope, pos, rfl⟩
  · exact plain (sw_none h)
  · have sw : swapsWith (.ListComp el gs scope pos) (some (.Name x px)) p.line X.env = pure (X.env.blockKind == .function && X.env.kindOf x == some .local && px.line == pos.line && !(scope.names.any fun (n, k) => n == x && (k == .local || k == .cell))) := rfl
    cases hb : (X.env.blockKind == .function && X.env.kindOf x == some .local && px.line == pos.line && !(scope.names.any fun (n, k) => n == x && (k == .local || k == .cell))) with
    | false => exact plain (by rw [sw, hb])
    | true =>
      rw [hb] at sw
      simp only [Bool.and_eq_true] at hb
      obtain ⟨⟨⟨_, h2⟩, _⟩, _⟩ := hb
      have hy : X.env.scope.names.lookup x = some .local := beq_iff_eq.mp h2
      obtain ⟨elt, slot, it, cond, rfl⟩ := code_lc hc
      obtain ⟨el', tg, iter, ifs, scope', pos', e1, ct⟩ := comp_inv hc
      cases e1
      refine wss_of (pss_one (ps_setLc ok.ok.calm ok.ok.nd hi hy sw pi_w ct.blk (blk_pg ok.ok ct.tgo) bk_pts bk_pe (notSet_of ct.ns))) ?_
      have L := comp_lc (snd elt) (sit it) (snd cond) ok.ok fa ct r er q kq
      have e2 : gTg X.K (((tgNs tg).zip slot).map (·.2)) tg = gTg X.K slot tg := by rw [own_snd ct.tgo]
      rw [← own_snd ct.tgo] at L
      rw [e2] at L
      exact L
theorem ss_asg (i : Nat) (c : C) : SS T cf lf CX k (.asg i c) := fun X sts ok fa h σD R M P F σ H D r er q => by
  simp only [chkS] at h
  simp only [ex] at q
  split at h
  · rename_i x px e p
    simp only [Bool.and_eq_true] at h
    obtain ⟨⟨⟨h1, h2⟩, h3⟩, h4⟩ := h
    obtain ⟨rv, R1, q1, m1, q⟩ := bvS_ok q
    refine asg_go ok fa (of_decide_eq_true h1) h2 h3 h4 r er q1 m1 fun v H1 ⟨F1, e1, r1, v1⟩ => ?_
    obtain ⟨G, g1, g2, g3⟩ := r1.fz v1
    exact q.nx0 (e1.trans g1) g2 ((er.mono (e1.trans g1)).set g3)
  · cases h
theorem ss_asgN (i p : Nat) (c : C) : SS T cf lf CX k (.asgN i p c) := fun X sts ok fa h σD R M P F σ H D r er q => by
  simp only [chkS] at h
  simp only [ex] at q
  split at h
  · rename_i x px e p'
    simp only [Bool.and_eq_true] at h
    obtain ⟨⟨⟨h1, h2⟩, h3⟩, h4⟩ := h
    obtain ⟨rv, R1, q1, m1, q⟩ := bvS_ok q
    refine asg_go ok fa (of_decide_eq_true h1) h2 h3 h4 r er q1 m1 fun v H1 ⟨F1, e1, r1, v1⟩ => ?_
    cases rv with
    | new o =>
      dsimp only at q
      unfold setN at q
      split at q
      · rename_i hn
        split at q
        · rename_i u hu
          obtain ⟨a, rfl, r2⟩ := r1.alloc hu v1
          exact q.nx' (Agr.setM (a := a)) e1 r2 ((er.mono e1).setNew hn)
        · exact q.elim
      · exact q.elim
    | _ => exact q.elim
  · cases h
/-- two expressions -/
theorem two_go {X : Cx} (ok : Okx CX k X) (fa : Facts T cf CX k X) {a b : C} {e f : Expr} (h1 : chk T a X.env.scope X.N e = true) (h2 : chk T b X.env.scope X.N f = true) (s1 : isStar e = false) (s2 : isStar f = false)
    {σD : En} {R R1 R2 : Sto} {M : Mp} {P : Ps} {F : Hp} {σ : L2.St} {H : Hp} {x y : Rv} (r : Rel X.K M R P F H) (er : ER X.K M F σD σ) (q1 : ev cf lf a σD R = .ok x R1) (m1 : ∀ ds, x ≠ .many ds) (q2 : ev cf lf b σD R1 = .ok y R2) (m2 : ∀ ds, y ≠ .many ds) :
    WA X [e, f] σ H (PL X M R2 P F [fz x, fz y]) := by
  refine wa_of (pa_cons pe_w (pa_cons pe_w pa_nil (star_cons s2)) (star_cons s1)) ?_
  refine we_mono (((snd a).v X ok fa _ h1).d r er q1 m1) fun v1 H1 ⟨F1, e1, r1, v1'⟩ => ?_
  refine we_mono (((snd b).v X ok fa _ h2).d r1 (er.mono e1) q2 m2) fun v2 H2 ⟨F2, e2, r2, v2'⟩ => ?_
  exact ⟨F2, e1.trans e2, r2, .cons (v1'.mono e2) (.cons v2' .nil)⟩
theorem three_go {X : Cx} (ok : Okx CX k X) (fa : Facts T cf CX k X) {a b c : C} {e f g : Expr} (h1 : chk T a X.env.scope X.N e = true) (h2 : chk T b X.env.scope X.N f = true) (h3 : chk T c X.env.scope X.N g = true) (s1 : isStar e = false) (s2 : isStar f = false) (s3 : isStar g = false)
    {σD : En} {R R1 R2 R3 : Sto} {M : Mp} {P : Ps} {F : Hp} {σ : L2.St} {H : Hp} {x y z : Rv} (r : Rel X.K M R P F H) (er : ER X.K M F σD σ) (q1 : ev cf lf a σD R = .ok x R1) (m1 : ∀ ds, x ≠ .many ds) (q2 : ev cf lf b σD R1 = .ok y R2) (m2 : ∀ ds, y ≠ .many ds)
    (q3 : ev cf lf c σD R2 = .ok z R3) (m3 : ∀ ds, z ≠ .many ds) : WA X [e, f, g] σ H (PL X M R3 P F [fz x, fz y, fz z]) := by
  refine wa_of (pa_cons pe_w (pa_cons pe_w (pa_cons pe_w pa_nil (star_cons s3)) (star_cons s2)) (star_cons s1)) ?_
  refine we_mono (((snd a).v X ok fa _ h1).d r er q1 m1) fun v1 H1 ⟨F1, e1, r1, v1'⟩ => ?_
  refine we_mono (((snd b).v X ok fa _ h2).d r1 (er.mono e1) q2 m2) fun v2 H2 ⟨F2, e2, r2, v2'⟩ => ?_
  refine we_mono (((snd c).v X ok fa _ h3).d r2 ((er.mono e1).mono e2) q3 m3) fun v3 H3 ⟨F3, e3, r3, v3'⟩ => ?_
  exact ⟨F3, (e1.trans e2).trans e3, r3, .cons ((v1'.mono e2).mono e3) (.cons (v2'.mono e3) (.cons v3' .nil))⟩
theorem swap2 {env : Env} {x y : Str} {px py pt pt2 : Pos} {kt k2 : Nat} {e f : Expr} (hk : env.scope.kind = .function) (hx : env.scope.names.lookup x = some .local) (hy : env.scope.names.lookup y = some .local) (hl : (py.line == px.line) = true) (hxy : (x == y) = false)
    (s1 : isStar e = false) (s2 : isStar f = false) (h1 : [e, f].all (foldedForSure 8) = false) (h2 : [e, f].all (constantsAlone 8) = false) : swappedStores [.Tuple [.Name x px, .Name y py] kt pt] (.Tuple [e, f] k2 pt2) env = pure (some [x, y]) := by
  have hb : env.blockKind = .function := by unfold Env.blockKind; rw [hk]; rfl
  have kx : env.kindOf x = some .local := hx
  have ky : env.kindOf y = some .local := hy
  have hyx : (y == x) = false := by
    cases q : (y == x) with
    | false => rfl
    | true => rw [beq_iff_eq.mp q] at hxy; simp at hxy
  have ed : [x, y].eraseDups = [x, y] := by
    simp [List.eraseDups, List.eraseDupsBy, List.eraseDupsBy.loop, hxy, hyx]
  unfold swappedStores
  simp only [List.any_cons, List.any_nil, Bool.or_false, hb, List.filterMap_cons, List.filterMap_nil, Expr.pos, List.head?_cons, Option.map_some, Option.getD_some, kx, ky, hl, beq_self_eq_true, Bool.and_self, if_true, ed, h1, h2, List.length_cons, List.length_nil]
  refine (if_neg (by decide)).trans ?_
  refine (if_neg fun z => ?_).trans ?_
  · rcases (Bool.or_eq_true _ _).mp z with z | z
    · cases e <;> first | exact Bool.false_ne_true z | exact Bool.false_ne_true s1.symm
    · cases f <;> first | exact Bool.false_ne_true z | exact Bool.false_ne_true s2.symm
  · rfl
theorem swap3 {env : Env} {x y z : Str} {px py pz pt pt2 : Pos} {kt k2 : Nat} {e f g : Expr} (hk : env.scope.kind = .function) (hx : env.scope.names.lookup x = some .local) (hy : env.scope.names.lookup y = some .local) (hz : env.scope.names.lookup z = some .local) (hl : (py.line == px.line) = true) (hl2 : (pz.line == px.line) = true) (hxy : (x == y) = false) (hxz : (x == z) = false) (hyz : (y == z) = false)
    (s1 : isStar e = false) (s2 : isStar f = false) (s3 : isStar g = false) (h1 : [e, f, g].all (foldedForSure 8) = false) (h2 : [e, f, g].all (constantsAlone 8) = false) : swappedStores [.Tuple [.Name x px, .Name y py, .Name z pz] kt pt] (.Tuple [e, f, g] k2 pt2) env = pure (some [x, y, z]) := by
  have hb : env.blockKind = .function := by unfold Env.blockKind; rw [hk]; rfl
  have kx : env.kindOf x = some .local := hx
  have ky : env.kindOf y = some .local := hy
  have kz : env.kindOf z = some .local := hz
  have sw : ∀ {a b : Str}, (a == b) = false → (b == a) = false := fun {a b} h => by
    cases q : (b == a) with
    | false => rfl
    | true => rw [beq_iff_eq.mp q] at h; simp at h
  have ed : [x, y, z].eraseDups = [x, y, z] := by
    simp [List.eraseDups, List.eraseDupsBy, List.eraseDupsBy.loop, hxy, hxz, hyz, sw hxy, sw hxz, sw hyz]
  unfold swappedStores
  simp only [List.any_cons, List.any_nil, Bool.or_false, hb, List.filterMap_cons, List.filterMap_nil, Expr.pos, List.head?_cons, Option.map_some, Option.getD_some, kx, ky, kz, hl, hl2, beq_self_eq_true, Bool.and_self, if_true, ed, h1, h2, List.length_cons, List.length_nil]
  refine (if_neg (by decide)).trans ?_
  refine (if_neg fun z => ?_).trans ?_
  · rcases (Bool.or_eq_true _ _).mp z with z | z
    · cases e <;> first | exact Bool.false_ne_true z | exact Bool.false_ne_true s1.symm
    · rcases (Bool.or_eq_true _ _).mp z with z | z
      · cases f <;> first | exact Bool.false_ne_true z | exact Bool.false_ne_true s2.symm
      · cases g <;> first | exact Bool.false_ne_true z | exact Bool.false_ne_true s3.symm
  · rfl
theorem noteq {x y : Nat} (h : (x == y) = false) : x ≠ y := fun e => by
  rw [e] at h
  simp at h
theorem putP_two (o : Option Nat) (i : Nat) (rv : Rv) (σD : En) (R : Sto) : putP o i rv σD R = .bad ∨ ∃ σ1 R1, putP o i rv σD R = .nx σ1 R1 := by
  cases o with
  | none => exact .inr ⟨_, _, rfl⟩
  | some p =>
    cases rv with
    | new u =>
      simp only [putP, setN]
      split
      · split
        · exact .inr ⟨_, _, rfl⟩
        · exact .inl rfl
      · exact .inl rfl
    | _ => exact .inl rfl
theorem putP_nx {X : Cx} {L : List Nat} {D : Ends} {M0 : Mp} {F0 : Hp} {P0 : Ps} {o : Option Nat} {i : Nat} {rv : Rv} {σD : En} {R : Sto} {g : En → Sto → Res} (q : DS X L M0 P0 F0 D (match putP o i rv σD R with | .nx σ1 R1 => g σ1 R1 | r => r)) :
    ∃ σ1 R1, putP o i rv σD R = .nx σ1 R1 ∧ DS X L M0 P0 F0 D (g σ1 R1) := by
  rcases putP_two o i rv σD R with h | ⟨σ1, R1, h⟩
  · rw [h] at q
    exact q.elim
  · rw [h] at q
    exact ⟨σ1, R1, h, q⟩
theorem putP_nx0 {X : Cx} {L : List Nat} {D : Ends} {M0 : Mp} {F0 : Hp} {P0 : Ps} {o : Option Nat} {i : Nat} {rv : Rv} {σD : En} {R : Sto} (q : DS X L M0 P0 F0 D (putP o i rv σD R)) :
    ∃ σ1 R1, putP o i rv σD R = .nx σ1 R1 ∧ DS X L M0 P0 F0 D (.nx σ1 R1) := by
  rcases putP_two o i rv σD R with h | ⟨σ1, R1, h⟩
  · rw [h] at q
    exact q.elim
  · rw [h] at q
    exact ⟨σ1, R1, h, q⟩
theorem putP_ok {X : Cx} {M : Mp} {R R1 : Sto} {P : Ps} {F H : Hp} {o : Option Nat} {i : Nat} {rv : Rv} {v : V} {σD σ1 : En} {σ : L2.St}
    (q : putP o i rv σD R = .nx σ1 R1) (r : Rel X.K M R P F H) (er : ER X.K M F σD σ) (hv : RVR X.K M R P F H v rv) :
    ∃ M' F', Agr o.toList M M' ∧ Ex F F' ∧ Rel X.K M' R1 P F' H ∧ ER X.K M' F' σ1 (σ.set i (some v)) := by
  cases o with
  | none =>
    cases q
    obtain ⟨G, g1, g2, g3⟩ := r.fz hv
    exact ⟨M, G, .refl _ M, g1, g2, (er.mono g1).set g3⟩
  | some p =>
    cases rv with
    | new u =>
      simp only [putP, setN] at q
      split at q
      · rename_i hn
        split at q
        · rename_i w hw
          cases q
          obtain ⟨a, rfl, r2⟩ := r.alloc hw hv
          exact ⟨_, F, Agr.setM (a := a), .refl F, r2, er.setNew hn⟩
        · cases q
      · cases q
    | _ => cases q
theorem OR.at {K : PySem.W.Frag} {F G H H' : Hp} {a : Addr} {u : O} (hf : u.isF = false) (hp : plainR (.new u) = true) (g : OR K F H a u) (e : Ex F G) (hn : G a = Option.none) (h : ∀ w, H a = some w → H' a = some w) : OR K G H' a u := by
  cases u with
  | lst ds =>
    obtain ⟨h0, vs, h1, h2⟩ := g
    exact ⟨hn, vs, h _ h1, h2.mono e⟩
  | dct ks ds =>
    obtain ⟨h0, vs, h1, h2, h3⟩ := g
    exact ⟨hn, vs, h _ h1, h2, h3.mono e⟩
  | dcT ks ds =>
    obtain ⟨h0, vs, h1, h2, h3⟩ := g
    exact ⟨hn, vs, h _ h1, h2, h3.mono e⟩
  | ins c ns ds => cases hp
  | frz d => cases hf
  | dead => cases hf
theorem ss_par2 (i j : Nat) (pi pj : Option Nat) (a b : C) : SS T cf lf CX k (.par2 i j pi pj a b) := fun X sts ok fa h σD R M P F σ H D r er q => by
  simp only [chkS] at h
  simp only [ex] at q
  split at h
  · rename_i x px y py kt pt e f k2 pt2 p
    simp only [Bool.and_eq_true] at h
    obtain ⟨⟨⟨⟨⟨⟨⟨⟨⟨⟨⟨⟨h1, h2⟩, h3⟩, h4⟩, h5⟩, h6⟩, h7⟩, h8⟩, h9⟩, h10⟩, h11⟩, h12⟩, h13⟩ := h
    obtain ⟨v, R1, q1, m1, q⟩ := bvS_ok q
    obtain ⟨w, R2, q2, m2, q⟩ := bvS_ok q
    refine wss_k fun hk => ?_
    refine wss_of (pss_one (ps_par ok.ok.calm ok.ok.nd (of_decide_eq_true h1) (of_decide_eq_true h2) (noteq (nobool h3)) (lcB_of h4) (lcB_of h5) pa_w (swap2 hk (lcB_of h4) (lcB_of h5) h6 (nobool h7) (nobool h8) (nobool h9) (nobool h12) (nobool h13)))) ?_
    refine wa_of (pa_cons pe_w (pa_cons pe_w pa_nil (star_cons (nobool h9))) (star_cons (nobool h8))) ?_
    cases pi with
    | none =>
      refine we_mono (((snd a).v X ok.ok fa _ h10).d r er q1 m1) fun v1 H1 ⟨F1, e1, r1, v1'⟩ => ?_
      refine we_mono ((snd b).v X ok.ok fa _ h11 _ _ _ _ _ _ _ _ _ r1 (er.mono e1) q2 m2) fun v2 H2 ⟨F2, e2, r2, v2'⟩ => ?_
      refine ⟨v1, v2, rfl, ?_⟩
      simp only [putPP] at q
      obtain ⟨σ1, R3, q3, d1⟩ := putP_nx0 q
      obtain ⟨M', F', a1, e3, r3, er3⟩ := putP_ok q3 r2 (((er.mono e1).mono e2).set (v1'.mono e2)) v2'
      exact d1 M' F' _ _ (a1.mono fun z hz => List.mem_append_right _ hz) ((e1.trans e2).trans e3) r3 er3
    | some p =>
      refine we_mono ((snd a).v X ok.ok fa _ h10 _ _ _ _ _ _ _ _ _ r er q1 m1) fun v1 H1 ⟨F1, e1, r1, v1'⟩ => ?_
      cases v with
      | new u =>
        obtain ⟨ax, rfl, hf, g1, g2, g3⟩ := v1'
        obtain ⟨hn0, w0, hw0, hm0⟩ := g1.none hf
        have hpl : plainR (.new u) = true := by
          cases z : plainR (.new u) with
          | true => rfl
          | false =>
            exfalso
            simp only [putPP, z] at q
            exact q
        have rA : Rel X.K M R1 ((ax, w0) :: P) F1 H1 := ⟨r1.ex, r1.ob, r1.inj, fun q hq => by
          rcases List.mem_cons.mp hq with e | hq
          · subst e
            exact ⟨hw0, hn0, hm0, g2⟩
          · exact r1.pr q hq, by
          rw [List.map_cons, List.nodup_cons]
          refine ⟨fun z => ?_, r1.pd⟩
          obtain ⟨q, hq, e⟩ := List.mem_map.mp z
          exact g3 q hq e⟩
        refine we_mono ((snd b).v X ok.ok fa _ h11 _ _ _ _ _ _ _ _ _ rA (er.mono e1) q2 m2) fun v2 H2 ⟨F2, e2, r2, v2'⟩ => ?_
        refine ⟨.ref ax, v2, rfl, ?_⟩
        simp only [putPP, hpl, if_true] at q
        obtain ⟨σ1, R3, q3, d1⟩ := putP_nx q
        obtain ⟨M', F', a1, e3, r3, er3⟩ := putP_ok q3 r2 ((er.mono e1).mono e2) v2'
        obtain ⟨r4, b1, b2, b3, b4⟩ := r3.back
        have hv : RVR X.K M' R3 P F' H2 (.ref ax) (.new u) := by
          refine ⟨ax, rfl, hf, ?_, b3, b4⟩
          exact g1.at hf hpl (e2.trans e3) b2 fun w1 hw1 => by
            rw [hw0] at hw1
            cases hw1
            exact b1
        obtain ⟨σ2, R4, q4, d3⟩ := putP_nx0 d1
        obtain ⟨M2, F4, a2, e4, r5, er5⟩ := putP_ok q4 r4 er3 hv
        refine d3 M2 F4 _ _ ((a1.mono fun z hz => List.mem_append_right _ hz).trans (a2.mono fun z hz => List.mem_append_left _ hz)) (((e1.trans e2).trans e3).trans e4) r5 ?_
        rw [List.set_comm _ _ (noteq (nobool h3))]
        exact er5
      | val d =>
        exfalso
        simp only [putPP, plainR, if_true] at q
        obtain ⟨σ1, R3, _, d1⟩ := putP_nx q
        exact d1
      | many ds => exact absurd rfl (m1 ds)
  · cases h
theorem VrL.three {K : PySem.W.Frag} {M : Mp} {F : Hp} {d e f : D} {vs : List V} (h : VrL K M F [d, e, f] vs) : ∃ v w u, vs = [v, w, u] ∧ Vr K M F d v ∧ Vr K M F e w ∧ Vr K M F f u := by
  cases h with
  | cons h t =>
    obtain ⟨v, w, rfl, h1, h2⟩ := t.two
    exact ⟨_, _, _, rfl, h, h1, h2⟩
theorem ss_par3 (i j l : Nat) (a b c : C) : SS T cf lf CX k (.par3 i j l a b c) := fun X sts ok fa h σD R M P F σ H D r er q => by
  simp only [chkS] at h
  simp only [ex] at q
  split at h
  · rename_i x px y py z pz kt pt e f g k2 pt2 p
    simp only [Bool.and_eq_true] at h
    obtain ⟨⟨⟨⟨⟨⟨⟨⟨⟨⟨⟨⟨⟨⟨⟨⟨⟨⟨⟨⟨⟨h1, h2⟩, h3⟩, h4⟩, h5⟩, h6⟩, h7⟩, h8⟩, h9⟩, h10⟩, h11⟩, h12⟩, h13⟩, h14⟩, h15⟩, h16⟩, h17⟩, h18⟩, h19⟩, h20⟩, h21⟩, h22⟩ := h
    obtain ⟨v, R1, q1, m1, q⟩ := bvS_ok q
    obtain ⟨w, R2, q2, m2, q⟩ := bvS_ok q
    obtain ⟨u, R3, q3, m3, q⟩ := bvS_ok q
    refine wss_k fun hk => ?_
    refine wss_of (pss_one (ps_par3 ok.ok.calm ok.ok.nd (of_decide_eq_true h1) (of_decide_eq_true h2) (of_decide_eq_true h3) (noteq (nobool h4)) (noteq (nobool h5)) (noteq (nobool h6)) (lcB_of h7) (lcB_of h8) (lcB_of h9) pa_w
      (swap3 hk (lcB_of h7) (lcB_of h8) (lcB_of h9) h10 h11 (nobool h12) (nobool h13) (nobool h14) (nobool h15) (nobool h16) (nobool h17) (nobool h21) (nobool h22)))) ?_
    refine wa_mono (three_go ok.ok fa h18 h19 h20 (nobool h15) (nobool h16) (nobool h17) r er q1 m1 q2 m2 q3 m3) fun vs H1 ⟨F1, e1, r1, v1⟩ => ?_
    obtain ⟨u1, u2, u3, rfl, g1, g2, g3⟩ := v1.three
    exact ⟨u1, u2, u3, rfl, q.nx0 e1 r1 ((((er.mono e1).set g1).set g2).set g3)⟩
  · cases h
end
end EV

/-! EvV: the other statements; all suites together. -/
namespace EV
open PySem PySem.Spec PyProof.Rows L2

section
variable {T : Tb} {cf : Cf} {lf k : Nat} {CX : CXT}
theorem noSwap_ok {es : List Expr} {kt : Nat} {pt : Pos} {e : Expr} {env : Env} (h : noSwap es.length e = true) : swappedStores [.Tuple es kt pt] e env = pure none := by
  cases e with
  | Tuple vs k2 p2 =>
    simp only [noSwap, Bool.or_eq_true] at h
    unfold swappedStores
    dsimp only
    by_cases c1 : (!(es.length == 2 || es.length == 3) || vs.length != es.length || env.blockKind != .function) = true
    · rw [if_pos c1]
    · rw [if_neg c1]
      have h3 : vs.all (foldedForSure 8) = true := by
        rcases h with (h | h) | h
        · exact absurd (by rw [h]; simp) c1
        · exact absurd (by rw [h]; simp) c1
        · exact h
      split
      · rfl
      · split
        · rfl
        · rfl
  | _ => rfl
theorem ss_unp (is : List Nat) (c : C) : SS T cf lf CX k (.unp is c) := fun X sts ok fa h σD R M P F σ H D r er q => by
  simp only [chkS] at h
  simp only [ex] at q
  split at h
  · rename_i es kt pt e p
    simp only [Bool.and_eq_true] at h
    obtain ⟨⟨h1, h2⟩, h3⟩ := h
    obtain ⟨v, R1, q1, m1, q⟩ := bvS_ok q
    split at q
    · rename_i σ1 hs
      obtain ⟨g, pg, ae, kk⟩ := tg_ok ok h1
      refine wss_of (pss_one (ps_asg pe_w pg (by cases e <;> rfl) (noSwap_ok h2) ae)) ?_
      refine we_mono (((snd c).v X ok.ok fa _ h3).d r er q1 m1) fun v1 H1 ⟨F1, e1, r1, v1'⟩ => ?_
      exact kk _ _ _ _ _ _ _ _ _ _ _ hs v1' r1 (er.mono e1) fun σ1' er1 => q.nx0 e1 r1 er1
    · exact q.elim
  · cases h
theorem iop_ok {X : Cx} {o : Operator} {x y z : D} (h : iop o x y = some z) : ∃ t, PIp X o t ∧ ∀ (M : Mp) (P : Ps) (R : Sto) (F H : Hp) (vx vy : V) (Q : VK), Rel X.K M R P F H → Vr X.K M F x vx → Vr X.K M F y vy → (∀ v, Vr X.K M F z v → Q v H) → t vx vy H Q := by
  unfold iop at h
  split at h
  · cases h
    exact ⟨_, iop_add, fun M P R F H vx vy Q r hx hy kq => by cases hx.int; cases hy.int; exact ⟨_, _, rfl, rfl, kq _ (.inr (.int _))⟩⟩
  · cases h
    exact ⟨_, iop_sub, fun M P R F H vx vy Q r hx hy kq => by cases hx.int; cases hy.int; exact ⟨_, _, rfl, rfl, kq _ (.inr (.int _))⟩⟩
  · split at h
    · rename_i hc
      cases h
      exact ⟨_, iop_mulW, fun M P R F H vx vy Q r hx hy kq => by cases hx.int; cases hy.int; exact ⟨_, _, rfl, rfl, mulOk_ok hc, kq _ (.inr (.int _))⟩⟩
    · cases h
  · split at h
    · rename_i hc
      cases h
      exact ⟨_, iop_fdivE, fun M P R F H vx vy Q r hx hy kq => by cases hx.int; cases hy.int; exact ⟨_, _, rfl, rfl, of_decide_eq_true hc, kq _ (.inr (.int _))⟩⟩
    · cases h
  · split at h
    · rename_i hc
      cases h
      exact ⟨_, iop_add_str, fun M P R F H vx vy Q r hx hy kq => by cases hx.str; cases hy.str; exact ⟨_, _, rfl, rfl, sz_of hc, kq _ (.inr (.str _))⟩⟩
    · cases h
  · cases h
theorem ss_aug (i : Nat) (o : Operator) (c : C) : SS T cf lf CX k (.aug i o c) := fun X sts ok fa h σD R M P F σ H D r er q => by
  simp only [chkS] at h
  simp only [ex] at q
  split at h
  · rename_i x px o' e p
    simp only [Bool.and_eq_true] at h
    obtain ⟨⟨⟨h1, h2⟩, h3⟩, h4⟩ := h
    cases of_decide_eq_true h3
    split at q
    · rename_i dx hx
      obtain ⟨y, R1, q1, m1, q⟩ := bvS_ok q
      split at q
      · rename_i z hz
        obtain ⟨t, pt, kk⟩ := iop_ok (X := X) hz
        obtain ⟨vx, g1, g2⟩ := er.2 i dx hx
        refine wss_of (pss_one (ps_aug ok.ok.nd (of_decide_eq_true h1) (stB_of ok h2) pe_w pt (.inl (ok.fn x)))) ⟨vx, g1, ?_⟩
        refine we_mono (((snd c).v X ok.ok fa _ h4).d r er q1 m1) fun v1 H1 ⟨F1, e1, r1, v1'⟩ => ?_
        exact kk M P R1 F1 H1 vx v1 _ r1 (g2.mono e1) v1' fun v hv => q.nx0 e1 r1 ((er.mono e1).set hv)
      · exact q.elim
    · exact q.elim
  · cases h
theorem appO_ok {X : Cx} {x y : D} {R R' : Sto} {M : Mp} {P : Ps} {F H : Hp} {vx vy : V} (h : appO x y R = some R') (r : Rel X.K M R P F H) (hx : Vr X.K M F x vx) (hy : Den X.K F y vy) :
    ∃ l xs, vx = .ref l ∧ H l = some (.lst xs) ∧ xs.length < sizeLine ∧ Rel X.K M R' P F (upd H l (.lst (xs ++ [vy]))) := by
  unfold appO at h
  split at h
  · rename_i j i
    have hv := hx.ref
    subst hv
    split at h
    · rename_i ds hs
      split at h
      · rename_i hz
        cases h
        obtain ⟨h0, vs, h1, h2⟩ := r.ob j i _ hs
        exact ⟨_, vs, rfl, h1, by rw [h2.length]; exact sz_lt hz, r.put hs rfl rfl ⟨h0, _, upd_same, h2.append (.cons hy .nil)⟩⟩
      · cases h
    · cases h
  · cases h
theorem ss_app (a e : C) : SS T cf lf CX k (.app a e) := fun X sts ok fa h σD R M P F σ H D r er q => by
  simp only [chkS] at h
  simp only [ex] at q
  split at h
  · rename_i x px m ap y cp p
    simp only [Bool.and_eq_true] at h
    obtain ⟨⟨⟨⟨h1, h2⟩, h3⟩, h4⟩, h5⟩ := h
    cases of_decide_eq_true h1
    have st := nobool h3
    obtain ⟨vx, R1, q1, m1, q⟩ := bvS_ok q
    split at q
    · exact q.elim
    · rename_i ds0 hl
      obtain ⟨vy, R2, q2, m2, q⟩ := bvS_ok q
      split at q
      · exact q.elim
      · rename_i y' R3 hb
        split at q
        · rename_i R4 ha
          refine wss_of (pss_one (ps_expr (pe_bm PySem.F.plainAttrs_list PySem.F.slot_list_append PySem.F.type_list_append mt_append pe_w (pa_cons pe_w pa_nil (star_cons st)) rfl (by rw [star_cons st]; rfl) h2 (star_cons st) rfl))) ?_
          refine we_mono (((snd a).v X ok.ok fa _ h4).d r er q1 m1) fun v1 H1 ⟨F1, e1, r1, v1'⟩ => ?_
          obtain ⟨b, xs, rfl, g1, g2⟩ := r1.asL v1' hl
          refine ⟨.inl ⟨rfl, xs, .inl (.inl g1)⟩, ?_⟩
          refine we_mono (((snd e).v X ok.ok fa _ h5).d r1 (er.mono e1) q2 m2) fun v2 H2 ⟨F2, e2, r2, v2'⟩ => ?_
          obtain ⟨G, g3, g4, g5⟩ := r2.byv v2' hb
          obtain ⟨l, us, e3, g6, g7, g8⟩ := appO_ok (X := X) ha g4 ((v1'.mono e2).mono g3) g5
          cases e3
          exact ⟨b, us, v2, rfl, rfl, g6, g7, q.nx0 ((e1.trans e2).trans g3) g8 (((er.mono e1).mono e2).mono g3)⟩
        · exact q.elim
  · cases h
theorem extO_ok {X : Cx} {x : D} {es : List D} {R R' : Sto} {M : Mp} {P : Ps} {F H : Hp} {vx : V} {zs : List V} (h : extO x es R = some R') (r : Rel X.K M R P F H) (hx : Vr X.K M F x vx) (hy : DenL X.K F es zs) :
    ∃ l xs, vx = .ref l ∧ H l = some (.lst xs) ∧ xs.length + zs.length ≤ sizeLine ∧ Rel X.K M R' P F (upd H l (.lst (xs ++ zs))) := by
  unfold extO at h
  split at h
  · rename_i j i
    have hv := hx.ref
    subst hv
    split at h
    · rename_i ds hs
      split at h
      · rename_i hz
        cases h
        obtain ⟨h0, vs, h1, h2⟩ := r.ob j i _ hs
        exact ⟨_, vs, rfl, h1, by rw [h2.length, hy.length]; exact sz_of hz, r.put hs rfl rfl ⟨h0, _, upd_same, h2.append hy⟩⟩
      · cases h
    · cases h
  · cases h
theorem ss_extd (a e : C) : SS T cf lf CX k (.extd a e) := fun X sts ok fa h σD R M P F σ H D r er q => by
  simp only [chkS] at h
  simp only [ex] at q
  split at h
  · rename_i x px m ap y cp p
    simp only [Bool.and_eq_true] at h
    obtain ⟨⟨⟨⟨h1, h2⟩, h3⟩, h4⟩, h5⟩ := h
    cases of_decide_eq_true h1
    have st := nobool h3
    obtain ⟨vx, R1, q1, m1, q⟩ := bvS_ok q
    split at q
    · exact q.elim
    · rename_i ds0 hl
      obtain ⟨vy, R2, q2, m2, q⟩ := bvS_ok q
      split at q
      · exact q.elim
      · rename_i es hes
        split at q
        · rename_i R4 ha
          refine wss_of (pss_one (ps_expr (pe_bm PySem.F.plainAttrs_list PySem.F.slot_list_extend PySem.F.type_list_extend mt_extend pe_w (pa_cons pe_w pa_nil (star_cons st)) rfl (by rw [star_cons st]; rfl) h2 (star_cons st) rfl))) ?_
          refine we_mono (((snd a).v X ok.ok fa _ h4).d r er q1 m1) fun v1 H1 ⟨F1, e1, r1, v1'⟩ => ?_
          obtain ⟨b, xs, rfl, g1, g2⟩ := r1.asL v1' hl
          refine ⟨.inl ⟨rfl, xs, .inl (.inl g1)⟩, ?_⟩
          refine we_mono (((snd e).v X ok.ok fa _ h5).d r1 (er.mono e1) q2 m2) fun v2 H2 ⟨F2, e2, r2, v2'⟩ => ?_
          obtain ⟨b2, zs, rfl, z1, z2⟩ := r2.asL v2' hes
          obtain ⟨l, us, e3, g6, g7, g8⟩ := extO_ok (X := X) ha r2 (v1'.mono e2) z2
          cases e3
          exact ⟨b, b2, us, zs, rfl, rfl, g6, z1, g7, q.nx0 (e1.trans e2) g8 ((er.mono e1).mono e2)⟩
        · exact q.elim
  · cases h
theorem repD_ok {α : Type} [DecidableEq α] {K : PySem.W.Frag} {F : Hp} {kk : α} {d : D} {v : V} (hd : Den K F d v) : ∀ {kvs : List (α × V)} {ds : List D}, DenL K F ds (kvs.map (·.2)) → DenL K F (repD kk d (kvs.map (·.1)) ds) ((kvs.map fun kv => if kv.1 = kk then (kv.1, v) else kv).map (·.2))
  | [], _, .nil => .nil
  | (k1, v1) :: kvs, _, .cons h t => by
    simp only [List.map_cons, repD]
    by_cases e : k1 = kk
    · rw [if_pos e, if_pos e]
      exact .cons hd (repD_ok hd t)
    · rw [if_neg e, if_neg e]
      exact .cons h (repD_ok hd t)
theorem any_mem {α : Type} [DecidableEq α] (kk : α) (kvs : List (α × V)) : ((kvs.any fun kv => decide (kv.1 = kk)) = true) ↔ kk ∈ kvs.map (·.1) := by
  rw [List.any_eq_true]
  constructor
  · rintro ⟨p, hp, e⟩
    exact List.mem_map.mpr ⟨p, hp, of_decide_eq_true e⟩
  · intro h
    obtain ⟨p, hp, e⟩ := List.mem_map.mp h
    exact ⟨p, hp, decide_eq_true e⟩
theorem putD_ok {α : Type} [DecidableEq α] {K : PySem.W.Frag} {F : Hp} {kk : α} {d : D} {v : V} (hd : Den K F d v) {kvs : List (α × V)} {ds : List D} (h : DenL K F ds (kvs.map (·.2))) :
    (putK kvs kk v).map (·.1) = (putD (kvs.map (·.1)) ds kk d).1 ∧ DenL K F (putD (kvs.map (·.1)) ds kk d).2 ((putK kvs kk v).map (·.2)) := by
  unfold putK putD
  by_cases e : kk ∈ kvs.map (·.1)
  · rw [if_pos ((any_mem kk kvs).mpr e), if_pos e]
    refine ⟨?_, repD_ok hd h⟩
    rw [List.map_map]
    refine List.map_congr_left fun p _ => ?_
    show (if p.1 = kk then (p.1, v) else p).1 = p.1
    split <;> rfl
  · rw [if_neg (fun z => e ((any_mem kk kvs).mp z)), if_neg e, List.map_append, List.map_append]
    exact ⟨rfl, h.append (.cons hd .nil)⟩
theorem setO_ok {X : Cx} {x i y : D} {R R' : Sto} (h : setO x i y R = some R') :
    (∀ {M : Mp} {P : Ps} {F H : Hp} {vx vi vy : V}, Rel X.K M R P F H → Vr X.K M F x vx → Vr X.K M F i vi → Den X.K F y vy → ∃ p xs n j, vx = .ref p ∧ vi = .int n ∧ H p = some (.lst xs) ∧ L2.ixN xs.length n = some j ∧ Rel X.K M R' P F (upd H p (.lst (xs.set j vy)))) ∨
    (∀ {M : Mp} {P : Ps} {F H : Hp} {vx vi vy : V}, Rel X.K M R P F H → Vr X.K M F x vx → Vr X.K M F i vi → Den X.K F y vy → ∃ p H', vx = .ref p ∧ DPut H p vi vy H' ∧ Rel X.K M R' P F H') := by
  unfold setO at h
  split at h
  · rename_i j l
    split at h
    · rename_i ds hs
      split at h
      · rename_i n
        split at h
        · rename_i m hz
          cases h
          refine .inl fun {M P F H vx vi vy} r hx hi hy => ?_
          have hv := hx.ref
          subst hv
          obtain ⟨h0, vs, h1, h2⟩ := r.ob j l _ hs
          exact ⟨_, vs, n, m, rfl, hi.int, h1, by rw [h2.length]; exact hz, r.put hs rfl rfl ⟨h0, _, upd_same, h2.set hy m⟩⟩
        · cases h
      · cases h
    · rename_i ks ds hs
      split at h
      · rename_i kk hk
        split at h
        · rename_i hz
          cases h
          refine .inr fun {M P F H vx vi vy} r hx hi hy => ?_
          have hv := hx.ref
          subst hv
          obtain ⟨h0, kvs, h1, rfl, h2⟩ := r.ob j l _ hs
          obtain ⟨p1, p2⟩ := putD_ok (kk := kk) hy h2
          rw [keyD_v hk hi]
          exact ⟨_, _, rfl, DPut.k h1 (by rw [List.length_map] at hz; rw [sizeLine_eq]; omega), r.put hs rfl rfl ⟨h0, _, upd_same, p1, p2⟩⟩
        · cases h
      · cases h
    · rename_i ks ds hs
      split at h
      · rename_i es hes
        split at h
        · rename_i kk hk
          split at h
          · rename_i hz
            cases h
            have hi' : i = .tup es := by
              cases i <;> cases hes
              rfl
            subst hi'
            refine .inr fun {M P F H vx vi vy} r hx hi hy => ?_
            have hv := hx.ref
            subst hv
            obtain ⟨h0, kvs, h1, rfl, h2⟩ := r.ob j l _ hs
            obtain ⟨p1, p2⟩ := putD_ok (kk := kk) hy h2
            obtain ⟨b, vs, rfl, g1, g2⟩ := hi.tupF
            have e := keysD_v hk g2
            subst e
            exact ⟨_, _, rfl, DPut.t h1 (r.ex _ _ g1) (by rw [List.length_map] at hz; rw [sizeLine_eq]; omega), r.put hs rfl rfl ⟨h0, _, upd_same, p1, p2⟩⟩
          · cases h
        · cases h
      · cases h
    · cases h
  · cases h
theorem asgSub {y : Expr} (h : isSlice y = false) (o : Expr) (pos : Pos) (env : Env) : ∀ v, assign (.Subscript o y pos) env v = (do
      let ov ← holding [v] (eval o env)
      let iv ← holding [v, ov] (eval y env)
      standAt pos
      holding [v, ov, iv] (setItem ov iv v)
      release [v, ov, iv] []) := by
  intro v
  cases y <;> first | rfl | exact nomatch h
theorem sole_none {e t : Expr} {l : Nat} {env : Env} (h : isComp e = false) : swapsWithSole [t] e l env = pure false := by
  unfold swapsWithSole
  exact sw_none h
theorem ss_sets (a i e : C) : SS T cf lf CX k (.sets a i e) := fun X sts ok fa h σD R M P F σ H D r er q => by
  simp only [chkS] at h
  simp only [ex] at q
  split at h
  · rename_i o y ps v p
    simp only [Bool.and_eq_true] at h
    obtain ⟨⟨⟨⟨h1, h2⟩, h3⟩, h4⟩, h5⟩ := h
    obtain ⟨vy, R1, q1, m1, q⟩ := bvS_ok q
    split at q
    · exact q.elim
    · rename_i y' R2 hb
      obtain ⟨vx, R3, q2, m2, q⟩ := bvS_ok q
      obtain ⟨vn, R4, q3, m3, q⟩ := bvS_ok q
      split at q
      · rename_i R5 hs
        rcases setO_ok (X := X) hs with kk | kk
        · refine wss_of (pss_one (ps_asg pe_w (pg_sub pe_w pe_w set_list (asgSub (nobool h1) _ _ _)) (sole_none (nobool h2)) rfl rfl)) ?_
          refine we_mono (((snd e).v X ok.ok fa _ h5).d r er q1 m1) fun v1 H1 ⟨F1, e1, r1, v1'⟩ => ?_
          obtain ⟨G, g1, g2, g3⟩ := r1.byv v1' hb
          refine we_mono (((snd a).v X ok.ok fa _ h3).d g2 ((er.mono e1).mono g1) q2 m2) fun v2 H2 ⟨F2, e2, r2, v2'⟩ => ?_
          refine we_mono (((snd i).v X ok.ok fa _ h4).d r2 (((er.mono e1).mono g1).mono e2) q3 m3) fun v3 H3 ⟨F3, e3, r3, v3'⟩ => ?_
          obtain ⟨pp, xs, n, j, g4, g5, g6, g7, g8⟩ := kk r3 (v2'.mono e3) v3' ((g3.mono e2).mono e3)
          exact ⟨pp, xs, n, j, g4, g5, g6, g7, q.nx0 (((e1.trans g1).trans e2).trans e3) g8 ((((er.mono e1).mono g1).mono e2).mono e3)⟩
        · refine wss_of (pss_one (ps_asg pe_w (pg_sub pe_w pe_w (set_dict (units1 ok.ok)) (asgSub (nobool h1) _ _ _)) (sole_none (nobool h2)) rfl rfl)) ?_
          refine we_mono (((snd e).v X ok.ok fa _ h5).d r er q1 m1) fun v1 H1 ⟨F1, e1, r1, v1'⟩ => ?_
          obtain ⟨G, g1, g2, g3⟩ := r1.byv v1' hb
          refine we_mono (((snd a).v X ok.ok fa _ h3).d g2 ((er.mono e1).mono g1) q2 m2) fun v2 H2 ⟨F2, e2, r2, v2'⟩ => ?_
          refine we_mono (((snd i).v X ok.ok fa _ h4).d r2 (((er.mono e1).mono g1).mono e2) q3 m3) fun v3 H3 ⟨F3, e3, r3, v3'⟩ => ?_
          obtain ⟨pp, H4, g4, g5, g6⟩ := kk r3 (v2'.mono e3) v3' ((g3.mono e2).mono e3)
          exact ⟨pp, H4, g4, g5, q.nx0 (((e1.trans g1).trans e2).trans e3) g6 ((((er.mono e1).mono g1).mono e2).mono e3)⟩
      · exact q.elim
  · cases h
/-! ### slots stored -/
section
variable {X : Cx} {o e value : Expr} {f : Str} {pos pos' tpos : Pos} {ta tv : TE}
def gSlT (K : PySem.W.Frag) (ta : TE) (f : Str) : TG := fun v σ H Q => ta σ H fun x H2 => ∃ a C dx p vs i, x = .ref a ∧ SlX.Slt H2 a C dx vs ∧ SlX.SCls K C ∧ SlX.Slot1 K C f p i ∧ Q σ (SlX.slH H2 a C dx (SlX.putS i v vs))
theorem pg_sl (ha : PE X o ta) : PG X (.Attribute o f pos) (gSlT X.K ta f) := by
  refine ⟨fun pins s σ H v u Q I r h => ?_⟩
  rw [assign_Attribute]
  refine wpAny_bind (wpAny_holding (thn (ha.run pins s σ H _ I h) fun ov s1 ⟨x, H1, I1, rx, a, C, dx, p, vs, i, ex, hsl, c, t, q⟩ => ?_))
  subst ex
  obtain rfl : ov = Value.ref a := rx
  refine wpAny_bind (wpAny_standAt (wpAny_bind (wpAny_holding ?_)))
  exact SlX.setslot_ok I1 hsl c t r fun s3 I3 => wpAny_release ⟨σ, _, I3, q⟩
def sSlAug (K : PySem.W.Frag) (ta tv : TE) (f : Str) (rd : TIp) : TS := fun D σ H => ta σ H fun x H1 => ∃ a C dx p vs i v, x = .ref a ∧ SlX.Slt H1 a C dx vs ∧ SlX.SCls K C ∧ SlX.Slot1 K C f p i ∧ vs[i]? = some (some v) ∧
  tv σ H1 fun y H2 => rd v y H2 fun z H3 => ∃ C dx p vs i, SlX.Slt H3 a C dx vs ∧ SlX.SCls K C ∧ SlX.Slot1 K C f p i ∧ D.nx σ (SlX.slH H3 a C dx (SlX.putS i z vs))
theorem ps_slAug {op : Operator} {rd : TIp} (ha : PE X o ta) (hv : PE X value tv) (hop : PIp X op rd) : PS X (.AugAssign (.Attribute o f tpos) op value pos) (sSlAug X.K ta tv f rd) := by
  refine ⟨fun pins s σ H D I h => ?_⟩
  refine wpAny_AugAssign_AttributeAny (thn (ha.run pins s σ H _ I h) fun ov s1 ⟨x, H1, I1, rx, a, C, dx, p, vs, i, v, ex, ea, c, t, l, q⟩ => ?_)
  subst ex
  obtain rfl : ov = Value.ref a := rx
  refine SlX.getslot_ok I1 ea c t l fun u s2 I2 ru => thn (hv.run pins s2 σ H1 _ I2 q) fun w3 s3 ⟨y, H2, I3, ry, q3⟩ => thn (hop pins s3 σ H2 v y u w3 _ I3 ru ry q3) fun w4 s4 ⟨z, H3, I4, rz, C', dx', p', vs', i', ea', c', t', q4⟩ => ?_
  exact SlX.setslot_ok I4 ea' c' t' rz fun s5 I5 => ⟨σ, _, I5, q4⟩
end
theorem slot1_one {K : PySem.W.Frag} {C p p' : Addr} {f : Str} {i i' : Nat} (a : SlX.Slot1 K C f p i) (b : SlX.Slot1 K C f p' i') : p' = p ∧ i' = i := by
  have h1 := b.at_.symm.trans a.at_
  cases h1
  have h2 := b.ix.symm.trans a.ix
  cases h2
  exact ⟨rfl, rfl⟩
theorem rep_den {K : PySem.W.Frag} {F : Hp} {f : Nat} {y : D} {v : V} (hy : Den K F y v) : ∀ {ns : List Nat} {ds : List D} {us : List V}, DenL K F ds us → us.length = ns.length →
    ∃ us', DenL K F (repD f y ns ds) us' ∧ us'.length = ns.length ∧ ∀ (j g : Nat) (u : V), ns[j]? = some g → us'[j]? = some u → (g = f ∧ u = v) ∨ (g ≠ f ∧ us[j]? = some u)
  | [], [], [], .nil, _ => ⟨[], .nil, rfl, fun j g u h1 h2 => by simp at h1⟩
  | [], _ :: _, _ :: _, .cons _ _, hl => by simp at hl
  | _ :: _, [], [], .nil, hl => by simp at hl
  | n :: ns, d :: ds, u0 :: us, .cons h t, hl => by
    obtain ⟨us', g1, g2, g3⟩ := rep_den hy t (ns := ns) (by simpa using hl)
    simp only [repD]
    by_cases e : n = f
    · rw [if_pos e]
      refine ⟨v :: us', .cons hy g1, by rw [List.length_cons, List.length_cons, g2], fun j g u h1 h2 => ?_⟩
      cases j with
      | zero =>
        simp only [List.getElem?_cons_zero] at h1 h2
        cases h1
        cases h2
        exact .inl ⟨e, rfl⟩
      | succ j =>
        simp only [List.getElem?_cons_succ] at h1 h2 ⊢
        exact g3 j g u h1 h2
    · rw [if_neg e]
      refine ⟨u0 :: us', .cons h g1, by rw [List.length_cons, List.length_cons, g2], fun j g u h1 h2 => ?_⟩
      cases j with
      | zero =>
        simp only [List.getElem?_cons_zero] at h1 h2
        cases h1
        cases h2
        exact .inr ⟨e, rfl⟩
      | succ j =>
        simp only [List.getElem?_cons_succ] at h1 h2 ⊢
        exact g3 j g u h1 h2
theorem ins_den {K : PySem.W.Frag} {F : Hp} {f : Nat} {y : D} {v : V} (hy : Den K F y v) {ns : List Nat} {ds : List D} {us : List V} (h : DenL K F ds us) (hl : us.length = ns.length) :
    ∃ us', DenL K F (putD ns ds f y).2 us' ∧ us'.length = (putD ns ds f y).1.length ∧ ∀ (j g : Nat) (u : V), (putD ns ds f y).1[j]? = some g → us'[j]? = some u → (g = f ∧ u = v) ∨ (g ≠ f ∧ ns[j]? = some g ∧ us[j]? = some u) := by
  unfold putD
  by_cases e : f ∈ ns
  · rw [if_pos e]
    obtain ⟨us', g1, g2, g3⟩ := rep_den hy h hl
    exact ⟨us', g1, g2, fun j g u h1 h2 => (g3 j g u h1 h2).imp id fun z => ⟨z.1, h1, z.2⟩⟩
  · rw [if_neg e]
    refine ⟨us ++ [v], h.append (.cons hy .nil), by simp [hl], fun j g u h1 h2 => ?_⟩
    by_cases hj : j < ns.length
    · rw [List.getElem?_append_left hj] at h1
      rw [List.getElem?_append_left (by rw [hl]; exact hj)] at h2
      refine .inr ⟨fun z => e ?_, h1, h2⟩
      rw [← z]
      exact List.mem_of_getElem? h1
    · rw [List.getElem?_append_right (by omega)] at h1
      rw [List.getElem?_append_right (by omega), hl] at h2
      cases q : j - ns.length with
      | zero =>
        rw [q] at h1 h2
        simp only [List.getElem?_cons_zero] at h1 h2
        cases h1
        cases h2
        exact .inl ⟨rfl, rfl⟩
      | succ m =>
        rw [q] at h1
        simp at h1
/-- x.f = y, x an instance of the store -/
theorem fstO_ok {X : Cx} (fa : Facts T cf CX k X) {cls : List (Nat × List Nat)} (hc : (cls.all fun p => decide (p ∈ T.sls)) = true) {x y : D} {f : Nat} {R R' : Sto} (h : fstO cls x f y R = some R') {M : Mp} {P : Ps} {F H : Hp} {vx vy : V} (r : Rel X.K M R P F H) (hx : Vr X.K M F x vx) (hy : Den X.K F y vy)
    (nx : ∀ (a C dx : Addr) (vs : List (Option V)), SlX.Slt H a C dx vs → dx ≠ a) :
    ∃ a C dx p vs i, vx = .ref a ∧ SlX.Slt H a C dx vs ∧ SlX.SCls X.K C ∧ SlX.Slot1 X.K C (nmN f) p i ∧ Rel X.K M R' P F (SlX.slH H a C dx (SlX.putS i vy vs)) := by
  unfold fstO at h
  split at h
  · rename_i j l
    have hv := hx.ref
    subst hv
    split at h
    · rename_i c ns ds hs
      split at h
      · rename_i fs hfs
        split at h
        · rename_i hz
          cases h
          simp only [Bool.and_eq_true, List.all_eq_true] at hz
          obtain ⟨hf, hns⟩ := hz
          obtain ⟨h0, C, dx, vs, us, g1, g2, g3, g4⟩ := r.ob j l _ hs
          have hm : (c, fs) ∈ T.sls := by
            have : (c, fs) ∈ cls := by
              clear hc
              revert hfs
              induction cls with
              | nil => intro z; cases z
              | cons p cls ih =>
                intro z
                obtain ⟨c1, f1⟩ := p
                rw [List.lookup_cons] at z
                split at z
                · rename_i e
                  cases z
                  rw [beq_iff_eq.mp e]
                  exact List.mem_cons_self
                · exact List.mem_cons_of_mem _ (ih z)
            exact of_decide_eq_true (List.all_eq_true.mp hc _ this)
          have slot : ∀ g, fs.contains g = true → ∃ i p, fs[i]? = some g ∧ SlX.Slot1 X.K C (nmN g) p i := fun g hg => by
            obtain ⟨i, hi, e⟩ := List.mem_iff_getElem.mp (List.contains_iff_mem.mp hg)
            have e' : fs[i]? = some g := by rw [List.getElem?_eq_getElem hi, e]
            obtain ⟨p, hp⟩ := fa.sl c fs hm C g1 i g e'
            exact ⟨i, p, e', hp⟩
          obtain ⟨i, p, hi, hp⟩ := slot f hf
          have hslt := g2.slo.slt
          obtain ⟨us', u1, u2, u3⟩ := ins_den (f := f) hy g4 g3.1
          refine ⟨_, C, dx, p, vs, i, rfl, hslt, g1.sc, hp, r.slot hs g1 g2 ⟨u2, fun jj g u e1 e2 => ?_⟩ u1 (nx _ _ _ _ hslt)⟩
          rcases u3 jj g u e1 e2 with ⟨rfl, rfl⟩ | ⟨ng, w1, w2⟩
          · exact ⟨p, i, hp, SlX.putS_get _ _ _⟩
          · obtain ⟨p', i', q1, q2⟩ := g3.2 jj g u w1 w2
            obtain ⟨i2, p2, hi2, hp2⟩ := slot g (hns g (List.mem_of_getElem? w1))
            obtain ⟨_, e⟩ := slot1_one hp2 q1
            subst e
            refine ⟨p', _, q1, (SlX.putS_ne fun z => ?_).mpr q2⟩
            rw [z, hi] at hi2
            exact ng (Option.some.inj hi2).symm
        · cases h
      · cases h
    · cases h
  · cases h
theorem ss_fset (a : C) (f : Nat) (cls : List (Nat × List Nat)) (e : C) : SS T cf lf CX k (.fset a f cls e) := fun X sts ok fa h σD R M P F σ H D r er q => by
  simp only [chkS] at h
  simp only [ex] at q
  split at h
  · rename_i o m pa v p
    simp only [Bool.and_eq_true] at h
    obtain ⟨⟨⟨⟨h1, h2⟩, h3⟩, h4⟩, h5⟩ := h
    cases of_decide_eq_true h1
    obtain ⟨vy, R1, q1, m1, q⟩ := bvS_ok q
    split at q
    · exact q.elim
    · rename_i y' R2 hb
      obtain ⟨vx, R3, q2, m2, q⟩ := bvS_ok q
      split at q
      · rename_i R4 hs
        refine wss_of (pss_one (SlX.ps_sl pe_w pe_w (sw_none (nobool h3)))) ?_
        refine we_mono (((snd e).v X ok.ok fa _ h5).d r er q1 m1) fun v1 H1 ⟨F1, e1, r1, v1'⟩ => ?_
        obtain ⟨G, g1, g2, g3⟩ := r1.byv v1' hb
        have W := ((snd a).v X ok.ok fa _ h4).d g2 ((er.mono e1).mono g1) q2 m2
        intro pins s I
        refine thn (W pins s I) fun u s' ⟨vx', H2, I2, ru, F2, e2, r2, v2'⟩ => ?_
        obtain ⟨b, C, dx, p', vs, i, z1, z2, z3, z4, z5⟩ := fstO_ok fa h2 hs r2 v2' (g3.mono e2) fun a C dx vs hsl => (SlX.slt_at I2 hsl).1
        exact ⟨vx', H2, I2, ru, b, C, dx, p', vs, i, z1, z2, z3, z4, q.nx0 ((e1.trans g1).trans e2) z5 (((er.mono e1).mono g1).mono e2)⟩
      · exact q.elim
  · cases h
theorem iop_plain {o : Operator} {x y z : D} {K : PySem.W.Frag} {M : Mp} {F : Hp} {v : V} (h : iop o x y = some z) (hv : Vr K M F z v) : Den K F z v := by
  rcases hv with ⟨j, i, rfl, _⟩ | hv
  · exfalso
    unfold iop at h
    repeat' split at h
    all_goals cases h
  · exact hv
theorem ss_faug (a : C) (f : Nat) (cls : List (Nat × List Nat)) (o : Operator) (e : C) : SS T cf lf CX k (.faug a f cls o e) := fun X sts ok fa h σD R M P F σ H D r er q => by
  simp only [chkS] at h
  simp only [ex] at q
  split at h
  · rename_i ob m pa op' v p
    simp only [Bool.and_eq_true] at h
    obtain ⟨⟨⟨⟨h1, h2⟩, h3⟩, h4⟩, h5⟩ := h
    cases of_decide_eq_true h1
    cases of_decide_eq_true h2
    obtain ⟨vx, R1, q1, m1, q⟩ := bvS_ok q
    split at q
    · exact q.elim
    · rename_i old hold
      obtain ⟨vy, R2, q2, m2, q⟩ := bvS_ok q
      split at q
      · exact q.elim
      · rename_i z hz
        split at q
        · rename_i R3 hs
          obtain ⟨t, pt, kk⟩ := iop_ok (X := X) hz
          refine wss_of (pss_one (ps_slAug pe_w pe_w pt)) ?_
          refine we_mono (((snd a).v X ok.ok fa _ h4).d r er q1 m1) fun v1 H1 ⟨F1, e1, r1, v1'⟩ => ?_
          obtain ⟨b, C, dx, vs, p', i, u, rfl, g1, g2, g3, g4, g5⟩ := fldD_ok r1 v1' hold
          refine ⟨b, C, dx, p', vs, i, u, rfl, g1, g2, g3, g4, ?_⟩
          have W := ((snd e).v X ok.ok fa _ h5).d r1 (er.mono e1) q2 m2
          intro pins s I
          refine thn (W pins s I) fun w s' ⟨vy', H2, I2, rw', F2, e2, r2, v2'⟩ => ⟨vy', H2, I2, rw', ?_⟩
          refine kk M P R2 F2 H2 u vy' _ r2 (.inr (g5.mono e2)) v2' fun vz hvz => ?_
          obtain ⟨b2, C2, dx2, p2, vs2, i2, z1, z2, z3, z4, z5⟩ := fstO_ok fa h3 hs r2 (v1'.mono e2) (iop_plain hz hvz) fun a C dx vs hsl => (SlX.slt_at I2 hsl).1
          cases z1
          exact ⟨C2, dx2, p2, vs2, i2, z2, z3, z4, q.nx0 (e1.trans e2) z5 ((er.mono e1).mono e2)⟩
        · exact q.elim
  · cases h
theorem noSwap2 {es : List Expr} {kt : Nat} {pt : Pos} {e : Expr} {env : Env} (hl : es.length = 2) (h : noSwap 2 e = true) : swappedStores [.Tuple es kt pt] e env = pure none := noSwap_ok (by rw [hl]; exact h)
theorem ss_fset2 (a : C) (f : Nat) (b : C) (g : Nat) (cls : List (Nat × List Nat)) (e : C) : SS T cf lf CX k (.fset2 a f b g cls e) := fun X sts ok fa h σD R M P F σ H D r er q => by
  simp only [chkS] at h
  simp only [ex] at q
  split at h
  · rename_i o m pa q' l pb kt pt v p
    simp only [Bool.and_eq_true] at h
    obtain ⟨⟨⟨⟨⟨⟨h1, h2⟩, h3⟩, h4⟩, h5⟩, h6⟩, h7⟩ := h
    cases of_decide_eq_true h1
    cases of_decide_eq_true h2
    obtain ⟨vv, R1, q1, m1, q⟩ := bvS_ok q
    split at q
    · rename_i d1 d2 hd
      obtain ⟨vx, R2, q2, m2, q⟩ := bvS_ok q
      split at q
      · exact q.elim
      · rename_i R3 hs1
        obtain ⟨vy, R4, q3, m3, q⟩ := bvS_ok q
        split at q
        · rename_i R5 hs2
          have pg := pg_tup (pos := pt) (k := kt) ok.ok.calm (pgs_cons (pg_sl (X := X) (o := o) (f := nmN f) (pos := pa) pe_w) (pgs_cons (pg_sl (X := X) (o := q') (f := nmN g) (pos := pb) pe_w) pgs_nil))
          refine wss_of (pss_one (ps_asg pe_w pg (by cases v <;> rfl) (noSwap2 rfl h4) rfl)) ?_
          refine we_mono (((snd e).v X ok.ok fa _ h7).d r er q1 m1) fun v1 H1 ⟨F1, e1, r1, v1'⟩ => ?_
          rw [hd] at v1'
          obtain ⟨b0, vs0, rfl, t1, t2⟩ := v1'.tup
          cases t2 with
          | cons t2 t3 =>
            cases t3 with
            | cons t3 t4 =>
              cases t4
              refine ⟨b0, _, rfl, r1.ex.sqT t1, rfl, _, _, rfl, ?_⟩
              have W := ((snd a).v X ok.ok fa _ h5).d r1 (er.mono e1) q2 m2
              intro pins s I
              refine thn (W pins s I) fun u s' ⟨vx', H2, I2, ru, F2, e2, r2, v2'⟩ => ⟨vx', H2, I2, ru, ?_⟩
              obtain ⟨b1, C, dx, p', vs, i, z1, z2, z3, z4, z5⟩ := fstO_ok fa h3 hs1 r2 v2' (t2.mono e2) fun a C dx vs hsl => (SlX.slt_at I2 hsl).1
              refine ⟨b1, C, dx, p', vs, i, z1, z2, z3, z4, _, _, rfl, ?_⟩
              have W2 := ((snd b).v X ok.ok fa _ h6).d z5 ((er.mono e1).mono e2) q3 m3
              intro pins2 s2 I3
              refine thn (W2 pins2 s2 I3) fun u2 s3 ⟨vy', H4, I4, ru2, F3, e3, r3, v3'⟩ => ⟨vy', H4, I4, ru2, ?_⟩
              obtain ⟨b2, C2, dx2, p2, vs2, i2, y1, y2, y3, y4, y5⟩ := fstO_ok fa h3 hs2 r3 v3' ((t3.mono e2).mono e3) fun a C dx vs hsl => (SlX.slt_at I4 hsl).1
              exact ⟨b2, C2, dx2, p2, vs2, i2, y1, y2, y3, y4, rfl, q.nx0 ((e1.trans e2).trans e3) y5 (((er.mono e1).mono e2).mono e3)⟩
        · exact q.elim
    · exact q.elim
  · cases h
theorem ss_if {a b : S} (c : C) (ha : SS T cf lf CX k a) (hb : SS T cf lf CX k b) : SS T cf lf CX k (.ifS c a b) := fun X sts ok fa h σD R M P F σ H D r er q => by
  simp only [chkS] at h
  simp only [ex] at q
  split at h
  · rename_i e x y p
    simp only [Bool.and_eq_true] at h
    obtain ⟨⟨h1, h2⟩, h3⟩ := h
    obtain ⟨v, R1, q1, m1, q⟩ := bvS_ok q
    refine wss_of (pss_one (ps_if pt_w pss_w pss_w)) ?_
    split at q
    · rename_i ht
      refine wt_mono ((snd c).t X ok.ok fa e h1 σD R R1 M P F σ H v true r er q1 m1 ht) fun b H1 ⟨eb, F1, e1, r1⟩ => ?_
      subst eb
      rw [if_pos rfl]
      exact ha X x ok fa h2 σD R1 M P F1 σ H1 D r1 (er.mono e1) (q.mono (fun z hz => List.mem_append_left _ hz) (.refl _ M) e1)
    · rename_i ht
      refine wt_mono ((snd c).t X ok.ok fa e h1 σD R R1 M P F σ H v false r er q1 m1 ht) fun b H1 ⟨eb, F1, e1, r1⟩ => ?_
      subst eb
      rw [if_neg Bool.false_ne_true]
      exact hb X y ok fa h3 σD R1 M P F1 σ H1 D r1 (er.mono e1) (q.mono (fun z hz => List.mem_append_right _ hz) (.refl _ M) e1)
    · exact q.elim
  · cases h
theorem execs_one (st : Stmt) (env : Env) : execs [st] env = exec st env := by
  have e : execs [st] env = exec st env >>= fun f => (pure f : Sem Flow) := by
    show (exec st env >>= fun f => match f with | .next => execs [] env | f => pure f) = _
    congr 1
    funext f
    cases f <;> rfl
  rw [e]
  exact PySem.Sem.bind_pure _
theorem ss_seq {a b : S} (ha : SS T cf lf CX k a) (hb : SS T cf lf CX k b) : SS T cf lf CX k (.seq a b) := fun X sts ok fa h σD R M P F σ H D r er q => by
  simp only [chkS] at h
  simp only [ex] at q
  split at h
  · rename_i st rest
    simp only [Bool.and_eq_true] at h
    -- what stands behind the first statement
    have key : DS X a.places M P F { D with nx := fun σ H => WSs X rest D σ H } (ex cf lf a σD R) := by
      cases hr : ex cf lf a σD R with
      | nx σ1 R1 =>
        rw [hr] at q
        exact fun M' F' σ' H' ag e1 r1 er1 => hb X rest ok fa h.2 σ1 R1 M' P F' σ' H' D r1 er1 (q.mono (fun z hz => List.mem_append_right _ hz) (ag.mono fun z hz => List.mem_append_left _ hz) e1)
      | bk σ1 R1 =>
        rw [hr] at q
        exact fun M' F' σ' H' ag e1 r1 er1 => q M' F' σ' H' (ag.mono fun z hz => List.mem_append_left _ hz) e1 r1 er1
      | ct σ1 R1 =>
        rw [hr] at q
        exact fun M' F' σ' H' ag e1 r1 er1 => q M' F' σ' H' (ag.mono fun z hz => List.mem_append_left _ hz) e1 r1 er1
      | rt v R1 =>
        rw [hr] at q
        exact fun M' F' v H' ag e1 r1 er1 => q M' F' v H' (ag.mono fun z hz => List.mem_append_left _ hz) e1 r1 er1
      | bad =>
        rw [hr] at q
        exact q
    have W := ha X [st] ok fa h.1 σD R M P F σ H _ r er key
    refine fun pins s I => ?_
    have p1 : PS X st (fun D σ H => WSs X [st] D σ H) := ⟨fun pins s σ H D I h => by
      have z := h pins s I
      rw [execs_one] at z
      exact z⟩
    exact (pss_cons p1 pss_w).run pins s σ H D I W
  · cases h
end
end EV

/-! EvW: loops; all suites together. -/
namespace EV
open PySem PySem.Spec PyProof.Rows L2

section
variable {T : Tb} {cf : Cf} {lf k : Nat} {CX : CXT}
/-- one turn's end, told to a loop -/
theorem loop_body {X : Cx} {L : List Nat} {M : Mp} {P : Ps} {F : Hp} {D : Ends} {r : Res} {g : En → Sto → Res} {N : L2.St → Hp → Prop}
    (q : DS X L M P F D (match r with
      | .nx σ2 R2 => g σ2 R2
      | .ct σ2 R2 => g σ2 R2
      | .bk σ2 R2 => .nx σ2 R2
      | .rt v R2 => .rt v R2
      | .bad => .bad))
    (kq : ∀ σ2 R2 M' F' σ' H', Agr L M M' → Ex F F' → Rel X.K M' R2 P F' H' → ER X.K M' F' σ2 σ' → DS X L M P F D (g σ2 R2) → N σ' H') : DS X L M P F { D with nx := N, ct := N, bk := D.nx } r := by
  cases r with
  | nx σ2 R2 => exact fun M' F' σ' H' a e r er => kq σ2 R2 M' F' σ' H' a e r er q
  | ct σ2 R2 => exact fun M' F' σ' H' a e r er => kq σ2 R2 M' F' σ' H' a e r er q
  | bk σ2 R2 => exact q
  | rt v R2 => exact q
  | bad => exact q
theorem ss_whl {b : S} (c : C) (hb : SS T cf lf CX k b) : SS T cf lf CX k (.whl c b) := fun X sts ok fa h σD R M P F σ H D r er q => by
  simp only [chkS] at h
  simp only [ex] at q
  split at h
  · rename_i e x p
    rw [Bool.and_eq_true] at h
    refine wss_of (pss_one (ps_while ok.ok.own pt_w pss_w)) ?_
    refine ⟨fun m σ' H' => ∃ σ2 R2 M' F', Agr b.places M M' ∧ Ex F F' ∧ Rel X.K M' R2 P F' H' ∧ ER X.K M' F' σ2 σ' ∧ DS X b.places M' P F' D (whR (ev cf lf c) (ex cf lf b) m σ2 R2), ⟨lf, σD, R, M, F, .refl _ M, .refl F, r, er, q⟩, ?_⟩
    rintro m σ1 H1 ⟨σ2, R2, M1, F1, a1, e1, r1, er1, q1⟩
    cases m with
    | zero => exact q1.elim
    | succ n =>
      unfold whR at q1
      obtain ⟨v, R3, c1, m1, q1⟩ := bvS_ok q1
      cases ht : truth R3 (fz v) with
      | none => rw [ht] at q1; exact q1.elim
      | some t =>
        rw [ht] at q1
        refine wt_mono ((snd c).t X ok.ok fa e h.1 σ2 R2 R3 M1 P F1 σ1 H1 v t r1 er1 c1 m1 ht) fun b' H2 ⟨eb, F2, e2, r2⟩ => ?_
        subst eb
        cases b' with
        | false =>
          rw [if_neg Bool.false_ne_true]
          exact q1.nx0 e2 r2 (er1.mono e2)
        | true =>
          rw [if_pos rfl]
          refine ⟨fun σ' H' => ∃ σ2 R2 M' F', Agr b.places M M' ∧ Ex F F' ∧ Rel X.K M' R2 P F' H' ∧ ER X.K M' F' σ2 σ' ∧ DS X b.places M' P F' D (whR (ev cf lf c) (ex cf lf b) n σ2 R2), fun σ' H' w => ⟨n, Nat.lt_succ_self n, w⟩, ?_⟩
          refine hb X x ok fa h.2 σ2 R3 M1 P F2 σ1 H2 _ r2 (er1.mono e2) (loop_body (g := fun σ R => whR (ev cf lf c) (ex cf lf b) n σ R) (q1.mono (fun z hz => hz) (.refl _ M1) e2) ?_)
          intro σ3 R4 M3 F3 σ' H' a3 e3 r3 er3 q3
          exact ⟨σ3, R4, M3, F3, a1.trans a3, (e1.trans e2).trans e3, r3, er3, q3.mono (fun z hz => hz) a3 e3⟩
  · cases h
theorem okLive_vr {K : PySem.W.Frag} {L : List Nat} {M M' : Mp} {F F' : Hp} {x : D} {v : V} (h : okLive L x = true) (hv : Vr K M F x v) (a : Agr L M M') (e : Ex F F') : Vr K M' F' x v := by
  have key : ∀ {j i : Nat}, x = .ref j i → (j = 0 → i ∉ L) → Vr K M' F' x v := fun {j i} hx hn => by
    subst hx
    have := hv.ref
    subst this
    exact .inl ⟨j, i, rfl, by rw [a j i hn]⟩
  unfold okLive at h
  split at h
  · rename_i i
    refine key rfl fun _ hm => ?_
    have := nobool h
    rw [List.contains_iff_mem.mpr hm] at this
    cases this
  · rename_i j i hj
    exact key rfl fun z => absurd z hj
  · cases h
theorem ss_for {b : S} (is : List Nat) (it : C) (hb : SS T cf lf CX k b) : SS T cf lf CX k (.forS is it b) := fun X sts ok fa h σD R M P F σ H D r er q => by
  simp only [chkS] at h
  simp only [ex] at q
  split at h
  · rename_i tg e x p
    simp only [Bool.and_eq_true] at h
    obtain ⟨⟨⟨⟨h1, h0⟩, h2⟩, h3⟩, h4⟩ := h
    obtain ⟨g, pg, _, kk⟩ := tg_ok ok h1
    refine wss_of (pss_one (ps_for ok.ok.own ok.ok.calm pi_w pg pss_w (notSet_of (nobool h3)))) ?_
    split at q
    · rename_i xv R1 q1
      cases hj : itOf (ik it) R1 xv with
      | none => rw [hj] at q; exact q.elim
      | some j =>
        rw [hj] at q
        refine sit it X e ok.ok fa h2 σD R R1 M P F σ H xv j r er q1 hj tg _ h0 fun J H1 F1 e1 r1 hJ => ?_
        cases j with
        | vals ds =>
          refine ⟨fun i m σ' H' => m = ds.length - i ∧ i ≤ ds.length ∧ ∃ σ2 R2 M' F', Agr b.places M M' ∧ Ex F1 F' ∧ Rel X.K M' R2 P F' H' ∧ ER X.K M' F' σ2 σ' ∧ DS X b.places M' P F' D (forV (setTg is) (ex cf lf b) (ds.drop i) σ2 R2),
            ⟨ds.length, rfl, Nat.zero_le _, σD, R1, M, F1, .refl _ M, .refl F1, r1, er.mono e1, q.mono (fun z hz => hz) (.refl _ M) e1⟩, ?_⟩
          rintro i m σ1 H2 ⟨rfl, hi, σ2, R2, M2, F2, a2, e2, r2, er2, q2⟩
          have hF : Ex F1 H2 := e2.trans r2.ex
          by_cases hlt : i < ds.length
          · have hd : ds.drop i = ds[i] :: ds.drop (i + 1) := List.drop_eq_getElem_cons hlt
            rw [hd] at q2
            unfold forV at q2
            have go := (hJ H2 hF).1 i ds[i] (List.getElem?_eq_getElem hlt)
            refine .inr ⟨go.1, fun σ' H' => ∃ σ2 R2 M' F', Agr b.places M M' ∧ Ex F1 F' ∧ Rel X.K M' R2 P F' H' ∧ ER X.K M' F' σ2 σ' ∧ DS X b.places M' P F' D (forV (setTg is) (ex cf lf b) (ds.drop (i + 1)) σ2 R2), fun σ' H' w => ⟨ds.length - (i + 1), by omega, rfl, hlt, w⟩, fun v H' y => ?_⟩
            obtain ⟨Fj, ej, rj, g2⟩ := go.2 v H' y M2 R2 P F2 e2 r2
            cases hs : setTg is ds[i] σ2 with
            | none => rw [hs] at q2; exact q2.elim
            | some σ3 =>
              rw [hs] at q2
              refine kk ds[i] v R2 σ2 σ3 M2 P Fj σ1 H' _ hs (.inr g2) rj (er2.mono ej) fun σ4 er4 => ?_
              refine hb X x ok fa h4 σ3 R2 M2 P Fj σ4 H' _ rj er4 (loop_body (g := fun σ R => forV (setTg is) (ex cf lf b) (ds.drop (i + 1)) σ R) (q2.mono (fun z hz => hz) (.refl _ M2) ej) ?_)
              intro σ5 R5 M5 F5 σ' H5 a5 e5 r5 er5 q5
              exact ⟨σ5, R5, M5, F5, a2.trans a5, (e2.trans ej).trans e5, r5, er5, q5.mono (fun z hz => hz) a5 e5⟩
          · have e : i = ds.length := by omega
            subst e
            rw [List.drop_length] at q2
            unfold forV at q2
            exact .inl ⟨(hJ H2 hF).2, q2.nx0 (.refl F2) r2 er2⟩
        | live y =>
          obtain ⟨a, hv, rfl⟩ := hJ
          unfold forI at q
          dsimp only at q
          split at q
          · rename_i hl
            refine ⟨fun i m σ' H' => ∃ σ2 R2 M' F', Agr b.places M M' ∧ Ex F1 F' ∧ Rel X.K M' R2 P F' H' ∧ ER X.K M' F' σ2 σ' ∧ DS X b.places M' P F' D (forR (setTg is) (ex cf lf b) y m i σ2 R2),
              ⟨lf, σD, R1, M, F1, .refl _ M, .refl F1, r1, er.mono e1, q.mono (fun z hz => hz) (.refl _ M) e1⟩, ?_⟩
            rintro i m σ1 H2 ⟨σ2, R2, M2, F2, a2, e2, r2, er2, q2⟩
            cases m with
            | zero => exact q2.elim
            | succ m =>
              unfold forR at q2
              cases hds : asL R2 y with
              | none => rw [hds] at q2; exact q2.elim
              | some ds =>
                rw [hds] at q2
                dsimp only at q2
                obtain ⟨a', vs, z1, z2, z3⟩ := r2.asL (okLive_vr hl hv a2 e2) hds
                cases z1
                cases hi : ds[i]? with
                | none =>
                  rw [hi] at q2
                  refine .inl ⟨⟨vs, .inl (.inl z2), ?_⟩, q2.nx0 (.refl F2) r2 er2⟩
                  rw [z3.length]
                  exact List.getElem?_eq_none_iff.mp hi
                | some d =>
                  rw [hi] at q2
                  dsimp only at q2
                  obtain ⟨v', g1, g2⟩ := z3.get hi
                  refine .inr ⟨⟨vs, v', .inl (.inl z2), g1⟩, fun σ' H' => ∃ σ2 R2 M' F', Agr b.places M M' ∧ Ex F1 F' ∧ Rel X.K M' R2 P F' H' ∧ ER X.K M' F' σ2 σ' ∧ DS X b.places M' P F' D (forR (setTg is) (ex cf lf b) y m (i + 1) σ2 R2), fun σ' H' w => ⟨m, Nat.lt_succ_self m, w⟩, fun v H' yy => ?_⟩
                  obtain ⟨y1, y2⟩ := yy
                  subst y1
                  have y2 := y2 vs (.inl (.inl z2))
                  obtain rfl : v = v' := by
                    rw [y2] at g1
                    exact Option.some.inj g1
                  cases hs : setTg is d σ2 with
                  | none => rw [hs] at q2; exact q2.elim
                  | some σ3 =>
                    rw [hs] at q2
                    refine kk d v R2 σ2 σ3 M2 P F2 σ1 H' _ hs (.inr g2) r2 er2 fun σ4 er4 => ?_
                    refine hb X x ok fa h4 σ3 R2 M2 P F2 σ4 H' _ r2 er4 (loop_body (g := fun σ R => forR (setTg is) (ex cf lf b) y m (i + 1) σ R) q2 ?_)
                    intro σ5 R5 M5 F5 σ' H5 a5 e5 r5 er5 q5
                    exact ⟨σ5, R5, M5, F5, a2.trans a5, e2.trans e5, r5, er5, q5.mono (fun z hz => hz) a5 e5⟩
          · exact q.elim
    · exact q.elim
  · cases h
theorem ss : ∀ s : S, SS T cf lf CX k s
  | .nop => ss_nop
  | .never => ss_never
  | .asg i c => ss_asg i c
  | .asgN i p c => ss_asgN i p c
  | .par2 i j pi pj a b => ss_par2 i j pi pj a b
  | .par3 i j l a b c => ss_par3 i j l a b c
  | .unp is c => ss_unp is c
  | .aug i o c => ss_aug i o c
  | .app a e => ss_app a e
  | .extd a e => ss_extd a e
  | .sets a i e => ss_sets a i e
  | .fset a f cls e => ss_fset a f cls e
  | .faug a f cls o e => ss_faug a f cls o e
  | .fset2 a f b g cls e => ss_fset2 a f b g cls e
  | .expr c => ss_expr c
  | .ret c => ss_ret c
  | .retN => ss_retN
  | .ifS c a b => ss_if c (ss a) (ss b)
  | .whl c b => ss_whl c (ss b)
  | .forS is it b => ss_for is it (ss b)
  | .brk => ss_brk
  | .cnt => ss_cnt
  | .seq a b => ss_seq (ss a) (ss b)
end
end EV

/-! EvX: defs: what a table of defs computes, and that the text's defs do so. -/
namespace EV
open PySem PySem.Spec PyProof.Rows L2

structure Fn where
  np : Nat
  nv : Nat
  pl : Nat
  code : S
/-- what a def's end hands to its caller -/
def retv (own : List O) (R : Sto) : Rv → Out Rv
  | .val (.ref 0 p) => match own[p]? with
    | some (.lst ds) => .ok (.new (.lst ds)) R
    | some (.dct ks ds) => .ok (.new (.dct ks ds)) R
    | some (.dcT ks ds) => .ok (.new (.dcT ks ds)) R
    | some (.ins c ns ds) => .ok (.new (.ins c ns ds)) R
    | some (.frz d) => .ok (.val d) R
    | _ => .bad
  | .val (.ref (j + 1) i) => .ok (.val (.ref j i)) R
  | .val d => .ok (.val d) R
  | .new o => .ok (.new o) R
  | .many _ => .bad
def finR : Res → Out Rv
  | .nx _ (_ :: R) => .ok (.val .non) R
  | .rt rv (own :: R) => retv own R rv
  | _ => .bad
def startD (n : Nat) (as : List D) : En := as.map (fun a => some (up a)) ++ List.replicate (n - as.length) none
/-- the defs; class, method, def; class, property, def -/
structure Tab where
  fns : List Fn
  mts : List (Nat × Nat × Nat) := []
  prs : List (Nat × Nat × Nat) := []
def pick : List (Nat × Nat × Nat) → Nat → Nat → Option Nat
  | [], _, _ => none
  | p :: r, c, m => if p.1 = c ∧ p.2.1 = m then some p.2.2 else pick r c m
theorem pick_mem {c m g : Nat} : ∀ {l : List (Nat × Nat × Nat)}, pick l c m = some g → (c, m, g) ∈ l
  | [], h => by cases h
  | p :: r, h => by
    unfold pick at h
    split at h
    · rename_i e
      cases h
      obtain ⟨rfl, rfl⟩ := e
      exact List.mem_cons_self
    · exact List.mem_cons_of_mem _ (pick_mem h)
/-- the def that a call reaches -/
def disp (Fs : Tab) (f : Nat) (as : List D) (R : Sto) : Option Nat := if f < 131072 then some f else match as with
  | d :: _ => match clsD R d with
    | some c => if f % 2 = 0 then pick Fs.mts c (f / 2) else pick Fs.prs c (f / 2)
    | none => none
  | [] => none
def run (Fs : Tab) (lf : Nat) : Nat → Cf
  | 0 => fun _ _ _ => .bad
  | n + 1 => fun f as R => match disp Fs f as R with
    | some g => match Fs.fns[g]? with
      | some d => if as.length = d.np then finR (ex (run Fs lf n) lf d.code (startD d.nv as) (List.replicate d.pl .dead :: R)) else .bad
      | none => .bad
    | none => .bad
theorem run_disp {Fs : Tab} {lf : Nat} (hl : Fs.fns.length ≤ 131072) {n f : Nat} {as : List D} {R R' : Sto} {rv : Rv} (h : run Fs lf n f as R = .ok rv R') : ∃ g, disp Fs f as R = some g ∧ run Fs lf n g as R = .ok rv R' := by
  cases n with
  | zero => cases h
  | succ n =>
    unfold run at h
    cases q : disp Fs f as R with
    | none => rw [q] at h; cases h
    | some g =>
      rw [q] at h
      refine ⟨g, rfl, ?_⟩
      dsimp only at h
      cases q2 : Fs.fns[g]? with
      | none => rw [q2] at h; cases h
      | some d =>
        have hg : g < 131072 := Nat.lt_of_lt_of_le (List.getElem?_eq_some_iff.mp q2).1 hl
        have e : disp Fs g as R = some g := if_pos hg
        unfold run
        rw [e]
        exact h

section
variable {K : PySem.W.Frag} {M M' : Mp} {R : Sto} {P : Ps} {F H : Hp} {own : List O}
def pushM (M : Mp) : Mp := fun j i => match j with
  | 0 => 0
  | j + 1 => M j i
theorem sget_cons (own : List O) (R : Sto) (j i : Nat) : sget (own :: R) (j + 1) i = sget R j i := rfl
theorem sget_own (own : List O) (R : Sto) (i : Nat) : sget (own :: R) 0 i = own[i]? := rfl
theorem live_cons {own : List O} {R : Sto} {j i : Nat} : live (own :: R) (j + 1) i ↔ live R j i := Iff.rfl
theorem not_live0 {n : Nat} {R : Sto} {i : Nat} : ¬ live (List.replicate n .dead :: R) 0 i := fun ⟨o, h1, h2⟩ => by
  rw [sget_own, List.getElem?_replicate] at h1
  split at h1
  · cases h1; cases h2
  · cases h1
theorem Rel.push (r : Rel K M R P F H) (n : Nat) : Rel K (pushM M) (List.replicate n .dead :: R) P F H := by
  refine ⟨r.ex, fun j i o e => ?_, fun j1 i1 j2 i2 l1 l2 e => ?_, fun q hq => ?_, r.pd⟩
  · cases j with
    | zero =>
      rw [sget_own, List.getElem?_replicate] at e
      split at e
      · cases e; trivial
      · cases e
    | succ j => exact r.ob j i o e
  · cases j1 with
    | zero => exact absurd l1 not_live0
    | succ j1 =>
      cases j2 with
      | zero => exact absurd l2 not_live0
      | succ j2 =>
        obtain ⟨h1, h2⟩ := r.inj j1 i1 j2 i2 l1 l2 e
        exact ⟨by rw [h1], h2⟩
  · obtain ⟨h1, h2, hm, h3⟩ := r.pr q hq
    refine ⟨h1, h2, hm, fun j i l => ?_⟩
    cases j with
    | zero => exact absurd l not_live0
    | succ j => exact h3 j i l
theorem Vr.up {d : D} {v : V} (h : Vr K M F d v) : Vr K (pushM M) F (EV.up d) v := by
  have t := VrL.up (M' := pushM M) (fun _ _ => rfl) (.cons h .nil)
  cases t with
  | cons t _ => exact t
theorem VrL.get : ∀ {ds : List D} {vs : List V} {i : Nat} {d : D}, VrL K M F ds vs → ds[i]? = some d → ∃ v, vs[i]? = some v ∧ Vr K M F d v
  | _, _, _, _, .nil, e => by simp at e
  | _, _, 0, _, .cons h _, e => by simp at e; subst e; exact ⟨_, rfl, h⟩
  | _, _, i + 1, d, .cons _ t, e => by
    obtain ⟨v, h1, h2⟩ := VrL.get (i := i) (d := d) t (by simpa using e)
    exact ⟨v, by simpa using h1, h2⟩
theorem ER.start {N : List Str} {ds : List D} {vs : List V} {nv : Nat} (h : VrL K M F ds vs) (hn : N.length = nv) : ER K (pushM M) F (startD nv ds) (L2.start N vs) := by
  have hl := h.length
  refine ⟨?_, fun i d q => ?_⟩
  · unfold startD L2.start
    rw [List.length_append, List.length_append, List.length_map, List.length_map, List.length_replicate, List.length_replicate, hl, hn]
  · unfold startD at q
    unfold L2.start
    by_cases hi : i < ds.length
    · rw [List.getElem?_append_left (by rw [List.length_map]; exact hi), List.getElem?_map] at q
      cases e : ds[i]? with
      | none => rw [e] at q; cases q
      | some d0 =>
        rw [e] at q
        cases q
        obtain ⟨v, h1, h2⟩ := h.get e
        refine ⟨v, ?_, h2.up⟩
        rw [List.getElem?_append_left (by rw [List.length_map, hl]; exact hi), List.getElem?_map, h1]
        rfl
    · rw [List.getElem?_append_right (by rw [List.length_map]; omega), List.getElem?_replicate] at q
      split at q <;> cases q
/-- the end of a def's body -/
theorem fin_ok {X : Cx} {L : List Nat} {Q : VK} {r : Res} {rv : Rv} {R' : Sto} (q : finR r = .ok rv R') (p : Pst X.K M P F rv R' Q) : DS X L (pushM M) P F { nx := fun _ H' => Q .non H', rt := Q } r := by
  have ag : ∀ {M1 : Mp}, Agr L (pushM M) M1 → ∀ j i, M1 (j + 1) i = M j i := fun a j i => a (j + 1) i (fun z => by omega)
  cases r with
  | nx σ R1 =>
    cases R1 with
    | nil => cases q
    | cons own R1 =>
      cases q
      intro M1 F1 σ1 H1 a e r er
      exact p _ F1 H1 e (r.dropN (ag a)) (.inr .non)
  | rt v R1 =>
    cases R1 with
    | nil => cases q
    | cons own R1 =>
      simp only [finR] at q
      intro M1 F1 u H1 a e r hv
      have r' := r.dropN (ag a)
      cases v with
      | many _ => cases q
      | new o =>
        cases q
        obtain ⟨b, rfl, g1, g2, g3, g4⟩ := hv
        exact p _ F1 H1 e r' ⟨b, rfl, g1, g2, fun j i l => by rw [← ag a]; exact g3 (j + 1) i l, g4⟩
      | val d =>
        have plain : (∀ j i, d ≠ .ref j i) → .ok (.val d) R1 = Out.ok rv R' → Q u H1 := fun hd e1 => by
          cases e1
          rcases hv with ⟨j, i, e2, _⟩ | h
          · exact (hd j i e2).elim
          · exact p _ F1 H1 e r' (.inr h)
        cases d with
        | ref j i =>
          have hu := Vr.ref hv
          subst hu
          cases j with
          | succ j =>
            cases q
            exact p _ F1 H1 e r' (.inl ⟨j, i, rfl, by rw [ag a]⟩)
          | zero =>
            simp only [retv] at q
            have back : ∀ o, own[i]? = some o → o.isF = false → .ok (.new o) R1 = Out.ok rv R' → Q (.ref (M1 0 i)) H1 := fun o ho hf e1 => by
              cases e1
              have ho : sget (own :: R') 0 i = some o := ho
              refine p _ F1 H1 e r' ⟨_, rfl, hf, r.ob 0 i o ho, fun j k l z => ?_, fun q hq z => (r.pr q hq).2.2.2 0 i ⟨o, ho, hf⟩ z.symm⟩
              have := r.inj (j + 1) k 0 i l ⟨o, ho, hf⟩ (by rw [ag a]; exact z)
              omega
            split at q
            · rename_i ds ho; exact back _ ho rfl q
            · rename_i ks ds ho; exact back _ ho rfl q
            · rename_i ks ds ho; exact back _ ho rfl q
            · rename_i c ns ds ho; exact back _ ho rfl q
            · rename_i d ho
              cases q
              exact p _ F1 H1 e r' (.inr (r.ob 0 i _ ho))
            · cases q
        | _ => exact plain (fun _ _ z => nomatch z) q
  | bk _ _ => cases q
  | ct _ _ => cases q
  | bad => cases q
end

/-- a def of the text and its code -/
structure DefOk (T : Tb) (d : Fn) (N ps : List Str) (st : Stmt) : Prop where
  np : ps.length = d.np
  nv : N.length = d.nv
  sc : FnScope N ps (defScope st)
  ck : chkS T d.code (defScope st) N (defBody st) = true
/-- the defs with these numbers are the def at a; dv: what fills up -/
def DefAt (K : PySem.W.Frag) (T : Tb) (Fs : Tab) (I : Nat → Prop) (a : Addr) (dv : List D) : Prop := ∃ x qual st fd ps N d ds dvs, (∀ i, I i → Fs.fns[i]? = some d) ∧ Fun K x qual st a fd ∧ Binds K fd ps ds ∧ Vals dvs ds ∧ DenL K (fun _ => none) dv dvs ∧ DefOk T d N ps st
section
variable {Pr : Program} {w : World} {K : PySem.W.Frag} {mg : Str → Option Value} {base : Heap} {T : Tb} {Fs : Tab} {lf : Nat}
theorem fn_step {n i : Nat} {x qual : Str} {st : Stmt} {f : Addr} {fd : FuncData} {d : Fn} {N ps : List Str} (F : Fun K x qual st f fd) (ok : DefOk T d N ps st) (hd : Fs.fns[i]? = some d) (hl : Fs.fns.length ≤ 131072)
    (facts : ∀ X : Cx, X.prog = Pr → X.w = w → X.K = K → X.mg = mg → X.base = base → Facts T (run Fs lf n) CX0 (4 * n) X) : FnOk Pr w K mg base CX0 (4 * (n + 1)) f fd ps (spC K (run Fs lf (n + 1)) i) := by
  have hi : ∀ (as : List D) (R : Sto), disp Fs i as R = some i := fun as R => if_pos (Nat.lt_of_lt_of_le (List.getElem?_eq_some_iff.mp hd).1 hl)
  refine F.ok (k := 4 * n + 3) ok.sc (fun vs H Q E h => ?_) (fun cdv A outer s H vs Q E hr h => ?_)
  · obtain ⟨ds, M, R, P, F, rv, R', q, hv, r, p⟩ := h
    unfold run at q
    rw [hi] at q
    dsimp only at q
    rw [hd] at q
    dsimp only at q
    split at q
    · rename_i hl
      rw [hv.length, hl, ok.np]
    · cases q
  · obtain ⟨ds, M, R, P, F', rv, R', q, hv, r, p⟩ := h
    unfold run at q
    rw [hi] at q
    dsimp only at q
    rw [hd] at q
    dsimp only at q
    split at q
    · refine ⟨_, pss_w, ?_⟩
      exact ss d.code _ (defBody st) ⟨⟨rfl, ok.sc.nd, fun Y _ _ => pass0, PassesOwn.never, fun _ _ _ _ _ z => z, hr⟩, fun _ => rfl⟩ (facts _ rfl rfl rfl rfl rfl) ok.ck _ _ _ P F' _ H _ (r.push d.pl) (.start hv ok.nv) (fin_ok (M := M) q p)
    · cases q
/-- the whole table -/
structure TabOk (K : PySem.W.Frag) (mg : Str → Option Value) (T : Tb) (Fs : Tab) : Prop where
  fn : ∀ (i : Nat) (x : Str), T.fnm[i]? = some x → ∃ a, mg x = some (.ref a) ∧ DefAt K T Fs (· = i) a []
  gl : ∀ (g : Nat) (x : Str) (d : D), T.gnm[g]? = some x → T.gval[g]? = some d → ∃ u v, mg x = some u ∧ RelV v u ∧ Den K (fun _ => none) d v
  bl : ∀ x ∈ T.bnm, mg x = none
  hl : Fs.fns.length ≤ 131072
  mt : T.mts = Fs.mts
  pt : T.prs = Fs.prs
  df : ∀ (f : Nat) (x : Str) (dv : List D), T.fnm[f]? = some x → memDfl f dv T.dfl = true → ∃ a, mg x = some (.ref a) ∧ DefAt K T Fs (· = f) a dv
  cl : ∀ c ∈ T.cls, ∃ C, ClsA K c C ∧ mg (nmN c) = some (.ref C)
  me : ∀ (c m g : Nat), (c, m, g) ∈ T.mts → ∀ C, ClsA K c C → ∃ a, Meth K C (nmN m) a ∧ DefAt K T Fs (· = g) a []
  pr : ∀ (c f g : Nat), (c, f, g) ∈ T.prs → ∀ C, ClsA K c C → ∃ p a rest, PySem.W.findIn K (.ref C) (nmN f) = some (some (.ref p)) ∧ PySem.W.specialIn K (.ref p) "__get__" = some (some (.builtin "property.__get__")) ∧
    PySem.W.takesIn K (.ref p) = some true ∧ PySem.W.recIn K p "property" = some (.ref a :: rest) ∧ DefAt K T Fs (· = g) a []
  ma : ∀ (c : Nat) (dv : List D), memDfl c dv T.mks = true → ∃ C a, ClsA K c C ∧ mg (nmN c) = some (.ref C) ∧ Mk K C a ∧ DefAt K T Fs (fun g => (c, mInit, g) ∈ T.mts) a dv
  sl : ∀ (c : Nat) (fs : List Nat), (c, fs) ∈ T.sls → ∀ C, ClsA K c C → ∀ (i f : Nat), fs[i]? = some f → ∃ p, SlX.Slot1 K C (nmN f) p i
theorem TabOk.dm (t : TabOk K mg T Fs) {n : Nat} (m : Nat) (ds : List D) (R : Sto) (rv : Rv) (R' : Sto) (hm : 65536 ≤ m) (h : run Fs lf n (2 * m) ds R = .ok rv R') : ∃ d r c g, ds = d :: r ∧ clsD R d = some c ∧ (c, m, g) ∈ T.mts ∧ run Fs lf n g ds R = .ok rv R' := by
  obtain ⟨g, h1, h2⟩ := run_disp t.hl h
  unfold disp at h1
  rw [if_neg (by omega)] at h1
  cases ds with
  | nil => cases h1
  | cons d r =>
    dsimp only at h1
    cases hc : clsD R d with
    | none => rw [hc] at h1; cases h1
    | some c =>
      rw [hc] at h1
      dsimp only at h1
      rw [if_pos (by omega), show 2 * m / 2 = m by omega] at h1
      exact ⟨d, r, c, g, rfl, hc, by rw [t.mt]; exact pick_mem h1, h2⟩
theorem TabOk.dp (t : TabOk K mg T Fs) {n : Nat} (m : Nat) (ds : List D) (R : Sto) (rv : Rv) (R' : Sto) (hm : 65536 ≤ m) (h : run Fs lf n (2 * m + 1) ds R = .ok rv R') : ∃ d r c g, ds = d :: r ∧ clsD R d = some c ∧ (c, m, g) ∈ T.prs ∧ run Fs lf n g ds R = .ok rv R' := by
  obtain ⟨g, h1, h2⟩ := run_disp t.hl h
  unfold disp at h1
  rw [if_neg (by omega)] at h1
  cases ds with
  | nil => cases h1
  | cons d r =>
    dsimp only at h1
    cases hc : clsD R d with
    | none => rw [hc] at h1; cases h1
    | some c =>
      rw [hc] at h1
      dsimp only at h1
      rw [if_neg (by omega), show (2 * m + 1) / 2 = m by omega] at h1
      exact ⟨d, r, c, g, rfl, hc, by rw [t.pt]; exact pick_mem h1, h2⟩
/-- of the defs' promises, the facts -/
theorem TabOk.of (t : TabOk K mg T Fs) {n k : Nat} {X : Cx} (h3 : X.K = K) (h4 : X.mg = mg)
    (go : ∀ (I : Nat → Prop) (a : Addr) (dv : List D), DefAt K T Fs I a dv → ∃ fd ps ds dvs, PySem.W.keepIn X.K (.ref a) = true ∧ Binds X.K fd ps ds ∧ Vals dvs ds ∧ DenL X.K (fun _ => none) dv dvs ∧ ∀ i, I i → FnOk X.prog X.w X.K X.mg X.base CX0 k a fd ps (spC X.K (run Fs lf n) i)) :
    Facts T (run Fs lf n) CX0 k X := by
  subst h3 h4
  have raw : ∀ (g : Nat) (a : Addr), DefAt X.K T Fs (· = g) a [] → FnR X.prog X.w X.K X.mg X.base CX0 k a (spC X.K (run Fs lf n) g) := fun g a hd => by
    obtain ⟨fd, ps, ds, dvs, _, h2, h3, h4, h5⟩ := go _ a [] hd
    cases h4
    have z := (h5 g rfl).raw h2 h3
    exact z.imp fun vs H Q E q => by rw [List.append_nil]; exact q
  refine ⟨fun f x hx => ?_, t.gl, t.bl, fun f x dv hx hv => ?_, t.cl, fun m ds R rv R' hm h => t.dm m ds R rv R' hm h, fun m ds R rv R' hm h => t.dp m ds R rv R' hm h, fun c m g hg C hC => ?_, fun c f g hg C hC => ?_, fun c dv hv => ?_, t.sl⟩
  · obtain ⟨a, h1, h2⟩ := t.fn f x hx
    obtain ⟨fd, ps, ds, dvs, g1, g2, g3, g4, g5⟩ := go _ a [] h2
    cases g4
    cases g3
    exact ⟨a, fd, ps, h1, g1, g2, g5 f rfl⟩
  · obtain ⟨a, h1, h2⟩ := t.df f x dv hx hv
    obtain ⟨fd, ps, ds, dvs, g1, g2, g3, g4, g5⟩ := go _ a dv h2
    exact ⟨a, fd, ps, ds, dvs, h1, g1, g2, g3, g4, g5 f rfl⟩
  · obtain ⟨a, h1, h2⟩ := t.me c m g hg C hC
    exact ⟨a, h1, raw g a h2⟩
  · obtain ⟨p, a, rest, h1, h2, h3, h4, h5⟩ := t.pr c f g hg C hC
    exact ⟨p, a, rest, h1, h2, h3, h4, raw g a h5⟩
  · obtain ⟨C, a, h1, h2, h3, h4⟩ := t.ma c dv hv
    obtain ⟨fd, ps, ds, dvs, g1, g2, g3, g4, g5⟩ := go _ a dv h4
    exact ⟨C, a, fd, ps, ds, dvs, h1, h2, h3, g2, g3, g4, g5⟩
theorem TabOk.facts (t : TabOk K mg T Fs) : ∀ (n : Nat) (X : Cx), X.prog = Pr → X.w = w → X.K = K → X.mg = mg → X.base = base → Facts T (run Fs lf n) CX0 (4 * n) X := by
  intro n
  induction n with
  | zero =>
    intro X h1 h2 h3 h4 h5
    have no : ∀ {i : Nat} {α : Prop} {vs : List V} {H : Hp} {Q : VK} {E : XK}, spC X.K (run Fs lf 0) i vs H Q E → α := fun h => by
      obtain ⟨_, _, _, _, _, _, _, q, _⟩ := h
      cases q
    refine t.of h3 h4 fun I a dv ⟨x, qual, st, fd, ps, N, d, ds, dvs, g1, g2, g3, g4, g5, g6⟩ => ?_
    subst h3
    exact ⟨fd, ps, ds, dvs, g2.kp, g3, g4, g5, fun i hi => ⟨fun vs H Q E h => no h, fun A outer s H args us vs Q E _ _ _ _ h => no h⟩⟩
  | succ n ih =>
    intro X h1 h2 h3 h4 h5
    refine t.of h3 h4 fun I a dv ⟨x, qual, st, fd, ps, N, d, ds, dvs, g1, g2, g3, g4, g5, g6⟩ => ?_
    subst h1 h2 h3 h4 h5
    exact ⟨fd, ps, ds, dvs, g2.kp, g3, g4, g5, fun i hi => fn_step g2 g6 (g1 i hi) t.hl fun Y e1 e2 e3 e4 e5 => ih Y e1 e2 e3 e4 e5⟩
/-- the law's promise -/
def spLaw (K : PySem.W.Frag) (cf : Cf) (i : Nat) : Sp := spC K cf i
theorem law_sp {K : PySem.W.Frag} {cf : Cf} {i : Nat} {ns : List Int} {a : Addr} {H : Hp} {R' : Sto} {E : XK} (h : cf i [.scr (ns.map D.int)] [] = .ok (.val (.bl true)) R') (hS : SqL K H a (ns.map V.int)) : spC K cf i [.ref a] H (fun v _ => v = .bl true) E := by
  have den : ∀ l : List Int, DenL K H (l.map D.int) (l.map V.int) := fun l => by
    induction l with
    | nil => exact .nil
    | cons x l ih => exact .cons (.int x) ih
  refine ⟨_, fun _ _ => 0, [], [], H, _, _, h, .cons (.inr (.scr hS (den ns))) .nil, ⟨.refl H, fun j i o e => ?_, fun j i j' i' l => ?_, fun q hq => ?_, List.nodup_nil⟩, fun v F' H' e r hv => ?_⟩
  · unfold sget at e
    simp at e
  · obtain ⟨o, e, _⟩ := l
    unfold sget at e
    simp at e
  · cases hq
  · exact Vr.bl hv
end
end EV

namespace K03
open PySem PySem.Spec PyProof.Rows L2 EV

def top (i : Nat) : Stmt := PySem.Challenge.pw_signfours_k03_whole_signs_by_local_looks.main.body.getD i (.Pass ⟨0, 0, 0, 0⟩)
/-- is_whole -/
abbrev st0 : Stmt := top 3
def N0 : List Str := ["value"]
def P0 : List Str := ["value"]
def c0 : S :=
    (.seq (.ret (.andE (.isi (.var 0) .int) (.notE (.isi (.var 0) .bool))))
    .nop)
def f0 : Fn := ⟨1, 1, 0, c0⟩
/-- is_number -/
abbrev st1 : Stmt := top 6
def N1 : List Str := ["value"]
def P1 : List Str := ["value"]
def c1 : S :=
    (.seq (.ret (.andE (.call 0 (.cons (.var 0) .nil)) (.andE (.cmp .NotEq (.var 0) (.lit (.int 0))) (.chn .LtE .LtE (.neg (.glob 0 (.int 1000000000))) (.var 0) (.glob 0 (.int 1000000000))))))
    .nop)
def f1 : Fn := ⟨1, 1, 0, c1⟩
/-- require_number -/
abbrev st2 : Stmt := top 7
def N2 : List Str := ["value"]
def P2 : List Str := ["value"]
def c2 : S :=
    (.seq (.ifS (.notE (.call 1 (.cons (.var 0) .nil)))
      (.seq .never
      .nop)
      .nop)
    .nop)
def f2 : Fn := ⟨1, 1, 0, c2⟩
/-- least_factor -/
abbrev st3 : Stmt := top 8
def N3 : List Str := ["number", "factor"]
def P3 : List Str := ["number"]
def c3 : S :=
    (.seq (.ifS (.cmp .Eq (.bin .Mod (.var 0) (.lit (.int 2))) (.lit (.int 0)))
      (.seq (.ret (.lit (.int 2)))
      .nop)
      .nop)
    (.seq (.asg 1 (.lit (.int 3)))
    (.seq (.whl (.cmp .LtE (.bin .Mult (.var 1) (.var 1)) (.var 0))
      (.seq (.ifS (.cmp .Eq (.bin .Mod (.var 0) (.var 1)) (.lit (.int 0)))
        (.seq (.ret (.var 1))
        .nop)
        .nop)
      (.seq (.aug 1 .Add (.lit (.int 2)))
      .nop)))
    (.seq (.ret (.var 0))
    .nop))))
def f3 : Fn := ⟨1, 2, 0, c3⟩
/-- is_prime -/
abbrev st4 : Stmt := top 9
def N4 : List Str := ["value"]
def P4 : List Str := ["value"]
def c4 : S :=
    (.seq (.ret (.andE (.call 0 (.cons (.var 0) .nil)) (.andE (.chn .LtE .LtE (.lit (.int 2)) (.var 0) (.glob 0 (.int 1000000000))) (.cmp .Eq (.call 3 (.cons (.var 0) .nil)) (.var 0)))))
    .nop)
def f4 : Fn := ⟨1, 1, 0, c4⟩
/-- power_rest -/
abbrev st5 : Stmt := top 10
def N5 : List Str := ["base", "exponent", "modulus", "found", "factor", "left"]
def P5 : List Str := ["base", "exponent", "modulus"]
def c5 : S :=
    (.seq (.par3 3 4 5 (.bin .Mod (.lit (.int 1)) (.var 2)) (.bin .Mod (.var 0) (.var 2)) (.var 1))
    (.seq (.whl (.cmp .Gt (.var 5) (.lit (.int 0)))
      (.seq (.ifS (.cmp .Eq (.bin .Mod (.var 5) (.lit (.int 2))) (.lit (.int 1)))
        (.seq (.asg 3 (.bin .Mod (.bin .Mult (.var 3) (.var 4)) (.var 2)))
        .nop)
        .nop)
      (.seq (.asg 4 (.bin .Mod (.bin .Mult (.var 4) (.var 4)) (.var 2)))
      (.seq (.aug 5 .FloorDiv (.lit (.int 2)))
      .nop))))
    (.seq (.ret (.var 3))
    .nop)))
def f5 : Fn := ⟨3, 6, 0, c5⟩
/-- residue_sign_of -/
abbrev st6 : Stmt := top 11
def N6 : List Str := ["number", "prime"]
def P6 : List Str := ["number", "prime"]
def c6 : S :=
    (.seq (.ifS (.cmp .Eq (.bin .Mod (.var 0) (.var 1)) (.lit (.int 0)))
      (.seq (.ret (.lit (.int 0)))
      .nop)
      .nop)
    (.seq (.ifS (.cmp .Eq (.var 1) (.lit (.int 2)))
      (.seq (.ret (.ife (.cmp .In (.bin .Mod (.var 0) (.lit (.int 8))) (.tup (.cons (.lit (.int 1)) (.cons (.lit (.int 7)) .nil)))) (.lit (.int 1)) (.neg (.lit (.int 1)))))
      .nop)
      .nop)
    (.seq (.ret (.ife (.cmp .Eq (.call 5 (.cons (.var 0) (.cons (.bin .FloorDiv (.bin .Sub (.var 1) (.lit (.int 1))) (.lit (.int 2))) (.cons (.var 1) .nil)))) (.lit (.int 1))) (.lit (.int 1)) (.neg (.lit (.int 1)))))
    .nop)))
def f6 : Fn := ⟨2, 2, 0, c6⟩
/-- parted_by -/
abbrev st7 : Stmt := top 12
def N7 : List Str := ["number", "prime", "many", "left"]
def P7 : List Str := ["number", "prime"]
def c7 : S :=
    (.seq (.par2 2 3 none none (.lit (.int 0)) (.var 0))
    (.seq (.whl (.cmp .Eq (.bin .Mod (.var 3) (.var 1)) (.lit (.int 0)))
      (.seq (.par2 2 3 none none (.bin .Add (.var 2) (.lit (.int 1))) (.bin .FloorDiv (.var 3) (.var 1)))
      .nop))
    (.seq (.ret (.tup (.cons (.var 2) (.cons (.var 3) .nil))))
    .nop)))
def f7 : Fn := ⟨2, 4, 0, c7⟩
/-- is_place -/
abbrev st8 : Stmt := top 15
def N8 : List Str := ["value"]
def P8 : List Str := ["value"]
def c8 : S :=
    (.seq (.ret (.andE (.call 0 (.cons (.var 0) .nil)) (.orE (.cmp .Eq (.var 0) (.glob 1 (.int 0))) (.call 4 (.cons (.var 0) .nil)))))
    .nop)
def f8 : Fn := ⟨1, 1, 0, c8⟩
/-- require_place -/
abbrev st9 : Stmt := top 16
def N9 : List Str := ["value"]
def P9 : List Str := ["value"]
def c9 : S :=
    (.seq (.ifS (.notE (.call 8 (.cons (.var 0) .nil)))
      (.seq .never
      .nop)
      .nop)
    .nop)
def f9 : Fn := ⟨1, 1, 0, c9⟩
/-- sign_by_two -/
abbrev st10 : Stmt := top 17
def N10 : List Str := ["left", "right", "many_left", "many_right", "both", "found"]
def P10 : List Str := ["left", "right", "many_left", "many_right"]
def c10 : S :=
    (.seq (.asg 4 (.bin .Mult (.bin .FloorDiv (.bin .Sub (.var 0) (.lit (.int 1))) (.lit (.int 2))) (.bin .FloorDiv (.bin .Sub (.var 1) (.lit (.int 1))) (.lit (.int 2)))))
    (.seq (.asg 5 (.bin .Add (.bin .Add (.var 4) (.bin .Mult (.var 2) (.bin .FloorDiv (.bin .Sub (.bin .Mult (.var 1) (.var 1)) (.lit (.int 1))) (.lit (.int 8))))) (.bin .Mult (.var 3) (.bin .FloorDiv (.bin .Sub (.bin .Mult (.var 0) (.var 0)) (.lit (.int 1))) (.lit (.int 8))))))
    (.seq (.ret (.ife (.cmp .Eq (.bin .Mod (.var 5) (.lit (.int 2))) (.lit (.int 0))) (.lit (.int 1)) (.neg (.lit (.int 1)))))
    .nop)))
def f10 : Fn := ⟨4, 6, 0, c10⟩
/-- sign_by_prime -/
abbrev st11 : Stmt := top 18
def N11 : List Str := ["a", "b", "prime", "many_left", "left", "many_right", "right", "found"]
def P11 : List Str := ["a", "b", "prime"]
def c11 : S :=
    (.seq (.unp [3, 4] (.call 7 (.cons (.var 0) (.cons (.var 2) .nil))))
    (.seq (.unp [5, 6] (.call 7 (.cons (.var 1) (.cons (.var 2) .nil))))
    (.seq (.ifS (.cmp .Eq (.var 2) (.lit (.int 2)))
      (.seq (.ret (.call 10 (.cons (.var 4) (.cons (.var 6) (.cons (.var 3) (.cons (.var 5) .nil))))))
      .nop)
      .nop)
    (.seq (.asg 7 (.ife (.cmp .Eq (.bin .Mod (.bin .Mult (.var 3) (.var 5)) (.lit (.int 2))) (.lit (.int 1))) (.call 6 (.cons (.neg (.lit (.int 1))) (.cons (.var 2) .nil))) (.lit (.int 1))))
    (.seq (.aug 7 .Mult (.ife (.cmp .Eq (.bin .Mod (.var 5) (.lit (.int 2))) (.lit (.int 1))) (.call 6 (.cons (.var 4) (.cons (.var 2) .nil))) (.lit (.int 1))))
    (.seq (.ret (.bin .Mult (.var 7) (.ife (.cmp .Eq (.bin .Mod (.var 3) (.lit (.int 2))) (.lit (.int 1))) (.call 6 (.cons (.var 6) (.cons (.var 2) .nil))) (.lit (.int 1)))))
    .nop))))))
def f11 : Fn := ⟨3, 8, 0, c11⟩
/-- sign_of -/
abbrev st12 : Stmt := top 19
def N12 : List Str := ["a", "b", "place"]
def P12 : List Str := ["a", "b", "place"]
def c12 : S :=
    (.seq (.ifS (.cmp .Eq (.var 2) (.glob 1 (.int 0)))
      (.seq (.ret (.ife (.andE (.cmp .Lt (.var 0) (.lit (.int 0))) (.cmp .Lt (.var 1) (.lit (.int 0)))) (.neg (.lit (.int 1))) (.lit (.int 1))))
      .nop)
      .nop)
    (.seq (.ret (.call 11 (.cons (.var 0) (.cons (.var 1) (.cons (.var 2) .nil)))))
    .nop))
def f12 : Fn := ⟨3, 3, 0, c12⟩
/-- sign_at -/
abbrev st13 : Stmt := top 20
def N13 : List Str := ["a", "b", "place"]
def P13 : List Str := ["a", "b", "place"]
def c13 : S :=
    (.seq (.expr (.call 2 (.cons (.var 0) .nil)))
    (.seq (.expr (.call 2 (.cons (.var 1) .nil)))
    (.seq (.expr (.call 9 (.cons (.var 2) .nil)))
    (.seq (.ret (.call 12 (.cons (.var 0) (.cons (.var 1) (.cons (.var 2) .nil)))))
    .nop))))
def f13 : Fn := ⟨3, 3, 0, c13⟩
/-- _law_sack -/
abbrev st14 : Stmt := top 22
def N14 : List Str := ["_law_script", "_law_turn", "_law_cell", "_law_great"]
def P14 : List Str := ["_law_script", "_law_turn"]
def c14 : S :=
    (.seq (.asg 2 (.ife (.cmp .Lt (.var 1) (.blt .len (.cons (.var 0) .nil))) (.blt .int1 (.cons (.sub (.var 0) (.var 1)) .nil)) (.bin .Add (.bin .Add (.bin .Mult (.lit (.int 1777)) (.var 1)) (.lit (.int 83))) (.bin .Mod (.blt .int1 (.cons (.blt .sum (.cons (.slc (.var 0) (.lit .non) (.lit (.int 1))) .nil)) .nil)) (.lit (.int 1000003))))))
    (.seq (.asg 3 (.bin .Mod (.blt .abs (.cons (.var 2) .nil)) (.bin .Pow (.bin .Pow (.lit (.int 10)) (.lit (.int 58))) (.lit (.int 5)))))
    (.seq (.ret (.lst (.cons (.blt .max2 (.cons (.lit (.int 0)) (.cons (.bin .Sub (.var 3) (.bin .Pow (.lit (.int 10)) (.lit (.int 16)))) .nil))) (.cons (.bin .Add (.bin .Add (.bin .Add (.bin .Mult (.bin .Mod (.var 3) (.lit (.int 1000000000061))) (.lit (.int 83))) (.bin .Mult (.lit (.int 967)) (.var 1))) (.bin .Mult (.lit (.int 17)) (.blt .int1 (.cons (.cmp .Lt (.var 2) (.lit (.int 0))) .nil)))) (.lit (.int 13))) (.cons (.lit (.int 0)) .nil)))))
    .nop)))
def f14 : Fn := ⟨2, 4, 0, c14⟩
/-- _law_take -/
abbrev st15 : Stmt := top 23
def N15 : List Str := ["_law_sack_here", "_law_many", "_law_found", "_law_one", "_law_two"]
def P15 : List Str := ["_law_sack_here", "_law_many"]
def c15 : S :=
    (.seq (.ifS (.cmp .Gt (.sub (.var 0) (.lit (.int 0))) (.lit (.int 0)))
      (.seq (.asg 2 (.bin .Mod (.blt .int1 (.cons (.sub (.var 0) (.lit (.int 0))) .nil)) (.var 1)))
      (.seq (.sets (.var 0) (.lit (.int 0)) (.bin .FloorDiv (.blt .int1 (.cons (.sub (.var 0) (.lit (.int 0))) .nil)) (.var 1)))
      (.seq (.ret (.var 2))
      .nop)))
      .nop)
    (.seq (.sets (.var 0) (.lit (.int 2)) (.bin .Add (.sub (.var 0) (.lit (.int 2))) (.lit (.int 1))))
    (.seq (.asg 3 (.bin .Mod (.blt .int1 (.cons (.bin .Add (.sub (.var 0) (.lit (.int 1))) (.bin .Mult (.lit (.int 141650939)) (.sub (.var 0) (.lit (.int 2))))) .nil)) (.lit (.int 2305843009213693951))))
    (.seq (.asg 4 (.bin .Mod (.blt .int1 (.cons (.bin .Add (.bin .Add (.bin .Mult (.var 3) (.var 3)) (.bin .Mult (.lit (.int 86028157)) (.sub (.var 0) (.lit (.int 2))))) (.lit (.int 5))) .nil)) (.lit (.int 1152921504606846883))))
    (.seq (.ret (.bin .Mod (.blt .int1 (.cons (.bin .FloorDiv (.bin .Mult (.var 4) (.bin .Add (.bin .Mod (.var 3) (.lit (.int 1021))) (.lit (.int 9)))) (.lit (.int 4093))) .nil)) (.var 1)))
    .nop)))))
def f15 : Fn := ⟨2, 5, 0, c15⟩
/-- _law_one_of -/
abbrev st16 : Stmt := top 24
def N16 : List Str := ["_law_sack_here", "_law_items"]
def P16 : List Str := ["_law_sack_here", "_law_items"]
def c16 : S :=
    (.seq (.ret (.sub (.var 1) (.call 15 (.cons (.var 0) (.cons (.blt .len (.cons (.var 1) .nil)) .nil)))))
    .nop)
def f16 : Fn := ⟨2, 2, 0, c16⟩
/-- _law_sign -/
abbrev st17 : Stmt := top 26
def N17 : List Str := ["_law_number_here", "_law_prime", "_law_rest", "_law_one"]
def P17 : List Str := ["_law_number_here", "_law_prime"]
def c17 : S :=
    (.seq (.asg 2 (.bin .Mod (.blt .int1 (.cons (.var 0) .nil)) (.var 1)))
    (.seq (.ifS (.cmp .Eq (.var 2) (.lit (.int 0)))
      (.seq (.ret (.lit (.int 0)))
      .nop)
      .nop)
    (.seq (.ifS (.cmp .Eq (.var 1) (.lit (.int 2)))
      (.seq (.ret (.ife (.cmp .In (.bin .Mod (.blt .int1 (.cons (.var 0) .nil)) (.lit (.int 8))) (.tup (.cons (.lit (.int 1)) (.cons (.lit (.int 7)) .nil)))) (.lit (.int 1)) (.neg (.lit (.int 1)))))
      .nop)
      .nop)
    (.seq (.ret (.ife (.cmp .In (.var 2) (.comp (.bin .Mod (.blt .int1 (.cons (.bin .Mult (.var 3) (.var 3)) .nil)) (.var 1)) [3] (.rng2 (.lit (.int 1)) (.var 1)) (.lit (.bl true)))) (.lit (.int 1)) (.neg (.lit (.int 1)))))
    .nop))))
def f17 : Fn := ⟨2, 4, 0, c17⟩
/-- _law_parted -/
abbrev st18 : Stmt := top 27
def N18 : List Str := ["_law_number_here", "_law_prime", "_law_many", "_law_left", "_law_turn"]
def P18 : List Str := ["_law_number_here", "_law_prime"]
def c18 : S :=
    (.seq (.par2 2 3 none none (.lit (.int 0)) (.blt .int1 (.cons (.var 0) .nil)))
    (.seq (.forS [4] (.rng1 (.lit (.int 200)))
      (.seq (.ifS (.cmp .NotEq (.bin .Mod (.var 3) (.var 1)) (.lit (.int 0)))
        (.seq .brk
        .nop)
        .nop)
      (.seq (.par2 2 3 none none (.bin .Add (.var 2) (.lit (.int 1))) (.bin .FloorDiv (.var 3) (.var 1)))
      .nop)))
    (.seq (.ret (.tup (.cons (.var 2) (.cons (.var 3) .nil))))
    .nop)))
def f18 : Fn := ⟨2, 5, 0, c18⟩
/-- _law_own_sign -/
abbrev st19 : Stmt := top 28
def N19 : List Str := ["_law_a", "_law_b", "_law_place", "_law_s", "_law_left", "_law_t", "_law_right", "_law_odd", "_law_found"]
def P19 : List Str := ["_law_a", "_law_b", "_law_place"]
def c19 : S :=
    (.seq (.ifS (.cmp .Eq (.var 2) (.lit (.int 0)))
      (.seq (.ret (.ife (.andE (.cmp .Lt (.var 0) (.lit (.int 0))) (.cmp .Lt (.var 1) (.lit (.int 0)))) (.neg (.lit (.int 1))) (.lit (.int 1))))
      .nop)
      .nop)
    (.seq (.unp [3, 4] (.call 18 (.cons (.var 0) (.cons (.var 2) .nil))))
    (.seq (.unp [5, 6] (.call 18 (.cons (.var 1) (.cons (.var 2) .nil))))
    (.seq (.ifS (.cmp .Eq (.var 2) (.lit (.int 2)))
      (.seq (.asg 7 (.bin .Add (.bin .Add (.bin .Mult (.bin .FloorDiv (.bin .Sub (.var 4) (.lit (.int 1))) (.lit (.int 2))) (.bin .FloorDiv (.bin .Sub (.var 6) (.lit (.int 1))) (.lit (.int 2)))) (.bin .Mult (.var 3) (.bin .FloorDiv (.bin .Sub (.bin .Mult (.var 6) (.var 6)) (.lit (.int 1))) (.lit (.int 8))))) (.bin .Mult (.var 5) (.bin .FloorDiv (.bin .Sub (.bin .Mult (.var 4) (.var 4)) (.lit (.int 1))) (.lit (.int 8))))))
      (.seq (.ret (.ife (.cmp .Eq (.bin .Mod (.var 7) (.lit (.int 2))) (.lit (.int 0))) (.lit (.int 1)) (.neg (.lit (.int 1)))))
      .nop))
      .nop)
    (.seq (.asg 8 (.ife (.cmp .Eq (.bin .Mod (.bin .Mult (.var 3) (.var 5)) (.lit (.int 2))) (.lit (.int 1))) (.call 17 (.cons (.neg (.lit (.int 1))) (.cons (.var 2) .nil))) (.lit (.int 1))))
    (.seq (.asg 8 (.bin .Mult (.var 8) (.ife (.cmp .Eq (.bin .Mod (.var 5) (.lit (.int 2))) (.lit (.int 1))) (.call 17 (.cons (.var 4) (.cons (.var 2) .nil))) (.lit (.int 1)))))
    (.seq (.ret (.bin .Mult (.var 8) (.ife (.cmp .Eq (.bin .Mod (.var 3) (.lit (.int 2))) (.lit (.int 1))) (.call 17 (.cons (.var 6) (.cons (.var 2) .nil))) (.lit (.int 1)))))
    .nop)))))))
def f19 : Fn := ⟨3, 9, 0, c19⟩
/-- _law_bare -/
abbrev st20 : Stmt := top 29
def N20 : List Str := ["_law_number_here", "_law_found", "_law_prime", "_law_turn"]
def P20 : List Str := ["_law_number_here"]
def c20 : S :=
    (.seq (.asg 1 (.blt .int1 (.cons (.var 0) .nil)))
    (.seq (.forS [2] (.tup (.cons (.lit (.int 2)) (.cons (.lit (.int 3)) (.cons (.lit (.int 5)) (.cons (.lit (.int 7)) .nil)))))
      (.seq (.forS [3] (.rng1 (.lit (.int 40)))
        (.seq (.ifS (.cmp .NotEq (.bin .Mod (.var 1) (.bin .Mult (.var 2) (.var 2))) (.lit (.int 0)))
          (.seq .brk
          .nop)
          .nop)
        (.seq (.asg 1 (.bin .FloorDiv (.var 1) (.bin .Mult (.var 2) (.var 2))))
        .nop)))
      .nop))
    (.seq (.ret (.var 1))
    .nop)))
def f20 : Fn := ⟨1, 4, 0, c20⟩
/-- _law_through_all -/
abbrev st21 : Stmt := top 30
def N21 : List Str := ["_law_a", "_law_b", "_law_prime", "_law_power", "_law_roots", "_law_z", "_law_rest", "_law_x", "_law_y"]
def P21 : List Str := ["_law_a", "_law_b", "_law_prime"]
def c21 : S :=
    (.seq (.asg 3 (.ife (.cmp .Eq (.var 2) (.lit (.int 2))) (.lit (.int 32)) (.bin .Mult (.var 2) (.var 2))))
    (.seq (.asgN 4 0 .dnew)
    (.seq (.forS [5] (.rng1 (.var 3))
      (.seq (.asg 6 (.bin .Mod (.blt .int1 (.cons (.bin .Mult (.var 5) (.var 5)) .nil)) (.var 3)))
      (.seq (.sets (.var 4) (.var 6) (.bin .Add (.dget (.var 4) (.var 6) (.lst .nil)) (.lst (.cons (.var 5) .nil))))
      .nop)))
    (.seq (.forS [7] (.rng1 (.var 3))
      (.seq (.forS [8] (.rng1 (.var 3))
        (.seq (.forS [5] (.dget (.var 4) (.bin .Mod (.blt .int1 (.cons (.bin .Add (.bin .Mult (.bin .Mult (.var 0) (.var 7)) (.var 7)) (.bin .Mult (.bin .Mult (.var 1) (.var 8)) (.var 8))) .nil)) (.var 3)) (.lst .nil))
          (.seq (.ifS (.orE (.cmp .NotEq (.bin .Mod (.var 7) (.var 2)) (.lit (.int 0))) (.orE (.cmp .NotEq (.bin .Mod (.var 8) (.var 2)) (.lit (.int 0))) (.cmp .NotEq (.bin .Mod (.var 5) (.var 2)) (.lit (.int 0)))))
            (.seq (.ret (.lit (.bl true)))
            .nop)
            .nop)
          .nop))
        .nop))
      .nop))
    (.seq (.ret (.lit (.bl false)))
    .nop)))))
def f21 : Fn := ⟨3, 9, 1, c21⟩
/-- _law_number -/
abbrev st22 : Stmt := top 31
def N22 : List Str := ["_law_sack_here", "_law_found", "_law_turn"]
def P22 : List Str := ["_law_sack_here"]
def c22 : S :=
    (.seq (.asg 1 (.bin .Mult (.call 16 (.cons (.var 0) (.cons (.lst (.cons (.lit (.int 1)) (.cons (.neg (.lit (.int 1))) .nil))) .nil))) (.bin .Add (.lit (.int 1)) (.call 15 (.cons (.var 0) (.cons (.lit (.int 12)) .nil))))))
    (.seq (.forS [2] (.rng1 (.call 15 (.cons (.var 0) (.cons (.lit (.int 5)) .nil))))
      (.seq (.asg 1 (.bin .Mult (.var 1) (.call 16 (.cons (.var 0) (.cons (.lst (.cons (.lit (.int 2)) (.cons (.lit (.int 3)) (.cons (.lit (.int 5)) (.cons (.lit (.int 7)) (.cons (.lit (.int 2)) (.cons (.lit (.int 4)) (.cons (.lit (.int 9)) .nil)))))))) .nil)))))
      .nop))
    (.seq (.ret (.var 1))
    .nop)))
def f22 : Fn := ⟨1, 3, 0, c22⟩
/-- law -/
abbrev st23 : Stmt := top 32
def N23 : List Str := ["_law_script", "_law_turn", "_law_sack_here", "_law_a", "_law_b", "_law_place", "_law_prime"]
def P23 : List Str := ["_law_script"]
def c23 : S :=
    (.seq (.forS [1] (.rng1 (.blt .max2 (.cons (.lit (.int 1)) (.cons (.blt .min2 (.cons (.lit (.int 2)) (.cons (.blt .len (.cons (.var 0) .nil)) .nil))) .nil))))
      (.seq (.asgN 2 0 (.call 14 (.cons (.var 0) (.cons (.var 1) .nil))))
      (.seq (.par2 3 4 none none (.call 22 (.cons (.var 2) .nil)) (.call 22 (.cons (.var 2) .nil)))
      (.seq (.forS [5] (.tup (.cons (.lit (.int 0)) (.cons (.lit (.int 2)) (.cons (.lit (.int 3)) (.cons (.lit (.int 5)) (.cons (.lit (.int 7)) .nil))))))
        (.seq (.ifS (.orE (.cmp .NotEq (.call 13 (.cons (.var 3) (.cons (.var 4) (.cons (.var 5) .nil)))) (.call 19 (.cons (.var 3) (.cons (.var 4) (.cons (.var 5) .nil))))) (.cmp .NotEq (.call 13 (.cons (.var 4) (.cons (.var 3) (.cons (.var 5) .nil)))) (.call 13 (.cons (.var 3) (.cons (.var 4) (.cons (.var 5) .nil))))))
          (.seq (.ret (.lit (.bl false)))
          .nop)
          .nop)
        .nop))
      (.seq (.asg 6 (.call 16 (.cons (.var 2) (.cons (.lst (.cons (.lit (.int 2)) (.cons (.lit (.int 3)) (.cons (.lit (.int 5)) (.cons (.lit (.int 3)) .nil))))) .nil))))
      (.seq (.ifS (.cmp .NotEq (.cmp .Eq (.call 13 (.cons (.var 3) (.cons (.var 4) (.cons (.var 6) .nil)))) (.lit (.int 1))) (.call 21 (.cons (.call 20 (.cons (.var 3) .nil)) (.cons (.call 20 (.cons (.var 4) .nil)) (.cons (.var 6) .nil)))))
        (.seq (.ret (.lit (.bl false)))
        .nop)
        .nop)
      .nop))))))
    (.seq (.ret (.cmp .Eq (.lst (.cons (.call 13 (.cons (.lit (.int 3)) (.cons (.lit (.int 7)) (.cons (.lit (.int 3)) .nil)))) (.cons (.call 13 (.cons (.lit (.int 3)) (.cons (.lit (.int 7)) (.cons (.lit (.int 7)) .nil)))) (.cons (.call 13 (.cons (.neg (.lit (.int 1))) (.cons (.neg (.lit (.int 1))) (.cons (.lit (.int 0)) .nil)))) (.cons (.call 13 (.cons (.neg (.lit (.int 1))) (.cons (.neg (.lit (.int 1))) (.cons (.lit (.int 2)) .nil)))) (.cons (.call 13 (.cons (.lit (.int 2)) (.cons (.lit (.int 5)) (.cons (.lit (.int 2)) .nil)))) .nil)))))) (.lst (.cons (.lit (.int 1)) (.cons (.neg (.lit (.int 1))) (.cons (.neg (.lit (.int 1))) (.cons (.neg (.lit (.int 1))) (.cons (.neg (.lit (.int 1))) .nil))))))))
    .nop))
def f23 : Fn := ⟨1, 7, 1, c23⟩
def Fs : Tab := { fns := [f0, f1, f2, f3, f4, f5, f6, f7, f8, f9, f10, f11, f12, f13, f14, f15, f16, f17, f18, f19, f20, f21, f22, f23] }
def T : Tb := { fnm := ["is_whole", "is_number", "require_number", "least_factor", "is_prime", "power_rest", "residue_sign_of", "parted_by", "is_place", "require_place", "sign_by_two", "sign_by_prime", "sign_of", "sign_at", "_law_sack", "_law_take", "_law_one_of", "_law_sign", "_law_parted", "_law_own_sign", "_law_bare", "_law_through_all", "_law_number", "law"], gnm := ["MAX_NUMBER", "REAL"], gval := [(.int 1000000000), (.int 0)], bnm := ["isinstance", "int", "bool", "len", "sum", "abs", "max", "range", "min"], dfl := [] }
theorem sc0 : FnScope N0 P0 (defScope st0) := ⟨rfl, rfl, rfl, by decide +kernel, rfl, by decide +kernel, by decide +kernel⟩
theorem ck0 : chkS T c0 (defScope st0) N0 (defBody st0) = true := by decide +kernel
theorem ok0 : DefOk T f0 N0 P0 st0 := ⟨rfl, rfl, sc0, ck0⟩
theorem sc1 : FnScope N1 P1 (defScope st1) := ⟨rfl, rfl, rfl, by decide +kernel, rfl, by decide +kernel, by decide +kernel⟩
theorem ck1 : chkS T c1 (defScope st1) N1 (defBody st1) = true := by decide +kernel
theorem ok1 : DefOk T f1 N1 P1 st1 := ⟨rfl, rfl, sc1, ck1⟩
theorem sc2 : FnScope N2 P2 (defScope st2) := ⟨rfl, rfl, rfl, by decide +kernel, rfl, by decide +kernel, by decide +kernel⟩
theorem ck2 : chkS T c2 (defScope st2) N2 (defBody st2) = true := by decide +kernel
theorem ok2 : DefOk T f2 N2 P2 st2 := ⟨rfl, rfl, sc2, ck2⟩
theorem sc3 : FnScope N3 P3 (defScope st3) := ⟨rfl, rfl, rfl, by decide +kernel, rfl, by decide +kernel, by decide +kernel⟩
theorem ck3 : chkS T c3 (defScope st3) N3 (defBody st3) = true := by decide +kernel
theorem ok3 : DefOk T f3 N3 P3 st3 := ⟨rfl, rfl, sc3, ck3⟩
theorem sc4 : FnScope N4 P4 (defScope st4) := ⟨rfl, rfl, rfl, by decide +kernel, rfl, by decide +kernel, by decide +kernel⟩
theorem ck4 : chkS T c4 (defScope st4) N4 (defBody st4) = true := by decide +kernel
theorem ok4 : DefOk T f4 N4 P4 st4 := ⟨rfl, rfl, sc4, ck4⟩
theorem sc5 : FnScope N5 P5 (defScope st5) := ⟨rfl, rfl, rfl, by decide +kernel, rfl, by decide +kernel, by decide +kernel⟩
theorem ck5 : chkS T c5 (defScope st5) N5 (defBody st5) = true := by decide +kernel
theorem ok5 : DefOk T f5 N5 P5 st5 := ⟨rfl, rfl, sc5, ck5⟩
theorem sc6 : FnScope N6 P6 (defScope st6) := ⟨rfl, rfl, rfl, by decide +kernel, rfl, by decide +kernel, by decide +kernel⟩
theorem ck6 : chkS T c6 (defScope st6) N6 (defBody st6) = true := by decide +kernel
theorem ok6 : DefOk T f6 N6 P6 st6 := ⟨rfl, rfl, sc6, ck6⟩
theorem sc7 : FnScope N7 P7 (defScope st7) := ⟨rfl, rfl, rfl, by decide +kernel, rfl, by decide +kernel, by decide +kernel⟩
theorem ck7 : chkS T c7 (defScope st7) N7 (defBody st7) = true := by decide +kernel
theorem ok7 : DefOk T f7 N7 P7 st7 := ⟨rfl, rfl, sc7, ck7⟩
theorem sc8 : FnScope N8 P8 (defScope st8) := ⟨rfl, rfl, rfl, by decide +kernel, rfl, by decide +kernel, by decide +kernel⟩
theorem ck8 : chkS T c8 (defScope st8) N8 (defBody st8) = true := by decide +kernel
theorem ok8 : DefOk T f8 N8 P8 st8 := ⟨rfl, rfl, sc8, ck8⟩
theorem sc9 : FnScope N9 P9 (defScope st9) := ⟨rfl, rfl, rfl, by decide +kernel, rfl, by decide +kernel, by decide +kernel⟩
theorem ck9 : chkS T c9 (defScope st9) N9 (defBody st9) = true := by decide +kernel
theorem ok9 : DefOk T f9 N9 P9 st9 := ⟨rfl, rfl, sc9, ck9⟩
theorem sc10 : FnScope N10 P10 (defScope st10) := ⟨rfl, rfl, rfl, by decide +kernel, rfl, by decide +kernel, by decide +kernel⟩
theorem ck10 : chkS T c10 (defScope st10) N10 (defBody st10) = true := by decide +kernel
theorem ok10 : DefOk T f10 N10 P10 st10 := ⟨rfl, rfl, sc10, ck10⟩
theorem sc11 : FnScope N11 P11 (defScope st11) := ⟨rfl, rfl, rfl, by decide +kernel, rfl, by decide +kernel, by decide +kernel⟩
theorem ck11 : chkS T c11 (defScope st11) N11 (defBody st11) = true := by decide +kernel
theorem ok11 : DefOk T f11 N11 P11 st11 := ⟨rfl, rfl, sc11, ck11⟩
theorem sc12 : FnScope N12 P12 (defScope st12) := ⟨rfl, rfl, rfl, by decide +kernel, rfl, by decide +kernel, by decide +kernel⟩
theorem ck12 : chkS T c12 (defScope st12) N12 (defBody st12) = true := by decide +kernel
theorem ok12 : DefOk T f12 N12 P12 st12 := ⟨rfl, rfl, sc12, ck12⟩
theorem sc13 : FnScope N13 P13 (defScope st13) := ⟨rfl, rfl, rfl, by decide +kernel, rfl, by decide +kernel, by decide +kernel⟩
theorem ck13 : chkS T c13 (defScope st13) N13 (defBody st13) = true := by decide +kernel
theorem ok13 : DefOk T f13 N13 P13 st13 := ⟨rfl, rfl, sc13, ck13⟩
theorem sc14 : FnScope N14 P14 (defScope st14) := ⟨rfl, rfl, rfl, by decide +kernel, rfl, by decide +kernel, by decide +kernel⟩
theorem ck14 : chkS T c14 (defScope st14) N14 (defBody st14) = true := by decide +kernel
theorem ok14 : DefOk T f14 N14 P14 st14 := ⟨rfl, rfl, sc14, ck14⟩
theorem sc15 : FnScope N15 P15 (defScope st15) := ⟨rfl, rfl, rfl, by decide +kernel, rfl, by decide +kernel, by decide +kernel⟩
theorem ck15 : chkS T c15 (defScope st15) N15 (defBody st15) = true := by decide +kernel
theorem ok15 : DefOk T f15 N15 P15 st15 := ⟨rfl, rfl, sc15, ck15⟩
theorem sc16 : FnScope N16 P16 (defScope st16) := ⟨rfl, rfl, rfl, by decide +kernel, rfl, by decide +kernel, by decide +kernel⟩
theorem ck16 : chkS T c16 (defScope st16) N16 (defBody st16) = true := by decide +kernel
theorem ok16 : DefOk T f16 N16 P16 st16 := ⟨rfl, rfl, sc16, ck16⟩
theorem sc17 : FnScope N17 P17 (defScope st17) := ⟨rfl, rfl, rfl, by decide +kernel, rfl, by decide +kernel, by decide +kernel⟩
theorem ck17 : chkS T c17 (defScope st17) N17 (defBody st17) = true := by decide +kernel
theorem ok17 : DefOk T f17 N17 P17 st17 := ⟨rfl, rfl, sc17, ck17⟩
theorem sc18 : FnScope N18 P18 (defScope st18) := ⟨rfl, rfl, rfl, by decide +kernel, rfl, by decide +kernel, by decide +kernel⟩
theorem ck18 : chkS T c18 (defScope st18) N18 (defBody st18) = true := by decide +kernel
theorem ok18 : DefOk T f18 N18 P18 st18 := ⟨rfl, rfl, sc18, ck18⟩
theorem sc19 : FnScope N19 P19 (defScope st19) := ⟨rfl, rfl, rfl, by decide +kernel, rfl, by decide +kernel, by decide +kernel⟩
theorem ck19 : chkS T c19 (defScope st19) N19 (defBody st19) = true := by decide +kernel
theorem ok19 : DefOk T f19 N19 P19 st19 := ⟨rfl, rfl, sc19, ck19⟩
theorem sc20 : FnScope N20 P20 (defScope st20) := ⟨rfl, rfl, rfl, by decide +kernel, rfl, by decide +kernel, by decide +kernel⟩
theorem ck20 : chkS T c20 (defScope st20) N20 (defBody st20) = true := by decide +kernel
theorem ok20 : DefOk T f20 N20 P20 st20 := ⟨rfl, rfl, sc20, ck20⟩
theorem sc21 : FnScope N21 P21 (defScope st21) := ⟨rfl, rfl, rfl, by decide +kernel, rfl, by decide +kernel, by decide +kernel⟩
theorem ck21 : chkS T c21 (defScope st21) N21 (defBody st21) = true := by decide +kernel
theorem ok21 : DefOk T f21 N21 P21 st21 := ⟨rfl, rfl, sc21, ck21⟩
theorem sc22 : FnScope N22 P22 (defScope st22) := ⟨rfl, rfl, rfl, by decide +kernel, rfl, by decide +kernel, by decide +kernel⟩
theorem ck22 : chkS T c22 (defScope st22) N22 (defBody st22) = true := by decide +kernel
theorem ok22 : DefOk T f22 N22 P22 st22 := ⟨rfl, rfl, sc22, ck22⟩
theorem sc23 : FnScope N23 P23 (defScope st23) := ⟨rfl, rfl, rfl, by decide +kernel, rfl, by decide +kernel, by decide +kernel⟩
theorem ck23 : chkS T c23 (defScope st23) N23 (defBody st23) = true := by decide +kernel
theorem ok23 : DefOk T f23 N23 P23 st23 := ⟨rfl, rfl, sc23, ck23⟩
end K03

/-! EvY: equations for simp: what codes give at values partly known. -/
namespace EV
open PySem PySem.Spec PyProof.Rows L2

theorem run_succ {Fs : Tab} {lf : Nat} (n f : Nat) (as : List D) (R : Sto) : EV.run Fs lf (n + 1) f as R = match disp Fs f as R with
    | some g => match Fs.fns[g]? with
      | some d => if as.length = d.np then finR (ex (EV.run Fs lf n) lf d.code (startD d.nv as) (List.replicate d.pl .dead :: R)) else .bad
      | none => .bad
    | none => .bad := rfl
theorem run_at {Fs : Tab} {lf : Nat} (n f : Nat) (as : List D) (R : Sto) (d : Fn) (hf : f < 131072) (h : Fs.fns[f]? = some d) : EV.run Fs lf (n + 1) f as R = if as.length = d.np then finR (ex (EV.run Fs lf n) lf d.code (startD d.nv as) (List.replicate d.pl .dead :: R)) else .bad := by
  have e : disp Fs f as R = some f := if_pos hf
  rw [run_succ, e]
  dsimp only
  rw [h]
/-- a method's call is a def's -/
theorem run_mth {Fs : Tab} {lf : Nat} (n f : Nat) (x : D) (as : List D) (R : Sto) (c g : Nat) (hf : 131072 ≤ f) (hc : clsD R x = some c) (hp : (if f % 2 = 0 then pick Fs.mts c (f / 2) else pick Fs.prs c (f / 2)) = some g) (hg : g < 131072) : EV.run Fs lf n f (x :: as) R = EV.run Fs lf n g (x :: as) R := by
  cases n with
  | zero => rfl
  | succ n =>
    have e : disp Fs f (x :: as) R = some g := by
      unfold disp
      rw [if_neg (by omega)]
      dsimp only
      rw [hc]
      exact hp
    have e2 : disp Fs g (x :: as) R = some g := if_pos hg
    rw [run_succ, run_succ, e, e2]
@[simp] theorem eqOp_int (a b : Int) (R : Sto) : eqOp (.int a) (.int b) R = some (decide (a = b)) := by
  simp [eqOp, derefs, toP, SeqAt.shaped, PyData.eqv, PyData.canLay0, PyData.depth]
  rfl
@[simp] theorem eqOp_bl (a b : Bool) (R : Sto) : eqOp (.bl a) (.bl b) R = some (a == b) := by
  simp [eqOp, derefs, toP, SeqAt.shaped, PyData.eqv, PyData.canLay0, PyData.depth]
theorem mulOk_of {i j : Int} {n m : Nat} (h1 : i.natAbs < 2 ^ n) (h2 : j.natAbs < 2 ^ m) (h : n + m ≤ 1000000) : mulOk i j = true := by
  unfold mulOk
  refine decide_eq_true ?_
  have e1 : i.natAbs.log2 < n ∨ n = 0 := by
    by_cases z : i.natAbs = 0
    · rw [z]
      cases n with
      | zero => exact .inr rfl
      | succ n => exact .inl (by simp)
    · exact .inl ((Nat.log2_lt z).mpr h1)
  have e2 : j.natAbs.log2 < m ∨ m = 0 := by
    by_cases z : j.natAbs = 0
    · rw [z]
      cases m with
      | zero => exact .inr rfl
      | succ m => exact .inl (by simp)
    · exact .inl ((Nat.log2_lt z).mpr h2)
  have z1 : n = 0 → i.natAbs.log2 = 0 := fun e => by
    subst e
    have : i.natAbs = 0 := by simpa using h1
    rw [this]
    rfl
  have z2 : m = 0 → j.natAbs.log2 = 0 := fun e => by
    subst e
    have : j.natAbs = 0 := by simpa using h2
    rw [this]
    rfl
  rcases e1 with e1 | e1 <;> rcases e2 with e2 | e2
  · omega
  · have := z2 e2
    omega
  · have := z1 e1
    omega
  · have := z1 e1
    have := z2 e2
    omega
theorem divOk_of {j : Int} {m : Nat} (h1 : j.natAbs < 2 ^ m) (h : m ≤ 9000) (h0 : j ≠ 0) : divOk j = true := by
  unfold divOk
  refine decide_eq_true ⟨h0, ?_⟩
  have := (Nat.log2_lt (n := j.natAbs) (k := m) (by omega)).mpr h1
  omega
theorem natAbs_lt {i : Int} {n : Nat} (h1 : -(n : Int) < i) (h2 : i < n) : i.natAbs < n := by omega
theorem whR_t {c : En → Sto → Out Rv} {f : En → Sto → Res} {n : Nat} {σ σ2 : En} {R R1 R2 : Sto} (h1 : c σ R = .ok (.val (.bl true)) R1) (h3 : f σ R1 = .nx σ2 R2) : whR c f (n + 1) σ R = whR c f n σ2 R2 := by
  rw [whR, h1]
  simp only [bvS, fz, truth, h3]
theorem whR_f {c : En → Sto → Out Rv} {f : En → Sto → Res} {n : Nat} {σ : En} {R R1 : Sto} (h1 : c σ R = .ok (.val (.bl false)) R1) : whR c f (n + 1) σ R = .nx σ R1 := by
  rw [whR, h1]
  simp only [bvS, fz, truth]
theorem forV_nx {g : D → En → Option En} {f : En → Sto → Res} {d : D} {ds : List D} {σ σ1 σ2 : En} {R R2 : Sto} (h1 : g d σ = some σ1) (h2 : f σ1 R = .nx σ2 R2) : forV g f (d :: ds) σ R = forV g f ds σ2 R2 := by
  rw [forV, h1]
  simp only [h2]
theorem forV_ct {g : D → En → Option En} {f : En → Sto → Res} {d : D} {ds : List D} {σ σ1 σ2 : En} {R R2 : Sto} (h1 : g d σ = some σ1) (h2 : f σ1 R = .ct σ2 R2) : forV g f (d :: ds) σ R = forV g f ds σ2 R2 := by
  rw [forV, h1]
  simp only [h2]
theorem forV_bk {g : D → En → Option En} {f : En → Sto → Res} {d : D} {ds : List D} {σ σ1 σ2 : En} {R R2 : Sto} (h1 : g d σ = some σ1) (h2 : f σ1 R = .bk σ2 R2) : forV g f (d :: ds) σ R = .nx σ2 R2 := by
  rw [forV, h1]
  simp only [h2]
theorem forV_rt {g : D → En → Option En} {f : En → Sto → Res} {d : D} {ds : List D} {σ σ1 : En} {R R2 : Sto} {v : Rv} (h1 : g d σ = some σ1) (h2 : f σ1 R = .rt v R2) : forV g f (d :: ds) σ R = .rt v R2 := by
  rw [forV, h1]
  simp only [h2]
@[simp] theorem ev_var (cf : Cf) (lf : Nat) (i : Nat) (σ : En) (R : Sto) : ev cf lf (.var i) σ R = (match σ[i]? with
    | some (some d) => .ok (.val d) R
    | _ => .bad) := rfl
@[simp] theorem ev_lit (cf : Cf) (lf : Nat) (d : D) (σ : En) (R : Sto) : ev cf lf (.lit d) σ R = (.ok (.val d) R) := rfl
@[simp] theorem ev_glob (cf : Cf) (lf : Nat) (x : Nat) (d : D) (σ : En) (R : Sto) : ev cf lf (.glob x d) σ R = (.ok (.val d) R) := rfl
@[simp] theorem ev_bin (cf : Cf) (lf : Nat) (o : Operator) (a b : C) (σ : En) (R : Sto) : ev cf lf (.bin o a b) σ R = (bindV (ev cf lf a σ R) fun x R1 => bindV (ev cf lf b σ R1) fun y R2 => binopX cf o x y R2) := rfl
@[simp] theorem ev_neg (cf : Cf) (lf : Nat) (a : C) (σ : En) (R : Sto) : ev cf lf (.neg a) σ R = (bindV (ev cf lf a σ R) fun x R1 => negX cf x R1) := rfl
@[simp] theorem ev_notE (cf : Cf) (lf : Nat) (a : C) (σ : En) (R : Sto) : ev cf lf (.notE a) σ R = (bindV (ev cf lf a σ R) fun x R1 => liftO (truth R1 x) R1 fun b => .val (.bl (!b))) := rfl
@[simp] theorem ev_cmp (cf : Cf) (lf : Nat) (o : CmpOp) (a b : C) (σ : En) (R : Sto) : ev cf lf (.cmp o a b) σ R = (bindV (ev cf lf a σ R) fun x R1 => bindV (ev cf lf b σ R1) fun y R2 => cmpX cf o x y R2) := rfl
@[simp] theorem ev_chn (cf : Cf) (lf : Nat) (o p : CmpOp) (a b c : C) (σ : En) (R : Sto) : ev cf lf (.chn o p a b c) σ R = (bindV (ev cf lf a σ R) fun x R1 => bindV (ev cf lf b σ R1) fun y R2 => match cmpop o x y R2 with
    | some true => bindV (ev cf lf c σ R2) fun z R3 => liftO (cmpop p y z R3) R3 fun b => .val (.bl b)
    | some false => .ok (.val (.bl false)) R2
    | none => .bad) := rfl
@[simp] theorem ev_chn3 (cf : Cf) (lf : Nat) (o p q : CmpOp) (a b c d : C) (σ : En) (R : Sto) : ev cf lf (.chn3 o p q a b c d) σ R = (bindV (ev cf lf a σ R) fun x R1 => bindV (ev cf lf b σ R1) fun y R2 => match cmpop o x y R2 with
    | some true => bindV (ev cf lf c σ R2) fun z R3 => match cmpop p y z R3 with
      | some true => bindV (ev cf lf d σ R3) fun w R4 => liftO (cmpop q z w R4) R4 fun b => .val (.bl b)
      | some false => .ok (.val (.bl false)) R3
      | none => .bad
    | some false => .ok (.val (.bl false)) R2
    | none => .bad) := rfl
@[simp] theorem ev_andE (cf : Cf) (lf : Nat) (a b : C) (σ : En) (R : Sto) : ev cf lf (.andE a b) σ R = (bindV (ev cf lf a σ R) fun x R1 => match truth R1 x with
    | some true => ev cf lf b σ R1
    | some false => .ok (.val x) R1
    | none => .bad) := rfl
@[simp] theorem ev_orE (cf : Cf) (lf : Nat) (a b : C) (σ : En) (R : Sto) : ev cf lf (.orE a b) σ R = (bindV (ev cf lf a σ R) fun x R1 => match truth R1 x with
    | some true => .ok (.val x) R1
    | some false => ev cf lf b σ R1
    | none => .bad) := rfl
@[simp] theorem ev_ife (cf : Cf) (lf : Nat) (c a b : C) (σ : En) (R : Sto) : ev cf lf (.ife c a b) σ R = (bindV (ev cf lf c σ R) fun x R1 => match truth R1 x with
    | some true => ev cf lf a σ R1
    | some false => ev cf lf b σ R1
    | none => .bad) := rfl
@[simp] theorem ev_nil (cf : Cf) (lf : Nat)  (σ : En) (R : Sto) : ev cf lf (.nil ) σ R = (.ok (.many []) R) := rfl
@[simp] theorem ev_cons (cf : Cf) (lf : Nat) (a as : C) (σ : En) (R : Sto) : ev cf lf (.cons a as) σ R = (bindV (ev cf lf a σ R) fun x R1 => bindA (ev cf lf as σ R1) fun ds R2 => .ok (.many (x :: ds)) R2) := rfl
@[simp] theorem ev_tup (cf : Cf) (lf : Nat) (as : C) (σ : En) (R : Sto) : ev cf lf (.tup as) σ R = (bindA (ev cf lf as σ R) fun ds R1 => match byvL ds R1 with
    | some (ds', R2) => if ds'.length ≤ 100000 then .ok (.val (.tup ds')) R2 else .bad
    | none => .bad) := rfl
@[simp] theorem ev_lst (cf : Cf) (lf : Nat) (as : C) (σ : En) (R : Sto) : ev cf lf (.lst as) σ R = (bindA (ev cf lf as σ R) fun ds R1 => match byvL ds R1 with
    | some (ds', R2) => if ds'.length ≤ 100000 then .ok (.new (.lst ds')) R2 else .bad
    | none => .bad) := rfl
@[simp] theorem ev_call (cf : Cf) (lf : Nat) (f : Nat) (as : C) (σ : En) (R : Sto) : ev cf lf (.call f as) σ R = (bindA (ev cf lf as σ R) fun ds R1 => cf f ds R1) := rfl
@[simp] theorem ev_blt (cf : Cf) (lf : Nat) (k : Bk) (as : C) (σ : En) (R : Sto) : ev cf lf (.blt k as) σ R = (bindA (ev cf lf as σ R) fun ds R1 => bltX cf k ds R1) := rfl
@[simp] theorem ev_callD (cf : Cf) (lf : Nat) (f : Nat) (as : C) (dv : List D) (σ : En) (R : Sto) : ev cf lf (.callD f as dv) σ R = (bindA (ev cf lf as σ R) fun ds R1 => cf f (ds ++ dv) R1) := rfl
@[simp] theorem ev_fld (cf : Cf) (lf : Nat) (a : C) (f : Nat) (σ : En) (R : Sto) : ev cf lf (.fld a f) σ R = (bindV (ev cf lf a σ R) fun x R1 => liftO (fldD R1 x f) R1 .val) := rfl
@[simp] theorem ev_prp (cf : Cf) (lf : Nat) (a : C) (f : Nat) (σ : En) (R : Sto) : ev cf lf (.prp a f) σ R = (bindV (ev cf lf a σ R) fun x R1 => match x with
    | .obj c ns ds => cf (2 * f + 1) [.obj c ns ds] R1
    | _ => .bad) := rfl
@[simp] theorem ev_mth (cf : Cf) (lf : Nat) (a : C) (m : Nat) (as : C) (σ : En) (R : Sto) : ev cf lf (.mth a m as) σ R = (bindV (ev cf lf a σ R) fun x R1 => match x with
    | .obj c ns ds => bindA (ev cf lf as σ R1) fun es R2 => cf (2 * m) (.obj c ns ds :: es) R2
    | _ => .bad) := rfl
@[simp] theorem ev_new (cf : Cf) (lf : Nat) (c : Nat) (as : C) (dv : List D) (σ : En) (R : Sto) : ev cf lf (.new c as dv) σ R = (bindA (ev cf lf as σ R) fun ds R1 => newV cf c (ds ++ dv) R1) := rfl
@[simp] theorem ev_isiC (cf : Cf) (lf : Nat) (a : C) (c : Nat) (cs : List Nat) (σ : En) (R : Sto) : ev cf lf (.isiC a c cs) σ R = (bindV (ev cf lf a σ R) fun x R1 => isiY c cs x R1) := rfl
@[simp] theorem ev_dnew (cf : Cf) (lf : Nat)  (σ : En) (R : Sto) : ev cf lf (.dnew ) σ R = (.ok (.new (.dct [] [])) R) := rfl
@[simp] theorem ev_dget (cf : Cf) (lf : Nat) (a k z : C) (σ : En) (R : Sto) : ev cf lf (.dget a k z) σ R = (bindV (ev cf lf a σ R) fun x R1 => if isDct R1 x then bindV (ev cf lf k σ R1) fun y R2 => bindV (ev cf lf z σ R2) fun w R3 => match dctGet R3 x y with
      | some (some d) => .ok (.val d) R3
      | some none => .ok (.val w) R3
      | none => .bad
    else .bad) := rfl
@[simp] theorem ev_itm (cf : Cf) (lf : Nat) (a : C) (σ : En) (R : Sto) : ev cf lf (.itm a) σ R = (bindV (ev cf lf a σ R) fun x R1 => .ok (.many [x]) R1) := rfl
@[simp] theorem ev_zipE (cf : Cf) (lf : Nat) (a b : C) (σ : En) (R : Sto) : ev cf lf (.zipE a b) σ R = (bindV (ev cf lf a σ R) fun x R1 => bindV (ev cf lf b σ R1) fun y R2 => .ok (.many [x, y]) R2) := rfl
@[simp] theorem ev_enmE (cf : Cf) (lf : Nat) (a : C) (σ : En) (R : Sto) : ev cf lf (.enmE a) σ R = (bindV (ev cf lf a σ R) fun x R1 => .ok (.many [x]) R1) := rfl
@[simp] theorem ev_isi (cf : Cf) (lf : Nat) (a : C) (t : Ty) (σ : En) (R : Sto) : ev cf lf (.isi a t) σ R = (bindV (ev cf lf a σ R) fun x R1 => isiX t x R1) := rfl
@[simp] theorem ev_sub (cf : Cf) (lf : Nat) (a i : C) (σ : En) (R : Sto) : ev cf lf (.sub a i) σ R = (bindV (ev cf lf a σ R) fun x R1 => bindV (ev cf lf i σ R1) fun y R2 => liftO (subX x y R2) R2 .val) := rfl
@[simp] theorem ev_slc (cf : Cf) (lf : Nat) (a lo hi : C) (σ : En) (R : Sto) : ev cf lf (.slc a lo hi) σ R = (bindV (ev cf lf a σ R) fun x R1 => bindV (ev cf lf lo σ R1) fun l R2 => bindV (ev cf lf hi σ R2) fun h R3 => slcOp x (ptOf (isNonC lo) l) (ptOf (isNonC hi) h) R3) := rfl
@[simp] theorem ev_rng1 (cf : Cf) (lf : Nat) (a : C) (σ : En) (R : Sto) : ev cf lf (.rng1 a) σ R = (bindV (ev cf lf a σ R) fun x R1 => .ok (.many [.int 0, x]) R1) := rfl
@[simp] theorem ev_rng2 (cf : Cf) (lf : Nat) (a b : C) (σ : En) (R : Sto) : ev cf lf (.rng2 a b) σ R = (bindV (ev cf lf a σ R) fun x R1 => bindV (ev cf lf b σ R1) fun y R2 => .ok (.many [x, y]) R2) := rfl
@[simp] theorem ev_dg2 (cf : Cf) (lf : Nat) (k1 v1 k2 v2 : Int) (a : C) (z : Int) (σ : En) (R : Sto) : ev cf lf (.dg2 k1 v1 k2 v2 a z) σ R = (bindV (ev cf lf a σ R) fun x R1 => match x with
    | .int i => .ok (.val (.int (if i = k2 then v2 else if i = k1 then v1 else z))) R1
    | _ => .bad) := rfl
@[simp] theorem ev_comp (cf : Cf) (lf : Nat) (elt : C) (slots : List Nat) (it cond : C) (σ : En) (R : Sto) : ev cf lf (.comp elt slots it cond) σ R = (match ev cf lf it σ R with
    | .ok x R1 => compI (compF (ev cf lf cond) (ev cf lf elt) slots σ) lf (itOf (ik it) R1 x) R1
    | _ => .bad) := rfl
@[simp] theorem ex_nop (cf : Cf) (lf : Nat)  (σ : En) (R : Sto) : ex cf lf (.nop ) σ R = (.nx σ R) := rfl
@[simp] theorem ex_never (cf : Cf) (lf : Nat)  (σ : En) (R : Sto) : ex cf lf (.never ) σ R = (.bad) := rfl
@[simp] theorem ex_asg (cf : Cf) (lf : Nat) (i : Nat) (c : C) (σ : En) (R : Sto) : ex cf lf (.asg i c) σ R = (bvS (ev cf lf c σ R) fun v R1 => .nx (σ.set i (some (fz v))) R1) := rfl
@[simp] theorem ex_asgN (cf : Cf) (lf : Nat) (i p : Nat) (c : C) (σ : En) (R : Sto) : ex cf lf (.asgN i p c) σ R = (bvS (ev cf lf c σ R) fun v R1 => match v with
    | .new o => setN i p o σ R1
    | _ => .bad) := rfl
@[simp] theorem ex_par2 (cf : Cf) (lf : Nat) (i j : Nat) (pi pj : Option Nat) (a b : C) (σ : En) (R : Sto) : ex cf lf (.par2 i j pi pj a b) σ R = (bvS (ev cf lf a σ R) fun x R1 => bvS (ev cf lf b σ R1) fun y R2 => putPP pi pj i j x y σ R2) := rfl
@[simp] theorem ex_par3 (cf : Cf) (lf : Nat) (i j l : Nat) (a b c : C) (σ : En) (R : Sto) : ex cf lf (.par3 i j l a b c) σ R = (bvS (ev cf lf a σ R) fun x R1 => bvS (ev cf lf b σ R1) fun y R2 => bvS (ev cf lf c σ R2) fun z R3 => .nx (((σ.set i (some (fz x))).set j (some (fz y))).set l (some (fz z))) R3) := rfl
@[simp] theorem ex_unp (cf : Cf) (lf : Nat) (is : List Nat) (c : C) (σ : En) (R : Sto) : ex cf lf (.unp is c) σ R = (bvS (ev cf lf c σ R) fun v R1 => match setTg is (fz v) σ with
    | some σ1 => .nx σ1 R1
    | none => .bad) := rfl
@[simp] theorem ex_aug (cf : Cf) (lf : Nat) (i : Nat) (o : Operator) (c : C) (σ : En) (R : Sto) : ex cf lf (.aug i o c) σ R = (match σ[i]? with
    | some (some x) => bvS (ev cf lf c σ R) fun y R1 => match iop o x (fz y) with
      | some z => .nx (σ.set i (some z)) R1
      | none => .bad
    | _ => .bad) := rfl
@[simp] theorem ex_app (cf : Cf) (lf : Nat) (a e : C) (σ : En) (R : Sto) : ex cf lf (.app a e) σ R = (bvS (ev cf lf a σ R) fun x R1 => match asL R1 (fz x) with
    | none => .bad
    | some _ => bvS (ev cf lf e σ R1) fun y R2 => match byv (fz y) R2 with
      | none => .bad
      | some (y', R3) => match appO (fz x) y' R3 with
        | some R4 => .nx σ R4
        | none => .bad) := rfl
@[simp] theorem ex_extd (cf : Cf) (lf : Nat) (a e : C) (σ : En) (R : Sto) : ex cf lf (.extd a e) σ R = (bvS (ev cf lf a σ R) fun x R1 => match asL R1 (fz x) with
    | none => .bad
    | some _ => bvS (ev cf lf e σ R1) fun y R2 => match asL R2 (fz y) with
      | none => .bad
      | some es => match extO (fz x) es R2 with
        | some R4 => .nx σ R4
        | none => .bad) := rfl
@[simp] theorem ex_sets (cf : Cf) (lf : Nat) (a i e : C) (σ : En) (R : Sto) : ex cf lf (.sets a i e) σ R = (bvS (ev cf lf e σ R) fun y R1 => match byv (fz y) R1 with
    | none => .bad
    | some (y', R2) => bvS (ev cf lf a σ R2) fun x R3 => bvS (ev cf lf i σ R3) fun n R4 => match setO (fz x) (fz n) y' R4 with
      | some R5 => .nx σ R5
      | none => .bad) := rfl
@[simp] theorem ex_fset (cf : Cf) (lf : Nat) (a : C) (f : Nat) (cls : List (Nat × List Nat)) (e : C) (σ : En) (R : Sto) : ex cf lf (.fset a f cls e) σ R = (bvS (ev cf lf e σ R) fun y R1 => match byv (fz y) R1 with
    | none => .bad
    | some (y', R2) => bvS (ev cf lf a σ R2) fun x R3 => match fstO cls (fz x) f y' R3 with
      | some R4 => .nx σ R4
      | none => .bad) := rfl
@[simp] theorem ex_faug (cf : Cf) (lf : Nat) (a : C) (f : Nat) (cls : List (Nat × List Nat)) (o : Operator) (e : C) (σ : En) (R : Sto) : ex cf lf (.faug a f cls o e) σ R = (bvS (ev cf lf a σ R) fun x R1 => match fldD R1 (fz x) f with
    | none => .bad
    | some old => bvS (ev cf lf e σ R1) fun y R2 => match iop o old (fz y) with
      | none => .bad
      | some z => match fstO cls (fz x) f z R2 with
        | some R3 => .nx σ R3
        | none => .bad) := rfl
@[simp] theorem ex_fset2 (cf : Cf) (lf : Nat) (a : C) (f : Nat) (b : C) (g : Nat) (cls : List (Nat × List Nat)) (e : C) (σ : En) (R : Sto) : ex cf lf (.fset2 a f b g cls e) σ R = (bvS (ev cf lf e σ R) fun v R1 => match fz v with
    | .tup [d1, d2] => bvS (ev cf lf a σ R1) fun x R2 => match fstO cls (fz x) f d1 R2 with
      | none => .bad
      | some R3 => bvS (ev cf lf b σ R3) fun y R4 => match fstO cls (fz y) g d2 R4 with
        | some R5 => .nx σ R5
        | none => .bad
    | _ => .bad) := rfl
@[simp] theorem ex_expr (cf : Cf) (lf : Nat) (c : C) (σ : En) (R : Sto) : ex cf lf (.expr c) σ R = (bvS (ev cf lf c σ R) fun _ R1 => .nx σ R1) := rfl
@[simp] theorem ex_ret (cf : Cf) (lf : Nat) (c : C) (σ : En) (R : Sto) : ex cf lf (.ret c) σ R = (bvS (ev cf lf c σ R) fun v R1 => .rt v R1) := rfl
@[simp] theorem ex_retN (cf : Cf) (lf : Nat)  (σ : En) (R : Sto) : ex cf lf (.retN ) σ R = (.rt (.val .non) R) := rfl
@[simp] theorem ex_ifS (cf : Cf) (lf : Nat) (c : C) (a b : S) (σ : En) (R : Sto) : ex cf lf (.ifS c a b) σ R = (bvS (ev cf lf c σ R) fun x R1 => match truth R1 (fz x) with
    | some true => ex cf lf a σ R1
    | some false => ex cf lf b σ R1
    | none => .bad) := rfl
@[simp] theorem ex_whl (cf : Cf) (lf : Nat) (c : C) (b : S) (σ : En) (R : Sto) : ex cf lf (.whl c b) σ R = (whR (ev cf lf c) (ex cf lf b) lf σ R) := rfl
@[simp] theorem ex_forS (cf : Cf) (lf : Nat) (is : List Nat) (it : C) (b : S) (σ : En) (R : Sto) : ex cf lf (.forS is it b) σ R = (match ev cf lf it σ R with
    | .ok x R1 => forI (setTg is) (ex cf lf b) b.places lf σ R1 (itOf (ik it) R1 x)
    | _ => .bad) := rfl
@[simp] theorem ex_brk (cf : Cf) (lf : Nat)  (σ : En) (R : Sto) : ex cf lf (.brk ) σ R = (.bk σ R) := rfl
@[simp] theorem ex_cnt (cf : Cf) (lf : Nat)  (σ : En) (R : Sto) : ex cf lf (.cnt ) σ R = (.ct σ R) := rfl
@[simp] theorem ex_seq (cf : Cf) (lf : Nat) (a b : S) (σ : En) (R : Sto) : ex cf lf (.seq a b) σ R = (match ex cf lf a σ R with
    | .nx σ1 R1 => ex cf lf b σ1 R1
    | r => r) := rfl

section
variable (d : D) (o : O) (R : Sto) (i j : Int) (b c : Bool) (n m : Nat) (ds es : List D) (σ : En)
@[simp] theorem bvS_val (f : Rv → Sto → Res) : bvS (.ok (.val d) R) f = f (.val d) R := rfl
@[simp] theorem bvS_new (f : Rv → Sto → Res) : bvS (.ok (.new o) R) f = f (.new o) R := rfl
@[simp] theorem bindV_val (f : D → Sto → Out Rv) : bindV (.ok (.val d) R) f = f d R := rfl
@[simp] theorem bindV_new (f : D → Sto → Out Rv) : bindV (.ok (.new o) R) f = f (fzO o) R := rfl
@[simp] theorem bindA_many (f : List D → Sto → Out Rv) : bindA (.ok (.many ds) R) f = f ds R := rfl
@[simp] theorem liftO_some {α : Type} (a : α) (f : α → Rv) : liftO (some a) R f = .ok (f a) R := rfl
@[simp] theorem bX_int (cf : Cf) (op : Operator) (y : D) : binopX cf op (.int i) y R = binop op (.int i) y R := rfl
@[simp] theorem bX_bl (cf : Cf) (op : Operator) (y : D) : binopX cf op (.bl b) y R = binop op (.bl b) y R := rfl
@[simp] theorem bX_str (cf : Cf) (op : Operator) (x : Str) (y : D) : binopX cf op (.str x) y R = binop op (.str x) y R := rfl
@[simp] theorem bX_tup (cf : Cf) (op : Operator) (y : D) : binopX cf op (.tup ds) y R = binop op (.tup ds) y R := rfl
@[simp] theorem bX_lst (cf : Cf) (op : Operator) (y : D) : binopX cf op (.lst ds) y R = binop op (.lst ds) y R := rfl
@[simp] theorem bX_scr (cf : Cf) (op : Operator) (y : D) : binopX cf op (.scr ds) y R = binop op (.scr ds) y R := rfl
@[simp] theorem bX_ref (cf : Cf) (op : Operator) (y : D) : binopX cf op (.ref n m) y R = binop op (.ref n m) y R := rfl
@[simp] theorem bX_add (cf : Cf) (k : Nat) (ns ms : List Nat) : binopX cf .Add (.obj k ns ds) (.obj k ms es) R = cf (2 * mAdd) [.obj k ns ds, .obj k ms es] R := if_pos rfl
@[simp] theorem bX_sub (cf : Cf) (k : Nat) (ns ms : List Nat) : binopX cf .Sub (.obj k ns ds) (.obj k ms es) R = cf (2 * mSub) [.obj k ns ds, .obj k ms es] R := if_pos rfl
@[simp] theorem bX_mul (cf : Cf) (k : Nat) (ns ms : List Nat) : binopX cf .Mult (.obj k ns ds) (.obj k ms es) R = cf (2 * mMul) [.obj k ns ds, .obj k ms es] R := if_pos rfl
@[simp] theorem nX_int (cf : Cf) : negX cf (.int i) R = .ok (.val (.int (-i))) R := rfl
@[simp] theorem nX_obj (cf : Cf) (k : Nat) (ns : List Nat) : negX cf (.obj k ns ds) R = cf (2 * mNeg) [.obj k ns ds] R := rfl
@[simp] theorem cX_int (cf : Cf) (op : CmpOp) (y : D) : cmpX cf op (.int i) y R = liftO (cmpY op (.int i) y R) R fun b => .val (.bl b) := rfl
@[simp] theorem cX_bl (cf : Cf) (op : CmpOp) (y : D) : cmpX cf op (.bl b) y R = liftO (cmpY op (.bl b) y R) R fun b => .val (.bl b) := rfl
@[simp] theorem cX_non (cf : Cf) (op : CmpOp) (y : D) : cmpX cf op .non y R = liftO (cmpY op .non y R) R fun b => .val (.bl b) := rfl
@[simp] theorem cX_str (cf : Cf) (op : CmpOp) (x : Str) (y : D) : cmpX cf op (.str x) y R = liftO (cmpY op (.str x) y R) R fun b => .val (.bl b) := rfl
@[simp] theorem cX_tup (cf : Cf) (op : CmpOp) (y : D) : cmpX cf op (.tup ds) y R = liftO (cmpY op (.tup ds) y R) R fun b => .val (.bl b) := rfl
@[simp] theorem cX_lst (cf : Cf) (op : CmpOp) (y : D) : cmpX cf op (.lst ds) y R = liftO (cmpY op (.lst ds) y R) R fun b => .val (.bl b) := rfl
@[simp] theorem cX_ref (cf : Cf) (op : CmpOp) (y : D) : cmpX cf op (.ref n m) y R = liftO (cmpY op (.ref n m) y R) R fun b => .val (.bl b) := rfl
@[simp] theorem cX_eq (cf : Cf) (k : Nat) (ns : List Nat) (y : D) : cmpX cf .Eq (.obj k ns ds) y R = if eqArg y then (match cf (2 * mEq) [.obj k ns ds, y] R with
      | .ok (.val (.bl b)) R' => .ok (.val (.bl b)) R'
      | _ => .bad) else .bad := rfl
@[simp] theorem cX_ne (cf : Cf) (k : Nat) (ns : List Nat) (y : D) : cmpX cf .NotEq (.obj k ns ds) y R = if eqArg y then (match cf (2 * mEq) [.obj k ns ds, y] R with
      | .ok (.val (.bl b)) R' => .ok (.val (.bl (!b))) R'
      | _ => .bad) else .bad := rfl
@[simp] theorem eqArg_int : eqArg (.int i) = true := rfl
@[simp] theorem eqArg_obj (k : Nat) (ns : List Nat) : eqArg (.obj k ns ds) = true := rfl
@[simp] theorem cY_lt (x y : D) : cmpY .Lt x y R = cmpop .Lt x y R := rfl
@[simp] theorem cY_le (x y : D) : cmpY .LtE x y R = cmpop .LtE x y R := rfl
@[simp] theorem cY_gt (x y : D) : cmpY .Gt x y R = cmpop .Gt x y R := rfl
@[simp] theorem cY_ge (x y : D) : cmpY .GtE x y R = cmpop .GtE x y R := rfl
@[simp] theorem cY_eq (x y : D) : cmpY .Eq x y R = cmpop .Eq x y R := rfl
@[simp] theorem cY_ne (x y : D) : cmpY .NotEq x y R = cmpop .NotEq x y R := rfl
@[simp] theorem cY_is (x y : D) : cmpY .Is x y R = cmpop .Is x y R := rfl
@[simp] theorem cY_isn (x y : D) : cmpY .IsNot x y R = cmpop .IsNot x y R := rfl
@[simp] theorem cY_in_tup (x : D) : cmpY .In x (.tup ds) R = cmpop .In x (.tup ds) R := rfl
@[simp] theorem cY_in_lst (x : D) : cmpY .In x (.lst ds) R = cmpop .In x (.lst ds) R := rfl
@[simp] theorem cY_nin_tup (x : D) : cmpY .NotIn x (.tup ds) R = cmpop .NotIn x (.tup ds) R := rfl
@[simp] theorem cY_nin_lst (x : D) : cmpY .NotIn x (.lst ds) R = cmpop .NotIn x (.lst ds) R := rfl
@[simp] theorem bltX_nil (cf : Cf) (k : Bk) : bltX cf k [] R = bltop k [] R := rfl
@[simp] theorem bltX_int (cf : Cf) (k : Bk) : bltX cf k [.int i] R = bltop k [.int i] R := rfl
@[simp] theorem bltX_bl (cf : Cf) (k : Bk) : bltX cf k [.bl b] R = bltop k [.bl b] R := rfl
@[simp] theorem bltX_str (cf : Cf) (k : Bk) (x : Str) : bltX cf k [.str x] R = bltop k [.str x] R := rfl
@[simp] theorem bltX_tup (cf : Cf) (k : Bk) : bltX cf k [.tup ds] R = bltop k [.tup ds] R := rfl
@[simp] theorem bltX_lst (cf : Cf) (k : Bk) : bltX cf k [.lst ds] R = bltop k [.lst ds] R := rfl
@[simp] theorem bltX_scr (cf : Cf) (k : Bk) : bltX cf k [.scr ds] R = bltop k [.scr ds] R := rfl
@[simp] theorem bltX_ref (cf : Cf) (k : Bk) : bltX cf k [.ref n m] R = bltop k [.ref n m] R := rfl
@[simp] theorem bltX_two (cf : Cf) (k : Bk) (x y : D) : bltX cf k (x :: y :: ds) R = bltop k (x :: y :: ds) R := by
  cases x <;> rfl
@[simp] theorem bltX_boolO (cf : Cf) (k : Nat) (ns : List Nat) : bltX cf .bool1 [.obj k ns ds] R = (match cf (2 * mBool) [.obj k ns ds] R with
      | .ok (.val (.bl b)) R' => .ok (.val (.bl b)) R'
      | _ => .bad) := rfl
@[simp] theorem isiX_obj (t : Ty) (k : Nat) (ns : List Nat) : isiX t (.obj k ns ds) R = .ok (.val (.bl false)) R := rfl
@[simp] theorem isiX_int (t : Ty) : isiX t (.int i) R = .ok (.val (.bl (Ty.isi .int t))) R := rfl
@[simp] theorem isiX_bl (t : Ty) : isiX t (.bl b) R = .ok (.val (.bl (Ty.isi .bool t))) R := rfl
@[simp] theorem isiX_tup (t : Ty) : isiX t (.tup ds) R = .ok (.val (.bl (Ty.isi .tuple t))) R := rfl
@[simp] theorem isiX_str (t : Ty) (x : Str) : isiX t (.str x) R = .ok (.val (.bl (Ty.isi .str t))) R := rfl
@[simp] theorem isiY_obj (k c : Nat) (cs ns : List Nat) : isiY k cs (.obj c ns ds) R = if cs.contains c then .ok (.val (.bl (decide (c = k)))) R else .bad := rfl
@[simp] theorem isiY_int (k : Nat) (cs : List Nat) : isiY k cs (.int i) R = .ok (.val (.bl false)) R := rfl
@[simp] theorem isiY_bl (k : Nat) (cs : List Nat) : isiY k cs (.bl b) R = .ok (.val (.bl false)) R := rfl
@[simp] theorem isiY_tup (k : Nat) (cs : List Nat) : isiY k cs (.tup ds) R = .ok (.val (.bl false)) R := rfl
@[simp] theorem subX_tup : subX (.tup ds) (.int i) R = atI ds i := rfl
@[simp] theorem subX_ktp : subX (.ktp ds) (.int i) R = subOp (.ktp ds) (.int i) R := rfl
@[simp] theorem subX_lst : subX (.lst ds) (.int i) R = atI ds i := rfl
@[simp] theorem subX_scr : subX (.scr ds) (.int i) R = atI ds i := rfl
@[simp] theorem subX_dct (ks : List Key) : subX (.dct ks ds) (.int i) R = lookK ks ds (.inl i) := rfl
theorem subX_L (h : sget R n m = some (.lst ds)) : subX (.ref n m) (.int i) R = atI ds i := by
  simp [subX, dctGet, derefs, h, fzO, subOp, asS, asL]
theorem subX_Dk {ks : List Key} (h : sget R n m = some (.dct ks ds)) : subX (.ref n m) (.int i) R = lookK ks ds (.inl i) := by
  simp [subX, dctGet, derefs, h, fzO, keyD]
theorem subX_Dt {ks : List (List Key)} {ts : List D} {kk : List Key} (h : sget R n m = some (.dcT ks ds)) (hk : keysD ts = some kk) : subX (.ref n m) (.tup ts) R = lookK ks ds kk := by
  simp [subX, dctGet, derefs, h, fzO, hk]
theorem dctGet_Dk {ks : List Key} (h : sget R n m = some (.dct ks ds)) : dctGet R (.ref n m) (.int i) = some (lookK ks ds (.inl i)) := by
  simp [dctGet, derefs, h, fzO, keyD]
theorem isDct_Dk {ks : List Key} (h : sget R n m = some (.dct ks ds)) : isDct R (.ref n m) = true := by
  simp [isDct, derefs, h, fzO]
@[simp] theorem fz_val : fz (.val d) = d := rfl
@[simp] theorem fz_new : fz (.new o) = fzO o := rfl
@[simp] theorem fzO_lst : fzO (.lst ds) = .lst ds := rfl
@[simp] theorem truth_bl : truth R (.bl b) = some b := rfl
@[simp] theorem truth_int : truth R (.int i) = some (i != 0) := rfl
@[simp] theorem truth_tup : truth R (.tup ds) = some (!ds.isEmpty) := rfl
@[simp] theorem truth_lst : truth R (.lst ds) = some (!ds.isEmpty) := rfl
@[simp] theorem truth_scr : truth R (.scr ds) = some (!ds.isEmpty) := rfl
@[simp] theorem cmp_lt : cmpop .Lt (.int i) (.int j) R = some (decide (i < j)) := rfl
@[simp] theorem cmp_le : cmpop .LtE (.int i) (.int j) R = some (decide (i ≤ j)) := rfl
@[simp] theorem cmp_gt : cmpop .Gt (.int i) (.int j) R = some (decide (j < i)) := rfl
@[simp] theorem cmp_ge : cmpop .GtE (.int i) (.int j) R = some (decide (j ≤ i)) := rfl
@[simp] theorem cmp_eq : cmpop .Eq (.int i) (.int j) R = some (decide (i = j)) := eqOp_int i j R
@[simp] theorem cmp_ne : cmpop .NotEq (.int i) (.int j) R = some (!decide (i = j)) := by
  show (eqOp (.int i) (.int j) R).map (fun b => !b) = _
  rw [eqOp_int]
  rfl
@[simp] theorem bin_add : binop .Add (.int i) (.int j) R = .ok (.val (.int (i + j))) R := rfl
@[simp] theorem bin_sub : binop .Sub (.int i) (.int j) R = .ok (.val (.int (i - j))) R := rfl
@[simp] theorem bin_mul : binop .Mult (.int i) (.int j) R = if mulOk i j then .ok (.val (.int (i * j))) R else .bad := rfl
@[simp] theorem bin_fdiv : binop .FloorDiv (.int i) (.int j) R = if divOk j then .ok (.val (.int (i.fdiv j))) R else .bad := rfl
@[simp] theorem bin_mod : binop .Mod (.int i) (.int j) R = if j = 0 then .bad else .ok (.val (.int (i.fmod j))) R := rfl
@[simp] theorem bin_pow : binop .Pow (.int i) (.int j) R = if powOk i j then .ok (.val (.int (i ^ j.toNat))) R else .bad := rfl
@[simp] theorem iop_iadd : iop .Add (.int i) (.int j) = some (.int (i + j)) := rfl
@[simp] theorem iop_isub : iop .Sub (.int i) (.int j) = some (.int (i - j)) := rfl
@[simp] theorem iop_imul : iop .Mult (.int i) (.int j) = if mulOk i j then some (.int (i * j)) else none := rfl
@[simp] theorem iop_ifdiv : iop .FloorDiv (.int i) (.int j) = if divOk j then some (.int (i.fdiv j)) else none := rfl
@[simp] theorem blt_abs : bltop .abs [.int i] R = .ok (.val (.int (if i < 0 then -i else i))) R := rfl
@[simp] theorem blt_max : bltop .max2 [.int i, .int j] R = .ok (.val (.int (if j > i then j else i))) R := rfl
@[simp] theorem blt_min : bltop .min2 [.int i, .int j] R = .ok (.val (.int (if j < i then j else i))) R := rfl
@[simp] theorem blt_int : bltop .int1 [.int i] R = .ok (.val (.int i)) R := rfl
@[simp] theorem blt_intb : bltop .int1 [.bl b] R = .ok (.val (.int (if b then 1 else 0))) R := rfl
@[simp] theorem blt_boolb : bltop .bool1 [.bl b] R = .ok (.val (.bl b)) R := rfl
@[simp] theorem blt_bool : bltop .bool1 [.int i] R = .ok (.val (.bl (i != 0))) R := rfl
@[simp] theorem blt_len_tup : bltop .len [.tup ds] R = .ok (.val (.int ds.length)) R := rfl
@[simp] theorem blt_len_lst : bltop .len [.lst ds] R = .ok (.val (.int ds.length)) R := rfl
@[simp] theorem blt_len_scr : bltop .len [.scr ds] R = .ok (.val (.int ds.length)) R := rfl
@[simp] theorem blt_divmod : bltop .divmod [.int i, .int j] R = if 0 < j ∧ j < 1073741824 then .ok (.val (.tup [.int (i / j), .int (i % j)])) R else .bad := rfl
@[simp] theorem blt_tup_lst : bltop .tuple [.lst ds] R = .ok (.val (.tup ds)) R := rfl
@[simp] theorem blt_tup_tup : bltop .tuple [.tup ds] R = .ok (.val (.tup ds)) R := rfl
@[simp] theorem blt_lst_lst : bltop .list [.lst ds] R = .ok (.new (.lst ds)) R := rfl
@[simp] theorem blt_lst_tup : bltop .list [.tup ds] R = .ok (.new (.lst ds)) R := rfl
@[simp] theorem sub_tup : subOp (.tup ds) (.int i) R = atI ds i := rfl
@[simp] theorem sub_lst : subOp (.lst ds) (.int i) R = atI ds i := rfl
@[simp] theorem sub_scr : subOp (.scr ds) (.int i) R = atI ds i := rfl
@[simp] theorem sub_ref : subOp (.ref n m) (.int i) R = (asL R (.ref n m)).bind fun l => atI l i := by
  show (Option.map (fun ds => (true, ds)) (asL R (.ref n m))).bind _ = _
  cases asL R (.ref n m) <;> rfl
@[simp] theorem asL_ref : asL R (.ref n m) = match sget R n m with | some (.lst ds) => some ds | some (.frz (.lst ds)) => some ds | _ => none := rfl
@[simp] theorem asL_lst : asL R (.lst ds) = some ds := rfl
@[simp] theorem tg_one (k : Nat) : setTg [k] d σ = some (σ.set k (some d)) := by
  cases d <;> rfl
@[simp] theorem tg_two (k l : Nat) (x y : D) : setTg [k, l] (.tup [x, y]) σ = some ((σ.set k (some x)).set l (some y)) := rfl
@[simp] theorem tg_three (k l m : Nat) (x y z : D) : setTg [k, l, m] (.tup [x, y, z]) σ = some (((σ.set k (some x)).set l (some y)).set m (some z)) := rfl
@[simp] theorem byv_int : byv (.int i) R = some (.int i, R) := rfl
@[simp] theorem byv_bl : byv (.bl b) R = some (.bl b, R) := rfl
@[simp] theorem byv_tup : byv (.tup ds) R = some (.tup ds, R) := rfl
@[simp] theorem byv_lst : byv (.lst ds) R = some (.lst ds, R) := rfl
@[simp] theorem byv_non : byv .non R = some (.non, R) := rfl
@[simp] theorem byvL_nil : byvL [] R = some ([], R) := rfl
@[simp] theorem byvL_int : byvL (.int i :: ds) R = match byvL ds R with | some (es, R2) => some (.int i :: es, R2) | none => none := rfl
@[simp] theorem byvL_bl : byvL (.bl b :: ds) R = match byvL ds R with | some (es, R2) => some (.bl b :: es, R2) | none => none := rfl
@[simp] theorem byvL_tup : byvL (.tup es :: ds) R = match byvL ds R with | some (fs, R2) => some (.tup es :: fs, R2) | none => none := rfl
@[simp] theorem byvL_lst : byvL (.lst es :: ds) R = match byvL ds R with | some (fs, R2) => some (.lst es :: fs, R2) | none => none := rfl
@[simp] theorem byvL_non : byvL (.non :: ds) R = match byvL ds R with | some (fs, R2) => some (.non :: fs, R2) | none => none := rfl
@[simp] theorem forI_vals (g : D → En → Option En) (f : En → Sto → Res) (L : List Nat) (lf : Nat) : forI g f L lf σ R (some (.vals ds)) = forV g f ds σ R := rfl
@[simp] theorem forI_live (g : D → En → Option En) (f : En → Sto → Res) (L : List Nat) (lf : Nat) : forI g f L lf σ R (some (.live d)) = if okLive L d then forR g f d lf 0 σ R else .bad := rfl
@[simp] theorem itOf_val : itOf .val R (.val d) = itV R d := rfl
@[simp] theorem itOf_new : itOf .val R (.new o) = itV R (fzO o) := rfl
@[simp] theorem itOf_two : itOf .rng R (.many [.int i, .int j]) = if rngOk i j then some (.vals ((List.range (j - i).toNat).map fun (k : Nat) => .int (i + (k : Int)))) else none := rfl
@[simp] theorem itD_tup : EV.itV R (.tup ds) = some (.vals ds) := rfl
@[simp] theorem itD_lst : EV.itV R (.lst ds) = some (.vals ds) := rfl
@[simp] theorem itD_scr : EV.itV R (.scr ds) = some (.vals ds) := rfl
@[simp] theorem ik_rng1 (a : C) : ik (.rng1 a) = .rng := rfl
@[simp] theorem ik_rng2 (a c : C) : ik (.rng2 a c) = .rng := rfl
@[simp] theorem ik_zipE (a c : C) : ik (.zipE a c) = .zip := rfl
@[simp] theorem ik_enmE (a : C) : ik (.enmE a) = .enm := rfl
@[simp] theorem ik_var (i : Nat) : ik (.var i) = .val := rfl
@[simp] theorem ik_lit (d : D) : ik (.lit d) = .val := rfl
@[simp] theorem ik_glob (x : Nat) (d : D) : ik (.glob x d) = .val := rfl
@[simp] theorem ik_bin (o : Operator) (a b : C) : ik (.bin o a b) = .val := rfl
@[simp] theorem ik_ife (a b c : C) : ik (.ife a b c) = .val := rfl
@[simp] theorem ik_tup (a : C) : ik (.tup a) = .val := rfl
@[simp] theorem ik_lst (a : C) : ik (.lst a) = .val := rfl
@[simp] theorem ik_call (f : Nat) (a : C) : ik (.call f a) = .val := rfl
@[simp] theorem ik_callD (f : Nat) (a : C) (dv : List D) : ik (.callD f a dv) = .val := rfl
@[simp] theorem ik_blt (k : Bk) (a : C) : ik (.blt k a) = .val := rfl
@[simp] theorem ik_fld (a : C) (f : Nat) : ik (.fld a f) = .val := rfl
@[simp] theorem ik_prp (a : C) (f : Nat) : ik (.prp a f) = .val := rfl
@[simp] theorem ik_mth (a : C) (f : Nat) (b : C) : ik (.mth a f b) = .val := rfl
@[simp] theorem ik_sub (a b : C) : ik (.sub a b) = .val := rfl
@[simp] theorem ik_slc (a b c : C) : ik (.slc a b c) = .val := rfl
@[simp] theorem ik_comp (a : C) (l : List Nat) (b c : C) : ik (.comp a l b c) = .val := rfl
@[simp] theorem ik_dget (a b c : C) : ik (.dget a b c) = .val := rfl
@[simp] theorem itOf_zt : itOf .zip R (.many [.tup ds, .tup es]) = some (.vals (zipL ds es)) := rfl
@[simp] theorem itOf_zl : itOf .zip R (.many [.lst ds, .lst es]) = some (.vals (zipL ds es)) := rfl
@[simp] theorem itOf_zk : itOf .zip R (.many [.tup ds, .ktp es]) = some (.vals (zipL ds es)) := rfl
@[simp] theorem itOf_et : itOf .enm R (.many [.tup ds]) = some (.vals (enmL 0 ds)) := rfl
@[simp] theorem itOf_el : itOf .enm R (.many [.lst ds]) = some (.vals (enmL 0 ds)) := rfl
@[simp] theorem itD_ktp : EV.itV R (.ktp ds) = some (.vals ds) := rfl
@[simp] theorem compI_vals (f : D → Sto → Out (Option D)) (lf : Nat) : compI f lf (some (.vals ds)) R = compV f ds R [] := rfl
@[simp] theorem compI_live (f : D → Sto → Out (Option D)) (lf : Nat) : compI f lf (some (.live d)) R = compR f d lf 0 R [] := rfl
@[simp] theorem finR_nx (own : List O) : finR (.nx σ (own :: R)) = .ok (.val .non) R := rfl
@[simp] theorem finR_rt (own : List O) (v : Rv) : finR (.rt v (own :: R)) = retv own R v := rfl
@[simp] theorem retv_int (own : List O) : retv own R (.val (.int i)) = .ok (.val (.int i)) R := rfl
@[simp] theorem retv_bl (own : List O) : retv own R (.val (.bl b)) = .ok (.val (.bl b)) R := rfl
@[simp] theorem retv_non (own : List O) : retv own R (.val .non) = .ok (.val .non) R := rfl
@[simp] theorem retv_tup (own : List O) : retv own R (.val (.tup ds)) = .ok (.val (.tup ds)) R := rfl
@[simp] theorem retv_lst (own : List O) : retv own R (.val (.lst ds)) = .ok (.val (.lst ds)) R := rfl
@[simp] theorem retv_scr (own : List O) : retv own R (.val (.scr ds)) = .ok (.val (.scr ds)) R := rfl
@[simp] theorem retv_new (own : List O) : retv own R (.new o) = .ok (.new o) R := rfl
@[simp] theorem retv_own (own : List O) (p : Nat) : retv own R (.val (.ref 0 p)) = match own[p]? with
    | some (.lst ds) => .ok (.new (.lst ds)) R
    | some (.dct ks ds) => .ok (.new (.dct ks ds)) R
    | some (.dcT ks ds) => .ok (.new (.dcT ks ds)) R
    | some (.ins c ns ds) => .ok (.new (.ins c ns ds)) R
    | some (.frz d) => .ok (.val d) R
    | _ => .bad := rfl
@[simp] theorem up_int : up (.int i) = .int i := rfl
@[simp] theorem up_bl : up (.bl b) = .bl b := rfl
@[simp] theorem up_tup : up (.tup ds) = .tup ds := rfl
@[simp] theorem up_lst : up (.lst ds) = .lst ds := rfl
@[simp] theorem up_scr : up (.scr ds) = .scr ds := rfl
@[simp] theorem up_non : up .non = .non := rfl
@[simp] theorem up_ref : up (.ref n m) = .ref (n + 1) m := rfl
@[simp] theorem sget0 (own : List O) : sget (own :: R) 0 n = own[n]? := rfl
@[simp] theorem sget1 (own : List O) : sget (own :: R) (n + 1) m = sget R n m := rfl
@[simp] theorem sset0 (own : List O) : sset (own :: R) 0 n o = own.set n o :: R := rfl
@[simp] theorem sset1 (own : List O) : sset (own :: R) (n + 1) m o = own :: sset R n m o := rfl
@[simp] theorem app_ref (y : D) : appO (.ref n m) y R = match sget R n m with
    | some (.lst ds) => if ds.length < 100000 then some (sset R n m (.lst (ds ++ [y]))) else none
    | _ => none := rfl
@[simp] theorem ext_ref : extO (.ref n m) es R = match sget R n m with
    | some (.lst ds) => if ds.length + es.length ≤ 100000 then some (sset R n m (.lst (ds ++ es))) else none
    | _ => none := rfl
theorem set_lst {y : D} (h : sget R n m = some (.lst ds)) : setO (.ref n m) (.int i) y R = (L2.ixN ds.length i).bind fun k => some (sset R n m (.lst (ds.set k y))) := by
  simp only [setO, h]
  cases L2.ixN ds.length i <;> rfl
theorem set_dct {y : D} {ks : List Key} (h : sget R n m = some (.dct ks ds)) : setO (.ref n m) (.int i) y R = if ks.length < 100000 then some (sset R n m (.dct (putD ks ds (.inl i) y).1 (putD ks ds (.inl i) y).2)) else none := by
  simp only [setO, h, keyD]
@[simp] theorem isi_ii : Ty.isi .int .int = true := rfl
@[simp] theorem isi_ib : Ty.isi .int .bool = false := rfl
@[simp] theorem tyD_int : tyD R (.int i) = some .int := rfl
@[simp] theorem tyD_bl : tyD R (.bl b) = some .bool := rfl
@[simp] theorem tyD_tup : tyD R (.tup ds) = some .tuple := rfl
@[simp] theorem tyD_lst : tyD R (.lst ds) = some .list := rfl
@[simp] theorem startD_eq : startD n ds = ds.map (fun a => some (up a)) ++ List.replicate (n - ds.length) none := rfl
@[simp] theorem putP_none (k : Nat) (v : Rv) : putP none k v σ R = .nx (σ.set k (some (fz v))) R := rfl
@[simp] theorem putP_new (p k : Nat) (u : O) : putP (some p) k (.new u) σ R = setN k p u σ R := rfl
@[simp] theorem putPP_none (pj : Option Nat) (k l : Nat) (x y : Rv) : putPP none pj k l x y σ R = putP pj l y (σ.set k (some (fz x))) R := rfl
@[simp] theorem putPP_some (p : Nat) (pj : Option Nat) (k l : Nat) (x y : Rv) : putPP (some p) pj k l x y σ R = if plainR x then match putP pj l y σ R with
    | .nx σ1 R1 => putP (some p) k x σ1 R1
    | r => r
    else .bad := rfl
@[simp] theorem plainR_lst : plainR (.new (.lst ds)) = true := rfl
@[simp] theorem plainR_dct (ks : List Key) : plainR (.new (.dct ks ds)) = true := rfl
@[simp] theorem setN_eq (k p : Nat) (u : O) : setN k p u σ R = if noRef (σ.set k none) p then match sget R 0 p with
    | some _ => .nx (σ.set k (some (.ref 0 p))) (sset R 0 p u)
    | none => .bad
  else .bad := rfl
@[simp] theorem noRef_nil (p : Nat) : noRef [] p = true := rfl
@[simp] theorem noRef_none (p : Nat) : noRef (none :: σ) p = noRef σ p := rfl
@[simp] theorem noRef_int (p : Nat) : noRef (some (.int i) :: σ) p = noRef σ p := rfl
@[simp] theorem noRef_bl (p : Nat) : noRef (some (.bl b) :: σ) p = noRef σ p := rfl
@[simp] theorem noRef_tup (p : Nat) : noRef (some (.tup ds) :: σ) p = noRef σ p := rfl
@[simp] theorem noRef_lst (p : Nat) : noRef (some (.lst ds) :: σ) p = noRef σ p := rfl
@[simp] theorem noRef_scr (p : Nat) : noRef (some (.scr ds) :: σ) p = noRef σ p := rfl
@[simp] theorem noRef_non (p : Nat) : noRef (some .non :: σ) p = noRef σ p := rfl
@[simp] theorem noRef_ref0 (p q : Nat) : noRef (some (.ref 0 q) :: σ) p = (!(q == p) && noRef σ p) := rfl
@[simp] theorem noRef_ref1 (p q : Nat) : noRef (some (.ref (n + 1) q) :: σ) p = noRef σ p := rfl
@[simp] theorem cmp_in2 (x y : Int) : cmpop .In (.int i) (.tup [.int x, .int y]) R = some (decide (i = x) || decide (i = y)) := by
  have e : ∀ a b : Int, (a == b) = decide (b = a) := fun a b => by
    rw [Bool.eq_iff_iff, beq_iff_eq, decide_eq_true_iff]
    exact eq_comm
  simp [cmpop, inOp, flatD, asS, flatDs, inV, eqV, e]
theorem compV_some {f : D → Sto → Out (Option D)} {d y : D} {ds acc : List D} {R R' : Sto} (h : f d R = .ok (some y) R') (hl : acc.length < 100000) : compV f (d :: ds) R acc = compV f ds R' (y :: acc) := by
  rw [compV, h]
  simp only [hl, if_true]
theorem compV_none {f : D → Sto → Out (Option D)} {d : D} {ds acc : List D} {R R' : Sto} (h : f d R = .ok none R') : compV f (d :: ds) R acc = compV f ds R' acc := by
  rw [compV, h]
@[simp] theorem compV_nil (f : D → Sto → Out (Option D)) (acc : List D) : compV f [] R acc = .ok (.new (.lst acc.reverse)) R := rfl
/-- a turn whose test is the value v -/
theorem compF_t {ec ee : List (Option D) → Sto → Out Rv} {slots : List Nat} {σ σ1 : En} {d y y' : D} {R R2 R3 R4 : Sto} (h0 : setTg slots d (wipeD σ slots) = some σ1) (h1 : ec σ1 R = .ok (.val (.bl true)) R2) (h2 : ee σ1 R2 = .ok (.val y) R3) (h3 : byv y R3 = some (y', R4)) : compF ec ee slots σ d R = .ok (some y') R4 := by
  unfold compF
  rw [h0]
  dsimp only
  rw [h1]
  simp only [truth_bl, fz_val, h2, h3]
theorem compF_tn {ec ee : List (Option D) → Sto → Out Rv} {slots : List Nat} {σ σ1 : En} {d y' : D} {o : O} {R R2 R3 R4 : Sto} (h0 : setTg slots d (wipeD σ slots) = some σ1) (h1 : ec σ1 R = .ok (.val (.bl true)) R2) (h2 : ee σ1 R2 = .ok (.new o) R3) (h3 : byv (fzO o) R3 = some (y', R4)) : compF ec ee slots σ d R = .ok (some y') R4 := by
  unfold compF
  rw [h0]
  dsimp only
  rw [h1]
  simp only [truth_bl, fz_val, fz_new, h2, h3]
theorem compF_f {ec ee : List (Option D) → Sto → Out Rv} {slots : List Nat} {σ σ1 : En} {d : D} {R R2 : Sto} (h0 : setTg slots d (wipeD σ slots) = some σ1) (h1 : ec σ1 R = .ok (.val (.bl false)) R2) : compF ec ee slots σ d R = .ok none R2 := by
  unfold compF
  rw [h0]
  dsimp only
  rw [h1]
  simp only [truth_bl, fz_val]
@[simp] theorem wipeD_nil : wipeD σ [] = σ := rfl
@[simp] theorem wipeD_cons (k : Nat) (l : List Nat) : wipeD σ (k :: l) = (wipeD σ l).set k none := rfl
@[simp] theorem eqOp_nil : eqOp (.lst []) (.lst []) R = some true := rfl
@[simp] theorem cmp_ne_nil : cmpop .NotEq (.lst []) (.lst []) R = some false := rfl
@[simp] theorem cmp_eq_nil : cmpop .Eq (.lst []) (.lst []) R = some true := rfl
@[simp] theorem ix0 (x : D) : atI (x :: ds) 0 = some x := by
  unfold atI L2.ixN
  rw [if_pos (by omega), if_pos (by rw [List.length_cons]; omega)]
  rfl
@[simp] theorem ix1 (x y : D) : atI (x :: y :: ds) 1 = some y := by
  unfold atI L2.ixN
  rw [if_pos (by omega), if_pos (by rw [List.length_cons, List.length_cons]; omega)]
  rfl
@[simp] theorem ix2 (x y z : D) : atI (x :: y :: z :: ds) 2 = some z := by
  unfold atI L2.ixN
  rw [if_pos (by omega), if_pos (by rw [List.length_cons, List.length_cons, List.length_cons]; omega)]
  rfl
@[simp] theorem ixN3_0 : L2.ixN 3 0 = some 0 := rfl
@[simp] theorem ixN3_1 : L2.ixN 3 1 = some 1 := rfl
@[simp] theorem ixN3_2 : L2.ixN 3 2 = some 2 := rfl
end
end EV

namespace K03
open PySem PySem.Spec PyProof.Rows L2 EV
def lf : Nat := 10 ^ 1000
theorem lf_big : 10 ^ 100 < lf := by decide +kernel
theorem r0 (n : Nat) (v : Int) (R : Sto) : EV.run Fs lf (n + 1) 0 [.int v] R = .ok (.val (.bl true)) R := by
  rw [run_at n 0 _ _ f0 (by decide) rfl]
  simp [f0, c0]
theorem r1 (n : Nat) (v : Int) (R : Sto) (h0 : v ≠ 0) (h1 : -1000000000 ≤ v) (h2 : v ≤ 1000000000) : EV.run Fs lf (n + 2) 1 [.int v] R = .ok (.val (.bl true)) R := by
  rw [run_at (n + 1) 1 _ _ f1 (by decide) rfl]
  simp [f1, c1, r0, h0, h1, h2]
theorem r2 (n : Nat) (v : Int) (R : Sto) (h0 : v ≠ 0) (h1 : -1000000000 ≤ v) (h2 : v ≤ 1000000000) : EV.run Fs lf (n + 3) 2 [.int v] R = .ok (.val .non) R := by
  rw [run_at (n + 2) 2 _ _ f2 (by decide) rfl]
  simp [f2, c2, r1 n v _ h0 h1 h2]
/-- the places asked -/
def isPl (p : Int) : Prop := p = 0 ∨ p = 2 ∨ p = 3 ∨ p = 5 ∨ p = 7
theorem r3 (n : Nat) (R : Sto) (p : Int) (h : p = 2 ∨ p = 3 ∨ p = 5 ∨ p = 7) : EV.run Fs lf (n + 1) 3 [.int p] R = .ok (.val (.int p)) R := by
  rw [run_at n 3 _ _ f3 (by decide) rfl]
  obtain ⟨l, hl⟩ : ∃ l, lf = l + 1 := ⟨lf - 1, by have := lf_big; omega⟩
  have w : ∀ (cf : Cf) (q : Int) (R : Sto), (q = 3 ∨ q = 5 ∨ q = 7) → whR (ev cf lf (.cmp .LtE (.bin .Mult (.var 1) (.var 1)) (.var 0))) (ex cf lf (.seq (.ifS (.cmp .Eq (.bin .Mod (.var 0) (.var 1)) (.lit (.int 0))) (.seq (.ret (.var 1)) .nop) .nop) (.seq (.aug 1 .Add (.lit (.int 2))) .nop))) lf [some (.int q), some (.int 3)] R = .nx [some (.int q), some (.int 3)] R := fun cf q R hq => by
    rw [show whR (ev cf lf _) (ex cf lf _) lf = whR (ev cf lf _) (ex cf lf _) (l + 1) by rw [← hl]]
    have m : mulOk 3 3 = true := by decide +kernel
    rcases hq with rfl | rfl | rfl <;> exact whR_f (by simp [m])
  rcases h with rfl | h
  · simp [f3, c3]
  · have e := w (EV.run Fs lf n) p ([] :: R) h
    rcases h with rfl | rfl | rfl <;> (simp [f3, c3] at e ⊢; simp [e])
theorem r4 (n : Nat) (R : Sto) (p : Int) (h : p = 2 ∨ p = 3 ∨ p = 5 ∨ p = 7) : EV.run Fs lf (n + 2) 4 [.int p] R = .ok (.val (.bl true)) R := by
  rw [run_at (n + 1) 4 _ _ f4 (by decide) rfl]
  have h2 : 2 ≤ p ∧ p ≤ 1000000000 := by omega
  simp [f4, c4, r0, r3 n _ p h, h2.1, h2.2]
theorem r8 (n : Nat) (R : Sto) (p : Int) (h : isPl p) : EV.run Fs lf (n + 3) 8 [.int p] R = .ok (.val (.bl true)) R := by
  rw [run_at (n + 2) 8 _ _ f8 (by decide) rfl]
  rcases h with rfl | h
  · simp [f8, c8, r0]
  · have h0 : ¬ p = 0 := by omega
    simp [f8, c8, r0, r4 n _ p h, h0]
theorem r9 (n : Nat) (R : Sto) (p : Int) (h : isPl p) : EV.run Fs lf (n + 4) 9 [.int p] R = .ok (.val .non) R := by
  rw [run_at (n + 3) 9 _ _ f9 (by decide) rfl]
  simp [f9, c9, r8 n _ p h]
/-! parting -/
/-- how often p divides, and what is left -/
def pv (p : Int) : Nat → Int → Nat × Int
  | 0, n => (0, n)
  | f + 1, n => if n % p = 0 then ((pv p f (n / p)).1 + 1, (pv p f (n / p)).2) else (0, n)
theorem div_small {p n : Int} (hp : 2 ≤ p) (f : Nat) (hn : n ≠ 0) (h : n.natAbs < 2 ^ (f + 1)) (hd : n % p = 0) : n / p ≠ 0 ∧ (n / p).natAbs < 2 ^ f := by
  obtain ⟨c, rfl⟩ : p ∣ n := Int.dvd_of_emod_eq_zero hd
  have e : p * c / p = c := Int.mul_ediv_cancel_left _ (by omega)
  rw [e]
  refine ⟨fun z => hn (by rw [z, Int.mul_zero]), ?_⟩
  rw [Int.natAbs_mul] at h
  have : 2 * c.natAbs ≤ p.natAbs * c.natAbs := Nat.mul_le_mul_right _ (by omega)
  rw [Nat.pow_succ] at h
  omega
theorem fdm (n p : Int) (hp : 2 ≤ p) : n.fmod p = n % p ∧ n.fdiv p = n / p := ⟨Int.fmod_eq_emod_of_nonneg _ (by omega), Int.fdiv_eq_ediv_of_nonneg _ (by omega)⟩
def cP : S := (.seq (.par2 2 3 none none (.bin .Add (.var 2) (.lit (.int 1))) (.bin .FloorDiv (.var 3) (.var 1))) .nop)
theorem loop7 (cf : Cf) (p : Int) (hp : 2 ≤ p ∧ p ≤ 100) (x : Option D) (R : Sto) : ∀ (f fuel : Nat) (m n : Int), n ≠ 0 → n.natAbs < 2 ^ f → f < fuel →
    whR (ev cf lf (.cmp .Eq (.bin .Mod (.var 3) (.var 1)) (.lit (.int 0)))) (ex cf lf cP) fuel [x, some (.int p), some (.int m), some (.int n)] R = .nx [x, some (.int p), some (.int (m + (pv p f n).1)), some (.int (pv p f n).2)] R := by
  have d1 : divOk p = true := divOk_of (m := 40) (by omega) (by omega) (by omega)
  have p0 : ¬ p = 0 := by omega
  intro f
  induction f with
  | zero =>
    intro fuel m n h0 h1 h2
    omega
  | succ f ih =>
    intro fuel m n h0 h1 h2
    obtain ⟨k, rfl⟩ : ∃ k, fuel = k + 1 := ⟨fuel - 1, by omega⟩
    by_cases hd : n % p = 0
    · obtain ⟨g1, g2⟩ := div_small hp.1 f h0 h1 hd
      rw [whR_t (R1 := R) (σ2 := [x, some (.int p), some (.int (m + 1)), some (.int (n / p))]) (R2 := R) (by simp [p0, (fdm n p hp.1).1, hd]) (by simp [cP, d1, (fdm n p hp.1).2])]
      rw [ih k (m + 1) (n / p) g1 g2 (by omega), show m + 1 + ((pv p f (n / p)).1 : Int) = m + (((pv p f (n / p)).1 + 1 : Nat) : Int) by omega]
      simp only [pv, hd, if_true]
    · rw [whR_f (R1 := R) (by simp [p0, (fdm n p hp.1).1, hd])]
      simp only [pv, hd, if_false]
      simp
theorem r7 (k : Nat) (n p : Int) (R : Sto) (h0 : n ≠ 0) (h1 : n.natAbs < 2 ^ 200) (hp : 2 ≤ p ∧ p ≤ 100) : EV.run Fs lf (k + 1) 7 [.int n, .int p] R = .ok (.val (.tup [.int ((pv p 200 n).1 : Nat), .int (pv p 200 n).2])) R := by
  rw [run_at k 7 _ _ f7 (by decide) rfl]
  have e := loop7 (EV.run Fs lf k) p hp (some (.int n)) ([] :: R) 200 lf 0 n h0 h1 (by have := lf_big; omega)
  simp [f7, c7, cP] at e ⊢
  simp [e]
theorem loop18 (cf : Cf) (p : Int) (hp : 2 ≤ p ∧ p ≤ 100) (x : Option D) (R : Sto) : ∀ (f : Nat) (l : List Nat) (m n : Int) (z : Option D), n ≠ 0 → n.natAbs < 2 ^ f → f ≤ l.length →
    ∃ z', forV (setTg [4]) (ex cf lf (.seq (.ifS (.cmp .NotEq (.bin .Mod (.var 3) (.var 1)) (.lit (.int 0))) (.seq .brk .nop) .nop) cP)) (l.map fun (i : Nat) => .int (0 + (i : Int))) [x, some (.int p), some (.int m), some (.int n), z] R = .nx [x, some (.int p), some (.int (m + (pv p f n).1)), some (.int (pv p f n).2), z'] R := by
  have d1 : divOk p = true := divOk_of (m := 40) (by omega) (by omega) (by omega)
  have p0 : ¬ p = 0 := by omega
  intro f
  induction f with
  | zero =>
    intro l m n z h0 h1 h2
    omega
  | succ f ih =>
    intro l m n z h0 h1 h2
    cases l with
    | nil => simp at h2
    | cons i l =>
      rw [List.map_cons]
      by_cases hd : n % p = 0
      · obtain ⟨g1, g2⟩ := div_small hp.1 f h0 h1 hd
        obtain ⟨z', e⟩ := ih l (m + 1) (n / p) (some (.int (0 + (i : Int)))) g1 g2 (by simpa using h2)
        refine ⟨z', ?_⟩
        rw [forV_nx (σ2 := [x, some (.int p), some (.int (m + 1)), some (.int (n / p)), some (.int (0 + (i : Int)))]) (R2 := R) (tg_one _ _ _) (by simp [cP, p0, (fdm n p hp.1).1, hd, d1, (fdm n p hp.1).2])]
        rw [e, show m + 1 + ((pv p f (n / p)).1 : Int) = m + (((pv p f (n / p)).1 + 1 : Nat) : Int) by omega]
        simp only [pv, hd, if_true]
      · refine ⟨some (.int (0 + (i : Int))), ?_⟩
        rw [forV_bk (σ2 := [x, some (.int p), some (.int m), some (.int n), some (.int (0 + (i : Int)))]) (R2 := R) (tg_one _ _ _) (by simp [p0, (fdm n p hp.1).1, hd])]
        simp only [pv, hd, if_false]
        simp
theorem r18 (k : Nat) (n p : Int) (R : Sto) (h0 : n ≠ 0) (h1 : n.natAbs < 2 ^ 200) (hp : 2 ≤ p ∧ p ≤ 100) : EV.run Fs lf (k + 1) 18 [.int n, .int p] R = .ok (.val (.tup [.int ((pv p 200 n).1 : Nat), .int (pv p 200 n).2])) R := by
  rw [run_at k 18 _ _ f18 (by decide) rfl]
  obtain ⟨z', e⟩ := loop18 (EV.run Fs lf k) p hp (some (.int n)) ([] :: R) 200 (List.range 200) 0 n none h0 h1 (by simp)
  have hr : rngOk 0 200 = true := by decide
  have t : (200 - 0 : Int).toNat = 200 := rfl
  refine (if_pos (show [D.int n, D.int p].length = f18.np from rfl)).trans ?_
  simp only [f18, c18]
  simp only [ex_seq, ex_par2, ev_lit, ev_blt, ev_cons, ev_nil, ev_var, startD_eq, List.map, up_int, List.length_cons, List.length_nil, List.replicate, List.cons_append, List.nil_append, List.getElem?_cons_zero, List.getElem?_cons_succ, bvS_val, bindV_val, bindA_many, bltX_int, blt_int, putPP_none, putP_none, fz_val, List.set, ex_forS, ev_rng1, ik_rng1, itOf_two, hr, if_true, forI_vals, t]
  show finR (match forV _ _ ((List.range 200).map fun (i : Nat) => D.int (0 + (i : Int))) _ _ with | .nx σ1 R1 => _ | r => r) = _
  simp only [cP] at e
  rw [e]
  simp
/-! signs -/
theorem ne_of_pv (p : Int) : ∀ (f : Nat) (n : Int), n ≠ 0 → 2 ≤ p → (pv p f n).2 ≠ 0 ∧ (pv p f n).2.natAbs ≤ n.natAbs ∧ (pv p f n).1 ≤ f
  | 0, n, h, _ => ⟨h, Nat.le_refl _, Nat.le_refl _⟩
  | f + 1, n, h, hp => by
    unfold pv
    split
    · rename_i hd
      obtain ⟨c, rfl⟩ : p ∣ n := Int.dvd_of_emod_eq_zero hd
      have e : p * c / p = c := Int.mul_ediv_cancel_left _ (by omega)
      rw [e]
      have hc : c ≠ 0 := fun z => h (by rw [z, Int.mul_zero])
      obtain ⟨h1, h2, h3⟩ := ne_of_pv p f c hc hp
      refine ⟨h1, Nat.le_trans h2 ?_, Nat.succ_le_succ h3⟩
      rw [Int.natAbs_mul]
      exact Nat.le_mul_of_pos_left _ (by omega)
    · exact ⟨h, Nat.le_refl _, Nat.zero_le _⟩
/-- the sign at 2 -/
def s2 (l r m n : Int) : Int := if ((l - 1) / 2 * ((r - 1) / 2) + m * ((r * r - 1) / 8) + n * ((l * l - 1) / 8)) % 2 = 0 then 1 else -1
theorem r10 (k : Nat) (l r m n : Int) (R : Sto) (hl : l.natAbs < 2 ^ 60) (hr : r.natAbs < 2 ^ 60) (hm : 0 ≤ m ∧ m ≤ 200) (hn : 0 ≤ n ∧ n ≤ 200) : EV.run Fs lf (k + 1) 10 [.int l, .int r, .int m, .int n] R = .ok (.val (.int (s2 l r m n))) R := by
  rw [run_at k 10 _ _ f10 (by decide) rfl]
  have d2 : divOk 2 = true := by decide +kernel
  have d8 : divOk 8 = true := by decide +kernel
  have sq : ∀ x : Int, x.natAbs < 2 ^ 60 → (x * x).natAbs < 2 ^ 120 := fun x h => by
    rw [Int.natAbs_mul]
    exact Nat.lt_of_lt_of_le (Nat.mul_lt_mul'' h h) (by decide)
  have m1 : mulOk ((l - 1) / 2) ((r - 1) / 2) = true := mulOk_of (n := 60) (m := 60) (by omega) (by omega) (by decide)
  have m2 : mulOk l l = true := mulOk_of (n := 60) (m := 60) hl hl (by decide)
  have m3 : mulOk r r = true := mulOk_of (n := 60) (m := 60) hr hr (by decide)
  have q1 := sq l hl
  have q2 := sq r hr
  have m4 : mulOk m ((r * r - 1) / 8) = true := mulOk_of (n := 60) (m := 120) (by omega) (by omega) (by decide)
  have m5 : mulOk n ((l * l - 1) / 8) = true := mulOk_of (n := 60) (m := 120) (by omega) (by omega) (by decide)
  have f2 : ∀ x : Int, x.fdiv 2 = x / 2 := fun x => (fdm x 2 (by decide)).2
  have f8 : ∀ x : Int, x.fdiv 8 = x / 8 := fun x => (fdm x 8 (by decide)).2
  have g2 : ∀ x : Int, x.fmod 2 = x % 2 := fun x => (fdm x 2 (by decide)).1
  by_cases h : ((l - 1) / 2 * ((r - 1) / 2) + m * ((r * r - 1) / 8) + n * ((l * l - 1) / 8)) % 2 = 0
  · simp [K03.f10, c10, d2, d8, m1, m2, m3, m4, m5, f2, f8, g2, h, s2]
  · simp [K03.f10, c10, d2, d8, m1, m2, m3, m4, m5, f2, f8, g2, h, s2]
/-- the residue sign by 3, 5, 7, by the rest -/
def rsr (p r : Int) : Int := if r = 0 then 0 else if p = 3 then (if r = 1 then 1 else -1) else if p = 5 then (if r = 1 ∨ r = 4 then 1 else -1) else (if r = 1 ∨ r = 2 ∨ r = 4 then 1 else -1)
def rs (p x : Int) : Int := rsr p (x % p)
/-- the loop of a power modulo p -/
def pw (p : Int) : Nat → Int → Int → Int → Int
  | 0, a, _, _ => a
  | f + 1, a, b, l => if 0 < l then pw p f (if l % 2 = 1 then a * b % p else a) (b * b % p) (l / 2) else a
def c5W : S := (.seq (.ifS (.cmp .Eq (.bin .Mod (.var 5) (.lit (.int 2))) (.lit (.int 1)))
        (.seq (.asg 3 (.bin .Mod (.bin .Mult (.var 3) (.var 4)) (.var 2)))
        .nop)
        .nop)
      (.seq (.asg 4 (.bin .Mod (.bin .Mult (.var 4) (.var 4)) (.var 2)))
      (.seq (.aug 5 .FloorDiv (.lit (.int 2)))
      .nop)))
theorem loop5 (cf : Cf) (p : Int) (hp : 2 ≤ p ∧ p ≤ 100) (x y : Option D) (R : Sto) : ∀ (f fuel : Nat) (a b l : Int), 0 ≤ a → a < 100 → 0 ≤ b → b < 100 → 0 ≤ l → l < 2 ^ f → f < fuel →
    ∃ b' l', whR (ev cf lf (.cmp .Gt (.var 5) (.lit (.int 0)))) (ex cf lf c5W) fuel [x, y, some (.int p), some (.int a), some (.int b), some (.int l)] R = .nx [x, y, some (.int p), some (.int (pw p f a b l)), some (.int b'), some (.int l')] R := by
  have d2 : divOk 2 = true := by decide +kernel
  have p0 : ¬ p = 0 := by omega
  have f2 : ∀ x : Int, x.fdiv 2 = x / 2 := fun x => (fdm x 2 (by decide)).2
  have g2 : ∀ x : Int, x.fmod 2 = x % 2 := fun x => (fdm x 2 (by decide)).1
  have gp : ∀ x : Int, x.fmod p = x % p := fun x => (fdm x p hp.1).1
  have mb : ∀ x : Int, 0 ≤ x % p ∧ x % p < 100 := fun x => ⟨Int.emod_nonneg _ p0, by have := Int.emod_lt_of_pos x (by omega : 0 < p); omega⟩
  intro f
  induction f with
  | zero =>
    intro fuel a b l h1 h2 h3 h4 h5 h6 h7
    obtain ⟨k, rfl⟩ : ∃ k, fuel = k + 1 := ⟨fuel - 1, by omega⟩
    obtain rfl : l = 0 := by omega
    exact ⟨b, 0, by rw [whR_f (R1 := R) (by simp)]; rfl⟩
  | succ f ih =>
    intro fuel a b l h1 h2 h3 h4 h5 h6 h7
    obtain ⟨k, rfl⟩ : ∃ k, fuel = k + 1 := ⟨fuel - 1, by omega⟩
    by_cases hl : 0 < l
    · have m1 : mulOk a b = true := mulOk_of (n := 20) (m := 20) (by omega) (by omega) (by decide)
      have m2 : mulOk b b = true := mulOk_of (n := 20) (m := 20) (by omega) (by omega) (by decide)
      have hl2 : l / 2 < 2 ^ f := by
        rw [Int.pow_succ] at h6
        omega
      by_cases ho : l % 2 = 1
      · obtain ⟨b', l', e⟩ := ih k (a * b % p) (b * b % p) (l / 2) (mb _).1 (mb _).2 (mb _).1 (mb _).2 (by omega) hl2 (by omega)
        refine ⟨b', l', ?_⟩
        rw [whR_t (R1 := R) (σ2 := [x, y, some (.int p), some (.int (a * b % p)), some (.int (b * b % p)), some (.int (l / 2))]) (R2 := R) (by simp [hl]) (by simp [c5W, g2, ho, m1, m2, p0, gp, d2, f2]), e]
        simp only [pw, hl, if_true, ho]
      · obtain ⟨b', l', e⟩ := ih k a (b * b % p) (l / 2) h1 h2 (mb _).1 (mb _).2 (by omega) hl2 (by omega)
        refine ⟨b', l', ?_⟩
        rw [whR_t (R1 := R) (σ2 := [x, y, some (.int p), some (.int a), some (.int (b * b % p)), some (.int (l / 2))]) (R2 := R) (by simp [hl]) (by simp [c5W, g2, ho, m1, m2, p0, gp, d2, f2]), e]
        simp only [pw, hl, if_true, ho, if_false]
    · refine ⟨b, l, ?_⟩
      rw [whR_f (R1 := R) (by simp [hl])]
      simp only [pw, hl, if_false]
theorem r5 (k : Nat) (x e p : Int) (R : Sto) (hp : 2 ≤ p ∧ p ≤ 100) (he : 0 ≤ e ∧ e < 16) : EV.run Fs lf (k + 1) 5 [.int x, .int e, .int p] R = .ok (.val (.int (pw p 4 (1 % p) (x % p) e))) R := by
  rw [run_at k 5 _ _ f5 (by decide) rfl]
  have p0 : ¬ p = 0 := by omega
  have gp : ∀ x : Int, x.fmod p = x % p := fun x => (fdm x p hp.1).1
  have mb : ∀ x : Int, 0 ≤ x % p ∧ x % p < 100 := fun x => ⟨Int.emod_nonneg _ p0, by have := Int.emod_lt_of_pos x (by omega : 0 < p); omega⟩
  obtain ⟨b', l', e⟩ := loop5 (EV.run Fs lf k) p hp (some (.int x)) (some (.int e)) ([] :: R) 4 lf (1 % p) (x % p) e (mb _).1 (mb _).2 (mb _).1 (mb _).2 he.1 he.2 (by have := lf_big; omega)
  simp only [c5W] at e
  refine (if_pos (show [D.int x, D.int _, D.int p].length = f5.np from rfl)).trans ?_
  simp [f5, c5, p0, gp, e]
theorem r6 (k : Nat) (x p : Int) (R : Sto) (h : p = 3 ∨ p = 5 ∨ p = 7) : EV.run Fs lf (k + 2) 6 [.int x, .int p] R = .ok (.val (.int (rs p x))) R := by
  rw [run_at (k + 1) 6 _ _ f6 (by decide) rfl]
  have d2 : divOk 2 = true := by decide +kernel
  have p0 : ¬ p = 0 := by omega
  have p2 : ¬ p = 2 := by omega
  have gp : ∀ x : Int, x.fmod p = x % p := fun x => (fdm x p (by omega)).1
  have f2 : ∀ x : Int, x.fdiv 2 = x / 2 := fun x => (fdm x 2 (by decide)).2
  by_cases hx : x % p = 0
  · simp [f6, c6, gp, p0, hx, rs, rsr]
  · have e5 := r5 k x ((p - 1) / 2) p ([] :: R) (by omega) (by omega)
    have key : pw p 4 (1 % p) (x % p) ((p - 1) / 2) = 1 ↔ rs p x = 1 := by
      unfold rs
      rcases h with rfl | rfl | rfl
      · have : x % 3 = 1 ∨ x % 3 = 2 := by omega
        rcases this with e | e <;> rw [e] <;> decide
      · have : x % 5 = 1 ∨ x % 5 = 2 ∨ x % 5 = 3 ∨ x % 5 = 4 := by omega
        rcases this with e | e | e | e <;> rw [e] <;> decide
      · have : x % 7 = 1 ∨ x % 7 = 2 ∨ x % 7 = 3 ∨ x % 7 = 4 ∨ x % 7 = 5 ∨ x % 7 = 6 := by omega
        rcases this with e | e | e | e | e | e <;> rw [e] <;> decide
    have two : rs p x = 1 ∨ rs p x = -1 := by
      unfold rs rsr
      rw [if_neg hx]
      repeat' split
      all_goals first | exact .inl rfl | exact .inr rfl
    rcases two with t | t
    · have k1 := key.mpr t
      simp [f6, c6, gp, p0, p2, hx, d2, f2, e5, k1, t]
    · have k1 : ¬ pw p 4 (1 % p) (x % p) ((p - 1) / 2) = 1 := fun z => by
        have := key.mp z
        rw [t] at this
        cases this
      simp [f6, c6, gp, p0, p2, hx, d2, f2, e5, k1, t]
theorem r17 (k : Nat) (x p : Int) (R : Sto) (h : p = 3 ∨ p = 5 ∨ p = 7) : EV.run Fs lf (k + 1) 17 [.int x, .int p] R = .ok (.val (.int (rs p x))) R := by
  rw [run_at k 17 _ _ f17 (by decide) rfl]
  have p0 : ¬ p = 0 := by omega
  have p2 : ¬ p = 2 := by omega
  have gp : ∀ x : Int, x.fmod p = x % p := fun x => (fdm x p (by omega)).1
  by_cases hx : x % p = 0
  · simp [f17, c17, gp, p0, hx, rs, rsr]
  · have c3' : ∀ (cf : Cf) (r : Int) (R : Sto), ev cf lf (.comp (.bin .Mod (.blt .int1 (.cons (.bin .Mult (.var 3) (.var 3)) .nil)) (.var 1)) [3] (.rng2 (.lit (.int 1)) (.var 1)) (.lit (.bl true))) [some (.int x), some (.int 3), some (.int r), none] R = .ok (.new (.lst [.int 1, .int 1])) R := fun cf r R => rfl
    have c5' : ∀ (cf : Cf) (r : Int) (R : Sto), ev cf lf (.comp (.bin .Mod (.blt .int1 (.cons (.bin .Mult (.var 3) (.var 3)) .nil)) (.var 1)) [3] (.rng2 (.lit (.int 1)) (.var 1)) (.lit (.bl true))) [some (.int x), some (.int 5), some (.int r), none] R = .ok (.new (.lst [.int 1, .int 4, .int 4, .int 1])) R := fun cf r R => rfl
    have c7' : ∀ (cf : Cf) (r : Int) (R : Sto), ev cf lf (.comp (.bin .Mod (.blt .int1 (.cons (.bin .Mult (.var 3) (.var 3)) .nil)) (.var 1)) [3] (.rng2 (.lit (.int 1)) (.var 1)) (.lit (.bl true))) [some (.int x), some (.int 7), some (.int r), none] R = .ok (.new (.lst [.int 1, .int 4, .int 2, .int 2, .int 4, .int 1])) R := fun cf r R => rfl
    unfold rs
    rcases h with rfl | rfl | rfl
    · have : x % 3 = 1 ∨ x % 3 = 2 := by omega
      rcases this with e | e <;> (rw [e]; simp only [f17, c17]; simp [gp, e, c3']; rfl)
    · have : x % 5 = 1 ∨ x % 5 = 2 ∨ x % 5 = 3 ∨ x % 5 = 4 := by omega
      rcases this with e | e | e | e <;> (rw [e]; simp only [f17, c17]; simp [gp, e, c5']; rfl)
    · have : x % 7 = 1 ∨ x % 7 = 2 ∨ x % 7 = 3 ∨ x % 7 = 4 ∨ x % 7 = 5 ∨ x % 7 = 6 := by omega
      rcases this with e | e | e | e | e | e <;> (rw [e]; simp only [f17, c17]; simp [gp, e, c7']; rfl)
end K03

namespace K03
open PySem PySem.Spec PyProof.Rows L2 EV
/-- the sign at an odd place, parted; at a place -/
def so (p : Int) (m : Nat) (l : Int) (n : Nat) (r : Int) : Int := (if (m * n) % 2 = 1 then rs p (-1) else 1) * (if n % 2 = 1 then rs p l else 1) * (if m % 2 = 1 then rs p r else 1)
def sp (p : Int) (A B : Nat × Int) : Int := if p = 2 then s2 A.2 B.2 A.1 B.1 else so p A.1 A.2 B.1 B.2
def sg (a b p : Int) : Int := if p = 0 then (if a < 0 ∧ b < 0 then -1 else 1) else sp p (pv p 200 a) (pv p 200 b)
def okN (a : Int) : Prop := a ≠ 0 ∧ -1000000000 ≤ a ∧ a ≤ 1000000000
theorem rs_three (p x : Int) : rs p x = 0 ∨ rs p x = 1 ∨ rs p x = -1 := by
  unfold rs rsr
  repeat' split
  all_goals first | exact .inl rfl | exact .inr (.inl rfl) | exact .inr (.inr rfl)
theorem mul3 {x y : Int} (hx : x = 0 ∨ x = 1 ∨ x = -1) (hy : y = 0 ∨ y = 1 ∨ y = -1) : mulOk x y = true ∧ (x * y = 0 ∨ x * y = 1 ∨ x * y = -1) := by
  rcases hx with rfl | rfl | rfl <;> rcases hy with rfl | rfl | rfl <;> decide +kernel
theorem pv_b {p a : Int} (hp : 2 ≤ p) (ha : okN a) : (pv p 200 a).2 ≠ 0 ∧ (pv p 200 a).2.natAbs ≤ 1000000000 ∧ (pv p 200 a).1 ≤ 200 := by
  obtain ⟨h1, h2, h3⟩ := ne_of_pv p 200 a ha.1 hp
  have := ha.2
  exact ⟨h1, by omega, h3⟩
theorem par_b (m : Nat) : ((m : Int) % 2 = 1) ↔ (m % 2 = 1) := by omega
theorem r11 (k : Nat) (a b p : Int) (R : Sto) (ha : okN a) (hb : okN b) (h : p = 2 ∨ p = 3 ∨ p = 5 ∨ p = 7) : EV.run Fs lf (k + 3) 11 [.int a, .int b, .int p] R = .ok (.val (.int (sp p (pv p 200 a) (pv p 200 b)))) R := by
  rw [run_at (k + 2) 11 _ _ f11 (by decide) rfl]
  have hp : 2 ≤ p ∧ p ≤ 100 := by omega
  have e1 := r7 (k + 1) a p ([] :: R) ha.1 (by have := ha.2; omega) hp
  have e2 := r7 (k + 1) b p ([] :: R) hb.1 (by have := hb.2; omega) hp
  obtain ⟨a1, a2, a3⟩ := pv_b hp.1 ha
  obtain ⟨b1, b2, b3⟩ := pv_b hp.1 hb
  generalize pv p 200 a = A at *
  generalize pv p 200 b = B at *
  obtain ⟨m, l⟩ := A
  obtain ⟨n, r⟩ := B
  dsimp only at *
  have g2 : ∀ x : Int, x.fmod 2 = x % 2 := fun x => (fdm x 2 (by decide)).1
  have m1 : mulOk (m : Int) (n : Int) = true := mulOk_of (n := 20) (m := 20) (by omega) (by omega) (by decide)
  by_cases h2 : p = 2
  · subst h2
    have e3 := r10 (k + 1) l r m n ([] :: R) (by omega) (by omega) (by omega) (by omega)
    simp [f11, c11, e1, e2, e3, sp]
  · have h' : p = 3 ∨ p = 5 ∨ p = 7 := by omega
    have t1 := r6 k (-1) p ([] :: R) h'
    have t2 := r6 k l p ([] :: R) h'
    have t3 := r6 k r p ([] :: R) h'
    have w1 : (if ((m : Int) * (n : Int)) % 2 = 1 then rs p (-1) else 1) = (if (m * n) % 2 = 1 then rs p (-1) else 1) := by
      have := par_b (m * n)
      rw [Int.natCast_mul] at this
      simp only [this]
    have q0 : (if (m * n) % 2 = 1 then rs p (-1) else 1) = 0 ∨ (if (m * n) % 2 = 1 then rs p (-1) else 1) = 1 ∨ (if (m * n) % 2 = 1 then rs p (-1) else 1) = -1 := by
      split
      · exact rs_three _ _
      · exact .inr (.inl rfl)
    have q1 : (if n % 2 = 1 then rs p l else 1) = 0 ∨ (if n % 2 = 1 then rs p l else 1) = 1 ∨ (if n % 2 = 1 then rs p l else 1) = -1 := by
      split
      · exact rs_three _ _
      · exact .inr (.inl rfl)
    have q2 : (if m % 2 = 1 then rs p r else 1) = 0 ∨ (if m % 2 = 1 then rs p r else 1) = 1 ∨ (if m % 2 = 1 then rs p r else 1) = -1 := by
      split
      · exact rs_three _ _
      · exact .inr (.inl rfl)
    have z1 := mul3 q0 q1
    have z2 := mul3 z1.2 q2
    have v1 : ∀ (σ : En), σ[3]? = some (some (.int (m : Int))) → σ[5]? = some (some (.int (n : Int))) → σ[2]? = some (some (.int p)) → ev (EV.run Fs lf (k + 2)) lf (.ife (.cmp .Eq (.bin .Mod (.bin .Mult (.var 3) (.var 5)) (.lit (.int 2))) (.lit (.int 1))) (.call 6 (.cons (.neg (.lit (.int 1))) (.cons (.var 2) .nil))) (.lit (.int 1))) σ ([] :: R) = .ok (.val (.int (if (m * n) % 2 = 1 then rs p (-1) else 1))) ([] :: R) := fun σ s3 s5 s2 => by
      rw [← w1]
      by_cases c : ((m : Int) * (n : Int)) % 2 = 1 <;> simp [s3, s5, s2, m1, g2, c, t1]
    have v2 : ∀ (σ : En), σ[4]? = some (some (.int l)) → σ[5]? = some (some (.int (n : Int))) → σ[2]? = some (some (.int p)) → ev (EV.run Fs lf (k + 2)) lf (.ife (.cmp .Eq (.bin .Mod (.var 5) (.lit (.int 2))) (.lit (.int 1))) (.call 6 (.cons (.var 4) (.cons (.var 2) .nil))) (.lit (.int 1))) σ ([] :: R) = .ok (.val (.int (if n % 2 = 1 then rs p l else 1))) ([] :: R) := fun σ s4 s5 s2 => by
      have := par_b n
      by_cases c : n % 2 = 1 <;> simp [s4, s5, s2, g2, this, c, t2]
    have v3 : ∀ (σ : En), σ[6]? = some (some (.int r)) → σ[3]? = some (some (.int (m : Int))) → σ[2]? = some (some (.int p)) → ev (EV.run Fs lf (k + 2)) lf (.ife (.cmp .Eq (.bin .Mod (.var 3) (.lit (.int 2))) (.lit (.int 1))) (.call 6 (.cons (.var 6) (.cons (.var 2) .nil))) (.lit (.int 1))) σ ([] :: R) = .ok (.val (.int (if m % 2 = 1 then rs p r else 1))) ([] :: R) := fun σ s6 s3 s2 => by
      have := par_b m
      by_cases c : m % 2 = 1 <;> simp [s6, s3, s2, g2, this, c, t3]
    simp only [sp, so, if_neg h2]
    generalize (if (m * n) % 2 = 1 then rs p (-1) else 1) = x0 at *
    generalize (if n % 2 = 1 then rs p l else 1) = x1 at *
    generalize (if m % 2 = 1 then rs p r else 1) = x2 at *
    refine (if_pos (show [D.int a, D.int b, D.int p].length = f11.np from rfl)).trans ?_
    simp only [f11, c11, ex_seq, ex_unp, ev_call, ev_cons, ev_nil, ev_var, startD_eq, List.map, up_int, List.length_cons, List.length_nil, List.replicate, List.cons_append, List.nil_append, List.getElem?_cons_zero, List.getElem?_cons_succ, bindV_val, bindA_many, e1, e2, bvS_val, fz_val, tg_two, List.set]
    simp [-ev_ife, h2, v1, v2, v3, z1.1, z2.1]
theorem r12 (k : Nat) (a b p : Int) (R : Sto) (ha : okN a) (hb : okN b) (h : isPl p) : EV.run Fs lf (k + 4) 12 [.int a, .int b, .int p] R = .ok (.val (.int (sg a b p))) R := by
  rw [run_at (k + 3) 12 _ _ f12 (by decide) rfl]
  by_cases h0 : p = 0
  · subst h0
    by_cases c1 : a < 0 <;> by_cases c2 : b < 0 <;> simp [f12, c12, sg, c1, c2]
  · have h' : p = 2 ∨ p = 3 ∨ p = 5 ∨ p = 7 := by rcases h with h | h <;> omega
    have e := r11 k a b p ([] :: R) ha hb h'
    simp [f12, c12, sg, h0, e]
theorem r13 (k : Nat) (a b p : Int) (R : Sto) (ha : okN a) (hb : okN b) (h : isPl p) : EV.run Fs lf (k + 5) 13 [.int a, .int b, .int p] R = .ok (.val (.int (sg a b p))) R := by
  rw [run_at (k + 4) 13 _ _ f13 (by decide) rfl]
  have e1 := r2 (k + 1) a ([] :: R) ha.1 ha.2.1 ha.2.2
  have e2 := r2 (k + 1) b ([] :: R) hb.1 hb.2.1 hb.2.2
  have e3 := r9 k ([] :: R) p h
  have e4 := r12 k a b p ([] :: R) ha hb h
  simp [f13, c13, e1, e2, e3, e4]
theorem r19 (k : Nat) (a b p : Int) (R : Sto) (ha : okN a) (hb : okN b) (h : isPl p) : EV.run Fs lf (k + 3) 19 [.int a, .int b, .int p] R = .ok (.val (.int (sg a b p))) R := by
  rw [run_at (k + 2) 19 _ _ f19 (by decide) rfl]
  by_cases h0 : p = 0
  · subst h0
    by_cases c1 : a < 0 <;> by_cases c2 : b < 0 <;> simp [f19, c19, sg, c1, c2]
  have h' : p = 2 ∨ p = 3 ∨ p = 5 ∨ p = 7 := by rcases h with h | h <;> omega
  have hp : 2 ≤ p ∧ p ≤ 100 := by omega
  unfold sg
  rw [if_neg h0]
  have e1 := r18 (k + 1) a p ([] :: R) ha.1 (by have := ha.2; omega) hp
  have e2 := r18 (k + 1) b p ([] :: R) hb.1 (by have := hb.2; omega) hp
  obtain ⟨a1, a2, a3⟩ := pv_b hp.1 ha
  obtain ⟨b1, b2, b3⟩ := pv_b hp.1 hb
  generalize pv p 200 a = A at *
  generalize pv p 200 b = B at *
  obtain ⟨m, l⟩ := A
  obtain ⟨n, r⟩ := B
  dsimp only at *
  have g2 : ∀ x : Int, x.fmod 2 = x % 2 := fun x => (fdm x 2 (by decide)).1
  have m1 : mulOk (m : Int) (n : Int) = true := mulOk_of (n := 20) (m := 20) (by omega) (by omega) (by decide)
  by_cases h2 : p = 2
  · subst h2
    have d2 : divOk 2 = true := by decide +kernel
    have d8 : divOk 8 = true := by decide +kernel
    have sq : ∀ x : Int, x.natAbs < 2 ^ 60 → (x * x).natAbs < 2 ^ 120 := fun x h => by
      rw [Int.natAbs_mul]
      exact Nat.lt_of_lt_of_le (Nat.mul_lt_mul'' h h) (by decide)
    have hl : l.natAbs < 2 ^ 60 := by omega
    have hr : r.natAbs < 2 ^ 60 := by omega
    have y1 : mulOk ((l - 1) / 2) ((r - 1) / 2) = true := mulOk_of (n := 60) (m := 60) (by omega) (by omega) (by decide)
    have y2 : mulOk l l = true := mulOk_of (n := 60) (m := 60) hl hl (by decide)
    have y3 : mulOk r r = true := mulOk_of (n := 60) (m := 60) hr hr (by decide)
    have q1 := sq l hl
    have q2 := sq r hr
    have y4 : mulOk (m : Int) ((r * r - 1) / 8) = true := mulOk_of (n := 60) (m := 120) (by omega) (by omega) (by decide)
    have y5 : mulOk (n : Int) ((l * l - 1) / 8) = true := mulOk_of (n := 60) (m := 120) (by omega) (by omega) (by decide)
    have f2 : ∀ x : Int, x.fdiv 2 = x / 2 := fun x => (fdm x 2 (by decide)).2
    have f8 : ∀ x : Int, x.fdiv 8 = x / 8 := fun x => (fdm x 8 (by decide)).2
    by_cases c : ((l - 1) / 2 * ((r - 1) / 2) + (m : Int) * ((r * r - 1) / 8) + (n : Int) * ((l * l - 1) / 8)) % 2 = 0
    · simp [f19, c19, e1, e2, d2, d8, y1, y2, y3, y4, y5, f2, f8, g2, c, sp, s2]
    · simp [f19, c19, e1, e2, d2, d8, y1, y2, y3, y4, y5, f2, f8, g2, c, sp, s2]
  · have h' : p = 3 ∨ p = 5 ∨ p = 7 := by omega
    have t1 := r17 (k + 1) (-1) p ([] :: R) h'
    have t2 := r17 (k + 1) l p ([] :: R) h'
    have t3 := r17 (k + 1) r p ([] :: R) h'
    have w1 : (if ((m : Int) * (n : Int)) % 2 = 1 then rs p (-1) else 1) = (if (m * n) % 2 = 1 then rs p (-1) else 1) := by
      have := par_b (m * n)
      rw [Int.natCast_mul] at this
      simp only [this]
    have q0 : (if (m * n) % 2 = 1 then rs p (-1) else 1) = 0 ∨ (if (m * n) % 2 = 1 then rs p (-1) else 1) = 1 ∨ (if (m * n) % 2 = 1 then rs p (-1) else 1) = -1 := by
      split
      · exact rs_three _ _
      · exact .inr (.inl rfl)
    have q1 : (if n % 2 = 1 then rs p l else 1) = 0 ∨ (if n % 2 = 1 then rs p l else 1) = 1 ∨ (if n % 2 = 1 then rs p l else 1) = -1 := by
      split
      · exact rs_three _ _
      · exact .inr (.inl rfl)
    have q2 : (if m % 2 = 1 then rs p r else 1) = 0 ∨ (if m % 2 = 1 then rs p r else 1) = 1 ∨ (if m % 2 = 1 then rs p r else 1) = -1 := by
      split
      · exact rs_three _ _
      · exact .inr (.inl rfl)
    have z1 := mul3 q0 q1
    have z2 := mul3 z1.2 q2
    have v1 : ∀ (σ : En), σ[3]? = some (some (.int (m : Int))) → σ[5]? = some (some (.int (n : Int))) → σ[2]? = some (some (.int p)) → ev (EV.run Fs lf (k + 2)) lf (.ife (.cmp .Eq (.bin .Mod (.bin .Mult (.var 3) (.var 5)) (.lit (.int 2))) (.lit (.int 1))) (.call 17 (.cons (.neg (.lit (.int 1))) (.cons (.var 2) .nil))) (.lit (.int 1))) σ ([] :: R) = .ok (.val (.int (if (m * n) % 2 = 1 then rs p (-1) else 1))) ([] :: R) := fun σ s3 s5 s2 => by
      rw [← w1]
      by_cases c : ((m : Int) * (n : Int)) % 2 = 1 <;> simp [s3, s5, s2, m1, g2, c, t1]
    have v2 : ∀ (σ : En), σ[4]? = some (some (.int l)) → σ[5]? = some (some (.int (n : Int))) → σ[2]? = some (some (.int p)) → ev (EV.run Fs lf (k + 2)) lf (.ife (.cmp .Eq (.bin .Mod (.var 5) (.lit (.int 2))) (.lit (.int 1))) (.call 17 (.cons (.var 4) (.cons (.var 2) .nil))) (.lit (.int 1))) σ ([] :: R) = .ok (.val (.int (if n % 2 = 1 then rs p l else 1))) ([] :: R) := fun σ s4 s5 s2 => by
      have := par_b n
      by_cases c : n % 2 = 1 <;> simp [s4, s5, s2, g2, this, c, t2]
    have v3 : ∀ (σ : En), σ[6]? = some (some (.int r)) → σ[3]? = some (some (.int (m : Int))) → σ[2]? = some (some (.int p)) → ev (EV.run Fs lf (k + 2)) lf (.ife (.cmp .Eq (.bin .Mod (.var 3) (.lit (.int 2))) (.lit (.int 1))) (.call 17 (.cons (.var 6) (.cons (.var 2) .nil))) (.lit (.int 1))) σ ([] :: R) = .ok (.val (.int (if m % 2 = 1 then rs p r else 1))) ([] :: R) := fun σ s6 s3 s2 => by
      have := par_b m
      by_cases c : m % 2 = 1 <;> simp [s6, s3, s2, g2, this, c, t3]
    simp only [sp, so, if_neg h2]
    generalize (if (m * n) % 2 = 1 then rs p (-1) else 1) = x0 at *
    generalize (if n % 2 = 1 then rs p l else 1) = x1 at *
    generalize (if m % 2 = 1 then rs p r else 1) = x2 at *
    refine (if_pos (show [D.int a, D.int b, D.int p].length = f19.np from rfl)).trans ?_
    simp only [f19, c19, ex_seq, ex_ifS, ex_nop, ev_cmp, ev_lit, ex_unp, ev_call, ev_cons, ev_nil, ev_var, startD_eq, List.map, up_int, List.length_cons, List.length_nil, List.replicate, List.cons_append, List.nil_append, List.getElem?_cons_zero, List.getElem?_cons_succ, bindV_val, bindA_many, cX_int, cY_eq, cmp_eq, liftO_some, decide_eq_false h0, truth_bl, e1, e2, bvS_val, fz_val, tg_two, List.set]
    simp [-ev_ife, h2, v1, v2, v3, z1.1, z2.1]
theorem sg_comm (a b p : Int) : sg a b p = sg b a p := by
  unfold sg
  by_cases h0 : p = 0
  · rw [if_pos h0, if_pos h0]
    simp only [And.comm]
  · rw [if_neg h0, if_neg h0]
    unfold sp
    by_cases h2 : p = 2
    · rw [if_pos h2, if_pos h2]
      unfold s2
      have e : ∀ (l r m n : Int), (l - 1) / 2 * ((r - 1) / 2) + m * ((r * r - 1) / 8) + n * ((l * l - 1) / 8) = (r - 1) / 2 * ((l - 1) / 2) + n * ((l * l - 1) / 8) + m * ((r * r - 1) / 8) := fun l r m n => by
        rw [Int.mul_comm ((r - 1) / 2)]
        omega
      rw [e]
    · rw [if_neg h2, if_neg h2]
      unfold so
      rw [Nat.mul_comm, Int.mul_assoc, Int.mul_assoc, Int.mul_comm (if (pv p 200 b).1 % 2 = 1 then _ else _)]
end K03

namespace K03
open PySem PySem.Spec PyProof.Rows L2 EV
/-! numbers without squares -/
def c20W : S := (.seq (.ifS (.cmp .NotEq (.bin .Mod (.var 1) (.bin .Mult (.var 2) (.var 2))) (.lit (.int 0)))
          (.seq .brk
          .nop)
          .nop)
        (.seq (.asg 1 (.bin .FloorDiv (.var 1) (.bin .Mult (.var 2) (.var 2))))
        .nop))
theorem loop20 (cf : Cf) (p : Int) (hp : 2 ≤ p ∧ p ≤ 100) (x : Option D) (R : Sto) : ∀ (f : Nat) (l : List Nat) (n : Int) (z : Option D), n ≠ 0 → n.natAbs < 2 ^ f → f ≤ l.length →
    ∃ z', forV (setTg [3]) (ex cf lf c20W) (l.map fun (i : Nat) => .int (0 + (i : Int))) [x, some (.int n), some (.int p), z] R = .nx [x, some (.int (pv (p * p) f n).2), some (.int p), z'] R := by
  have sq : 4 ≤ p * p ∧ p * p ≤ 10000 := ⟨Int.mul_le_mul (a := 2) (b := 2) hp.1 hp.1 (by decide) (by omega), Int.mul_le_mul (b := p) (c := 100) (d := 100) hp.2 hp.2 (by omega) (by decide)⟩
  have m1 : mulOk p p = true := mulOk_of (n := 20) (m := 20) (by omega) (by omega) (by decide)
  have d1 : divOk (p * p) = true := divOk_of (m := 40) (by omega) (by omega) (by omega)
  have p0 : ¬ p * p = 0 := by omega
  intro f
  induction f with
  | zero =>
    intro l n z h0 h1 h2
    omega
  | succ f ih =>
    intro l n z h0 h1 h2
    cases l with
    | nil => simp at h2
    | cons i l =>
      rw [List.map_cons]
      have fd := fdm n (p * p) (by omega)
      by_cases hd : n % (p * p) = 0
      · obtain ⟨g1, g2⟩ := div_small (p := p * p) (by omega) f h0 h1 hd
        obtain ⟨z', e⟩ := ih l (n / (p * p)) (some (.int (0 + (i : Int)))) g1 g2 (by simpa using h2)
        refine ⟨z', ?_⟩
        have t : ex cf lf c20W [x, some (.int n), some (.int p), some (.int (0 + (i : Int)))] R = .nx [x, some (.int (n / (p * p))), some (.int p), some (.int (0 + (i : Int)))] R := by
          simp only [c20W, ex_seq, ex_ifS, ev_cmp, ev_bin, ev_var, ev_lit, List.getElem?_cons_zero, List.getElem?_cons_succ, bindV_val, bX_int, bin_mul, m1, if_true, bin_mod, p0, if_false, cX_int, cY_ne, cmp_ne, fd.1, hd, decide_true, Bool.not_true, liftO_some, bvS_val, fz_val, truth_bl, ex_nop, ex_asg, bin_fdiv, d1, fd.2, List.set]
        rw [forV_nx (tg_one _ _ _) t, e]
        simp only [pv, hd, if_true]
      · refine ⟨some (.int (0 + (i : Int))), ?_⟩
        have t : ex cf lf c20W [x, some (.int n), some (.int p), some (.int (0 + (i : Int)))] R = .bk [x, some (.int n), some (.int p), some (.int (0 + (i : Int)))] R := by
          simp only [c20W, ex_seq, ex_ifS, ev_cmp, ev_bin, ev_var, ev_lit, List.getElem?_cons_zero, List.getElem?_cons_succ, bindV_val, bX_int, bin_mul, m1, if_true, bin_mod, p0, if_false, cX_int, cY_ne, cmp_ne, fd.1, decide_eq_false hd, Bool.not_false, liftO_some, bvS_val, fz_val, truth_bl, ex_brk]
        rw [forV_bk (tg_one _ _ _) t]
        simp only [pv, hd, if_false]
def bare (n : Int) : Int := (pv 49 40 (pv 25 40 (pv 9 40 (pv 4 40 n).2).2).2).2
theorem r20 (k : Nat) (n : Int) (R : Sto) (h : okN n) : EV.run Fs lf (k + 1) 20 [.int n] R = .ok (.val (.int (bare n))) R := by
  rw [run_at k 20 _ _ f20 (by decide) rfl]
  have hr : rngOk 0 40 = true := by decide
  have t : (40 - 0 : Int).toNat = 40 := rfl
  have one : ∀ (p q : Int) (hp : 2 ≤ p ∧ p ≤ 100) (hq : p * p = q) (n : Int) (y z : Option D) (x : Option D), n ≠ 0 → n.natAbs ≤ 1000000000 → ∃ z', ex (EV.run Fs lf k) lf (.seq (.forS [3] (.rng1 (.lit (.int 40))) c20W) .nop) [x, some (.int n), some (.int p), z] ([] :: R) = .nx [x, some (.int (pv q 40 n).2), some (.int p), z'] ([] :: R) ∧ (pv q 40 n).2 ≠ 0 ∧ (pv q 40 n).2.natAbs ≤ 1000000000 := by
    intro p q hp hq n y z x h0 h1
    obtain ⟨z', e⟩ := loop20 (EV.run Fs lf k) p hp x ([] :: R) 40 (List.range 40) n z h0 (by omega) (by simp)
    rw [hq] at e
    have sq : 4 ≤ p * p := Int.mul_le_mul (a := 2) (b := 2) hp.1 hp.1 (by decide) (by omega)
    obtain ⟨g1, g2, _⟩ := ne_of_pv q 40 n h0 (by omega)
    refine ⟨z', ?_, g1, by omega⟩
    simp only [ex_seq, ex_forS, ev_rng1, ev_lit, bindV_val, ik_rng1, itOf_two, hr, if_true, forI_vals, t]
    show (match forV _ _ ((List.range 40).map fun (i : Nat) => D.int (0 + (i : Int))) _ _ with | .nx σ1 R1 => _ | r => r) = _
    rw [e]
    simp only [ex_nop]
  obtain ⟨z1, e1, a1, b1⟩ := one 2 4 (by decide) rfl n none none (some (.int n)) h.1 (by have := h.2; omega)
  obtain ⟨z2, e2, a2, b2⟩ := one 3 9 (by decide) rfl _ none z1 (some (.int n)) a1 b1
  obtain ⟨z3, e3, a3, b3⟩ := one 5 25 (by decide) rfl _ none z2 (some (.int n)) a2 b2
  obtain ⟨z4, e4, a4, b4⟩ := one 7 49 (by decide) rfl _ none z3 (some (.int n)) a3 b3
  refine (if_pos (show [D.int n].length = f20.np from rfl)).trans ?_
  have code : f20.code = (.seq (.asg 1 (.blt .int1 (.cons (.var 0) .nil))) (.seq (.forS [2] (.tup (.cons (.lit (.int 2)) (.cons (.lit (.int 3)) (.cons (.lit (.int 5)) (.cons (.lit (.int 7)) .nil))))) (.seq (.forS [3] (.rng1 (.lit (.int 40))) c20W) .nop)) (.seq (.ret (.var 1)) .nop))) := rfl
  have hl : (4 : Nat) ≤ 100000 := by decide
  rw [code]
  rw [ex_seq]
  have s1 : ex (EV.run Fs lf k) lf (.asg 1 (.blt .int1 (.cons (.var 0) .nil))) (startD f20.nv [D.int n]) (List.replicate f20.pl O.dead :: R) = .nx [some (.int n), some (.int n), none, none] ([] :: R) := rfl
  rw [s1]
  dsimp only
  rw [ex_seq, ex_forS]
  have s2 : ev (EV.run Fs lf k) lf (.tup (.cons (.lit (.int 2)) (.cons (.lit (.int 3)) (.cons (.lit (.int 5)) (.cons (.lit (.int 7)) .nil))))) [some (D.int n), some (D.int n), none, none] ([] :: R) = .ok (.val (.tup [.int 2, .int 3, .int 5, .int 7])) ([] :: R) := rfl
  rw [s2]
  simp only [ik_tup, itOf_val, itD_tup, forI_vals]
  rw [forV_nx (tg_one _ _ _) e1, forV_nx (tg_one _ _ _) e2, forV_nx (tg_one _ _ _) e3, forV_nx (tg_one _ _ _) e4]
  rfl
/-! through all triples -/
theorem forV_find {α : Type} {g : D → En → Option En} {f : En → Sto → Res} {R : Sto} {rv : Rv} (h : α → D) (I : En → Prop) (P : α → Bool) : ∀ (l : List α), (∀ a ∈ l, ∀ σ, I σ → ∃ σ1, g (h a) σ = some σ1 ∧ (P a = true → f σ1 R = .rt rv R) ∧ (P a = false → ∃ σ2, I σ2 ∧ f σ1 R = .nx σ2 R)) →
    ∀ σ, I σ → (l.any P = true → forV g f (l.map h) σ R = .rt rv R) ∧ (l.any P = false → ∃ σ2, I σ2 ∧ forV g f (l.map h) σ R = .nx σ2 R)
  | [], _, σ, hI => ⟨fun z => by simp at z, fun _ => ⟨σ, hI, rfl⟩⟩
  | a :: l, hs, σ, hI => by
    obtain ⟨σ1, h1, h2, h3⟩ := hs a List.mem_cons_self σ hI
    cases hP : P a with
    | true =>
      refine ⟨fun _ => ?_, fun z => ?_⟩
      · rw [List.map_cons]
        exact forV_rt h1 (h2 hP)
      · rw [List.any_cons, hP] at z
        cases z
    | false =>
      obtain ⟨σ2, i2, e2⟩ := h3 hP
      obtain ⟨k1, k2⟩ := forV_find h I P l (fun b hb => hs b (List.mem_cons_of_mem _ hb)) σ2 i2
      rw [List.any_cons, hP, Bool.false_or, List.map_cons, forV_nx h1 e2]
      exact ⟨k1, k2⟩
def zs (P r : Nat) : List Nat := (List.range P).filter fun z => z * z % P == r
def nz (p x y z : Nat) : Bool := x % p != 0 || (y % p != 0 || z % p != 0)
def ta (P : Nat) (a b : Int) (p : Nat) : Bool := (List.range P).any fun x => (List.range P).any fun y => (zs P ((a * x * x + b * y * y) % (P : Int)).toNat).any fun z => nz p x y z
def c21Z : S := (.seq (.ifS (.orE (.cmp .NotEq (.bin .Mod (.var 7) (.var 2)) (.lit (.int 0))) (.orE (.cmp .NotEq (.bin .Mod (.var 8) (.var 2)) (.lit (.int 0))) (.cmp .NotEq (.bin .Mod (.var 5) (.var 2)) (.lit (.int 0)))))
            (.seq (.ret (.lit (.bl true)))
            .nop)
            .nop)
          .nop)
def c21K : C := (.dget (.var 4) (.bin .Mod (.blt .int1 (.cons (.bin .Add (.bin .Mult (.bin .Mult (.var 0) (.var 7)) (.var 7)) (.bin .Mult (.bin .Mult (.var 1) (.var 8)) (.var 8))) .nil)) (.var 3)) (.lst .nil))
def c21Y : S := (.seq (.forS [5] c21K c21Z) .nop)
def c21X : S := (.seq (.forS [8] (.rng1 (.var 3)) c21Y) .nop)
def c21R : S := (.forS [5] (.rng1 (.var 3))
      (.seq (.asg 6 (.bin .Mod (.blt .int1 (.cons (.bin .Mult (.var 5) (.var 5)) .nil)) (.var 3)))
      (.seq (.sets (.var 4) (.var 6) (.bin .Add (.dget (.var 4) (.var 6) (.lst .nil)) (.lst (.cons (.var 5) .nil))))
      .nop)))
theorem c21_eq : c21 = (.seq (.asg 3 (.ife (.cmp .Eq (.var 2) (.lit (.int 2))) (.lit (.int 32)) (.bin .Mult (.var 2) (.var 2)))) (.seq (.asgN 4 0 .dnew) (.seq c21R (.seq (.forS [7] (.rng1 (.var 3)) c21X) (.seq (.ret (.lit (.bl false))) .nop))))) := rfl
/-- the table of roots -/
structure Roots (P : Nat) (ks : List Key) (ds : List D) : Prop where
  look : ∀ r, r < P → (match lookK ks ds (.inl (r : Int)) with | some d => d | none => .lst []) = .lst ((zs P r).map fun (z : Nat) => D.int (z : Int))
theorem rng_ok {P : Nat} (h : P ≤ 1000) : rngOk 0 (P : Int) = true := by
  unfold rngOk
  exact decide_eq_true (by omega)
section
variable {P : Nat} {ks : List Key} {ds : List D}
theorem z_step (cf : Cf) (p x y : Nat) (hp : 2 ≤ p) (a b q rf : Option D) (R : Sto) (z : Nat) (σ : En) (hI : ∃ u w, σ = [a, b, some (.int (p : Int)), q, rf, u, w, some (.int (x : Int)), some (.int (y : Int))]) :
    ∃ σ1, setTg [5] (D.int (z : Int)) σ = some σ1 ∧ (nz p x y z = true → ex cf lf c21Z σ1 R = .rt (.val (.bl true)) R) ∧ (nz p x y z = false → ∃ σ2, (∃ u w, σ2 = [a, b, some (.int (p : Int)), q, rf, u, w, some (.int (x : Int)), some (.int (y : Int))]) ∧ ex cf lf c21Z σ1 R = .nx σ2 R) := by
  obtain ⟨u, w, rfl⟩ := hI
  have p0 : ¬ (p : Int) = 0 := by omega
  have fm : ∀ n : Nat, (n : Int).fmod (p : Int) = ((n % p : Nat) : Int) := fun n => by
    rw [(fdm n p (by omega)).1]
    rfl
  have cz : ∀ n : Nat, decide (((n % p : Nat) : Int) = 0) = (n % p == 0) := fun n => by
    by_cases h : n % p = 0
    · rw [h]; rfl
    · have : ¬ ((n % p : Nat) : Int) = 0 := by omega
      rw [decide_eq_false this]
      simp [h]
  have key : ex cf lf c21Z [a, b, some (.int (p : Int)), q, rf, some (.int (z : Int)), w, some (.int (x : Int)), some (.int (y : Int))] R = if nz p x y z then .rt (.val (.bl true)) R else .nx [a, b, some (.int (p : Int)), q, rf, some (.int (z : Int)), w, some (.int (x : Int)), some (.int (y : Int))] R := by
    obtain ⟨bx, hx⟩ : ∃ bx, (x % p == 0) = bx := ⟨_, rfl⟩
    obtain ⟨by', hy⟩ : ∃ bx, (y % p == 0) = bx := ⟨_, rfl⟩
    obtain ⟨bz, hz⟩ : ∃ bx, (z % p == 0) = bx := ⟨_, rfl⟩
    simp only [c21Z, ex_seq, ex_ifS, ev_orE, ev_cmp, ev_bin, ev_var, ev_lit, List.getElem?_cons_zero, List.getElem?_cons_succ, bindV_val, bX_int, bin_mod, p0, if_false, cX_int, cY_ne, cmp_ne, fm, cz, liftO_some, truth_bl, nz, bne, hx, hy, hz]
    clear hx hy hz
    cases bx <;> cases by' <;> cases bz <;> rfl
  refine ⟨[a, b, some (.int (p : Int)), q, rf, some (.int (z : Int)), w, some (.int (x : Int)), some (.int (y : Int))], tg_one _ _ _, fun h => ?_, fun h => ⟨_, ⟨some (.int (z : Int)), w, rfl⟩, ?_⟩⟩
  · rw [key, h]; rfl
  · rw [key, h]; rfl
theorem y_step (cf : Cf) (h : Roots P ks ds) (hP : 2 ≤ P ∧ P ≤ 1000) (p x : Nat) (hp : 2 ≤ p) (hx : x < P) (a b : Int) (ha : a.natAbs < 2 ^ 40) (hb : b.natAbs < 2 ^ 40) (R : Sto) (y : Nat) (hy : y < P) (σ : En)
    (hI : ∃ u w v, σ = [some (.int a), some (.int b), some (.int (p : Int)), some (.int (P : Int)), some (.ref 0 0), u, w, some (.int (x : Int)), v]) :
    ∃ σ1, setTg [8] (D.int (0 + (y : Int))) σ = some σ1 ∧ ((zs P ((a * x * x + b * y * y) % (P : Int)).toNat).any (fun z => nz p x y z) = true → ex cf lf c21Y σ1 ([.dct ks ds] :: R) = .rt (.val (.bl true)) ([.dct ks ds] :: R)) ∧
      ((zs P ((a * x * x + b * y * y) % (P : Int)).toNat).any (fun z => nz p x y z) = false → ∃ σ2, (∃ u w v, σ2 = [some (.int a), some (.int b), some (.int (p : Int)), some (.int (P : Int)), some (.ref 0 0), u, w, some (.int (x : Int)), v]) ∧ ex cf lf c21Y σ1 ([.dct ks ds] :: R) = .nx σ2 ([.dct ks ds] :: R)) := by
  obtain ⟨u, w, v, rfl⟩ := hI
  refine ⟨[some (.int a), some (.int b), some (.int (p : Int)), some (.int (P : Int)), some (.ref 0 0), u, w, some (.int (x : Int)), some (.int (y : Int))], by rw [Int.zero_add]; exact tg_one _ _ _, ?_⟩
  have mx : ∀ (c : Int) (n : Nat), c.natAbs < 2 ^ 40 → n < 1000 → mulOk c (n : Int) = true ∧ mulOk (c * n) (n : Int) = true := fun c n h1 h2 => by
    refine ⟨mulOk_of (n := 40) (m := 20) h1 (by omega) (by decide), mulOk_of (n := 60) (m := 20) ?_ (by omega) (by decide)⟩
    rw [Int.natAbs_mul]
    have : c.natAbs * (n : Int).natAbs < 2 ^ 40 * 2 ^ 20 := Nat.mul_lt_mul'' h1 (by omega)
    omega
  obtain ⟨x1, x2⟩ := mx a x ha (by omega)
  obtain ⟨y1, y2⟩ := mx b y hb (by omega)
  have p0 : ¬ (P : Int) = 0 := by omega
  have hm : ((a * x * x + b * y * y).fmod (P : Int)) = ((((a * x * x + b * y * y) % (P : Int)).toNat : Nat) : Int) := by
    rw [(fdm _ _ (by omega)).1, Int.toNat_of_nonneg (Int.emod_nonneg _ p0)]
  have hlt : ((a * x * x + b * y * y) % (P : Int)).toNat < P := by
    have := Int.emod_lt_of_pos (a * x * x + b * y * y) (by omega : 0 < (P : Int))
    have := Int.emod_nonneg (a * x * x + b * y * y) p0
    omega
  have hl := h.look _ hlt
  generalize ((a * x * x + b * y * y) % (P : Int)).toNat = r at *
  have ek : ev cf lf c21K [some (.int a), some (.int b), some (.int (p : Int)), some (.int (P : Int)), some (.ref 0 0), u, w, some (.int (x : Int)), some (.int (y : Int))] ([.dct ks ds] :: R) = .ok (.val (.lst ((zs P r).map fun (z : Nat) => D.int (z : Int)))) ([.dct ks ds] :: R) := by
    have g0 : sget ([O.dct ks ds] :: R) 0 0 = some (.dct ks ds) := rfl
    simp only [c21K, ev_dget, ev_bin, ev_blt, ev_cons, ev_nil, ev_var, ev_lst, List.getElem?_cons_zero, List.getElem?_cons_succ, bindV_val, isDct_Dk _ _ _ _ g0, if_true, bX_int, bin_mul, x1, x2, y1, y2, bin_add, bindA_many, bltX_int, blt_int, bin_mod, p0, if_false, hm, byvL_nil, List.length_nil, Nat.zero_le, bindV_new, fzO_lst, dctGet_Dk _ _ _ _ _ g0]
    cases hk : lookK ks ds (Sum.inl (r : Int)) with
    | none => rw [hk] at hl; simp only at hl; rw [← hl]
    | some d => rw [hk] at hl; simp only at hl; rw [← hl]
  have find := forV_find (R := [.dct ks ds] :: R) (g := setTg [5]) (f := ex cf lf c21Z) (rv := .val (.bl true)) (fun (z : Nat) => D.int (z : Int)) (fun σ => ∃ u w, σ = [some (.int a), some (.int b), some (.int (p : Int)), some (.int (P : Int)), some (.ref 0 0), u, w, some (.int (x : Int)), some (.int (y : Int))]) (fun z => nz p x y z) (zs P r)
    (fun z _ σ hI => z_step cf p x y hp _ _ _ _ _ z σ hI) _ ⟨u, w, rfl⟩
  have eY : ex cf lf c21Y [some (.int a), some (.int b), some (.int (p : Int)), some (.int (P : Int)), some (.ref 0 0), u, w, some (.int (x : Int)), some (.int (y : Int))] ([.dct ks ds] :: R) = match forV (setTg [5]) (ex cf lf c21Z) ((zs P r).map fun (z : Nat) => D.int (z : Int)) [some (.int a), some (.int b), some (.int (p : Int)), some (.int (P : Int)), some (.ref 0 0), u, w, some (.int (x : Int)), some (.int (y : Int))] ([.dct ks ds] :: R) with
      | .nx σ1 R1 => .nx σ1 R1
      | r => r := by
    rw [c21Y, ex_seq, ex_forS, ek]
    have i : ik c21K = .val := rfl
    simp only [i, itOf_val, itD_lst, forI_vals]
    rfl
  refine ⟨fun hh => ?_, fun hh => ?_⟩
  · rw [eY, find.1 hh]
  · obtain ⟨σ2, ⟨u2, w2, e2⟩, e3⟩ := find.2 hh
    refine ⟨σ2, ⟨u2, w2, some (.int (y : Int)), e2⟩, ?_⟩
    rw [eY, e3]
theorem x_eq (cf : Cf) (q : Int) (hr : rngOk 0 q = true) (tn : (q - 0).toNat = P) (a b p u w x v : Option D) (R : Sto) : ex cf lf c21X [a, b, p, some (.int q), some (.ref 0 0), u, w, x, v] R = match forV (setTg [8]) (ex cf lf c21Y) ((List.range P).map fun (y : Nat) => D.int (0 + (y : Int))) [a, b, p, some (.int q), some (.ref 0 0), u, w, x, v] R with
      | .nx σ1 R1 => .nx σ1 R1
      | r => r := by
  rw [c21X, ex_seq, ex_forS]
  simp only [ev_rng1, ev_var, List.getElem?_cons_zero, List.getElem?_cons_succ, bindV_val, ik_rng1, itOf_two, hr, if_true, forI_vals, tn]
  rfl
theorem xx_eq (cf : Cf) (q : Int) (hr : rngOk 0 q = true) (tn : (q - 0).toNat = P) (a b p u w x v : Option D) (R : Sto) : ex cf lf (.seq (.forS [7] (.rng1 (.var 3)) c21X) (.seq (.ret (.lit (.bl false))) .nop)) [a, b, p, some (.int q), some (.ref 0 0), u, w, x, v] R = match forV (setTg [7]) (ex cf lf c21X) ((List.range P).map fun (y : Nat) => D.int (0 + (y : Int))) [a, b, p, some (.int q), some (.ref 0 0), u, w, x, v] R with
      | .nx σ1 R1 => .rt (.val (.bl false)) R1
      | r => r := by
  rw [ex_seq, ex_forS]
  simp only [ev_rng1, ev_var, List.getElem?_cons_zero, List.getElem?_cons_succ, bindV_val, ik_rng1, itOf_two, hr, if_true, forI_vals, tn]
  rfl
theorem x_step (cf : Cf) (h : Roots P ks ds) (hP : 2 ≤ P ∧ P ≤ 1000) (p : Nat) (hp : 2 ≤ p) (a b : Int) (ha : a.natAbs < 2 ^ 40) (hb : b.natAbs < 2 ^ 40) (R : Sto) (x : Nat) (hx : x < P) (σ : En)
    (hI : ∃ u w v t, σ = [some (.int a), some (.int b), some (.int (p : Int)), some (.int (P : Int)), some (.ref 0 0), u, w, t, v]) :
    ∃ σ1, setTg [7] (D.int (0 + (x : Int))) σ = some σ1 ∧ ((List.range P).any (fun y => (zs P ((a * x * x + b * y * y) % (P : Int)).toNat).any fun z => nz p x y z) = true → ex cf lf c21X σ1 ([.dct ks ds] :: R) = .rt (.val (.bl true)) ([.dct ks ds] :: R)) ∧
      ((List.range P).any (fun y => (zs P ((a * x * x + b * y * y) % (P : Int)).toNat).any fun z => nz p x y z) = false → ∃ σ2, (∃ u w v t, σ2 = [some (.int a), some (.int b), some (.int (p : Int)), some (.int (P : Int)), some (.ref 0 0), u, w, t, v]) ∧ ex cf lf c21X σ1 ([.dct ks ds] :: R) = .nx σ2 ([.dct ks ds] :: R)) := by
  obtain ⟨u, w, v, t, rfl⟩ := hI
  refine ⟨[some (.int a), some (.int b), some (.int (p : Int)), some (.int (P : Int)), some (.ref 0 0), u, w, some (.int (x : Int)), v], by rw [Int.zero_add]; exact tg_one _ _ _, ?_⟩
  have find := forV_find (R := [.dct ks ds] :: R) (g := setTg [8]) (f := ex cf lf c21Y) (rv := .val (.bl true)) (fun (y : Nat) => D.int (0 + (y : Int))) (fun σ => ∃ u w v, σ = [some (.int a), some (.int b), some (.int (p : Int)), some (.int (P : Int)), some (.ref 0 0), u, w, some (.int (x : Int)), v]) (fun y => (zs P ((a * x * x + b * y * y) % (P : Int)).toNat).any fun z => nz p x y z) (List.range P)
    (fun y hy σ hI => y_step cf h hP p x hp hx a b ha hb R y (List.mem_range.mp hy) σ hI) _ ⟨u, w, v, rfl⟩
  have eX := x_eq (P := P) cf (P : Int) (rng_ok hP.2) (by omega) (some (.int a)) (some (.int b)) (some (.int (p : Int))) u w (some (.int (x : Int))) v ([.dct ks ds] :: R)
  refine ⟨fun hh => ?_, fun hh => ?_⟩
  · rw [eX, find.1 hh]
  · obtain ⟨σ2, ⟨u2, w2, v2, e2⟩, e3⟩ := find.2 hh
    refine ⟨σ2, ⟨u2, w2, v2, some (.int (x : Int)), e2⟩, ?_⟩
    rw [eX, e3]
theorem x_all (cf : Cf) (h : Roots P ks ds) (hP : 2 ≤ P ∧ P ≤ 1000) (p : Nat) (hp : 2 ≤ p) (a b : Int) (ha : a.natAbs < 2 ^ 40) (hb : b.natAbs < 2 ^ 40) (R : Sto) (u w t v : Option D) :
    finR (ex cf lf (.seq (.forS [7] (.rng1 (.var 3)) c21X) (.seq (.ret (.lit (.bl false))) .nop)) [some (.int a), some (.int b), some (.int (p : Int)), some (.int (P : Int)), some (.ref 0 0), u, w, t, v] ([.dct ks ds] :: R)) = .ok (.val (.bl (ta P a b p))) R := by
  have find := forV_find (R := [.dct ks ds] :: R) (g := setTg [7]) (f := ex cf lf c21X) (rv := .val (.bl true)) (fun (y : Nat) => D.int (0 + (y : Int))) (fun σ => ∃ u w v t, σ = [some (.int a), some (.int b), some (.int (p : Int)), some (.int (P : Int)), some (.ref 0 0), u, w, t, v]) (fun x => (List.range P).any fun y => (zs P ((a * x * x + b * y * y) % (P : Int)).toNat).any fun z => nz p x y z) (List.range P)
    (fun x hx σ hI => x_step cf h hP p hp a b ha hb R x (List.mem_range.mp hx) σ hI) _ ⟨u, w, v, t, rfl⟩
  rw [xx_eq (P := P) cf (P : Int) (rng_ok hP.2) (by omega)]
  cases ht : ta P a b p with
  | true => rw [find.1 ht]; rfl
  | false =>
    obtain ⟨σ2, ⟨u2, w2, v2, t2, e2⟩, e3⟩ := find.2 ht
    rw [e3, e2]
    rfl
end
end K03

namespace K03
open PySem PySem.Spec PyProof.Rows L2 EV
def ks32 : List Key := [.inl 0, .inl 1, .inl 4, .inl 9, .inl 16, .inl 25, .inl 17]
def ds32 : List D := [.lst [.int 0, .int 8, .int 16, .int 24], .lst [.int 1, .int 15, .int 17, .int 31], .lst [.int 2, .int 6, .int 10, .int 14, .int 18, .int 22, .int 26, .int 30], .lst [.int 3, .int 13, .int 19, .int 29], .lst [.int 4, .int 12, .int 20, .int 28], .lst [.int 5, .int 11, .int 21, .int 27], .lst [.int 7, .int 9, .int 23, .int 25]]
theorem look32 : ∀ r : Nat, r < 32 → (match lookK ks32 ds32 (.inl (r : Int)) with | some d => d | none => .lst []) = .lst ((zs 32 r).map fun (z : Nat) => D.int (z : Int))
  | 0, _ => by kernel_rfl
  | 1, _ => by kernel_rfl
  | 2, _ => by kernel_rfl
  | 3, _ => by kernel_rfl
  | 4, _ => by kernel_rfl
  | 5, _ => by kernel_rfl
  | 6, _ => by kernel_rfl
  | 7, _ => by kernel_rfl
  | 8, _ => by kernel_rfl
  | 9, _ => by kernel_rfl
  | 10, _ => by kernel_rfl
  | 11, _ => by kernel_rfl
  | 12, _ => by kernel_rfl
  | 13, _ => by kernel_rfl
  | 14, _ => by kernel_rfl
  | 15, _ => by kernel_rfl
  | 16, _ => by kernel_rfl
  | 17, _ => by kernel_rfl
  | 18, _ => by kernel_rfl
  | 19, _ => by kernel_rfl
  | 20, _ => by kernel_rfl
  | 21, _ => by kernel_rfl
  | 22, _ => by kernel_rfl
  | 23, _ => by kernel_rfl
  | 24, _ => by kernel_rfl
  | 25, _ => by kernel_rfl
  | 26, _ => by kernel_rfl
  | 27, _ => by kernel_rfl
  | 28, _ => by kernel_rfl
  | 29, _ => by kernel_rfl
  | 30, _ => by kernel_rfl
  | 31, _ => by kernel_rfl
  | r + 32, h => absurd h (by omega)
theorem roots32 : Roots 32 ks32 ds32 := ⟨look32⟩
theorem mk32 (cf : Cf) (a b : Int) (R : Sto) : ex cf lf c21R [some (.int a), some (.int b), some (.int 2), some (.int 32), some (.ref 0 0), none, none, none, none] ([.dct [] []] :: R) = .nx [some (.int a), some (.int b), some (.int 2), some (.int 32), some (.ref 0 0), some (.int 31), some (.int 1), none, none] ([.dct ks32 ds32] :: R) := by kernel_rfl
theorem r21_32 (k : Nat) (a b : Int) (R : Sto) (ha : a.natAbs < 2 ^ 40) (hb : b.natAbs < 2 ^ 40) : EV.run Fs lf (k + 1) 21 [.int a, .int b, .int 2] R = .ok (.val (.bl (ta 32 a b 2))) R := by
  rw [run_at k 21 _ _ f21 (by decide) rfl]
  refine (if_pos (show [D.int a, D.int b, D.int 2].length = f21.np from rfl)).trans ?_
  show finR (ex _ _ c21 _ _) = _
  rw [c21_eq, ex_seq]
  have s1 : ex (EV.run Fs lf k) lf (.asg 3 (.ife (.cmp .Eq (.var 2) (.lit (.int 2))) (.lit (.int 32)) (.bin .Mult (.var 2) (.var 2)))) (startD f21.nv [D.int a, D.int b, D.int 2]) (List.replicate f21.pl O.dead :: R) = .nx [some (.int a), some (.int b), some (.int 2), some (.int 32), none, none, none, none, none] ([.dead] :: R) := rfl
  rw [s1]
  dsimp only
  rw [ex_seq]
  have s2 : ex (EV.run Fs lf k) lf (.asgN 4 0 .dnew) [some (.int a), some (.int b), some (.int 2), some (.int 32), none, none, none, none, none] ([.dead] :: R) = .nx [some (.int a), some (.int b), some (.int 2), some (.int 32), some (.ref 0 0), none, none, none, none] ([.dct [] []] :: R) := rfl
  rw [s2]
  dsimp only
  rw [ex_seq, mk32]
  exact x_all _ roots32 (by decide) 2 (by decide) a b ha hb R _ _ _ _
def ks9 : List Key := [.inl 0, .inl 1, .inl 4, .inl 7]
def ds9 : List D := [.lst [.int 0, .int 3, .int 6], .lst [.int 1, .int 8], .lst [.int 2, .int 7], .lst [.int 4, .int 5]]
theorem look9 : ∀ r : Nat, r < 9 → (match lookK ks9 ds9 (.inl (r : Int)) with | some d => d | none => .lst []) = .lst ((zs 9 r).map fun (z : Nat) => D.int (z : Int))
  | 0, _ => by kernel_rfl
  | 1, _ => by kernel_rfl
  | 2, _ => by kernel_rfl
  | 3, _ => by kernel_rfl
  | 4, _ => by kernel_rfl
  | 5, _ => by kernel_rfl
  | 6, _ => by kernel_rfl
  | 7, _ => by kernel_rfl
  | 8, _ => by kernel_rfl
  | r + 9, h => absurd h (by omega)
theorem roots9 : Roots 9 ks9 ds9 := ⟨look9⟩
theorem mk9 (cf : Cf) (a b : Int) (R : Sto) : ex cf lf c21R [some (.int a), some (.int b), some (.int 3), some (.int 9), some (.ref 0 0), none, none, none, none] ([.dct [] []] :: R) = .nx [some (.int a), some (.int b), some (.int 3), some (.int 9), some (.ref 0 0), some (.int 8), some (.int 1), none, none] ([.dct ks9 ds9] :: R) := by kernel_rfl
theorem r21_9 (k : Nat) (a b : Int) (R : Sto) (ha : a.natAbs < 2 ^ 40) (hb : b.natAbs < 2 ^ 40) : EV.run Fs lf (k + 1) 21 [.int a, .int b, .int 3] R = .ok (.val (.bl (ta 9 a b 3))) R := by
  rw [run_at k 21 _ _ f21 (by decide) rfl]
  refine (if_pos (show [D.int a, D.int b, D.int 3].length = f21.np from rfl)).trans ?_
  show finR (ex _ _ c21 _ _) = _
  rw [c21_eq, ex_seq]
  have s1 : ex (EV.run Fs lf k) lf (.asg 3 (.ife (.cmp .Eq (.var 2) (.lit (.int 2))) (.lit (.int 32)) (.bin .Mult (.var 2) (.var 2)))) (startD f21.nv [D.int a, D.int b, D.int 3]) (List.replicate f21.pl O.dead :: R) = .nx [some (.int a), some (.int b), some (.int 3), some (.int 9), none, none, none, none, none] ([.dead] :: R) := rfl
  rw [s1]
  dsimp only
  rw [ex_seq]
  have s2 : ex (EV.run Fs lf k) lf (.asgN 4 0 .dnew) [some (.int a), some (.int b), some (.int 3), some (.int 9), none, none, none, none, none] ([.dead] :: R) = .nx [some (.int a), some (.int b), some (.int 3), some (.int 9), some (.ref 0 0), none, none, none, none] ([.dct [] []] :: R) := rfl
  rw [s2]
  dsimp only
  rw [ex_seq, mk9]
  exact x_all _ roots9 (by decide) 3 (by decide) a b ha hb R _ _ _ _
def ks25 : List Key := [.inl 0, .inl 1, .inl 4, .inl 9, .inl 16, .inl 11, .inl 24, .inl 14, .inl 6, .inl 21, .inl 19]
def ds25 : List D := [.lst [.int 0, .int 5, .int 10, .int 15, .int 20], .lst [.int 1, .int 24], .lst [.int 2, .int 23], .lst [.int 3, .int 22], .lst [.int 4, .int 21], .lst [.int 6, .int 19], .lst [.int 7, .int 18], .lst [.int 8, .int 17], .lst [.int 9, .int 16], .lst [.int 11, .int 14], .lst [.int 12, .int 13]]
theorem look25 : ∀ r : Nat, r < 25 → (match lookK ks25 ds25 (.inl (r : Int)) with | some d => d | none => .lst []) = .lst ((zs 25 r).map fun (z : Nat) => D.int (z : Int))
  | 0, _ => by kernel_rfl
  | 1, _ => by kernel_rfl
  | 2, _ => by kernel_rfl
  | 3, _ => by kernel_rfl
  | 4, _ => by kernel_rfl
  | 5, _ => by kernel_rfl
  | 6, _ => by kernel_rfl
  | 7, _ => by kernel_rfl
  | 8, _ => by kernel_rfl
  | 9, _ => by kernel_rfl
  | 10, _ => by kernel_rfl
  | 11, _ => by kernel_rfl
  | 12, _ => by kernel_rfl
  | 13, _ => by kernel_rfl
  | 14, _ => by kernel_rfl
  | 15, _ => by kernel_rfl
  | 16, _ => by kernel_rfl
  | 17, _ => by kernel_rfl
  | 18, _ => by kernel_rfl
  | 19, _ => by kernel_rfl
  | 20, _ => by kernel_rfl
  | 21, _ => by kernel_rfl
  | 22, _ => by kernel_rfl
  | 23, _ => by kernel_rfl
  | 24, _ => by kernel_rfl
  | r + 25, h => absurd h (by omega)
theorem roots25 : Roots 25 ks25 ds25 := ⟨look25⟩
theorem mk25 (cf : Cf) (a b : Int) (R : Sto) : ex cf lf c21R [some (.int a), some (.int b), some (.int 5), some (.int 25), some (.ref 0 0), none, none, none, none] ([.dct [] []] :: R) = .nx [some (.int a), some (.int b), some (.int 5), some (.int 25), some (.ref 0 0), some (.int 24), some (.int 1), none, none] ([.dct ks25 ds25] :: R) := by kernel_rfl
theorem r21_25 (k : Nat) (a b : Int) (R : Sto) (ha : a.natAbs < 2 ^ 40) (hb : b.natAbs < 2 ^ 40) : EV.run Fs lf (k + 1) 21 [.int a, .int b, .int 5] R = .ok (.val (.bl (ta 25 a b 5))) R := by
  rw [run_at k 21 _ _ f21 (by decide) rfl]
  refine (if_pos (show [D.int a, D.int b, D.int 5].length = f21.np from rfl)).trans ?_
  show finR (ex _ _ c21 _ _) = _
  rw [c21_eq, ex_seq]
  have s1 : ex (EV.run Fs lf k) lf (.asg 3 (.ife (.cmp .Eq (.var 2) (.lit (.int 2))) (.lit (.int 32)) (.bin .Mult (.var 2) (.var 2)))) (startD f21.nv [D.int a, D.int b, D.int 5]) (List.replicate f21.pl O.dead :: R) = .nx [some (.int a), some (.int b), some (.int 5), some (.int 25), none, none, none, none, none] ([.dead] :: R) := rfl
  rw [s1]
  dsimp only
  rw [ex_seq]
  have s2 : ex (EV.run Fs lf k) lf (.asgN 4 0 .dnew) [some (.int a), some (.int b), some (.int 5), some (.int 25), none, none, none, none, none] ([.dead] :: R) = .nx [some (.int a), some (.int b), some (.int 5), some (.int 25), some (.ref 0 0), none, none, none, none] ([.dct [] []] :: R) := rfl
  rw [s2]
  dsimp only
  rw [ex_seq, mk25]
  exact x_all _ roots25 (by decide) 5 (by decide) a b ha hb R _ _ _ _
end K03

namespace K03
open PySem PySem.Spec PyProof.Rows L2 EV
/-! solvable: by the rests of squares -/
def tn (P : Nat) (a b p : Nat) : Bool := (List.range P).any fun x => (List.range P).any fun y => (zs P ((a * x * x + b * y * y) % P)).any fun z => nz p x y z
theorem res_eq (P x y : Nat) (hP : 0 < P) (a b : Int) : ((a * x * x + b * y * y) % (P : Int)).toNat = ((a % (P : Int)).toNat * x * x + (b % (P : Int)).toNat * y * y) % P := by
  have p0 : (P : Int) ≠ 0 := by omega
  have ha : (((a % (P : Int)).toNat : Nat) : Int) = a % (P : Int) := Int.toNat_of_nonneg (Int.emod_nonneg _ p0)
  have hb : (((b % (P : Int)).toNat : Nat) : Int) = b % (P : Int) := Int.toNat_of_nonneg (Int.emod_nonneg _ p0)
  have e : ((((a % (P : Int)).toNat * x * x + (b % (P : Int)).toNat * y * y) % P : Nat) : Int) = (a * x * x + b * y * y) % (P : Int) := by
    rw [Int.natCast_emod, Int.natCast_add, Int.natCast_mul, Int.natCast_mul, Int.natCast_mul, Int.natCast_mul, ha, hb]
    simp only [Int.add_emod, Int.mul_emod, Int.emod_emod_of_dvd _ (Int.dvd_refl _)]
  rw [← e]
  exact Int.toNat_natCast _
theorem ta_tn (P p : Nat) (hP : 0 < P) (a b : Int) : ta P a b p = tn P (a % (P : Int)).toNat (b % (P : Int)).toNat p := by
  unfold ta tn
  simp only [res_eq P _ _ hP]
structure SqOk (P p : Nat) (S : List Nat) : Prop where
  a : ∀ x, x < P → x * x % P ∈ S
  b : ∀ X, X ∈ S → ∃ x, x < P ∧ x * x % P = X
  c : ∀ x, x < P → (x % p != 0) = (x * x % P % p != 0)
def tq (P p : Nat) (S : List Nat) (a b : Nat) : Bool := S.any fun X => S.any fun Y => S.any fun Z => Nat.beq ((a * X + b * Y) % P) Z && nz p X Y Z
theorem sq_res (P a b x y : Nat) : (a * (x * x % P) + b * (y * y % P)) % P = (a * x * x + b * y * y) % P := by
  rw [Nat.mul_assoc a x x, Nat.mul_assoc b y y]
  simp only [Nat.add_mod, Nat.mul_mod, Nat.mod_mod]
theorem tn_tq {P p : Nat} {S : List Nat} (h : SqOk P p S) (a b : Nat) : tn P a b p = tq P p S a b := by
  have nzs : ∀ x y z, x < P → y < P → z < P → nz p x y z = nz p (x * x % P) (y * y % P) (z * z % P) := fun x y z hx hy hz => by
    unfold nz
    rw [h.c x hx, h.c y hy, h.c z hz]
  rw [Bool.eq_iff_iff]
  unfold tn tq zs
  simp only [List.any_eq_true, List.mem_range, List.mem_filter, Bool.and_eq_true, beq_iff_eq, Nat.beq_eq]
  constructor
  · rintro ⟨x, hx, y, hy, z, ⟨hz, e⟩, n⟩
    refine ⟨_, h.a x hx, _, h.a y hy, _, h.a z hz, ?_, ?_⟩
    · rw [sq_res, e]
    · rw [← nzs x y z hx hy hz]
      exact n
  · rintro ⟨X, hX, Y, hY, Z, hZ, e, n⟩
    obtain ⟨x, hx, rfl⟩ := h.b X hX
    obtain ⟨y, hy, rfl⟩ := h.b Y hY
    obtain ⟨z, hz, rfl⟩ := h.b Z hZ
    refine ⟨x, hx, y, hy, z, ⟨hz, ?_⟩, ?_⟩
    · rw [← e, sq_res]
    · rw [nzs x y z hx hy hz]
      exact n
/-! what of a number its sign needs -/
def key (p n : Int) : Int × Int × Int := if p = 2 then (((pv p 200 n).1 : Int) % 2, (((pv p 200 n).2 - 1) / 2) % 2, (((pv p 200 n).2 * (pv p 200 n).2 - 1) / 8) % 2) else (((pv p 200 n).1 : Int) % 2, rs p (pv p 200 n).2, 0)
def sk (p : Int) (A B : Int × Int × Int) : Int := if p = 2 then (if (A.2.1 * B.2.1 + A.1 * B.2.2 + B.1 * A.2.2) % 2 = 0 then 1 else -1) else (if A.1 * B.1 = 1 then rs p (-1) else 1) * (if B.1 = 1 then A.2.1 else 1) * (if A.1 = 1 then B.2.1 else 1)
theorem mod2 (a b c d e f : Int) : (a % 2 * (b % 2) + c % 2 * (d % 2) + e % 2 * (f % 2)) % 2 = (a * b + c * d + e * f) % 2 := by
  simp only [Int.add_emod, Int.mul_emod, Int.emod_emod_of_dvd _ (Int.dvd_refl _)]
theorem sp_sk (p a b : Int) : sp p (pv p 200 a) (pv p 200 b) = sk p (key p a) (key p b) := by
  unfold sp sk key
  by_cases h : p = 2
  · simp only [if_pos h, s2]
    rw [mod2]
  · simp only [if_neg h, so]
    have e1 : ∀ m : Nat, ((m : Int) % 2 = 1) = (m % 2 = 1) := fun m => by
      rw [eq_iff_iff]
      omega
    have e2 : ∀ m n : Nat, ((m : Int) % 2 * ((n : Int) % 2) = 1) = ((m * n) % 2 = 1) := fun m n => by
      rw [eq_iff_iff, Nat.mul_mod]
      have h1 : m % 2 = 0 ∨ m % 2 = 1 := by omega
      have h2 : n % 2 = 0 ∨ n % 2 = 1 := by omega
      have g1 : (m : Int) % 2 = ((m % 2 : Nat) : Int) := rfl
      have g2 : (n : Int) % 2 = ((n % 2 : Nat) : Int) := rfl
      rw [g1, g2]
      rcases h1 with h1 | h1 <;> rcases h2 with h2 | h2 <;> rw [h1, h2] <;> decide
    simp only [e1, e2]
/-! the finite checks -/
def rests (P p : Nat) : List Nat := (List.range P).filter fun a => a % (p * p) != 0
def chk1 (P p : Nat) (S : List Nat) : Bool := (rests P p).all fun a => (rests P p).all fun b => decide (sk p (key p a) (key p b) = 1) == tq P p S a b
def chkN (P p : Nat) (n : Int) : Bool := ((bare n % (P : Int)).toNat % (p * p) != 0) && decide (key p (bare n % (P : Int)) = key p n)
def chkD (n : Int) : Bool := decide (n ≠ 0) && decide (-1000000000 ≤ n) && decide (n ≤ 1000000000) && chkN 32 2 n && chkN 9 3 n && chkN 25 5 n
def S32 : List Nat := [0, 1, 4, 9, 16, 17, 25]
theorem sq32 : SqOk 32 2 S32 := ⟨by decide +kernel, by decide +kernel, by decide +kernel⟩
theorem one32 : chk1 32 2 S32 = true := by decide +kernel
def S9 : List Nat := [0, 1, 4, 7]
theorem sq9 : SqOk 9 3 S9 := ⟨by decide +kernel, by decide +kernel, by decide +kernel⟩
theorem one9 : chk1 9 3 S9 = true := by decide +kernel
def S25 : List Nat := [0, 1, 4, 6, 9, 11, 14, 16, 19, 21, 24]
theorem sq25 : SqOk 25 5 S25 := ⟨by decide +kernel, by decide +kernel, by decide +kernel⟩
theorem one25 : chk1 25 5 S25 = true := by decide +kernel
def Lm : Nat → List Int
  | 0 => [1]
  | 1 => [2, 3, 4, 5, 7, 9]
  | 2 => [4, 6, 8, 9, 10, 12, 14, 15, 16, 18, 20, 21, 25, 27, 28, 35, 36, 45, 49, 63, 81]
  | 3 => [8, 12, 16, 18, 20, 24, 27, 28, 30, 32, 36, 40, 42, 45, 48, 50, 54, 56, 60, 63, 64, 70, 72, 75, 80, 81, 84, 90, 98, 100, 105, 108, 112, 125, 126, 135, 140, 144, 147, 162, 175, 180, 189, 196, 225, 243, 245, 252, 315, 324, 343, 405, 441, 567, 729]
  | _ => [16, 24, 32, 36, 40, 48, 54, 56, 60, 64, 72, 80, 81, 84, 90, 96, 100, 108, 112, 120, 126, 128, 135, 140, 144, 150, 160, 162, 168, 180, 189, 192, 196, 200, 210, 216, 224, 225, 240, 243, 250, 252, 256, 270, 280, 288, 294, 300, 315, 320, 324, 336, 350, 360, 375, 378, 392, 400, 405, 420, 432, 441, 448, 450, 486, 490, 500, 504, 525, 540, 560, 567, 576, 588, 625, 630, 648, 675, 686, 700, 720, 729, 735, 756, 784, 810, 875, 882, 900, 945, 972, 980, 1008, 1029, 1125, 1134, 1215, 1225, 1260, 1296, 1323, 1372, 1458, 1575, 1620, 1701, 1715, 1764, 2025, 2187, 2205, 2268, 2401, 2835, 2916, 3087, 3645, 3969, 5103, 6561]
def cs : List Int := [1, 2, 3, 4, 5, 6, 7, 8, 9, 10, 11, 12, -1, -2, -3, -4, -5, -6, -7, -8, -9, -10, -11, -12]
def fs : List Int := [2, 3, 5, 7, 4, 9]
theorem Lm_next : ∀ m, m < 4 → ∀ x ∈ Lm m, ∀ f ∈ fs, x * f ∈ Lm (m + 1) := by decide +kernel
theorem all0 : (cs.all fun c => (Lm 0).all fun x => chkD (c * x)) = true := by decide +kernel
theorem all1 : (cs.all fun c => (Lm 1).all fun x => chkD (c * x)) = true := by decide +kernel
theorem all2 : (cs.all fun c => (Lm 2).all fun x => chkD (c * x)) = true := by decide +kernel
theorem all3 : (cs.all fun c => (Lm 3).all fun x => chkD (c * x)) = true := by decide +kernel
theorem all4 : (cs.all fun c => (Lm 4).all fun x => chkD (c * x)) = true := by decide +kernel
theorem all_m (m : Nat) (hm : m ≤ 4) {c x : Int} (hc : c ∈ cs) (hx : x ∈ Lm m) : chkD (c * x) = true := by
  have : (cs.all fun c => (Lm m).all fun x => chkD (c * x)) = true := by
    match m, hm with
    | 0, _ => exact all0
    | 1, _ => exact all1
    | 2, _ => exact all2
    | 3, _ => exact all3
    | 4, _ => exact all4
  exact List.all_eq_true.mp (List.all_eq_true.mp this c hc) x hx
end K03

namespace K03
open PySem PySem.Spec PyProof.Rows L2 EV
/-! drawn numbers -/
def Drawn (n : Int) : Prop := ∃ (m : Nat) (c x : Int), m ≤ 4 ∧ c ∈ cs ∧ x ∈ Lm m ∧ n = c * x
theorem drawn_chk {n : Int} (h : Drawn n) : chkD n = true := by
  obtain ⟨m, c, x, hm, hc, hx, rfl⟩ := h
  exact all_m m hm hc hx
theorem drawn_ok {n : Int} (h : Drawn n) : okN n ∧ chkN 32 2 n = true ∧ chkN 9 3 n = true ∧ chkN 25 5 n = true := by
  have := drawn_chk h
  simp only [chkD, Bool.and_eq_true, decide_eq_true_eq] at this
  obtain ⟨⟨⟨⟨⟨h1, h2⟩, h3⟩, h4⟩, h5⟩, h6⟩ := this
  exact ⟨⟨h1, h2, h3⟩, h4, h5, h6⟩
theorem bare_b {n : Int} (h : okN n) : (bare n).natAbs < 2 ^ 40 := by
  have h0 : n.natAbs ≤ 1000000000 := by have := h.2; omega
  obtain ⟨a1, a2, _⟩ := ne_of_pv 4 40 n h.1 (by decide)
  obtain ⟨b1, b2, _⟩ := ne_of_pv 9 40 _ a1 (by decide)
  obtain ⟨c1, c2, _⟩ := ne_of_pv 25 40 _ b1 (by decide)
  obtain ⟨d1, d2, _⟩ := ne_of_pv 49 40 _ c1 (by decide)
  unfold bare
  omega
theorem chkN_key {P p : Nat} (hP : 0 < P) {n : Int} (h : chkN P p n = true) : (bare n % (P : Int)).toNat ∈ rests P p ∧ key p (((bare n % (P : Int)).toNat : Nat) : Int) = key p n := by
  simp only [chkN, Bool.and_eq_true, decide_eq_true_eq] at h
  have p0 : (P : Int) ≠ 0 := by omega
  have c : (((bare n % (P : Int)).toNat : Nat) : Int) = bare n % (P : Int) := Int.toNat_of_nonneg (Int.emod_nonneg _ p0)
  refine ⟨List.mem_filter.mpr ⟨List.mem_range.mpr ?_, h.1⟩, by rw [c]; exact h.2⟩
  have := Int.emod_lt_of_pos (bare n) (by omega : 0 < (P : Int))
  have := Int.emod_nonneg (bare n) p0
  omega
theorem sg_ta {P p : Nat} {S : List Nat} (hP : 0 < P) (sq : SqOk P p S) (one : chk1 P p S = true) (hp : (p : Int) ≠ 0) {a b : Int} (ha : chkN P p a = true) (hb : chkN P p b = true) : decide (sg a b p = 1) = ta P (bare a) (bare b) p := by
  obtain ⟨a1, a2⟩ := chkN_key hP ha
  obtain ⟨b1, b2⟩ := chkN_key hP hb
  rw [ta_tn P p hP, tn_tq sq]
  have := List.all_eq_true.mp (List.all_eq_true.mp one _ a1) _ b1
  rw [beq_iff_eq] at this
  rw [← this, a2, b2]
  unfold sg
  rw [if_neg hp, sp_sk]
/-! the draws -/
theorem r14 (k : Nat) (ns : List Int) (i : Nat) (R : Sto) (hi : i < 2) : ∃ g s : Int, EV.run Fs lf (k + 1) 14 [.scr (ns.map D.int), .int (i : Int)] R = .ok (.new (.lst [.int g, .int s, .int 0])) R ∧ (0 ≤ g ∧ g < 10 ^ 400) ∧ 0 ≤ s ∧ s < 2305843009213693951 := by
  rw [run_at k 14 _ _ f14 (by decide) rfl]
  have p1 : powOk 10 58 = true := by decide +kernel
  have p3 : powOk 10 16 = true := by decide +kernel
  have m0 : mulOk 1777 (i : Int) = true := mulOk_of (n := 20) (m := 20) (by omega) (by omega) (by decide)
  have m1 : mulOk 967 (i : Int) = true := mulOk_of (n := 40) (m := 20) (by omega) (by omega) (by decide)
  have m2 : ∀ b : Bool, mulOk 17 (if b = true then 1 else 0) = true := fun b => by cases b <;> decide +kernel
  have key : ∀ (z : Int), ∃ g s : Int, (∀ cf : Cf, ex cf lf (.seq (.asg 3 (.bin .Mod (.blt .abs (.cons (.var 2) .nil)) (.bin .Pow (.bin .Pow (.lit (.int 10)) (.lit (.int 58))) (.lit (.int 5)))))
    (.seq (.ret (.lst (.cons (.blt .max2 (.cons (.lit (.int 0)) (.cons (.bin .Sub (.var 3) (.bin .Pow (.lit (.int 10)) (.lit (.int 16)))) .nil))) (.cons (.bin .Add (.bin .Add (.bin .Add (.bin .Mult (.bin .Mod (.var 3) (.lit (.int 1000000000061))) (.lit (.int 83))) (.bin .Mult (.lit (.int 967)) (.var 1))) (.bin .Mult (.lit (.int 17)) (.blt .int1 (.cons (.cmp .Lt (.var 2) (.lit (.int 0))) .nil)))) (.lit (.int 13))) (.cons (.lit (.int 0)) .nil))))) .nop))
      [some (.scr (ns.map D.int)), some (.int (i : Int)), some (.int z), none] ([] :: R) = .rt (.new (.lst [.int g, .int s, .int 0])) ([] :: R)) ∧ (0 ≤ g ∧ g < 10 ^ 400) ∧ 0 ≤ s ∧ s < 2305843009213693951 := by
    intro z
    obtain ⟨G, hG⟩ : ∃ G : Int, G = (if z < 0 then -z else z).fmod ((10 ^ 58) ^ 5) := ⟨_, rfl⟩
    have g0 : 0 ≤ G := by rw [hG]; exact Int.fmod_nonneg_of_pos _ (by decide +kernel)
    have g1 : G < (10 ^ 58) ^ 5 := by rw [hG]; exact Int.fmod_lt_of_pos _ (by decide +kernel)
    have q0 : 0 ≤ G.fmod 1000000000061 := Int.fmod_nonneg_of_pos _ (by decide)
    have q1 : G.fmod 1000000000061 < 1000000000061 := Int.fmod_lt_of_pos _ (by decide)
    have m3 : mulOk (G.fmod 1000000000061) 83 = true := mulOk_of (n := 60) (m := 20) (by omega) (by omega) (by decide)
    have p2' : powOk (10 ^ 58) 5 = true := by decide +kernel
    have x1 : ¬ ((10 : Int) ^ 58) ^ 5 = 0 := by decide +kernel
    have b1 : ∀ cf σ R, ev cf lf (.bin .Pow (.bin .Pow (.lit (.int 10)) (.lit (.int 58))) (.lit (.int 5))) σ R = .ok (.val (.int ((10 ^ 58) ^ 5))) R := fun cf σ R => by
      rw [ev_bin, ev_bin, ev_lit, bindV_val, ev_lit, bindV_val, bX_int, bin_pow, if_pos p1, bindV_val, ev_lit, bindV_val, bX_int]
      show binop .Pow (.int (10 ^ 58)) (.int 5) R = _
      rw [bin_pow, if_pos p2']
      rfl
    have b2 : ∀ cf σ R, ev cf lf (.bin .Pow (.lit (.int 10)) (.lit (.int 16))) σ R = .ok (.val (.int (10 ^ 16))) R := fun cf σ R => by
      rw [ev_bin, ev_lit, bindV_val, ev_lit, bindV_val, bX_int, bin_pow, if_pos p3]
      rfl
    have s1 : ((10 : Int) ^ 58) ^ 5 ≤ 10 ^ 400 := by decide +kernel
    have s2 : (0 : Int) ≤ 10 ^ 16 := by decide +kernel
    have bb : ∀ b : Bool, (0 : Int) ≤ (if b = true then 1 else 0) ∧ (if b = true then (1 : Int) else 0) ≤ 1 := fun b => by cases b <;> decide
    have bz := bb (decide (z < 0))
    generalize hp : ((10 : Int) ^ 58) ^ 5 = Bg at *
    generalize hq : (10 : Int) ^ 16 = Bs at *
    generalize hq : (10 : Int) ^ 400 = Bt at *
    refine ⟨if G - Bs > 0 then G - Bs else 0, G.fmod 1000000000061 * 83 + 967 * (i : Int) + 17 * (if decide (z < 0) = true then 1 else 0) + 13, fun cf => ?_, ?_, by omega, by omega⟩
    · simp only [ex_seq, ex_asg, ex_ret, ex_nop, ev_bin, ev_blt, ev_cons, ev_nil, ev_var, ev_lit, ev_lst, ev_cmp, b1, b2, List.getElem?_cons_zero, List.getElem?_cons_succ, bindV_val, bindA_many, bltX_int, blt_abs, blt_int, bX_int, bin_mod, x1, if_false, bvS_val, fz_val, List.set, ← hG, bin_mul, m3, if_true, m1, cX_int, cY_lt, cmp_lt, liftO_some, bltX_bl, blt_intb, m2, bin_add, bltX_two, blt_max, bin_sub, byvL_int, byvL_nil, show ¬ (1000000000061 : Int) = 0 by decide]
      rfl
    · split <;> omega
  by_cases hc : i < ns.length
  · obtain ⟨g, s, e, b⟩ := key ns[i]
    refine ⟨g, s, ?_, b⟩
    have h1 : (i : Int) < (ns.length : Int) := by omega
    have h2 : atI (ns.map D.int) (i : Int) = some (.int ns[i]) := by
      unfold atI L2.ixN
      rw [List.length_map, if_pos (by omega), if_pos (by omega)]
      simp [hc]
    have e' := e (EV.run Fs lf k)
    simp [f14, c14, h1, h2] at e' ⊢
    rw [e']
    rfl
  · -- the sum of at most one
    obtain ⟨t, ht⟩ : ∃ t : Int, ∀ (cf : Cf) (σ : En) (R : Sto), σ[0]? = some (some (.scr (ns.map D.int))) → ev cf lf (.blt .sum (.cons (.slc (.var 0) (.lit .non) (.lit (.int 1))) .nil)) σ R = .ok (.val (.int t)) R := by
      have io : ∀ l : List Int, intsOf (l.map D.int) = some l := fun l => by
        induction l with
        | nil => rfl
        | cons x l ih => simp [intsOf, ih]
      refine ⟨((ns.drop (HT.sIx ns.length 0 none)).take (HT.sIx ns.length ns.length (some 1) - HT.sIx ns.length 0 none)).sum, fun cf σ R h => ?_⟩
      simp only [ev_blt, ev_cons, ev_nil, ev_slc, ev_var, ev_lit, h, bindV_val]
      have sl : slcOp (.scr (ns.map D.int)) (ptOf (isNonC (.lit .non)) .non) (ptOf (isNonC (.lit (.int 1))) (.int 1)) R = .ok (.new (.lst (((ns.drop (HT.sIx ns.length 0 none)).take (HT.sIx ns.length ns.length (some 1) - HT.sIx ns.length 0 none)).map D.int))) R := by
        show (Out.ok (Rv.new (.lst _)) R : Out Rv) = _
        rw [List.map_take, List.map_drop, List.length_map]
      rw [sl]
      simp only [bindV_new, fzO_lst, bindA_many, bltX_lst]
      show (match intsOf (List.map D.int _) with | some ns => (Out.ok (Rv.val (.int ns.sum)) R : Out Rv) | none => .bad) = _
      rw [io]
    obtain ⟨g, s, e, b⟩ := key (1777 * (i : Int) + 83 + t.fmod 1000003)
    refine ⟨g, s, ?_, b⟩
    have h1 : ¬ (i : Int) < (ns.length : Int) := by omega
    have e' := e (EV.run Fs lf k)
    have t1 := ht (EV.run Fs lf k)
    refine (if_pos (show [D.scr (ns.map D.int), D.int (i : Int)].length = f14.np from rfl)).trans ?_
    have hd : decide ((i : Int) < (ns.length : Int)) = false := decide_eq_false h1
    have n3 : ¬ (1000003 : Int) = 0 := by decide
    have s1 : ex (EV.run Fs lf k) lf (.asg 2 (.ife (.cmp .Lt (.var 1) (.blt .len (.cons (.var 0) .nil))) (.blt .int1 (.cons (.sub (.var 0) (.var 1)) .nil)) (.bin .Add (.bin .Add (.bin .Mult (.lit (.int 1777)) (.var 1)) (.lit (.int 83))) (.bin .Mod (.blt .int1 (.cons (.blt .sum (.cons (.slc (.var 0) (.lit .non) (.lit (.int 1))) .nil)) .nil)) (.lit (.int 1000003)))))) [some (.scr (ns.map D.int)), some (.int (i : Int)), none, none] ([] :: R) = .nx [some (.scr (ns.map D.int)), some (.int (i : Int)), some (.int (1777 * (i : Int) + 83 + t.fmod 1000003)), none] ([] :: R) := by
      have hlen : ∀ (cf : Cf) (σ : En) (R : Sto), σ[0]? = some (some (.scr (ns.map D.int))) → ev cf lf (.blt .len (.cons (.var 0) .nil)) σ R = .ok (.val (.int ns.length)) R := fun cf σ R h => by simp [h]
      rw [ex_asg, ev_ife, ev_cmp, ev_var]
      simp only [List.getElem?_cons_zero, List.getElem?_cons_succ, bindV_val]
      rw [hlen _ _ _ (by rfl)]
      simp only [List.getElem?_cons_zero, List.getElem?_cons_succ, bindV_val, cX_int, cY_lt, cmp_lt, liftO_some, hd, truth_bl]
      rw [ev_bin, ev_bin, ev_bin, ev_lit, bindV_val, ev_var]
      simp only [List.getElem?_cons_zero, List.getElem?_cons_succ, bindV_val, bX_int, bin_mul, m0, if_true, ev_lit, bin_add]
      rw [ev_bin, ev_blt, ev_cons, t1 _ _ (by rfl), bindV_val, ev_nil]
      simp only [bindA_many, bltX_int, blt_int, bindV_val, ev_lit, bX_int, bin_mod, n3, if_false, bin_add, bvS_val, fz_val, List.set]
    show finR (ex _ _ c14 _ _) = _
    rw [c14, ex_seq, startD_eq]
    simp only [List.map, up_scr, up_int, List.length_cons, List.length_nil, List.cons_append, List.nil_append]
    show finR (match ex _ _ _ [some (.scr (ns.map D.int)), some (.int (i : Int)), none, none] ([] :: R) with | .nx σ1 R1 => _ | r => r) = _
    rw [s1]
    dsimp only
    rw [e']
    rfl
theorem r15 (k : Nat) (j p : Nat) (g s c tot : Int) (R : Sto) (h : sget R j p = some (.lst [.int g, .int s, .int c])) (hg : 0 ≤ g ∧ g < 10 ^ 400) (hs : 0 ≤ s ∧ s < 2305843009213693951) (hc : 0 ≤ c ∧ c ≤ 1000000) (ht : 1 ≤ tot ∧ tot ≤ 1000000000) :
    ∃ v g' c' : Int, EV.run Fs lf (k + 1) 15 [.ref j p, .int tot] R = .ok (.val (.int v)) (sset R j p (.lst [.int g', .int s, .int c'])) ∧ (0 ≤ v ∧ v < tot) ∧ (0 ≤ g' ∧ g' < 10 ^ 400) ∧ 0 ≤ c' ∧ c' ≤ c + 1 := by
  rw [run_at k 15 _ _ f15 (by decide) rfl]
  have t0 : ¬ tot = 0 := by omega
  have d1 : divOk tot = true := divOk_of (m := 40) (by omega) (by omega) (by omega)
  have hh : sget ([] :: R) (j + 1) p = some (.lst [.int g, .int s, .int c]) := h
  have sub : ∀ i : Int, subX (.ref (j + 1) p) (.int i) ([] :: R) = atI [.int g, .int s, .int c] i := fun i => subX_L _ _ _ _ _ hh
  have st : ∀ (i : Int) (y : D), setO (.ref (j + 1) p) (.int i) y ([] :: R) = (L2.ixN 3 i).bind fun k => some ([] :: sset R j p (.lst ([D.int g, .int s, .int c].set k y))) := fun i y => set_lst _ _ _ _ _ hh
  have sub2 : ∀ (ds : List D) (i : Int), subX (.ref (j + 1) p) (.int i) ([] :: sset R j p (.lst ds)) = atI ds i := fun ds i => subX_L _ _ _ _ _ (show sget ([] :: sset R j p (.lst ds)) (j + 1) p = _ from sget_set_same h)
  by_cases hp : 0 < g
  · refine ⟨g.fmod tot, g.fdiv tot, c, ?_, ⟨Int.fmod_nonneg_of_pos _ (by omega), Int.fmod_lt_of_pos _ (by omega)⟩, ?_, by omega⟩
    · simp [f15, c15, sub, st, hp, t0, d1]
    · rw [Int.fdiv_eq_ediv_of_nonneg _ (by omega)]
      have z1 : 0 ≤ g / tot := Int.ediv_nonneg (by omega) (by omega)
      have z2 : g / tot ≤ g := Int.ediv_le_self _ (by omega)
      exact ⟨z1, Int.lt_of_le_of_lt z2 hg.2⟩
  · obtain ⟨one, hone⟩ : ∃ one : Int, one = (s + 141650939 * (c + 1)).fmod 2305843009213693951 := ⟨_, rfl⟩
    have o1 : 0 ≤ one := by rw [hone]; exact Int.fmod_nonneg_of_pos _ (by decide)
    have o2 : one < 2305843009213693951 := by rw [hone]; exact Int.fmod_lt_of_pos _ (by decide)
    obtain ⟨two, htwo⟩ : ∃ two : Int, two = (one * one + 86028157 * (c + 1) + 5).fmod 1152921504606846883 := ⟨_, rfl⟩
    have w1 : 0 ≤ two := by rw [htwo]; exact Int.fmod_nonneg_of_pos _ (by decide)
    have w2 : two < 1152921504606846883 := by rw [htwo]; exact Int.fmod_lt_of_pos _ (by decide)
    have u1 : 0 ≤ one.fmod 1021 := Int.fmod_nonneg_of_pos _ (by decide)
    have u2 : one.fmod 1021 < 1021 := Int.fmod_lt_of_pos _ (by decide)
    have m1 : mulOk 141650939 (c + 1) = true := mulOk_of (n := 40) (m := 40) (by decide) (by omega) (by decide)
    have m2 : mulOk one one = true := mulOk_of (n := 64) (m := 64) (by omega) (by omega) (by decide)
    have m3 : mulOk 86028157 (c + 1) = true := mulOk_of (n := 40) (m := 40) (by decide) (by omega) (by decide)
    have m4 : mulOk two (one.fmod 1021 + 9) = true := mulOk_of (n := 64) (m := 20) (by omega) (by omega) (by decide)
    have d2 : divOk 4093 = true := by decide +kernel
    refine ⟨((two * (one.fmod 1021 + 9)).fdiv 4093).fmod tot, g, c + 1, ?_, ⟨Int.fmod_nonneg_of_pos _ (by omega), Int.fmod_lt_of_pos _ (by omega)⟩, hg, by omega⟩
    simp [f15, c15, sub, st, sub2, hp, m1, m2, ← hone, m3, m4, ← htwo, d2, t0]
theorem r16 (k : Nat) (j p : Nat) (g s c : Int) (R : Sto) (ds : List D) (h : sget R j p = some (.lst [.int g, .int s, .int c])) (hg : 0 ≤ g ∧ g < 10 ^ 400) (hs : 0 ≤ s ∧ s < 2305843009213693951) (hc : 0 ≤ c ∧ c ≤ 1000000) (ht : 1 ≤ ds.length ∧ ds.length ≤ 1000) :
    ∃ (v : Nat) (hv : v < ds.length) (g' c' : Int), EV.run Fs lf (k + 2) 16 [.ref j p, .lst ds] R = retv [] (sset R j p (.lst [.int g', .int s, .int c'])) (.val ds[v]) ∧ (0 ≤ g' ∧ g' < 10 ^ 400) ∧ 0 ≤ c' ∧ c' ≤ c + 1 := by
  obtain ⟨v, g', c', e, h1, h2, h3⟩ := r15 k (j + 1) p g s c ds.length ([] :: R) h hg hs hc (by omega)
  have hv : v.toNat < ds.length := by omega
  refine ⟨v.toNat, hv, g', c', ?_, h2, h3⟩
  rw [run_at (k + 1) 16 _ _ f16 (by decide) rfl]
  have at_ : atI ds v = some ds[v.toNat] := by
    unfold atI L2.ixN
    rw [if_pos (by omega), if_pos (by omega)]
    exact List.getElem?_eq_getElem hv
  simp [f16, c16, e, at_]
theorem ref_int (j p : Nat) (i : Int) (own : List O) (R : Sto) : retv own R (.val (.int i)) = .ok (.val (.int i)) R := rfl
/-- a draw among numbers -/
theorem r16i (k : Nat) (j p : Nat) (g s c : Int) (R : Sto) (l : List Int) (h : sget R j p = some (.lst [.int g, .int s, .int c])) (hg : 0 ≤ g ∧ g < 10 ^ 400) (hs : 0 ≤ s ∧ s < 2305843009213693951) (hc : 0 ≤ c ∧ c ≤ 1000000) (ht : 1 ≤ l.length ∧ l.length ≤ 1000) :
    ∃ (v g' c' : Int), v ∈ l ∧ EV.run Fs lf (k + 2) 16 [.ref j p, .lst (l.map D.int)] R = .ok (.val (.int v)) (sset R j p (.lst [.int g', .int s, .int c'])) ∧ (0 ≤ g' ∧ g' < 10 ^ 400) ∧ 0 ≤ c' ∧ c' ≤ c + 1 := by
  obtain ⟨v, hv, g', c', e, h1, h2⟩ := r16 k j p g s c R (l.map D.int) h hg hs hc (by rw [List.length_map]; exact ht)
  rw [List.length_map] at hv
  refine ⟨l[v], g', c', List.getElem_mem hv, ?_, h1, h2⟩
  rw [e, List.getElem_map]
  rfl
def c22B : S := (.seq (.asg 1 (.bin .Mult (.var 1) (.call 16 (.cons (.var 0) (.cons (.lst (.cons (.lit (.int 2)) (.cons (.lit (.int 3)) (.cons (.lit (.int 5)) (.cons (.lit (.int 7)) (.cons (.lit (.int 2)) (.cons (.lit (.int 4)) (.cons (.lit (.int 9)) .nil)))))))) .nil)))))
      .nop)
theorem Lm_small : ∀ m, m ≤ 4 → ∀ x ∈ Lm m, x.natAbs < 2 ^ 20 := by
  have : ∀ m, m < 5 → ∀ x ∈ Lm m, x.natAbs < 1048576 := by decide +kernel
  exact fun m hm x hx => this m (by omega) x hx
theorem cs_small : ∀ c ∈ cs, c.natAbs < 16 := by decide +kernel
theorem loop22 (k : Nat) (j p : Nat) (s : Int) (hs : 0 ≤ s ∧ s < 2305843009213693951) (cf0 : Int) (hcs : cf0 ∈ cs) : ∀ (l : List Nat) (m : Nat) (x g c : Int) (R : Sto) (z : Option D), sget R j p = some (.lst [.int g, .int s, .int c]) → (0 ≤ g ∧ g < 10 ^ 400) → (0 ≤ c ∧ c + l.length ≤ 1000000) → x ∈ Lm m → m + l.length ≤ 4 →
    ∃ (x' g' c' : Int) (z' : Option D), forV (setTg [2]) (ex (EV.run Fs lf (k + 2)) lf c22B) (l.map fun (i : Nat) => .int (0 + (i : Int))) [some (.ref j p), some (.int (cf0 * x)), z] R = .nx [some (.ref j p), some (.int (cf0 * x')), z'] (sset R j p (.lst [.int g', .int s, .int c'])) ∧ x' ∈ Lm (m + l.length) ∧ (0 ≤ g' ∧ g' < 10 ^ 400) ∧ 0 ≤ c' ∧ c' ≤ c + l.length := by
  intro l
  induction l with
  | nil =>
    intro m x g c R z h hg hc hx hm
    refine ⟨x, g, c, z, ?_, hx, hg, hc.1, by simp⟩
    have e : sset R j p (.lst [.int g, .int s, .int c]) = R := by
      unfold sset sget at *
      have hl : p < (R.getD j []).length := (List.getElem?_eq_some_iff.mp h).1
      have e1 : (R.getD j []).set p (.lst [.int g, .int s, .int c]) = R.getD j [] := by
        apply List.ext_getElem?
        intro i
        by_cases hi : p = i
        · subst hi
          rw [List.getElem?_set_self hl, h]
        · rw [List.getElem?_set_ne hi]
      rw [e1]
      apply List.ext_getElem?
      intro i
      by_cases hi : j = i
      · subst hi
        by_cases hj : j < R.length
        · rw [List.getElem?_set_self hj, List.getD_eq_getElem?_getD, List.getElem?_eq_getElem hj]
          rfl
        · rw [List.set_eq_of_length_le (by omega)]
      · rw [List.getElem?_set_ne hi]
    rw [e]
    rfl
  | cons i l ih =>
    intro m x g c R z h hg hc hx hm
    rw [List.length_cons] at hc hm
    obtain ⟨v, g1, c1, hv, e1, hg1, hc1⟩ := r16i k j p g s c R [2, 3, 5, 7, 2, 4, 9] h hg hs (by omega) (by decide)
    have hv' : v ∈ fs := by
      have : ∀ v ∈ ([2, 3, 5, 7, 2, 4, 9] : List Int), v ∈ fs := by decide
      exact this v hv
    have hx1 := Lm_next m (by omega) x hx v hv'
    have h1 : sget (sset R j p (.lst [.int g1, .int s, .int c1])) j p = some (.lst [.int g1, .int s, .int c1]) := sget_set_same h
    obtain ⟨x', g', c', z', e, hx', hg', hc'⟩ := ih (m + 1) (x * v) g1 c1 _ (some (.int (0 + (i : Int)))) h1 hg1 (by omega) hx1 (by omega)
    refine ⟨x', g', c', z', ?_, ?_, hg', ?_⟩
    · have q1 := Lm_small m (by omega) x hx
      have q2 := cs_small cf0 hcs
      have q3 : v.natAbs < 2 ^ 4 := by
        have : ∀ v ∈ fs, v.natAbs < 16 := by decide
        exact this v hv'
      have q4 : (cf0 * x).natAbs < 2 ^ 30 := by
        rw [Int.natAbs_mul]
        exact Nat.lt_of_lt_of_le (Nat.mul_lt_mul'' q2 q1) (by decide)
      have m1 : mulOk (cf0 * x) v = true := mulOk_of q4 q3 (by decide)
      rw [List.map_cons, forV_nx (tg_one _ _ _) (σ2 := [some (.ref j p), some (.int (cf0 * (x * v))), some (.int (0 + (i : Int)))]) (R2 := sset R j p (.lst [.int g1, .int s, .int c1])) ?_, e, EV.sset_sset]
      have e1' : EV.run Fs lf (k + 2) 16 [.ref j p, .lst [.int 2, .int 3, .int 5, .int 7, .int 2, .int 4, .int 9]] R = .ok (.val (.int v)) (sset R j p (.lst [.int g1, .int s, .int c1])) := e1
      simp [c22B, e1', m1, Int.mul_assoc]
    · rw [List.length_cons, show m + (l.length + 1) = m + 1 + l.length by omega]
      exact hx'
    · rw [List.length_cons]
      omega
theorem r22 (k : Nat) (j p : Nat) (g s c : Int) (R : Sto) (h : sget R j p = some (.lst [.int g, .int s, .int c])) (hg : 0 ≤ g ∧ g < 10 ^ 400) (hs : 0 ≤ s ∧ s < 2305843009213693951) (hc : 0 ≤ c ∧ c ≤ 900000) :
    ∃ (n g' c' : Int), Drawn n ∧ EV.run Fs lf (k + 3) 22 [.ref j p] R = .ok (.val (.int n)) (sset R j p (.lst [.int g', .int s, .int c'])) ∧ (0 ≤ g' ∧ g' < 10 ^ 400) ∧ 0 ≤ c' ∧ c' ≤ c + 10 := by
  have H : ∀ (o : O) , sget ([] :: sset R j p o) (j + 1) p = some o := fun o => (show sget (sset R j p o) j p = _ from sget_set_same h)
  obtain ⟨sg', g1, c1, hs1, e1, hg1, hc1⟩ := r16i k (j + 1) p g s c ([] :: R) [1, -1] h hg hs (by omega) (by decide)
  obtain ⟨t, g2, c2, e2, ht, hg2, hc2⟩ := r15 (k + 1) (j + 1) p g1 s c1 12 _ (H _) hg1 hs (by omega) (by decide)
  obtain ⟨q, g3, c3, e3, hq, hg3, hc3⟩ := r15 (k + 1) (j + 1) p g2 s c2 5 ([] :: sset R j p (.lst [.int g2, .int s, .int c2])) (H _) hg2 hs (by omega) (by decide)
  have hcs : sg' * (1 + t) ∈ cs := by
    have : ∀ a ∈ ([1, -1] : List Int), ∀ b ∈ ([1, 2, 3, 4, 5, 6, 7, 8, 9, 10, 11, 12] : List Int), a * b ∈ cs := by decide
    refine this _ hs1 _ ?_
    have : 1 + t = 1 ∨ 1 + t = 2 ∨ 1 + t = 3 ∨ 1 + t = 4 ∨ 1 + t = 5 ∨ 1 + t = 6 ∨ 1 + t = 7 ∨ 1 + t = 8 ∨ 1 + t = 9 ∨ 1 + t = 10 ∨ 1 + t = 11 ∨ 1 + t = 12 := by omega
    simp only [List.mem_cons, List.not_mem_nil, or_false]
    exact this
  obtain ⟨x', g', c', z', e4, hx', hg', hc'⟩ := loop22 k (j + 1) p s hs _ hcs (List.range (q - 0).toNat) 0 1 g3 c3 ([] :: sset R j p (.lst [.int g3, .int s, .int c3])) none (H _) hg3 (by rw [List.length_range]; omega) (by decide) (by rw [List.length_range]; omega)
  rw [List.length_range] at hx' hc'
  refine ⟨sg' * (1 + t) * x', g', c', ⟨0 + (q - 0).toNat, _, x', by omega, hcs, hx', rfl⟩, ?_, hg', by omega⟩
  rw [run_at (k + 2) 22 _ _ f22 (by decide) rfl]
  have hr : rngOk 0 q = true := by
    unfold rngOk
    exact decide_eq_true (by omega)
  have m1 : mulOk sg' (1 + t) = true := mulOk_of (n := 4) (m := 8) (by
    have : ∀ a ∈ ([1, -1] : List Int), a.natAbs < 2 ^ 4 := by decide
    exact this _ hs1) (by omega) (by decide)
  have e1' : EV.run Fs lf (k + 2) 16 [.ref (j + 1) p, .lst [.int 1, .int (-1)]] ([] :: R) = .ok (.val (.int sg')) ([] :: sset R j p (.lst [.int g1, .int s, .int c1])) := e1
  have e2' : EV.run Fs lf (k + 2) 15 [.ref (j + 1) p, .int 12] ([] :: sset R j p (.lst [.int g1, .int s, .int c1])) = .ok (.val (.int t)) ([] :: sset R j p (.lst [.int g2, .int s, .int c2])) := by
    refine e2.trans ?_
    show Out.ok _ ([] :: sset (sset R j p _) j p _) = _
    rw [EV.sset_sset]
  have e3' : EV.run Fs lf (k + 2) 15 [.ref (j + 1) p, .int 5] ([] :: sset R j p (.lst [.int g2, .int s, .int c2])) = .ok (.val (.int q)) ([] :: sset R j p (.lst [.int g3, .int s, .int c3])) := by
    refine e3.trans ?_
    show Out.ok _ ([] :: sset (sset R j p _) j p _) = _
    rw [EV.sset_sset]
  have e4' : forV (setTg [2]) (ex (EV.run Fs lf (k + 2)) lf c22B) ((List.range (q - 0).toNat).map fun (i : Nat) => .int (0 + (i : Int))) [some (.ref (j + 1) p), some (.int (sg' * (1 + t))), none] ([] :: sset R j p (.lst [.int g3, .int s, .int c3])) = .nx [some (.ref (j + 1) p), some (.int (sg' * (1 + t) * x')), z'] ([] :: sset R j p (.lst [.int g', .int s, .int c'])) := by
    rw [Int.mul_one] at e4
    refine e4.trans ?_
    show Res.nx _ ([] :: sset (sset R j p _) j p _) = _
    rw [EV.sset_sset]
  have code : f22.code = (.seq (.asg 1 (.bin .Mult (.call 16 (.cons (.var 0) (.cons (.lst (.cons (.lit (.int 1)) (.cons (.neg (.lit (.int 1))) .nil))) .nil))) (.bin .Add (.lit (.int 1)) (.call 15 (.cons (.var 0) (.cons (.lit (.int 12)) .nil)))))) (.seq (.forS [2] (.rng1 (.call 15 (.cons (.var 0) (.cons (.lit (.int 5)) .nil)))) c22B) (.seq (.ret (.var 1)) .nop))) := rfl
  refine (if_pos (show [D.ref j p].length = f22.np from rfl)).trans ?_
  rw [code, ex_seq]
  have s1 : ex (EV.run Fs lf (k + 2)) lf (.asg 1 (.bin .Mult (.call 16 (.cons (.var 0) (.cons (.lst (.cons (.lit (.int 1)) (.cons (.neg (.lit (.int 1))) .nil))) .nil))) (.bin .Add (.lit (.int 1)) (.call 15 (.cons (.var 0) (.cons (.lit (.int 12)) .nil)))))) (startD f22.nv [D.ref j p]) (List.replicate f22.pl O.dead :: R) = .nx [some (.ref (j + 1) p), some (.int (sg' * (1 + t))), none] ([] :: sset R j p (.lst [.int g2, .int s, .int c2])) := by
    show ex _ lf _ [some (.ref (j + 1) p), none, none] ([] :: R) = _
    simp [e1', e2', m1]
  rw [s1]
  dsimp only
  rw [ex_seq, ex_forS, ev_rng1]
  have s2 : ev (EV.run Fs lf (k + 2)) lf (.call 15 (.cons (.var 0) (.cons (.lit (.int 5)) .nil))) [some (.ref (j + 1) p), some (.int (sg' * (1 + t))), none] ([] :: sset R j p (.lst [.int g2, .int s, .int c2])) = .ok (.val (.int q)) ([] :: sset R j p (.lst [.int g3, .int s, .int c3])) := by
    simp [e3']
  rw [s2]
  simp only [bindV_val, ik_rng1, itOf_two, hr, if_true, forI_vals, e4']
  rfl
end K03

namespace K03
open PySem PySem.Spec PyProof.Rows L2 EV
def c23P : S := (.seq (.ifS (.orE (.cmp .NotEq (.call 13 (.cons (.var 3) (.cons (.var 4) (.cons (.var 5) .nil)))) (.call 19 (.cons (.var 3) (.cons (.var 4) (.cons (.var 5) .nil))))) (.cmp .NotEq (.call 13 (.cons (.var 4) (.cons (.var 3) (.cons (.var 5) .nil)))) (.call 13 (.cons (.var 3) (.cons (.var 4) (.cons (.var 5) .nil))))))
          (.seq (.ret (.lit (.bl false)))
          .nop)
          .nop)
        .nop)
def c23Q : S := (.seq (.ifS (.cmp .NotEq (.cmp .Eq (.call 13 (.cons (.var 3) (.cons (.var 4) (.cons (.var 6) .nil)))) (.lit (.int 1))) (.call 21 (.cons (.call 20 (.cons (.var 3) .nil)) (.cons (.call 20 (.cons (.var 4) .nil)) (.cons (.var 6) .nil)))))
        (.seq (.ret (.lit (.bl false)))
        .nop)
        .nop)
      .nop)
def c23T : C := (.tup (.cons (.lit (.int 0)) (.cons (.lit (.int 2)) (.cons (.lit (.int 3)) (.cons (.lit (.int 5)) (.cons (.lit (.int 7)) .nil))))))
def c23B : S := (.seq (.asgN 2 0 (.call 14 (.cons (.var 0) (.cons (.var 1) .nil))))
      (.seq (.par2 3 4 none none (.call 22 (.cons (.var 2) .nil)) (.call 22 (.cons (.var 2) .nil)))
      (.seq (.forS [5] c23T c23P)
      (.seq (.asg 6 (.call 16 (.cons (.var 2) (.cons (.lst (.cons (.lit (.int 2)) (.cons (.lit (.int 3)) (.cons (.lit (.int 5)) (.cons (.lit (.int 3)) .nil))))) .nil))))
      c23Q))))
def cCnt : C := (.rng1 (.blt .max2 (.cons (.lit (.int 1)) (.cons (.blt .min2 (.cons (.lit (.int 2)) (.cons (.blt .len (.cons (.var 0) .nil)) .nil))) .nil))))
def cEnd : C := (.cmp .Eq (.lst (.cons (.call 13 (.cons (.lit (.int 3)) (.cons (.lit (.int 7)) (.cons (.lit (.int 3)) .nil)))) (.cons (.call 13 (.cons (.lit (.int 3)) (.cons (.lit (.int 7)) (.cons (.lit (.int 7)) .nil)))) (.cons (.call 13 (.cons (.neg (.lit (.int 1))) (.cons (.neg (.lit (.int 1))) (.cons (.lit (.int 0)) .nil)))) (.cons (.call 13 (.cons (.neg (.lit (.int 1))) (.cons (.neg (.lit (.int 1))) (.cons (.lit (.int 2)) .nil)))) (.cons (.call 13 (.cons (.lit (.int 2)) (.cons (.lit (.int 5)) (.cons (.lit (.int 2)) .nil)))) .nil)))))) (.lst (.cons (.lit (.int 1)) (.cons (.neg (.lit (.int 1))) (.cons (.neg (.lit (.int 1))) (.cons (.neg (.lit (.int 1))) (.cons (.neg (.lit (.int 1))) .nil)))))))
theorem c23_eq : c23 = (.seq (.forS [1] cCnt c23B) (.seq (.ret cEnd) .nop)) := rfl
theorem ne_bl (b : Bool) (R : Sto) : cmpop .NotEq (.bl b) (.bl b) R = some false := by
  show (eqOp (.bl b) (.bl b) R).map (fun b => !b) = _
  rw [eqOp_bl]
  cases b <;> rfl
theorem place_step (x y z w : Option D) (a b p : Int) (R : Sto) (ha : okN a) (hb : okN b) (h : isPl p) : ex (EV.run Fs lf 8) lf c23P [x, y, z, some (.int a), some (.int b), some (.int p), w] R = .nx [x, y, z, some (.int a), some (.int b), some (.int p), w] R := by
  have e1 : EV.run Fs lf 8 13 [.int a, .int b, .int p] R = .ok (.val (.int (sg a b p))) R := r13 3 a b p R ha hb h
  have e2 : EV.run Fs lf 8 13 [.int b, .int a, .int p] R = .ok (.val (.int (sg a b p))) R := (r13 3 b a p R hb ha h).trans (by rw [sg_comm b a p])
  have e3 : EV.run Fs lf 8 19 [.int a, .int b, .int p] R = .ok (.val (.int (sg a b p))) R := r19 5 a b p R ha hb h
  simp [c23P, e1, e2, e3]
theorem q_step (x y z v : Option D) (a b p : Int) (R : Sto) (ha : Drawn a) (hb : Drawn b) (h : p ∈ ([2, 3, 5, 3] : List Int)) : ex (EV.run Fs lf 8) lf c23Q [x, y, z, some (.int a), some (.int b), v, some (.int p)] R = .nx [x, y, z, some (.int a), some (.int b), v, some (.int p)] R := by
  obtain ⟨oa, a2, a3, a5⟩ := drawn_ok ha
  obtain ⟨ob, b2, b3, b5⟩ := drawn_ok hb
  have pl : p = 2 ∨ p = 3 ∨ p = 5 := by
    simp only [List.mem_cons, List.not_mem_nil, or_false] at h
    omega
  have hp : isPl p := by unfold isPl; omega
  have e1 : EV.run Fs lf 8 13 [.int a, .int b, .int p] R = .ok (.val (.int (sg a b p))) R := r13 3 a b p R oa ob hp
  have e2 : EV.run Fs lf 8 20 [.int a] R = .ok (.val (.int (bare a))) R := r20 7 a R oa
  have e3 : EV.run Fs lf 8 20 [.int b] R = .ok (.val (.int (bare b))) R := r20 7 b R ob
  have e4 : EV.run Fs lf 8 21 [.int (bare a), .int (bare b), .int p] R = .ok (.val (.bl (decide (sg a b p = 1)))) R := by
    rcases pl with rfl | rfl | rfl
    · exact (r21_32 7 (bare a) (bare b) R (bare_b oa) (bare_b ob)).trans (by rw [← sg_ta (P := 32) (p := 2) (by decide) sq32 one32 (by decide) a2 b2]; rfl)
    · exact (r21_9 7 (bare a) (bare b) R (bare_b oa) (bare_b ob)).trans (by rw [← sg_ta (P := 9) (p := 3) (by decide) sq9 one9 (by decide) a3 b3]; rfl)
    · exact (r21_25 7 (bare a) (bare b) R (bare_b oa) (bare_b ob)).trans (by rw [← sg_ta (P := 25) (p := 5) (by decide) sq25 one25 (by decide) a5 b5]; rfl)
  simp [c23Q, e1, e2, e3, e4, ne_bl]
/-- a number, or nothing yet -/
def Pl (y : Option D) : Prop := y = none ∨ ∃ i, y = some (.int i)
theorem noRef_pl {y : Option D} (h : Pl y) (σ : En) (p : Nat) : noRef (y :: σ) p = noRef σ p := by
  rcases h with rfl | ⟨i, rfl⟩
  · rfl
  · rfl
theorem turn23 (ns : List Int) (i : Nat) (hi : i < 2) (y2 y3 y4 y5 y6 : Option D) (h3 : Pl y3) (h4 : Pl y4) (h5 : Pl y5) (h6 : Pl y6) (o : O) :
    ∃ z3 z4 z5 z6 o', ex (EV.run Fs lf 8) lf c23B [some (.scr (ns.map D.int)), some (.int (i : Int)), y2, y3, y4, y5, y6] [[o]] = .nx [some (.scr (ns.map D.int)), some (.int (i : Int)), some (.ref 0 0), z3, z4, z5, z6] [[o']] ∧ Pl z3 ∧ Pl z4 ∧ Pl z5 ∧ Pl z6 := by
  obtain ⟨g, s, e14, hg, hs⟩ := r14 7 ns i [[o]] hi
  have G : ∀ u : O, sget [[u]] 0 0 = some u := fun u => rfl
  obtain ⟨a, g1, c1, da, ea, hg1, hc1⟩ := r22 5 0 0 g s 0 [[.lst [.int g, .int s, .int 0]]] rfl hg hs (by decide)
  obtain ⟨b, g2, c2, db, eb, hg2, hc2⟩ := r22 5 0 0 g1 s c1 [[.lst [.int g1, .int s, .int c1]]] rfl hg1 hs (by omega)
  obtain ⟨q, g3, c3, hq, e16, hg3, hc3⟩ := r16i 6 0 0 g2 s c2 [[.lst [.int g2, .int s, .int c2]]] [2, 3, 5, 3] rfl hg2 hs (by omega) (by decide)
  have e14' : EV.run Fs lf 8 14 [.scr (ns.map D.int), .int (i : Int)] [[o]] = .ok (.new (.lst [.int g, .int s, .int 0])) [[o]] := e14
  have ea' : EV.run Fs lf 8 22 [.ref 0 0] [[.lst [.int g, .int s, .int 0]]] = .ok (.val (.int a)) [[.lst [.int g1, .int s, .int c1]]] := ea
  have eb' : EV.run Fs lf 8 22 [.ref 0 0] [[.lst [.int g1, .int s, .int c1]]] = .ok (.val (.int b)) [[.lst [.int g2, .int s, .int c2]]] := eb
  have eq' : EV.run Fs lf 8 16 [.ref 0 0, .lst [.int 2, .int 3, .int 5, .int 3]] [[.lst [.int g2, .int s, .int c2]]] = .ok (.val (.int q)) [[.lst [.int g3, .int s, .int c3]]] := e16
  have oa := (drawn_ok da).1
  have ob := (drawn_ok db).1
  have ps : ∀ (w : Option D) (p : Int), isPl p → ex (EV.run Fs lf 8) lf c23P [some (.scr (ns.map D.int)), some (.int (i : Int)), some (.ref 0 0), some (.int a), some (.int b), some (.int p), w] [[.lst [.int g2, .int s, .int c2]]] = .nx [some (.scr (ns.map D.int)), some (.int (i : Int)), some (.ref 0 0), some (.int a), some (.int b), some (.int p), w] [[.lst [.int g2, .int s, .int c2]]] := fun w p hp => place_step _ _ _ w a b p _ oa ob hp
  refine ⟨some (.int a), some (.int b), some (.int 7), some (.int q), .lst [.int g3, .int s, .int c3], ?_, .inr ⟨_, rfl⟩, .inr ⟨_, rfl⟩, .inr ⟨_, rfl⟩, .inr ⟨_, rfl⟩⟩
  have s1 : ex (EV.run Fs lf 8) lf (.asgN 2 0 (.call 14 (.cons (.var 0) (.cons (.var 1) .nil)))) [some (.scr (ns.map D.int)), some (.int (i : Int)), y2, y3, y4, y5, y6] [[o]] = .nx [some (.scr (ns.map D.int)), some (.int (i : Int)), some (.ref 0 0), y3, y4, y5, y6] [[.lst [.int g, .int s, .int 0]]] := by
    have nr : noRef [some (.scr (ns.map D.int)), some (.int (i : Int)), none, y3, y4, y5, y6] 0 = true := by
      rw [noRef_scr, noRef_int, noRef_none, noRef_pl h3, noRef_pl h4, noRef_pl h5, noRef_pl h6]
      rfl
    rw [ex_asgN, ev_call, ev_cons, ev_var]
    simp only [List.getElem?_cons_zero, List.getElem?_cons_succ, bindV_val, ev_cons, ev_var, ev_nil, bindA_many, e14', bvS_new, setN_eq, List.set, nr, if_true]
    rfl
  have s2 : ex (EV.run Fs lf 8) lf (.par2 3 4 none none (.call 22 (.cons (.var 2) .nil)) (.call 22 (.cons (.var 2) .nil))) [some (.scr (ns.map D.int)), some (.int (i : Int)), some (.ref 0 0), y3, y4, y5, y6] [[.lst [.int g, .int s, .int 0]]] = .nx [some (.scr (ns.map D.int)), some (.int (i : Int)), some (.ref 0 0), some (.int a), some (.int b), y5, y6] [[.lst [.int g2, .int s, .int c2]]] := by
    simp [ea', eb']
  have s3 : ex (EV.run Fs lf 8) lf (.forS [5] c23T c23P) [some (.scr (ns.map D.int)), some (.int (i : Int)), some (.ref 0 0), some (.int a), some (.int b), y5, y6] [[.lst [.int g2, .int s, .int c2]]] = .nx [some (.scr (ns.map D.int)), some (.int (i : Int)), some (.ref 0 0), some (.int a), some (.int b), some (.int 7), y6] [[.lst [.int g2, .int s, .int c2]]] := by
    have t : ev (EV.run Fs lf 8) lf c23T [some (.scr (ns.map D.int)), some (.int (i : Int)), some (.ref 0 0), some (.int a), some (.int b), y5, y6] [[.lst [.int g2, .int s, .int c2]]] = .ok (.val (.tup [.int 0, .int 2, .int 3, .int 5, .int 7])) [[.lst [.int g2, .int s, .int c2]]] := rfl
    have ikT : ik c23T = .val := rfl
    rw [ex_forS, t]
    simp only [ikT, itOf_val, itD_tup, forI_vals]
    rw [forV_nx (tg_one _ _ _) (ps y6 0 (.inl rfl)), forV_nx (tg_one _ _ _) (ps y6 2 (.inr (.inl rfl))), forV_nx (tg_one _ _ _) (ps y6 3 (.inr (.inr (.inl rfl)))), forV_nx (tg_one _ _ _) (ps y6 5 (.inr (.inr (.inr (.inl rfl))))), forV_nx (tg_one _ _ _) (ps y6 7 (.inr (.inr (.inr (.inr rfl)))))]
    rfl
  have s4 : ex (EV.run Fs lf 8) lf (.asg 6 (.call 16 (.cons (.var 2) (.cons (.lst (.cons (.lit (.int 2)) (.cons (.lit (.int 3)) (.cons (.lit (.int 5)) (.cons (.lit (.int 3)) .nil))))) .nil)))) [some (.scr (ns.map D.int)), some (.int (i : Int)), some (.ref 0 0), some (.int a), some (.int b), some (.int 7), y6] [[.lst [.int g2, .int s, .int c2]]] = .nx [some (.scr (ns.map D.int)), some (.int (i : Int)), some (.ref 0 0), some (.int a), some (.int b), some (.int 7), some (.int q)] [[.lst [.int g3, .int s, .int c3]]] := by
    simp [eq']
  have s5 := q_step (some (.scr (ns.map D.int))) (some (.int (i : Int))) (some (.ref 0 0)) (some (.int 7)) a b q [[.lst [.int g3, .int s, .int c3]]] da db hq
  rw [c23B, ex_seq, s1]
  dsimp only
  rw [ex_seq, s2]
  dsimp only
  rw [ex_seq, s3]
  dsimp only
  rw [ex_seq, s4]
  exact s5
theorem loop23 (ns : List Int) : ∀ (l : List Nat) (y1 y2 y3 y4 y5 y6 : Option D) (o : O), (∀ i ∈ l, i < 2) → Pl y3 → Pl y4 → Pl y5 → Pl y6 →
    ∃ z1 z2 z3 z4 z5 z6 o', forV (setTg [1]) (ex (EV.run Fs lf 8) lf c23B) (l.map fun (i : Nat) => .int (0 + (i : Int))) [some (.scr (ns.map D.int)), y1, y2, y3, y4, y5, y6] [[o]] = .nx [some (.scr (ns.map D.int)), z1, z2, z3, z4, z5, z6] [[o']] := by
  intro l
  induction l with
  | nil => intro y1 y2 y3 y4 y5 y6 o _ _ _ _ _; exact ⟨y1, y2, y3, y4, y5, y6, o, rfl⟩
  | cons i l ih =>
    intro y1 y2 y3 y4 y5 y6 o h h3 h4 h5 h6
    obtain ⟨z3, z4, z5, z6, o1, e, g3, g4, g5, g6⟩ := turn23 ns i (h i List.mem_cons_self) y2 y3 y4 y5 y6 h3 h4 h5 h6 o
    obtain ⟨w1, w2, w3, w4, w5, w6, o2, e2⟩ := ih (some (.int (i : Int))) (some (.ref 0 0)) z3 z4 z5 z6 o1 (fun j hj => h j (List.mem_cons_of_mem _ hj)) g3 g4 g5 g6
    refine ⟨w1, w2, w3, w4, w5, w6, o2, ?_⟩
    rw [List.map_cons, Int.zero_add, forV_nx (tg_one _ _ _) e]
    exact e2
theorem cnt23 (ns : List Int) : ∃ cnt : Int, (1 ≤ cnt ∧ cnt ≤ 2) ∧ ∀ (cf : Cf) (σ : En) (R : Sto), ev cf lf cCnt (some (.scr (ns.map D.int)) :: σ) R = .ok (.many [.int 0, .int cnt]) R := by
  refine ⟨(if (if (ns.length : Int) < 2 then (ns.length : Int) else 2) > 1 then (if (ns.length : Int) < 2 then (ns.length : Int) else 2) else 1), ?_, fun cf σ R => ?_⟩
  · split <;> split at * <;> omega
  · unfold cCnt
    simp only [ev_rng1, ev_blt, ev_cons, ev_lit, ev_var, ev_nil, List.getElem?_cons_zero, bindV_val, bindA_many, bltX_scr, bltX_two, blt_len_scr, blt_min, blt_max, List.length_map]
theorem for23 (ns : List Int) : ∃ z1 z2 z3 z4 z5 z6 o, ex (EV.run Fs lf 8) lf (.forS [1] cCnt c23B) [some (.scr (ns.map D.int)), none, none, none, none, none, none] [[.dead]] = .nx [some (.scr (ns.map D.int)), z1, z2, z3, z4, z5, z6] [[o]] := by
  obtain ⟨cnt, hb, e0⟩ := cnt23 ns
  obtain ⟨z1, z2, z3, z4, z5, z6, o, e⟩ := loop23 ns (List.range (cnt - 0).toNat) none none none none none none .dead (fun i hi => by have := List.mem_range.mp hi; omega) (.inl rfl) (.inl rfl) (.inl rfl) (.inl rfl)
  have hr : rngOk 0 cnt = true := decide_eq_true (by omega)
  refine ⟨z1, z2, z3, z4, z5, z6, o, ?_⟩
  rw [ex_forS, e0]
  have ir : ik cCnt = .rng := rfl
  rw [ir]
  simp only [itOf_two, hr, if_true, forI_vals]
  exact e
theorem end23 (cf : Cf) (σ : En) (R : Sto) (h1 : cf 13 [.int 3, .int 7, .int 3] R = .ok (.val (.int 1)) R) (h2 : cf 13 [.int 3, .int 7, .int 7] R = .ok (.val (.int (-1))) R) (h3 : cf 13 [.int (-1), .int (-1), .int 0] R = .ok (.val (.int (-1))) R) (h4 : cf 13 [.int (-1), .int (-1), .int 2] R = .ok (.val (.int (-1))) R) (h5 : cf 13 [.int 2, .int 5, .int 2] R = .ok (.val (.int (-1))) R) : ev cf lf cEnd σ R = .ok (.val (.bl true)) R := by
  have ee : cmpop .Eq (.lst [.int 1, .int (-1), .int (-1), .int (-1), .int (-1)]) (.lst [.int 1, .int (-1), .int (-1), .int (-1), .int (-1)]) R = some true := rfl
  simp [cEnd, h1, h2, h3, h4, h5, ee]
theorem v1 : sg 3 7 3 = 1 := by decide +kernel
theorem v2 : sg 3 7 7 = -1 := by decide +kernel
theorem v3 : sg (-1) (-1) 0 = -1 := by decide +kernel
theorem v4 : sg (-1) (-1) 2 = -1 := by decide +kernel
theorem v5 : sg 2 5 2 = -1 := by decide +kernel
theorem main (ns : List Int) (h : ns.length ≤ 63) : ∃ R', EV.run Fs lf 9 23 [.scr (ns.map D.int)] [] = .ok (.val (.bl true)) R' := by
  refine ⟨[], ?_⟩
  rw [run_at 8 23 _ _ f23 (by decide) rfl]
  obtain ⟨z1, z2, z3, z4, z5, z6, o, e⟩ := for23 ns
  refine (if_pos (show [D.scr (ns.map D.int)].length = 1 from rfl)).trans ?_
  have ok1 : okN 3 ∧ okN 7 ∧ okN (-1) ∧ okN 2 ∧ okN 5 := by unfold okN; decide
  have p0 : isPl 0 ∧ isPl 2 ∧ isPl 3 ∧ isPl 7 := by unfold isPl; decide
  have q : ∀ (cf : Cf) (hc : cf = EV.run Fs lf 8) (R : Sto) (σ : En), ev cf lf cEnd σ R = .ok (.val (.bl true)) R := fun cf hc R σ => by
    refine end23 cf σ R ?_ ?_ ?_ ?_ ?_
    · rw [hc]; exact (r13 3 3 7 3 R ok1.1 ok1.2.1 p0.2.2.1).trans (by rw [v1])
    · rw [hc]; exact (r13 3 3 7 7 R ok1.1 ok1.2.1 p0.2.2.2).trans (by rw [v2])
    · rw [hc]; exact (r13 3 (-1) (-1) 0 R ok1.2.2.1 ok1.2.2.1 p0.1).trans (by rw [v3])
    · rw [hc]; exact (r13 3 (-1) (-1) 2 R ok1.2.2.1 ok1.2.2.1 p0.2.1).trans (by rw [v4])
    · rw [hc]; exact (r13 3 2 5 2 R ok1.2.2.2.1 ok1.2.2.2.2 p0.2.1).trans (by rw [v5])
  have e1 : ex (EV.run Fs lf 8) lf c23 [some (.scr (ns.map D.int)), none, none, none, none, none, none] [[.dead]] = .rt (.val (.bl true)) [[o]] := by
    rw [c23_eq, ex_seq, e]
    dsimp only
    rw [ex_seq, ex_ret, q _ rfl]
    rfl
  exact (congrArg finR e1).trans rfl
end K03

namespace K03
open PySem PySem.Spec PyProof.Rows L2 EV

theorem tab {K : PySem.W.Frag} {h : Heap} {mg : Str → Option Value} (X : K.In h) (G : h.Ns mainGlobals mg)
    {od0 an0 : Option Addr} {sl0 : Array (Option Value)} {oc0 kV0 dc0 pm0 cd0 ct0 : Value} {a0 : Addr}
    (n0 : PySem.W.nsIn K mainGlobals "is_whole" = some (some (.ref a0))) (l0 : K.lookup a0 = some ⟨oc0, od0, .func (PySem.W.fnOf "is_whole" "is_whole" (defArgs st0) (defBody st0) (defScope st0) .none kV0 dc0 pm0 an0 cd0 ct0), sl0⟩) (c0 : PySem.W.codeIn K cd0 "is_whole" = true) (k0 : PySem.W.keepIn K (.ref a0) = true)
    {od1 an1 : Option Addr} {sl1 : Array (Option Value)} {oc1 kV1 dc1 pm1 cd1 ct1 : Value} {a1 : Addr}
    (n1 : PySem.W.nsIn K mainGlobals "is_number" = some (some (.ref a1))) (l1 : K.lookup a1 = some ⟨oc1, od1, .func (PySem.W.fnOf "is_number" "is_number" (defArgs st1) (defBody st1) (defScope st1) .none kV1 dc1 pm1 an1 cd1 ct1), sl1⟩) (c1 : PySem.W.codeIn K cd1 "is_number" = true) (k1 : PySem.W.keepIn K (.ref a1) = true)
    {od2 an2 : Option Addr} {sl2 : Array (Option Value)} {oc2 kV2 dc2 pm2 cd2 ct2 : Value} {a2 : Addr}
    (n2 : PySem.W.nsIn K mainGlobals "require_number" = some (some (.ref a2))) (l2 : K.lookup a2 = some ⟨oc2, od2, .func (PySem.W.fnOf "require_number" "require_number" (defArgs st2) (defBody st2) (defScope st2) .none kV2 dc2 pm2 an2 cd2 ct2), sl2⟩) (c2 : PySem.W.codeIn K cd2 "require_number" = true) (k2 : PySem.W.keepIn K (.ref a2) = true)
    {od3 an3 : Option Addr} {sl3 : Array (Option Value)} {oc3 kV3 dc3 pm3 cd3 ct3 : Value} {a3 : Addr}
    (n3 : PySem.W.nsIn K mainGlobals "least_factor" = some (some (.ref a3))) (l3 : K.lookup a3 = some ⟨oc3, od3, .func (PySem.W.fnOf "least_factor" "least_factor" (defArgs st3) (defBody st3) (defScope st3) .none kV3 dc3 pm3 an3 cd3 ct3), sl3⟩) (c3 : PySem.W.codeIn K cd3 "least_factor" = true) (k3 : PySem.W.keepIn K (.ref a3) = true)
    {od4 an4 : Option Addr} {sl4 : Array (Option Value)} {oc4 kV4 dc4 pm4 cd4 ct4 : Value} {a4 : Addr}
    (n4 : PySem.W.nsIn K mainGlobals "is_prime" = some (some (.ref a4))) (l4 : K.lookup a4 = some ⟨oc4, od4, .func (PySem.W.fnOf "is_prime" "is_prime" (defArgs st4) (defBody st4) (defScope st4) .none kV4 dc4 pm4 an4 cd4 ct4), sl4⟩) (c4 : PySem.W.codeIn K cd4 "is_prime" = true) (k4 : PySem.W.keepIn K (.ref a4) = true)
    {od5 an5 : Option Addr} {sl5 : Array (Option Value)} {oc5 kV5 dc5 pm5 cd5 ct5 : Value} {a5 : Addr}
    (n5 : PySem.W.nsIn K mainGlobals "power_rest" = some (some (.ref a5))) (l5 : K.lookup a5 = some ⟨oc5, od5, .func (PySem.W.fnOf "power_rest" "power_rest" (defArgs st5) (defBody st5) (defScope st5) .none kV5 dc5 pm5 an5 cd5 ct5), sl5⟩) (c5 : PySem.W.codeIn K cd5 "power_rest" = true) (k5 : PySem.W.keepIn K (.ref a5) = true)
    {od6 an6 : Option Addr} {sl6 : Array (Option Value)} {oc6 kV6 dc6 pm6 cd6 ct6 : Value} {a6 : Addr}
    (n6 : PySem.W.nsIn K mainGlobals "residue_sign_of" = some (some (.ref a6))) (l6 : K.lookup a6 = some ⟨oc6, od6, .func (PySem.W.fnOf "residue_sign_of" "residue_sign_of" (defArgs st6) (defBody st6) (defScope st6) .none kV6 dc6 pm6 an6 cd6 ct6), sl6⟩) (c6 : PySem.W.codeIn K cd6 "residue_sign_of" = true) (k6 : PySem.W.keepIn K (.ref a6) = true)
    {od7 an7 : Option Addr} {sl7 : Array (Option Value)} {oc7 kV7 dc7 pm7 cd7 ct7 : Value} {a7 : Addr}
    (n7 : PySem.W.nsIn K mainGlobals "parted_by" = some (some (.ref a7))) (l7 : K.lookup a7 = some ⟨oc7, od7, .func (PySem.W.fnOf "parted_by" "parted_by" (defArgs st7) (defBody st7) (defScope st7) .none kV7 dc7 pm7 an7 cd7 ct7), sl7⟩) (c7 : PySem.W.codeIn K cd7 "parted_by" = true) (k7 : PySem.W.keepIn K (.ref a7) = true)
    {od8 an8 : Option Addr} {sl8 : Array (Option Value)} {oc8 kV8 dc8 pm8 cd8 ct8 : Value} {a8 : Addr}
    (n8 : PySem.W.nsIn K mainGlobals "is_place" = some (some (.ref a8))) (l8 : K.lookup a8 = some ⟨oc8, od8, .func (PySem.W.fnOf "is_place" "is_place" (defArgs st8) (defBody st8) (defScope st8) .none kV8 dc8 pm8 an8 cd8 ct8), sl8⟩) (c8 : PySem.W.codeIn K cd8 "is_place" = true) (k8 : PySem.W.keepIn K (.ref a8) = true)
    {od9 an9 : Option Addr} {sl9 : Array (Option Value)} {oc9 kV9 dc9 pm9 cd9 ct9 : Value} {a9 : Addr}
    (n9 : PySem.W.nsIn K mainGlobals "require_place" = some (some (.ref a9))) (l9 : K.lookup a9 = some ⟨oc9, od9, .func (PySem.W.fnOf "require_place" "require_place" (defArgs st9) (defBody st9) (defScope st9) .none kV9 dc9 pm9 an9 cd9 ct9), sl9⟩) (c9 : PySem.W.codeIn K cd9 "require_place" = true) (k9 : PySem.W.keepIn K (.ref a9) = true)
    {od10 an10 : Option Addr} {sl10 : Array (Option Value)} {oc10 kV10 dc10 pm10 cd10 ct10 : Value} {a10 : Addr}
    (n10 : PySem.W.nsIn K mainGlobals "sign_by_two" = some (some (.ref a10))) (l10 : K.lookup a10 = some ⟨oc10, od10, .func (PySem.W.fnOf "sign_by_two" "sign_by_two" (defArgs st10) (defBody st10) (defScope st10) .none kV10 dc10 pm10 an10 cd10 ct10), sl10⟩) (c10 : PySem.W.codeIn K cd10 "sign_by_two" = true) (k10 : PySem.W.keepIn K (.ref a10) = true)
    {od11 an11 : Option Addr} {sl11 : Array (Option Value)} {oc11 kV11 dc11 pm11 cd11 ct11 : Value} {a11 : Addr}
    (n11 : PySem.W.nsIn K mainGlobals "sign_by_prime" = some (some (.ref a11))) (l11 : K.lookup a11 = some ⟨oc11, od11, .func (PySem.W.fnOf "sign_by_prime" "sign_by_prime" (defArgs st11) (defBody st11) (defScope st11) .none kV11 dc11 pm11 an11 cd11 ct11), sl11⟩) (c11 : PySem.W.codeIn K cd11 "sign_by_prime" = true) (k11 : PySem.W.keepIn K (.ref a11) = true)
    {od12 an12 : Option Addr} {sl12 : Array (Option Value)} {oc12 kV12 dc12 pm12 cd12 ct12 : Value} {a12 : Addr}
    (n12 : PySem.W.nsIn K mainGlobals "sign_of" = some (some (.ref a12))) (l12 : K.lookup a12 = some ⟨oc12, od12, .func (PySem.W.fnOf "sign_of" "sign_of" (defArgs st12) (defBody st12) (defScope st12) .none kV12 dc12 pm12 an12 cd12 ct12), sl12⟩) (c12 : PySem.W.codeIn K cd12 "sign_of" = true) (k12 : PySem.W.keepIn K (.ref a12) = true)
    {od13 an13 : Option Addr} {sl13 : Array (Option Value)} {oc13 kV13 dc13 pm13 cd13 ct13 : Value} {a13 : Addr}
    (n13 : PySem.W.nsIn K mainGlobals "sign_at" = some (some (.ref a13))) (l13 : K.lookup a13 = some ⟨oc13, od13, .func (PySem.W.fnOf "sign_at" "sign_at" (defArgs st13) (defBody st13) (defScope st13) .none kV13 dc13 pm13 an13 cd13 ct13), sl13⟩) (c13 : PySem.W.codeIn K cd13 "sign_at" = true) (k13 : PySem.W.keepIn K (.ref a13) = true)
    {od14 an14 : Option Addr} {sl14 : Array (Option Value)} {oc14 kV14 dc14 pm14 cd14 ct14 : Value} {a14 : Addr}
    (n14 : PySem.W.nsIn K mainGlobals "_law_sack" = some (some (.ref a14))) (l14 : K.lookup a14 = some ⟨oc14, od14, .func (PySem.W.fnOf "_law_sack" "_law_sack" (defArgs st14) (defBody st14) (defScope st14) .none kV14 dc14 pm14 an14 cd14 ct14), sl14⟩) (c14 : PySem.W.codeIn K cd14 "_law_sack" = true) (k14 : PySem.W.keepIn K (.ref a14) = true)
    {od15 an15 : Option Addr} {sl15 : Array (Option Value)} {oc15 kV15 dc15 pm15 cd15 ct15 : Value} {a15 : Addr}
    (n15 : PySem.W.nsIn K mainGlobals "_law_take" = some (some (.ref a15))) (l15 : K.lookup a15 = some ⟨oc15, od15, .func (PySem.W.fnOf "_law_take" "_law_take" (defArgs st15) (defBody st15) (defScope st15) .none kV15 dc15 pm15 an15 cd15 ct15), sl15⟩) (c15 : PySem.W.codeIn K cd15 "_law_take" = true) (k15 : PySem.W.keepIn K (.ref a15) = true)
    {od16 an16 : Option Addr} {sl16 : Array (Option Value)} {oc16 kV16 dc16 pm16 cd16 ct16 : Value} {a16 : Addr}
    (n16 : PySem.W.nsIn K mainGlobals "_law_one_of" = some (some (.ref a16))) (l16 : K.lookup a16 = some ⟨oc16, od16, .func (PySem.W.fnOf "_law_one_of" "_law_one_of" (defArgs st16) (defBody st16) (defScope st16) .none kV16 dc16 pm16 an16 cd16 ct16), sl16⟩) (c16 : PySem.W.codeIn K cd16 "_law_one_of" = true) (k16 : PySem.W.keepIn K (.ref a16) = true)
    {od17 an17 : Option Addr} {sl17 : Array (Option Value)} {oc17 kV17 dc17 pm17 cd17 ct17 : Value} {a17 : Addr}
    (n17 : PySem.W.nsIn K mainGlobals "_law_sign" = some (some (.ref a17))) (l17 : K.lookup a17 = some ⟨oc17, od17, .func (PySem.W.fnOf "_law_sign" "_law_sign" (defArgs st17) (defBody st17) (defScope st17) .none kV17 dc17 pm17 an17 cd17 ct17), sl17⟩) (c17 : PySem.W.codeIn K cd17 "_law_sign" = true) (k17 : PySem.W.keepIn K (.ref a17) = true)
    {od18 an18 : Option Addr} {sl18 : Array (Option Value)} {oc18 kV18 dc18 pm18 cd18 ct18 : Value} {a18 : Addr}
    (n18 : PySem.W.nsIn K mainGlobals "_law_parted" = some (some (.ref a18))) (l18 : K.lookup a18 = some ⟨oc18, od18, .func (PySem.W.fnOf "_law_parted" "_law_parted" (defArgs st18) (defBody st18) (defScope st18) .none kV18 dc18 pm18 an18 cd18 ct18), sl18⟩) (c18 : PySem.W.codeIn K cd18 "_law_parted" = true) (k18 : PySem.W.keepIn K (.ref a18) = true)
    {od19 an19 : Option Addr} {sl19 : Array (Option Value)} {oc19 kV19 dc19 pm19 cd19 ct19 : Value} {a19 : Addr}
    (n19 : PySem.W.nsIn K mainGlobals "_law_own_sign" = some (some (.ref a19))) (l19 : K.lookup a19 = some ⟨oc19, od19, .func (PySem.W.fnOf "_law_own_sign" "_law_own_sign" (defArgs st19) (defBody st19) (defScope st19) .none kV19 dc19 pm19 an19 cd19 ct19), sl19⟩) (c19 : PySem.W.codeIn K cd19 "_law_own_sign" = true) (k19 : PySem.W.keepIn K (.ref a19) = true)
    {od20 an20 : Option Addr} {sl20 : Array (Option Value)} {oc20 kV20 dc20 pm20 cd20 ct20 : Value} {a20 : Addr}
    (n20 : PySem.W.nsIn K mainGlobals "_law_bare" = some (some (.ref a20))) (l20 : K.lookup a20 = some ⟨oc20, od20, .func (PySem.W.fnOf "_law_bare" "_law_bare" (defArgs st20) (defBody st20) (defScope st20) .none kV20 dc20 pm20 an20 cd20 ct20), sl20⟩) (c20 : PySem.W.codeIn K cd20 "_law_bare" = true) (k20 : PySem.W.keepIn K (.ref a20) = true)
    {od21 an21 : Option Addr} {sl21 : Array (Option Value)} {oc21 kV21 dc21 pm21 cd21 ct21 : Value} {a21 : Addr}
    (n21 : PySem.W.nsIn K mainGlobals "_law_through_all" = some (some (.ref a21))) (l21 : K.lookup a21 = some ⟨oc21, od21, .func (PySem.W.fnOf "_law_through_all" "_law_through_all" (defArgs st21) (defBody st21) (defScope st21) .none kV21 dc21 pm21 an21 cd21 ct21), sl21⟩) (c21 : PySem.W.codeIn K cd21 "_law_through_all" = true) (k21 : PySem.W.keepIn K (.ref a21) = true)
    {od22 an22 : Option Addr} {sl22 : Array (Option Value)} {oc22 kV22 dc22 pm22 cd22 ct22 : Value} {a22 : Addr}
    (n22 : PySem.W.nsIn K mainGlobals "_law_number" = some (some (.ref a22))) (l22 : K.lookup a22 = some ⟨oc22, od22, .func (PySem.W.fnOf "_law_number" "_law_number" (defArgs st22) (defBody st22) (defScope st22) .none kV22 dc22 pm22 an22 cd22 ct22), sl22⟩) (c22 : PySem.W.codeIn K cd22 "_law_number" = true) (k22 : PySem.W.keepIn K (.ref a22) = true)
    {od23 an23 : Option Addr} {sl23 : Array (Option Value)} {oc23 kV23 dc23 pm23 cd23 ct23 : Value} {a23 : Addr}
    (n23 : PySem.W.nsIn K mainGlobals "law" = some (some (.ref a23))) (l23 : K.lookup a23 = some ⟨oc23, od23, .func (PySem.W.fnOf "law" "law" (defArgs st23) (defBody st23) (defScope st23) .none kV23 dc23 pm23 an23 cd23 ct23), sl23⟩) (c23 : PySem.W.codeIn K cd23 "law" = true) (k23 : PySem.W.keepIn K (.ref a23) = true)
    (z_isinstance : PySem.W.nsIn K mainGlobals "isinstance" = some none)
    (z_int : PySem.W.nsIn K mainGlobals "int" = some none)
    (z_bool : PySem.W.nsIn K mainGlobals "bool" = some none)
    (z_len : PySem.W.nsIn K mainGlobals "len" = some none)
    (z_sum : PySem.W.nsIn K mainGlobals "sum" = some none)
    (z_abs : PySem.W.nsIn K mainGlobals "abs" = some none)
    (z_max : PySem.W.nsIn K mainGlobals "max" = some none)
    (z_range : PySem.W.nsIn K mainGlobals "range" = some none)
    (z_min : PySem.W.nsIn K mainGlobals "min" = some none)
    {t0 : Tok} (q_g0 : PySem.W.nsIn K mainGlobals "MAX_NUMBER" = some (some (.int 1000000000 t0)))
    {t1 : Tok} (q_g1 : PySem.W.nsIn K mainGlobals "REAL" = some (some (.int 0 t1))) : TabOk K mg T Fs where
  fn := fun i x h => match i, h with
    | 0, h => by cases h; exact ⟨_, PySem.W.mg_of X G n0, _, _, st0, _, P0, N0, f0, [], [], fun i h => by subst h; rfl, fun_mk l0 c0 k0, (fun_mk (st := st0) l0 c0 k0).binds (ps := P0) fun _ _ _ _ _ _ us hl => (match us, hl with | [_], _ => rfl), .nil, .nil, ok0⟩
    | 1, h => by cases h; exact ⟨_, PySem.W.mg_of X G n1, _, _, st1, _, P1, N1, f1, [], [], fun i h => by subst h; rfl, fun_mk l1 c1 k1, (fun_mk (st := st1) l1 c1 k1).binds (ps := P1) fun _ _ _ _ _ _ us hl => (match us, hl with | [_], _ => rfl), .nil, .nil, ok1⟩
    | 2, h => by cases h; exact ⟨_, PySem.W.mg_of X G n2, _, _, st2, _, P2, N2, f2, [], [], fun i h => by subst h; rfl, fun_mk l2 c2 k2, (fun_mk (st := st2) l2 c2 k2).binds (ps := P2) fun _ _ _ _ _ _ us hl => (match us, hl with | [_], _ => rfl), .nil, .nil, ok2⟩
    | 3, h => by cases h; exact ⟨_, PySem.W.mg_of X G n3, _, _, st3, _, P3, N3, f3, [], [], fun i h => by subst h; rfl, fun_mk l3 c3 k3, (fun_mk (st := st3) l3 c3 k3).binds (ps := P3) fun _ _ _ _ _ _ us hl => (match us, hl with | [_], _ => rfl), .nil, .nil, ok3⟩
    | 4, h => by cases h; exact ⟨_, PySem.W.mg_of X G n4, _, _, st4, _, P4, N4, f4, [], [], fun i h => by subst h; rfl, fun_mk l4 c4 k4, (fun_mk (st := st4) l4 c4 k4).binds (ps := P4) fun _ _ _ _ _ _ us hl => (match us, hl with | [_], _ => rfl), .nil, .nil, ok4⟩
    | 5, h => by cases h; exact ⟨_, PySem.W.mg_of X G n5, _, _, st5, _, P5, N5, f5, [], [], fun i h => by subst h; rfl, fun_mk l5 c5 k5, (fun_mk (st := st5) l5 c5 k5).binds (ps := P5) fun _ _ _ _ _ _ us hl => (match us, hl with | [_, _, _], _ => rfl), .nil, .nil, ok5⟩
    | 6, h => by cases h; exact ⟨_, PySem.W.mg_of X G n6, _, _, st6, _, P6, N6, f6, [], [], fun i h => by subst h; rfl, fun_mk l6 c6 k6, (fun_mk (st := st6) l6 c6 k6).binds (ps := P6) fun _ _ _ _ _ _ us hl => (match us, hl with | [_, _], _ => rfl), .nil, .nil, ok6⟩
    | 7, h => by cases h; exact ⟨_, PySem.W.mg_of X G n7, _, _, st7, _, P7, N7, f7, [], [], fun i h => by subst h; rfl, fun_mk l7 c7 k7, (fun_mk (st := st7) l7 c7 k7).binds (ps := P7) fun _ _ _ _ _ _ us hl => (match us, hl with | [_, _], _ => rfl), .nil, .nil, ok7⟩
    | 8, h => by cases h; exact ⟨_, PySem.W.mg_of X G n8, _, _, st8, _, P8, N8, f8, [], [], fun i h => by subst h; rfl, fun_mk l8 c8 k8, (fun_mk (st := st8) l8 c8 k8).binds (ps := P8) fun _ _ _ _ _ _ us hl => (match us, hl with | [_], _ => rfl), .nil, .nil, ok8⟩
    | 9, h => by cases h; exact ⟨_, PySem.W.mg_of X G n9, _, _, st9, _, P9, N9, f9, [], [], fun i h => by subst h; rfl, fun_mk l9 c9 k9, (fun_mk (st := st9) l9 c9 k9).binds (ps := P9) fun _ _ _ _ _ _ us hl => (match us, hl with | [_], _ => rfl), .nil, .nil, ok9⟩
    | 10, h => by cases h; exact ⟨_, PySem.W.mg_of X G n10, _, _, st10, _, P10, N10, f10, [], [], fun i h => by subst h; rfl, fun_mk l10 c10 k10, (fun_mk (st := st10) l10 c10 k10).binds (ps := P10) fun _ _ _ _ _ _ us hl => (match us, hl with | [_, _, _, _], _ => rfl), .nil, .nil, ok10⟩
    | 11, h => by cases h; exact ⟨_, PySem.W.mg_of X G n11, _, _, st11, _, P11, N11, f11, [], [], fun i h => by subst h; rfl, fun_mk l11 c11 k11, (fun_mk (st := st11) l11 c11 k11).binds (ps := P11) fun _ _ _ _ _ _ us hl => (match us, hl with | [_, _, _], _ => rfl), .nil, .nil, ok11⟩
    | 12, h => by cases h; exact ⟨_, PySem.W.mg_of X G n12, _, _, st12, _, P12, N12, f12, [], [], fun i h => by subst h; rfl, fun_mk l12 c12 k12, (fun_mk (st := st12) l12 c12 k12).binds (ps := P12) fun _ _ _ _ _ _ us hl => (match us, hl with | [_, _, _], _ => rfl), .nil, .nil, ok12⟩
    | 13, h => by cases h; exact ⟨_, PySem.W.mg_of X G n13, _, _, st13, _, P13, N13, f13, [], [], fun i h => by subst h; rfl, fun_mk l13 c13 k13, (fun_mk (st := st13) l13 c13 k13).binds (ps := P13) fun _ _ _ _ _ _ us hl => (match us, hl with | [_, _, _], _ => rfl), .nil, .nil, ok13⟩
    | 14, h => by cases h; exact ⟨_, PySem.W.mg_of X G n14, _, _, st14, _, P14, N14, f14, [], [], fun i h => by subst h; rfl, fun_mk l14 c14 k14, (fun_mk (st := st14) l14 c14 k14).binds (ps := P14) fun _ _ _ _ _ _ us hl => (match us, hl with | [_, _], _ => rfl), .nil, .nil, ok14⟩
    | 15, h => by cases h; exact ⟨_, PySem.W.mg_of X G n15, _, _, st15, _, P15, N15, f15, [], [], fun i h => by subst h; rfl, fun_mk l15 c15 k15, (fun_mk (st := st15) l15 c15 k15).binds (ps := P15) fun _ _ _ _ _ _ us hl => (match us, hl with | [_, _], _ => rfl), .nil, .nil, ok15⟩
    | 16, h => by cases h; exact ⟨_, PySem.W.mg_of X G n16, _, _, st16, _, P16, N16, f16, [], [], fun i h => by subst h; rfl, fun_mk l16 c16 k16, (fun_mk (st := st16) l16 c16 k16).binds (ps := P16) fun _ _ _ _ _ _ us hl => (match us, hl with | [_, _], _ => rfl), .nil, .nil, ok16⟩
    | 17, h => by cases h; exact ⟨_, PySem.W.mg_of X G n17, _, _, st17, _, P17, N17, f17, [], [], fun i h => by subst h; rfl, fun_mk l17 c17 k17, (fun_mk (st := st17) l17 c17 k17).binds (ps := P17) fun _ _ _ _ _ _ us hl => (match us, hl with | [_, _], _ => rfl), .nil, .nil, ok17⟩
    | 18, h => by cases h; exact ⟨_, PySem.W.mg_of X G n18, _, _, st18, _, P18, N18, f18, [], [], fun i h => by subst h; rfl, fun_mk l18 c18 k18, (fun_mk (st := st18) l18 c18 k18).binds (ps := P18) fun _ _ _ _ _ _ us hl => (match us, hl with | [_, _], _ => rfl), .nil, .nil, ok18⟩
    | 19, h => by cases h; exact ⟨_, PySem.W.mg_of X G n19, _, _, st19, _, P19, N19, f19, [], [], fun i h => by subst h; rfl, fun_mk l19 c19 k19, (fun_mk (st := st19) l19 c19 k19).binds (ps := P19) fun _ _ _ _ _ _ us hl => (match us, hl with | [_, _, _], _ => rfl), .nil, .nil, ok19⟩
    | 20, h => by cases h; exact ⟨_, PySem.W.mg_of X G n20, _, _, st20, _, P20, N20, f20, [], [], fun i h => by subst h; rfl, fun_mk l20 c20 k20, (fun_mk (st := st20) l20 c20 k20).binds (ps := P20) fun _ _ _ _ _ _ us hl => (match us, hl with | [_], _ => rfl), .nil, .nil, ok20⟩
    | 21, h => by cases h; exact ⟨_, PySem.W.mg_of X G n21, _, _, st21, _, P21, N21, f21, [], [], fun i h => by subst h; rfl, fun_mk l21 c21 k21, (fun_mk (st := st21) l21 c21 k21).binds (ps := P21) fun _ _ _ _ _ _ us hl => (match us, hl with | [_, _, _], _ => rfl), .nil, .nil, ok21⟩
    | 22, h => by cases h; exact ⟨_, PySem.W.mg_of X G n22, _, _, st22, _, P22, N22, f22, [], [], fun i h => by subst h; rfl, fun_mk l22 c22 k22, (fun_mk (st := st22) l22 c22 k22).binds (ps := P22) fun _ _ _ _ _ _ us hl => (match us, hl with | [_], _ => rfl), .nil, .nil, ok22⟩
    | 23, h => by cases h; exact ⟨_, PySem.W.mg_of X G n23, _, _, st23, _, P23, N23, f23, [], [], fun i h => by subst h; rfl, fun_mk l23 c23 k23, (fun_mk (st := st23) l23 c23 k23).binds (ps := P23) fun _ _ _ _ _ _ us hl => (match us, hl with | [_], _ => rfl), .nil, .nil, ok23⟩
    | i + 24, h => by simp [T] at h
  gl := fun i x d h h2 => match i, h, h2 with
    | 0, h, h2 => by cases h; cases h2; exact ⟨_, .int _, PySem.W.mg_of X G q_g0, ⟨_, rfl⟩, .int _⟩
    | 1, h, h2 => by cases h; cases h2; exact ⟨_, .int _, PySem.W.mg_of X G q_g1, ⟨_, rfl⟩, .int _⟩
    | i + 2, h, h2 => by simp [T] at h
  bl := fun x hx => by
    simp only [T, List.mem_cons, List.not_mem_nil, or_false] at hx
    rcases hx with rfl | rfl | rfl | rfl | rfl | rfl | rfl | rfl | rfl
    · exact PySem.W.mg_none_of X G z_isinstance
    · exact PySem.W.mg_none_of X G z_int
    · exact PySem.W.mg_none_of X G z_bool
    · exact PySem.W.mg_none_of X G z_len
    · exact PySem.W.mg_none_of X G z_sum
    · exact PySem.W.mg_none_of X G z_abs
    · exact PySem.W.mg_none_of X G z_max
    · exact PySem.W.mg_none_of X G z_range
    · exact PySem.W.mg_none_of X G z_min
  hl := by decide
  mt := rfl
  pt := rfl
  df := fun f x dv _ h => by simp [T, memDfl] at h
  cl := fun c h => by simp [T] at h
  me := fun _ _ _ h => by simp [T] at h
  pr := fun _ _ _ h => by simp [T] at h
  ma := fun _ _ h => by simp [T, memDfl] at h
  sl := fun _ _ h => by simp [T] at h
theorem all_mk {w : World} {pr : Program} {K : PySem.W.Frag} {h : Heap} {mg : Str → Option Value} {fa : Addr} (X : K.In h) (G : h.Ns mainGlobals mg) (hfa : mg "law" = some (.ref fa))
    {od0 an0 : Option Addr} {sl0 : Array (Option Value)} {oc0 kV0 dc0 pm0 cd0 ct0 : Value} {a0 : Addr}
    (n0 : PySem.W.nsIn K mainGlobals "is_whole" = some (some (.ref a0))) (l0 : K.lookup a0 = some ⟨oc0, od0, .func (PySem.W.fnOf "is_whole" "is_whole" (defArgs st0) (defBody st0) (defScope st0) .none kV0 dc0 pm0 an0 cd0 ct0), sl0⟩) (c0 : PySem.W.codeIn K cd0 "is_whole" = true) (k0 : PySem.W.keepIn K (.ref a0) = true)
    {od1 an1 : Option Addr} {sl1 : Array (Option Value)} {oc1 kV1 dc1 pm1 cd1 ct1 : Value} {a1 : Addr}
    (n1 : PySem.W.nsIn K mainGlobals "is_number" = some (some (.ref a1))) (l1 : K.lookup a1 = some ⟨oc1, od1, .func (PySem.W.fnOf "is_number" "is_number" (defArgs st1) (defBody st1) (defScope st1) .none kV1 dc1 pm1 an1 cd1 ct1), sl1⟩) (c1 : PySem.W.codeIn K cd1 "is_number" = true) (k1 : PySem.W.keepIn K (.ref a1) = true)
    {od2 an2 : Option Addr} {sl2 : Array (Option Value)} {oc2 kV2 dc2 pm2 cd2 ct2 : Value} {a2 : Addr}
    (n2 : PySem.W.nsIn K mainGlobals "require_number" = some (some (.ref a2))) (l2 : K.lookup a2 = some ⟨oc2, od2, .func (PySem.W.fnOf "require_number" "require_number" (defArgs st2) (defBody st2) (defScope st2) .none kV2 dc2 pm2 an2 cd2 ct2), sl2⟩) (c2 : PySem.W.codeIn K cd2 "require_number" = true) (k2 : PySem.W.keepIn K (.ref a2) = true)
    {od3 an3 : Option Addr} {sl3 : Array (Option Value)} {oc3 kV3 dc3 pm3 cd3 ct3 : Value} {a3 : Addr}
    (n3 : PySem.W.nsIn K mainGlobals "least_factor" = some (some (.ref a3))) (l3 : K.lookup a3 = some ⟨oc3, od3, .func (PySem.W.fnOf "least_factor" "least_factor" (defArgs st3) (defBody st3) (defScope st3) .none kV3 dc3 pm3 an3 cd3 ct3), sl3⟩) (c3 : PySem.W.codeIn K cd3 "least_factor" = true) (k3 : PySem.W.keepIn K (.ref a3) = true)
    {od4 an4 : Option Addr} {sl4 : Array (Option Value)} {oc4 kV4 dc4 pm4 cd4 ct4 : Value} {a4 : Addr}
    (n4 : PySem.W.nsIn K mainGlobals "is_prime" = some (some (.ref a4))) (l4 : K.lookup a4 = some ⟨oc4, od4, .func (PySem.W.fnOf "is_prime" "is_prime" (defArgs st4) (defBody st4) (defScope st4) .none kV4 dc4 pm4 an4 cd4 ct4), sl4⟩) (c4 : PySem.W.codeIn K cd4 "is_prime" = true) (k4 : PySem.W.keepIn K (.ref a4) = true)
    {od5 an5 : Option Addr} {sl5 : Array (Option Value)} {oc5 kV5 dc5 pm5 cd5 ct5 : Value} {a5 : Addr}
    (n5 : PySem.W.nsIn K mainGlobals "power_rest" = some (some (.ref a5))) (l5 : K.lookup a5 = some ⟨oc5, od5, .func (PySem.W.fnOf "power_rest" "power_rest" (defArgs st5) (defBody st5) (defScope st5) .none kV5 dc5 pm5 an5 cd5 ct5), sl5⟩) (c5 : PySem.W.codeIn K cd5 "power_rest" = true) (k5 : PySem.W.keepIn K (.ref a5) = true)
    {od6 an6 : Option Addr} {sl6 : Array (Option Value)} {oc6 kV6 dc6 pm6 cd6 ct6 : Value} {a6 : Addr}
    (n6 : PySem.W.nsIn K mainGlobals "residue_sign_of" = some (some (.ref a6))) (l6 : K.lookup a6 = some ⟨oc6, od6, .func (PySem.W.fnOf "residue_sign_of" "residue_sign_of" (defArgs st6) (defBody st6) (defScope st6) .none kV6 dc6 pm6 an6 cd6 ct6), sl6⟩) (c6 : PySem.W.codeIn K cd6 "residue_sign_of" = true) (k6 : PySem.W.keepIn K (.ref a6) = true)
    {od7 an7 : Option Addr} {sl7 : Array (Option Value)} {oc7 kV7 dc7 pm7 cd7 ct7 : Value} {a7 : Addr}
    (n7 : PySem.W.nsIn K mainGlobals "parted_by" = some (some (.ref a7))) (l7 : K.lookup a7 = some ⟨oc7, od7, .func (PySem.W.fnOf "parted_by" "parted_by" (defArgs st7) (defBody st7) (defScope st7) .none kV7 dc7 pm7 an7 cd7 ct7), sl7⟩) (c7 : PySem.W.codeIn K cd7 "parted_by" = true) (k7 : PySem.W.keepIn K (.ref a7) = true)
    {od8 an8 : Option Addr} {sl8 : Array (Option Value)} {oc8 kV8 dc8 pm8 cd8 ct8 : Value} {a8 : Addr}
    (n8 : PySem.W.nsIn K mainGlobals "is_place" = some (some (.ref a8))) (l8 : K.lookup a8 = some ⟨oc8, od8, .func (PySem.W.fnOf "is_place" "is_place" (defArgs st8) (defBody st8) (defScope st8) .none kV8 dc8 pm8 an8 cd8 ct8), sl8⟩) (c8 : PySem.W.codeIn K cd8 "is_place" = true) (k8 : PySem.W.keepIn K (.ref a8) = true)
    {od9 an9 : Option Addr} {sl9 : Array (Option Value)} {oc9 kV9 dc9 pm9 cd9 ct9 : Value} {a9 : Addr}
    (n9 : PySem.W.nsIn K mainGlobals "require_place" = some (some (.ref a9))) (l9 : K.lookup a9 = some ⟨oc9, od9, .func (PySem.W.fnOf "require_place" "require_place" (defArgs st9) (defBody st9) (defScope st9) .none kV9 dc9 pm9 an9 cd9 ct9), sl9⟩) (c9 : PySem.W.codeIn K cd9 "require_place" = true) (k9 : PySem.W.keepIn K (.ref a9) = true)
    {od10 an10 : Option Addr} {sl10 : Array (Option Value)} {oc10 kV10 dc10 pm10 cd10 ct10 : Value} {a10 : Addr}
    (n10 : PySem.W.nsIn K mainGlobals "sign_by_two" = some (some (.ref a10))) (l10 : K.lookup a10 = some ⟨oc10, od10, .func (PySem.W.fnOf "sign_by_two" "sign_by_two" (defArgs st10) (defBody st10) (defScope st10) .none kV10 dc10 pm10 an10 cd10 ct10), sl10⟩) (c10 : PySem.W.codeIn K cd10 "sign_by_two" = true) (k10 : PySem.W.keepIn K (.ref a10) = true)
    {od11 an11 : Option Addr} {sl11 : Array (Option Value)} {oc11 kV11 dc11 pm11 cd11 ct11 : Value} {a11 : Addr}
    (n11 : PySem.W.nsIn K mainGlobals "sign_by_prime" = some (some (.ref a11))) (l11 : K.lookup a11 = some ⟨oc11, od11, .func (PySem.W.fnOf "sign_by_prime" "sign_by_prime" (defArgs st11) (defBody st11) (defScope st11) .none kV11 dc11 pm11 an11 cd11 ct11), sl11⟩) (c11 : PySem.W.codeIn K cd11 "sign_by_prime" = true) (k11 : PySem.W.keepIn K (.ref a11) = true)
    {od12 an12 : Option Addr} {sl12 : Array (Option Value)} {oc12 kV12 dc12 pm12 cd12 ct12 : Value} {a12 : Addr}
    (n12 : PySem.W.nsIn K mainGlobals "sign_of" = some (some (.ref a12))) (l12 : K.lookup a12 = some ⟨oc12, od12, .func (PySem.W.fnOf "sign_of" "sign_of" (defArgs st12) (defBody st12) (defScope st12) .none kV12 dc12 pm12 an12 cd12 ct12), sl12⟩) (c12 : PySem.W.codeIn K cd12 "sign_of" = true) (k12 : PySem.W.keepIn K (.ref a12) = true)
    {od13 an13 : Option Addr} {sl13 : Array (Option Value)} {oc13 kV13 dc13 pm13 cd13 ct13 : Value} {a13 : Addr}
    (n13 : PySem.W.nsIn K mainGlobals "sign_at" = some (some (.ref a13))) (l13 : K.lookup a13 = some ⟨oc13, od13, .func (PySem.W.fnOf "sign_at" "sign_at" (defArgs st13) (defBody st13) (defScope st13) .none kV13 dc13 pm13 an13 cd13 ct13), sl13⟩) (c13 : PySem.W.codeIn K cd13 "sign_at" = true) (k13 : PySem.W.keepIn K (.ref a13) = true)
    {od14 an14 : Option Addr} {sl14 : Array (Option Value)} {oc14 kV14 dc14 pm14 cd14 ct14 : Value} {a14 : Addr}
    (n14 : PySem.W.nsIn K mainGlobals "_law_sack" = some (some (.ref a14))) (l14 : K.lookup a14 = some ⟨oc14, od14, .func (PySem.W.fnOf "_law_sack" "_law_sack" (defArgs st14) (defBody st14) (defScope st14) .none kV14 dc14 pm14 an14 cd14 ct14), sl14⟩) (c14 : PySem.W.codeIn K cd14 "_law_sack" = true) (k14 : PySem.W.keepIn K (.ref a14) = true)
    {od15 an15 : Option Addr} {sl15 : Array (Option Value)} {oc15 kV15 dc15 pm15 cd15 ct15 : Value} {a15 : Addr}
    (n15 : PySem.W.nsIn K mainGlobals "_law_take" = some (some (.ref a15))) (l15 : K.lookup a15 = some ⟨oc15, od15, .func (PySem.W.fnOf "_law_take" "_law_take" (defArgs st15) (defBody st15) (defScope st15) .none kV15 dc15 pm15 an15 cd15 ct15), sl15⟩) (c15 : PySem.W.codeIn K cd15 "_law_take" = true) (k15 : PySem.W.keepIn K (.ref a15) = true)
    {od16 an16 : Option Addr} {sl16 : Array (Option Value)} {oc16 kV16 dc16 pm16 cd16 ct16 : Value} {a16 : Addr}
    (n16 : PySem.W.nsIn K mainGlobals "_law_one_of" = some (some (.ref a16))) (l16 : K.lookup a16 = some ⟨oc16, od16, .func (PySem.W.fnOf "_law_one_of" "_law_one_of" (defArgs st16) (defBody st16) (defScope st16) .none kV16 dc16 pm16 an16 cd16 ct16), sl16⟩) (c16 : PySem.W.codeIn K cd16 "_law_one_of" = true) (k16 : PySem.W.keepIn K (.ref a16) = true)
    {od17 an17 : Option Addr} {sl17 : Array (Option Value)} {oc17 kV17 dc17 pm17 cd17 ct17 : Value} {a17 : Addr}
    (n17 : PySem.W.nsIn K mainGlobals "_law_sign" = some (some (.ref a17))) (l17 : K.lookup a17 = some ⟨oc17, od17, .func (PySem.W.fnOf "_law_sign" "_law_sign" (defArgs st17) (defBody st17) (defScope st17) .none kV17 dc17 pm17 an17 cd17 ct17), sl17⟩) (c17 : PySem.W.codeIn K cd17 "_law_sign" = true) (k17 : PySem.W.keepIn K (.ref a17) = true)
    {od18 an18 : Option Addr} {sl18 : Array (Option Value)} {oc18 kV18 dc18 pm18 cd18 ct18 : Value} {a18 : Addr}
    (n18 : PySem.W.nsIn K mainGlobals "_law_parted" = some (some (.ref a18))) (l18 : K.lookup a18 = some ⟨oc18, od18, .func (PySem.W.fnOf "_law_parted" "_law_parted" (defArgs st18) (defBody st18) (defScope st18) .none kV18 dc18 pm18 an18 cd18 ct18), sl18⟩) (c18 : PySem.W.codeIn K cd18 "_law_parted" = true) (k18 : PySem.W.keepIn K (.ref a18) = true)
    {od19 an19 : Option Addr} {sl19 : Array (Option Value)} {oc19 kV19 dc19 pm19 cd19 ct19 : Value} {a19 : Addr}
    (n19 : PySem.W.nsIn K mainGlobals "_law_own_sign" = some (some (.ref a19))) (l19 : K.lookup a19 = some ⟨oc19, od19, .func (PySem.W.fnOf "_law_own_sign" "_law_own_sign" (defArgs st19) (defBody st19) (defScope st19) .none kV19 dc19 pm19 an19 cd19 ct19), sl19⟩) (c19 : PySem.W.codeIn K cd19 "_law_own_sign" = true) (k19 : PySem.W.keepIn K (.ref a19) = true)
    {od20 an20 : Option Addr} {sl20 : Array (Option Value)} {oc20 kV20 dc20 pm20 cd20 ct20 : Value} {a20 : Addr}
    (n20 : PySem.W.nsIn K mainGlobals "_law_bare" = some (some (.ref a20))) (l20 : K.lookup a20 = some ⟨oc20, od20, .func (PySem.W.fnOf "_law_bare" "_law_bare" (defArgs st20) (defBody st20) (defScope st20) .none kV20 dc20 pm20 an20 cd20 ct20), sl20⟩) (c20 : PySem.W.codeIn K cd20 "_law_bare" = true) (k20 : PySem.W.keepIn K (.ref a20) = true)
    {od21 an21 : Option Addr} {sl21 : Array (Option Value)} {oc21 kV21 dc21 pm21 cd21 ct21 : Value} {a21 : Addr}
    (n21 : PySem.W.nsIn K mainGlobals "_law_through_all" = some (some (.ref a21))) (l21 : K.lookup a21 = some ⟨oc21, od21, .func (PySem.W.fnOf "_law_through_all" "_law_through_all" (defArgs st21) (defBody st21) (defScope st21) .none kV21 dc21 pm21 an21 cd21 ct21), sl21⟩) (c21 : PySem.W.codeIn K cd21 "_law_through_all" = true) (k21 : PySem.W.keepIn K (.ref a21) = true)
    {od22 an22 : Option Addr} {sl22 : Array (Option Value)} {oc22 kV22 dc22 pm22 cd22 ct22 : Value} {a22 : Addr}
    (n22 : PySem.W.nsIn K mainGlobals "_law_number" = some (some (.ref a22))) (l22 : K.lookup a22 = some ⟨oc22, od22, .func (PySem.W.fnOf "_law_number" "_law_number" (defArgs st22) (defBody st22) (defScope st22) .none kV22 dc22 pm22 an22 cd22 ct22), sl22⟩) (c22 : PySem.W.codeIn K cd22 "_law_number" = true) (k22 : PySem.W.keepIn K (.ref a22) = true)
    {od23 an23 : Option Addr} {sl23 : Array (Option Value)} {oc23 kV23 dc23 pm23 cd23 ct23 : Value} {a23 : Addr}
    (n23 : PySem.W.nsIn K mainGlobals "law" = some (some (.ref a23))) (l23 : K.lookup a23 = some ⟨oc23, od23, .func (PySem.W.fnOf "law" "law" (defArgs st23) (defBody st23) (defScope st23) .none kV23 dc23 pm23 an23 cd23 ct23), sl23⟩) (c23 : PySem.W.codeIn K cd23 "law" = true) (k23 : PySem.W.keepIn K (.ref a23) = true)
    (z_isinstance : PySem.W.nsIn K mainGlobals "isinstance" = some none)
    (z_int : PySem.W.nsIn K mainGlobals "int" = some none)
    (z_bool : PySem.W.nsIn K mainGlobals "bool" = some none)
    (z_len : PySem.W.nsIn K mainGlobals "len" = some none)
    (z_sum : PySem.W.nsIn K mainGlobals "sum" = some none)
    (z_abs : PySem.W.nsIn K mainGlobals "abs" = some none)
    (z_max : PySem.W.nsIn K mainGlobals "max" = some none)
    (z_range : PySem.W.nsIn K mainGlobals "range" = some none)
    (z_min : PySem.W.nsIn K mainGlobals "min" = some none)
    {t0 : Tok} (q_g0 : PySem.W.nsIn K mainGlobals "MAX_NUMBER" = some (some (.int 1000000000 t0)))
    {t1 : Tok} (q_g1 : PySem.W.nsIn K mainGlobals "REAL" = some (some (.int 0 t1))) :
    ∃ fd : FuncData, (∀ (s : Shared) (v : Value), BindsTo s fd ⟨[v], []⟩ [("_law_script", v)]) ∧ ∀ base : Heap, K.In base → base.Ns mainGlobals mg → FnOk pr w K mg base CX0 (4 * 9) fa fd ["_law_script"] (spC K (run Fs lf 9) 23) := by
  have e := hfa.symm.trans (PySem.W.mg_of X G n23)
  cases e
  have t := tab X G n0 l0 c0 k0 n1 l1 c1 k1 n2 l2 c2 k2 n3 l3 c3 k3 n4 l4 c4 k4 n5 l5 c5 k5 n6 l6 c6 k6 n7 l7 c7 k7 n8 l8 c8 k8 n9 l9 c9 k9 n10 l10 c10 k10 n11 l11 c11 k11 n12 l12 c12 k12 n13 l13 c13 k13 n14 l14 c14 k14 n15 l15 c15 k15 n16 l16 c16 k16 n17 l17 c17 k17 n18 l18 c18 k18 n19 l19 c19 k19 n20 l20 c20 k20 n21 l21 c21 k21 n22 l22 c22 k22 n23 l23 c23 k23 z_isinstance z_int z_bool z_len z_sum z_abs z_max z_range z_min q_g0 q_g1
  exact ⟨PySem.W.fnOf "law" "law" (defArgs st23) (defBody st23) (defScope st23) .none kV23 dc23 pm23 an23 cd23 ct23, fun s v => .of_eq rfl, fun base _ _ => fn_step (n := 8) (fun_mk l23 c23 k23) ok23 rfl t.hl (t.facts 8)⟩
theorem walk {l : PySem.W.OpenLaw} {q : Program} {loose : List Str} {XP : (Str → Option Value) → Heap → Prop} {YP : World → Heap → Prop} {d : DefRec} {K : Params → PySem.W.Frag} (hn : l.most = some 63) (hdf : d.params.defaults = [])
    (hY : ∀ (w : World) (h : Heap), YP w h → (K w.params).In h)
    (F : ∀ (w : World) (mg : Str → Option Value) (fa : Addr) (h : Heap), (K w.params).In h → h.Ns mainGlobals mg → mg d.name = some (.ref fa) →
      ∃ fd : FuncData, (∀ (s : Shared) (u : Value), BindsTo s fd ⟨[u], []⟩ [("_law_script", u)]) ∧ ∀ base : Heap, (K w.params).In base → base.Ns mainGlobals mg → FnOk l.prog w (K w.params) mg base CX0 (4 * 9) fa fd ["_law_script"] (spC (K w.params) (run Fs lf 9) 23)) :
    PySem.W.WalkO q loose XP YP l.row.toRowW d [] (fun f vs => PySem.call f vs) :=
  L2.walk_of (n := 63) (k := 4 * 9) (x := "_law_script") (CX := fun _ => CX0) (sp := fun w => spC (K w.params) (run Fs lf 9) 23) hn (by decide) hdf ⟨rfl, by decide, by decide⟩ hY F (fun w H a ns hl _ hS => (main ns hl).elim fun R' h => law_sp h hS) fun _ _ _ _ _ z => z
end K03

open PySem PySem.W PyProof.Rows in
set_option maxRecDepth 100000 in
set_option maxHeartbeats 0 in
theorem PySem.Challenge.cw_signfours_k03_whole_signs_by_local_looks_holds : PySem.Challenge.rw_signfours_k03_whole_signs_by_local_looks.Holds := by
  w_on; o_law; k_head; (case hw => w_witness2)
  k_fill
  refine K03.walk (l := PySem.Challenge.rw_signfours_k03_whole_signs_by_local_looks) rfl rfl (fun w h Y => PySem.W.kIn_of Y) ?F
  case F =>
    intro w mg fa h KX G hmg
    refine' K03.all_mk KX G hmg ?n0 ?l0 ?c0 ?k0 ?n1 ?l1 ?c1 ?k1 ?n2 ?l2 ?c2 ?k2 ?n3 ?l3 ?c3 ?k3 ?n4 ?l4 ?c4 ?k4 ?n5 ?l5 ?c5 ?k5 ?n6 ?l6 ?c6 ?k6 ?n7 ?l7 ?c7 ?k7 ?n8 ?l8 ?c8 ?k8 ?n9 ?l9 ?c9 ?k9 ?n10 ?l10 ?c10 ?k10 ?n11 ?l11 ?c11 ?k11 ?n12 ?l12 ?c12 ?k12 ?n13 ?l13 ?c13 ?k13 ?n14 ?l14 ?c14 ?k14 ?n15 ?l15 ?c15 ?k15 ?n16 ?l16 ?c16 ?k16 ?n17 ?l17 ?c17 ?k17 ?n18 ?l18 ?c18 ?k18 ?n19 ?l19 ?c19 ?k19 ?n20 ?l20 ?c20 ?k20 ?n21 ?l21 ?c21 ?k21 ?n22 ?l22 ?c22 ?k22 ?n23 ?l23 ?c23 ?k23 ?z_isinstance ?z_int ?z_bool ?z_len ?z_sum ?z_abs ?z_max ?z_range ?z_min ?q_g0 ?q_g1
    (case n0 => k_is)
    (case l0 => k_is)
    (case c0 => k_is)
    (case k0 => k_is)
    (case n1 => k_is)
    (case l1 => k_is)
    (case c1 => k_is)
    (case k1 => k_is)
    (case n2 => k_is)
    (case l2 => k_is)
    (case c2 => k_is)
    (case k2 => k_is)
    (case n3 => k_is)
    (case l3 => k_is)
    (case c3 => k_is)
    (case k3 => k_is)
    (case n4 => k_is)
    (case l4 => k_is)
    (case c4 => k_is)
    (case k4 => k_is)
    (case n5 => k_is)
    (case l5 => k_is)
    (case c5 => k_is)
    (case k5 => k_is)
    (case n6 => k_is)
    (case l6 => k_is)
    (case c6 => k_is)
    (case k6 => k_is)
    (case n7 => k_is)
    (case l7 => k_is)
    (case c7 => k_is)
    (case k7 => k_is)
    (case n8 => k_is)
    (case l8 => k_is)
    (case c8 => k_is)
    (case k8 => k_is)
    (case n9 => k_is)
    (case l9 => k_is)
    (case c9 => k_is)
    (case k9 => k_is)
    (case n10 => k_is)
    (case l10 => k_is)
    (case c10 => k_is)
    (case k10 => k_is)
    (case n11 => k_is)
    (case l11 => k_is)
    (case c11 => k_is)
    (case k11 => k_is)
    (case n12 => k_is)
    (case l12 => k_is)
    (case c12 => k_is)
    (case k12 => k_is)
    (case n13 => k_is)
    (case l13 => k_is)
    (case c13 => k_is)
    (case k13 => k_is)
    (case n14 => k_is)
    (case l14 => k_is)
    (case c14 => k_is)
    (case k14 => k_is)
    (case n15 => k_is)
    (case l15 => k_is)
    (case c15 => k_is)
    (case k15 => k_is)
    (case n16 => k_is)
    (case l16 => k_is)
    (case c16 => k_is)
    (case k16 => k_is)
    (case n17 => k_is)
    (case l17 => k_is)
    (case c17 => k_is)
    (case k17 => k_is)
    (case n18 => k_is)
    (case l18 => k_is)
    (case c18 => k_is)
    (case k18 => k_is)
    (case n19 => k_is)
    (case l19 => k_is)
    (case c19 => k_is)
    (case k19 => k_is)
    (case n20 => k_is)
    (case l20 => k_is)
    (case c20 => k_is)
    (case k20 => k_is)
    (case n21 => k_is)
    (case l21 => k_is)
    (case c21 => k_is)
    (case k21 => k_is)
    (case n22 => k_is)
    (case l22 => k_is)
    (case c22 => k_is)
    (case k22 => k_is)
    (case n23 => k_is)
    (case l23 => k_is)
    (case c23 => k_is)
    (case k23 => k_is)
    (case z_isinstance => k_is)
    (case z_int => k_is)
    (case z_bool => k_is)
    (case z_len => k_is)
    (case z_sum => k_is)
    (case z_abs => k_is)
    (case z_max => k_is)
    (case z_range => k_is)
    (case z_min => k_is)
    (case q_g0 => k_is)
    (case q_g1 => k_is)

