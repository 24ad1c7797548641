import PyProof.Rows.All
import HandS.ForMost
import HandS.Wide
import HandS.Style
import HandS.SlotsOwn
import HandS.TupAny
import HandS.IsInst
import HandS.More
import HandS.Flow
import HandS.CallRecv
import PyProof.DictUpdate
import Wide.All
import OpenK.AllK
import Wide.FinOn
import HandS.Iter
import KE.GoesEnum
import KE.GoesMore
import HandS.Zip
import HandS.Small
import HandS.Words
import HandS.Defaults
import HandS.HeadNt
import HandS.Head2
import HandS.HeadEnd
import PySem.Challenge.RW_signfours_k23_images_judged
set_option Elab.async false
set_option linter.all false
set_option maxRecDepth 100000
set_option maxHeartbeats 4000000
/-! EvD: plain values, the store of lists that may change, and how both lie in the abstract heap. -/
namespace EV
open PySem PySem.Spec PyProof.Rows L2

/-- a value without the heap; ref j i: the i-th thing of the j-th frame above (0: the own one) -/
inductive D where
  | non | bl (b : Bool) | int (i : Int) | str (x : Str)
  | tup (ds : List D) | lst (ds : List D) | scr (ds : List D) | dct (ks : List Key) (ds : List D)
  | dcT (ks : List (List Key)) (ds : List D)
  | obj (c : Nat) (ns : List Nat) (ds : List D)
  | ktp (ds : List D)
  | ref (j i : Nat)
/-- a thing that may change, or one that may no more -/
inductive O where
  | lst (ds : List D) | dct (ks : List Key) (ds : List D) | dcT (ks : List (List Key)) (ds : List D)
  | ins (c : Nat) (ns : List Nat) (ds : List D) | frz (d : D) | dead
abbrev Sto := List (List O)
def O.isF : O → Bool
  | .frz _ => true
  | .dead => true
  | _ => false
def sget (R : Sto) (j i : Nat) : Option O := (R.getD j [])[i]?
def sset (R : Sto) (j i : Nat) (o : O) : Sto := R.set j ((R.getD j []).set i o)
def live (R : Sto) (j i : Nat) : Prop := ∃ o, sget R j i = some o ∧ o.isF = false

/-- a name told by a number: its signs, to the base 256, behind 65536 -/
def nmD : Nat → Nat → List Nat → List Nat
  | 0, _, acc => acc
  | f + 1, n, acc => if n ≤ 65536 then acc else nmD f (n / 256) (n % 256 :: acc)
def nmN (n : Nat) : Str := ⟨(nmD 64 n []).toArray⟩
/-- the class with the number c stands at C -/
structure ClsA (K : PySem.W.Frag) (c : Nat) (C : Addr) : Prop where
  ns : PySem.W.nsIn K mainGlobals (nmN c) = some (some (.ref C))
  sc : SlX.SCls K C
  si : SlX.SIsi K C
  ty : PySem.W.typeIn K (.ref C) = some (.type "type")
  sf : PySem.W.selfFirst K C = true
  mro : ∃ cd, PySem.W.clsIn K C = some cd ∧ cd.mro = [.ref C, .type "object"] ∧ cd.name = nmN c
  ne : PySem.W.findIn K (.ref C) "__ne__" = some (some (.builtin "object.__ne__"))
theorem ClsA.one {K : PySem.W.Frag} {c : Nat} {C C' : Addr} (a : ClsA K c C) (b : ClsA K c C') : C' = C := by
  have := b.ns.symm.trans a.ns
  cases this
  rfl
/-- an instance's object: without slots, with slots -/
def Slo (H : Hp) (a C dx : Addr) (vs : List (Option V)) : Prop :=
  (H a = some (.ins C dx []) ∧ vs = [] ∧ H dx = some (.own a)) ∨ (H a = some (SlX.SlO a C dx vs) ∧ H dx = some (.xd []))
theorem Slo.slt {H : Hp} {a C dx : Addr} {vs : List (Option V)} (h : Slo H a C dx vs) : SlX.Slt H a C dx vs := by
  rcases h with ⟨h1, h2, _⟩ | ⟨h1, h2⟩
  · exact .inl ⟨h1, h2⟩
  · exact .inr ⟨h1, h2⟩
/-- the slots with these names hold these values -/
def Slots (K : PySem.W.Frag) (C : Addr) (ns : List Nat) (vs : List (Option V)) (us : List V) : Prop :=
  us.length = ns.length ∧ ∀ (j : Nat) (f : Nat) (u : V), ns[j]? = some f → us[j]? = some u → ∃ p i, SlX.Slot1 K C (nmN f) p i ∧ vs[i]? = some (some u)

mutual
inductive Den (K : PySem.W.Frag) (F : Hp) : D → V → Prop
  | non : Den K F .non .non
  | bl (b : Bool) : Den K F (.bl b) (.bl b)
  | int (i : Int) : Den K F (.int i) (.int i)
  | str (x : Str) : Den K F (.str x) (.str x)
  | tup {a : Addr} {vs : List V} {ds : List D} : F a = some (.tup vs) → DenL K F ds vs → Den K F (.tup ds) (.ref a)
  | ktp {a : Addr} {vs : List V} {ds : List D} : SqT K F a vs → DenL K F ds vs → Den K F (.ktp ds) (.ref a)
  | lst {a : Addr} {vs : List V} {ds : List D} : F a = some (.lst vs) → DenL K F ds vs → Den K F (.lst ds) (.ref a)
  | scr {a : Addr} {vs : List V} {ds : List D} : SqL K F a vs → DenL K F ds vs → Den K F (.scr ds) (.ref a)
  | dct {a : Addr} {kvs : List (Key × V)} {ks : List Key} {ds : List D} : F a = some (.dK kvs) → kvs.map (·.1) = ks → DenL K F ds (kvs.map (·.2)) → Den K F (.dct ks ds) (.ref a)
  | dcT {a : Addr} {kvs : List (List Key × V)} {ks : List (List Key)} {ds : List D} : F a = some (.dT kvs) → kvs.map (·.1) = ks → DenL K F ds (kvs.map (·.2)) → Den K F (.dcT ks ds) (.ref a)
  | obj {a C dx : Addr} {c : Nat} {ns : List Nat} {ds : List D} {vs : List (Option V)} {us : List V} : ClsA K c C → Slo F a C dx vs → Slots K C ns vs us → DenL K F ds us → Den K F (.obj c ns ds) (.ref a)
inductive DenL (K : PySem.W.Frag) (F : Hp) : List D → List V → Prop
  | nil : DenL K F [] []
  | cons {d : D} {v : V} {ds : List D} {vs : List V} : Den K F d v → DenL K F ds vs → DenL K F (d :: ds) (v :: vs)
end

def Ex (F F' : Hp) : Prop := ∀ a o, F a = some o → F' a = some o
theorem Ex.refl (F : Hp) : Ex F F := fun _ _ h => h
theorem Ex.trans {F G I : Hp} (a : Ex F G) (b : Ex G I) : Ex F I := fun x o h => b x o (a x o h)
theorem Ex.new {F : Hp} {p : Addr} {o : HO} (h : F p = none) : Ex F (upd F p o) := fun a u e => by
  rw [upd_ne (ne_of_none e h)]
  exact e
theorem Ex.sqL {K : PySem.W.Frag} {F G : Hp} {a : Addr} {xs : List V} (e : Ex F G) (h : SqL K F a xs) : SqL K G a xs := by
  rcases h with (h | ⟨o, h⟩) | h
  · exact .inl (.inl (e _ _ h))
  · exact .inl (.inr ⟨o, e _ _ h⟩)
  · exact .inr h
theorem Ex.sqT {K : PySem.W.Frag} {F G : Hp} {a : Addr} {xs : List V} (e : Ex F G) (h : SqT K F a xs) : SqT K G a xs := by
  rcases h with (h | ⟨o, h⟩) | h
  · exact .inl (.inl (e _ _ h))
  · exact .inl (.inr ⟨o, e _ _ h⟩)
  · exact .inr h
theorem Ex.slo {F G : Hp} {a C dx : Addr} {vs : List (Option V)} (e : Ex F G) (h : Slo F a C dx vs) : Slo G a C dx vs := by
  rcases h with ⟨h1, h2, h3⟩ | ⟨h1, h2⟩
  · exact .inl ⟨e _ _ h1, h2, e _ _ h3⟩
  · exact .inr ⟨e _ _ h1, e _ _ h2⟩

section
variable {K : PySem.W.Frag} {F G : Hp}
mutual
theorem Den.mono (e : Ex F G) : ∀ {d : D} {v : V}, Den K F d v → Den K G d v
  | _, _, .non => .non
  | _, _, .bl b => .bl b
  | _, _, .int i => .int i
  | _, _, .str x => .str x
  | _, _, .tup h t => .tup (e _ _ h) (DenL.mono e t)
  | _, _, .ktp h t => .ktp (e.sqT h) (DenL.mono e t)
  | _, _, .lst h t => .lst (e _ _ h) (DenL.mono e t)
  | _, _, .scr h t => .scr (e.sqL h) (DenL.mono e t)
  | _, _, .dct h k t => .dct (e _ _ h) k (DenL.mono e t)
  | _, _, .dcT h k t => .dcT (e _ _ h) k (DenL.mono e t)
  | _, _, .obj c h k t => .obj c (e.slo h) k (DenL.mono e t)
theorem DenL.mono (e : Ex F G) : ∀ {ds : List D} {vs : List V}, DenL K F ds vs → DenL K G ds vs
  | _, _, .nil => .nil
  | _, _, .cons h t => .cons (Den.mono e h) (DenL.mono e t)
end
theorem DenL.length : ∀ {ds : List D} {vs : List V}, DenL K F ds vs → vs.length = ds.length
  | _, _, .nil => rfl
  | _, _, .cons _ t => by rw [List.length_cons, List.length_cons, DenL.length t]
theorem DenL.get : ∀ {ds : List D} {vs : List V} {i : Nat} {d : D}, DenL K F ds vs → ds[i]? = some d → ∃ v, vs[i]? = some v ∧ Den K F d v
  | _, _, _, _, .nil, e => by simp at e
  | _, _, 0, _, .cons h _, e => by simp at e; subst e; exact ⟨_, rfl, h⟩
  | _, _, i + 1, d, .cons _ t, e => by
    obtain ⟨v, h1, h2⟩ := DenL.get (i := i) (d := d) t (by simpa using e)
    exact ⟨v, by simpa using h1, h2⟩
theorem DenL.getV : ∀ {ds : List D} {vs : List V} {i : Nat} {v : V}, DenL K F ds vs → vs[i]? = some v → ∃ d, ds[i]? = some d ∧ Den K F d v
  | _, _, _, _, .nil, e => by simp at e
  | _, _, 0, _, .cons h _, e => by simp at e; subst e; exact ⟨_, rfl, h⟩
  | _, _, i + 1, d, .cons _ t, e => by
    obtain ⟨v, h1, h2⟩ := DenL.getV (i := i) (v := d) t (by simpa using e)
    exact ⟨v, by simpa using h1, h2⟩
theorem DenL.append : ∀ {ds es : List D} {vs us : List V}, DenL K F ds vs → DenL K F es us → DenL K F (ds ++ es) (vs ++ us)
  | _, _, _, _, .nil, h => h
  | _, _, _, _, .cons a t, h => .cons a (DenL.append t h)
theorem DenL.set {d : D} {v : V} (h : Den K F d v) : ∀ {ds : List D} {vs : List V} (i : Nat), DenL K F ds vs → DenL K F (ds.set i d) (vs.set i v)
  | _, _, _, .nil => .nil
  | _, _, 0, .cons _ t => .cons h t
  | _, _, i + 1, .cons a t => .cons a (DenL.set h i t)
theorem DenL.take : ∀ {ds : List D} {vs : List V} (n : Nat), DenL K F ds vs → DenL K F (ds.take n) (vs.take n)
  | _, _, 0, _ => .nil
  | _, _, _ + 1, .nil => .nil
  | _, _, n + 1, .cons a t => .cons a (DenL.take n t)
theorem DenL.drop : ∀ {ds : List D} {vs : List V} (n : Nat), DenL K F ds vs → DenL K F (ds.drop n) (vs.drop n)
  | _, _, 0, h => h
  | _, _, _ + 1, .nil => .nil
  | _, _, n + 1, .cons _ t => DenL.drop n t
end

/-- content of its own -/
def MainK (u : HO) : Prop := (∀ y, u ≠ .own y) ∧ ∀ f, u ≠ .xd f
theorem main_lst (vs : List V) : MainK (.lst vs) := ⟨fun _ z => (nomatch z), fun _ z => (nomatch z)⟩
theorem main_tup (vs : List V) : MainK (.tup vs) := ⟨fun _ z => (nomatch z), fun _ z => (nomatch z)⟩
theorem main_dK (vs : List (Key × V)) : MainK (.dK vs) := ⟨fun _ z => (nomatch z), fun _ z => (nomatch z)⟩
theorem main_dT (vs : List (List Key × V)) : MainK (.dT vs) := ⟨fun _ z => (nomatch z), fun _ z => (nomatch z)⟩
theorem main_ins (C dx : Addr) : MainK (.ins C dx []) := ⟨fun _ z => (nomatch z), fun _ z => (nomatch z)⟩
theorem main_slo (a C dx : Addr) (vs : List (Option V)) : MainK (SlX.SlO a C dx vs) := ⟨fun _ z => (by unfold SlX.SlO at z; cases z), fun _ z => (by unfold SlX.SlO at z; cases z)⟩
/-- what of a heap must stay for the thing at a -/
structure Keeps (H H' : Hp) (a : Addr) : Prop where
  at_ : ∀ u, H a = some u → H' a = some u
  own : ∀ dx, H dx = some (.own a) → H' dx = some (.own a)
  xd : ∀ dx, H dx = some (.xd []) → H' dx = some (.xd [])
theorem Keeps.refl (H : Hp) (a : Addr) : Keeps H H a := ⟨fun _ h => h, fun _ h => h, fun _ h => h⟩
theorem Keeps.lay {H : Hp} {p a : Addr} {u : HO} (h : H p = none) : Keeps H (upd H p u) a :=
  ⟨fun _ e => by rw [upd_ne (ne_of_none e h)]; exact e, fun _ e => by rw [upd_ne (ne_of_none e h)]; exact e, fun _ e => by rw [upd_ne (ne_of_none e h)]; exact e⟩
theorem Keeps.put {H : Hp} {p a : Addr} {u w : HO} (h : H p = some w) (m : MainK w) (n : a ≠ p) : Keeps H (upd H p u) a :=
  ⟨fun _ e => by rw [upd_ne n]; exact e, fun dx e => by rw [upd_ne (ne_of e h (fun z => m.1 _ z.symm))]; exact e, fun dx e => by rw [upd_ne (ne_of e h (fun z => m.2 _ z.symm))]; exact e⟩
/-- an instance that may change -/
def SloL (F H : Hp) (a C dx : Addr) (vs : List (Option V)) : Prop :=
  (H a = some (.ins C dx []) ∧ vs = [] ∧ H dx = some (.own a) ∧ F dx = none) ∨ (H a = some (SlX.SlO a C dx vs) ∧ H dx = some (.xd []))
theorem SloL.slo {F H : Hp} {a C dx : Addr} {vs : List (Option V)} (h : SloL F H a C dx vs) : Slo H a C dx vs := by
  rcases h with ⟨h1, h2, h3, _⟩ | ⟨h1, h2⟩
  · exact .inl ⟨h1, h2, h3⟩
  · exact .inr ⟨h1, h2⟩
theorem SloL.main {F H : Hp} {a C dx : Addr} {vs : List (Option V)} (h : SloL F H a C dx vs) : ∃ u, H a = some u ∧ MainK u := by
  rcases h with ⟨h1, _⟩ | ⟨h1, _⟩
  · exact ⟨_, h1, main_ins _ _⟩
  · exact ⟨_, h1, main_slo _ _ _ _⟩
theorem SloL.keeps {F H H' : Hp} {a C dx : Addr} {vs : List (Option V)} (k : Keeps H H' a) (h : SloL F H a C dx vs) : SloL F H' a C dx vs := by
  rcases h with ⟨h1, h2, h3, h4⟩ | ⟨h1, h2⟩
  · exact .inl ⟨k.at_ _ h1, h2, k.own _ h3, h4⟩
  · exact .inr ⟨k.at_ _ h1, k.xd _ h2⟩
/-- how a thing of the store lies -/
def OR (K : PySem.W.Frag) (F H : Hp) (a : Addr) : O → Prop
  | .lst ds => F a = none ∧ ∃ vs, H a = some (.lst vs) ∧ DenL K F ds vs
  | .dct ks ds => F a = none ∧ ∃ kvs, H a = some (.dK kvs) ∧ kvs.map (·.1) = ks ∧ DenL K F ds (kvs.map (·.2))
  | .dcT ks ds => F a = none ∧ ∃ kvs, H a = some (.dT kvs) ∧ kvs.map (·.1) = ks ∧ DenL K F ds (kvs.map (·.2))
  | .ins c ns ds => F a = none ∧ ∃ C dx vs us, ClsA K c C ∧ SloL F H a C dx vs ∧ Slots K C ns vs us ∧ DenL K F ds us
  | .frz d => Den K F d (.ref a)
  | .dead => True

abbrev Mp := Nat → Nat → Addr
/-- things that stand aside meanwhile -/
abbrev Ps := List (Addr × HO)
structure Rel (K : PySem.W.Frag) (M : Mp) (R : Sto) (P : Ps) (F H : Hp) : Prop where
  ex : Ex F H
  ob : ∀ j i o, sget R j i = some o → OR K F H (M j i) o
  inj : ∀ j i j' i', live R j i → live R j' i' → M j i = M j' i' → j = j' ∧ i = i'
  pr : ∀ q ∈ P, H q.1 = some q.2 ∧ F q.1 = none ∧ MainK q.2 ∧ ∀ j i, live R j i → M j i ≠ q.1
  pd : (P.map (·.1)).Nodup

/-- a value, or a thing of the store -/
def Vr (K : PySem.W.Frag) (M : Mp) (F : Hp) (d : D) (v : V) : Prop := (∃ j i, d = .ref j i ∧ v = .ref (M j i)) ∨ Den K F d v
inductive Rv where
  | val (d : D) | new (o : O) | many (ds : List D)
/-- a value; a new thing that nobody has -/
def RVR (K : PySem.W.Frag) (M : Mp) (R : Sto) (P : Ps) (F H : Hp) (v : V) : Rv → Prop
  | .val d => Vr K M F d v
  | .new o => ∃ p, v = .ref p ∧ o.isF = false ∧ OR K F H p o ∧ (∀ j i, live R j i → M j i ≠ p) ∧ ∀ q ∈ P, q.1 ≠ p
  | .many _ => False

section
variable {K : PySem.W.Frag} {M : Mp} {R : Sto} {P : Ps} {F G H : Hp} {d : D} {v : V} {o : O} {a p : Addr}
theorem Vr.mono (e : Ex F G) (h : Vr K M F d v) : Vr K M G d v := by
  rcases h with h | h
  · exact .inl h
  · exact .inr (h.mono e)
theorem Vr.int {i : Int} (h : Vr K M F (.int i) v) : v = .int i := by
  rcases h with ⟨_, _, e, _⟩ | h
  · cases e
  · cases h; rfl
theorem Vr.bl {b : Bool} (h : Vr K M F (.bl b) v) : v = .bl b := by
  rcases h with ⟨_, _, e, _⟩ | h
  · cases e
  · cases h; rfl
theorem Vr.str {x : Str} (h : Vr K M F (.str x) v) : v = .str x := by
  rcases h with ⟨_, _, e, _⟩ | h
  · cases e
  · cases h; rfl
theorem Vr.non (h : Vr K M F .non v) : v = .non := by
  rcases h with ⟨_, _, e, _⟩ | h
  · cases e
  · cases h; rfl
theorem Vr.tup {ds : List D} (h : Vr K M F (.tup ds) v) : ∃ a vs, v = .ref a ∧ SqT K F a vs ∧ DenL K F ds vs := by
  rcases h with ⟨_, _, e, _⟩ | h
  · cases e
  · cases h with
    | tup h t => exact ⟨_, _, rfl, .inl (.inl h), t⟩
theorem Vr.tupF {ds : List D} (h : Vr K M F (.tup ds) v) : ∃ a vs, v = .ref a ∧ F a = some (.tup vs) ∧ DenL K F ds vs := by
  rcases h with ⟨_, _, e, _⟩ | h
  · cases e
  · cases h with
    | tup h t => exact ⟨_, _, rfl, h, t⟩
theorem Vr.ktp {ds : List D} (h : Vr K M F (.ktp ds) v) : ∃ a vs, v = .ref a ∧ SqT K F a vs ∧ DenL K F ds vs := by
  rcases h with ⟨_, _, e, _⟩ | h
  · cases e
  · cases h with
    | ktp h t => exact ⟨_, _, rfl, h, t⟩
theorem Vr.lst {ds : List D} (h : Vr K M F (.lst ds) v) : ∃ a vs, v = .ref a ∧ F a = some (.lst vs) ∧ DenL K F ds vs := by
  rcases h with ⟨_, _, e, _⟩ | h
  · cases e
  · cases h with
    | lst h t => exact ⟨_, _, rfl, h, t⟩
theorem Vr.scr {ds : List D} (h : Vr K M F (.scr ds) v) : ∃ a vs, v = .ref a ∧ SqL K F a vs ∧ DenL K F ds vs := by
  rcases h with ⟨_, _, e, _⟩ | h
  · cases e
  · cases h with
    | scr h t => exact ⟨_, _, rfl, h, t⟩
theorem Vr.dct {ks : List Key} {ds : List D} (h : Vr K M F (.dct ks ds) v) : ∃ a kvs, v = .ref a ∧ F a = some (.dK kvs) ∧ kvs.map (·.1) = ks ∧ DenL K F ds (kvs.map (·.2)) := by
  rcases h with ⟨_, _, e, _⟩ | h
  · cases e
  · cases h with
    | dct h k t => exact ⟨_, _, rfl, h, k, t⟩
theorem Vr.ref {j i : Nat} (h : Vr K M F (.ref j i) v) : v = .ref (M j i) := by
  rcases h with ⟨_, _, e, h⟩ | h
  · cases e; exact h
  · cases h
theorem Vr.of (h : Den K F d v) : Vr K M F d v := .inr h

theorem Vr.dcT {ks : List (List Key)} {ds : List D} (h : Vr K M F (.dcT ks ds) v) : ∃ a kvs, v = .ref a ∧ F a = some (.dT kvs) ∧ kvs.map (·.1) = ks ∧ DenL K F ds (kvs.map (·.2)) := by
  rcases h with ⟨_, _, e, _⟩ | h
  · cases e
  · cases h with
    | dcT h k t => exact ⟨_, _, rfl, h, k, t⟩
theorem Vr.obj {c : Nat} {ns : List Nat} {ds : List D} (h : Vr K M F (.obj c ns ds) v) : ∃ a C dx vs us, v = .ref a ∧ ClsA K c C ∧ Slo F a C dx vs ∧ Slots K C ns vs us ∧ DenL K F ds us := by
  rcases h with ⟨_, _, e, _⟩ | h
  · cases e
  · cases h with
    | obj h k l t => exact ⟨_, _, _, _, _, rfl, h, k, l, t⟩
theorem OR.mono (e : Ex F G) (hn : o.isF = false → G a = none ∧ ∀ dx, H dx = some (.own a) → F dx = none → G dx = none) (h : OR K F H a o) : OR K G H a o := by
  cases o with
  | lst ds =>
    obtain ⟨_, vs, h1, h2⟩ := h
    exact ⟨(hn rfl).1, vs, h1, h2.mono e⟩
  | dct ks ds =>
    obtain ⟨_, vs, h1, h2, h3⟩ := h
    exact ⟨(hn rfl).1, vs, h1, h2, h3.mono e⟩
  | dcT ks ds =>
    obtain ⟨_, vs, h1, h2, h3⟩ := h
    exact ⟨(hn rfl).1, vs, h1, h2, h3.mono e⟩
  | ins c ns ds =>
    obtain ⟨_, C, dx, vs, us, h1, h2, h3, h4⟩ := h
    refine ⟨(hn rfl).1, C, dx, vs, us, h1, ?_, h3, h4.mono e⟩
    rcases h2 with ⟨g1, g2, g3, g4⟩ | h2
    · exact .inl ⟨g1, g2, g3, (hn rfl).2 _ g3 g4⟩
    · exact .inr h2
  | frz d => exact Den.mono e h
  | dead => trivial
theorem OR.heap {H' : Hp} (k : o.isF = false → Keeps H H' a) (h : OR K F H a o) : OR K F H' a o := by
  cases o with
  | lst ds =>
    obtain ⟨h0, vs, h1, h2⟩ := h
    exact ⟨h0, vs, (k rfl).at_ _ h1, h2⟩
  | dct ks ds =>
    obtain ⟨h0, vs, h1, h2, h3⟩ := h
    exact ⟨h0, vs, (k rfl).at_ _ h1, h2, h3⟩
  | dcT ks ds =>
    obtain ⟨h0, vs, h1, h2, h3⟩ := h
    exact ⟨h0, vs, (k rfl).at_ _ h1, h2, h3⟩
  | ins c ns ds =>
    obtain ⟨h0, C, dx, vs, us, h1, h2, h3, h4⟩ := h
    exact ⟨h0, C, dx, vs, us, h1, h2.keeps (k rfl), h3, h4⟩
  | frz d => exact h
  | dead => trivial
theorem OR.none (hf : o.isF = false) (h : OR K F H a o) : F a = Option.none ∧ ∃ u, H a = some u ∧ MainK u := by
  cases o with
  | lst ds =>
    obtain ⟨h0, vs, h1, h2⟩ := h
    exact ⟨h0, _, h1, main_lst _⟩
  | dct ks ds =>
    obtain ⟨h0, vs, h1, h2, h3⟩ := h
    exact ⟨h0, _, h1, main_dK _⟩
  | dcT ks ds =>
    obtain ⟨h0, vs, h1, h2, h3⟩ := h
    exact ⟨h0, _, h1, main_dT _⟩
  | ins c ns ds =>
    obtain ⟨h0, C, dx, vs, us, h1, h2, h3, h4⟩ := h
    exact ⟨h0, h2.main⟩
  | frz d => cases hf
  | dead => cases hf
theorem Rel.none (r : Rel K M R P F H) (h : H p = Option.none) : F p = Option.none := by
  cases e : F p with
  | none => rfl
  | some o =>
    rw [r.ex _ _ e] at h
    cases h
theorem Rel.live_ne (r : Rel K M R P F H) (h : H p = Option.none) {j i : Nat} (l : live R j i) : M j i ≠ p := fun e => by
  obtain ⟨o, h1, h2⟩ := l
  obtain ⟨_, u, h3, _⟩ := (r.ob j i o h1).none h2
  rw [e, h] at h3
  cases h3
/-- something is laid that is no thing of the store -/
theorem Rel.lay {u : HO} (r : Rel K M R P F H) (h : H p = Option.none) : Rel K M R P F (upd H p u) where
  ex := fun a o e => by
    rw [upd_ne (ne_of_none (r.ex _ _ e) h)]
    exact r.ex _ _ e
  ob := fun j i o e => (r.ob j i o e).heap fun hf => .lay h
  inj := r.inj
  pr := fun q hq => by
    obtain ⟨h1, h2, h3⟩ := r.pr q hq
    refine ⟨?_, h2, h3⟩
    rw [upd_ne (ne_of_none h1 h)]
    exact h1
  pd := r.pd
/-- it may be told from now on -/
theorem Rel.tell {u : HO} (r : Rel K M R P F H) (h : H p = some u) (hn : F p = Option.none) (hl : ∀ j i, live R j i → M j i ≠ p ∧ u ≠ .own (M j i)) (hp : ∀ q ∈ P, q.1 ≠ p) : Ex F (upd F p u) ∧ Rel K M R P (upd F p u) H := by
  have e : Ex F (upd F p u) := Ex.new hn
  refine ⟨e, ⟨fun a o q => ?_, fun j i o q => ?_, r.inj, fun q hq => ?_, r.pd⟩⟩
  · by_cases hap : a = p
    · rw [hap, upd_same] at q
      cases q
      rw [hap]
      exact h
    · rw [upd_ne hap] at q
      exact r.ex _ _ q
  · refine (r.ob j i o q).mono e fun hf => ?_
    have hl := hl j i ⟨o, q, hf⟩
    refine ⟨by rw [upd_ne hl.1]; exact ((r.ob j i o q).none hf).1, fun dx hd hn' => ?_⟩
    rw [upd_ne (ne_of hd h (fun z => hl.2 z.symm))]
    exact hn'
  · obtain ⟨h1, h2, h3⟩ := r.pr q hq
    refine ⟨h1, ?_, h3⟩
    rw [upd_ne (hp q hq)]
    exact h2
theorem Rel.aside_ne (r : Rel K M R P F H) (h : H p = Option.none) : ∀ q ∈ P, q.1 ≠ p := fun q hq => ne_of_none (r.pr q hq).1 h
theorem Rel.layTell {u : HO} (r : Rel K M R P F H) (h : H p = Option.none) (hu : ∀ y, u ≠ .own y) : Ex F (upd F p u) ∧ Rel K M R P (upd F p u) (upd H p u) :=
  (r.lay h).tell upd_same (r.none h) (fun _ _ l => ⟨r.live_ne h l, hu _⟩) (r.aside_ne h)
/-- a new tuple -/
theorem Rel.tup {vs : List V} {ds : List D} (r : Rel K M R P F H) (h : H p = Option.none) (t : DenL K F ds vs) :
    ∃ G, Ex F G ∧ Rel K M R P G (upd H p (.tup vs)) ∧ RVR K M R P G (upd H p (.tup vs)) (.ref p) (.val (.tup ds)) := by
  obtain ⟨e, r'⟩ := r.layTell (u := .tup vs) h (main_tup _).1
  exact ⟨_, e, r', .inr (.tup upd_same (t.mono e))⟩
/-- a new list, still free -/
theorem Rel.lst {vs : List V} {ds : List D} (r : Rel K M R P F H) (h : H p = Option.none) (t : DenL K F ds vs) :
    Rel K M R P F (upd H p (.lst vs)) ∧ RVR K M R P F (upd H p (.lst vs)) (.ref p) (.new (.lst ds)) :=
  ⟨r.lay h, p, rfl, rfl, ⟨r.none h, vs, upd_same, t⟩, fun _ _ l => r.live_ne h l, r.aside_ne h⟩
end

/-- the value of what is told or new -/
def fzO : O → D
  | .lst ds => .lst ds
  | .dct ks ds => .dct ks ds
  | .dcT ks ds => .dcT ks ds
  | .ins c ns ds => .obj c ns ds
  | .frz d => d
  | .dead => .non
def fz : Rv → D
  | .val d => d
  | .new o => fzO o
  | .many ds => .tup ds
section
variable {K : PySem.W.Frag} {M : Mp} {R : Sto} {P : Ps} {F G H : Hp} {d : D} {v : V} {o : O} {a p : Addr}
theorem Rel.fz {rv : Rv} (r : Rel K M R P F H) (h : RVR K M R P F H v rv) : ∃ G, Ex F G ∧ Rel K M R P G H ∧ Vr K M G (fz rv) v := by
  cases rv with
  | val d => exact ⟨F, .refl F, r, h⟩
  | many _ => exact h.elim
  | new o =>
    obtain ⟨p, rfl, hf, h1, h2, h2p⟩ := h
    cases o with
    | frz d => cases hf
    | dead => cases hf
    | lst ds =>
      obtain ⟨h0, vs, h3, h4⟩ := h1
      obtain ⟨e, r'⟩ := r.tell h3 h0 (fun j i l => ⟨h2 j i l, (main_lst _).1 _⟩) h2p
      exact ⟨_, e, r', .inr (.lst upd_same (h4.mono e))⟩
    | dct ks ds =>
      obtain ⟨h0, vs, h3, h4, h5⟩ := h1
      obtain ⟨e, r'⟩ := r.tell h3 h0 (fun j i l => ⟨h2 j i l, (main_dK _).1 _⟩) h2p
      exact ⟨_, e, r', .inr (.dct upd_same h4 (h5.mono e))⟩
    | dcT ks ds =>
      obtain ⟨h0, vs, h3, h4, h5⟩ := h1
      obtain ⟨e, r'⟩ := r.tell h3 h0 (fun j i l => ⟨h2 j i l, (main_dT _).1 _⟩) h2p
      exact ⟨_, e, r', .inr (.dcT upd_same h4 (h5.mono e))⟩
    | ins c ns ds =>
      obtain ⟨h0, C, dx, vs, us, hc, hs, hsl, hd⟩ := h1
      rcases hs with ⟨g1, g2, g3, g4⟩ | ⟨g1, g2⟩
      · obtain ⟨e1, r1⟩ := r.tell g3 g4 (fun j i l => by
            obtain ⟨o', q1, q2⟩ := l
            obtain ⟨_, w, hw, m⟩ := (r.ob j i o' q1).none q2
            exact ⟨ne_of hw g3 (m.1 _), fun z => by injection z with z; exact h2 j i ⟨o', q1, q2⟩ z.symm⟩) (fun q hq => by
            obtain ⟨z1, _, z3, _⟩ := r.pr q hq
            exact ne_of z1 g3 (z3.1 _))
        have h0' : upd F dx (.own p) p = Option.none := by rw [upd_ne (ne_of g1 g3 (fun z => nomatch z))]; exact h0
        obtain ⟨e2, r2⟩ := r1.tell g1 h0' (fun j i l => ⟨h2 j i l, (main_ins _ _).1 _⟩) h2p
        refine ⟨_, e1.trans e2, r2, .inr (.obj hc (.inl ⟨upd_same, g2, ?_⟩) hsl (hd.mono (e1.trans e2)))⟩
        exact e2 _ _ upd_same
      · by_cases hx : F dx = Option.none
        · obtain ⟨e1, r1⟩ := r.tell g2 hx (fun j i l => by
              obtain ⟨o', q1, q2⟩ := l
              obtain ⟨_, w, hw, m⟩ := (r.ob j i o' q1).none q2
              exact ⟨ne_of hw g2 (m.2 _), fun z => nomatch z⟩) (fun q hq => by
              obtain ⟨z1, _, z3, _⟩ := r.pr q hq
              exact ne_of z1 g2 (z3.2 _))
          have h0' : upd F dx (.xd []) p = Option.none := by rw [upd_ne (ne_of g1 g2 ((main_slo _ _ _ _).2 _))]; exact h0
          obtain ⟨e2, r2⟩ := r1.tell g1 h0' (fun j i l => ⟨h2 j i l, (main_slo _ _ _ _).1 _⟩) h2p
          refine ⟨_, e1.trans e2, r2, .inr (.obj hc (.inr ⟨upd_same, ?_⟩) hsl (hd.mono (e1.trans e2)))⟩
          exact e2 _ _ upd_same
        · have hx' : F dx = some (.xd []) := by
            cases q : F dx with
            | none => exact absurd q hx
            | some w =>
              have := r.ex _ _ q
              rw [g2] at this
              cases this
              rfl
          obtain ⟨e2, r2⟩ := r.tell g1 h0 (fun j i l => ⟨h2 j i l, (main_slo _ _ _ _).1 _⟩) h2p
          exact ⟨_, e2, r2, .inr (.obj hc (.inr ⟨upd_same, e2 _ _ hx'⟩) hsl (hd.mono e2))⟩
theorem sget_set_same {j i : Nat} {o u : O} (h : sget R j i = some u) : sget (sset R j i o) j i = some o := by
  unfold sget sset at *
  have hj : j < R.length := by
    by_cases hj : j < R.length
    · exact hj
    · rw [List.getD_eq_getElem?_getD, List.getElem?_eq_none (Nat.le_of_not_lt hj)] at h
      simp at h
  have e : (R.set j ((R.getD j []).set i o)).getD j [] = (R.getD j []).set i o := by
    rw [List.getD_eq_getElem?_getD, List.getElem?_set_self hj]
    rfl
  rw [e]
  have hi := (List.getElem?_eq_some_iff.mp h).1
  rw [List.getElem?_set_self hi]
theorem sget_set_ne {j i j' i' : Nat} {o : O} (h : ¬ (j' = j ∧ i' = i)) : sget (sset R j i o) j' i' = sget R j' i' := by
  unfold sget sset
  by_cases hj : j' = j
  · subst hj
    have hi : i' ≠ i := fun e => h ⟨rfl, e⟩
    by_cases hl : j' < R.length
    · have e : (R.set j' ((R.getD j' []).set i o)).getD j' [] = (R.getD j' []).set i o := by
        rw [List.getD_eq_getElem?_getD, List.getElem?_set_self hl]
        rfl
      rw [e, List.getElem?_set_ne (Ne.symm hi)]
    · rw [List.set_eq_of_length_le (Nat.le_of_not_lt hl)]
  · have e : (R.set j ((R.getD j []).set i o)).getD j' [] = R.getD j' [] := by
      rw [List.getD_eq_getElem?_getD, List.getElem?_set_ne (Ne.symm hj), ← List.getD_eq_getElem?_getD]
    rw [e]
theorem live_set {j i j' i' : Nat} {o u : O} (hu : sget R j i = some u) (hf : u.isF = true → o.isF = true) (l : live (sset R j i o) j' i') : live R j' i' := by
  obtain ⟨w, h1, h2⟩ := l
  by_cases e : j' = j ∧ i' = i
  · obtain ⟨rfl, rfl⟩ := e
    rw [sget_set_same hu] at h1
    cases h1
    refine ⟨u, hu, ?_⟩
    cases q : u.isF with
    | false => rfl
    | true => rw [hf q] at h2; cases h2
  · rw [sget_set_ne e] at h1
    exact ⟨w, h1, h2⟩
/-- a thing of the store changes -/
theorem Rel.put {j i : Nat} {o u : O} {w : HO} (r : Rel K M R P F H) (hu : sget R j i = some u) (hf : u.isF = false) (hof : o.isF = false)
    (h : OR K F (upd H (M j i) w) (M j i) o) : Rel K M (sset R j i o) P F (upd H (M j i) w) where
  ex := fun a q e => by
    have hn := ((r.ob j i u hu).none hf).1
    rw [upd_ne (ne_of_none e hn)]
    exact r.ex _ _ e
  ob := fun j' i' q e => by
    by_cases z : j' = j ∧ i' = i
    · obtain ⟨rfl, rfl⟩ := z
      rw [sget_set_same hu] at e
      cases e
      exact h
    · rw [sget_set_ne z] at e
      refine (r.ob j' i' q e).heap fun hq => ?_
      have ne : M j' i' ≠ M j i := fun q' => z (r.inj j' i' j i ⟨q, e, hq⟩ ⟨u, hu, hf⟩ q')
      obtain ⟨_, x, hx, m⟩ := (r.ob j i u hu).none hf
      exact .put hx m ne
  inj := fun j1 i1 j2 i2 l1 l2 e => r.inj j1 i1 j2 i2 (live_set hu (fun z => by rw [hf] at z; cases z) l1) (live_set hu (fun z => by rw [hf] at z; cases z) l2) e
  pr := fun q hq => by
    obtain ⟨h1, h2, hm, h3⟩ := r.pr q hq
    refine ⟨?_, h2, hm, fun j' i' l => h3 j' i' (live_set hu (fun z => by rw [hf] at z; cases z) l)⟩
    rw [upd_ne (Ne.symm (h3 j i ⟨u, hu, hf⟩))]
    exact h1
  pd := r.pd
/-- a thing of the store is forgotten -/
theorem Rel.kill {j i : Nat} {u : O} (r : Rel K M R P F H) (hu : sget R j i = some u) : Rel K M (sset R j i .dead) P F H := by
  refine ⟨r.ex, fun j' i' o q => ?_, fun j1 i1 j2 i2 l1 l2 q => r.inj _ _ _ _ (live_set hu (fun _ => rfl) l1) (live_set hu (fun _ => rfl) l2) q, fun q hq => ?_, r.pd⟩
  · by_cases z : j' = j ∧ i' = i
    · obtain ⟨rfl, rfl⟩ := z
      rw [sget_set_same hu] at q
      cases q
      trivial
    · rw [sget_set_ne z] at q
      exact r.ob j' i' o q
  · obtain ⟨h1, h2, hm, h3⟩ := r.pr q hq
    exact ⟨h1, h2, hm, fun j' i' l => h3 j' i' (live_set hu (fun _ => rfl) l)⟩
theorem Rel.frzAt {j i : Nat} {u : O} (r : Rel K M R P F H) (hu : sget R j i = some u) (hd : Den K F d (.ref (M j i))) : Rel K M (sset R j i (.frz d)) P F H := by
  refine ⟨r.ex, fun j' i' o q => ?_, fun j1 i1 j2 i2 l1 l2 q => r.inj _ _ _ _ (live_set hu (fun _ => rfl) l1) (live_set hu (fun _ => rfl) l2) q, fun q hq => ?_, r.pd⟩
  · by_cases z : j' = j ∧ i' = i
    · obtain ⟨rfl, rfl⟩ := z
      rw [sget_set_same hu] at q
      cases q
      exact hd
    · rw [sget_set_ne z] at q
      exact r.ob j' i' o q
  · obtain ⟨h1, h2, hm, h3⟩ := r.pr q hq
    exact ⟨h1, h2, hm, fun j' i' l => h3 j' i' (live_set hu (fun _ => rfl) l)⟩
theorem sset_sset {j i : Nat} {o u : O} : sset (sset R j i o) j i u = sset R j i u := by
  unfold sset
  by_cases hj : j < R.length
  · have e : (R.set j ((R.getD j []).set i o)).getD j [] = (R.getD j []).set i o := by
      rw [List.getD_eq_getElem?_getD, List.getElem?_set_self hj]
      rfl
    rw [e, List.set_set, List.set_set]
  · rw [List.set_eq_of_length_le (Nat.le_of_not_lt hj), List.set_eq_of_length_le (Nat.le_of_not_lt hj)]
theorem fz_den {o : O} (hf : o.isF = false) {a : Addr} (h : Vr K M F (fz (.new o)) (.ref a)) : Den K F (fzO o) (.ref a) := by
  rcases h with ⟨j, i, e, _⟩ | h
  · cases o <;> cases e <;> cases hf
  · exact h
/-- a thing of the store may change no more -/
theorem Rel.freeze {j i : Nat} {u : O} (r : Rel K M R P F H) (hu : sget R j i = some u) (hf : u.isF = false) :
    ∃ G, Ex F G ∧ Rel K M (sset R j i (.frz (fzO u))) P G H ∧ Den K G (fzO u) (.ref (M j i)) := by
  have r1 := r.kill hu
  have hu1 : sget (sset R j i .dead) j i = some .dead := sget_set_same hu
  have nl : ∀ j' i', live (sset R j i .dead) j' i' → M j' i' ≠ M j i := fun j' i' l e => by
    have l' := live_set hu (fun _ => rfl) l
    obtain ⟨e1, e2⟩ := r.inj j' i' j i l' ⟨u, hu, hf⟩ e
    subst e1
    subst e2
    obtain ⟨w, q1, q2⟩ := l
    rw [hu1] at q1
    cases q1
    cases q2
  obtain ⟨G, e, r2, hv⟩ := r1.fz (rv := .new u) (v := .ref (M j i)) ⟨M j i, rfl, hf, r.ob j i u hu, nl, fun q hq z => (r.pr q hq).2.2.2 j i ⟨u, hu, hf⟩ z.symm⟩
  have hd := fz_den hf hv
  have r3 := r2.frzAt hu1 hd
  rw [sset_sset] at r3
  exact ⟨G, e, r3, hd⟩
/-- a new thing stands aside; it changes; it comes back -/
theorem Rel.aside {p : Addr} {u : HO} (r : Rel K M R P F H) (h : H p = Option.none) (hm : MainK u) : Rel K M R ((p, u) :: P) F (upd H p u) := by
  have r' := r.lay (u := u) h
  refine ⟨r'.ex, r'.ob, r'.inj, fun q hq => ?_, ?_⟩
  · rcases List.mem_cons.mp hq with e | hq
    · subst e
      exact ⟨upd_same, r.none h, hm, fun j i l => r.live_ne h l⟩
    · exact r'.pr q hq
  · rw [List.map_cons, List.nodup_cons]
    refine ⟨fun z => ?_, r.pd⟩
    obtain ⟨q, hq, e⟩ := List.mem_map.mp z
    exact r.aside_ne h q hq e
theorem Rel.turn {p : Addr} {u w : HO} (r : Rel K M R ((p, u) :: P) F H) (hm : MainK w) : Rel K M R ((p, w) :: P) F (upd H p w) := by
  obtain ⟨h1, h2, m, h3⟩ := r.pr (p, u) List.mem_cons_self
  have nd := List.nodup_cons.mp r.pd
  refine ⟨fun a o e => ?_, fun j i o e => (r.ob j i o e).heap fun hf => .put h1 m (h3 j i ⟨o, e, hf⟩), r.inj, fun q hq => ?_, r.pd⟩
  · rw [upd_ne (ne_of_none e h2)]
    exact r.ex _ _ e
  · rcases List.mem_cons.mp hq with e | hq
    · subst e
      exact ⟨upd_same, h2, hm, h3⟩
    · obtain ⟨g1, g2, gm, g3⟩ := r.pr q (List.mem_cons_of_mem _ hq)
      refine ⟨?_, g2, gm, g3⟩
      have ne : q.1 ≠ p := fun z => nd.1 (List.mem_map.mpr ⟨q, hq, z⟩)
      rw [upd_ne ne]
      exact g1
theorem Rel.back {p : Addr} {u : HO} (r : Rel K M R ((p, u) :: P) F H) : Rel K M R P F H ∧ H p = some u ∧ F p = Option.none ∧ (∀ j i, live R j i → M j i ≠ p) ∧ ∀ q ∈ P, q.1 ≠ p := by
  obtain ⟨h1, h2, _, h3⟩ := r.pr (p, u) List.mem_cons_self
  have nd := List.nodup_cons.mp r.pd
  exact ⟨⟨r.ex, r.ob, r.inj, fun q hq => r.pr q (List.mem_cons_of_mem _ hq), nd.2⟩, h1, h2, h3, fun q hq z => nd.1 (List.mem_map.mpr ⟨q, hq, z⟩)⟩
theorem Rel.backL {p : Addr} {vs : List V} {ds : List D} (r : Rel K M R ((p, .lst vs) :: P) F H) (t : DenL K F ds vs) : Rel K M R P F H ∧ RVR K M R P F H (.ref p) (.new (.lst ds)) := by
  obtain ⟨r', h1, h2, h3, h4⟩ := r.back
  exact ⟨r', p, rfl, rfl, ⟨h2, vs, h1, t⟩, h3, h4⟩
/-- a new instance, at a place of a new frame -/
theorem Rel.pushNew {c : Nat} {C x dx : Addr} (r : Rel K M R P F H) (hc : ClsA K c C) (h1 : H x = Option.none) (h2 : H dx = Option.none) (hne : dx ≠ x) :
    Rel K (fun j i => match j with | 0 => x | j + 1 => M j i) ([.ins c [] []] :: R) P F (upd (upd H dx (.own x)) x (.ins C dx [])) := by
  have h1' : upd H dx (.own x) x = Option.none := by rw [upd_ne (Ne.symm hne)]; exact h1
  have r' := (r.lay (u := .own x) h2).lay (u := .ins C dx []) h1'
  have l0 : ∀ {i}, live ([.ins c [] []] :: R) 0 i → i = 0 := fun {i} ⟨o, q, _⟩ => by
    cases i with
    | zero => rfl
    | succ i => simp [sget] at q
  have lS : ∀ {j i}, live ([.ins c [] []] :: R) (j + 1) i → live R j i := fun {j i} ⟨o, q, f⟩ => ⟨o, q, f⟩
  refine ⟨r'.ex, fun j i o e => ?_, fun j1 i1 j2 i2 l1 l2 e => ?_, fun q hq => ?_, r.pd⟩
  · cases j with
    | zero =>
      cases i with
      | zero =>
        have e : some (O.ins c [] []) = some o := e
        cases e
        refine ⟨r.none h1, C, dx, [], [], hc, .inl ⟨upd_same, rfl, ?_, r.none h2⟩, ⟨rfl, fun j f u q => by simp at q⟩, .nil⟩
        rw [upd_ne hne, upd_same]
      | succ i => simp [sget] at e
    | succ j => exact r'.ob j i o e
  · cases j1 with
    | zero =>
      cases j2 with
      | zero => exact ⟨rfl, (l0 l1).trans (l0 l2).symm⟩
      | succ j2 => exact absurd e.symm (r.live_ne h1 (lS l2))
    | succ j1 =>
      cases j2 with
      | zero => exact absurd e (r.live_ne h1 (lS l1))
      | succ j2 =>
        obtain ⟨z1, z2⟩ := r.inj j1 i1 j2 i2 (lS l1) (lS l2) e
        exact ⟨by rw [z1], z2⟩
  · obtain ⟨g1, g2, gm, g3⟩ := r'.pr q hq
    refine ⟨g1, g2, gm, fun j i l => ?_⟩
    cases j with
    | zero => exact fun z => r.aside_ne h1 q hq z.symm
    | succ j => exact g3 j i (lS l)
/-- a slot of an instance of the store is stored -/
theorem Rel.slot {j i : Nat} {c : Nat} {ns ns' : List Nat} {ds ds' : List D} {C dx : Addr} {vs vs' : List (Option V)} {us' : List V} (r : Rel K M R P F H) (hu : sget R j i = some (.ins c ns ds)) (hc : ClsA K c C) (hs : SloL F H (M j i) C dx vs)
    (hsl : Slots K C ns' vs' us') (hd : DenL K F ds' us') (ne : dx ≠ M j i) : Rel K M (sset R j i (.ins c ns' ds')) P F (SlX.slH H (M j i) C dx vs') := by
  have hf : (O.ins c ns ds).isF = false := rfl
  have hF : F (M j i) = Option.none := ((r.ob j i _ hu).none hf).1
  obtain ⟨w, hw, m⟩ := hs.main
  have hdx : (H dx = some (.own (M j i)) ∧ F dx = Option.none) ∨ H dx = some (.xd []) := by
    rcases hs with ⟨_, _, g3, g4⟩ | ⟨_, g2⟩
    · exact .inl ⟨g3, g4⟩
    · exact .inr g2
  have at_ : ∀ b, b ≠ M j i → b ≠ dx → SlX.slH H (M j i) C dx vs' b = H b := fun b z1 z2 => SlX.slH_ne z1 z2
  have atX : SlX.slH H (M j i) C dx vs' dx = some (.xd []) := by
    unfold SlX.slH
    rw [upd_ne ne, upd_same]
  have mn : ∀ b u, H b = some u → MainK u → b ≠ dx := fun b u e mu => by
    rcases hdx with ⟨g, _⟩ | g
    · exact ne_of e g (mu.1 _)
    · exact ne_of e g (mu.2 _)
  have kp : ∀ a, a ≠ M j i → (∃ u, H a = some u ∧ MainK u) → Keeps H (SlX.slH H (M j i) C dx vs') a := fun a ha ⟨u, hu, mu⟩ => by
    refine ⟨fun u' e => ?_, fun d e => ?_, fun d e => ?_⟩
    · have : u' = u := by rw [hu] at e; exact (Option.some.inj e).symm
      subst this
      rw [at_ a ha (mn a _ hu mu)]
      exact e
    · rw [at_ d (ne_of e hw (fun z => m.1 _ z.symm)) (fun z => ?_)]
      · exact e
      · rw [z] at e
        rcases hdx with ⟨g, _⟩ | g
        · rw [g] at e
          injection e with e
          injection e with e
          exact ha e.symm
        · rw [g] at e
          cases e
    · by_cases z : d = dx
      · rw [z]
        exact atX
      · rw [at_ d (ne_of e hw (fun z => m.2 _ z.symm)) z]
        exact e
  refine ⟨fun a o e => ?_, fun j' i' o q => ?_, fun j1 i1 j2 i2 l1 l2 e => r.inj j1 i1 j2 i2 (live_set hu (fun z => by cases z) l1) (live_set hu (fun z => by cases z) l2) e, fun q hq => ?_, r.pd⟩
  · have h1 := r.ex _ _ e
    by_cases z : a = dx
    · subst z
      rcases hdx with ⟨_, g⟩ | g
      · rw [g] at e; cases e
      · rw [g] at h1
        rw [atX]
        exact h1
    · rw [at_ a (ne_of_none e hF) z]
      exact h1
  · by_cases z : j' = j ∧ i' = i
    · obtain ⟨rfl, rfl⟩ := z
      rw [sget_set_same hu] at q
      cases q
      exact ⟨hF, C, dx, vs', us', hc, .inr ⟨upd_same, atX⟩, hsl, hd⟩
    · rw [sget_set_ne z] at q
      refine (r.ob j' i' o q).heap fun hq => kp _ (fun q' => z (r.inj j' i' j i ⟨o, q, hq⟩ ⟨_, hu, hf⟩ q')) ((r.ob j' i' o q).none hq).2
  · obtain ⟨h1, h2, hm, h3⟩ := r.pr q hq
    refine ⟨?_, h2, hm, fun j' i' l => h3 j' i' (live_set hu (fun z => by cases z) l)⟩
    rw [at_ q.1 (Ne.symm (h3 j i ⟨_, hu, hf⟩)) (mn _ _ h1 hm)]
    exact h1
end

/-- a value that may lie in another one -/
def byv : D → Sto → Option (D × Sto)
  | .ref j i, R => match sget R j i with
    | some (.frz d) => some (d, R)
    | some .dead => none
    | some u => some (fzO u, sset R j i (.frz (fzO u)))
    | none => none
  | d, R => some (d, R)
def byvL : List D → Sto → Option (List D × Sto)
  | [], R => some ([], R)
  | d :: ds, R => match byv d R with
    | some (d', R1) => match byvL ds R1 with
      | some (ds', R2) => some (d' :: ds', R2)
      | none => none
    | none => none
section
variable {K : PySem.W.Frag} {M : Mp} {R R' : Sto} {P : Ps} {F G H : Hp} {d d' : D} {v : V} {ds ds' : List D} {vs : List V}
theorem Rel.byv (r : Rel K M R P F H) (h : Vr K M F d v) (e : byv d R = some (d', R')) : ∃ G, Ex F G ∧ Rel K M R' P G H ∧ Den K G d' v := by
  have plain : (∀ j i, d ≠ .ref j i) → some (d, R) = some (d', R') → ∃ G, Ex F G ∧ Rel K M R' P G H ∧ Den K G d' v := fun hd e => by
    cases e
    rcases h with ⟨j, i, e, _⟩ | h
    · exact (hd j i e).elim
    · exact ⟨F, .refl F, r, h⟩
  cases d with
  | ref j i =>
    have hv := h.ref
    subst hv
    cases q : sget R j i with
    | none => simp only [EV.byv, q] at e; cases e
    | some u =>
      simp only [EV.byv, q] at e
      have live : u.isF = false → some (fzO u, sset R j i (.frz (fzO u))) = some (d', R') → ∃ G, Ex F G ∧ Rel K M R' P G H ∧ Den K G d' (.ref (M j i)) := fun hf e => by
        cases e
        exact r.freeze q hf
      cases u with
      | dead => cases e
      | frz d =>
        cases e
        exact ⟨F, .refl F, r, r.ob j i _ q⟩
      | lst ds => exact live rfl e
      | dct ks ds => exact live rfl e
      | dcT ks ds => exact live rfl e
      | ins c ns ds => exact live rfl e
  | _ => exact plain (fun _ _ z => nomatch z) e
inductive VrL (K : PySem.W.Frag) (M : Mp) (F : Hp) : List D → List V → Prop
  | nil : VrL K M F [] []
  | cons {d : D} {v : V} {ds : List D} {vs : List V} : Vr K M F d v → VrL K M F ds vs → VrL K M F (d :: ds) (v :: vs)
theorem VrL.mono (e : Ex F G) : ∀ {ds : List D} {vs : List V}, VrL K M F ds vs → VrL K M G ds vs
  | _, _, .nil => .nil
  | _, _, .cons h t => .cons (h.mono e) (VrL.mono e t)
theorem VrL.length : ∀ {ds : List D} {vs : List V}, VrL K M F ds vs → vs.length = ds.length
  | _, _, .nil => rfl
  | _, _, .cons _ t => by rw [List.length_cons, List.length_cons, VrL.length t]
theorem Rel.byvL : ∀ {ds ds' : List D} {vs : List V} {R R' : Sto} {F : Hp}, Rel K M R P F H → VrL K M F ds vs → byvL ds R = some (ds', R') → ∃ G, Ex F G ∧ Rel K M R' P G H ∧ DenL K G ds' vs
  | [], _, _, _, _, F, r, .nil, e => by
    cases e
    exact ⟨F, .refl F, r, .nil⟩
  | d :: ds, ds', _, R, R', F, r, .cons h t, e => by
    unfold EV.byvL at e
    cases q : EV.byv d R with
    | none => rw [q] at e; cases e
    | some p =>
      obtain ⟨d1, R1⟩ := p
      rw [q] at e
      dsimp only at e
      obtain ⟨G, g1, g2, g3⟩ := r.byv h q
      cases q2 : EV.byvL ds R1 with
      | none => rw [q2] at e; cases e
      | some p =>
        obtain ⟨ds2, R2⟩ := p
        rw [q2] at e
        cases e
        obtain ⟨G', g4, g5, g6⟩ := Rel.byvL g2 (t.mono g1) q2
        exact ⟨G', g1.trans g4, g5, .cons (g3.mono g4) g6⟩
end
end EV

/-! EvO: what operators and built-in functions do with plain values, and that the machine does so. -/
namespace EV
open PySem PySem.Spec PyProof.Rows L2

/-- how a piece of a run ends: a value and the store; an error; or beyond what is told here -/
inductive Out (α : Type) where
  | ok (a : α) (R : Sto) | exc (e : D) (R : Sto) | bad
def Pst (K : PySem.W.Frag) (M : Mp) (P : Ps) (F : Hp) (rv : Rv) (R : Sto) (Q : VK) : Prop := ∀ v F' H', Ex F F' → Rel K M R P F' H' → RVR K M R P F' H' v rv → Q v H'
section
variable {K : PySem.W.Frag} {M : Mp} {R R' : Sto} {P : Ps} {F G H : Hp} {d d' x y : D} {v vx vy : V} {ds ds' : List D} {vs : List V} {Q : VK} {rv : Rv}
theorem Pst.val (p : Pst K M P F (.val d) R Q) (r : Rel K M R P F H) (h : Den K F d v) : Q v H := p v F H (.refl F) r (.inr h)
/-- a new tuple, a new list, a new dict at any free place -/
theorem Pst.tup (p : Pst K M P F (.val (.tup ds)) R Q) (r : Rel K M R P F H) (h : DenL K F ds vs) : ∀ a, H a = none → Q (.ref a) (upd H a (.tup vs)) := fun a ha => by
  obtain ⟨G, e, r', h'⟩ := r.tup ha h
  exact p _ G _ e r' h'
theorem Pst.lst (p : Pst K M P F (.new (.lst ds)) R Q) (r : Rel K M R P F H) (h : DenL K F ds vs) : ∀ a, H a = none → Q (.ref a) (upd H a (.lst vs)) := fun a ha => by
  obtain ⟨r', h'⟩ := r.lst ha h
  exact p _ F _ (.refl F) r' h'
end

/-! ### lists and tuples that are read -/
def asL (R : Sto) : D → Option (List D)
  | .lst ds => some ds
  | .ref j i => match sget R j i with
    | some (.lst ds) => some ds
    | some (.frz (.lst ds)) => some ds
    | _ => none
  | _ => none
/-- any sequence but a text: whether it is a list -/
def asS (R : Sto) : D → Option (Bool × List D)
  | .tup ds => some (false, ds)
  | .ktp ds => some (false, ds)
  | .scr ds => some (true, ds)
  | d => (asL R d).map fun ds => (true, ds)
section
variable {K : PySem.W.Frag} {M : Mp} {R : Sto} {P : Ps} {F H : Hp} {d : D} {v : V} {ds : List D}
theorem Rel.asL (r : Rel K M R P F H) (h : Vr K M F d v) (e : asL R d = some ds) : ∃ a vs, v = .ref a ∧ H a = some (.lst vs) ∧ DenL K F ds vs := by
  cases d with
  | lst es =>
    cases e
    obtain ⟨a, vs, rfl, h1, h2⟩ := h.lst
    exact ⟨a, vs, rfl, r.ex _ _ h1, h2⟩
  | ref j i =>
    have hv := h.ref
    subst hv
    cases q : sget R j i with
    | none => simp only [EV.asL, q] at e; cases e
    | some u =>
      have h1 := r.ob j i u q
      cases u with
      | lst es =>
        simp only [EV.asL, q] at e
        cases e
        obtain ⟨_, vs, h2, h3⟩ := h1
        exact ⟨_, vs, rfl, h2, h3⟩
      | dct _ _ => simp only [EV.asL, q] at e; cases e
      | dcT _ _ => simp only [EV.asL, q] at e; cases e
      | ins _ _ _ => simp only [EV.asL, q] at e; cases e
      | dead => simp only [EV.asL, q] at e; cases e
      | frz d =>
        cases d with
        | lst es =>
          simp only [EV.asL, q] at e
          cases e
          have h2 : Den K F (.lst ds) (.ref (M j i)) := h1
          cases h2 with
          | lst h3 h4 => exact ⟨_, _, rfl, r.ex _ _ h3, h4⟩
        | _ => simp only [EV.asL, q] at e; cases e
  | _ => cases e
theorem Rel.asS (r : Rel K M R P F H) (h : Vr K M F d v) {b : Bool} (e : asS R d = some (b, ds)) : ∃ a vs, v = .ref a ∧ DenL K F ds vs ∧ if b = true then SqL K H a vs else SqT K H a vs := by
  have key : (EV.asL R d).map (fun ds => (true, ds)) = some (b, ds) → ∃ a vs, v = .ref a ∧ DenL K F ds vs ∧ if b = true then SqL K H a vs else SqT K H a vs := fun e => by
    cases q : EV.asL R d with
    | none => rw [q] at e; cases e
    | some es =>
      rw [q] at e
      cases e
      obtain ⟨a, vs, rfl, h1, h2⟩ := r.asL h q
      exact ⟨a, vs, rfl, h2, .inl (.inl h1)⟩
  cases d with
  | tup es =>
    cases e
    obtain ⟨a, vs, rfl, h1, h2⟩ := h.tup
    exact ⟨a, vs, rfl, h2, r.ex.sqT h1⟩
  | ktp es =>
    cases e
    obtain ⟨a, vs, rfl, h1, h2⟩ := h.ktp
    exact ⟨a, vs, rfl, h2, r.ex.sqT h1⟩
  | scr es =>
    cases e
    obtain ⟨a, vs, rfl, h1, h2⟩ := h.scr
    exact ⟨a, vs, rfl, h2, r.ex.sqL h1⟩
  | _ => exact key e
theorem Rel.asS_len (r : Rel K M R P F H) (h : Vr K M F d v) {b : Bool} (e : EV.asS R d = some (b, ds)) : ∃ a vs, v = .ref a ∧ DenL K F ds vs ∧ (SqL K H a vs ∨ SqT K H a vs) := by
  obtain ⟨a, vs, e1, h1, h2⟩ := r.asS h e
  cases b with
  | true => exact ⟨a, vs, e1, h1, .inl h2⟩
  | false => exact ⟨a, vs, e1, h1, .inr h2⟩
end
theorem sz_of {n : Nat} (h : n ≤ 100000) : n ≤ sizeLine := Nat.le_trans h (by decide)
theorem sz_lt {n : Nat} (h : n < 100000) : n < sizeLine := Nat.lt_of_lt_of_le h (by decide)

/-! ### operators -/
def mulOk (i j : Int) : Bool := decide (i.natAbs.log2 + j.natAbs.log2 < 1000000)
def divOk (j : Int) : Bool := decide (j ≠ 0 ∧ j.natAbs.log2 < 9000)
def powOk (i j : Int) : Bool := decide (0 ≤ j ∧ (i.natAbs.log2 + 1) * j.toNat ≤ 1000000)
def binop (o : Operator) (x y : D) (R : Sto) : Out Rv :=
  match o, x, y with
  | .Add, .int i, .int j => .ok (.val (.int (i + j))) R
  | .Sub, .int i, .int j => .ok (.val (.int (i - j))) R
  | .Mult, .int i, .int j => if mulOk i j then .ok (.val (.int (i * j))) R else .bad
  | .FloorDiv, .int i, .int j => if divOk j then .ok (.val (.int (i.fdiv j))) R else .bad
  | .Mod, .int i, .int j => if j = 0 then .bad else .ok (.val (.int (i.fmod j))) R
  | .Pow, .int i, .int j => if powOk i j then .ok (.val (.int (i ^ j.toNat))) R else .bad
  | .Add, .str a, .str b => if a.length + b.length ≤ 100000 then .ok (.val (.str (a ++ b))) R else .bad
  | .Add, .tup as, .tup bs => if as.length + bs.length ≤ 100000 then .ok (.val (.tup (as ++ bs))) R else .bad
  | .Add, x, y => match asL R x, asL R y with
    | some as, some bs => if as.length + bs.length ≤ 100000 then .ok (.new (.lst (as ++ bs))) R else .bad
    | _, _ => .bad
  | .Mult, x, .int k => match asL R x with
    | some as => if 0 ≤ k ∧ k ≤ 100000 ∧ as.length * k.toNat ≤ 100000 then .ok (.new (.lst ((List.replicate k.toNat as).flatten))) R else .bad
    | none => .bad
  | _, _, _ => .bad
section
variable {X : Cx} {M : Mp} {R R' : Sto} {P : Ps} {F H : Hp} {x y : D} {vx vy : V} {rv : Rv} {Q : VK}
/-- what an operator's rule asks is there -/
def OpS (X : Cx) (f : Value → Value → Sem Value) (x y : D) (R : Sto) (rv : Rv) (R' : Sto) : Prop :=
  ∃ r, OpR X f r ∧ ∀ (M : Mp) (P : Ps) (F H : Hp) (vx vy : V) (Q : VK), Rel X.K M R P F H → Vr X.K M F x vx → Vr X.K M F y vy → Pst X.K M P F rv R' Q → r vx vy H Q
theorem op_fdivE : OpR X (binaryOp .FloorDiv) (rI (fun _ j => j ≠ 0 ∧ j.natAbs.log2 < 9000) fun i j => .int (i.fdiv j)) := opI fun i j _ _ _ _ _ hc q =>
  floordiv_int hc.1 q (.inl (PyProof.noPylong_of_log2 hc.2))
theorem iop_fdivE : OpR X (inplaceOp .FloorDiv) (rI (fun _ j => j ≠ 0 ∧ j.natAbs.log2 < 9000) fun i j => .int (i.fdiv j)) := opI fun i j _ _ _ _ _ hc q =>
  ifloordiv_int hc.1 q (.inl (PyProof.noPylong_of_log2 hc.2))
theorem iop_mulW : OpR X (inplaceOp .Mult) (rI CMulW fun i j => .int (i * j)) := opI fun _ _ _ _ _ _ _ hc q => imul_int q hc.ok
theorem bits_le (i : Int) : Builtin.Int.intBits i ≤ i.natAbs.log2 + 1 := by
  unfold Builtin.Int.intBits
  split <;> omega
theorem op_powE : OpR X (binaryOp .Pow) (rI (fun i j => 0 ≤ j ∧ (i.natAbs.log2 + 1) * j.toNat ≤ 1000000) fun i j => .int (i ^ j.toNat)) := opI fun i j _ _ _ _ _ hc q => by
  refine pow_int hc.1 ?_ q
  have h1 := bits_le i
  have h2 : Builtin.Int.intBits i * j.toNat ≤ 1000000 := Nat.le_trans (Nat.mul_le_mul_right _ h1) hc.2
  have h3 : ((Builtin.Int.intBits i * j.toNat : Nat) : Int) ≤ ((1000000 : Nat) : Int) := Int.ofNat_le.mpr h2
  rw [Int.natCast_mul, Int.toNat_of_nonneg hc.1] at h3
  have h4 : ((1000000 : Nat) : Int) ≤ 2 ^ 27 := by decide
  exact Int.le_trans h3 h4
theorem mulOk_ok {i j : Int} (h : mulOk i j = true) : CMulW i j := of_decide_eq_true (p := i.natAbs.log2 + j.natAbs.log2 < 1000000) h
theorem opS_I {f : Value → Value → Sem Value} {C : Int → Int → Prop} {g : Int → Int → Int} (h : OpR X f (rI C fun i j => .int (g i j))) {i j : Int} (hc : C i j) (R : Sto) : OpS X f (.int i) (.int j) R (.val (.int (g i j))) R :=
  ⟨_, h, fun M P F H vx vy Q r hx hy p => by
    cases hx.int
    cases hy.int
    exact ⟨i, j, rfl, rfl, hc, p.val r (.int _)⟩⟩
theorem opS_I0 {f : Value → Value → Sem Value} {g : Int → Int → Int} (h : OpR X f (rI0 fun i j => .int (g i j))) (i j : Int) (R : Sto) : OpS X f (.int i) (.int j) R (.val (.int (g i j))) R :=
  ⟨_, h, fun M P F H vx vy Q r hx hy p => by
    cases hx.int
    cases hy.int
    exact ⟨i, j, rfl, rfl, p.val r (.int _)⟩⟩
theorem opS_B0 {f : Value → Value → Sem Value} {g : Int → Int → Bool} (h : OpR X f (rI0 fun i j => .bl (g i j))) (i j : Int) (R : Sto) : OpS X f (.int i) (.int j) R (.val (.bl (g i j))) R :=
  ⟨_, h, fun M P F H vx vy Q r hx hy p => by
    cases hx.int
    cases hy.int
    exact ⟨i, j, rfl, rfl, p.val r (.bl _)⟩⟩
theorem denl_rep {K : PySem.W.Frag} {F : Hp} {ds : List D} {vs : List V} (h : DenL K F ds vs) : ∀ n : Nat, DenL K F (List.replicate n ds).flatten (List.replicate n vs).flatten
  | 0 => .nil
  | n + 1 => by
    rw [List.replicate_succ, List.replicate_succ, List.flatten_cons, List.flatten_cons]
    exact h.append (denl_rep h n)
theorem binop_ok {o : Operator} (h : binop o x y R = .ok rv R') : OpS X (binaryOp o) x y R rv R' := by
  unfold binop at h
  split at h
  · cases h; exact opS_I0 op_add _ _ _
  · cases h; exact opS_I0 op_sub _ _ _
  · split at h
    · rename_i hc; cases h; exact opS_I op_mulW (mulOk_ok hc) _
    · cases h
  · split at h
    · rename_i hc; cases h; exact opS_I op_fdivE (of_decide_eq_true hc) _
    · cases h
  · split at h
    · cases h
    · rename_i hc; cases h; exact opS_I op_modN hc _
  · split at h
    · rename_i hc; cases h; exact opS_I op_powE (of_decide_eq_true hc) _
    · cases h
  · split at h
    · rename_i a b hc
      cases h
      refine ⟨_, op_add_str, fun M P F H vx vy Q r hx hy p => ?_⟩
      cases hx.str
      cases hy.str
      exact ⟨_, _, rfl, rfl, sz_of hc, p.val r (.str _)⟩
    · cases h
  · split at h
    · rename_i as bs hc
      cases h
      refine ⟨_, op_catA, fun M P F H vx vy Q r hx hy p => ?_⟩
      obtain ⟨a, vs, rfl, h1, h2⟩ := hx.tupF
      obtain ⟨b, us, rfl, h3, h4⟩ := hy.tupF
      refine ⟨a, b, vs, us, rfl, rfl, .inl (.inl (r.ex _ _ h1)), .inl (.inl (r.ex _ _ h3)), ?_, fun z => ?_, fun z z2 => ?_, fun _ _ => p.tup r (h2.append h4)⟩
      · rw [h2.length, h4.length]; exact sz_of hc
      · have : as = [] := by
          cases as with
          | nil => rfl
          | cons _ _ => rw [z] at h2; cases h2
        subst this
        exact p.val r (.tup h3 h4)
      · have : bs = [] := by
          cases bs with
          | nil => rfl
          | cons _ _ => rw [z2] at h4; cases h4
        subst this
        rw [List.append_nil] at p
        exact p.val r (.tup h1 h2)
    · cases h
  · split at h
    · rename_i as bs ha hb
      split at h
      · rename_i hc
        cases h
        refine ⟨_, op_cat, fun M P F H vx vy Q r hx hy p => ?_⟩
        obtain ⟨a, vs, rfl, h1, h2⟩ := r.asL hx ha
        obtain ⟨b, us, rfl, h3, h4⟩ := r.asL hy hb
        exact ⟨a, b, vs, us, rfl, rfl, h1, h3, by rw [h2.length, h4.length]; exact sz_of hc, p.lst r (h2.append h4)⟩
      · cases h
    · cases h
  · split at h
    · rename_i k _ _ as ha
      split at h
      · rename_i hc
        cases h
        refine ⟨_, op_rep, fun M P F H vx vy Q r hx hy p => ?_⟩
        obtain ⟨a, vs, rfl, h1, h2⟩ := r.asL hx ha
        cases hy.int
        exact ⟨a, k, vs, rfl, rfl, h1, by omega, by omega, by rw [h2.length]; exact sz_of hc.2.2, p.lst r (denl_rep h2 _)⟩
      · cases h
    · cases h
  · cases h
end
end EV

/-! EvP: comparisons, truth, places of sequences, slices. -/
namespace EV
open PySem PySem.Spec PyProof.Rows L2

/-! ### data, for == -/
mutual
def toP : D → Option PyData
  | .non => some .none
  | .bl b => some (.bool b)
  | .int i => some (.int i)
  | .str x => some (.str x)
  | .tup ds => (toPs ds).map .tuple
  | .ktp ds => (toPs ds).map .tuple
  | .lst ds => (toPs ds).map .list
  | _ => none
def toPs : List D → Option (List PyData)
  | [] => some []
  | d :: ds => match toP d, toPs ds with
    | some p, some ps => some (p :: ps)
    | _, _ => none
end
/-- what a thing of the store holds now -/
def derefs (R : Sto) : D → D
  | .ref j i => match sget R j i with
    | some .dead => .ref j i
    | some u => fzO u
    | none => .ref j i
  | d => d
/-- lists of unlike lengths -/
def eqLen (x y : D) (R : Sto) : Option Bool := match asL R x, asL R y with
  | some ds, some es => if ds.length = es.length then none else some false
  | _, _ => none
def eqOp (x y : D) (R : Sto) : Option Bool := match toP (derefs R x), toP (derefs R y) with
  | some p, some q => if SeqAt.shaped p && SeqAt.shaped q then some (PyData.eqv p q) else eqLen x y R
  | _, _ => eqLen x y R
section
variable {K : PySem.W.Frag} {M : Mp} {R : Sto} {P : Ps} {F H : Hp}
mutual
theorem Den.dp (e : Ex F H) : ∀ {d : D} {v : V} {p : PyData}, Den K F d v → toP d = some p → Dp K H v p
  | .non, _, _, h, q => by cases h; simp only [toP] at q; cases q; exact .non
  | .bl b, _, _, h, q => by cases h; simp only [toP] at q; cases q; exact .bl b
  | .int i, _, _, h, q => by cases h; simp only [toP] at q; cases q; exact .int i
  | .str x, _, _, h, q => by cases h; simp only [toP] at q; cases q; exact .str x
  | .tup ds, _, _, h, q => by
    cases h with
    | tup h1 h2 =>
      simp only [toP] at q
      cases z : toPs ds with
      | none => rw [z] at q; cases q
      | some ps =>
        rw [z] at q
        cases q
        exact .tup (.inl (.inl (e _ _ h1))) (DenL.dp e h2 z)
  | .ktp ds, _, _, h, q => by
    cases h with
    | ktp h1 h2 =>
      simp only [toP] at q
      cases z : toPs ds with
      | none => rw [z] at q; cases q
      | some ps =>
        rw [z] at q
        cases q
        exact .tup (e.sqT h1) (DenL.dp e h2 z)
  | .lst ds, _, _, h, q => by
    cases h with
    | lst h1 h2 =>
      simp only [toP] at q
      cases z : toPs ds with
      | none => rw [z] at q; cases q
      | some ps =>
        rw [z] at q
        cases q
        exact .lst (.inl (.inl (e _ _ h1))) (DenL.dp e h2 z)
  | .scr _, _, _, _, q => by simp only [toP] at q; cases q
  | .dct _ _, _, _, _, q => by simp only [toP] at q; cases q
  | .dcT _ _, _, _, _, q => by simp only [toP] at q; cases q
  | .obj _ _ _, _, _, _, q => by simp only [toP] at q; cases q
  | .ref _ _, _, _, _, q => by simp only [toP] at q; cases q
theorem DenL.dp (e : Ex F H) : ∀ {ds : List D} {vs : List V} {ps : List PyData}, DenL K F ds vs → toPs ds = some ps → DpAll K H vs ps
  | [], _, _, h, q => by cases h; simp only [toPs] at q; cases q; exact .nil
  | d :: ds, _, _, h, q => by
    cases h with
    | cons h t =>
      simp only [toPs] at q
      cases z1 : toP d with
      | none => rw [z1] at q; cases q
      | some p =>
        cases z2 : toPs ds with
        | none => rw [z1, z2] at q; cases q
        | some ps =>
          rw [z1, z2] at q
          cases q
          exact .cons (Den.dp e h z1) (DenL.dp e t z2)
end
theorem Rel.dp (r : Rel K M R P F H) {d : D} {v : V} {p : PyData} (h : Vr K M F d v) (q : toP (derefs R d) = some p) : Dp K H v p := by
  rcases h with ⟨j, i, rfl, rfl⟩ | h
  · cases z : sget R j i with
    | none => simp only [derefs, z, toP] at q; cases q
    | some u =>
      have h1 := r.ob j i u z
      cases u with
      | frz d => simp only [derefs, z] at q; exact Den.dp r.ex h1 q
      | dead => simp only [derefs, z, toP] at q; cases q
      | dct _ _ => simp only [derefs, z, fzO, toP] at q; cases q
      | dcT _ _ => simp only [derefs, z, fzO, toP] at q; cases q
      | ins _ _ _ => simp only [derefs, z, fzO, toP] at q; cases q
      | lst ds =>
        obtain ⟨_, vs, h2, h3⟩ := h1
        simp only [derefs, z, fzO, toP] at q
        cases z2 : toPs ds with
        | none => rw [z2] at q; cases q
        | some ps =>
          rw [z2] at q
          cases q
          exact .lst (.inl (.inl h2)) (DenL.dp r.ex h3 z2)
  · have e : derefs R d = d := by
      cases d with
      | ref j i => cases h
      | _ => rfl
    rw [e] at q
    exact Den.dp r.ex h q
end

/-! ### comparisons -/
/-- a flat value -/
def flatD : D → Option V
  | .non => some .non
  | .bl b => some (.bl b)
  | .int i => some (.int i)
  | .str x => some (.str x)
  | _ => none
def flatDs : List D → Option (List V)
  | [] => some []
  | d :: ds => match flatD d, flatDs ds with
    | some v, some vs => some (v :: vs)
    | _, _ => none
def inOp (neg : Bool) (x y : D) (R : Sto) : Option Bool := match x, y with
  | .str a, .str b => some (if neg then !(!(Builtin.Str.occurrences b a 0 b.length 1).isEmpty) else !(Builtin.Str.occurrences b a 0 b.length 1).isEmpty)
  | x, y => match flatD x, asS R y with
    | some v, some (_, ds) => match flatDs ds with
      | some vs => some (if neg then !inV v vs else inV v vs)
      | none => none
    | _, _ => none
def isN : D → Bool
  | .non => true
  | _ => false
def cmpop (o : CmpOp) (x y : D) (R : Sto) : Option Bool :=
  match o with
  | .Lt => match x, y with
    | .int i, .int j => some (decide (i < j))
    | _, _ => none
  | .LtE => match x, y with
    | .int i, .int j => some (decide (i ≤ j))
    | _, _ => none
  | .Gt => match x, y with
    | .int i, .int j => some (decide (j < i))
    | _, _ => none
  | .GtE => match x, y with
    | .int i, .int j => some (decide (j ≤ i))
    | _, _ => none
  | .Eq => eqOp x y R
  | .NotEq => (eqOp x y R).map (!·)
  | .Is => match y with
    | .non => some (isN x)
    | _ => none
  | .IsNot => match y with
    | .non => some (!isN x)
    | _ => none
  | .In => inOp false x y R
  | .NotIn => inOp true x y R
section
variable {X : Cx} {M : Mp} {R R' : Sto} {P : Ps} {F H : Hp} {x y : D} {vx vy v : V} {rv : Rv} {Q : VK} {b : Bool}
theorem flatD_v {K : PySem.W.Frag} (h : flatD x = some v) (hx : Vr K M F x vx) : vx = v ∧ flatV v = true := by
  cases x with
  | non => cases h; exact ⟨hx.non, rfl⟩
  | bl b => cases h; exact ⟨hx.bl, rfl⟩
  | int i => cases h; exact ⟨hx.int, rfl⟩
  | str s => cases h; exact ⟨hx.str, rfl⟩
  | _ => cases h
theorem flatDs_v {K : PySem.W.Frag} : ∀ {ds : List D} {ws vs : List V}, flatDs ds = some ws → DenL K F ds vs → vs = ws ∧ ws.all flatV = true
  | [], _, _, h, .nil => by cases h; exact ⟨rfl, rfl⟩
  | d :: ds, ws, _, h, .cons hd ht => by
    simp only [flatDs] at h
    cases z1 : flatD d with
    | none => rw [z1] at h; cases h
    | some w =>
      cases z2 : flatDs ds with
      | none => rw [z1, z2] at h; cases h
      | some ws' =>
        rw [z1, z2] at h
        cases h
        obtain ⟨e1, f1⟩ := flatD_v (M := fun _ _ => 0) z1 (.inr hd)
        obtain ⟨e2, f2⟩ := flatDs_v z2 ht
        subst e1
        subst e2
        exact ⟨rfl, by rw [List.all_cons, f1, f2]; rfl⟩
theorem isNon {K : PySem.W.Frag} (hx : Vr K M F x vx) : decide (vx = .non) = isN x := by
  rcases hx with ⟨j, i, rfl, rfl⟩ | h
  · rfl
  · cases h <;> rfl
theorem opS_none {f : Value → Value → Sem Value} {neg : Bool} (h : OpR X f (fun x y H Q => y = .non ∧ Q (.bl (if neg then !decide (x = .non) else decide (x = .non))) H)) : OpS X f x .non R (.val (.bl (if neg then !isN x else isN x))) R :=
  ⟨_, h, fun M P F H vx vy Q r hx hy p => ⟨hy.non, by rw [isNon hx]; exact p.val r (.bl _)⟩⟩
theorem inOp_ok {neg : Bool} (h : inOp neg x y R = some b) : OpS X (compareOp (if neg then .NotIn else .In)) x y R (.val (.bl b)) R := by
  unfold inOp at h
  split at h
  · rename_i a c
    cases h
    cases neg with
    | true => exact ⟨_, op_notin_str, fun M P F H vx vy Q r hx hy p => by cases hx.str; cases hy.str; exact ⟨_, _, rfl, rfl, p.val r (.bl _)⟩⟩
    | false => exact ⟨_, op_in_str, fun M P F H vx vy Q r hx hy p => by cases hx.str; cases hy.str; exact ⟨_, _, rfl, rfl, p.val r (.bl _)⟩⟩
  · split at h
    · rename_i v k ds hv hs
      split at h
      · rename_i vs hvs
        cases h
        cases neg with
        | true =>
          refine ⟨_, op_notIn_seq, fun M P F H vx vy Q r hx hy p => ?_⟩
          obtain ⟨a, us, rfl, h1, h2⟩ := r.asS_len hy hs
          obtain ⟨e1, f1⟩ := flatD_v hv hx
          obtain ⟨e2, f2⟩ := flatDs_v hvs h1
          subst e1
          subst e2
          exact ⟨a, us, rfl, h2, f1, f2, p.val r (.bl _)⟩
        | false =>
          refine ⟨_, op_in_seq, fun M P F H vx vy Q r hx hy p => ?_⟩
          obtain ⟨a, us, rfl, h1, h2⟩ := r.asS_len hy hs
          obtain ⟨e1, f1⟩ := flatD_v hv hx
          obtain ⟨e2, f2⟩ := flatDs_v hvs h1
          subst e1
          subst e2
          exact ⟨a, us, rfl, h2, f1, f2, p.val r (.bl _)⟩
      · cases h
    · cases h
theorem op_len (hu : X.A.units + 64 < cLine) (neg : Bool) : OpR X (compareOp (if neg then .NotEq else .Eq)) (fun vx vy H Q => ∃ a b us ws, vx = .ref a ∧ vy = .ref b ∧ H a = some (.lst us) ∧ H b = some (.lst ws) ∧ us.length ≠ ws.length ∧ Q (.bl neg) H) := by
  intro pins s σ H x y v u Q I rx ry h
  obtain ⟨a, b, us, ws, rfl, rfl, h1, h2, hne, q⟩ := h
  cases rx
  cases ry
  obtain ⟨_, i1, n1, v1, e1⟩ := I.hok a _ h1
  obtain ⟨_, i2, n2, v2, e2⟩ := I.hok b _ h2
  have l1 := v1.length
  have l2 := v2.length
  have hsz : (i1.toArray.size != i2.toArray.size) = true := by
    rw [bne_iff_ne, List.size_toArray, List.size_toArray]
    omega
  have hu' : X.A.units < cLine := by omega
  cases neg with
  | true => exact SeqAt.RcNeAt.lists_lengths ⟨_, e1, rfl, n1, rfl⟩ ⟨_, e2, rfl, n2, rfl⟩ hsz hu' X.prog X.w _ _ ⟨.bl _, H, I, rfl, q⟩
  | false => exact SeqAt.RcAt.lists_lengths ⟨_, e1, rfl, n1, rfl⟩ ⟨_, e2, rfl, n2, rfl⟩ hsz hu' X.prog X.w _ _ ⟨.bl _, H, I, rfl, q⟩
theorem eqLen_ok (hu : X.A.units + 64 < cLine) {neg : Bool} (h : eqLen x y R = some b) : OpS X (compareOp (if neg then .NotEq else .Eq)) x y R (.val (.bl (if neg then !b else b))) R := by
  unfold eqLen at h
  split at h
  · rename_i ds es hd he
    split at h
    · cases h
    · rename_i hl
      cases h
      have e0 : (if neg = true then !false else false) = neg := by cases neg <;> rfl
      rw [e0]
      refine ⟨_, op_len hu neg, fun M P F H vx vy Q r hx hy z => ?_⟩
      obtain ⟨a, us, rfl, h1, d1⟩ := r.asL hx hd
      obtain ⟨b', ws, rfl, h2, d2⟩ := r.asL hy he
      refine ⟨a, b', us, ws, rfl, rfl, h1, h2, ?_, z.val r (.bl _)⟩
      rw [d1.length, d2.length]
      exact hl
  · cases h
theorem eqOp_ok (hu : X.A.units + 64 < cLine) {neg : Bool} (h : eqOp x y R = some b) : OpS X (compareOp (if neg then .NotEq else .Eq)) x y R (.val (.bl (if neg then !b else b))) R := by
  unfold eqOp at h
  split at h
  · rename_i p q hp hq
    split at h
    · rename_i hs
      cases h
      rw [Bool.and_eq_true] at hs
      cases neg with
      | true => exact ⟨_, op_neD hu, fun M P F H vx vy Q r hx hy z => ⟨p, q, r.dp hx hp, r.dp hy hq, hs.1, hs.2, z.val r (.bl _)⟩⟩
      | false => exact ⟨_, op_eqD hu, fun M P F H vx vy Q r hx hy z => ⟨p, q, r.dp hx hp, r.dp hy hq, hs.1, hs.2, z.val r (.bl _)⟩⟩
    · exact eqLen_ok hu h
  · exact eqLen_ok hu h
theorem cmpop_ok (hu : X.A.units + 64 < cLine) {o : CmpOp} (h : cmpop o x y R = some b) : OpS X (compareOp o) x y R (.val (.bl b)) R := by
  cases o with
  | Lt =>
    simp only [cmpop] at h
    split at h
    · cases h; exact opS_B0 op_lt _ _ _
    · cases h
  | LtE =>
    simp only [cmpop] at h
    split at h
    · cases h; exact opS_B0 op_le _ _ _
    · cases h
  | Gt =>
    simp only [cmpop] at h
    split at h
    · cases h; exact opS_B0 op_gt _ _ _
    · cases h
  | GtE =>
    simp only [cmpop] at h
    split at h
    · cases h; exact opS_B0 op_ge _ _ _
    · cases h
  | Eq => exact eqOp_ok hu (neg := false) h
  | NotEq =>
    simp only [cmpop] at h
    cases z : eqOp x y R with
    | none => rw [z] at h; cases h
    | some c =>
      rw [z] at h
      cases h
      exact eqOp_ok hu (neg := true) z
  | Is =>
    simp only [cmpop] at h
    split at h
    · cases h; exact opS_none (neg := false) op_isN
    · cases h
  | IsNot =>
    simp only [cmpop] at h
    split at h
    · cases h; exact opS_none (neg := true) op_notN
    · cases h
  | In => exact inOp_ok (neg := false) h
  | NotIn => exact inOp_ok (neg := true) h
end

/-! ### truth -/
def truth (R : Sto) : D → Option Bool
  | .non => some false
  | .bl b => some b
  | .int i => some (i != 0)
  | .str y => if y.length ≤ 100000 then some ((y.length : Int) != 0) else none
  | .dct ks _ => some (!ks.isEmpty)
  | .obj _ _ _ => none
  | .dcT _ _ => none
  | d => (asS R d).map fun p => !p.2.isEmpty
theorem DenL.isEmpty {K : PySem.W.Frag} {F : Hp} {ds : List D} {vs : List V} (h : DenL K F ds vs) : (!vs.isEmpty) = !ds.isEmpty := by
  cases h <;> rfl
theorem Rel.truth {K : PySem.W.Frag} {M : Mp} {R : Sto} {P : Ps} {F H : Hp} {d : D} {v : V} {b : Bool} (r : Rel K M R P F H) (h : Vr K M F d v) (e : truth R d = some b) : TruV K v H b := by
  have key : (EV.asS R d).map (fun p => !p.2.isEmpty) = some b → TruV K v H b := fun e => by
    cases z : EV.asS R d with
    | none => rw [z] at e; cases e
    | some p =>
      obtain ⟨k, ds⟩ := p
      rw [z] at e
      cases e
      obtain ⟨a, vs, rfl, h1, h2⟩ := r.asS_len h z
      rcases h2 with h2 | h2
      · exact .inl ⟨vs, h2, h1.isEmpty.symm⟩
      · exact .inr (.inl ⟨vs, h2, h1.isEmpty.symm⟩)
  cases d with
  | non => cases e; cases h.non; rfl
  | bl k => cases e; cases h.bl; rfl
  | int i => cases e; cases h.int; rfl
  | str y =>
    simp only [EV.truth] at e
    split at e
    · rename_i hc
      cases e
      cases h.str
      exact ⟨sz_of hc, rfl⟩
    · cases e
  | dct ks ds =>
    cases e
    obtain ⟨a, kvs, rfl, h1, h2, h3⟩ := h.dct
    refine .inr (.inr ⟨kvs, r.ex _ _ h1, ?_⟩)
    subst h2
    cases kvs <;> rfl
  | obj _ _ _ => cases e
  | dcT _ _ => cases e
  | tup ds => exact key e
  | ktp ds => exact key e
  | lst ds => exact key e
  | scr ds => exact key e
  | ref j i => exact key e

/-! ### places of sequences -/
def subOp (x y : D) (R : Sto) : Option D := match y with
  | .int i => match x with
    | .str z => if z.length ≤ 100000 then (atI z.cps.toList i).map fun c => .str ⟨#[c]⟩ else none
    | x => (asS R x).bind fun p => atI p.2 i
  | _ => none
theorem DenL.atI {K : PySem.W.Frag} {F : Hp} {ds : List D} {vs : List V} {i : Int} {d : D} (h : DenL K F ds vs) (e : atI ds i = some d) : ∃ v, L2.atI vs i = some v ∧ Den K F d v := by
  unfold L2.atI at e ⊢
  rw [h.length]
  cases z : ixN ds.length i with
  | none => rw [z] at e; cases e
  | some j =>
    rw [z] at e
    exact h.get e
/-- what a place's rule asks is there -/
def IxS (X : Cx) (x y : D) (R : Sto) (rv : Rv) (R' : Sto) : Prop :=
  ∃ r, IxR X r ∧ ∀ (M : Mp) (P : Ps) (F H : Hp) (vx vy : V) (Q : VK), Rel X.K M R P F H → Vr X.K M F x vx → Vr X.K M F y vy → Pst X.K M P F rv R' Q → r vx vy H Q
theorem subOp_ok {X : Cx} {x y d : D} {R : Sto} (h : subOp x y R = some d) : IxS X x y R (.val d) R := by
  have seq : ∀ i : Int, ((asS R x).bind fun p => atI p.2 i) = some d → IxS X x (.int i) R (.val d) R := fun i h => by
    cases z : asS R x with
    | none => rw [z] at h; cases h
    | some p =>
      obtain ⟨k, ds⟩ := p
      rw [z] at h
      refine ⟨_, ix_seq, fun M P F H vx vy Q r hx hy p => ?_⟩
      obtain ⟨a, vs, rfl, h1, h2⟩ := r.asS_len hx z
      cases hy.int
      obtain ⟨v, h3, h4⟩ := h1.atI h
      rcases h2 with h2 | h2
      · exact .inl ⟨a, vs, i, v, rfl, rfl, h2, h3, p.val r h4⟩
      · exact .inr (.inl ⟨a, vs, i, v, rfl, rfl, h2, h3, p.val r h4⟩)
  unfold subOp at h
  split at h
  · rename_i i
    cases x with
    | str z =>
      simp only at h
      split at h
      · rename_i hc
        cases q : atI z.cps.toList i with
        | none => rw [q] at h; cases h
        | some c =>
          rw [q] at h
          cases h
          refine ⟨_, ix_seq, fun M P F H vx vy Q r hx hy p => ?_⟩
          cases hx.str
          cases hy.int
          exact .inr (.inr ⟨z, i, c, rfl, rfl, sz_of hc, q, p.val r (.str _)⟩)
      · cases h
    | _ => exact seq i h
  · cases h
end EV

/-! EvE: expressions as codes: what a code gives, and when a text's expression has a code. -/
namespace EV
open PySem PySem.Spec PyProof.Rows L2

inductive Ty where
  | non | bool | int | str | tuple | list | dict
def Ty.nm : Ty → String
  | .non => "NoneType" | .bool => "bool" | .int => "int" | .str => "str" | .tuple => "tuple" | .list => "list" | .dict => "dict"
def Ty.isi : Ty → Ty → Bool
  | .non, .non | .bool, .bool | .int, .int | .str, .str | .tuple, .tuple | .list, .list | .dict, .dict | .bool, .int => true
  | _, _ => false
theorem Ty.kit : ∀ a b : Ty, kitB a.nm b.nm = some (a.isi b) := by
  intro a b
  cases a <;> cases b <;> decide +kernel
def Ty.isNm : Ty → Bool
  | .non => false
  | _ => true
theorem Ty.boot : ∀ t : Ty, t.isNm = true → bootBuiltins (Str.ofString t.nm) = some (.type t.nm) ∧ ((Str.ofString t.nm == ("__debug__" : Str)) = false) ∧ Str.ofString t.nm ≠ "__name__" := by
  intro t
  cases t <;> intro h <;> first | exact absurd h (by decide) | (refine ⟨?_, ?_, ?_⟩ <;> decide +kernel)
def tyD (R : Sto) : D → Option Ty
  | .non => some .non
  | .bl _ => some .bool
  | .int _ => some .int
  | .str _ => some .str
  | .tup _ => some .tuple
  | .ktp _ => some .tuple
  | .lst _ => some .list
  | .dct _ _ => some .dict
  | .dcT _ _ => some .dict
  | _ => none
/-! names by numbers -/
def mInit : Nat := 1208932691942108501925727
def mAdd : Nat := 4722393327864333492063
def mSub : Nat := 4722393327941927984991
def mMul : Nat := 4722393327916158836575
def mAnd : Nat := 4722393327864501264223
def mNeg : Nat := 4722393327920185040735
def mEq : Nat := 18446848937038012255
def mBool : Nat := 1208932691934416315637599
def mStr : Nat := 4722393327941912256351
def mLen : Nat := 4722393327911595564895
def up : D → D
  | .ref j i => .ref (j + 1) i
  | d => d
def lookD : List Nat → List D → Nat → Option D
  | n :: ns, d :: ds, f => if n = f then some d else lookD ns ds f
  | _, _, _ => none
/-- a slot's value -/
def fldD (R : Sto) (x : D) (f : Nat) : Option D := match x with
  | .obj _ ns ds => lookD ns ds f
  | .ref j i => match sget R j i with
    | some (.ins _ ns ds) => lookD ns ds f
    | some (.frz (.obj _ ns ds)) => lookD ns ds f
    | _ => none
  | _ => none
/-- an instance's class -/
def clsD (R : Sto) : D → Option Nat
  | .obj c _ _ => some c
  | .ref j i => match sget R j i with
    | some (.ins c _ _) => some c
    | some (.frz (.obj c _ _)) => some c
    | _ => none
  | _ => none
/-- built-in functions -/
inductive Bk where
  | abs | max2 | min2 | int1 | bool1 | len | sum | tuple | list | divmod | all | any | sorted1 | maxL | minL | repr1
def Bk.nm : Bk → Str
  | .abs => "abs" | .max2 => "max" | .min2 => "min" | .int1 => "int" | .bool1 => "bool" | .len => "len" | .sum => "sum" | .tuple => "tuple" | .list => "list" | .divmod => "divmod" | .all => "all" | .any => "any" | .sorted1 => "sorted" | .maxL => "max" | .minL => "min" | .repr1 => "repr"

inductive C where
  | var (i : Nat) | lit (d : D) | glob (x : Nat) (d : D)
  | bin (o : Operator) (a b : C) | neg (a : C) | notE (a : C)
  | cmp (o : CmpOp) (a b : C) | chn (o p : CmpOp) (a b c : C) | chn3 (o p q : CmpOp) (a b c d : C)
  | andE (a b : C) | orE (a b : C) | ife (c a b : C)
  | nil | cons (a as : C) | tup (as : C) | lst (as : C)
  | call (f : Nat) (as : C) | blt (k : Bk) (as : C) | isi (a : C) (t : Ty)
  | sub (a i : C) | slc (a lo hi : C) | rng1 (a : C) | rng2 (a b : C)
  | comp (elt : C) (slots : List Nat) (it cond : C)
  | callD (f : Nat) (as : C) (dv : List D)
  | fld (a : C) (f : Nat) | prp (a : C) (f : Nat) | mth (a : C) (m : Nat) (as : C) | new (c : Nat) (as : C) (dv : List D) | isiC (a : C) (c : Nat) (cs : List Nat)
  | dnew | dget (a k z : C)
  | dspr (x u y v a b : C)
  | dis1 (x u : C)
  | callB (f : Nat) (a : C)
  | itm (a : C) | zipE (a b : C) | enmE (a : C)
  | dg2 (k1 v1 k2 v2 : Int) (a : C) (z : Int)

def bindV (o : Out Rv) (f : D → Sto → Out Rv) : Out Rv := match o with
  | .ok (.val d) R => f d R
  | .ok (.new u) R => f (fzO u) R
  | .ok (.many _) _ => .bad
  | .exc e R => .exc e R
  | .bad => .bad
def bindA (o : Out Rv) (f : List D → Sto → Out Rv) : Out Rv := match o with
  | .ok (.many ds) R => f ds R
  | .ok _ _ => .bad
  | .exc e R => .exc e R
  | .bad => .bad
def liftO {α : Type} (o : Option α) (R : Sto) (f : α → Rv) : Out Rv := match o with
  | some a => .ok (f a) R
  | none => .bad
def intsOf : List D → Option (List Int)
  | [] => some []
  | .int i :: ds => (intsOf ds).map (i :: ·)
  | _ => none
def blsOf : List D → Option (List Bool)
  | [] => some []
  | .bl b :: ds => (blsOf ds).map (b :: ·)
  | _ => none
def insI (x : Int) : List Int → List Int
  | [] => [x]
  | y :: l => if x ≤ y then x :: y :: l else y :: insI x l
def sortI : List Int → List Int
  | [] => []
  | x :: l => insI x (sortI l)
def kints : List Key → Option (List Int)
  | [] => some []
  | .inl i :: ks => (kints ks).map (i :: ·)
  | .inr _ :: _ => none
def maxI : Int → List Int → Int
  | m, [] => m
  | m, x :: l => maxI (if x > m then x else m) l
def minI : Int → List Int → Int
  | m, [] => m
  | m, x :: l => minI (if x < m then x else m) l
def bltop (k : Bk) (as : List D) (R : Sto) : Out Rv := match k, as with
  | .abs, [.int i] => .ok (.val (.int (if i < 0 then -i else i))) R
  | .max2, [.int i, .int j] => .ok (.val (.int (if j > i then j else i))) R
  | .min2, [.int i, .int j] => .ok (.val (.int (if j < i then j else i))) R
  | .int1, [.int i] => .ok (.val (.int i)) R
  | .int1, [.bl b] => .ok (.val (.int (if b then 1 else 0))) R
  | .bool1, [.int i] => .ok (.val (.bl (i != 0))) R
  | .bool1, [.bl b] => .ok (.val (.bl b)) R
  | .len, [.str z] => if z.length ≤ 100000 then .ok (.val (.int z.length)) R else .bad
  | .len, [x] => match asS R x with
    | some (_, ds) => .ok (.val (.int ds.length)) R
    | none => .bad
  | .sum, [x] => match asS R x with
    | some (true, ds) => match intsOf ds with
      | some ns => .ok (.val (.int ns.sum)) R
      | none => .bad
    | _ => .bad
  | .tuple, [x] => match asS R x with
    | some (true, ds) => .ok (.val (.tup ds)) R
    | some (false, ds) => .ok (.val x) R
    | none => .bad
  | .list, [x] => match asS R x with
    | some (_, ds) => .ok (.new (.lst ds)) R
    | none => .bad
  | .divmod, [.int i, .int j] => if 0 < j ∧ j < 1073741824 then .ok (.val (.tup [.int (i / j), .int (i % j)])) R else .bad
  | .all, [x] => match asS R x with
    | some (true, ds) => match blsOf ds with
      | some bs => .ok (.val (.bl (bs.all id))) R
      | none => .bad
    | _ => .bad
  | .any, [x] => match asS R x with
    | some (true, ds) => match blsOf ds with
      | some bs => .ok (.val (.bl (bs.any id))) R
      | none => .bad
    | some (false, ds) => match intsOf ds with
      | some ns => .ok (.val (.bl (ns.any (· != 0)))) R
      | none => .bad
    | none => .bad
  | .maxL, [x] => match asS R x with
    | some (true, ds) => match intsOf ds with
      | some (n :: ns) => .ok (.val (.int (maxI n ns))) R
      | _ => .bad
    | _ => .bad
  | .minL, [x] => match asS R x with
    | some (true, ds) => match intsOf ds with
      | some (n :: ns) => .ok (.val (.int (minI n ns))) R
      | _ => .bad
    | _ => .bad
  | .repr1, [.bl b] => .ok (.val (.str (if b then "True" else "False"))) R
  | .sorted1, [.dct ks _] => match kints ks with
    | some ns => if ns.length < 64 then .ok (.new (.lst ((sortI ns).map .int))) R else .bad
    | none => .bad
  | _, _ => .bad
/-- a part of a slice: left out, or an int -/
def ptOf (out : Bool) : D → Option (Option Int)
  | .int i => if out then none else some (some i)
  | _ => if out then some none else none
def slcOp (x : D) (lo hi : Option (Option Int)) (R : Sto) : Out Rv :=
  match lo, hi with
  | some l, some h => match x with
    | .str _ => .bad
    | .tup ds => .ok (.val (.tup ((ds.drop (HT.sIx ds.length 0 l)).take (HT.sIx ds.length ds.length h - HT.sIx ds.length 0 l)))) R
    | x => match asS R x with
      | some (true, ds) => .ok (.new (.lst ((ds.drop (HT.sIx ds.length 0 l)).take (HT.sIx ds.length ds.length h - HT.sIx ds.length 0 l)))) R
      | _ => .bad
  | _, _ => .bad
/-- what is walked: told values, a thing of the store as it stands at each turn -/
inductive It where
  | vals (ds : List D) | live (x : D)
def itV (R : Sto) : D → Option It
  | .tup ds => some (.vals ds)
  | .ktp ds => some (.vals ds)
  | .lst ds => some (.vals ds)
  | .scr ds => some (.vals ds)
  | .ref j i => match asL R (.ref j i) with
    | some _ => some (.live (.ref j i))
    | none => none
  | _ => none
def zipL : List D → List D → List D
  | x :: xs, y :: ys => .tup [x, y] :: zipL xs ys
  | _, _ => []
def enmL : Nat → List D → List D
  | _, [] => []
  | i, x :: xs => .tup [.int (i : Nat), x] :: enmL (i + 1) xs
def itmL : List Key → List D → List D
  | k :: ks, d :: ds => .tup [(match k with | .inl i => .int i | .inr x => .str x), d] :: itmL ks ds
  | _, _ => []
/-- both lists, or both tuples; told ones -/
def zipOk : D → D → Option (List D)
  | .tup xs, .tup ys => some (zipL xs ys)
  | .tup xs, .ktp ys => some (zipL xs ys)
  | .lst xs, .lst ys => some (zipL xs ys)
  | _, _ => none
/-- how a code is walked -/
inductive Ik where
  | val | rng | zip | enm | itm
def ik : C → Ik
  | .rng1 _ => .rng
  | .rng2 _ _ => .rng
  | .zipE _ _ => .zip
  | .enmE _ => .enm
  | .itm _ => .itm
  | _ => .val
def rngOk (a b : Int) : Bool := decide (-(2 ^ 62) ≤ a ∧ a < 2 ^ 62 ∧ -(2 ^ 62) ≤ b ∧ b < 2 ^ 62)
def itOf (j : Ik) (R : Sto) (v : Rv) : Option It := match j with
  | .val => match v with
    | .val d => itV R d
    | .new o => itV R (fzO o)
    | .many _ => none
  | .rng => match v with
    | .many [.int a, .int b] => if rngOk a b then some (.vals ((List.range (b - a).toNat).map fun (i : Nat) => .int (a + (i : Int)))) else none
    | _ => none
  | .zip => match v with
    | .many [x, y] => (zipOk x y).map .vals
    | _ => none
  | .enm => match v with
    | .many [.lst xs] => some (.vals (enmL 0 xs))
    | .many [.tup xs] => some (.vals (enmL 0 xs))
    | _ => none
  | .itm => none
/-- a comprehension's turns; the items made so far, newest first -/
def compV (f : D → Sto → Out (Option D)) : List D → Sto → List D → Out Rv
  | [], R, acc => .ok (.new (.lst acc.reverse)) R
  | d :: ds, R, acc => match f d R with
    | .ok (some y) R' => if acc.length < 100000 then compV f ds R' (y :: acc) else .bad
    | .ok none R' => compV f ds R' acc
    | _ => .bad
def compR (f : D → Sto → Out (Option D)) (x : D) : Nat → Nat → Sto → List D → Out Rv
  | 0, _, _, _ => .bad
  | n + 1, i, R, acc => match asL R x with
    | none => .bad
    | some ds => match ds[i]? with
      | none => .ok (.new (.lst acc.reverse)) R
      | some d => match f d R with
        | .ok (some y) R' => if acc.length < 100000 then compR f x n (i + 1) R' (y :: acc) else .bad
        | .ok none R' => compR f x n (i + 1) R' acc
        | _ => .bad
def isNonC : C → Bool
  | .lit .non => true
  | _ => false
def setsTg : List Nat → List D → List (Option D) → Option (List (Option D))
  | [], [], σ => some σ
  | i :: is, d :: ds, σ => setsTg is ds (σ.set i (some d))
  | _, _, _ => none
/-- a target's names: one, or those of a tuple -/
def setTg : List Nat → D → List (Option D) → Option (List (Option D))
  | [i], d, σ => some (σ.set i (some d))
  | is, .tup ds, σ => setsTg is ds σ
  | is, .ktp ds, σ => setsTg is ds σ
  | _, _, _ => none
def wipeD (σ : List (Option D)) : List Nat → List (Option D)
  | [] => σ
  | v :: vs => (wipeD σ vs).set v none
/-- one turn of a comprehension -/
def compF (ec ee : List (Option D) → Sto → Out Rv) (slots : List Nat) (σ : List (Option D)) (d : D) (R : Sto) : Out (Option D) :=
  match setTg slots d (wipeD σ slots) with
  | none => .bad
  | some σ1 => match ec σ1 R with
    | .ok (.many _) _ => .bad
    | .ok c R2 => match truth R2 (fz c) with
      | some true => match ee σ1 R2 with
        | .ok (.many _) _ => .bad
        | .ok y R3 => match byv (fz y) R3 with
          | some (y', R4) => .ok (some y') R4
          | none => .bad
        | _ => .bad
      | some false => .ok none R2
      | none => .bad
    | _ => .bad
def compI (f : D → Sto → Out (Option D)) (lf : Nat) (j : Option It) (R : Sto) : Out Rv := match j with
  | some (.vals ds) => compV f ds R []
  | some (.live x) => compR f x lf 0 R []
  | none => .bad
abbrev Cf := Nat → List D → Sto → Out Rv
def isObj : D → Bool
  | .obj _ _ _ => true
  | _ => false
def opId : Operator → Option Nat
  | .Add => some mAdd | .Sub => some mSub | .Mult => some mMul | .BitAnd => some mAnd | _ => none
def keyD : D → Option Key
  | .int i => some (.inl i)
  | .str x => some (.inr x)
  | _ => none
def keysD : List D → Option (List Key)
  | [] => some []
  | d :: ds => match keyD d, keysD ds with
    | some k, some ks => some (k :: ks)
    | _, _ => none
def lookK {α : Type} [DecidableEq α] : List α → List D → α → Option D
  | k :: ks, d :: ds, k' => if k = k' then some d else lookK ks ds k'
  | _, _, _ => none
def repD {α : Type} [DecidableEq α] (k : α) (d : D) : List α → List D → List D
  | k1 :: ks, d1 :: ds => (if k1 = k then d else d1) :: repD k d ks ds
  | _, _ => []
/-- a dict's keys and values behind d[k] = v -/
def putD {α : Type} [DecidableEq α] (ks : List α) (ds : List D) (k : α) (d : D) : List α × List D :=
  if k ∈ ks then (ks, repD k d ks ds) else (ks ++ [k], ds ++ [d])
def mrgD : List Key → List D → List Key → List D → List Key × List D
  | ks, ds, k :: r, d :: s => mrgD (putD ks ds k d).1 (putD ks ds k d).2 r s
  | ks, ds, _, _ => (ks, ds)
def nrf : D → Bool
  | .ref _ _ => false
  | _ => true
def flatV : D → Bool
  | .non => true
  | .bl _ => true
  | .int _ => true
  | .str _ => true
  | _ => false
/-- what a dict holds now at a key: some none where there is nothing -/
def dctGet (R : Sto) (x k : D) : Option (Option D) := match derefs R x with
  | .dct ks ds => (keyD k).map fun k => lookK ks ds k
  | .dcT ks ds => match k with
    | .tup es => (keysD es).map fun k => lookK ks ds k
    | _ => none
  | _ => none
def isiX (t : Ty) (x : D) (R : Sto) : Out Rv := match x with
  | .obj _ _ _ => .ok (.val (.bl false)) R
  | x => liftO (tyD R x) R fun u => .val (.bl (u.isi t))
def isiY (c : Nat) (cs : List Nat) (x : D) (R : Sto) : Out Rv := match x with
  | .obj c' _ _ => if cs.contains c' then .ok (.val (.bl (decide (c' = c)))) R else .bad
  | x => liftO (tyD R x) R fun _ => .val (.bl false)
/-- an operator, an own one for instances -/
def binopX (cf : Cf) (o : Operator) (x y : D) (R : Sto) : Out Rv := match x with
  | .obj c _ _ => match y with
    | .obj c' _ _ => if c = c' then match opId o with
      | some m => cf (2 * m) [x, y] R
      | none => .bad else .bad
    | _ => .bad
  | x => binop o x y R
/-- what may stand right of an own == -/
def eqArg : D → Bool
  | .ref _ _ => false
  | .scr _ => false
  | _ => true
def isDct (R : Sto) (x : D) : Bool := match derefs R x with
  | .dct _ _ => true
  | .dcT _ _ => true
  | _ => false
/-- a place of a sequence, or of a dict -/
def subX (x y : D) (R : Sto) : Option D := match dctGet R x y with
  | some o => o
  | none => subOp x y R
/-- a comparison; in a dict -/
def cmpY (o : CmpOp) (x y : D) (R : Sto) : Option Bool := match o with
  | .In => match dctGet R y x with
    | some r => some r.isSome
    | none => cmpop .In x y R
  | .NotIn => match dctGet R y x with
    | some r => some (!r.isSome)
    | none => cmpop .NotIn x y R
  | o => cmpop o x y R
def cmpX (cf : Cf) (o : CmpOp) (x y : D) (R : Sto) : Out Rv := match x with
  | .obj _ _ _ => if eqArg y then match o with
    | .Eq => match cf (2 * mEq) [x, y] R with
      | .ok (.val (.bl b)) R' => .ok (.val (.bl b)) R'
      | _ => .bad
    | .NotEq => match cf (2 * mEq) [x, y] R with
      | .ok (.val (.bl b)) R' => .ok (.val (.bl (!b))) R'
      | _ => .bad
    | _ => .bad else .bad
  | x => liftO (cmpY o x y R) R fun b => .val (.bl b)
def negX (cf : Cf) (x : D) (R : Sto) : Out Rv := match x with
  | .int i => .ok (.val (.int (-i))) R
  | .obj _ _ _ => cf (2 * mNeg) [x] R
  | _ => .bad
/-- a built-in function, by an own method for instances -/
def bltX (cf : Cf) (k : Bk) (ds : List D) (R : Sto) : Out Rv := match ds with
  | [.obj c ns es] => match k with
    | .bool1 => match cf (2 * mBool) [.obj c ns es] R with
      | .ok (.val (.bl b)) R' => .ok (.val (.bl b)) R'
      | _ => .bad
    | _ => .bad
  | ds => bltop k ds R
/-- a new instance, by its __init__ -/
def newV (cf : Cf) (c : Nat) (ds : List D) (R : Sto) : Out Rv := match cf (2 * mInit) (.ref 0 0 :: ds.map up) ([.ins c [] []] :: R) with
  | .ok (.val .non) ([.ins c' ns es] :: R2) => if c' = c then .ok (.new (.ins c ns es)) R2 else .bad
  | _ => .bad
/-- a call that is given a new thing: it lies at a frame of its own meanwhile -/
def callBV (cf : Cf) (f : Nat) (o : O) (R : Sto) : Out Rv := match cf f [.ref 0 0] ([o] :: R) with
  | .ok (.val v) (_ :: R2) => if nrf v then .ok (.val v) R2 else .bad
  | _ => .bad
/-- what a code gives; cf: the defs, lf: turns at most, for what is walked as it stands -/
def ev (cf : Cf) (lf : Nat) : C → List (Option D) → Sto → Out Rv
  | .var i, σ, R => match σ[i]? with
    | some (some d) => .ok (.val d) R
    | _ => .bad
  | .lit d, _, R => .ok (.val d) R
  | .glob _ d, _, R => .ok (.val d) R
  | .bin o a b, σ, R => bindV (ev cf lf a σ R) fun x R1 => bindV (ev cf lf b σ R1) fun y R2 => binopX cf o x y R2
  | .neg a, σ, R => bindV (ev cf lf a σ R) fun x R1 => negX cf x R1
  | .notE a, σ, R => bindV (ev cf lf a σ R) fun x R1 => liftO (truth R1 x) R1 fun b => .val (.bl (!b))
  | .cmp o a b, σ, R => bindV (ev cf lf a σ R) fun x R1 => bindV (ev cf lf b σ R1) fun y R2 => cmpX cf o x y R2
  | .chn o p a b c, σ, R => bindV (ev cf lf a σ R) fun x R1 => bindV (ev cf lf b σ R1) fun y R2 => match cmpop o x y R2 with
    | some true => bindV (ev cf lf c σ R2) fun z R3 => liftO (cmpop p y z R3) R3 fun b => .val (.bl b)
    | some false => .ok (.val (.bl false)) R2
    | none => .bad
  | .chn3 o p q a b c d, σ, R => bindV (ev cf lf a σ R) fun x R1 => bindV (ev cf lf b σ R1) fun y R2 => match cmpop o x y R2 with
    | some true => bindV (ev cf lf c σ R2) fun z R3 => match cmpop p y z R3 with
      | some true => bindV (ev cf lf d σ R3) fun w R4 => liftO (cmpop q z w R4) R4 fun b => .val (.bl b)
      | some false => .ok (.val (.bl false)) R3
      | none => .bad
    | some false => .ok (.val (.bl false)) R2
    | none => .bad
  | .andE a b, σ, R => bindV (ev cf lf a σ R) fun x R1 => match truth R1 x with
    | some true => ev cf lf b σ R1
    | some false => .ok (.val x) R1
    | none => .bad
  | .orE a b, σ, R => bindV (ev cf lf a σ R) fun x R1 => match truth R1 x with
    | some true => .ok (.val x) R1
    | some false => ev cf lf b σ R1
    | none => .bad
  | .ife c a b, σ, R => bindV (ev cf lf c σ R) fun x R1 => match truth R1 x with
    | some true => ev cf lf a σ R1
    | some false => ev cf lf b σ R1
    | none => .bad
  | .nil, _, R => .ok (.many []) R
  | .cons a as, σ, R => bindV (ev cf lf a σ R) fun x R1 => bindA (ev cf lf as σ R1) fun ds R2 => .ok (.many (x :: ds)) R2
  | .tup as, σ, R => bindA (ev cf lf as σ R) fun ds R1 => match byvL ds R1 with
    | some (ds', R2) => if ds'.length ≤ 100000 then .ok (.val (.tup ds')) R2 else .bad
    | none => .bad
  | .lst as, σ, R => bindA (ev cf lf as σ R) fun ds R1 => match byvL ds R1 with
    | some (ds', R2) => if ds'.length ≤ 100000 then .ok (.new (.lst ds')) R2 else .bad
    | none => .bad
  | .call f as, σ, R => bindA (ev cf lf as σ R) fun ds R1 => cf f ds R1
  | .blt k as, σ, R => bindA (ev cf lf as σ R) fun ds R1 => bltX cf k ds R1
  | .callD f as dv, σ, R => bindA (ev cf lf as σ R) fun ds R1 => cf f (ds ++ dv) R1
  | .fld a f, σ, R => bindV (ev cf lf a σ R) fun x R1 => liftO (fldD R1 x f) R1 .val
  | .prp a f, σ, R => bindV (ev cf lf a σ R) fun x R1 => match x with
    | .obj c ns ds => cf (2 * f + 1) [.obj c ns ds] R1
    | _ => .bad
  | .mth a m as, σ, R => bindV (ev cf lf a σ R) fun x R1 => match x with
    | .obj c ns ds => bindA (ev cf lf as σ R1) fun es R2 => cf (2 * m) (.obj c ns ds :: es) R2
    | _ => .bad
  | .new c as dv, σ, R => bindA (ev cf lf as σ R) fun ds R1 => newV cf c (ds ++ dv) R1
  | .isiC a c cs, σ, R => bindV (ev cf lf a σ R) fun x R1 => isiY c cs x R1
  | .dnew, _, R => .ok (.new (.dct [] [])) R
  | .dget a k z, σ, R => bindV (ev cf lf a σ R) fun x R1 => if isDct R1 x then bindV (ev cf lf k σ R1) fun y R2 => bindV (ev cf lf z σ R2) fun w R3 => match dctGet R3 x y with
      | some (some d) => .ok (.val d) R3
      | some none => .ok (.val w) R3
      | none => .bad
    else .bad
  | .dspr x u y v a b, σ, R => bindV (ev cf lf x σ R) fun kx R1 => bindV (ev cf lf u σ R1) fun dx R2 => bindV (ev cf lf y σ R2) fun ky R3 => bindV (ev cf lf v σ R3) fun dy R4 => match keyD kx, keyD ky, flatV dx && flatV dy with
    | some k1, some k2, true => bindV (ev cf lf a σ R4) fun m R5 => match m with
      | .dct ks ds => bindV (ev cf lf b σ R5) fun n R6 => match n with
        | .dct ls es => if ks.length + ls.length ≤ 99000 then
            .ok (.new (.dct (mrgD (mrgD (mrgD [] [] [k1, k2] [dx, dy]).1 (mrgD [] [] [k1, k2] [dx, dy]).2 ks ds).1 (mrgD (mrgD [] [] [k1, k2] [dx, dy]).1 (mrgD [] [] [k1, k2] [dx, dy]).2 ks ds).2 ls es).1
              (mrgD (mrgD (mrgD [] [] [k1, k2] [dx, dy]).1 (mrgD [] [] [k1, k2] [dx, dy]).2 ks ds).1 (mrgD (mrgD [] [] [k1, k2] [dx, dy]).1 (mrgD [] [] [k1, k2] [dx, dy]).2 ks ds).2 ls es).2)) R6 else .bad
        | _ => .bad
      | _ => .bad
    | _, _, _ => .bad
  | .callB f a, σ, R => match ev cf lf a σ R with
    | .ok (.new o) R1 => callBV cf f o R1
    | _ => .bad
  | .dis1 x u, σ, R => bindV (ev cf lf x σ R) fun kx R1 => bindV (ev cf lf u σ R1) fun dx R2 => match keyD kx, nrf dx with
    | some k, true => .ok (.new (.dct [k] [dx])) R2
    | _, _ => .bad
  | .itm a, σ, R => bindV (ev cf lf a σ R) fun x R1 => .ok (.many [x]) R1
  | .zipE a b, σ, R => bindV (ev cf lf a σ R) fun x R1 => bindV (ev cf lf b σ R1) fun y R2 => .ok (.many [x, y]) R2
  | .enmE a, σ, R => bindV (ev cf lf a σ R) fun x R1 => .ok (.many [x]) R1
  | .isi a t, σ, R => bindV (ev cf lf a σ R) fun x R1 => isiX t x R1
  | .sub a i, σ, R => bindV (ev cf lf a σ R) fun x R1 => bindV (ev cf lf i σ R1) fun y R2 => liftO (subX x y R2) R2 .val
  | .slc a lo hi, σ, R => bindV (ev cf lf a σ R) fun x R1 => bindV (ev cf lf lo σ R1) fun l R2 => bindV (ev cf lf hi σ R2) fun h R3 => slcOp x (ptOf (isNonC lo) l) (ptOf (isNonC hi) h) R3
  | .rng1 a, σ, R => bindV (ev cf lf a σ R) fun x R1 => .ok (.many [.int 0, x]) R1
  | .rng2 a b, σ, R => bindV (ev cf lf a σ R) fun x R1 => bindV (ev cf lf b σ R1) fun y R2 => .ok (.many [x, y]) R2
  | .dg2 k1 v1 k2 v2 a z, σ, R => bindV (ev cf lf a σ R) fun x R1 => match x with
    | .int i => .ok (.val (.int (if i = k2 then v2 else if i = k1 then v1 else z))) R1
    | _ => .bad
  | .comp elt slots it cond, σ, R => match ev cf lf it σ R with
    | .ok x R1 => compI (compF (ev cf lf cond) (ev cf lf elt) slots σ) lf (itOf (ik it) R1 x) R1
    | _ => .bad

/-! equal, as data -/
mutual
def eqD : D → D → Bool
  | .non, .non => true
  | .bl a, .bl b => a == b
  | .int i, .int j => decide (i = j)
  | .str x, .str y => decide (x = y)
  | .tup ds, .tup es => eqDs ds es
  | .ktp ds, .ktp es => eqDs ds es
  | _, _ => false
def eqDs : List D → List D → Bool
  | [], [] => true
  | d :: ds, e :: es => eqD d e && eqDs ds es
  | _, _ => false
end
mutual
theorem eqD_ok : ∀ {a b : D}, eqD a b = true → a = b
  | .non, b, h => by cases b <;> simp_all [eqD]
  | .bl _, b, h => by cases b <;> simp_all [eqD]
  | .int _, b, h => by cases b <;> simp_all [eqD]
  | .str _, b, h => by cases b <;> simp_all [eqD]
  | .tup ds, b, h => by
    cases b with
    | tup es => simp only [eqD] at h; rw [eqDs_ok h]
    | _ => simp [eqD] at h
  | .lst _, b, h => by simp [eqD] at h
  | .scr _, b, h => by simp [eqD] at h
  | .dct _ _, b, h => by simp [eqD] at h
  | .dcT _ _, b, h => by simp [eqD] at h
  | .ktp ds, b, h => by
    cases b with
    | ktp es => simp only [eqD] at h; rw [eqDs_ok h]
    | _ => simp [eqD] at h
  | .obj _ _ _, b, h => by simp [eqD] at h
  | .ref _ _, b, h => by simp [eqD] at h
theorem eqDs_ok : ∀ {a b : List D}, eqDs a b = true → a = b
  | [], [], _ => rfl
  | d :: ds, e :: es, h => by
    simp only [eqDs, Bool.and_eq_true] at h
    rw [eqD_ok h.1, eqDs_ok h.2]
  | [], _ :: _, h => by simp [eqDs] at h
  | _ :: _, [], h => by simp [eqDs] at h
end

/-! ### when a text's expression has a code -/
structure Tb where
  fnm : List Str
  gnm : List Str
  gval : List D
  bnm : List Str
  /-- defs called with fewer arguments: the number, what fills up -/
  dfl : List (Nat × List D) := []
  /-- classes; those that are made: the class, what fills up -/
  cls : List Nat := []
  mks : List (Nat × List D) := []
  /-- class, method, def; class, property, def -/
  mts : List (Nat × Nat × Nat) := []
  prs : List (Nat × Nat × Nat) := []
  /-- class, its slots in their order -/
  sls : List (Nat × List Nat) := []
def isStar : Expr → Bool
  | .Starred _ _ => true
  | _ => false
def isSlice : Expr → Bool
  | .Slice _ _ _ _ => true
  | _ => false
def isSet : Expr → Bool
  | .Set _ _ _ => true
  | _ => false
def plainT : Expr → Bool
  | .UnaryOp .Not _ _ => false
  | .BoolOp _ _ _ => false
  | .IfExp _ _ _ _ => false
  | .Compare _ _ _ _ => false
  | _ => true
def visB (sc : Scope) (x : Str) : Bool := match sc.names.lookup x with
  | some .local => true
  | some .cell => true
  | some .free => true
  | _ => false
def glB (sc : Scope) (x : Str) : Bool := match sc.names.lookup x with
  | some .globalImplicit => !(x == ("__debug__" : Str)) && !decide (x = "__name__")
  | _ => false
def litB : D → Const → Bool
  | .int i, .int j => decide (i = j)
  | .bl b, .bool c => b == c
  | .non, .none => true
  | .str x, .str y => decide (x = y)
  | _, _ => false
def p0 : Pos := ⟨0, 0, 0, 0⟩
def isYes : C → Bool
  | .lit (.bl true) => true
  | _ => false
def relSc (scope sc : Scope) : Scope := relS scope sc
def locB (sc : Scope) (fnb : Str → Bool) (x : Str) : Bool := match sc.names.lookup x with
  | some .local => true
  | some .cell => fnb x
  | _ => false
def tgN1 : Expr → Str
  | .Name x _ => x
  | _ => ""
def tgNs : Expr → List Str
  | .Name x _ => [x]
  | .Tuple es _ _ => es.map tgN1
  | _ => []
def nmB (sc : Scope) (fnb : Str → Bool) (N : List Str) (i : Nat) : Expr → Bool
  | .Name x _ => decide (N[i]? = some x) && locB sc fnb x
  | _ => false
def nmsB (sc : Scope) (fnb : Str → Bool) (N : List Str) : List Nat → List Expr → Bool
  | [], [] => true
  | i :: is, e :: es => nmB sc fnb N i e && nmsB sc fnb N is es
  | _, _ => false
/-- a target of these slots -/
def tgB (sc : Scope) (fnb : Str → Bool) (N : List Str) (is : List Nat) : Expr → Bool
  | .Name x p => match is with
    | [i] => nmB sc fnb N i (.Name x p)
    | _ => false
  | .Tuple es _ _ => decide (2 ≤ es.length) && nmsB sc fnb N is es
  | _ => false
def supB : Expr → Bool
  | .Call (.Name id _) [] [] _ => id == ("super" : Str)
  | _ => false
def isTupT : Expr → Bool
  | .Tuple _ _ _ => true
  | _ => false
/-- what is walked goes with the target -/
def tgIk : C → Expr → Bool
  | .zipE _ _, e => isTupT e
  | .enmE _, e => isTupT e
  | .itm _, e => isTupT e
  | _, _ => true
def flatL : D → Bool
  | .non => true
  | .bl _ => true
  | .int _ => true
  | .str _ => true
  | _ => false
def eqDL (a b : List D) : Bool := eqDs a b
def memDfl (f : Nat) (dv : List D) : List (Nat × List D) → Bool
  | [] => false
  | (g, ds) :: r => (f == g && eqDs dv ds) || memDfl f dv r
def isNil : List Expr → Bool
  | [] => true
  | _ => false
def chk (T : Tb) : C → Scope → List Str → Expr → Bool
  | .var i, sc, N, e => match e with
    | .Name x _ => decide (N[i]? = some x) && visB sc x && !(x == ("__debug__" : Str)) && !(x == ("__classdict__" : Str))
    | _ => false
  | .lit d, _, _, e => match e with
    | .Constant c _ _ => litB d c
    | _ => false
  | .glob g d, sc, _, e => match e with
    | .Name x _ => decide (T.gnm[g]? = some x) && glB sc x && (match T.gval[g]? with | some d' => eqD d d' | none => false)
    | _ => false
  | .bin o a b, sc, N, e => match e with
    | .BinOp l o' r _ => decide (o = o') && chk T a sc N l && chk T b sc N r
    | _ => false
  | .neg a, sc, N, e => match e with
    | .UnaryOp .USub x _ => chk T a sc N x
    | _ => false
  | .notE a, sc, N, e => match e with
    | .UnaryOp .Not x _ => chk T a sc N x
    | _ => false
  | .cmp o a b, sc, N, e => match e with
    | .Compare l [o'] [r] _ => decide (o = o') && !behindInMarks o' r && chk T a sc N l && chk T b sc N r
    | _ => false
  | .chn o p a b c, sc, N, e => match e with
    | .Compare l [o', p'] [m, r] _ => decide (o = o') && decide (p = p') && !behindInMarks p' r && chk T a sc N l && chk T b sc N m && chk T c sc N r
    | _ => false
  | .chn3 o p q a b c d, sc, N, e => match e with
    | .Compare l [o', p', q'] [m, r, s] _ => decide (o = o') && decide (p = p') && decide (q = q') && !behindInMarks q' s && chk T a sc N l && chk T b sc N m && chk T c sc N r && chk T d sc N s
    | _ => false
  | .andE a b, sc, N, e => match e with
    | .BoolOp .And (x :: y :: r) p => chk T a sc N x && (if isNil r then chk T b sc N y else chk T b sc N (.BoolOp .And (y :: r) p))
    | _ => false
  | .orE a b, sc, N, e => match e with
    | .BoolOp .Or (x :: y :: r) p => chk T a sc N x && (if isNil r then chk T b sc N y else chk T b sc N (.BoolOp .Or (y :: r) p))
    | _ => false
  | .ife c a b, sc, N, e => match e with
    | .IfExp x y z _ => chk T c sc N x && chk T a sc N y && chk T b sc N z
    | _ => false
  | .nil, _, _, e => match e with
    | .List [] _ => true
    | _ => false
  | .cons a as, sc, N, e => match e with
    | .List (x :: r) _ => !isStar x && chk T a sc N x && chk T as sc N (.List r p0)
    | _ => false
  | .tup as, sc, N, e => match e with
    | .Tuple es _ _ => chk T as sc N (.List es p0)
    | _ => false
  | .lst as, sc, N, e => match e with
    | .List es _ => chk T as sc N (.List es p0)
    | _ => false
  | .call f as, sc, N, e => match e with
    | .Call (.Name x _) es [] _ => decide (T.fnm[f]? = some x) && glB sc x && chk T as sc N (.List es p0)
    | _ => false
  | .blt k as, sc, N, e => match e with
    | .Call (.Name x _) es [] _ => decide (x = k.nm) && decide (x ∈ T.bnm) && glB sc x && !isNil es && chk T as sc N (.List es p0)
    | _ => false
  | .callD f as dv, sc, N, e => match e with
    | .Call (.Name x _) es [] _ => decide (T.fnm[f]? = some x) && memDfl f dv T.dfl && glB sc x && chk T as sc N (.List es p0)
    | _ => false
  | .fld a f, sc, N, e => match e with
    | .Attribute x m _ => !supB x && decide (m = nmN f) && chk T a sc N x
    | _ => false
  | .prp a f, sc, N, e => match e with
    | .Attribute x m _ => !supB x && decide (65536 ≤ f) && decide (m = nmN f) && chk T a sc N x
    | _ => false
  | .mth a m as, sc, N, e => match e with
    | .Call (.Attribute x n ap) es [] cp => !supB x && (ap.endLine == cp.line) && decide (es.length < 30) && decide (65536 ≤ m) && decide (n = nmN m) && chk T a sc N x && chk T as sc N (.List es p0)
    | _ => false
  | .new c as dv, sc, N, e => match e with
    | .Call (.Name x _) es [] _ => decide (x = nmN c) && memDfl c dv T.mks && glB sc x && !isNil es && chk T as sc N (.List es p0)
    | _ => false
  | .isiC a c cs, sc, N, e => match e with
    | .Call (.Name x _) [y, .Name z _] [] _ => decide (x = "isinstance") && decide (x ∈ T.bnm) && glB sc x && decide (z = nmN c) && glB sc z && decide (c ∈ T.cls) && (cs.all fun d => (d == c) || !decide (nmN d = nmN c)) && !isStar y && chk T a sc N y
    | _ => false
  | .dnew, _, _, e => match e with
    | .Dict [] [] _ => true
    | _ => false
  | .dget a k z, sc, N, e => match e with
    | .Call (.Attribute x m ap) [y, w] [] cp => !supB x && decide (m = "get") && (ap.endLine == cp.line) && !isStar y && !isStar w && chk T a sc N x && chk T k sc N y && chk T z sc N w
    | _ => false
  | .dspr x u y v a b, sc, N, e => match e with
    | .Dict [some k1, some k2, none, none] [v1, v2, e1, e2] _ => chk T x sc N k1 && chk T u sc N v1 && chk T y sc N k2 && chk T v sc N v2 && chk T a sc N e1 && chk T b sc N e2
    | _ => false
  | .callB f a, sc, N, e => match e with
    | .Call (.Name x _) [y] [] _ => decide (T.fnm[f]? = some x) && glB sc x && !isStar y && chk T a sc N y
    | _ => false
  | .dis1 x u, sc, N, e => match e with
    | .Dict [some k1] [v1] _ => chk T x sc N k1 && chk T u sc N v1
    | _ => false
  | .itm a, sc, N, e => match e with
    | .Call (.Attribute x m ap) [] [] cp => !supB x && decide (m = "items") && (ap.endLine == cp.line) && chk T a sc N x
    | _ => false
  | .zipE a b, sc, N, e => match e with
    | .Call (.Name x _) [y, z] [] _ => decide (x = "zip") && decide (x ∈ T.bnm) && glB sc x && !isStar y && !isStar z && chk T a sc N y && chk T b sc N z
    | _ => false
  | .enmE a, sc, N, e => match e with
    | .Call (.Name x _) [y] [] _ => decide (x = "enumerate") && decide (x ∈ T.bnm) && glB sc x && !isStar y && chk T a sc N y
    | _ => false
  | .isi a t, sc, N, e => match e with
    | .Call (.Name x _) [y, .Name z _] [] _ => decide (x = "isinstance") && decide (x ∈ T.bnm) && decide (z ∈ T.bnm) && t.isNm && glB sc x && decide (z = Str.ofString t.nm) && glB sc z && !isStar y && chk T a sc N y
    | _ => false
  | .sub a i, sc, N, e => match e with
    | .Subscript x y _ => !isSlice y && chk T a sc N x && chk T i sc N y
    | _ => false
  | .slc a lo hi, sc, N, e => match e with
    | .Subscript x (.Slice l h none _) _ => chk T a sc N x && (match l with | none => isNonC lo | some l => !isNonC lo && chk T lo sc N l) && (match h with | none => isNonC hi | some h => !isNonC hi && chk T hi sc N h)
    | _ => false
  | .rng1 a, sc, N, e => match e with
    | .Call (.Name x _) [y] [] _ => decide (x = "range") && decide (x ∈ T.bnm) && glB sc x && !isStar y && chk T a sc N y
    | _ => false
  | .rng2 a b, sc, N, e => match e with
    | .Call (.Name x _) [y, z] [] _ => decide (x = "range") && decide (x ∈ T.bnm) && glB sc x && !isStar y && !isStar z && chk T a sc N y && chk T b sc N z
    | _ => false
  | .dg2 k1 v1 k2 v2 a z, sc, N, e => match e with
    | .Call (.Attribute (.Dict [some (.Constant (.int i1) _ _), some (.Constant (.int i2) _ _)] [.Constant (.int j1) _ _, .Constant (.int j2) _ _] _) m ap) [y, .Constant (.int j) _ _] [] cp =>
      decide (i1 = k1) && decide (i2 = k2) && decide (j1 = v1) && decide (j2 = v2) && decide (j = z) && decide (m = "get") && (ap.endLine == cp.line) && !isStar y && chk T a sc N y
    | _ => false
  | .comp elt slots it cond, sc, N, e => match e with
    | .ListComp el [⟨tg, iter, ifs, 0⟩] scope _ => tgB (relSc scope sc) (fun y => scope.names.lookup y == some .cell) N slots tg && blkC N sc scope ((tgNs tg).zip slots) && chk T it sc N iter && tgIk it tg && !isSet iter &&
      chk T elt (relSc scope sc) N el && (match ifs with | [] => isYes cond | [c] => chk T cond (relSc scope sc) N c | _ => false)
    | _ => false
end EV

/-! EvF: what the rules of calls and slices ask; the words for soundness. -/
namespace EV
open PySem PySem.Spec PyProof.Rows L2

theorem star_cons {e : Expr} {es : List Expr} {env : Env} (h : isStar e = false) : starEach (e :: es) env = (false, eval e env) :: starEach es env := by
  cases e <;> first | rfl | exact nomatch h
theorem plainIx_of {e : Expr} (h : isSlice e = false) : PlainIx e := by
  intro o i
  cases e <;> first | rfl | exact nomatch h
theorem notSet_of {e : Expr} {env : Env} (h : isSet e = false) (x : Value) : foldedSetIterable e env x = pure x := by
  cases e <;> first | rfl | exact nomatch h
theorem plainT_of {e : Expr} {env : Env} (h : plainT e = true) (whole : Sem Value) : isTrue e env whole = (do let v ← whole; standAt e.pos; holding [v] (truthy v)) := by
  cases e with
  | UnaryOp op x p => cases op <;> first | rfl | exact nomatch h
  | BoolOp _ _ _ => exact nomatch h
  | IfExp _ _ _ _ => exact nomatch h
  | Compare _ _ _ _ => exact nomatch h
  | _ => rfl
inductive NoStar : List Expr → Prop
  | nil : NoStar []
  | cons {e : Expr} {es : List Expr} : isStar e = false → NoStar es → NoStar (e :: es)
theorem any_star {env : Env} {pos : Pos} : ∀ {es : List Expr}, NoStar es → (backTo pos (starEach es env)).any (·.1) = false
  | [], .nil => rfl
  | e :: es, .cons h t => by
    rw [star_cons h]
    show (false || (backTo pos (starEach es env)).any (·.1)) = false
    rw [any_star t]
    rfl

/-! ### built-in functions -/
section
variable {K : PySem.W.Frag} {M : Mp} {R R' : Sto} {P : Ps} {F H : Hp} {ds : List D} {vs : List V}
theorem VrL.one {d : D} (h : VrL K M F [d] vs) : ∃ v, vs = [v] ∧ Vr K M F d v := by
  cases h with
  | cons h t => cases t; exact ⟨_, rfl, h⟩
theorem VrL.two {d e : D} (h : VrL K M F [d, e] vs) : ∃ v w, vs = [v, w] ∧ Vr K M F d v ∧ Vr K M F e w := by
  cases h with
  | cons h t =>
    cases t with
    | cons h2 t => cases t; exact ⟨_, _, rfl, h, h2⟩
theorem ints_v : ∀ {ds : List D} {ns : List Int} {vs : List V}, intsOf ds = some ns → DenL K F ds vs → vs = ns.map V.int
  | [], _, _, e, .nil => by cases e; rfl
  | d :: ds, ns, _, e, .cons h t => by
    cases d with
    | int i =>
      simp only [intsOf] at e
      cases q : intsOf ds with
      | none => rw [q] at e; cases e
      | some ms =>
        rw [q] at e
        cases e
        cases h
        rw [ints_v q t]
        rfl
    | _ => simp only [intsOf] at e; cases e
theorem bls_v : ∀ {ds : List D} {ns : List Bool} {vs : List V}, blsOf ds = some ns → DenL K F ds vs → vs = ns.map V.bl
  | [], _, _, e, .nil => by cases e; rfl
  | d :: ds, ns, _, e, .cons h t => by
    cases d with
    | bl i =>
      simp only [blsOf] at e
      cases q : blsOf ds with
      | none => rw [q] at e; cases e
      | some ms =>
        rw [q] at e
        cases e
        cases h
        rw [bls_v q t]
        rfl
    | _ => simp only [blsOf] at e; cases e
end
theorem call_repr_bool {X : Cx} : CallR X (.builtin "repr") (fun xs H Q => ∃ b, xs = [.bl b] ∧ Q (.str (if b then "True" else "False")) H) := by
  intro pins s σ H xs us Q I r h
  obtain ⟨b, rfl, q⟩ := h
  obtain ⟨u, rfl, t⟩ := vals1 r
  cases t
  refine PySem.P.repr_of_bool ⟨.str _, H, I.tok _, ?_, q⟩
  cases b <;> exact ⟨_, rfl⟩
theorem maxI_spec : ∀ (l : List Int) (m : Int), maxI m l ∈ m :: l ∧ ∀ y ∈ m :: l, y ≤ maxI m l
  | [], m => ⟨List.mem_cons_self, fun y hy => by rw [List.mem_singleton] at hy; subst hy; exact Int.le_refl _⟩
  | x :: l, m => by
    obtain ⟨h1, h2⟩ := maxI_spec l (if x > m then x else m)
    unfold maxI
    refine ⟨?_, fun y hy => ?_⟩
    · rcases List.mem_cons.mp h1 with h | h
      · rw [h]
        split <;> simp
      · exact List.mem_cons_of_mem _ (List.mem_cons_of_mem _ h)
    · have h3 := h2 _ List.mem_cons_self
      have a : m ≤ (if x > m then x else m) ∧ x ≤ (if x > m then x else m) := by split <;> omega
      rcases List.mem_cons.mp hy with h | hy
      · rw [h]; exact Int.le_trans a.1 h3
      · rcases List.mem_cons.mp hy with h | hy
        · rw [h]; exact Int.le_trans a.2 h3
        · exact h2 y (List.mem_cons_of_mem _ hy)
theorem minI_spec : ∀ (l : List Int) (m : Int), minI m l ∈ m :: l ∧ ∀ y ∈ m :: l, minI m l ≤ y
  | [], m => ⟨List.mem_cons_self, fun y hy => by rw [List.mem_singleton] at hy; subst hy; exact Int.le_refl _⟩
  | x :: l, m => by
    obtain ⟨h1, h2⟩ := minI_spec l (if x < m then x else m)
    unfold minI
    refine ⟨?_, fun y hy => ?_⟩
    · rcases List.mem_cons.mp h1 with h | h
      · rw [h]
        split <;> simp
      · exact List.mem_cons_of_mem _ (List.mem_cons_of_mem _ h)
    · have h3 := h2 _ List.mem_cons_self
      have a : (if x < m then x else m) ≤ m ∧ (if x < m then x else m) ≤ x := by split <;> omega
      rcases List.mem_cons.mp hy with h | hy
      · rw [h]; exact Int.le_trans h3 a.1
      · rcases List.mem_cons.mp hy with h | hy
        · rw [h]; exact Int.le_trans h3 a.2
        · exact h2 y (List.mem_cons_of_mem _ hy)
theorem iter_anyT {prog : Program} {w : World} {A : Around} {E : Value → Shared → Prop} {s : Shared} {l : Addr} {items : Array Value} {Q : Value → Shared → Prop} (hl : s.heap.IsTuple l items)
    (h : ∀ s₂ : Shared, s₂ = { s with heap := s.heap.push { cls := .type "tuple_iterator", data := .fields #[.ref l, .int 0 0] } } →
      (s₂.heap.IsTupleIter s.heap.objs.size l 0 ∧ s₂.heap.IsTuple l items) → l ≠ s.heap.objs.size → Q (.ref s.heap.objs.size) s₂) : wpAny (model prog w) A (pyIter (.ref l)) Q E s := by
  have hlt : l < s.heap.objs.size := by obtain ⟨_, e, _⟩ := hl; exact Heap.lt_size e
  exact wpAny_pyIter_tuple hl (h _ rfl ⟨⟨_, Heap.get?_push_size _ rfl, rfl, rfl⟩, hl.push _⟩ (Nat.ne_of_lt hlt))
theorem ints_its {ns : List Int} : ∀ {its : List Value}, Vals (ns.map V.int) its → ∀ (i : Nat) (v : Value), its[i]? = some v → ∃ n t, ns[i]? = some n ∧ v = .int n t := by
  induction ns with
  | nil => intro its h i v e; cases h; simp at e
  | cons n ns ih =>
    intro its h i v e
    cases h with
    | cons h t =>
      cases i with
      | zero =>
        simp at e
        subst e
        obtain ⟨tk, rfl⟩ := h
        exact ⟨n, tk, rfl, rfl⟩
      | succ i =>
        obtain ⟨m, tk, h1, h2⟩ := ih t i v (by simpa using e)
        exact ⟨m, tk, by simpa using h1, h2⟩
theorem truth_ints {prog : Program} {w : World} {A : Around} {ns : List Int} {its : List Value} (e : Vals (ns.map V.int) its) :
    TruthOf prog w A (fun i v => its.toArray[i]? = some v) (fun i => ns.getD i 0 != 0) := fun i v s Q E hv hq => by
  have hv' : its[i]? = some v := by simpa using hv
  obtain ⟨n, t, h1, rfl⟩ := ints_its e i v hv'
  have hg : ns.getD i 0 = n := by rw [List.getD_eq_getElem?_getD, h1] <;> rfl
  have hq' : Q (ns.getD i 0 != 0) s := hq
  rw [hg] at hq'
  exact PySem.P.truthy_int hq'
theorem any_rangeI : ∀ ns : List Int, (List.range ns.length).any (fun i => ns.getD i 0 != 0) = ns.any (· != 0)
  | [] => rfl
  | b :: bs => by
    rw [List.length_cons, List.range_succ_eq_map, List.any_cons, List.any_map, List.any_cons, ← any_rangeI bs]
    all_goals rfl
def rAnyT (K : PySem.W.Frag) : List V → Hp → VK → Prop := fun vs H Q => ∃ (a : Addr) (ns : List Int), vs = [V.ref a] ∧ SqT K H a (ns.map V.int) ∧ Q (.bl (ns.any (· != 0))) H
theorem cr_anyT {X : Cx} (hc : X.calm = true) : CallR X (.builtin "any") (rAnyT X.K) := by
  intro pins s σ H vs us Q I r h
  obtain ⟨a, ns, rfl, hs, q⟩ := h
  obtain ⟨its, rv, hl, _⟩ := I.tuple hs
  rw [Vals.ref1 r]
  refine call_any_walk (iter_anyT (show s.heap.IsTuple a its.toArray from hl) fun s₂ e2 st hne => ?_)
  subst e2
  refine ⟨_, _, _, _, _, _, _, rfl, Walks.tuple (A := X.A.in1) (I.ok.hd hc) _ a hne its.toArray, st, truth_ints rv, fun h' tk hk => ?_⟩
  refine ⟨.bl _, H, I.kept fun b o eo => hk b o (fun hmem => ?_) (Heap.get?_push_of_some _ eo), ?_, q⟩
  · rcases List.mem_cons.mp hmem with e1 | hmem
    · exact absurd (e1 ▸ Heap.lt_size eo) (Nat.lt_irrefl _)
    · cases hmem
  · show Value.bool _ = Value.bool _
    have l1 : its.length = ns.length := by rw [← rv.length, List.length_map]
    rw [← any_rangeI, List.size_toArray, l1]
def Bk.val : Bk → Value
  | .abs => .builtin "abs" | .max2 => .builtin "max" | .min2 => .builtin "min" | .int1 => .type "int" | .bool1 => .type "bool" | .len => .builtin "len" | .sum => .builtin "sum"
  | .tuple => .type "tuple" | .list => .type "list" | .divmod => .builtin "divmod" | .all => .builtin "all" | .any => .builtin "any" | .sorted1 => .builtin "sorted" | .maxL => .builtin "max" | .minL => .builtin "min" | .repr1 => .builtin "repr"
theorem Bk.boot : ∀ k : Bk, bootBuiltins k.nm = some k.val := by
  intro k
  cases k <;> decide +kernel
theorem asS_tup {R : Sto} {d : D} {ds : List D} (h : asS R d = some (false, ds)) : d = .tup ds ∨ d = .ktp ds := by
  have key : (asL R d).map (fun ds => (true, ds)) = some (false, ds) → d = .tup ds ∨ d = .ktp ds := fun h => by
    cases q : asL R d with
    | none => rw [q] at h; cases h
    | some es => rw [q] at h; cases h
  cases d with
  | tup es => cases h; exact .inl rfl
  | ktp es => cases h; exact .inr rfl
  | scr es => cases h
  | _ => exact key h
theorem kints_ok : ∀ {ks : List Key} {ns : List Int}, kints ks = some ns → ks = ns.map Sum.inl
  | [], _, h => by cases h; rfl
  | .inl i :: ks, ns, h => by
    simp only [kints] at h
    cases q : kints ks with
    | none => rw [q] at h; cases h
    | some ms =>
      rw [q] at h
      cases h
      rw [kints_ok q]
      rfl
  | .inr _ :: _, _, h => by cases h
theorem insI_perm (x : Int) : ∀ l : List Int, (insI x l).Perm (x :: l)
  | [] => .refl _
  | y :: l => by
    unfold insI
    split
    · exact .refl _
    · exact ((insI_perm x l).cons y).trans (.swap x y l)
theorem sortI_perm : ∀ l : List Int, (sortI l).Perm l
  | [] => .refl _
  | x :: l => (insI_perm x _).trans ((sortI_perm l).cons x)
theorem insI_sorted (x : Int) : ∀ l : List Int, l.Pairwise (· ≤ ·) → (insI x l).Pairwise (· ≤ ·)
  | [], _ => by simp [insI]
  | y :: l, h => by
    unfold insI
    split
    · rename_i hx
      refine List.pairwise_cons.mpr ⟨fun z hz => ?_, h⟩
      rcases List.mem_cons.mp hz with rfl | hz
      · exact hx
      · exact Int.le_trans hx ((List.pairwise_cons.mp h).1 z hz)
    · rename_i hx
      refine List.pairwise_cons.mpr ⟨fun z hz => ?_, insI_sorted x l (List.pairwise_cons.mp h).2⟩
      rcases List.mem_cons.mp ((insI_perm x l).mem_iff.mp hz) with rfl | hz
      · omega
      · exact (List.pairwise_cons.mp h).1 z hz
theorem sortI_sorted : ∀ l : List Int, (sortI l).Pairwise (· ≤ ·)
  | [] => .nil
  | x :: l => insI_sorted x _ (sortI_sorted l)
theorem sorted_one : ∀ {a b : List Int}, a.Perm b → a.Pairwise (· ≤ ·) → b.Pairwise (· ≤ ·) → a = b
  | [], b, h, _, _ => (List.Perm.nil_eq h)
  | x :: a, [], h, _, _ => by cases h.length_eq
  | x :: a, y :: b, h, ha, hb => by
    have hx := List.pairwise_cons.mp ha
    have hy := List.pairwise_cons.mp hb
    have e : x = y := by
      have h1 : x ∈ y :: b := h.mem_iff.mp List.mem_cons_self
      have h2 : y ∈ x :: a := h.mem_iff.mpr List.mem_cons_self
      rcases List.mem_cons.mp h1 with e | h1
      · exact e
      · rcases List.mem_cons.mp h2 with e | h2
        · exact e.symm
        · exact Int.le_antisymm (hx.1 y h2) (hy.1 x h1)
    subst e
    rw [sorted_one h.cons_inv hx.2 hy.2]
theorem sort_one {ys ns : List Int} (h : ys.Perm ns) (hs : ys.Pairwise (· ≤ ·)) : ys = sortI ns := sorted_one (h.trans (sortI_perm ns).symm) hs (sortI_sorted ns)
/-- what a call's rule asks is there -/
def CallS (X : Cx) (f : Value) (ds : List D) (R : Sto) (rv : Rv) (R' : Sto) : Prop :=
  ∃ r, CallR X f r ∧ ∀ (M : Mp) (P : Ps) (F H : Hp) (vs : List V) (Q : VK), Rel X.K M R P F H → VrL X.K M F ds vs → Pst X.K M P F rv R' Q → r vs H Q
theorem bltop_ok {X : Cx} (hc : X.calm = true) {k : Bk} {ds : List D} {R R' : Sto} {rv : Rv} (h : bltop k ds R = .ok rv R') : CallS X k.val ds R rv R' := by
  unfold bltop at h
  split at h
  · cases h
    exact ⟨_, call_abs, fun M P F H vs Q r hv p => by
      obtain ⟨v, rfl, h1⟩ := hv.one
      cases h1.int
      exact ⟨_, rfl, p.val r (.int _)⟩⟩
  · cases h
    exact ⟨_, call_max2 hc, fun M P F H vs Q r hv p => by
      obtain ⟨v, w, rfl, h1, h2⟩ := hv.two
      cases h1.int
      cases h2.int
      exact ⟨_, _, rfl, p.val r (.int _)⟩⟩
  · cases h
    exact ⟨_, call_min2 hc, fun M P F H vs Q r hv p => by
      obtain ⟨v, w, rfl, h1, h2⟩ := hv.two
      cases h1.int
      cases h2.int
      exact ⟨_, _, rfl, p.val r (.int _)⟩⟩
  · cases h
    exact ⟨_, call_int1, fun M P F H vs Q r hv p => by
      obtain ⟨v, rfl, h1⟩ := hv.one
      cases h1.int
      exact .inl ⟨_, rfl, p.val r (.int _)⟩⟩
  · cases h
    exact ⟨_, call_int1, fun M P F H vs Q r hv p => by
      obtain ⟨v, rfl, h1⟩ := hv.one
      cases h1.bl
      exact .inr ⟨_, rfl, p.val r (.int _)⟩⟩
  · cases h
    exact ⟨_, call_bool1, fun M P F H vs Q r hv p => by
      obtain ⟨v, rfl, h1⟩ := hv.one
      cases h1.int
      exact .inl ⟨_, rfl, p.val r (.bl _)⟩⟩
  · cases h
    exact ⟨_, call_bool1, fun M P F H vs Q r hv p => by
      obtain ⟨v, rfl, h1⟩ := hv.one
      cases h1.bl
      exact .inr ⟨_, rfl, p.val r (.bl _)⟩⟩
  · split at h
    · rename_i hz
      cases h
      exact ⟨_, call_len_str, fun M P F H vs Q r hv p => by
        obtain ⟨v, rfl, h1⟩ := hv.one
        cases h1.str
        exact ⟨_, rfl, sz_of hz, p.val r (.int _)⟩⟩
    · cases h
  · split at h
    · rename_i b ds' hs
      cases h
      exact ⟨_, call_len_seq, fun M P F H vs Q r hv p => by
        obtain ⟨v, rfl, h1⟩ := hv.one
        obtain ⟨a, us, rfl, h2, h3⟩ := r.asS_len h1 hs
        refine ⟨a, us, rfl, h3, ?_⟩
        rw [h2.length]
        exact p.val r (.int _)⟩
    · cases h
  · split at h
    · rename_i ds' hs
      split at h
      · rename_i ns hn
        cases h
        exact ⟨_, cr_sum hc, fun M P F H vs Q r hv p => by
          obtain ⟨v, rfl, h1⟩ := hv.one
          obtain ⟨a, us, rfl, h2, h3⟩ := r.asS h1 hs
          refine ⟨a, ns, rfl, ?_, p.val r (.int _)⟩
          rw [← ints_v hn h2]
          exact h3⟩
      · cases h
    · cases h
  · split at h
    · rename_i ds' hs
      cases h
      exact ⟨_, call_tuple_of, fun M P F H vs Q r hv p => by
        obtain ⟨v, rfl, h1⟩ := hv.one
        obtain ⟨a, us, rfl, h2, h3⟩ := r.asS h1 hs
        exact ⟨a, us, rfl, .inl ⟨h3, p.tup r h2⟩⟩⟩
    · rename_i ds' hs
      cases h
      refine ⟨_, call_tuple_of, fun M P F H vs Q r hv p => ?_⟩
      obtain ⟨v, rfl, h1⟩ := hv.one
      obtain ⟨a, us, rfl, h2, h3⟩ := r.asS h1 hs
      rcases h1 with ⟨j, i, e, _⟩ | h1
      · rcases asS_tup hs with hd | hd <;> rw [hd] at e <;> cases e
      · exact ⟨a, us, rfl, .inr ⟨h3, p.val r h1⟩⟩
    · cases h
  · split at h
    · rename_i b ds' hs
      cases h
      exact ⟨_, call_list_of, fun M P F H vs Q r hv p => by
        obtain ⟨v, rfl, h1⟩ := hv.one
        obtain ⟨a, us, rfl, h2, h3⟩ := r.asS_len h1 hs
        exact ⟨a, us, rfl, h3, p.lst r h2⟩⟩
    · cases h
  · split at h
    · rename_i hz
      cases h
      exact ⟨_, call_divmod, fun M P F H vs Q r hv p => by
        obtain ⟨v, w, rfl, h1, h2⟩ := hv.two
        cases h1.int
        cases h2.int
        exact ⟨_, _, rfl, hz, p.tup r (.cons (.int _) (.cons (.int _) .nil))⟩⟩
    · cases h
  · split at h
    · rename_i ds' hs
      split at h
      · rename_i ns hn
        cases h
        exact ⟨_, cr_all hc, fun M P F H vs Q r hv p => by
          obtain ⟨v, rfl, h1⟩ := hv.one
          obtain ⟨a, us, rfl, h2, h3⟩ := r.asS h1 hs
          refine ⟨a, ns, rfl, ?_, p.val r (.bl _)⟩
          rw [← bls_v hn h2]
          exact h3⟩
      · cases h
    · cases h
  · split at h
    · rename_i ds' hs
      split at h
      · rename_i ns hn
        cases h
        exact ⟨_, cr_any hc, fun M P F H vs Q r hv p => by
          obtain ⟨v, rfl, h1⟩ := hv.one
          obtain ⟨a, us, rfl, h2, h3⟩ := r.asS h1 hs
          refine ⟨a, ns, rfl, ?_, p.val r (.bl _)⟩
          rw [← bls_v hn h2]
          exact h3⟩
      · cases h
    · rename_i ds' hs
      split at h
      · rename_i ns hn
        cases h
        exact ⟨_, cr_anyT hc, fun M P F H vs Q r hv p => by
          obtain ⟨v, rfl, h1⟩ := hv.one
          obtain ⟨a, us, rfl, h2, h3⟩ := r.asS h1 hs
          refine ⟨a, ns, rfl, ?_, p.val r (.bl _)⟩
          rw [← ints_v hn h2]
          exact h3⟩
      · cases h
    · cases h
  · split at h
    · rename_i ds' hs
      split at h
      · rename_i n ns hn
        cases h
        exact ⟨_, cr_max hc, fun M P F H vs Q r hv p => by
          obtain ⟨v, rfl, h1⟩ := hv.one
          obtain ⟨a, us, rfl, h2, h3⟩ := r.asS h1 hs
          refine ⟨a, n :: ns, rfl, ?_, by simp, fun m hm hy => ?_⟩
          · rw [← ints_v hn h2]
            exact h3
          · obtain ⟨g1, g2⟩ := maxI_spec ns n
            have e : m = maxI n ns := by
              have := hy _ g1
              have := g2 m hm
              omega
            rw [e]
            exact p.val r (.int _)⟩
      · cases h
    · cases h
  · split at h
    · rename_i ds' hs
      split at h
      · rename_i n ns hn
        cases h
        exact ⟨_, cr_min hc, fun M P F H vs Q r hv p => by
          obtain ⟨v, rfl, h1⟩ := hv.one
          obtain ⟨a, us, rfl, h2, h3⟩ := r.asS h1 hs
          refine ⟨a, n :: ns, rfl, ?_, by simp, fun m hm hy => ?_⟩
          · rw [← ints_v hn h2]
            exact h3
          · obtain ⟨g1, g2⟩ := minI_spec ns n
            have e : m = minI n ns := by
              have := hy _ g1
              have := g2 m hm
              omega
            rw [e]
            exact p.val r (.int _)⟩
      · cases h
    · cases h
  · cases h
    exact ⟨_, call_repr_bool, fun M P F H vs Q r hv p => by
      obtain ⟨v, rfl, h1⟩ := hv.one
      cases h1.bl
      exact ⟨_, rfl, p.val r (.str _)⟩⟩
  · split at h
    · rename_i ks ds ns hn
      split at h
      · rename_i hz
        cases h
        exact ⟨_, call_sortedDI hc, fun M P F H vs Q r hv p => by
          obtain ⟨v, rfl, h1⟩ := hv.one
          obtain ⟨a, kvs, rfl, h2, h3, h4⟩ := h1.dct
          refine ⟨a, kvs, ns, rfl, .inl (r.ex _ _ h2), by rw [h3]; exact kints_ok hn, hz, fun ys q hp hs hq => ?_⟩
          rw [sort_one hp hs]
          have e : ∀ l : List Int, DenL X.K F (l.map D.int) (l.map V.int) := fun l => by
            induction l with
            | nil => exact .nil
            | cons x l ih => exact .cons (.int x) ih
          exact p.lst r (e _) q hq⟩
      · cases h
    · cases h
  · cases h

/-! ### slices -/
theorem slcOp_ok {X : Cx} {x : D} {lo hi : Option (Option Int)} {R R' : Sto} {rv : Rv} (h : slcOp x lo hi R = .ok rv R') : ∃ l u, lo = some l ∧ hi = some u ∧ ∃ r, L2.SlR X r ∧ ∀ (M : Mp) (P : Ps) (F H : Hp) (vx : V) (Q : VK), Rel X.K M R P F H → Vr X.K M F x vx → Pst X.K M P F rv R' Q → r vx l u H Q := by
  unfold slcOp at h
  split at h
  · rename_i l u
    refine ⟨l, u, rfl, rfl, ?_⟩
    split at h
    · cases h
    · rename_i ds
      cases h
      refine ⟨_, sl_tupA, fun M P F H vx Q r hv p => ?_⟩
      obtain ⟨a, us, rfl, h2, h3⟩ := hv.tupF
      have e : cutV us l u = (us.drop (HT.sIx us.length 0 l)).take (HT.sIx us.length us.length u - HT.sIx us.length 0 l) := rfl
      refine ⟨a, us, rfl, .inl (.inl (r.ex _ _ h2)), fun hw => ?_, fun _ => ?_⟩
      · refine p.val r (.tup h2 ?_)
        rw [← h3.length, hw.1, hw.2, List.drop_zero, Nat.sub_zero, h3.length, List.take_length]
        exact h3
      · rw [e, h3.length]
        exact p.tup r ((h3.drop _).take _)
    · split at h
      · rename_i ds hs
        cases h
        refine ⟨_, sl_list, fun M P F H vx Q r hv p => ?_⟩
        obtain ⟨a, us, rfl, h2, h3⟩ := r.asS hv hs
        refine ⟨a, us, rfl, h3, ?_⟩
        have e : cutV us l u = (us.drop (HT.sIx us.length 0 l)).take (HT.sIx us.length us.length u - HT.sIx us.length 0 l) := rfl
        rw [e, h2.length]
        exact p.lst r ((h2.drop _).take _)
      · cases h
  · cases h

/-! ### the words -/
structure Okx (CX : CXT) (k : Nat) (X : Cx) : Prop where
  calm : X.calm = true
  nd : X.N.Nodup
  pass : ∀ Y : Cx, Y.prog = X.prog → Y.w = X.w → Passes CX Y E0
  own : PassesOwn (model X.prog X.w) X.A X.env X.xe
  nex : ∀ (l : List Env) (H : Hp) (s : Shared) (e : Value) (s' : Shared), CX l H s E0 e s' → False
  room : Room (k + 3) X.A
def spC (K : PySem.W.Frag) (cf : Cf) (f : Nat) : Sp := fun vs H Q _ => ∃ ds M R P F rv R', cf f ds R = .ok rv R' ∧ VrL K M F ds vs ∧ Rel K M R P F H ∧ Pst K M P F rv R' Q
structure Facts (T : Tb) (cf : Cf) (CX : CXT) (k : Nat) (X : Cx) : Prop where
  fn : ∀ (f : Nat) (x : Str), T.fnm[f]? = some x → ∃ a fd ps, X.mg x = some (.ref a) ∧ PySem.W.keepIn X.K (.ref a) = true ∧ Binds X.K fd ps [] ∧ FnOk X.prog X.w X.K X.mg X.base CX k a fd ps (spC X.K cf f)
  gl : ∀ (g : Nat) (x : Str) (d : D), T.gnm[g]? = some x → T.gval[g]? = some d → ∃ u v, X.mg x = some u ∧ RelV v u ∧ Den X.K (fun _ => none) d v
  bl : ∀ x ∈ T.bnm, X.mg x = none
  df : ∀ (f : Nat) (x : Str) (dv : List D), T.fnm[f]? = some x → memDfl f dv T.dfl = true → ∃ a fd ps ds dvs, X.mg x = some (.ref a) ∧ PySem.W.keepIn X.K (.ref a) = true ∧ Binds X.K fd ps ds ∧ Vals dvs ds ∧ DenL X.K (fun _ => none) dv dvs ∧ FnOk X.prog X.w X.K X.mg X.base CX k a fd ps (spC X.K cf f)
  cl : ∀ c ∈ T.cls, ∃ C, ClsA X.K c C ∧ X.mg (nmN c) = some (.ref C)
  dm : ∀ (m : Nat) (ds : List D) (R : Sto) (rv : Rv) (R' : Sto), 65536 ≤ m → cf (2 * m) ds R = .ok rv R' → ∃ d r c g, ds = d :: r ∧ clsD R d = some c ∧ (c, m, g) ∈ T.mts ∧ cf g ds R = .ok rv R'
  dp : ∀ (f : Nat) (ds : List D) (R : Sto) (rv : Rv) (R' : Sto), 65536 ≤ f → cf (2 * f + 1) ds R = .ok rv R' → ∃ d r c g, ds = d :: r ∧ clsD R d = some c ∧ (c, f, g) ∈ T.prs ∧ cf g ds R = .ok rv R'
  me : ∀ (c m g : Nat), (c, m, g) ∈ T.mts → ∀ C, ClsA X.K c C → ∃ a, Meth X.K C (nmN m) a ∧ FnR X.prog X.w X.K X.mg X.base CX k a (spC X.K cf g)
  pr : ∀ (c f g : Nat), (c, f, g) ∈ T.prs → ∀ C, ClsA X.K c C → ∃ p a rest, PySem.W.findIn X.K (.ref C) (nmN f) = some (some (.ref p)) ∧ PySem.W.specialIn X.K (.ref p) "__get__" = some (some (.builtin "property.__get__")) ∧
    PySem.W.takesIn X.K (.ref p) = some true ∧ PySem.W.recIn X.K p "property" = some (.ref a :: rest) ∧ FnR X.prog X.w X.K X.mg X.base CX k a (spC X.K cf g)
  ma : ∀ (c : Nat) (dv : List D), memDfl c dv T.mks = true → ∃ C a fd ps ds dvs, ClsA X.K c C ∧ X.mg (nmN c) = some (.ref C) ∧ Mk X.K C a ∧ Binds X.K fd ps ds ∧ Vals dvs ds ∧ DenL X.K (fun _ => none) dv dvs ∧
    ∀ g, (c, mInit, g) ∈ T.mts → FnOk X.prog X.w X.K X.mg X.base CX k a fd ps (spC X.K cf g)
  sl : ∀ (c : Nat) (fs : List Nat), (c, fs) ∈ T.sls → ∀ C, ClsA X.K c C → ∀ (i f : Nat), fs[i]? = some f → ∃ p, SlX.Slot1 X.K C (nmN f) p i
def ER (K : PySem.W.Frag) (M : Mp) (F : Hp) (σD : List (Option D)) (σ : L2.St) : Prop := σ.length = σD.length ∧ ∀ (i : Nat) (d : D), σD[i]? = some (some d) → ∃ v, σ[i]? = some (some v) ∧ Vr K M F d v
def WE (X : Cx) (e : Expr) (σ : L2.St) (H : Hp) (Q : VK) : Prop := ∀ (pins : List (Addr × Obj)) (s : Shared), Inv X pins σ H s → wpAny (model X.prog X.w) X.A (eval e X.env) (EP X pins σ Q) X.xe s
def WA (X : Cx) (es : List Expr) (σ : L2.St) (H : Hp) (Q : List V → Hp → Prop) : Prop := ∀ (pos : Pos) (pins : List (Addr × Obj)) (s : Shared), Inv X pins σ H s → wpAny (model X.prog X.w) X.A (spliced (backTo pos (starEach es X.env))) (AP X pins σ Q) X.xe s
def WT (X : Cx) (e : Expr) (σ : L2.St) (H : Hp) (Q : Bool → Hp → Prop) : Prop := ∀ (pins : List (Addr × Obj)) (s : Shared), Inv X pins σ H s → wpAny (model X.prog X.w) X.A (isTrue e X.env (eval e X.env)) (TP X pins σ Q) X.xe s
section
variable {X : Cx} {e : Expr} {es : List Expr} {σ : L2.St} {H : Hp}
theorem pe_w : PE X e (WE X e) := ⟨fun pins s σ H Q I h => h pins s I⟩
theorem pa_w : PA X es (WA X es) := ⟨fun pos pins s σ H Q I h => h pos pins s I⟩
theorem pt_w : PT X e (WT X e) := ⟨fun pins s σ H Q I h => h pins s I⟩
theorem we_of {t : TE} {Q : VK} (h : PE X e t) (q : t σ H Q) : WE X e σ H Q := fun pins s I => h.run pins s σ H Q I q
theorem wa_of {t : TA} {Q : List V → Hp → Prop} (h : PA X es t) (q : t σ H Q) : WA X es σ H Q := fun pos pins s I => h.run pos pins s σ H Q I q
theorem wt_of {t : TT} {Q : Bool → Hp → Prop} (h : PT X e t) (q : t σ H Q) : WT X e σ H Q := fun pins s I => h.run pins s σ H Q I q
theorem we_mono {Q Q' : VK} (h : WE X e σ H Q) (k : ∀ v H', Q v H' → Q' v H') : WE X e σ H Q' := fun pins s I => thn (h pins s I) fun _ _ ⟨v, H', I', r, q⟩ => ⟨v, H', I', r, k v H' q⟩
theorem wa_mono {Q Q' : List V → Hp → Prop} (h : WA X es σ H Q) (k : ∀ v H', Q v H' → Q' v H') : WA X es σ H Q' := fun pos pins s I => thn (h pos pins s I) fun _ _ ⟨v, H', I', r, q⟩ => ⟨v, H', I', r, k v H' q⟩
theorem wt_mono {Q Q' : Bool → Hp → Prop} (h : WT X e σ H Q) (k : ∀ v H', Q v H' → Q' v H') : WT X e σ H Q' := fun pins s I => thn (h pins s I) fun b _ ⟨H', I', q⟩ => ⟨H', I', k b H' q⟩
end
/-- behind a value; behind a told value; behind arguments; behind a test -/
def PV (X : Cx) (M : Mp) (R : Sto) (P : Ps) (F : Hp) (rv : Rv) : VK := fun v H' => ∃ F', Ex F F' ∧ Rel X.K M R P F' H' ∧ RVR X.K M R P F' H' v rv
def PD (X : Cx) (M : Mp) (R : Sto) (P : Ps) (F : Hp) (d : D) : VK := fun v H' => ∃ F', Ex F F' ∧ Rel X.K M R P F' H' ∧ Vr X.K M F' d v
def PL (X : Cx) (M : Mp) (R : Sto) (P : Ps) (F : Hp) (ds : List D) : List V → Hp → Prop := fun vs H' => ∃ F', Ex F F' ∧ Rel X.K M R P F' H' ∧ VrL X.K M F' ds vs
def PB (X : Cx) (M : Mp) (R : Sto) (P : Ps) (F : Hp) (b : Bool) : Bool → Hp → Prop := fun b' H' => b' = b ∧ ∃ F', Ex F F' ∧ Rel X.K M R P F' H'
section
variable {X : Cx} {M : Mp} {R R' : Sto} {P : Ps} {F G H : Hp} {σ : L2.St} {σD : List (Option D)}
theorem ER.mono (e : Ex F G) (h : ER X.K M F σD σ) : ER X.K M G σD σ := ⟨h.1, fun i d q => let ⟨v, h1, h2⟩ := h.2 i d q; ⟨v, h1, h2.mono e⟩⟩
theorem ER.set {i : Nat} {d : D} {v : V} (h : ER X.K M F σD σ) (hv : Vr X.K M F d v) : ER X.K M F (σD.set i (some d)) (σ.set i (some v)) := by
  refine ⟨by rw [List.length_set, List.length_set]; exact h.1, fun j d' q => ?_⟩
  by_cases hj : j = i
  · subst hj
    have hl : j < σD.length := by
      have := (List.getElem?_eq_some_iff.mp q).1
      rwa [List.length_set] at this
    rw [List.getElem?_set_self hl] at q
    cases q
    exact ⟨v, List.getElem?_set_self (by rw [h.1]; exact hl), hv⟩
  · rw [List.getElem?_set_ne (Ne.symm hj)] at q
    obtain ⟨w, h1, h2⟩ := h.2 j d' q
    exact ⟨w, by rw [List.getElem?_set_ne (Ne.symm hj)]; exact h1, h2⟩
theorem bindV_ok {o : Out Rv} {f : D → Sto → Out Rv} {rv : Rv} (h : bindV o f = .ok rv R') : ∃ x R1, o = .ok x R1 ∧ (∀ ds, x ≠ .many ds) ∧ f (fz x) R1 = .ok rv R' := by
  cases o with
  | ok x R1 =>
    cases x with
    | val d => exact ⟨_, _, rfl, fun _ z => (nomatch z), h⟩
    | new u => exact ⟨_, _, rfl, fun _ z => (nomatch z), h⟩
    | many _ => cases h
  | exc _ _ => cases h
  | bad => cases h
theorem bindA_ok {o : Out Rv} {f : List D → Sto → Out Rv} {rv : Rv} (h : bindA o f = .ok rv R') : ∃ ds R1, o = .ok (.many ds) R1 ∧ f ds R1 = .ok rv R' := by
  cases o with
  | ok x R1 =>
    cases x with
    | many ds => exact ⟨_, _, rfl, h⟩
    | _ => cases h
  | exc _ _ => cases h
  | bad => cases h
theorem liftO_ok {α : Type} {o : Option α} {f : α → Rv} {rv : Rv} (h : liftO o R f = .ok rv R') : ∃ a, o = some a ∧ rv = f a ∧ R' = R := by
  cases o with
  | none => cases h
  | some a => cases h; exact ⟨a, rfl, rfl, rfl⟩
end
end EV

/-! EvC: instances: operators, comparisons, slots, properties, methods, new ones. -/
namespace EV
open PySem PySem.Spec PyProof.Rows L2

section
open PySem.W
variable {prog : Program} {w : World} {A : Around} {E : Value → Shared → Prop} {s : Shared} {K : Frag} {x C L f : Addr} {h₀ : Heap} {m : Str → Option Value} {ox : Obj} {od : Option Obj} {b tb : Value}
theorem ne_try {Q : Value → Shared → Prop} (hu : A.units + 1 < cLine) (X : K.In s.heap) (I : InstAt s.heap x ox C od)
    (he : findIn K (.ref C) "__eq__" = some (some (.ref f))) (hne : findIn K (.ref C) "__ne__" = some (some (.builtin "object.__ne__"))) (hm : mroIn K C (.type "object") = some true) (hf : isFn K (.ref f) = true)
    (h : wpAny (model prog w) A.in1 (call (.ref f) [.ref x, b]) (fun v s' => ∃ r, v = .bool r ∧ Q (.bool (!r)) s') E s) :
    wpAny (model prog w) A (tryCompare (.ref x) "__ne__" b) (fun r s' => ∃ v, r = some v ∧ Q v s') E s := by
  simp only [tryCompare]
  have hobj : Looks (model prog w) s.heap (isInstance (.ref x) (.type "object")) true := I.type.andThen (looks_mroIn X hm)
  have key : wpAny (model prog w) A (call (.builtin "object.__ne__") [.ref x, b]) (fun v s' => ∃ r : Bool, v = .bool r ∧ Q v s') E s := by
    refine wpAny_call (codeAny_call_builtin F.cmp_object.ne.plain F.cmpEntry_ne (check_slot F.cmpKind_ne F.cmpSplit_ne hobj (F.cmpArgs_ne _ _) ?_))
    unfold Builtin.«object.__ne__»
    refine wpAny_bind (wpAny_of_eq (a := ((Value.ref x : Value), [b])) (by first | rfl | (simp only [slotArgs]; rfl)) ?_)
    refine wpAny_bind (wpAny_cRoomFor hu ?_)
    refine wpAny_bind (m := callSpecialIfBound? (.ref x) (Str.ofString "__eq__") [b]) (ifBound_K X I he hf (wpAny_mono h (fun v s' hv => ?_) fun _ _ e => e))
    obtain ⟨r, rfl, hq⟩ := hv
    refine wpAny_bind (m := truthy (.bool r)) (wpAny_truthy_bool ?_)
    exact wpAny_pure ⟨_, rfl, hq⟩
  have fin : wpAny (model prog w) A (call (.builtin "object.__ne__") ([.ref x] ++ [b]) >>= fun v => pure (some v)) (fun v s' => ∃ r : Bool, v = some (.bool r) ∧ Q (.bool r) s') E s :=
    wpAny_bind (wpAny_mono key (fun v s' ⟨r, e, q⟩ => wpAny_pure (by subst e; exact ⟨r, rfl, q⟩)) fun _ _ h' => h')
  refine wpAny_bind (m := callSpecialIfBound? (.ref x) "__ne__" [b]) (wpAny_mono (Q := fun v s' => ∃ r : Bool, v = some (.bool r) ∧ Q (.bool r) s') ?_ (fun v s' ⟨r, e, q⟩ => ?_) fun _ _ e => e)
  · simp only [callSpecialIfBound?, bindSpecialIfBound?]
    refine wpAny_holding (wpAny_bind (wpAny_bind (wpAny_bind (I.type.here ((looks_findIn X hne).here ?_)))))
    dsimp only
    rw [F.cmp_object.ne.bind]
    refine wpAny_bind (wpAny_askSetting (wpAny_ite ?_))
    split
    · exact wpAny_bind (wpAny_pure (wpAny_pure fin))
    · exact wpAny_tryCatch (wpAny_bind (wpAny_pure (wpAny_pure fin)))
  · subst e
    exact wpAny_pure ⟨_, rfl, q⟩
theorem ne_K {Q : Value → Shared → Prop} (hu : A.units + 1 < cLine) (F : Fr h₀ L s.heap m) (X₀ : K.In h₀) (I : InstAt s.heap x ox C od) (hb : Looks (model prog w) s.heap (typeOf b) tb) (hn : notFirst K C tb = true)
    (he : findIn K (.ref C) "__eq__" = some (some (.ref f))) (hne : findIn K (.ref C) "__ne__" = some (some (.builtin "object.__ne__"))) (hm : mroIn K C (.type "object") = some true) (hf : isFn K (.ref f) = true)
    (h : wpAny (model prog w) A.in1 (call (.ref f) [.ref x, b]) (fun v s' => ∃ r, v = .bool r ∧ Q (.bool (!r)) s') E s) : wpAny (model prog w) A (richCompare .NotEq (.ref x) b) Q E s := by
  have X := X₀.keeps F.keep
  have one := ne_try (Q := Q) hu X I he hne hm hf h
  unfold richCompare
  simp only [oneThing_ref]
  refine wpAny_holding (wpAny_bind (wpAny_cRoomFor (Nat.lt_of_succ_lt hu) ?_))
  rw [cmpInfo_NotEq]
  dsimp only
  refine wpAny_bind (I.type.here (wpAny_bind (hb.here ?_)))
  split
  · rename_i q
    have e : subIn K tb (.ref C) = some false := by
      rcases Bool.or_eq_true_iff.mp hn with e | e
      · rw [beq_iff_eq.mp e] at q; simp at q
      · exact beq_iff_eq.mp e
    refine wpAny_bind ((looks_subIn X e).here ?_)
    simp only [Bool.false_eq_true, if_false]
    refine wpAny_bind (wpAny_mono one (fun r s' z => ?_) fun _ _ e => e)
    obtain ⟨v, rfl, hq⟩ := z
    exact wpAny_pure hq
  · refine wpAny_bind (wpAny_pure ?_)
    simp only [Bool.false_eq_true, if_false]
    refine wpAny_bind (wpAny_mono one (fun r s' z => ?_) fun _ _ e => e)
    obtain ⟨v, rfl, hq⟩ := z
    exact wpAny_pure hq
theorem neg_K {Q : Value → Shared → Prop} (X : K.In s.heap) (I : InstAt s.heap x ox C od) (hs : findIn K (.ref C) "__neg__" = some (some (.ref f))) (hf : isFn K (.ref f) = true)
    (h : wpAny (model prog w) A (call (.ref f) [.ref x]) Q E s) : wpAny (model prog w) A (unaryOp .USub (.ref x)) Q E s := by
  unfold unaryOp
  refine wpAny_holding ?_
  refine PySem.W.KFB.if_not (by rfl) ?_
  refine wpAny_bind (special_fn X I hs (beq_iff_eq.mp hf) (wpAny_mono h (fun v s' hv => ?_) fun _ _ e => e))
  exact wpAny_pure hv
theorem bool_own {Q : Value → Shared → Prop} (F : Fr h₀ L s.heap m) (X₀ : K.In h₀) (I : InstAt s.heap x ox C od) (hs : findIn K (.ref C) "__bool__" = some (some (.ref f))) (hf : isFn K (.ref f) = true)
    (h : wpAny (model prog w) A.in1.in1 (call (.ref f) [.ref x]) (fun r s₁ => ∃ b, r = Value.bool b ∧ Q r s₁) E s) : wpAny (model prog w) A (call (.type "bool") [.ref x]) Q E s := by
  refine callType_codes (T := "bool") (Bi := Builtin.«object.__init__») (Q₁ := fun r s₁ => ∃ b, r = Value.bool b ∧ Q r s₁) PySem.F.called_bool (PySem.F.typeCall_bool_1 _) PySem.F.entry_object_init ?_ ?_
  · refine codeAny_of_tree ?_
    show wpAny _ A.in1.in1 (do checkBuiltinCall "bool.__new__" ⟨[.type "bool", .ref x], []⟩; again (.builtin "bool.__new__" ⟨[.type "bool", .ref x], []⟩)) _ _ s
    refine wpAny_bind (wpAny_of_eq (PySem.F.newCall_bool_1 _) (wpAny_pure ⟨plainId_quiet (by decide +kernel) _, codeAny_builtin PySem.F.entry_bool_new ?_⟩))
    rw [Around.under_plainId (by decide +kernel) _]
    have h' : wpAny (model prog w) A.in1.in1 (truthy (.ref x)) (fun b s₁ => Q (.bool b) s₁) E s := truthy_K F X₀ I hs hf (wpAny_mono h (fun r s₁ hr => by
      obtain ⟨b, rfl, hq⟩ := hr
      exact hq) fun _ _ y => y)
    have f1 := PySem.F.conv_sub_bool
    unfold Builtin.«bool.__new__»
    repeat (any_goals (first | assumption | with_reducible refine wpAny_mono h' (fun b s₁ hq => ?_) (fun _ _ y => y) | wp_step))
    all_goals first | exact ⟨_, rfl, hq⟩ | exact ⟨_, rfl, _, rfl, hq⟩ | skip
  · rintro obj s₁ ⟨n, rfl, hq⟩
    exact ⟨PySem.typeIs_bool _ _, PySem.F.args_object_init_2 _ _, object_init_meets PySem.F.called_bool.init.lookup PySem.F.called_bool.made (by decide) prog w A.in1 _ s₁ ⟨PySem.typeIs_bool _ _, rfl, hq⟩⟩
end

/-! ### an own method, called on an instance -/
section
variable {T : Tb} {cf : Cf} {k : Nat} {CX : CXT} {X : Cx} {M : Mp} {R R' : Sto} {P : Ps} {F H : Hp} {rv : Rv} {x y : D}
/-- whatever the values do -/
def WO (X : Cx) (f : Value → Value → Sem Value) : R2 := fun x y H Q => ∀ (pins : List (Addr × Obj)) (s : Shared) (σ : L2.St) (v u : Value), Inv X pins σ H s → RelV x v → RelV y u → wpAny (model X.prog X.w) X.A (f v u) (EP X pins σ Q) X.xe s
theorem opr_w {f : Value → Value → Sem Value} : OpR X f (WO X f) := fun pins s σ H x y v u Q I rx ry h => h pins s σ v u I rx ry
def WC (X : Cx) (f : Value) : List V → Hp → VK → Prop := fun vs H Q => ∀ (pins : List (Addr × Obj)) (s : Shared) (σ : L2.St) (us : List Value), Inv X pins σ H s → Vals vs us → wpAny (model X.prog X.w) X.A (call f us) (EP X pins σ Q) X.xe s
theorem callr_w {f : Value} : CallR X f (WC X f) := fun pins s σ H xs us Q I r h => h pins s σ us I r
theorem wc_of {f : Value} {r : List V → Hp → VK → Prop} (h : CallR X f r) {vs : List V} {Q : VK} (q : r vs H Q) : WC X f vs H Q := fun pins s σ us I ru => h pins s σ H vs us Q I ru q
def WU (X : Cx) (f : Value → Sem Value) : V → Hp → VK → Prop := fun x H Q => ∀ (pins : List (Addr × Obj)) (s : Shared) (σ : L2.St) (v : Value), Inv X pins σ H s → RelV x v → wpAny (model X.prog X.w) X.A (f v) (EP X pins σ Q) X.xe s
theorem unr_w {f : Value → Sem Value} : UnR X f (WU X f) := fun pins s σ H x v Q I rx h => h pins s σ v I rx
theorem WO.mono {f : Value → Value → Sem Value} {vx vy : V} {Q Q' : VK} (h : WO X f vx vy H Q) (k : ∀ v H', Q v H' → Q' v H') : WO X f vx vy H Q' := fun pins s σ v u I rx ry => thn (h pins s σ v u I rx ry) fun _ _ ⟨v, H', I', r, q⟩ => ⟨v, H', I', r, k v H' q⟩
/-- an own method of an instance -/
structure OwnM (X : Cx) (CX : CXT) (k : Nat) (cf : Cf) (c m g : Nat) (C a : Addr) : Prop where
  cls : ClsA X.K c C
  mt : Meth X.K C (nmN m) a
  fn : FnR X.prog X.w X.K X.mg X.base CX k a (spC X.K cf g)
theorem own_of (fa : Facts T cf CX k X) {m c : Nat} {ns : List Nat} {ds r : List D} (hm : 65536 ≤ m) (q : cf (2 * m) (.obj c ns ds :: r) R = .ok rv R') {v : V} (hv : Vr X.K M F (.obj c ns ds) v) (hr : Rel X.K M R P F H) :
    ∃ g C a b dx vs, v = .ref b ∧ SlX.Slt H b C dx vs ∧ OwnM X CX k cf c m g C a ∧ cf g (.obj c ns ds :: r) R = .ok rv R' := by
  obtain ⟨d, r', c', g, e, hc, hg, q'⟩ := fa.dm m _ R rv R' hm q
  cases e
  cases hc
  obtain ⟨b, C, dx, vs, us, rfl, h1, h2, h3, h4⟩ := hv.obj
  obtain ⟨a, h5, h6⟩ := fa.me c m g hg C h1
  exact ⟨g, C, a, b, dx, vs, rfl, (hr.ex.slo h2).slt, ⟨h1, h5, h6⟩, q'⟩
/-- its promise -/
theorem own_sp {g : Nat} {ds : List D} {vs : List V} {Q : VK} {E : XK} (q : cf g ds R = .ok rv R') (hv : VrL X.K M F ds vs) (hr : Rel X.K M R P F H) (p : Pst X.K M P F rv R' Q) : spC X.K cf g vs H Q E :=
  ⟨ds, M, R, P, F, rv, R', q, hv, hr, p⟩
theorem passN (ok : Okx CX k X) : ∀ Y : Cx, Y.prog = X.prog → Y.w = X.w → Passes CX Y E0 := ok.pass
theorem binopX_ok (ok : Okx CX k X) (fa : Facts T cf CX k X) {o : Operator} (h : binopX cf o x y R = .ok rv R') : OpS X (binaryOp o) x y R rv R' := by
  cases x with
  | obj c ns ds =>
    cases y with
    | obj c' ns' ds' =>
      simp only [binopX] at h
      split at h
      · rename_i hcc
        subst hcc
        cases ho' : opId o with
        | none => rw [ho'] at h; cases h
        | some m =>
          rw [ho'] at h
          dsimp only at h
          refine ⟨_, opr_w, fun M P F H vx vy Q r hx hy p => ?_⟩
          have ho : 65536 ≤ m ∧ nmN m = dunder o.info.2 := by
            cases o <;> first | cases ho'; exact ⟨by decide, by decide +kernel⟩ | cases ho'
          obtain ⟨g, C, a, b, dx, vs, rfl, hsl, O, q'⟩ := own_of fa ho.1 h hx r
          obtain ⟨b', C', dx', vs', us', rfl, h1', h2', h3', h4'⟩ := hy.obj
          have hCC := O.cls.one h1'
          subst hCC
          intro pins s σ v u I rx ry
          obtain rfl : v = Value.ref b := rx
          obtain rfl : u = Value.ref b' := ry
          obtain ⟨sl, od, _, J, _⟩ := SlX.slt_inst I hsl
          obtain ⟨sl', od', _, J', _⟩ := SlX.slt_inst I (r.ex.slo h2').slt
          obtain ⟨mm, hF⟩ := I.fr
          have hat := O.mt.at_
          rw [ho.2] at hat
          refine PySem.W.binop_K hF I.ok.mod.kin J J'.type O.cls.sf hat O.mt.fn ?_
          refine wpAny_mono (wpAny_call (run_fnR (us := [.ref b, .ref b']) (vs := [.ref b, .ref b']) O.fn (ok.room.mono (by omega)) (ok.pass X rfl rfl) I (.cons rfl (.cons rfl .nil)) (own_sp q' (.cons hx (.cons hy .nil)) r p))) (fun w s' z => ?_) fun _ _ x => x
          obtain ⟨z', H', I', rz, qz⟩ := z
          exact SlX.cmpback rz ⟨z', H', I', rz, qz⟩
      · cases h
    | _ => cases h
  | _ => exact binop_ok h
/-- -x -/
theorem negX_ok (ok : Okx CX k X) (fa : Facts T cf CX k X) (h : negX cf x R = .ok rv R') : ∀ (M : Mp) (P : Ps) (F H : Hp) (vx : V) (Q : VK), Rel X.K M R P F H → Vr X.K M F x vx → Pst X.K M P F rv R' Q →
    ∀ (pins : List (Addr × Obj)) (s : Shared) (σ : L2.St) (v : Value), Inv X pins σ H s → RelV vx v → wpAny (model X.prog X.w) X.A (unaryOp .USub v) (EP X pins σ Q) X.xe s := by
  intro M P F H vx Q r hx p pins s σ v I rx
  cases x with
  | int i =>
    simp only [negX] at h
    cases h
    exact un_neg pins s σ H vx v Q I rx ⟨i, hx.int, p.val r (.int _)⟩
  | obj c ns ds =>
    simp only [negX] at h
    obtain ⟨g, C, a, b, dx, vs, rfl, hsl, O, q'⟩ := own_of fa (by decide) h hx r
    obtain rfl : v = Value.ref b := rx
    obtain ⟨sl, od, _, J, _⟩ := SlX.slt_inst I hsl
    have hat := O.mt.at_
    rw [show nmN mNeg = "__neg__" by decide +kernel] at hat
    exact neg_K I.kIn J hat O.mt.fn (wpAny_call (run_fnR (us := [.ref b]) (vs := [.ref b]) O.fn (ok.room.mono (by omega)) (ok.pass X rfl rfl) I (.cons rfl .nil) (own_sp q' (.cons hx .nil) r p)))
  | _ => cases h
def isTyV : Value → Bool
  | .type _ => true
  | _ => false
theorem sub_ty {C : Addr} {t : String} (h : ((fastBuiltinMro t).any fun l => l.all isTyV) = true) : PySem.W.subIn X.K (.type t) (.ref C) = some false := by
  unfold PySem.W.subIn
  cases e : fastBuiltinMro t with
  | none => rw [e] at h; cases h
  | some l =>
    rw [e] at h
    have h : l.all isTyV = true := h
    show (fastBuiltinMro t).map (fun x => x.contains (.ref C)) = some false
    rw [e]
    show some (l.contains (.ref C)) = some false
    congr 1
    rw [Bool.eq_false_iff]
    intro z
    have := List.all_eq_true.mp h _ (List.contains_iff_mem.mp z)
    cases this
theorem sub_own {c : Nat} {C D : Addr} (h : ClsA X.K c C) : PySem.W.subIn X.K (.ref C) (.ref D) = some (decide (D = C)) := by
  obtain ⟨cd, h1, h2, _⟩ := h.mro
  show PySem.W.mroIn X.K C (.ref D) = _
  unfold PySem.W.mroIn
  rw [h1, Option.bind_some, h2]
  by_cases e : D = C
  · subst e
    simp
  · rw [decide_eq_false e]
    simp [e]
def tyNms : List String := ["NoneType", "bool", "int", "str", "tuple", "list", "dict"]
theorem sub_nm {C : Addr} {t : String} (ht : t ∈ tyNms) : PySem.W.subIn X.K (.type t) (.ref C) = some false := by
  simp only [tyNms, List.mem_cons, List.not_mem_nil, or_false] at ht
  refine sub_ty ?_
  rcases ht with rfl | rfl | rfl | rfl | rfl | rfl | rfl <;> decide +kernel
/-- the type of what may stand right of an own == -/
theorem eqArg_ty {D : Addr} (hy : eqArg y = true) {v : V} {u : Value} {pins : List (Addr × Obj)} {s : Shared} {σ : L2.St} (hv : Vr X.K M F y v) (r : Rel X.K M R P F H) (I : Inv X pins σ H s) (ru : RelV v u) :
    ∃ tb, PySem.W.Looks (model X.prog X.w) s.heap (typeOf u) tb ∧ PySem.W.notFirst X.K D tb = true := by
  have bt : ∀ t : String, t ∈ tyNms → PySem.W.notFirst X.K D (.type t) = true := fun t ht => by
    unfold PySem.W.notFirst
    rw [sub_nm ht]
    simp
  have ty : ∀ {t : String}, TyX X.K H v (.type t) → t ∈ tyNms → ∃ tb, PySem.W.Looks (model X.prog X.w) s.heap (typeOf u) tb ∧ PySem.W.notFirst X.K D tb = true := fun {t} h ht => by
    obtain ⟨Pp, Z, pp, _⟩ := kit_of I ru h
    exact ⟨_, Z.ty _ _ I.kIn pp, bt t ht⟩
  cases y with
  | non => cases hv.non; exact ty (.base .non) (by decide)
  | bl b => cases hv.bl; exact ty (.base (.bl _)) (by decide)
  | int i => cases hv.int; exact ty (.base (.int _)) (by decide)
  | str x => cases hv.str; exact ty (.base (.str _)) (by decide)
  | tup ds =>
    obtain ⟨a, vs, rfl, h1, h2⟩ := hv.tup
    rcases r.ex.sqT h1 with (h | ⟨o, h⟩) | ⟨o, its, n, h, hc, _⟩
    · exact ty (.base (.tup h)) (by decide)
    · exact ty (.fTuple h) (by decide)
    · exact ty (.kTuple h hc) (by decide)
  | ktp ds =>
    obtain ⟨a, vs, rfl, h1, h2⟩ := hv.ktp
    rcases r.ex.sqT h1 with (h | ⟨o, h⟩) | ⟨o, its, n, h, hc, _⟩
    · exact ty (.base (.tup h)) (by decide)
    · exact ty (.fTuple h) (by decide)
    · exact ty (.kTuple h hc) (by decide)
  | lst ds =>
    obtain ⟨a, vs, rfl, h1, h2⟩ := hv.lst
    exact ty (.base (.lst (r.ex _ _ h1))) (by decide)
  | scr ds => cases hy
  | dct ks ds =>
    obtain ⟨a, vs, rfl, h1, h2⟩ := hv.dct
    exact ty (.base (.dK (r.ex _ _ h1))) (by decide)
  | dcT ks ds =>
    obtain ⟨a, vs, rfl, h1, h2⟩ := hv.dcT
    exact ty (.base (.dT (r.ex _ _ h1))) (by decide)
  | obj c ns ds =>
    obtain ⟨a, C, dx, vs, us, rfl, h1, h2, h3, h4⟩ := hv.obj
    obtain rfl : u = Value.ref a := ru
    obtain ⟨sl, od, _, J, _⟩ := SlX.slt_inst I (r.ex.slo h2).slt
    refine ⟨_, J.type, ?_⟩
    unfold PySem.W.notFirst
    rw [sub_own h1]
    by_cases e : D = C
    · subst e
      simp
    · simp [e]
  | ref _ _ => cases hy
theorem keyD_v {d : D} {v : V} {kk : Key} (h : keyD d = some kk) (hv : Vr X.K M F d v) : v = kV kk := by
  cases d with
  | int i => cases h; exact hv.int
  | str x => cases h; exact hv.str
  | _ => cases h
theorem keysD_v : ∀ {ds : List D} {vs : List V} {kk : List Key}, keysD ds = some kk → DenL X.K F ds vs → vs = kk.map kV
  | [], _, _, h, .nil => by cases h; rfl
  | d :: ds, _, kk, h, .cons hd ht => by
    simp only [keysD] at h
    cases z1 : keyD d with
    | none => rw [z1] at h; cases h
    | some k1 =>
      cases z2 : keysD ds with
      | none => rw [z1, z2] at h; cases h
      | some k2 =>
        rw [z1, z2] at h
        cases h
        rw [keyD_v (M := fun _ _ => 0) z1 (.inr hd), keysD_v z2 ht]
        rfl
/-- what is held, and what its denotation holds -/
def OptD (K : PySem.W.Frag) (F : Hp) : Option D → Option V → Prop
  | some d, some v => Den K F d v
  | none, none => True
  | _, _ => False
theorem lookK_v {α : Type} [DecidableEq α] {K : PySem.W.Frag} {F : Hp} (kk : α) : ∀ {kvs : List (α × V)} {ds : List D}, DenL K F ds (kvs.map (·.2)) → OptD K F (lookK (kvs.map (·.1)) ds kk) (valV kvs kk)
  | [], _, .nil => trivial
  | (k1, v) :: kvs, _, .cons h t => by
    simp only [List.map_cons, lookK]
    by_cases e : k1 = kk
    · rw [if_pos e, valV_pos (p := (k1, v)) e]
      exact h
    · rw [if_neg e, valV_neg (p := (k1, v)) e]
      exact lookK_v kk t
theorem dctGet_ok {k' : D} {o : Option D} {vx vk : V} (r : Rel X.K M R P F H) (hx : Vr X.K M F x vx) (hk : Vr X.K M F k' vk) (h : dctGet R x k' = some o) : ∃ a ov, vx = .ref a ∧ DGet H a vk ov ∧ OptD X.K F o ov := by
  have one : ∀ {ks : List Key} {ds : List D} {a : Addr} {kvs : List (Key × V)}, vx = .ref a → H a = some (.dK kvs) → kvs.map (·.1) = ks → DenL X.K F ds (kvs.map (·.2)) → (keyD k').map (fun k => lookK ks ds k) = some o → ∃ a ov, vx = .ref a ∧ DGet H a vk ov ∧ OptD X.K F o ov := by
    intro ks ds a kvs e h1 h2 h3 h
    cases z : keyD k' with
    | none => rw [z] at h; cases h
    | some kk =>
      rw [z] at h
      cases h
      refine ⟨a, valV kvs kk, e, ?_, ?_⟩
      · rw [keyD_v z hk]
        exact DGet.k h1
      · subst h2
        exact lookK_v kk h3
  have two : ∀ {ks : List (List Key)} {ds : List D} {a : Addr} {kvs : List (List Key × V)}, vx = .ref a → H a = some (.dT kvs) → kvs.map (·.1) = ks → DenL X.K F ds (kvs.map (·.2)) → (match k' with
    | .tup es => (keysD es).map fun k => lookK ks ds k
    | _ => none) = some o → ∃ a ov, vx = .ref a ∧ DGet H a vk ov ∧ OptD X.K F o ov := by
    intro ks ds a kvs e h1 h2 h3 h
    cases k' with
    | tup es =>
      dsimp only at h
      cases z : keysD es with
      | none => rw [z] at h; cases h
      | some kk =>
        rw [z] at h
        cases h
        obtain ⟨b, us, rfl, g1, g2⟩ := hk.tupF
        refine ⟨a, valV kvs kk, e, ?_, ?_⟩
        · rw [keysD_v z g2] at g1
          exact DGet.t h1 (r.ex _ _ g1)
        · subst h2
          exact lookK_v kk h3
    | _ => cases h
  cases x with
  | dct ks ds =>
    obtain ⟨a, kvs, rfl, h1, h2, h3⟩ := hx.dct
    exact one rfl (r.ex _ _ h1) h2 h3 h
  | dcT ks ds =>
    obtain ⟨a, kvs, rfl, h1, h2, h3⟩ := hx.dcT
    exact two rfl (r.ex _ _ h1) h2 h3 h
  | ref j i =>
    have := hx.ref
    subst this
    cases hs : sget R j i with
    | none => simp only [dctGet, derefs, hs] at h; cases h
    | some u =>
      have ho := r.ob j i u hs
      cases u with
      | dct ks ds =>
        simp only [dctGet, derefs, hs, fzO] at h
        obtain ⟨_, kvs, h1, h2, h3⟩ := ho
        exact one rfl h1 h2 h3 h
      | dcT ks ds =>
        simp only [dctGet, derefs, hs, fzO] at h
        obtain ⟨_, kvs, h1, h2, h3⟩ := ho
        exact two rfl h1 h2 h3 h
      | frz d =>
        cases d with
        | dct ks ds =>
          simp only [dctGet, derefs, hs, fzO] at h
          have ho : Den X.K F (.dct ks ds) (.ref (M j i)) := ho
          cases ho with
          | dct h1 h2 h3 => exact one rfl (r.ex _ _ h1) h2 h3 h
        | dcT ks ds =>
          simp only [dctGet, derefs, hs, fzO] at h
          have ho : Den X.K F (.dcT ks ds) (.ref (M j i)) := ho
          cases ho with
          | dcT h1 h2 h3 => exact two rfl (r.ex _ _ h1) h2 h3 h
        | _ => simp only [dctGet, derefs, hs, fzO] at h; cases h
      | _ => simp only [dctGet, derefs, hs, fzO] at h; cases h
  | _ => simp only [dctGet, derefs] at h; cases h
theorem units1 (ok : Okx CX k X) : X.A.units + 1 < cLine := Nat.lt_of_le_of_lt (Nat.add_le_add_left (by decide : 1 ≤ 64) _) ok.room.units
/-- d[k], xs[i] -/
theorem subX_ok (ok : Okx CX k X) {d : D} (h : subX x y R = some d) : IxS X x y R (.val d) R := by
  unfold subX at h
  split at h
  · rename_i o hd
    subst h
    refine ⟨fun x y H Q => ∃ a v, x = .ref a ∧ DGet H a y (some v) ∧ Q v H, fun value slice pins s σ H x y v u Q I rx ry h hs => ?_, fun M P F H vx vy Q r hx hy p => ?_⟩
    · obtain ⟨a, v', rfl, g, q⟩ := h
      obtain rfl : v = Value.ref a := rx
      exact tail_any (dict_typeIs I g) PySem.F.slot_dict_getitem.lookup (d_getItem (units1 ok) I g ry fun w' s3 I3 rw' => ⟨v', H, I3, rw', q⟩) hs
    · obtain ⟨a, ov, rfl, g, ho⟩ := dctGet_ok r hx hy hd
      cases ov with
      | none => exact ho.elim
      | some v => exact ⟨a, v, rfl, g, p.val r ho⟩
  · exact subOp_ok h
theorem cmpY_ok (ok : Okx CX k X) {o : CmpOp} {b : Bool} (h : cmpY o x y R = some b) : OpS X (compareOp o) x y R (.val (.bl b)) R := by
  unfold cmpY at h
  split at h
  · split at h
    · rename_i r hd
      cases h
      refine ⟨fun x y H Q => ∃ a ov, y = .ref a ∧ DGet H a x ov ∧ Q (.bl ov.isSome) H, fun pins s σ H x y v u Q I rx ry h => ?_, fun M P F H vx vy Q r' hx hy p => ?_⟩
      · obtain ⟨a, ov, rfl, g, q⟩ := h
        obtain rfl : u = Value.ref a := ry
        exact d_in (units1 ok) I g rx fun s3 I3 => ⟨.bl ov.isSome, H, I3, rfl, q⟩
      · obtain ⟨a, ov, rfl, g, ho⟩ := dctGet_ok r' hy hx hd
        refine ⟨a, ov, rfl, g, ?_⟩
        have e : ov.isSome = r.isSome := by cases ov <;> cases r <;> first | rfl | exact ho.elim
        rw [e]
        exact p.val r' (.bl _)
    · exact cmpop_ok ok.room.units h
  · split at h
    · rename_i r hd
      cases h
      refine ⟨fun x y H Q => ∃ a ov, y = .ref a ∧ DGet H a x ov ∧ Q (.bl (!ov.isSome)) H, fun pins s σ H x y v u Q I rx ry h => ?_, fun M P F H vx vy Q r' hx hy p => ?_⟩
      · obtain ⟨a, ov, rfl, g, q⟩ := h
        obtain rfl : u = Value.ref a := ry
        exact d_notIn (units1 ok) I g rx fun s3 I3 => ⟨.bl (!ov.isSome), H, I3, rfl, q⟩
      · obtain ⟨a, ov, rfl, g, ho⟩ := dctGet_ok r' hy hx hd
        refine ⟨a, ov, rfl, g, ?_⟩
        have e : ov.isSome = r.isSome := by cases ov <;> cases r <;> first | rfl | exact ho.elim
        rw [e]
        exact p.val r' (.bl _)
    · exact cmpop_ok ok.room.units h
  · exact cmpop_ok ok.room.units h
/-- x == y, x != y -/
theorem cmpX_ok (ok : Okx CX k X) (fa : Facts T cf CX k X) {o : CmpOp} (h : cmpX cf o x y R = .ok rv R') : ∃ b, rv = .val (.bl b) ∧ OpS X (compareOp o) x y R rv R' := by
  cases x with
  | obj c ns ds =>
    simp only [cmpX] at h
    split at h
    · rename_i hy
      cases o with
      | Eq =>
        dsimp only at h
        split at h
        · rename_i b R1 q
          cases h
          refine ⟨b, rfl, _, opr_w, fun M P F H vx vy Q r hx hy' p => ?_⟩
          obtain ⟨g, C, a, bb, dx, vs, rfl, hsl, O, q'⟩ := own_of fa (by decide) q hx r
          intro pins s σ v u I rx ry
          obtain rfl : v = Value.ref bb := rx
          obtain ⟨sl, od, _, J, _⟩ := SlX.slt_inst I hsl
          obtain ⟨mm, hF⟩ := I.fr
          obtain ⟨tb, hb, hn⟩ := eqArg_ty (D := C) hy hy' r I ry
          have hat := O.mt.at_
          rw [show nmN mEq = (cmpInfo .Eq).2.1 by decide +kernel] at hat
          refine PySem.W.cmp_K (op := .Eq) ok.room.units0 hF I.ok.mod.kin J hb hn hat O.mt.fn ?_
          refine wpAny_mono (wpAny_call (run_fnR (us := [.ref bb, u]) (vs := [.ref bb, vy]) O.fn (ok.room.mono (by omega)) (ok.pass X rfl rfl) I (.cons rfl (.cons ry .nil)) (own_sp q' (.cons hx (.cons hy' .nil)) r p))) (fun w s' z => ?_) fun _ _ x => x
          obtain ⟨z', H', I', rz, qz⟩ := z
          exact SlX.cmpback rz ⟨z', H', I', rz, qz⟩
        · cases h
      | NotEq =>
        dsimp only at h
        split at h
        · rename_i b R1 q
          cases h
          refine ⟨!b, rfl, _, opr_w, fun M P F H vx vy Q r hx hy' p => ?_⟩
          obtain ⟨g, C, a, bb, dx, vs, rfl, hsl, O, q'⟩ := own_of fa (by decide) q hx r
          intro pins s σ v u I rx ry
          obtain rfl : v = Value.ref bb := rx
          obtain ⟨sl, od, _, J, _⟩ := SlX.slt_inst I hsl
          obtain ⟨mm, hF⟩ := I.fr
          obtain ⟨tb, hb, hn⟩ := eqArg_ty (D := C) hy hy' r I ry
          have hat := O.mt.at_
          rw [show nmN mEq = "__eq__" by decide +kernel] at hat
          have hr1 : Room (k + 2) X.A.in1 := Room.in1 ok.room
          refine ne_K hr1.units0 hF I.ok.mod.kin J hb hn hat O.cls.ne O.cls.si.cm O.mt.fn ?_
          have p' : Pst X.K M P F (.val (.bl b)) R' (fun v H' => v = .bl b ∧ Q (.bl (!b)) H') := fun v F' H' e r' hv => ⟨Vr.bl hv, p _ F' H' e r' (.inr (.bl _))⟩
          refine wpAny_mono (wpAny_call (SlX.run_at (us := [.ref bb, u]) (ws := [.ref bb, vy]) O.fn (hr1.mono (by omega)) I.env0.in1 (ok.pass X rfl rfl) I (.cons rfl (.cons ry .nil)) (own_sp q' (.cons hx (.cons hy' .nil)) r p'))) (fun w s' z => ?_) fun _ _ x => x
          obtain ⟨z', H', I', rz, rfl, qz⟩ := z
          cases rz
          exact ⟨b, rfl, .bl (!b), H', I', rfl, qz⟩
        · cases h
      | _ => cases h
    · cases h
  | _ =>
    obtain ⟨b, q, rfl, rfl⟩ := liftO_ok h
    exact ⟨b, rfl, cmpY_ok ok q⟩
/-- a built-in function -/
theorem bltX_ok (ok : Okx CX k X) (fa : Facts T cf CX k X) {b : Bk} {ds : List D} (h : bltX cf b ds R = .ok rv R') : CallS X b.val ds R rv R' := by
  unfold bltX at h
  split at h
  · rename_i c ns es
    cases b with
    | bool1 =>
      dsimp only at h
      split at h
      · rename_i bb R1 q
        cases h
        refine ⟨fun vs H Q => ∀ (pins : List (Addr × Obj)) (s : Shared) (σ : L2.St) (us : List Value), Inv X pins σ H s → Vals vs us → wpAny (model X.prog X.w) X.A (call (.type "bool") us) (EP X pins σ Q) X.xe s,
          fun pins s σ H xs us Q I r h => h pins s σ us I r, fun M P F H vs Q r hv p => ?_⟩
        obtain ⟨v, rfl, hv1⟩ := hv.one
        obtain ⟨g, C, a, b', dx, vs, rfl, hsl, O, q'⟩ := own_of fa (by decide) q hv1 r
        intro pins s σ us I rus
        obtain rfl := Vals.ref1 rus
        obtain ⟨sl, od, _, J, _⟩ := SlX.slt_inst I hsl
        obtain ⟨mm, hF⟩ := I.fr
        have hat := O.mt.at_
        rw [show nmN mBool = "__bool__" by decide +kernel] at hat
        have hr1 : Room (k + 1) X.A.in1.in1 := Room.in1 (Room.in1 ok.room)
        refine bool_own hF I.ok.mod.kin J hat O.mt.fn ?_
        have p' : Pst X.K M P F (.val (.bl bb)) R' (fun v H' => v = .bl bb ∧ Q (.bl bb) H') := fun v F' H' e r' hv => ⟨Vr.bl hv, p _ F' H' e r' (.inr (.bl _))⟩
        refine wpAny_mono (wpAny_call (SlX.run_at (us := [.ref b']) (ws := [.ref b']) O.fn (hr1.mono (by omega)) I.env0.in1.in1 (ok.pass X rfl rfl) I (.cons rfl .nil) (own_sp q' (.cons hv1 .nil) r p'))) (fun w s' z => ?_) fun _ _ x => x
        obtain ⟨z', H', I', rz, rfl, qz⟩ := z
        cases rz
        exact ⟨bb, rfl, .bl bb, H', I', rfl, qz⟩
      · cases h
    | _ => cases h
  · exact bltop_ok ok.calm h
end
end EV

/-! EvG: what a code gives, the text's expression gives. -/
namespace EV
open PySem PySem.Spec PyProof.Rows L2

def SV (X : Cx) (cf : Cf) (lf : Nat) (c : C) (e : Expr) : Prop := ∀ (σD : List (Option D)) (R R' : Sto) (M : Mp) (P : Ps) (F : Hp) (σ : L2.St) (H : Hp) (rv : Rv), Rel X.K M R P F H → ER X.K M F σD σ → ev cf lf c σD R = .ok rv R' → (∀ ds, rv ≠ .many ds) → WE X e σ H (PV X M R' P F rv)
def SA (X : Cx) (cf : Cf) (lf : Nat) (c : C) (es : List Expr) : Prop := ∀ (σD : List (Option D)) (R R' : Sto) (M : Mp) (P : Ps) (F : Hp) (σ : L2.St) (H : Hp) (ds : List D), Rel X.K M R P F H → ER X.K M F σD σ → ev cf lf c σD R = .ok (.many ds) R' → WA X es σ H (PL X M R' P F ds)
def ST (X : Cx) (cf : Cf) (lf : Nat) (c : C) (e : Expr) : Prop := ∀ (σD : List (Option D)) (R R' : Sto) (M : Mp) (P : Ps) (F : Hp) (σ : L2.St) (H : Hp) (rv : Rv) (b : Bool), Rel X.K M R P F H → ER X.K M F σD σ → ev cf lf c σD R = .ok rv R' → (∀ ds, rv ≠ .many ds) → truth R' (fz rv) = some b → WT X e σ H (PB X M R' P F b)

section
variable {T : Tb} {cf : Cf} {lf k : Nat} {CX : CXT} {X : Cx} {c : C} {e : Expr} {es : List Expr} {σD : List (Option D)} {R R' : Sto} {M : Mp} {P : Ps} {F : Hp} {σ : L2.St} {H : Hp} {rv : Rv}
theorem SV.d (h : SV X cf lf c e) (r : Rel X.K M R P F H) (er : ER X.K M F σD σ) (q : ev cf lf c σD R = .ok rv R') (hm : ∀ ds, rv ≠ .many ds) : WE X e σ H (PD X M R' P F (fz rv)) :=
  we_mono (h σD R R' M P F σ H rv r er q hm) fun v H' ⟨F', e1, r1, v1⟩ => by
    obtain ⟨G, g1, g2, g3⟩ := r1.fz v1
    exact ⟨G, e1.trans g1, g2, g3⟩
/-- a test of an expression whose value is tested -/
theorem SV.t (h : SV X cf lf c e) (hp : plainT e = true) : ST X cf lf c e := fun σD R R' M P F σ H rv b r er q hm ht => by
  refine wt_of (pt_truth pe_w (plainT_of hp)) ?_
  refine we_mono (h.d r er q hm) fun v H' ⟨F', e1, r1, v1⟩ => ?_
  exact ⟨b, r1.truth v1 ht, rfl, F', e1, r1⟩
theorem gl_of {x : Str} (h : glB X.env.scope x = true) : Gl X x ∧ (x == ("__debug__" : Str)) = false ∧ x ≠ "__name__" := by
  unfold glB at h
  split at h
  · rename_i hl
    rw [Bool.and_eq_true] at h
    obtain ⟨h1, h2⟩ := h
    refine ⟨hl, ?_, ?_⟩
    · cases q : (x == ("__debug__" : Str)) with
      | false => rfl
      | true => rw [q] at h1; cases h1
    · intro z
      rw [decide_eq_true z] at h2
      cases h2
  · cases h
theorem vis_of {sc : Scope} {x : Str} (h : visB sc x = true) : Vis sc x := by
  unfold visB at h
  split at h
  · rename_i hl; exact .inl hl
  · rename_i hl; exact .inr (.inl hl)
  · rename_i hl; exact .inr (.inr hl)
  · cases h
theorem lit_of {d : D} {c : Const} {p : Pos} {n : Nat} (h : litB d c = true) : ∃ v, PE X (.Constant c n p) (tC v) ∧ ∀ K F, Den K F d v := by
  unfold litB at h
  split at h
  · cases of_decide_eq_true h; exact ⟨_, pe_int, fun _ _ => .int _⟩
  · cases beq_iff_eq.mp h; exact ⟨_, pe_bl, fun _ _ => .bl _⟩
  · exact ⟨_, pe_non, fun _ _ => .non⟩
  · cases of_decide_eq_true h; exact ⟨_, pe_str, fun _ _ => .str _⟩
  · cases h
theorem nobool {b : Bool} (h : (!b) = true) : b = false := by
  cases b with
  | false => rfl
  | true => cases h
theorem litB_notMany {c : C} : True := trivial
theorem chkA_noStar : ∀ {c : C} {sc : Scope} {N : List Str} {es : List Expr} {p : Pos}, chk T c sc N (.List es p) = true → (∃ σD R ds R', ev cf lf c σD R = .ok (.many ds) R') → NoStar es
  | .nil, _, _, es, _, h, _ => by
    cases es with
    | nil => exact .nil
    | cons _ _ => simp [chk] at h
  | .cons a as, _, _, es, _, h, ⟨σD, R, ds, R', q⟩ => by
    cases es with
    | nil => simp [chk] at h
    | cons x r =>
      simp only [chk, Bool.and_eq_true] at h
      simp only [ev] at q
      obtain ⟨_, R1, _, _, q⟩ := bindV_ok q
      obtain ⟨ds', R2, q, _⟩ := bindA_ok q
      exact .cons (nobool h.1.1) (chkA_noStar h.2 ⟨_, _, _, _, q⟩)
  | .lst _, _, _, _, _, _, ⟨σD, R, ds, R', q⟩ => by
    simp only [ev] at q
    obtain ⟨_, _, _, q⟩ := bindA_ok q
    split at q
    · split at q <;> cases q
    · cases q
  | .var _, _, _, _, _, h, _ => by simp [chk] at h
  | .lit _, _, _, _, _, h, _ => by simp [chk] at h
  | .glob _ _, _, _, _, _, h, _ => by simp [chk] at h
  | .bin _ _ _, _, _, _, _, h, _ => by simp [chk] at h
  | .neg _, _, _, _, _, h, _ => by simp [chk] at h
  | .notE _, _, _, _, _, h, _ => by simp [chk] at h
  | .cmp _ _ _, _, _, _, _, h, _ => by simp [chk] at h
  | .chn _ _ _ _ _, _, _, _, _, h, _ => by simp [chk] at h
  | .chn3 _ _ _ _ _ _ _, _, _, _, _, h, _ => by simp [chk] at h
  | .andE _ _, _, _, _, _, h, _ => by simp [chk] at h
  | .orE _ _, _, _, _, _, h, _ => by simp [chk] at h
  | .ife _ _ _, _, _, _, _, h, _ => by simp [chk] at h
  | .tup _, _, _, _, _, h, _ => by simp [chk] at h
  | .call _ _, _, _, _, _, h, _ => by simp [chk] at h
  | .blt _ _, _, _, _, _, h, _ => by simp [chk] at h
  | .isi _ _, _, _, _, _, h, _ => by simp [chk] at h
  | .sub _ _, _, _, _, _, h, _ => by simp [chk] at h
  | .slc _ _ _, _, _, _, _, h, _ => by simp [chk] at h
  | .rng1 _, _, _, _, _, h, _ => by simp [chk] at h
  | .dg2 _ _ _ _ _ _, _, _, _, _, h, _ => by simp [chk] at h
  | .rng2 _ _, _, _, _, _, h, _ => by simp [chk] at h
  | .comp _ _ _ _, _, _, _, _, h, _ => by simp [chk] at h
  | .callD _ _ _, _, _, _, _, h, _ => by simp [chk] at h
  | .fld _ _, _, _, _, _, h, _ => by simp [chk] at h
  | .prp _ _, _, _, _, _, h, _ => by simp [chk] at h
  | .mth _ _ _, _, _, _, _, h, _ => by simp [chk] at h
  | .new _ _ _, _, _, _, _, h, _ => by simp [chk] at h
  | .isiC _ _ _, _, _, _, _, h, _ => by simp [chk] at h
  | .dnew, _, _, _, _, h, _ => by simp [chk] at h
  | .dget _ _ _, _, _, _, _, h, _ => by simp [chk] at h
  | .itm _, _, _, _, _, h, _ => by simp [chk] at h
  | .dis1 _ _, _, _, _, _, h, _ => by simp [chk] at h
  | .callB _ _, _, _, _, _, h, _ => by simp [chk] at h
  | .zipE _ _, _, _, _, _, h, _ => by simp [chk] at h
  | .enmE _, _, _, _, _, h, _ => by simp [chk] at h
end

structure Snd (T : Tb) (cf : Cf) (lf : Nat) (CX : CXT) (k : Nat) (c : C) : Prop where
  v : ∀ X, Okx CX k X → Facts T cf CX k X → ∀ e, chk T c X.env.scope X.N e = true → SV X cf lf c e
  a : ∀ X, Okx CX k X → Facts T cf CX k X → ∀ es p, chk T c X.env.scope X.N (.List es p) = true → SA X cf lf c es
  t : ∀ X, Okx CX k X → Facts T cf CX k X → ∀ e, chk T c X.env.scope X.N e = true → ST X cf lf c e
section
variable {T : Tb} {cf : Cf} {lf k : Nat} {CX : CXT} {c : C}
/-- a code whose text is tested by its value, and that is no list of arguments -/
theorem Snd.of (hv : ∀ X, Okx CX k X → Facts T cf CX k X → ∀ e, chk T c X.env.scope X.N e = true → SV X cf lf c e) (hp : ∀ sc N e, chk T c sc N e = true → plainT e = true) (hl : ∀ sc N es p, chk T c sc N (.List es p) = true → ∀ σD R ds R', ev cf lf c σD R ≠ .ok (.many ds) R') : Snd T cf lf CX k c :=
  ⟨hv, fun X ok fa es p h σD R R' M P F σ H ds r er q => absurd q (hl _ _ _ _ h _ _ _ _), fun X ok fa e h => (hv X ok fa e h).t (hp _ _ _ h)⟩
theorem snd_var (i : Nat) : Snd T cf lf CX k (.var i) := by
  refine .of (fun X ok fa e h => ?_) (fun sc N e h => ?_) (fun sc N es p h => by simp [chk] at h)
  · cases e with
    | Name x p =>
      simp only [chk, Bool.and_eq_true] at h
      obtain ⟨⟨⟨h1, h2⟩, h3⟩, h4⟩ := h
      intro σD R R' M P F σ H rv r er q hm
      simp only [ev] at q
      split at q
      · rename_i d hd
        cases q
        obtain ⟨v, e1, e2⟩ := er.2 i d hd
        exact we_of (pe_var (of_decide_eq_true h1) (vis_of h2) (nobool h3) (nobool h4)) ⟨v, e1, F, .refl F, r, e2⟩
      · cases q
    | _ => simp [chk] at h
  · cases e <;> first | rfl | simp [chk] at h
theorem snd_lit (d : D) : Snd T cf lf CX k (.lit d) := by
  refine .of (fun X ok fa e h => ?_) (fun sc N e h => ?_) (fun sc N es p h => by simp [chk] at h)
  · cases e with
    | Constant c n p =>
      simp only [chk] at h
      intro σD R R' M P F σ H rv r er q hm
      simp only [ev] at q
      cases q
      obtain ⟨v, h1, h2⟩ := lit_of (X := X) (p := p) (n := n) h
      exact we_of h1 ⟨F, .refl F, r, .inr (h2 _ _)⟩
    | _ => simp [chk] at h
  · cases e <;> first | rfl | simp [chk] at h
theorem snd_glob (g : Nat) (d : D) : Snd T cf lf CX k (.glob g d) := by
  refine .of (fun X ok fa e h => ?_) (fun sc N e h => ?_) (fun sc N es p h => by simp [chk] at h)
  · cases e with
    | Name x p =>
      simp only [chk, Bool.and_eq_true] at h
      obtain ⟨⟨h1, h2⟩, h3⟩ := h
      split at h3
      · rename_i d' hd
        cases eqD_ok h3
        intro σD R R' M P F σ H rv r er q hm
        simp only [ev] at q
        cases q
        obtain ⟨u, v, f1, f2, f3⟩ := fa.gl g x d (of_decide_eq_true h1) hd
        obtain ⟨g1, g2, _⟩ := gl_of h2
        exact we_of (pe_glob g1 f1 f2 g2) ⟨F, .refl F, r, .inr (f3.mono fun a o (z : none = some o) => by cases z)⟩
      · cases h3
    | _ => simp [chk] at h
  · cases e <;> first | rfl | simp [chk] at h
theorem snd_bin (o : Operator) {a b : C} (ha : Snd T cf lf CX k a) (hb : Snd T cf lf CX k b) : Snd T cf lf CX k (.bin o a b) := by
  refine .of (fun X ok fa e h => ?_) (fun sc N e h => ?_) (fun sc N es p h => by simp [chk] at h)
  · cases e with
    | BinOp x o' y p =>
      simp only [chk, Bool.and_eq_true] at h
      obtain ⟨⟨h1, h2⟩, h3⟩ := h
      cases of_decide_eq_true h1
      intro σD R R' M P F σ H rv r er q hm
      simp only [ev] at q
      obtain ⟨x, R1, q1, m1, q⟩ := bindV_ok q
      obtain ⟨y, R2, q2, m2, q⟩ := bindV_ok q
      obtain ⟨rl, o1, o2⟩ := binopX_ok (X := X) ok fa q
      refine we_of (pe_op o1 pe_w pe_w) ?_
      refine we_mono ((ha.v X ok fa _ h2).d r er q1 m1) fun vx H1 ⟨F1, e1, r1, v1⟩ => ?_
      refine we_mono ((hb.v X ok fa _ h3).d r1 (er.mono e1) q2 m2) fun vy H2 ⟨F2, e2, r2, v2⟩ => ?_
      exact o2 M P F2 H2 vx vy _ r2 (v1.mono e2) v2 fun v F' H' e3 r3 h => ⟨F', (e1.trans e2).trans e3, r3, h⟩
    | _ => simp [chk] at h
  · cases e <;> first | rfl | simp [chk] at h
theorem snd_neg {a : C} (ha : Snd T cf lf CX k a) : Snd T cf lf CX k (.neg a) := by
  refine .of (fun X ok fa e h => ?_) (fun sc N e h => ?_) (fun sc N es p h => by simp [chk] at h)
  · cases e with
    | UnaryOp o x p =>
      cases o with
      | USub =>
        simp only [chk] at h
        intro σD R R' M P F σ H rv r er q hm
        simp only [ev] at q
        obtain ⟨x, R1, q1, m1, q⟩ := bindV_ok q
        refine we_of (pe_un unr_w pe_w) ?_
        refine we_mono ((ha.v X ok fa _ h).d r er q1 m1) fun vx H1 ⟨F1, e1, r1, v1⟩ => ?_
        exact negX_ok ok fa q M P F1 H1 vx _ r1 v1 fun v F' H' e3 r3 h => ⟨F', e1.trans e3, r3, h⟩
      | _ => simp [chk] at h
    | _ => simp [chk] at h
  · cases e with
    | UnaryOp o x p => cases o <;> first | rfl | simp [chk] at h
    | _ => first | rfl | simp [chk] at h
theorem snd_sub {a i : C} (ha : Snd T cf lf CX k a) (hi : Snd T cf lf CX k i) : Snd T cf lf CX k (.sub a i) := by
  refine .of (fun X ok fa e h => ?_) (fun sc N e h => ?_) (fun sc N es p h => by simp [chk] at h)
  · cases e with
    | Subscript x y p =>
      simp only [chk, Bool.and_eq_true] at h
      obtain ⟨⟨h1, h2⟩, h3⟩ := h
      intro σD R R' M P F σ H rv r er q hm
      simp only [ev] at q
      obtain ⟨x, R1, q1, m1, q⟩ := bindV_ok q
      obtain ⟨y, R2, q2, m2, q⟩ := bindV_ok q
      obtain ⟨d, q3, rfl, rfl⟩ := liftO_ok q
      obtain ⟨rl, o1, o2⟩ := subX_ok (X := X) ok q3
      refine we_of (pe_ix o1 pe_w pe_w (plainIx_of (nobool h1))) ?_
      refine we_mono ((ha.v X ok fa _ h2).d r er q1 m1) fun vx H1 ⟨F1, e1, r1, v1⟩ => ?_
      refine we_mono ((hi.v X ok fa _ h3).d r1 (er.mono e1) q2 m2) fun vy H2 ⟨F2, e2, r2, v2⟩ => ?_
      exact o2 M P F2 H2 vx vy _ r2 (v1.mono e2) v2 fun v F' H' e3 r3 h => ⟨F', (e1.trans e2).trans e3, r3, h⟩
    | _ => simp [chk] at h
  · cases e <;> first | rfl | simp [chk] at h
theorem snd_nil : Snd T cf lf CX k .nil := by
  refine ⟨fun X ok fa e h σD R R' M P F σ H rv r er q hm => ?_, fun X ok fa es p h σD R R' M P F σ H ds r er q => ?_, fun X ok fa e h σD R R' M P F σ H rv b r er q hm => ?_⟩
  · simp only [ev] at q
    cases q
    exact absurd rfl (hm _)
  · cases es with
    | nil =>
      simp only [ev] at q
      cases q
      exact wa_of pa_nil ⟨F, .refl F, r, .nil⟩
    | cons _ _ => simp [chk] at h
  · simp only [ev] at q
    cases q
    exact absurd rfl (hm _)
theorem snd_cons {a as : C} (ha : Snd T cf lf CX k a) (hs : Snd T cf lf CX k as) : Snd T cf lf CX k (.cons a as) := by
  have nm : ∀ {σD R rv R'}, ev cf lf (.cons a as) σD R = .ok rv R' → ∃ ds, rv = .many ds := fun q => by
    simp only [ev] at q
    obtain ⟨x, R1, q1, m1, q⟩ := bindV_ok q
    obtain ⟨ds, R2, q2, q⟩ := bindA_ok q
    cases q
    exact ⟨_, rfl⟩
  refine ⟨fun X ok fa e h σD R R' M P F σ H rv r er q hm => ?_, fun X ok fa es p h σD R R' M P F σ H ds r er q => ?_, fun X ok fa e h σD R R' M P F σ H rv b r er q hm => ?_⟩
  · obtain ⟨ds, e⟩ := nm q
    exact absurd e (hm _)
  · cases es with
    | nil => simp [chk] at h
    | cons x l =>
      simp only [chk, Bool.and_eq_true] at h
      obtain ⟨⟨h1, h2⟩, h3⟩ := h
      simp only [ev] at q
      obtain ⟨y, R1, q1, m1, q⟩ := bindV_ok q
      obtain ⟨ds', R2, q2, q⟩ := bindA_ok q
      cases q
      refine wa_of (pa_cons pe_w pa_w (star_cons (nobool h1))) ?_
      refine we_mono ((ha.v X ok fa _ h2).d r er q1 m1) fun vx H1 ⟨F1, e1, r1, v1⟩ => ?_
      refine wa_mono (hs.a X ok fa l p0 h3 σD R1 R' M P F1 σ H1 ds' r1 (er.mono e1) q2) fun vs H2 ⟨F2, e2, r2, v2⟩ => ?_
      exact ⟨F2, e1.trans e2, r2, .cons (v1.mono e2) v2⟩
  · obtain ⟨ds, e⟩ := nm q
    exact absurd e (hm _)
theorem snd_tup {as : C} (hs : Snd T cf lf CX k as) : Snd T cf lf CX k (.tup as) := by
  refine .of (fun X ok fa e h => ?_) (fun sc N e h => ?_) (fun sc N es p h => by simp [chk] at h)
  · cases e with
    | Tuple es n p =>
      simp only [chk] at h
      intro σD R R' M P F σ H rv r er q hm
      simp only [ev] at q
      obtain ⟨ds, R1, q1, q⟩ := bindA_ok q
      split at q
      · rename_i ds' R2 hb
        split at q
        · rename_i hz
          cases q
          refine we_of (pe_tup pa_w) ?_
          refine wa_mono (hs.a X ok fa es p0 h σD R R1 M P F σ H ds r er q1) fun vs H1 ⟨F1, e1, r1, v1⟩ => ?_
          obtain ⟨G, g1, g2, g3⟩ := r1.byvL v1 hb
          refine ⟨by rw [g3.length]; exact sz_of hz, fun a ha => ?_⟩
          obtain ⟨G', g4, g5, g6⟩ := g2.tup ha g3
          exact ⟨G', (e1.trans g1).trans g4, g5, g6⟩
        · cases q
      · cases q
    | _ => simp [chk] at h
  · cases e <;> first | rfl | simp [chk] at h
theorem snd_lst {as : C} (hs : Snd T cf lf CX k as) : Snd T cf lf CX k (.lst as) := by
  refine .of (fun X ok fa e h => ?_) (fun sc N e h => ?_) (fun sc N es p h σD R ds R' q => ?_)
  · cases e with
    | List es p =>
      simp only [chk] at h
      intro σD R R' M P F σ H rv r er q hm
      simp only [ev] at q
      obtain ⟨ds, R1, q1, q⟩ := bindA_ok q
      split at q
      · rename_i ds' R2 hb
        split at q
        · rename_i hz
          cases q
          refine we_of (pe_lst pa_w) ?_
          refine wa_mono (hs.a X ok fa es p0 h σD R R1 M P F σ H ds r er q1) fun vs H1 ⟨F1, e1, r1, v1⟩ => ?_
          obtain ⟨G, g1, g2, g3⟩ := r1.byvL v1 hb
          refine ⟨by rw [g3.length]; exact sz_of hz, fun a ha => ?_⟩
          obtain ⟨g5, g6⟩ := g2.lst ha g3
          exact ⟨G, e1.trans g1, g5, g6⟩
        · cases q
      · cases q
    | _ => simp [chk] at h
  · cases e <;> first | rfl | simp [chk] at h
  · simp only [ev] at q
    obtain ⟨ds, R1, q1, q⟩ := bindA_ok q
    split at q
    · split at q <;> cases q
    · cases q
theorem snd_call (f : Nat) {as : C} (hs : Snd T cf lf CX k as) : Snd T cf lf CX k (.call f as) := by
  refine .of (fun X ok fa e h => ?_) (fun sc N e h => ?_) (fun sc N es p h => by simp [chk] at h)
  · cases e with
    | Call g es kws p =>
      cases g with
      | Name x px =>
        cases kws with
        | nil =>
          simp only [chk, Bool.and_eq_true] at h
          obtain ⟨⟨h1, h2⟩, h3⟩ := h
          intro σD R R' M P F σ H rv r er q hm
          simp only [ev] at q
          obtain ⟨ds, R1, q1, q⟩ := bindA_ok q
          obtain ⟨a, fd, ps, f1, f2, f3, f4⟩ := fa.fn f x (of_decide_eq_true h1)
          obtain ⟨g1, g2, _⟩ := gl_of h2
          have ns := chkA_noStar h3 ⟨_, _, _, _, q1⟩
          have W := hs.a X ok fa es p0 h3 σD R R1 M P F σ H ds r er q1
          have fin : ∀ vs H1, PL X M R1 P F ds vs H1 → spC X.K cf f (vs ++ []) H1 (PV X M R' P F rv) E0 := fun vs H1 ⟨F1, e1, r1, v1⟩ => by
            rw [List.append_nil]
            exact ⟨ds, M, R1, P, F1, rv, R', q, v1, r1, fun v F' H' e2 r2 h => ⟨F', e1.trans e2, r2, h⟩⟩
          cases ns with
          | nil =>
            refine we_of (pe_call0 f4 (ok.room.mono (by omega)) g1 f1 f2 f3 .nil (ok.pass X rfl rfl) g2) ?_
            cases as with
            | nil =>
              simp only [ev] at q1
              cases q1
              exact fin [] H ⟨F, .refl F, r, .nil⟩
            | cons _ _ => simp [chk] at h3
            | lst _ =>
              simp only [ev] at q1
              obtain ⟨_, _, _, q1⟩ := bindA_ok q1
              split at q1
              · split at q1 <;> cases q1
              · cases q1
            | _ => simp [chk] at h3
          | cons hn ns =>
            exact we_of (pe_call f4 (ok.room.mono (by omega)) g1 f1 f2 f3 .nil (ok.pass X rfl rfl) pa_w g2 (star_cons hn) (any_star ns)) (wa_mono W fin)
        | cons _ _ => simp [chk] at h
      | _ => simp [chk] at h
    | _ => simp [chk] at h
  · cases e <;> first | rfl | simp [chk] at h
theorem snd_blt (b : Bk) {as : C} (hs : Snd T cf lf CX k as) : Snd T cf lf CX k (.blt b as) := by
  refine .of (fun X ok fa e h => ?_) (fun sc N e h => ?_) (fun sc N es p h => by simp [chk] at h)
  · cases e with
    | Call g es kws p =>
      cases g with
      | Name x px =>
        cases kws with
        | nil =>
          simp only [chk, Bool.and_eq_true] at h
          obtain ⟨⟨⟨⟨h1, h2⟩, h3⟩, h4⟩, h5⟩ := h
          cases of_decide_eq_true h1
          intro σD R R' M P F σ H rv r er q hm
          simp only [ev] at q
          obtain ⟨ds, R1, q1, q⟩ := bindA_ok q
          obtain ⟨rl, o1, o2⟩ := bltX_ok (X := X) ok fa q
          obtain ⟨g1, g2, g3⟩ := gl_of h3
          have ns := chkA_noStar h5 ⟨_, _, _, _, q1⟩
          have W := hs.a X ok fa es p0 h5 σD R R1 M P F σ H ds r er q1
          have fin : ∀ vs H1, PL X M R1 P F ds vs H1 → rl vs H1 (PV X M R' P F rv) := fun vs H1 ⟨F1, e1, r1, v1⟩ =>
            o2 M P F1 H1 vs _ r1 v1 fun v F' H' e2 r2 h => ⟨F', e1.trans e2, r2, h⟩
          have hm := fa.bl _ (of_decide_eq_true h2)
          cases ns with
          | nil => simp [isNil] at h4
          | cons hn ns =>
            have boot := b.boot
            cases b <;> first
              | exact we_of (pe_callB o1 g1 hm boot pa_w g3 g2 (star_cons hn) (any_star ns)) (wa_mono W fin)
              | exact we_of (pe_callTy o1 g1 hm boot pa_w g3 g2 (star_cons hn) (any_star ns)) (wa_mono W fin)
        | cons _ _ => simp [chk] at h
      | _ => simp [chk] at h
    | _ => simp [chk] at h
  · cases e <;> first | rfl | simp [chk] at h
end
end EV

/-! EvH: the rest of the expressions: tests, chains, slices, comprehensions. -/
namespace EV
open PySem PySem.Spec PyProof.Rows L2

section
variable {X : Cx} {a b c d : Expr} {ta tb tc td : TE} {pos : Pos}
/-- a op1 b op2 c op3 d -/
def tChain3 (r r' r'' : R2) (ta tb tc td : TE) : TE := fun σ H Q => ta σ H fun x H1 => tb σ H1 fun y H2 => r x y H2 fun z H3 => ∃ k, z = .bl k ∧
  (if k = true then tc σ H3 fun w H4 => r' y w H4 fun z' H5 => ∃ k', z' = .bl k' ∧ (if k' = true then td σ H5 fun u H6 => r'' w u H6 Q else Q (.bl false) H5) else Q (.bl false) H3)
theorem marks_last {o o' : CmpOp} {b c : Expr} (h : behindInMarks o' c = false) : lastMarks [o, o'] [b, c] = false := h
theorem marks_last3 {o o' o'' : CmpOp} {b c d : Expr} (h : behindInMarks o'' d = false) : lastMarks [o, o', o''] [b, c, d] = false := h
theorem pe_chain3 {op op' op'' : CmpOp} {r r' r'' : R2} (ho : OpR X (compareOp op) r) (ho' : OpR X (compareOp op') r') (ho'' : OpR X (compareOp op'') r'') (ha : PE X a ta) (hb : PE X b tb) (hc : PE X c tc) (hd : PE X d td)
    (hm : lastMarks [op, op', op''] [b, c, d] = false) : PE X (.Compare a [op, op', op''] [b, c, d] pos) (tChain3 r r' r'' ta tb tc td) := by
  refine ⟨fun pins s σ H Q I h => ?_⟩
  refine Compare_chain (thn (ha.run pins s σ H _ I h) fun v s1 ⟨x, H1, I1, r1, q1⟩ => chain_link (thn (hb.run pins s1 σ H1 _ I1 q1) fun u s2 ⟨y, H2, I2, r2, q2⟩ =>
    thn (ho pins s2 σ H2 x y v u _ I2 r1 r2 q2) fun d s3 ⟨z, H3, I3, r3, k, e, q3⟩ => ?_)) hm
  subst e
  cases r3
  refine wpAny_truthy_bool ?_
  cases k with
  | false => exact ite_ff ⟨.bl false, H3, I3, rfl, q3⟩
  | true =>
    refine ite_tt (chain_link (thn (hc.run pins s3 σ H3 _ I3 q3) fun w s4 ⟨z, H4, I4, r4, q4⟩ => thn (ho' pins s4 σ H4 y z u w _ I4 r2 r4 q4) fun d s5 ⟨z', H5, I5, r5, k', e, q5⟩ => ?_))
    subst e
    cases r5
    refine wpAny_truthy_bool ?_
    cases k' with
    | false => exact ite_ff ⟨.bl false, H5, I5, rfl, q5⟩
    | true => exact ite_tt (chain_last (thn (hd.run pins s5 σ H5 _ I5 q5) fun w' s6 ⟨z6, H6, I6, r6, q6⟩ => ho'' pins s6 σ H6 z z6 w w' Q I6 r4 r6 q6))
theorem pt_chain3 {op op' op'' : CmpOp} {r r' r'' : R2} (ho : OpR X (compareOp op) r) (ho' : OpR X (compareOp op') r') (ho'' : OpR X (compareOp op'') r'') (ha : PE X a ta) (hb : PE X b tb) (hc : PE X c tc) (hd : PE X d td)
    (hm : lastMarks [op, op', op''] [b, c, d] = false) : PT X (.Compare a [op, op', op''] [b, c, d] pos) (tTest (tChain3 r r' r'' ta tb tc td)) := by
  refine ⟨fun pins s σ H Q I h => ?_⟩
  refine isTrue_chain (thn (ha.run pins s σ H _ I h) fun v s1 ⟨x, H1, I1, r1, q1⟩ => test_link (thn (hb.run pins s1 σ H1 _ I1 q1) fun u s2 ⟨y, H2, I2, r2, q2⟩ =>
    thn (ho pins s2 σ H2 x y v u _ I2 r1 r2 q2) fun d s3 ⟨z, H3, I3, r3, k, e, q3⟩ => ?_)) hm
  subst e
  cases r3
  refine wpAny_truthy_bool ?_
  cases k with
  | false =>
    obtain ⟨k', e', q'⟩ := q3
    cases e'
    exact ite_ff ⟨H3, I3, q'⟩
  | true =>
    refine ite_tt (test_link (thn (hc.run pins s3 σ H3 _ I3 q3) fun w s4 ⟨z, H4, I4, r4, q4⟩ => thn (ho' pins s4 σ H4 y z u w _ I4 r2 r4 q4) fun d s5 ⟨z', H5, I5, r5, k', e, q5⟩ => ?_))
    subst e
    cases r5
    refine wpAny_truthy_bool ?_
    cases k' with
    | false =>
      obtain ⟨k'', e', q'⟩ := q5
      cases e'
      exact ite_ff ⟨H5, I5, q'⟩
    | true =>
      refine ite_tt (test_last (thn (hd.run pins s5 σ H5 _ I5 q5) fun w' s6 ⟨z6, H6, I6, r6, q6⟩ => thn (ho'' pins s6 σ H6 z z6 w w' _ I6 r4 r6 q6) fun d s7 ⟨z7, H7, I7, r7, k7, e7, q7⟩ => ?_))
      subst e7
      cases r7
      exact wpAny_truthy_bool ⟨H7, I7, q7⟩
end

section
variable {T : Tb} {cf : Cf} {lf k : Nat} {CX : CXT} {c : C}
theorem hu_ok {X : Cx} (ok : Okx CX k X) : X.A.units + 64 < cLine := ok.room.units
/-- a comparison's reading, whatever is wanted -/
theorem cmp_reads {X : Cx} {a b : C} {x y : Expr} {σD : List (Option D)} {R R1 R2 : Sto} {M : Mp} {P : Ps} {F : Hp} {σ : L2.St} {H : Hp} {dx dy : Rv} {rl : L2.R2} {bb : Bool} {R3 : Sto} {Q : VK} (ha : SV X cf lf a x) (hb : SV X cf lf b y) (r : Rel X.K M R P F H) (er : ER X.K M F σD σ)
    (q1 : ev cf lf a σD R = .ok dx R1) (m1 : ∀ ds, dx ≠ .many ds) (q2 : ev cf lf b σD R1 = .ok dy R2) (m2 : ∀ ds, dy ≠ .many ds)
    (o2 : ∀ (M : Mp) (P : Ps) (F H : Hp) (vx vy : V) (Q : VK), Rel X.K M R2 P F H → Vr X.K M F (fz dx) vx → Vr X.K M F (fz dy) vy → Pst X.K M P F (.val (.bl bb)) R3 Q → rl vx vy H Q)
    (k : ∀ H' F', Ex F F' → Rel X.K M R3 P F' H' → Q (.bl bb) H') : tOp rl (WE X x) (WE X y) σ H Q := by
  refine we_mono (ha.d r er q1 m1) fun vx H1 ⟨F1, e1, r1, v1⟩ => ?_
  refine we_mono (hb.d r1 (er.mono e1) q2 m2) fun vy H2 ⟨F2, e2, r2, v2⟩ => ?_
  exact o2 M P F2 H2 vx vy _ r2 (v1.mono e2) v2 fun v F' H' e3 r3 h => by
    have hv : v = .bl bb := Vr.bl h
    subst hv
    exact k H' F' ((e1.trans e2).trans e3) r3
theorem snd_cmp (o : CmpOp) {a b : C} (ha : Snd T cf lf CX k a) (hb : Snd T cf lf CX k b) : Snd T cf lf CX k (.cmp o a b) := by
  have key : ∀ X, Okx CX k X → Facts T cf CX k X → ∀ e, chk T (.cmp o a b) X.env.scope X.N e = true → ∀ (σD : List (Option D)) (R R' : Sto) (M : Mp) (P : Ps) (F : Hp) (σ : L2.St) (H : Hp) (rv : Rv), Rel X.K M R P F H → ER X.K M F σD σ → ev cf lf (.cmp o a b) σD R = .ok rv R' →
      ∃ bb, rv = .val (.bl bb) ∧ WE X e σ H (PV X M R' P F rv) ∧ WT X e σ H (PB X M R' P F bb) := by
    intro X ok fa e h σD R R' M P F σ H rv r er q
    cases e with
    | Compare l os rs p =>
      match os, rs, h with
      | [o'], [y], h =>
        simp only [chk, Bool.and_eq_true] at h
        obtain ⟨⟨⟨h1, h2⟩, h3⟩, h4⟩ := h
        cases of_decide_eq_true h1
        simp only [ev] at q
        obtain ⟨dx, R1, q1, m1, q⟩ := bindV_ok q
        obtain ⟨dy, R2, q2, m2, q⟩ := bindV_ok q
        obtain ⟨bb, rfl, rl, o1, o2⟩ := cmpX_ok (X := X) ok fa q
        refine ⟨bb, rfl, we_of (pe_cmpR o1 pe_w pe_w (nobool h2)) ?_, wt_of (pt_cmpR o1 pe_w pe_w (nobool h2)) ?_⟩
        · exact cmp_reads (ha.v X ok fa _ h3) (hb.v X ok fa _ h4) r er q1 m1 q2 m2 o2 fun H' F' e r => ⟨F', e, r, .inr (.bl _)⟩
        · exact cmp_reads (ha.v X ok fa _ h3) (hb.v X ok fa _ h4) r er q1 m1 q2 m2 o2 fun H' F' e r => ⟨bb, rfl, rfl, F', e, r⟩
      | [], _, h => simp [chk] at h
      | _ :: _ :: _, _, h => simp [chk] at h
      | [_], [], h => simp [chk] at h
      | [_], _ :: _ :: _, h => simp [chk] at h
    | _ => simp [chk] at h
  refine ⟨fun X ok fa e h σD R R' M P F σ H rv r er q hm => ?_, fun X ok fa es p h => by simp [chk] at h, fun X ok fa e h σD R R' M P F σ H rv b r er q hm ht => ?_⟩
  · obtain ⟨bb, _, h1, _⟩ := key X ok fa e h σD R R' M P F σ H rv r er q
    exact h1
  · obtain ⟨bb, rfl, _, h1⟩ := key X ok fa e h σD R R' M P F σ H rv r er q
    cases ht
    exact h1
theorem chain_reads {X : Cx} {a b c : C} {x y z : Expr} {σD : List (Option D)} {R R1 R2 R' : Sto} {M : Mp} {P : Ps} {F : Hp} {σ : L2.St} {H : Hp} {dx dy : Rv} {p : CmpOp} {rl : L2.R2} {b1 : Bool} {rv : Rv} (ok : Okx CX k X) (ha : SV X cf lf a x) (hb : SV X cf lf b y) (hc : SV X cf lf c z) (r : Rel X.K M R P F H) (er : ER X.K M F σD σ)
    (q1 : ev cf lf a σD R = .ok dx R1) (m1 : ∀ ds, dx ≠ .many ds) (q2 : ev cf lf b σD R1 = .ok dy R2) (m2 : ∀ ds, dy ≠ .many ds)
    (o2 : ∀ (M : Mp) (P : Ps) (F H : Hp) (vx vy : V) (Q : VK), Rel X.K M R2 P F H → Vr X.K M F (fz dx) vx → Vr X.K M F (fz dy) vy → Pst X.K M P F (.val (.bl b1)) R2 Q → rl vx vy H Q)
    (q : (if b1 = true then bindV (ev cf lf c σD R2) fun z R3 => liftO (cmpop p (fz dy) z R3) R3 fun b => .val (.bl b) else .ok (.val (.bl false)) R2) = .ok rv R') :
    ∃ bb, rv = .val (.bl bb) ∧ ∃ rp, OpR X (compareOp p) rp ∧ ∀ Q : VK, (∀ H' F', Ex F F' → Rel X.K M R' P F' H' → Q (.bl bb) H') → tChain rl rp (WE X x) (WE X y) (WE X z) σ H Q := by
  cases b1 with
  | false =>
    rw [if_neg Bool.false_ne_true] at q
    cases q
    have any : ∃ rp, OpR X (compareOp p) rp := ⟨fun _ _ _ _ => False, fun _ _ _ _ _ _ _ _ _ _ _ _ h => h.elim⟩
    obtain ⟨rp, o3⟩ := any
    refine ⟨false, rfl, rp, o3, fun Q kq => ?_⟩
    refine we_mono (ha.d r er q1 m1) fun vx H1 ⟨F1, e1, r1, v1⟩ => ?_
    refine we_mono (hb.d r1 (er.mono e1) q2 m2) fun vy H2 ⟨F2, e2, r2, v2⟩ => ?_
    refine o2 M P F2 H2 vx vy _ r2 (v1.mono e2) v2 fun v F' H' e3 r3 h => ?_
    have hv : v = .bl false := Vr.bl h
    subst hv
    exact ⟨false, rfl, iteF (kq H' F' ((e1.trans e2).trans e3) r3)⟩
  | true =>
    rw [if_pos rfl] at q
    obtain ⟨dz, R3, q3, m3, q⟩ := bindV_ok q
    obtain ⟨bb, q4, rfl, rfl⟩ := liftO_ok q
    obtain ⟨rp, o3, o4⟩ := cmpop_ok (X := X) (hu_ok ok) q4
    refine ⟨bb, rfl, rp, o3, fun Q kq => ?_⟩
    refine we_mono (ha.d r er q1 m1) fun vx H1 ⟨F1, e1, r1, v1⟩ => ?_
    refine we_mono (hb.d r1 (er.mono e1) q2 m2) fun vy H2 ⟨F2, e2, r2, v2⟩ => ?_
    refine o2 M P F2 H2 vx vy _ r2 (v1.mono e2) v2 fun v F3 H3 e3 r3 h => ?_
    have hv : v = .bl true := Vr.bl h
    subst hv
    refine ⟨true, rfl, iteT ?_⟩
    refine we_mono (hc.d r3 (er.mono ((e1.trans e2).trans e3)) q3 m3) fun vz H4 ⟨F4, e4, r4, v4⟩ => ?_
    exact o4 M P F4 H4 vy vz _ r4 ((v2.mono e3).mono e4) v4 fun v F' H' e5 r5 h => by
      have hv : v = .bl bb := Vr.bl h
      subst hv
      exact kq H' F' ((((e1.trans e2).trans e3).trans e4).trans e5) r5
theorem snd_chn (o p : CmpOp) {a b c : C} (ha : Snd T cf lf CX k a) (hb : Snd T cf lf CX k b) (hc : Snd T cf lf CX k c) : Snd T cf lf CX k (.chn o p a b c) := by
  have key : ∀ X, Okx CX k X → Facts T cf CX k X → ∀ e, chk T (.chn o p a b c) X.env.scope X.N e = true → ∀ (σD : List (Option D)) (R R' : Sto) (M : Mp) (P : Ps) (F : Hp) (σ : L2.St) (H : Hp) (rv : Rv), Rel X.K M R P F H → ER X.K M F σD σ → ev cf lf (.chn o p a b c) σD R = .ok rv R' →
      ∃ bb, rv = .val (.bl bb) ∧ WE X e σ H (PV X M R' P F rv) ∧ WT X e σ H (PB X M R' P F bb) := by
    intro X ok fa e h σD R R' M P F σ H rv r er q
    cases e with
    | Compare l os rs ps =>
      match os, rs, h with
      | [o', p'], [y, z], h =>
        simp only [chk, Bool.and_eq_true] at h
        obtain ⟨⟨⟨⟨⟨h1, h1'⟩, h2⟩, h3⟩, h4⟩, h5⟩ := h
        cases of_decide_eq_true h1
        cases of_decide_eq_true h1'
        simp only [ev] at q
        obtain ⟨dx, R1, q1, m1, q⟩ := bindV_ok q
        obtain ⟨dy, R2, q2, m2, q⟩ := bindV_ok q
        cases q3 : cmpop o (fz dx) (fz dy) R2 with
        | none => rw [q3] at q; cases q
        | some b1 =>
          rw [q3] at q
          obtain ⟨rl, o1, o2⟩ := cmpop_ok (X := X) (hu_ok ok) q3
          have q' : (if b1 = true then bindV (ev cf lf c σD R2) fun z R3 => liftO (cmpop p (fz dy) z R3) R3 fun b => .val (.bl b) else .ok (.val (.bl false)) R2) = .ok rv R' := by
            cases b1 <;> exact q
          obtain ⟨bb, rfl, rp, o3, o4⟩ := chain_reads ok (ha.v X ok fa _ h3) (hb.v X ok fa _ h4) (hc.v X ok fa _ h5) r er q1 m1 q2 m2 o2 q'
          refine ⟨bb, rfl, we_of (pe_chain o1 o3 pe_w pe_w pe_w (marks_last (nobool h2))) ?_, wt_of (pt_chain o1 o3 pe_w pe_w pe_w (marks_last (nobool h2))) ?_⟩
          · exact o4 _ fun H' F' e r => ⟨F', e, r, .inr (.bl _)⟩
          · exact o4 _ fun H' F' e r => ⟨bb, rfl, rfl, F', e, r⟩
      | [], _, h => simp [chk] at h
      | [_], [], h => simp [chk] at h
      | [_], _ :: _, h => simp [chk] at h
      | [_, _], [], h => simp [chk] at h
      | [_, _], [_], h => simp [chk] at h
      | [_, _], _ :: _ :: _ :: _, h => simp [chk] at h
      | _ :: _ :: _ :: _, _, h => simp [chk] at h
    | _ => simp [chk] at h
  refine ⟨fun X ok fa e h σD R R' M P F σ H rv r er q hm => ?_, fun X ok fa es p h => by simp [chk] at h, fun X ok fa e h σD R R' M P F σ H rv b r er q hm ht => ?_⟩
  · obtain ⟨bb, _, h1, _⟩ := key X ok fa e h σD R R' M P F σ H rv r er q
    exact h1
  · obtain ⟨bb, rfl, _, h1⟩ := key X ok fa e h σD R R' M P F σ H rv r er q
    cases ht
    exact h1
end
end EV

/-! EvI: and, or, not, conditional expressions, isinstance, slices. -/
namespace EV
open PySem PySem.Spec PyProof.Rows L2
section
variable {T : Tb} {cf : Cf} {lf k : Nat} {CX : CXT} {c : C}
theorem snd_chn3 (o p t : CmpOp) {a b c d : C} (ha : Snd T cf lf CX k a) (hb : Snd T cf lf CX k b) (hc : Snd T cf lf CX k c) (hd : Snd T cf lf CX k d) : Snd T cf lf CX k (.chn3 o p t a b c d) := by
  have key : ∀ X, Okx CX k X → Facts T cf CX k X → ∀ e, chk T (.chn3 o p t a b c d) X.env.scope X.N e = true → ∀ (σD : List (Option D)) (R R' : Sto) (M : Mp) (P : Ps) (F : Hp) (σ : L2.St) (H : Hp) (rv : Rv), Rel X.K M R P F H → ER X.K M F σD σ → ev cf lf (.chn3 o p t a b c d) σD R = .ok rv R' →
      ∃ bb, rv = .val (.bl bb) ∧ WE X e σ H (PV X M R' P F rv) ∧ WT X e σ H (PB X M R' P F bb) := by
    intro X ok fa e h σD R R' M P F σ H rv r er q
    cases e with
    | Compare l os rs ps =>
      match os, rs, h with
      | [o', p', t'], [y, z, w], h =>
        simp only [chk, Bool.and_eq_true] at h
        obtain ⟨⟨⟨⟨⟨⟨⟨h1, h1'⟩, h1''⟩, h2⟩, h3⟩, h4⟩, h5⟩, h6⟩ := h
        cases of_decide_eq_true h1
        cases of_decide_eq_true h1'
        cases of_decide_eq_true h1''
        simp only [ev] at q
        obtain ⟨dx, R1, q1, m1, q⟩ := bindV_ok q
        obtain ⟨dy, R2, q2, m2, q⟩ := bindV_ok q
        have any : ∀ p, ∃ rp, OpR X (compareOp p) rp := fun p => ⟨fun _ _ _ _ => False, fun _ _ _ _ _ _ _ _ _ _ _ _ h => h.elim⟩
        have sa := ha.v X ok fa _ h3
        have sb := hb.v X ok fa _ h4
        have sc := hc.v X ok fa _ h5
        have sd := hd.v X ok fa _ h6
        suffices hh : ∃ bb, rv = .val (.bl bb) ∧ ∃ rl rp rt, OpR X (compareOp o) rl ∧ OpR X (compareOp p) rp ∧ OpR X (compareOp t) rt ∧ ∀ Q : VK, (∀ H' F', Ex F F' → Rel X.K M R' P F' H' → Q (.bl bb) H') → tChain3 rl rp rt (WE X l) (WE X y) (WE X z) (WE X w) σ H Q by
          obtain ⟨bb, rfl, rl, rp, rt, o1, o2, o3, kq⟩ := hh
          refine ⟨bb, rfl, we_of (pe_chain3 o1 o2 o3 pe_w pe_w pe_w pe_w (marks_last3 (nobool h2))) ?_, wt_of (pt_chain3 o1 o2 o3 pe_w pe_w pe_w pe_w (marks_last3 (nobool h2))) ?_⟩
          · exact kq _ fun H' F' e r => ⟨F', e, r, .inr (.bl _)⟩
          · exact kq _ fun H' F' e r => ⟨bb, rfl, rfl, F', e, r⟩
        cases q3 : cmpop o (fz dx) (fz dy) R2 with
        | none => rw [q3] at q; cases q
        | some b1 =>
          rw [q3] at q
          obtain ⟨rl, o1, o2⟩ := cmpop_ok (X := X) (hu_ok ok) q3
          cases b1 with
          | false =>
            cases q
            obtain ⟨rp, op⟩ := any p
            obtain ⟨rt, ot⟩ := any t
            refine ⟨false, rfl, rl, rp, rt, o1, op, ot, fun Q kq => ?_⟩
            refine we_mono (sa.d r er q1 m1) fun vx H1 ⟨F1, e1, r1, v1⟩ => ?_
            refine we_mono (sb.d r1 (er.mono e1) q2 m2) fun vy H2 ⟨F2, e2, r2, v2⟩ => ?_
            refine o2 M P F2 H2 vx vy _ r2 (v1.mono e2) v2 fun v F' H' e3 r3 h => ?_
            have hv : v = .bl false := Vr.bl h
            subst hv
            exact ⟨false, rfl, iteF (kq H' F' ((e1.trans e2).trans e3) r3)⟩
          | true =>
            obtain ⟨dz, R3, q4, m4, q⟩ := bindV_ok q
            cases q5 : cmpop p (fz dy) (fz dz) R3 with
            | none => rw [q5] at q; cases q
            | some b2 =>
              rw [q5] at q
              obtain ⟨rp, o3, o4⟩ := cmpop_ok (X := X) (hu_ok ok) q5
              cases b2 with
              | false =>
                cases q
                obtain ⟨rt, ot⟩ := any t
                refine ⟨false, rfl, rl, rp, rt, o1, o3, ot, fun Q kq => ?_⟩
                refine we_mono (sa.d r er q1 m1) fun vx H1 ⟨F1, e1, r1, v1⟩ => ?_
                refine we_mono (sb.d r1 (er.mono e1) q2 m2) fun vy H2 ⟨F2, e2, r2, v2⟩ => ?_
                refine o2 M P F2 H2 vx vy _ r2 (v1.mono e2) v2 fun v F3 H3 e3 r3 h => ?_
                have hv : v = .bl true := Vr.bl h
                subst hv
                refine ⟨true, rfl, iteT ?_⟩
                refine we_mono (sc.d r3 (er.mono ((e1.trans e2).trans e3)) q4 m4) fun vz H4 ⟨F4, e4, r4, v4⟩ => ?_
                refine o4 M P F4 H4 vy vz _ r4 ((v2.mono e3).mono e4) v4 fun v F' H' e5 r5 h => ?_
                have hv : v = .bl false := Vr.bl h
                subst hv
                exact ⟨false, rfl, iteF (kq H' F' ((((e1.trans e2).trans e3).trans e4).trans e5) r5)⟩
              | true =>
                obtain ⟨dw, R4, q6, m6, q⟩ := bindV_ok q
                obtain ⟨bb, q7, rfl, rfl⟩ := liftO_ok q
                obtain ⟨rt, o5, o6⟩ := cmpop_ok (X := X) (hu_ok ok) q7
                refine ⟨bb, rfl, rl, rp, rt, o1, o3, o5, fun Q kq => ?_⟩
                refine we_mono (sa.d r er q1 m1) fun vx H1 ⟨F1, e1, r1, v1⟩ => ?_
                refine we_mono (sb.d r1 (er.mono e1) q2 m2) fun vy H2 ⟨F2, e2, r2, v2⟩ => ?_
                refine o2 M P F2 H2 vx vy _ r2 (v1.mono e2) v2 fun v F3 H3 e3 r3 h => ?_
                have hv : v = .bl true := Vr.bl h
                subst hv
                refine ⟨true, rfl, iteT ?_⟩
                refine we_mono (sc.d r3 (er.mono ((e1.trans e2).trans e3)) q4 m4) fun vz H4 ⟨F4, e4, r4, v4⟩ => ?_
                refine o4 M P F4 H4 vy vz _ r4 ((v2.mono e3).mono e4) v4 fun v F5 H5 e5 r5 h => ?_
                have hv : v = .bl true := Vr.bl h
                subst hv
                refine ⟨true, rfl, iteT ?_⟩
                refine we_mono (sd.d r5 (er.mono ((((e1.trans e2).trans e3).trans e4).trans e5)) q6 m6) fun vw H6 ⟨F6, e6, r6, v6⟩ => ?_
                refine o6 M P F6 H6 vz vw _ r6 ((v4.mono e5).mono e6) v6 fun v F' H' e7 r7 h => ?_
                have hv : v = .bl bb := Vr.bl h
                subst hv
                exact kq H' F' ((((((e1.trans e2).trans e3).trans e4).trans e5).trans e6).trans e7) r7
      | [], _, h => simp [chk] at h
      | [_], [], h => simp [chk] at h
      | [_], _ :: _, h => simp [chk] at h
      | [_, _], [], h => simp [chk] at h
      | [_, _], _ :: _, h => simp [chk] at h
      | [_, _, _], [], h => simp [chk] at h
      | [_, _, _], [_], h => simp [chk] at h
      | [_, _, _], [_, _], h => simp [chk] at h
      | [_, _, _], _ :: _ :: _ :: _ :: _, h => simp [chk] at h
      | _ :: _ :: _ :: _ :: _, [], h => simp [chk] at h
      | _ :: _ :: _ :: _ :: _, _ :: _, h => simp [chk] at h
    | _ => simp [chk] at h
  refine ⟨fun X ok fa e h σD R R' M P F σ H rv r er q hm => ?_, fun X ok fa es p h => by simp [chk] at h, fun X ok fa e h σD R R' M P F σ H rv b r er q hm ht => ?_⟩
  · obtain ⟨bb, _, h1, _⟩ := key X ok fa e h σD R R' M P F σ H rv r er q
    exact h1
  · obtain ⟨bb, rfl, _, h1⟩ := key X ok fa e h σD R R' M P F σ H rv r er q
    cases ht
    exact h1

/-! ### not, and, or -/
theorem chk_not {a : C} {sc : Scope} {N : List Str} {e : Expr} (h : chk T (.notE a) sc N e = true) : ∃ x p, e = .UnaryOp .Not x p ∧ chk T a sc N x = true := by
  cases e with
  | UnaryOp o x p =>
    cases o with
    | Not => exact ⟨x, p, rfl, by simpa only [chk] using h⟩
    | _ => simp [chk] at h
  | _ => simp [chk] at h
theorem chk_and {a b : C} {sc : Scope} {N : List Str} {e : Expr} (h : chk T (.andE a b) sc N e = true) : ∃ x y l p, e = .BoolOp .And (x :: y :: l) p ∧ chk T a sc N x = true ∧ (if isNil l then chk T b sc N y else chk T b sc N (.BoolOp .And (y :: l) p)) = true := by
  cases e with
  | BoolOp o es p =>
    cases o with
    | And =>
      match es, h with
      | x :: y :: l, h =>
        simp only [chk, Bool.and_eq_true] at h
        exact ⟨x, y, l, p, rfl, h.1, h.2⟩
      | [], h => simp [chk] at h
      | [_], h => simp [chk] at h
    | Or => simp [chk] at h
  | _ => simp [chk] at h
theorem chk_or {a b : C} {sc : Scope} {N : List Str} {e : Expr} (h : chk T (.orE a b) sc N e = true) : ∃ x y l p, e = .BoolOp .Or (x :: y :: l) p ∧ chk T a sc N x = true ∧ (if isNil l then chk T b sc N y else chk T b sc N (.BoolOp .Or (y :: l) p)) = true := by
  cases e with
  | BoolOp o es p =>
    cases o with
    | Or =>
      match es, h with
      | x :: y :: l, h =>
        simp only [chk, Bool.and_eq_true] at h
        exact ⟨x, y, l, p, rfl, h.1, h.2⟩
      | [], h => simp [chk] at h
      | [_], h => simp [chk] at h
    | And => simp [chk] at h
  | _ => simp [chk] at h
theorem chk_ife {c a b : C} {sc : Scope} {N : List Str} {e : Expr} (h : chk T (.ife c a b) sc N e = true) : ∃ x y z p, e = .IfExp x y z p ∧ chk T c sc N x = true ∧ chk T a sc N y = true ∧ chk T b sc N z = true := by
  cases e with
  | IfExp x y z p =>
    simp only [chk, Bool.and_eq_true] at h
    exact ⟨x, y, z, p, rfl, h.1.1, h.1.2, h.2⟩
  | _ => simp [chk] at h
theorem snd_not {a : C} (ha : Snd T cf lf CX k a) : Snd T cf lf CX k (.notE a) := by
  refine ⟨fun X ok fa e h σD R R' M P F σ H rv r er q hm => ?_, fun X ok fa es p h => by simp [chk] at h, fun X ok fa e h σD R R' M P F σ H rv b r er q hm ht => ?_⟩
  · obtain ⟨x, p, rfl, h⟩ := chk_not h
    simp only [ev] at q
    obtain ⟨dx, R1, q1, m1, q⟩ := bindV_ok q
    obtain ⟨bb, q2, rfl, rfl⟩ := liftO_ok q
    refine we_of (pe_notT pe_w) (we_mono ((ha.v X ok fa _ h).d r er q1 m1) fun vx H1 ⟨F1, e1, r1, v1⟩ => ?_)
    exact ⟨bb, r1.truth v1 q2, F1, e1, r1, .inr (.bl _)⟩
  · obtain ⟨x, p, rfl, h⟩ := chk_not h
    simp only [ev] at q
    obtain ⟨dx, R1, q1, m1, q⟩ := bindV_ok q
    obtain ⟨bb, q2, rfl, rfl⟩ := liftO_ok q
    cases ht
    exact wt_of (pt_not pt_w) (wt_mono (ha.t X ok fa _ h σD R R' M P F σ H dx bb r er q1 m1 q2) fun b' H1 ⟨e0, F1, e1, r1⟩ => ⟨by rw [e0], F1, e1, r1⟩)
theorem pw_bool {X : Cx} {op : BoolOp} {es : List Expr} {p : Pos} : PW X (.BoolOp op es p) (WT X (.BoolOp op es p)) := ⟨fun wh pins s σ H Q I h => by
  have g := h pins s I
  rw [arm_isTrue_BoolOp] at g ⊢
  exact g⟩
theorem chkTail {X : Cx} {op : BoolOp} {b : C} {y : Expr} {l : List Expr} {p : Pos} (h : (if isNil l then chk T b X.env.scope X.N y else chk T b X.env.scope X.N (.BoolOp op (y :: l) p)) = true) : (l = [] ∧ chk T b X.env.scope X.N y = true) ∨ (chk T b X.env.scope X.N (.BoolOp op (y :: l) p) = true) := by
  cases l with
  | nil => exact .inl ⟨rfl, h⟩
  | cons _ _ => exact .inr h
theorem snd_and {a b : C} (ha : Snd T cf lf CX k a) (hb : Snd T cf lf CX k b) : Snd T cf lf CX k (.andE a b) := by
  refine ⟨fun X ok fa e h σD R R' M P F σ H rv r er q hm => ?_, fun X ok fa es p h => by simp [chk] at h, fun X ok fa e h σD R R' M P F σ H rv bb r er q hm ht => ?_⟩
  · obtain ⟨x, y, l, p, rfl, h1, h2⟩ := chk_and h
    simp only [ev] at q
    obtain ⟨dx, R1, q1, m1, q⟩ := bindV_ok q
    have rd : ∀ t : TE, (∀ (F1 : Hp) (H1 : Hp), Ex F F1 → Rel X.K M R1 P F1 H1 → truth R1 (fz dx) = some true → t σ H1 (PV X M R' P F rv)) → tAndT X.K (WE X x) t σ H (PV X M R' P F rv) := fun t ht => by
      refine we_mono ((ha.v X ok fa _ h1).d r er q1 m1) fun vx H1 ⟨F1, e1, r1, v1⟩ => ?_
      cases q2 : truth R1 (fz dx) with
      | none => rw [q2] at q; cases q
      | some k1 =>
        rw [q2] at q
        refine ⟨k1, r1.truth v1 q2, ?_⟩
        cases k1 with
        | true => exact iteT (ht F1 H1 e1 r1 q2)
        | false =>
          cases q
          exact iteF ⟨F1, e1, r1, v1⟩
    have tl : ∀ (F1 : Hp) (H1 : Hp) (z : Expr), Ex F F1 → Rel X.K M R1 P F1 H1 → truth R1 (fz dx) = some true → chk T b X.env.scope X.N z = true → WE X z σ H1 (PV X M R' P F rv) := fun F1 H1 z e1 r1 q2 hz => by
      rw [q2] at q
      exact we_mono (hb.v X ok fa z hz σD R1 R' M P F1 σ H1 rv r1 (er.mono e1) q hm) fun v H' ⟨F', e2, r2, v2⟩ => ⟨F', e1.trans e2, r2, v2⟩
    rcases chkTail h2 with ⟨rfl, h2⟩ | h2
    · exact we_of (pe_andT pe_w (pe_one pe_w)) (rd _ fun F1 H1 e1 r1 q2 => tl F1 H1 y e1 r1 q2 h2)
    · exact we_of (pe_andT pe_w pe_w) (rd _ fun F1 H1 e1 r1 q2 => tl F1 H1 _ e1 r1 q2 h2)
  · obtain ⟨x, y, l, p, rfl, h1, h2⟩ := chk_and h
    simp only [ev] at q
    obtain ⟨dx, R1, q1, m1, q⟩ := bindV_ok q
    have rd : ∀ t : TT, (∀ (F1 : Hp) (H1 : Hp), Ex F F1 → Rel X.K M R1 P F1 H1 → truth R1 (fz dx) = some true → t σ H1 (PB X M R' P F bb)) → tAnd (WT X x) t σ H (PB X M R' P F bb) := fun t htt => by
      cases q2 : truth R1 (fz dx) with
      | none => rw [q2] at q; cases q
      | some k1 =>
        refine wt_mono (ha.t X ok fa _ h1 σD R R1 M P F σ H dx k1 r er q1 m1 q2) fun b' H1 ⟨e0, F1, e1, r1⟩ => ?_
        subst e0
        rw [q2] at q
        cases b' with
        | true => exact iteT (htt F1 H1 e1 r1 q2)
        | false =>
          cases q
          rw [show fz (.val (fz dx)) = fz dx from rfl, q2] at ht
          cases ht
          exact iteF ⟨rfl, F1, e1, r1⟩
    have tl : ∀ (F1 : Hp) (H1 : Hp) (z : Expr), Ex F F1 → Rel X.K M R1 P F1 H1 → truth R1 (fz dx) = some true → chk T b X.env.scope X.N z = true → WT X z σ H1 (PB X M R' P F bb) := fun F1 H1 z e1 r1 q2 hz => by
      rw [q2] at q
      exact wt_mono (hb.t X ok fa z hz σD R1 R' M P F1 σ H1 rv bb r1 (er.mono e1) q hm ht) fun v H' ⟨e0, F', e2, r2⟩ => ⟨e0, F', e1.trans e2, r2⟩
    rcases chkTail h2 with ⟨rfl, h2⟩ | h2
    · exact wt_of (PW.pt (pw_and pt_w (pw_and1 pt_w))) (rd _ fun F1 H1 e1 r1 q2 => tl F1 H1 y e1 r1 q2 h2)
    · exact wt_of (PW.pt (pw_and pt_w pw_bool)) (rd _ fun F1 H1 e1 r1 q2 => tl F1 H1 _ e1 r1 q2 h2)
theorem snd_or {a b : C} (ha : Snd T cf lf CX k a) (hb : Snd T cf lf CX k b) : Snd T cf lf CX k (.orE a b) := by
  refine ⟨fun X ok fa e h σD R R' M P F σ H rv r er q hm => ?_, fun X ok fa es p h => by simp [chk] at h, fun X ok fa e h σD R R' M P F σ H rv bb r er q hm ht => ?_⟩
  · obtain ⟨x, y, l, p, rfl, h1, h2⟩ := chk_or h
    simp only [ev] at q
    obtain ⟨dx, R1, q1, m1, q⟩ := bindV_ok q
    have rd : ∀ t : TE, (∀ (F1 : Hp) (H1 : Hp), Ex F F1 → Rel X.K M R1 P F1 H1 → truth R1 (fz dx) = some false → t σ H1 (PV X M R' P F rv)) → tOrT X.K (WE X x) t σ H (PV X M R' P F rv) := fun t ht => by
      refine we_mono ((ha.v X ok fa _ h1).d r er q1 m1) fun vx H1 ⟨F1, e1, r1, v1⟩ => ?_
      cases q2 : truth R1 (fz dx) with
      | none => rw [q2] at q; cases q
      | some k1 =>
        rw [q2] at q
        refine ⟨k1, r1.truth v1 q2, ?_⟩
        cases k1 with
        | false => exact iteF (ht F1 H1 e1 r1 q2)
        | true =>
          cases q
          exact iteT ⟨F1, e1, r1, v1⟩
    have tl : ∀ (F1 : Hp) (H1 : Hp) (z : Expr), Ex F F1 → Rel X.K M R1 P F1 H1 → truth R1 (fz dx) = some false → chk T b X.env.scope X.N z = true → WE X z σ H1 (PV X M R' P F rv) := fun F1 H1 z e1 r1 q2 hz => by
      rw [q2] at q
      exact we_mono (hb.v X ok fa z hz σD R1 R' M P F1 σ H1 rv r1 (er.mono e1) q hm) fun v H' ⟨F', e2, r2, v2⟩ => ⟨F', e1.trans e2, r2, v2⟩
    rcases chkTail h2 with ⟨rfl, h2⟩ | h2
    · exact we_of (pe_orT pe_w (pe_one pe_w)) (rd _ fun F1 H1 e1 r1 q2 => tl F1 H1 y e1 r1 q2 h2)
    · exact we_of (pe_orT pe_w pe_w) (rd _ fun F1 H1 e1 r1 q2 => tl F1 H1 _ e1 r1 q2 h2)
  · obtain ⟨x, y, l, p, rfl, h1, h2⟩ := chk_or h
    simp only [ev] at q
    obtain ⟨dx, R1, q1, m1, q⟩ := bindV_ok q
    have rd : ∀ t : TT, (∀ (F1 : Hp) (H1 : Hp), Ex F F1 → Rel X.K M R1 P F1 H1 → truth R1 (fz dx) = some false → t σ H1 (PB X M R' P F bb)) → tOr (WT X x) t σ H (PB X M R' P F bb) := fun t htt => by
      cases q2 : truth R1 (fz dx) with
      | none => rw [q2] at q; cases q
      | some k1 =>
        refine wt_mono (ha.t X ok fa _ h1 σD R R1 M P F σ H dx k1 r er q1 m1 q2) fun b' H1 ⟨e0, F1, e1, r1⟩ => ?_
        subst e0
        rw [q2] at q
        cases b' with
        | false => exact iteF (htt F1 H1 e1 r1 q2)
        | true =>
          cases q
          rw [show fz (.val (fz dx)) = fz dx from rfl, q2] at ht
          cases ht
          exact iteT ⟨rfl, F1, e1, r1⟩
    have tl : ∀ (F1 : Hp) (H1 : Hp) (z : Expr), Ex F F1 → Rel X.K M R1 P F1 H1 → truth R1 (fz dx) = some false → chk T b X.env.scope X.N z = true → WT X z σ H1 (PB X M R' P F bb) := fun F1 H1 z e1 r1 q2 hz => by
      rw [q2] at q
      exact wt_mono (hb.t X ok fa z hz σD R1 R' M P F1 σ H1 rv bb r1 (er.mono e1) q hm ht) fun v H' ⟨e0, F', e2, r2⟩ => ⟨e0, F', e1.trans e2, r2⟩
    rcases chkTail h2 with ⟨rfl, h2⟩ | h2
    · exact wt_of (PW.pt (pw_or pt_w (pw_or1 pt_w))) (rd _ fun F1 H1 e1 r1 q2 => tl F1 H1 y e1 r1 q2 h2)
    · exact wt_of (PW.pt (pw_or pt_w pw_bool)) (rd _ fun F1 H1 e1 r1 q2 => tl F1 H1 _ e1 r1 q2 h2)

/-! ### a if c else b -/
theorem pt_ifExp {X : Cx} {c a b : Expr} {pos : Pos} {tc ta tb : TT} (hc : PT X c tc) (ha : PT X a ta) (hb : PT X b tb) : PT X (.IfExp c a b pos) (fun σ H Q => tc σ H fun k H1 => if k = true then ta σ H1 Q else tb σ H1 Q) := by
  refine ⟨fun pins s σ H Q I h => ?_⟩
  rw [arm_isTrue_IfExp]
  refine wpAny_bind (thn (hc.run pins s σ H _ I h) fun k s1 ⟨H1, I1, q1⟩ => ?_)
  cases k with
  | true => exact ha.run pins s1 σ H1 Q I1 q1
  | false => exact hb.run pins s1 σ H1 Q I1 q1
theorem snd_ife {c a b : C} (hc : Snd T cf lf CX k c) (ha : Snd T cf lf CX k a) (hb : Snd T cf lf CX k b) : Snd T cf lf CX k (.ife c a b) := by
  refine ⟨fun X ok fa e h σD R R' M P F σ H rv r er q hm => ?_, fun X ok fa es p h => by simp [chk] at h, fun X ok fa e h σD R R' M P F σ H rv bb r er q hm ht => ?_⟩
  · obtain ⟨x, y, z, p, rfl, h1, h2, h3⟩ := chk_ife h
    simp only [ev] at q
    obtain ⟨dx, R1, q1, m1, q⟩ := bindV_ok q
    cases q2 : truth R1 (fz dx) with
    | none => rw [q2] at q; cases q
    | some k1 =>
      rw [q2] at q
      refine we_of (pe_ifExp pt_w pe_w pe_w) (wt_mono (hc.t X ok fa _ h1 σD R R1 M P F σ H dx k1 r er q1 m1 q2) fun b' H1 ⟨e0, F1, e1, r1⟩ => ?_)
      subst e0
      cases b' with
      | true => exact iteT (we_mono (ha.v X ok fa y h2 σD R1 R' M P F1 σ H1 rv r1 (er.mono e1) q hm) fun v H' ⟨F', e2, r2, v2⟩ => ⟨F', e1.trans e2, r2, v2⟩)
      | false => exact iteF (we_mono (hb.v X ok fa z h3 σD R1 R' M P F1 σ H1 rv r1 (er.mono e1) q hm) fun v H' ⟨F', e2, r2, v2⟩ => ⟨F', e1.trans e2, r2, v2⟩)
  · obtain ⟨x, y, z, p, rfl, h1, h2, h3⟩ := chk_ife h
    simp only [ev] at q
    obtain ⟨dx, R1, q1, m1, q⟩ := bindV_ok q
    cases q2 : truth R1 (fz dx) with
    | none => rw [q2] at q; cases q
    | some k1 =>
      rw [q2] at q
      refine wt_of (pt_ifExp pt_w pt_w pt_w) (wt_mono (hc.t X ok fa _ h1 σD R R1 M P F σ H dx k1 r er q1 m1 q2) fun b' H1 ⟨e0, F1, e1, r1⟩ => ?_)
      subst e0
      cases b' with
      | true => exact iteT (wt_mono (ha.t X ok fa y h2 σD R1 R' M P F1 σ H1 rv bb r1 (er.mono e1) q hm ht) fun v H' ⟨e0, F', e2, r2⟩ => ⟨e0, F', e1.trans e2, r2⟩)
      | false => exact iteF (wt_mono (hb.t X ok fa z h3 σD R1 R' M P F1 σ H1 rv bb r1 (er.mono e1) q hm ht) fun v H' ⟨e0, F', e2, r2⟩ => ⟨e0, F', e1.trans e2, r2⟩)

/-! ### isinstance, slices -/
theorem Rel.ty {X : Cx} {M : Mp} {R : Sto} {P : Ps} {F H : Hp} {d : D} {v : V} {t : Ty} (r : Rel X.K M R P F H) (h : Vr X.K M F d v) (e : tyD R d = some t) : TyX X.K H v (.type t.nm) := by
  cases d with
  | non => cases e; cases h.non; exact .base .non
  | bl b => cases e; cases h.bl; exact .base (.bl _)
  | int i => cases e; cases h.int; exact .base (.int _)
  | str x => cases e; cases h.str; exact .base (.str _)
  | tup ds =>
    cases e
    obtain ⟨a, vs, rfl, h1, h2⟩ := h.tup
    rcases h1 with (h1 | ⟨o, h1⟩) | ⟨o, its, n, h1, h3, _⟩
    · exact .base (.tup (r.ex _ _ h1))
    · exact .fTuple (r.ex _ _ h1)
    · exact .kTuple h1 h3
  | lst ds =>
    cases e
    obtain ⟨a, vs, rfl, h1, h2⟩ := h.lst
    exact .base (.lst (r.ex _ _ h1))
  | dct ks ds =>
    cases e
    obtain ⟨a, vs, rfl, h1, h2⟩ := h.dct
    exact .base (.dK (r.ex _ _ h1))
  | dcT ks ds =>
    cases e
    obtain ⟨a, vs, rfl, h1, h2⟩ := h.dcT
    exact .base (.dT (r.ex _ _ h1))
  | ktp ds =>
    cases e
    obtain ⟨a, vs, rfl, h1, h2⟩ := h.ktp
    rcases h1 with (h1 | ⟨o, h1⟩) | ⟨o, its, n, h1, h3, _⟩
    · exact .base (.tup (r.ex _ _ h1))
    · exact .fTuple (r.ex _ _ h1)
    · exact .kTuple h1 h3
  | _ => cases e
theorem kit_own {X : Cx} {c : Nat} {C : Addr} (h : ClsA X.K c C) (t : Ty) : PySem.W.kitOne X.K (.ref C) (.type t.nm) = some false := by
  unfold PySem.W.kitOne
  rw [if_neg (by simp)]
  unfold PySem.W.kitCls
  have : PySem.W.kitMeta t.nm = true := by cases t <;> decide +kernel
  dsimp only
  rw [if_pos this]
  obtain ⟨cd, h1, h2, _⟩ := h.mro
  show PySem.W.mroIn X.K C (.type t.nm) = _
  unfold PySem.W.mroIn
  rw [h1, Option.bind_some, h2]
  cases t <;> simp [Ty.nm]
theorem isi_go {X : Cx} {M : Mp} {R : Sto} {P : Ps} {F H : Hp} {x : D} {v : V} {t : Ty} {rv : Rv} {R' : Sto} {Q : VK} (r : Rel X.K M R P F H) (hv : Vr X.K M F x v)
    (q : isiX t x R = .ok rv R') (kq : ∀ b, rv = .val (.bl b) → R' = R → Q (.bl b) H) : WC X (.builtin "isinstance") [v, .ty t.nm] H Q := by
  have plain : ∀ {u : Ty}, TyX X.K H v (.type u.nm) → .ok (.val (.bl (u.isi t))) R = Out.ok rv R' → WC X (.builtin "isinstance") [v, .ty t.nm] H Q := fun {u} ht e => by
    cases e
    exact wc_of call_isi ⟨v, .ty t.nm, .type u.nm, .type t.nm, u.isi t, rfl, .ty _, ht, kit_ty (Ty.kit u t), kq _ rfl rfl⟩
  cases x with
  | obj c ns ds =>
    cases q
    obtain ⟨a, C, dx, vs, us, rfl, h1, h2, h3, h4⟩ := hv.obj
    exact wc_of (SlX.call_isiSl (.type t.nm)) ⟨a, C, dx, vs, .ty t.nm, false, rfl, rfl, fun w hw => hw, (r.ex.slo h2).slt, h1.sc, h1.si, kit_own h1 t, kq _ rfl rfl⟩
  | _ =>
    simp only [isiX] at q
    obtain ⟨u, q2, e1, e2⟩ := liftO_ok q
    subst e1
    subst e2
    exact plain (r.ty hv q2) rfl
theorem snd_isi {a : C} (t : Ty) (ha : Snd T cf lf CX k a) : Snd T cf lf CX k (.isi a t) := by
  refine .of (fun X ok fa e h => ?_) (fun sc N e h => ?_) (fun sc N es p h => by simp [chk] at h)
  · cases e with
    | Call g es kws p =>
      cases g with
      | Name x px =>
        have inv : ∃ y z pz, es = [y, .Name z pz] ∧ kws = [] := by
          match es, kws, h with
          | [y, .Name z pz], [], _ => exact ⟨y, z, pz, rfl, rfl⟩
          | [], _, h => simp [chk] at h
          | [_], _, h => simp [chk] at h
          | _ :: _ :: _ :: _, _, h => simp [chk] at h
          | [_, w], _ :: _, h => cases w <;> simp [chk] at h
          | [y, w], [], h =>
            cases w with
            | Name z pz => exact ⟨y, z, pz, rfl, rfl⟩
            | _ => simp [chk] at h
        obtain ⟨y, z, pz, rfl, rfl⟩ := inv
        simp only [chk, Bool.and_eq_true] at h
        obtain ⟨⟨⟨⟨⟨⟨⟨⟨h1, h2⟩, h3⟩, h4⟩, h5⟩, h6⟩, h7⟩, h8⟩, h9⟩ := h
        cases of_decide_eq_true h1
        cases of_decide_eq_true h6
        intro σD R R' M P F σ H rv r er q hm
        simp only [ev] at q
        obtain ⟨dx, R1, q1, m1, q⟩ := bindV_ok q
        obtain ⟨g1, g2, g3⟩ := gl_of h5
        obtain ⟨g4, g5, g6⟩ := gl_of h7
        obtain ⟨b1, b2, b3⟩ := t.boot h4
        have pz : PE X (.Name (Str.ofString t.nm) pz) (tC (.ty t.nm)) := pe_bltn g4 (fa.bl _ (of_decide_eq_true h3)) b1 rfl g6 g5
        refine we_of (pe_callB (callr_w (f := .builtin "isinstance")) g1 (fa.bl _ (of_decide_eq_true h2)) (by decide +kernel) (pa_cons pe_w (pa_cons pz pa_nil (star_cons rfl)) (star_cons (nobool h8))) g3 g2 (star_cons (nobool h8)) (any_star (.cons rfl .nil))) ?_
        refine we_mono ((ha.v X ok fa _ h9).d r er q1 m1) fun vx H1 ⟨F1, e1, r1, v1⟩ => ?_
        exact isi_go r1 v1 q fun b e e2 => by
          subst e
          subst e2
          exact ⟨F1, e1, r1, .inr (.bl _)⟩
      | _ => simp [chk] at h
    | _ => simp [chk] at h
  · cases e <;> first | rfl | simp [chk] at h
end
end EV

/-! EvL: slots, properties, methods, new instances, isinstance of own classes, dicts. -/
namespace EV
open PySem PySem.Spec PyProof.Rows L2

theorem abase {o : Expr} {m : Str} {env : Env} (h : supB o = false) : attributeBase o m env (eval o env) = eval o env := by
  cases o with
  | Call f es ks p =>
    cases f with
    | Name id q =>
      cases es with
      | nil =>
        cases ks with
        | nil =>
          refine abase_call ?_
          have h : (id == ("super" : Str)) = false := h
          show (!(id == ("super" : Str))) = true
          rw [h]
          rfl
        | cons _ _ => rfl
      | cons _ _ => rfl
    | _ => rfl
  | _ => rfl
theorem few_of {env : Env} {pos : Pos} : ∀ {es : List Expr}, NoStar es → (backTo pos (starEach es env)).all (fun x => !x.1) = true
  | [], .nil => rfl
  | e :: es, .cons h t => by
    rw [star_cons h]
    show (true && (backTo pos (starEach es env)).all (fun x => !x.1)) = true
    rw [few_of t]
    rfl
theorem mcall {o : Expr} {m : Str} {apos pos : Pos} {es : List Expr} {env : Env} (hb : supB o = false) (hs : NoStar es) (hl : (apos.endLine == pos.line) = true) (h30 : es.length < 30) :
    eval (.Call (.Attribute o m apos) es [] pos) env = (do
      let ov ← eval o env
      standAt apos.atName
      let (f, first) ← holding [ov] (getMethod ov m (do return (← importBound o env).getD true))
      callWith pos f first (backTo pos (starEach es env)) (backToKw pos (keywordEach [] env))) := by
  refine mcall_of (abase hb) fun ov => ?_
  have hform : methodCallForm (es.length + ([] : List Keyword).length) (backTo pos (starEach es env)) (backToKw pos (keywordEach [] env)) = true := by
    unfold methodCallForm
    rw [few_of hs]
    simp [keywordEach, backToKw, h30]
  have hpos : methodCallPos true o env apos pos = pure pos := by unfold methodCallPos; simp [hl]
  unfold methodCall
  rw [hform]
  simp only [calleeOf, if_true, hpos, pure_bind]
section
variable {T : Tb} {cf : Cf} {lf k : Nat} {CX : CXT} {c : C}
theorem lookD_get {K : PySem.W.Frag} {F : Hp} : ∀ {ns : List Nat} {ds : List D} {us : List V} {f : Nat} {d : D}, lookD ns ds f = some d → DenL K F ds us → ns.length = us.length → ∃ (j : Nat) (u : V), ns[j]? = some f ∧ us[j]? = some u ∧ Den K F d u
  | [], _, _, _, _, h, _, _ => by simp [lookD] at h
  | _ :: _, [], _, _, _, h, _, _ => by simp [lookD] at h
  | n :: ns, d :: ds, u :: us, f, d', h, .cons hd ht, hl => by
    simp only [lookD] at h
    split at h
    · rename_i e
      cases h
      subst e
      exact ⟨0, u, rfl, rfl, hd⟩
    · obtain ⟨j, u', h1, h2, h3⟩ := lookD_get h ht (by simpa using hl)
      exact ⟨j + 1, u', h1, h2, h3⟩
/-- a slot is read -/
theorem fldD_ok {X : Cx} {M : Mp} {R : Sto} {P : Ps} {F H : Hp} {x d : D} {f : Nat} {v : V} (r : Rel X.K M R P F H) (hv : Vr X.K M F x v) (h : fldD R x f = some d) :
    ∃ a C dx vs p i u, v = .ref a ∧ SlX.Slt H a C dx vs ∧ SlX.SCls X.K C ∧ SlX.Slot1 X.K C (nmN f) p i ∧ vs[i]? = some (some u) ∧ Den X.K F d u := by
  have obj : ∀ {c ns ds}, Den X.K F (.obj c ns ds) v → lookD ns ds f = some d → ∃ a C dx vs p i u, v = .ref a ∧ SlX.Slt H a C dx vs ∧ SlX.SCls X.K C ∧ SlX.Slot1 X.K C (nmN f) p i ∧ vs[i]? = some (some u) ∧ Den X.K F d u := fun {c ns ds} hd hl => by
    cases hd with
    | obj h1 h2 h3 h4 =>
      obtain ⟨j, u, e1, e2, e3⟩ := lookD_get hl h4 h3.1.symm
      obtain ⟨p, i, s1, s2⟩ := h3.2 j f u e1 e2
      exact ⟨_, _, _, _, p, i, u, rfl, (r.ex.slo h2).slt, h1.sc, s1, s2, e3⟩
  cases x with
  | obj c ns ds =>
    rcases hv with ⟨_, _, e, _⟩ | hv
    · cases e
    · exact obj hv h
  | ref j i =>
    have := hv.ref
    subst this
    simp only [fldD] at h
    split at h
    · rename_i c ns ds hs
      obtain ⟨_, C, dx, vs, us, h1, h2, h3, h4⟩ := r.ob j i _ hs
      obtain ⟨j', u, e1, e2, e3⟩ := lookD_get h h4 h3.1.symm
      obtain ⟨p, i', s1, s2⟩ := h3.2 j' f u e1 e2
      exact ⟨_, _, _, _, p, i', u, rfl, h2.slo.slt, h1.sc, s1, s2, e3⟩
    · rename_i c ns ds hs
      exact obj (r.ob j i _ hs) h
    · cases h
  | _ => cases h
theorem snd_fld {a : C} (f : Nat) (ha : Snd T cf lf CX k a) : Snd T cf lf CX k (.fld a f) := by
  refine .of (fun X ok fa e h => ?_) (fun sc N e h => ?_) (fun sc N es p h => by simp [chk] at h)
  · cases e with
    | Attribute x m p =>
      simp only [chk, Bool.and_eq_true] at h
      obtain ⟨⟨h0, h1⟩, h2⟩ := h
      cases of_decide_eq_true h1
      intro σD R R' M P F σ H rv r er q hm
      simp only [ev] at q
      obtain ⟨x, R1, q1, m1, q⟩ := bindV_ok q
      obtain ⟨d, q2, rfl, rfl⟩ := liftO_ok q
      refine we_of (SlX.pe_sl pe_w (abase (nobool h0))) ?_
      refine we_mono ((ha.v X ok fa _ h2).d r er q1 m1) fun vx H1 ⟨F1, e1, r1, v1⟩ => ?_
      obtain ⟨a, C, dx, vs, p, i, u, rfl, g1, g2, g3, g4, g5⟩ := fldD_ok r1 v1 q2
      exact ⟨a, C, dx, p, vs, i, u, rfl, g1, g2, g3, g4, F1, e1, r1, .inr g5⟩
    | _ => simp [chk] at h
  · cases e <;> first | rfl | simp [chk] at h
/-- a property is read -/
theorem snd_prp {a : C} (f : Nat) (ha : Snd T cf lf CX k a) : Snd T cf lf CX k (.prp a f) := by
  refine .of (fun X ok fa e h => ?_) (fun sc N e h => ?_) (fun sc N es p h => by simp [chk] at h)
  · cases e with
    | Attribute x m p =>
      simp only [chk, Bool.and_eq_true] at h
      obtain ⟨⟨⟨h0, h3⟩, h1⟩, h2⟩ := h
      cases of_decide_eq_true h1
      intro σD R R' M P F σ H rv r er q hm
      simp only [ev] at q
      obtain ⟨x, R1, q1, m1, q⟩ := bindV_ok q
      cases hx : fz x with
      | obj c ns ds =>
        rw [hx] at q
        dsimp only at q
        intro pins s I
        refine attr_of (abase (nobool h0)) (thn ((ha.v X ok fa _ h2).d r er q1 m1 pins s I) fun u s1 ⟨v, H1, I1, rx, F1, e1, r1, v1⟩ => ?_)
        rw [hx] at v1
        obtain ⟨d, rr, c', g, e, hc, hg, q'⟩ := fa.dp f _ R1 rv R' (of_decide_eq_true h3) q
        cases e
        cases hc
        obtain ⟨b, C, dx, vs, us, rfl, g1, g2, g3, g4⟩ := v1.obj
        obtain ⟨p, a', rest, p1, p2, p3, p4, p5⟩ := fa.pr c f g hg C g1
        obtain rfl : u = Value.ref b := rx
        refine SlX.getprop_sl I1 (r1.ex.slo g2).slt g1.sc p1 p2 p3 ⟨rest, p4⟩ p5 (ok.room.mono (by omega)) (E := E0) ?_ ?_
        · exact fun H s e s' z => ok.nex _ H s e s' z
        · exact own_sp q' (.cons v1 .nil) r1 fun v F' H' e3 r3 h => ⟨F', e1.trans e3, r3, h⟩
      | _ => rw [hx] at q; cases q
    | _ => simp [chk] at h
  · cases e <;> first | rfl | simp [chk] at h
theorem we_nil {X : Cx} {as : C} {es : List Expr} {σD : List (Option D)} {R R1 : Sto} {M : Mp} {P : Ps} {F H : Hp} {ds : List D} (h3 : chk T as X.env.scope X.N (.List [] p0) = true) (q1 : ev cf lf as σD R = .ok (.many ds) R1) : ds = [] ∧ R1 = R := by
  cases as with
  | nil =>
    simp only [ev] at q1
    cases q1
    exact ⟨rfl, rfl⟩
  | cons _ _ => simp [chk] at h3
  | lst _ =>
    simp only [ev] at q1
    obtain ⟨_, _, _, q1⟩ := bindA_ok q1
    split at q1
    · split at q1 <;> cases q1
    · cases q1
  | _ => simp [chk] at h3
theorem VrL.append {K : PySem.W.Frag} {M : Mp} {F : Hp} : ∀ {ds es : List D} {vs us : List V}, VrL K M F ds vs → VrL K M F es us → VrL K M F (ds ++ es) (vs ++ us)
  | _, _, _, _, .nil, h => h
  | _, _, _, _, .cons h t, h2 => .cons h (VrL.append t h2)
theorem VrL.ofDen {K : PySem.W.Frag} {M : Mp} {F : Hp} : ∀ {ds : List D} {vs : List V}, DenL K F ds vs → VrL K M F ds vs
  | _, _, .nil => .nil
  | _, _, .cons h t => .cons (.inr h) (VrL.ofDen t)
theorem den0 {K : PySem.W.Frag} {F : Hp} {ds : List D} {vs : List V} (h : DenL K (fun _ => none) ds vs) : DenL K F ds vs := h.mono fun a o (z : none = some o) => by cases z
/-- a def called, defaults filled up -/
theorem snd_callD (f : Nat) (dv : List D) {as : C} (hs : Snd T cf lf CX k as) : Snd T cf lf CX k (.callD f as dv) := by
  refine .of (fun X ok fa e h => ?_) (fun sc N e h => ?_) (fun sc N es p h => by simp [chk] at h)
  · cases e with
    | Call g es kws p =>
      cases g with
      | Name x px =>
        cases kws with
        | nil =>
          simp only [chk, Bool.and_eq_true] at h
          obtain ⟨⟨⟨h1, h0⟩, h2⟩, h3⟩ := h
          intro σD R R' M P F σ H rv r er q hm
          simp only [ev] at q
          obtain ⟨ds, R1, q1, q⟩ := bindA_ok q
          obtain ⟨a, fd, ps, dvs, vvs, f1, f2, f3, f5, f6, f4⟩ := fa.df f x dv (of_decide_eq_true h1) h0
          obtain ⟨g1, g2, _⟩ := gl_of h2
          have ns := chkA_noStar h3 ⟨_, _, _, _, q1⟩
          have W := hs.a X ok fa es p0 h3 σD R R1 M P F σ H ds r er q1
          have fin : ∀ vs H1, PL X M R1 P F ds vs H1 → spC X.K cf f (vs ++ vvs) H1 (PV X M R' P F rv) E0 := fun vs H1 ⟨F1, e1, r1, v1⟩ =>
            ⟨ds ++ dv, M, R1, P, F1, rv, R', q, v1.append (.ofDen (den0 f6)), r1, fun v F' H' e2 r2 h => ⟨F', e1.trans e2, r2, h⟩⟩
          cases ns with
          | nil =>
            obtain ⟨rfl, rfl⟩ := we_nil (X := X) (es := []) (M := M) (P := P) (F := F) (H := H) h3 q1
            exact we_of (pe_call0 f4 (ok.room.mono (by omega)) g1 f1 f2 f3 f5 (ok.pass X rfl rfl) g2) (fin [] H ⟨F, .refl F, r, .nil⟩)
          | cons hn ns =>
            exact we_of (pe_call f4 (ok.room.mono (by omega)) g1 f1 f2 f3 f5 (ok.pass X rfl rfl) pa_w g2 (star_cons hn) (any_star ns)) (wa_mono W fin)
        | cons _ _ => simp [chk] at h
      | _ => simp [chk] at h
    | _ => simp [chk] at h
  · cases e <;> first | rfl | simp [chk] at h
/-- o.m(..) -/
theorem snd_mth {a : C} (m : Nat) {as : C} (ha : Snd T cf lf CX k a) (hs : Snd T cf lf CX k as) : Snd T cf lf CX k (.mth a m as) := by
  refine .of (fun X ok fa e h => ?_) (fun sc N e h => ?_) (fun sc N es p h => by simp [chk] at h)
  · cases e with
    | Call g es kws p =>
      cases g with
      | Attribute x n ap =>
        cases kws with
        | nil =>
          simp only [chk, Bool.and_eq_true] at h
          obtain ⟨⟨⟨⟨⟨⟨h0, h1⟩, h2⟩, h3⟩, h4⟩, h5⟩, h6⟩ := h
          cases of_decide_eq_true h4
          intro σD R R' M P F σ H rv r er q hm
          simp only [ev] at q
          obtain ⟨x', R1, q1, m1, q⟩ := bindV_ok q
          cases hx : fz x' with
          | obj c ns ds =>
            rw [hx] at q
            dsimp only at q
            obtain ⟨es', R2, q2, q⟩ := bindA_ok q
            have nst := chkA_noStar h6 ⟨_, _, _, _, q2⟩
            have ht := mcall (m := nmN m) (env := X.env) (nobool h0) nst h1 (of_decide_eq_true h2)
            intro pins s I
            refine PySem.W.methodCall_KW (thn ((ha.v X ok fa _ h5).d r er q1 m1 pins s I) fun u s1 ⟨v, H1, I1, rx, F1, e1, r1, v1⟩ => ?_) ht
            rw [hx] at v1
            obtain ⟨d, rr, c', g, e, hc, hg, q'⟩ := fa.dm m _ R2 rv R' (of_decide_eq_true h3) q
            cases e
            cases hc
            obtain ⟨b, C, dx, vs, us, rfl, g1, g2, g3, g4⟩ := v1.obj
            obtain ⟨a', p1, p2⟩ := fa.me c m g hg C g1
            obtain rfl : u = Value.ref b := rx
            refine SlX.getmethsl_ok I1 (r1.ex.slo g2).slt g1.sc p1 ?_
            have W := hs.a X ok fa es p0 h6 σD R1 R2 M P F1 σ H1 es' r1 (er.mono e1) q2
            have fin : ∀ (us : List Value) (s2 : Shared) (vs2 : List V) (H2 : Hp), Inv X pins σ H2 s2 → Vals vs2 us → PL X M R2 P F1 es' vs2 H2 →
                wpAny (model X.prog X.w) X.A (call (.ref a') ([.ref b] ++ us)) (EP X pins σ (PV X M R' P F rv)) X.xe s2 := fun us s2 vs2 H2 I2 rv2 ⟨F2, e2, r2, v2⟩ =>
              wpAny_call (run_fnR (us := .ref b :: us) (vs := .ref b :: vs2) p2 (ok.room.mono (by omega)) (ok.pass X rfl rfl) I2 (.cons rfl rv2)
                (own_sp q' (.cons (v1.mono e2) v2) r2 fun v F' H' e3 r3 h => ⟨F', (e1.trans e2).trans e3, r3, h⟩))
            cases nst with
            | nil =>
              obtain ⟨rfl, rfl⟩ := we_nil (X := X) (es := []) (M := M) (P := P) (F := F) (H := H) h6 q2
              exact PySem.W.callWith_K0 (first := [.ref b]) I1.kIn p1.kp (fin [] s1 [] H1 I1 .nil ⟨F1, .refl F1, r1, .nil⟩)
            | cons hn nst =>
              refine PySem.W.callWith_K (first := [.ref b]) (h₀ := X.base) I.ok.mod.kin p1.kp (thn (W p pins s1 I1) fun us s2 ⟨vs2, H2, I2, rv2, pl⟩ => ⟨I2.kIn, fin us s2 vs2 H2 I2 rv2 pl⟩) (star_cons hn) (any_star nst)
          | _ => rw [hx] at q; cases q
        | cons _ _ => simp [chk] at h
      | _ => simp [chk] at h
    | _ => simp [chk] at h
  · cases e <;> first | rfl | simp [chk] at h
theorem VrL.up {K : PySem.W.Frag} {M M' : Mp} {F : Hp} (hM : ∀ j i, M' (j + 1) i = M j i) : ∀ {ds : List D} {vs : List V}, VrL K M F ds vs → VrL K M' F (ds.map up) vs
  | _, _, .nil => .nil
  | d :: _, _, .cons h t => by
    refine .cons ?_ (VrL.up hM t)
    rcases h with ⟨j, i, rfl, rfl⟩ | h
    · exact .inl ⟨j + 1, i, rfl, by rw [hM]⟩
    · have e : EV.up d = d := by
        cases d with
        | ref j i => cases h
        | _ => rfl
      rw [e]
      exact .inr h
theorem Rel.dropN {K : PySem.W.Frag} {M M' : Mp} {R : Sto} {P : Ps} {F H : Hp} {own : List O} (r : Rel K M' (own :: R) P F H) (h : ∀ j i, M' (j + 1) i = M j i) : Rel K M R P F H := by
  refine ⟨r.ex, fun j i o e => ?_, fun j1 i1 j2 i2 l1 l2 e => ?_, fun q hq => ?_, r.pd⟩
  · rw [← h]
    exact r.ob (j + 1) i o e
  · rw [← h, ← h] at e
    obtain ⟨h1, h2⟩ := r.inj (j1 + 1) i1 (j2 + 1) i2 l1 l2 e
    exact ⟨by omega, h2⟩
  · obtain ⟨h1, h2, h3, h4⟩ := r.pr q hq
    refine ⟨h1, h2, h3, fun j i l => ?_⟩
    rw [← h]
    exact h4 (j + 1) i l
/-- C(..) -/
theorem snd_new (c : Nat) (dv : List D) {as : C} (hs : Snd T cf lf CX k as) : Snd T cf lf CX k (.new c as dv) := by
  refine .of (fun X ok fa e h => ?_) (fun sc N e h => ?_) (fun sc N es p h => by simp [chk] at h)
  · cases e with
    | Call g es kws p =>
      cases g with
      | Name x px =>
        cases kws with
        | nil =>
          simp only [chk, Bool.and_eq_true] at h
          obtain ⟨⟨⟨⟨h1, h0⟩, h2⟩, h4⟩, h3⟩ := h
          cases of_decide_eq_true h1
          intro σD R R' M P F σ H rv r er q hm
          simp only [ev] at q
          obtain ⟨ds, R1, q1, q⟩ := bindA_ok q
          obtain ⟨C, a, fd, ps, dvs, vvs, g1, f1, f2, f3, f5, f6, f4⟩ := fa.ma c dv h0
          obtain ⟨gg1, gg2, _⟩ := gl_of h2
          have ns := chkA_noStar h3 ⟨_, _, _, _, q1⟩
          have W := hs.a X ok fa es p0 h3 σD R R1 M P F σ H ds r er q1
          unfold newV at q
          split at q
          · rename_i c' ns' es' R2 q2
            split at q
            · rename_i hcc
              subst hcc
              cases q
              obtain ⟨d, rr, c2, g, e, hc, hg, q'⟩ := fa.dm mInit _ _ _ _ (by decide) q2
              cases e
              cases hc
              cases ns with
              | nil => simp [isNil] at h4
              | cons hn ns =>
                refine we_of (pe_make f2 (f4 g hg) (ok.room.mono (by omega)) gg1 f1 f3 f5 (ok.pass X rfl rfl) pa_w gg2 (star_cons hn) (any_star ns)) ?_
                refine wa_mono W fun vs H1 ⟨F1, e1, r1, v1⟩ => ?_
                intro xa dx nx ndx ne
                have r2 := r1.pushNew g1 nx ndx ne
                refine ⟨.ref 0 0 :: (ds ++ dv).map up, _, [.ins c' [] []] :: R1, P, F1, .val .non, [.ins c' ns' es'] :: R', q', ?_, r2, ?_⟩
                · refine .cons (.inl ⟨0, 0, rfl, rfl⟩) (VrL.up (M := M) (fun j i => rfl) (v1.append (.ofDen (den0 f6))))
                · intro v F' H' e3 r3 hv
                  refine ⟨Vr.non hv, F', e1.trans e3, r3.dropN (M := M) (fun j i => rfl), xa, rfl, rfl, r3.ob 0 0 _ rfl, fun j i l z => ?_, fun q hq z => (r3.pr q hq).2.2.2 0 0 ⟨_, rfl, rfl⟩ z.symm⟩
                  have := r3.inj (j + 1) i 0 0 l ⟨_, rfl, rfl⟩ z
                  omega
            · cases q
          · cases q
        | cons _ _ => simp [chk] at h
      | _ => simp [chk] at h
    | _ => simp [chk] at h
  · cases e <;> first | rfl | simp [chk] at h
theorem kit_cls {X : Cx} {c : Nat} {C : Addr} (h : ClsA X.K c C) (t : Ty) : PySem.W.kitOne X.K (.type t.nm) (.ref C) = some false := by
  unfold PySem.W.kitOne
  rw [if_neg (by simp)]
  unfold PySem.W.kitCls
  dsimp only
  have h1 : (PySem.W.clsIn X.K C).isSome = true := by
    obtain ⟨cd, h1, _⟩ := h.mro
    rw [h1]
    rfl
  rw [if_pos (by rw [h1, h.ty]; rfl)]
  exact sub_nm (by cases t <;> decide)
theorem kit_obj {X : Cx} {c c' : Nat} {C C' : Addr} (h : ClsA X.K c C) (h' : ClsA X.K c' C') (hn : c' = c ∨ nmN c' ≠ nmN c) : PySem.W.kitOne X.K (.ref C') (.ref C) = some (decide (c' = c)) := by
  by_cases e : C' = C
  · subst e
    have hc : c' = c := by
      rcases hn with e | e
      · exact e
      · obtain ⟨cd, h1, _, h2⟩ := h.mro
        obtain ⟨cd', h1', _, h2'⟩ := h'.mro
        rw [h1] at h1'
        cases h1'
        exact absurd (h2'.symm.trans h2) e
    unfold PySem.W.kitOne
    rw [if_pos (by simp), decide_eq_true hc]
  · have hc : ¬ c' = c := fun z => by
      subst z
      exact e (h.one h')
    unfold PySem.W.kitOne
    rw [if_neg (by simpa using e)]
    unfold PySem.W.kitCls
    dsimp only
    have h1 : (PySem.W.clsIn X.K C).isSome = true := by
      obtain ⟨cd, h1, _⟩ := h.mro
      rw [h1]
      rfl
    rw [if_pos (by rw [h1, h.ty]; rfl), sub_own h', decide_eq_false hc, decide_eq_false (fun z => e z.symm)]
theorem isiY_go {X : Cx} {M : Mp} {R : Sto} {P : Ps} {F H : Hp} {x : D} {v : V} {c : Nat} {cs : List Nat} {C : Addr} {rv : Rv} {R' : Sto} {Q : VK} (hC : ClsA X.K c C) (hcs : ∀ d ∈ cs, d = c ∨ nmN d ≠ nmN c) (r : Rel X.K M R P F H) (hv : Vr X.K M F x v)
    (q : isiY c cs x R = .ok rv R') (kq : ∀ b, rv = .val (.bl b) → R' = R → Q (.bl b) H) : WC X (.builtin "isinstance") [v, .ref C] H Q := by
  have plain : ∀ {u : Ty}, TyX X.K H v (.type u.nm) → .ok (.val (.bl false)) R = Out.ok rv R' → WC X (.builtin "isinstance") [v, .ref C] H Q := fun {u} ht e => by
    cases e
    exact wc_of call_isi ⟨v, .ref C, .type u.nm, .ref C, false, rfl, .own C, ht, kit_cls hC u, kq _ rfl rfl⟩
  cases x with
  | obj c' ns ds =>
    simp only [isiY] at q
    split at q
    · rename_i hc
      cases q
      obtain ⟨a, C', dx, vs, us, rfl, h1, h2, h3, h4⟩ := hv.obj
      exact wc_of (SlX.call_isiSl (.ref C)) ⟨a, C', dx, vs, .ref C, _, rfl, rfl, fun w hw => hw, (r.ex.slo h2).slt, h1.sc, h1.si, kit_obj hC h1 (hcs _ (List.contains_iff_mem.mp hc)), kq _ rfl rfl⟩
    · cases q
  | _ =>
    simp only [isiY] at q
    obtain ⟨u, q2, e1, e2⟩ := liftO_ok q
    subst e1
    subst e2
    exact plain (r.ty hv q2) rfl
theorem snd_isiC {a : C} (c : Nat) (cs : List Nat) (ha : Snd T cf lf CX k a) : Snd T cf lf CX k (.isiC a c cs) := by
  refine .of (fun X ok fa e h => ?_) (fun sc N e h => ?_) (fun sc N es p h => by simp [chk] at h)
  · cases e with
    | Call g es kws p =>
      cases g with
      | Name x px =>
        have inv : ∃ y z pz, es = [y, .Name z pz] ∧ kws = [] := by
          match es, kws, h with
          | [y, .Name z pz], [], _ => exact ⟨y, z, pz, rfl, rfl⟩
          | [], _, h => simp [chk] at h
          | [_], _, h => simp [chk] at h
          | _ :: _ :: _ :: _, _, h => simp [chk] at h
          | [_, w], _ :: _, h => cases w <;> simp [chk] at h
          | [y, w], [], h =>
            cases w with
            | Name z pz => exact ⟨y, z, pz, rfl, rfl⟩
            | _ => simp [chk] at h
        obtain ⟨y, z, pz, rfl, rfl⟩ := inv
        simp only [chk, Bool.and_eq_true] at h
        obtain ⟨⟨⟨⟨⟨⟨⟨⟨h1, h2⟩, h3⟩, h4⟩, h5⟩, h6⟩, h7⟩, h8⟩, h9⟩ := h
        cases of_decide_eq_true h1
        cases of_decide_eq_true h4
        intro σD R R' M P F σ H rv r er q hm
        simp only [ev] at q
        obtain ⟨dx, R1, q1, m1, q⟩ := bindV_ok q
        obtain ⟨g1, g2, g3⟩ := gl_of h3
        obtain ⟨g4, g5, g6⟩ := gl_of h5
        obtain ⟨C, hC, hg⟩ := fa.cl c (of_decide_eq_true h6)
        have hcs : ∀ d ∈ cs, d = c ∨ nmN d ≠ nmN c := fun d hd => by
          have := List.all_eq_true.mp h7 d hd
          rw [Bool.or_eq_true] at this
          rcases this with e | e
          · exact .inl (beq_iff_eq.mp e)
          · exact .inr (of_decide_eq_false (nobool e))
        have pz : PE X (.Name (nmN c) pz) (tC (.ref C)) := pe_glob g4 hg rfl g5
        refine we_of (pe_callB (callr_w (f := .builtin "isinstance")) g1 (fa.bl _ (of_decide_eq_true h2)) (by decide +kernel) (pa_cons pe_w (pa_cons pz pa_nil (star_cons rfl)) (star_cons (nobool h8))) g3 g2 (star_cons (nobool h8)) (any_star (.cons rfl .nil))) ?_
        refine we_mono ((ha.v X ok fa _ h9).d r er q1 m1) fun vx H1 ⟨F1, e1, r1, v1⟩ => ?_
        exact isiY_go hC hcs r1 v1 q fun b e e2 => by
          subst e
          subst e2
          exact ⟨F1, e1, r1, .inr (.bl _)⟩
      | _ => simp [chk] at h
    | _ => simp [chk] at h
  · cases e <;> first | rfl | simp [chk] at h
/-- a new dict -/
theorem Rel.dct {K : PySem.W.Frag} {M : Mp} {R : Sto} {P : Ps} {F H : Hp} {p : Addr} (r : Rel K M R P F H) (h : H p = Option.none) : Rel K M R P F (upd H p (.dK [])) ∧ RVR K M R P F (upd H p (.dK [])) (.ref p) (.new (.dct [] [])) :=
  ⟨r.lay h, p, rfl, rfl, ⟨r.none h, [], upd_same, rfl, .nil⟩, fun _ _ l => r.live_ne h l, r.aside_ne h⟩
theorem snd_dnew : Snd T cf lf CX k .dnew := by
  refine .of (fun X ok fa e h => ?_) (fun sc N e h => ?_) (fun sc N es p h => by simp [chk] at h)
  · cases e with
    | Dict ks vs p =>
      cases ks with
      | nil =>
        cases vs with
        | nil =>
          intro σD R R' M P F σ H rv r er q hm
          simp only [ev] at q
          cases q
          refine we_of pe_dnewK fun p hp => ?_
          obtain ⟨r', h'⟩ := r.dct hp
          exact ⟨F, .refl F, r', h'⟩
        | cons _ _ => simp [chk] at h
      | cons _ _ => simp [chk] at h
    | _ => simp [chk] at h
  · cases e <;> first | rfl | simp [chk] at h
theorem isDct_ok {X : Cx} {M : Mp} {R : Sto} {P : Ps} {F H : Hp} {x : D} {v : V} (r : Rel X.K M R P F H) (hx : Vr X.K M F x v) (h : isDct R x = true) : ∃ a, v = .ref a ∧ IsD H a := by
  cases x with
  | dct ks ds =>
    obtain ⟨a, kvs, rfl, h1, _⟩ := hx.dct
    exact ⟨a, rfl, .inl ⟨kvs, .inl (r.ex _ _ h1)⟩⟩
  | dcT ks ds =>
    obtain ⟨a, kvs, rfl, h1, _⟩ := hx.dcT
    exact ⟨a, rfl, .inr ⟨kvs, .inl (r.ex _ _ h1)⟩⟩
  | ref j i =>
    have := hx.ref
    subst this
    cases hs : sget R j i with
    | none => simp only [isDct, derefs, hs] at h; cases h
    | some u =>
      have ho := r.ob j i u hs
      cases u with
      | dct ks ds =>
        obtain ⟨_, kvs, h1, _⟩ := ho
        exact ⟨_, rfl, .inl ⟨kvs, .inl h1⟩⟩
      | dcT ks ds =>
        obtain ⟨_, kvs, h1, _⟩ := ho
        exact ⟨_, rfl, .inr ⟨kvs, .inl h1⟩⟩
      | frz d =>
        cases d with
        | dct ks ds =>
          have ho : Den X.K F (.dct ks ds) (.ref (M j i)) := ho
          cases ho with
          | dct h1 _ _ => exact ⟨_, rfl, .inl ⟨_, .inl (r.ex _ _ h1)⟩⟩
        | dcT ks ds =>
          have ho : Den X.K F (.dcT ks ds) (.ref (M j i)) := ho
          cases ho with
          | dcT h1 _ _ => exact ⟨_, rfl, .inr ⟨_, .inl (r.ex _ _ h1)⟩⟩
        | _ => simp only [isDct, derefs, hs, fzO] at h; cases h
      | _ => simp only [isDct, derefs, hs, fzO] at h; cases h
  | _ => cases h
theorem snd_dget {a k' z : C} (ha : Snd T cf lf CX k a) (hk : Snd T cf lf CX k k') (hz : Snd T cf lf CX k z) : Snd T cf lf CX k (.dget a k' z) := by
  refine .of (fun X ok fa e h => ?_) (fun sc N e h => ?_) (fun sc N es p h => by simp [chk] at h)
  · have inv : ∃ x m ap y w cp, e = .Call (.Attribute x m ap) [y, w] [] cp := by
      cases e with
      | Call g es kws cp =>
        cases g with
        | Attribute x m ap =>
          match es, kws, h with
          | [y, w], [], _ => exact ⟨x, m, ap, y, w, cp, rfl⟩
          | [], _, h => simp [chk] at h
          | [_], _, h => simp [chk] at h
          | _ :: _ :: _ :: _, _, h => simp [chk] at h
          | [_, _], _ :: _, h => simp [chk] at h
        | _ => simp [chk] at h
      | _ => simp [chk] at h
    obtain ⟨x, m, ap, y, w, cp, rfl⟩ := inv
    simp only [chk, Bool.and_eq_true] at h
    obtain ⟨⟨⟨⟨⟨⟨⟨h0, h1⟩, h2⟩, h3⟩, h4⟩, h5⟩, h6⟩, h7⟩ := h
    cases of_decide_eq_true h1
    intro σD R R' M P F σ H rv r er q hm
    simp only [ev] at q
    obtain ⟨x', R1, q1, m1, q⟩ := bindV_ok q
    split at q
    · rename_i hd
      obtain ⟨y', R2, q2, m2, q⟩ := bindV_ok q
      obtain ⟨w', R3, q3, m3, q⟩ := bindV_ok q
      have hs2 : starEach [y, w] X.env = [(false, eval y X.env), (false, eval w X.env)] := by
        rw [star_cons (nobool h3), star_cons (nobool h4)]
        rfl
      refine we_of (pe_dget2 (units1 ok) pe_w pe_w pe_w ⟨abase (nobool h0), by rw [hs2]; rfl, h2, by rw [hs2]; rfl⟩) ?_
      refine we_mono ((ha.v X ok fa _ h5).d r er q1 m1) fun vx H1 ⟨F1, e1, r1, v1⟩ => ?_
      obtain ⟨a, rfl, hI⟩ := isDct_ok r1 v1 hd
      refine ⟨a, rfl, hI, ?_⟩
      refine we_mono ((hk.v X ok fa _ h6).d r1 (er.mono e1) q2 m2) fun vy H2 ⟨F2, e2, r2, v2⟩ => ?_
      refine we_mono ((hz.v X ok fa _ h7).d r2 (er.mono (e1.trans e2)) q3 m3) fun vz H3 ⟨F3, e3, r3, v3⟩ => ?_
      cases hg : dctGet R3 (fz x') (fz y') with
      | none => rw [hg] at q; cases q
      | some o =>
        obtain ⟨a', ov, ea, g, ho⟩ := dctGet_ok r3 ((v1.mono e2).mono e3) (v2.mono e3) hg
        cases ea
        refine ⟨ov, g, ?_⟩
        rw [hg] at q
        cases o with
        | none =>
          cases q
          cases ov with
          | some _ => exact ho.elim
          | none => exact ⟨F3, (e1.trans e2).trans e3, r3, v3⟩
        | some d =>
          cases q
          cases ov with
          | none => exact ho.elim
          | some v => exact ⟨F3, (e1.trans e2).trans e3, r3, .inr ho⟩
    · cases q
  · cases e <;> first | rfl | simp [chk] at h
end
end EV

/-! EvR: displays of dicts with other dicts spread in them. -/
namespace EV
open PySem PySem.Spec PyProof.Rows L2
section
variable {prog : Program} {w : World} {K : Type} [DecidableEq K] {knd : KeyKind prog w K} {A : Around} {E : Value → Shared → Prop} {s : Shared}
theorem dictPut_pairs {d : Addr} {kvs : List (K × Value)} {k : K} {key v : Value} {Q : Unit → Shared → Prop} (hkey : knd.is k key = true) (hm : s.heap.DictOf knd d kvs)
    (hQ : ∀ h', h'.DictOf knd d (stored kvs k v) → Heap.SameBut d s.heap h' → Q () { s with heap := h' }) (hsz : kvs.length ≤ sizeLine) :
    wpAny (model prog w) A (dictPut d (knd.hash k) key v) Q E s := by
  obtain ⟨o, es, ep, ho, hc, hd, hk, hp, hn⟩ := hm
  have hes : es.size ≤ sizeLine := by
    have e1 := hp.length
    have e2 : es.toList.length = es.size := by simp
    omega
  unfold dictPut
  refine wpAny_bind (wpAny_dictFind_of hkey ho hd hk ?_)
  have hidx : (es.findIdx? fun e => knd.is k e.key) = kvs.findIdx? fun kv => decide (kv.1 = k) := by
    rw [← hp.findIdx k]; obtain ⟨l⟩ := es; simp
  cases hi : es.findIdx? fun e => knd.is k e.key with
  | some i =>
    refine wpAny_updateDict ho hd (hQ _ ⟨_, _, ep, Heap.get?_update_self _ ho (Obj.isFreed_of_dict (Obj.data_mapDict hd _)),
      hc.mapDict _, Obj.data_mapDict hd _, hk.modify _ _, ?_, ?_⟩ (Heap.SameBut.update ..))
    · rw [stored, if_pos (any_of_findIdx_some (hidx ▸ hi))]
      have hl : (es.toList.findIdx? fun e => knd.is k e.key) = some i := by rw [← hi]; obtain ⟨l⟩ := es; simp
      have := hp.modify hn hl v
      obtain ⟨l⟩ := es
      simpa using this
    · rw [stored, if_pos (any_of_findIdx_some (hidx ▸ hi)), keys_map_store]; exact hn
  | none =>
    have hnot : k ∉ kvs.map (·.1) := not_mem_of_findIdx_none (hidx ▸ hi)
    have hany : ¬ (kvs.any fun kv => decide (kv.1 = k)) = true := by
      rw [List.any_eq_true]; rintro ⟨kv, hkv, he⟩
      exact hnot (List.mem_map.mpr ⟨kv, hkv, of_decide_eq_true he⟩)
    refine wpAny_updateDictKeys (hz := hes) ho hd (hQ _ ⟨_, _, ep + 1, Heap.get?_update_self _ ho (Obj.isFreed_of_dict (Obj.data_mapDictKeys hd _)),
      hc.mapDictKeys _, Obj.data_mapDictKeys hd _, hk.push hkey _, ?_, ?_⟩ (Heap.SameBut.update ..))
    · rw [stored, if_neg hany]
      have := hp.append hkey (knd.hash k) v
      obtain ⟨l⟩ := es
      simpa using this
    · rw [stored, if_neg hany, List.map_append, List.nodup_append]
      refine ⟨hn, by simp, ?_⟩
      intro a ha b hb
      simp only [List.map_cons, List.map_nil, List.mem_singleton] at hb
      subst hb
      exact fun e => hnot (e ▸ ha)
/-- **m, d a dict with something in it, m another dict -/
theorem mergeMap {d o : Addr} {kvs more : List (K × Value)} {Q : Unit → Shared → Prop} (hdo : d ≠ o) (hoS : (o == sysModules) = false) (hne : kvs ≠ [])
    (hd : s.heap.DictOf knd d kvs) (ho : s.heap.DictOf knd o more)
    (hQ : ∀ h', h'.DictOf knd d (merged kvs more) → h'.DictOf knd o more → Heap.SameBut d s.heap h' → Q () { s with heap := h' })
    (hsz : kvs.length + more.length ≤ sizeLine) :
    wpAny (model prog w) A (mergeMapping d (.ref o) false) Q E s := by
  obtain ⟨od, esd, epd, hod, hcd, hdd, hkd, hpd, hnd⟩ := id hd
  obtain ⟨oo, eso, epo, hoo, hco, hdo', hko, hpo, hno⟩ := id ho
  have hlen : more.length = eso.size := by rw [← hpo.length]; simp
  have hT : s.TypeIs (.ref o) "dict" := ho.typeIs
  have he : esd.isEmpty = false := by
    have e1 := hpd.length
    have e2 : esd.toList.length = esd.size := by simp
    have e3 : kvs.length ≠ 0 := fun z => hne (List.length_eq_zero_iff.mp z)
    simp only [Array.isEmpty]
    rw [decide_eq_false_iff_not]
    omega
  unfold mergeMapping
  refine wpAny_bind (m := isInstance (.ref o) (.type "dict")) (wpAny_isInstance hT isSubtype_dict_dict ?_)
  dsimp only
  rw [if_pos rfl]
  refine wpAny_bind (wpAny_specialOf hT F.slot_dict_iter.lookup ?_)
  have eb : (some (Value.builtin "dict.__iter__") == some (.builtin "dict.__iter__")) = true := by decide +kernel
  rw [eb]
  refine wpAny_bind (wpAny_pure ?_)
  dsimp only
  rw [if_neg (by rw [hoS]; exact Bool.false_ne_true)]
  refine wpAny_bind (wpAny_dictEntries hod hdd ?_)
  rw [if_neg (by rw [he]; exact Bool.false_ne_true)]
  refine wpAny_bind (wpAny_dictEntries hoo hdo' ?_)
  refine wpAny_bind (wpAny_dictEpoch hoo hdo' ?_)
  refine wpAny_bind ?_
  refine wpAny_forIn_list _
      (fun rest _ s' => ∃ h' i, s' = { s with heap := h' } ∧ rest = List.range' i (eso.size - i) ∧ i ≤ eso.size ∧ h'.DictOf knd d (merged kvs (more.take i)) ∧ h'.get? o = some oo ∧ Heap.SameBut d s.heap h')
      _ ?_ ?_ _ _ ⟨s.heap, 0, rfl, by rw [List.range_eq_range']; simp, Nat.zero_le _, by simpa [merged] using hd, hoo, Heap.SameBut.refl _ _⟩
  · rintro x rest b s' ⟨h', i, rfl, hr, hi, hd', hoo', hs'⟩
    have hlt : i < eso.size := by
      rcases Nat.lt_or_ge i eso.size with h | h
      · exact h
      · rw [Nat.sub_eq_zero_of_le h] at hr; simp at hr
    obtain ⟨rfl, hrest⟩ : x = i ∧ rest = List.range' (i + 1) (eso.size - (i + 1)) := by
      have e : eso.size - i = (eso.size - (i + 1)) + 1 := by omega
      rw [e, List.range'_succ] at hr
      injection hr with h1 h2
      exact ⟨h1, h2⟩
    refine wpAny_bind (wpAny_dictEntries hoo' hdo' ?_)
    rw [Array.getElem?_eq_getElem hlt]
    obtain ⟨kv, hkv⟩ : ∃ kv, more[x]? = some kv := ⟨more[x]'(by rw [hlen]; exact hlt), List.getElem?_eq_getElem _⟩
    obtain ⟨k, v⟩ := kv
    obtain ⟨hkey, hval⟩ := hpo.get? (e := eso[x]) (by simp [hlt]) hkv
    obtain ⟨k', hkey', hhash⟩ := hko eso[x] (Array.getElem_mem hlt)
    obtain rfl : k' = k := knd.inj _ _ _ hkey' hkey
    dsimp only
    rw [hhash, hval]
    have hmx : (merged kvs (more.take x)).length ≤ sizeLine := by
      have e1 := merged_length_le kvs (more.take x)
      have e2 : (more.take x).length ≤ more.length := by rw [List.length_take]; omega
      omega
    refine wpAny_bind (wpAny_holding ?_)
    rw [if_neg Bool.false_ne_true]
    refine dictPut_pairs hkey hd' (fun h'' hd'' hs'' => ?_) hmx
    have hoo'' : h''.get? o = some oo := (hs''.2 o (Ne.symm hdo)).trans hoo'
    refine wpAny_bind (wpAny_dictEpoch hoo'' hdo' ?_)
    rw [if_neg (by simp)]
    exact wpAny_pure ⟨h'', x + 1, rfl, hrest, hlt, by rw [merged_take_succ kvs more x (k', v) hkv]; exact hd'', hoo'', hs'.trans hs''⟩
  · rintro b s' ⟨h', i, rfl, hr, hi, hd', hoo', hs'⟩
    have hin : i = eso.size := by
      rcases Nat.lt_or_ge i eso.size with h | h
      · have e : eso.size - i = (eso.size - (i + 1)) + 1 := by omega
        rw [e, List.range'_succ] at hr; exact nomatch hr
      · exact Nat.le_antisymm hi h
    refine wpAny_pure (hQ h' ?_ ⟨oo, eso, epo, hoo', hco, hdo', hko, hpo, hno⟩ hs')
    rw [hin, ← hlen, List.take_length] at hd'; exact hd'
/-- {k1: v1, k2: v2, **m1, **m2} -/
theorem disp4 {k1 v1 k2 v2 m1 m2 : Sem Value} {Q : Value → Shared → Prop} (h : wpAny (model prog w) A (subDict [(k1, v1), (k2, v2)]) (fun d s1 => wpAny (model prog w) A m1 (fun u s2 => ∀ E', wpAny (model prog w) A (mergeMapping d u false) (fun _ s3 =>
    wpAny (model prog w) A m2 (fun u2 s4 => ∀ E', wpAny (model prog w) A (mergeMapping d u2 false) (fun _ s5 => Q (.ref d) s5) E' s4) E s3) E' s2) E s1) E s) :
    wpAny (model prog w) A (dictDisplay [(some k1, v1), (some k2, v2), (none, m1), (none, m2)]) Q E s := by
  unfold dictDisplay
  simp only [List.forIn_cons, List.forIn_nil, List.nil_append, List.length_cons, List.length_nil, List.isEmpty_cons, List.cons_append, Bool.false_eq_true, if_false, pure_bind, bind_assoc, show ((1 : Nat) == 17) = false from rfl, show ((2 : Nat) == 17) = false from rfl]
  refine wpAny_bind (wpAny_mono h (fun d s1 h1 => wpAny_bind (wpAny_holding (wpAny_mono h1 (fun u s2 h2 => ?_) fun _ _ e => e))) fun _ _ e => e)
  refine wpAny_bind (wpAny_onRaise (wpAny_tryCatch (wpAny_onRaise (wpAny_holding (wpAny_mono (h2 _) (fun _ s3 h3 => ?_) fun _ _ e => e)))))
  rw [if_pos (show ([] : List (Sem Value × Sem Value)).isEmpty = true from rfl)]
  refine wpAny_bind (wpAny_pure ?_)
  dsimp only
  refine wpAny_bind (wpAny_bind (wpAny_holding (wpAny_mono h3 (fun u2 s4 h4 => ?_) fun _ _ e => e)))
  refine wpAny_bind (wpAny_onRaise (wpAny_tryCatch (wpAny_onRaise (wpAny_holding (wpAny_mono (h4 _) (fun _ s5 h5 => ?_) fun _ _ e => e)))))
  refine wpAny_pure (wpAny_bind (wpAny_pure ?_))
  dsimp only
  rw [if_pos (show ([] : List (Sem Value × Sem Value)).isEmpty = true from rfl)]
  exact wpAny_bind (wpAny_pure (wpAny_pure h5))
end
section
variable {X : Cx} {pins : List (Addr × Obj)} {σ : L2.St} {H : Hp} {s : Shared} {A : Around} {E : Value → Shared → Prop}
theorem kv_len : ∀ {kvs : List (Key × V)} {vs : List (Key × Value)}, KV kvs vs → kvs.length = vs.length := fun h => Paired.length h
theorem spread {p o : Addr} {D0 kv1 : List (Key × V)} {Q : Unit → Shared → Prop} (I : Inv X pins σ H s) (hp : H p = some (.dK D0)) (hrd : Rd H o (.dK kv1)) (hop : o ≠ p) (hne : D0 ≠ []) (hl : D0.length + kv1.length ≤ sizeLine)
    (k : ∀ s', Inv X pins σ (upd H p (.dK (mergeK D0 kv1))) s' → Q () s') : wpAny (model X.prog X.w) A (mergeMapping p (.ref o) false) Q E s := by
  obtain ⟨z0, hd0, vsP, rP, ddP⟩ := dk_of I.hok hp
  obtain ⟨z1, hd1, vsO, rO, ddO⟩ := dk_rd I.hok hrd
  have l0 := kv_len rP
  have l1 := kv_len rO
  refine mergeMap (Ne.symm hop) hd1 (fun z => hne (List.length_eq_zero_iff.mp (by rw [l0, z]; rfl))) ddP ddO (fun h' a b c => k _ ?_) (by omega)
  have hz : (mergeK D0 kv1).length ≤ sizeLine := by
    have h1 := length_mergeK kv1 D0
    omega
  have he : ∃ q, h'.get? p = some q := let ⟨q, _, _, hq, _⟩ := a; ⟨q, hq⟩
  exact d_write I (by rw [hp]; exact True.intro) c he (dk_new hz hd0 (rO.merge rP) a)
end
/-- {k1: v1, k2: v2, **e1, **e2}, of ints and texts -/
def tDs (K : PySem.W.Frag) (trs : List (TE × TE)) (t1 t2 : TE) : TE := fun σ H Q => ∀ p, H p = none → tPairs trs σ (upd H p (.dK [])) fun ps H2 => H2 p = some (.dK []) ∧ ∃ kvs : List (Key × V), ps = kvs.map (fun kv => (kV kv.1, kv.2)) ∧ kvs.length ≤ 15 ∧
  t1 σ (upd H2 p (.dK (mergeK [] kvs))) fun x H3 => ∃ o kv1 D0, x = .ref o ∧ H3 p = some (.dK D0) ∧ Rd H3 o (.dK kv1) ∧ o ≠ p ∧ D0 ≠ [] ∧ D0.length + kv1.length ≤ sizeLine ∧
  t2 σ (upd H3 p (.dK (mergeK D0 kv1))) fun y H4 => ∃ o kv2 D1, y = .ref o ∧ H4 p = some (.dK D1) ∧ Rd H4 o (.dK kv2) ∧ o ≠ p ∧ D1 ≠ [] ∧ D1.length + kv2.length ≤ sizeLine ∧ Q (.ref p) (upd H4 p (.dK (mergeK D1 kv2)))
theorem pe_ds {X : Cx} {pos : Pos} {k1 k2 v1 v2 e1 e2 : Expr} {trs : List (TE × TE)} {t1 t2 : TE} (h : PPs X pos [some k1, some k2] [v1, v2] trs) (h1 : PE X e1 t1) (h2 : PE X e2 t2) :
    PE X (.Dict [some k1, some k2, none, none] [v1, v2, e1, e2] pos) (tDs X.K trs t1 t2) := by
  refine ⟨fun pins s σ H Q I q => ?_⟩
  have hn := I.hok.fresh (Nat.le_refl s.heap.objs.size)
  have I1 := I.laid (a := s.heap.objs.size) (o := .dK []) (h' := s.heap.push { cls := .type "dict", data := .dict #[] }) (t' := s.toks) (fun _ _ q => Heap.get?_push_of_some _ q) (Nat.le_refl _) (dk_empty s.heap I.big)
  rw [arm_eval_Dict]
  refine wpAny_bind (wpAny_standAt ?_)
  show wpAny _ _ (dictDisplay [(some (eval k1 X.env), do let x ← eval v1 X.env; standAt pos; pure x), (some (eval k2 X.env), do let x ← eval v2 X.env; standAt pos; pure x), (none, do let x ← eval e1 X.env; standAt pos; pure x), (none, do let x ← eval e2 X.env; standAt pos; pure x)]) _ _ s
  refine disp4 (wpAny_subDict (knd := mixKind X.prog X.w) (show 2 ≤ 15 by decide) ?_)
  refine thn (h.run pins _ σ _ _ I1 (q _ hn)) fun ws s2 ⟨ps, H2, I2, rel, e, kvs, ep, lk, q2⟩ => ?_
  subst ep
  obtain ⟨rs, c, rk⟩ := carries_of (P := X.prog) (w := X.w) rel
  obtain ⟨z, hd, vs0, r0, dd⟩ := dk_of I2.hok e
  cases r0
  refine ⟨rs, c, dd, fun h' dd' hs => ?_⟩
  have hz : (mergeK [] kvs).length ≤ sizeLine := by
    have h1 := length_mergeK kvs []
    rw [List.length_nil] at h1
    rw [sizeLine_eq]; omega
  have he : ∃ q, h'.get? s.heap.objs.size = some q := let ⟨q, _, _, hq, _⟩ := dd'; ⟨q, hq⟩
  have I3 := d_write (t' := s2.toks + ws.length) I2 (by rw [e]; exact True.intro) hs he (dk_new hz hd (rk.merge .nil) dd')
  refine wpAny_bind (thn (h1.run pins _ σ _ _ I3 q2) fun u s4 ⟨x, H3, I4, rx, o, kv1, D0, ex, hp, hrd, hop, hne, hl, q3⟩ => wpAny_bind (wpAny_standAt (wpAny_pure ?_)))
  subst ex
  cases rx
  intro E'
  refine spread I4 hp hrd hop hne hl fun s5 I5 => ?_
  refine wpAny_bind (thn (h2.run pins _ σ _ _ I5 q3) fun u s6 ⟨y, H4, I6, ry, o2, kv2, D1, ey, hp2, hrd2, hop2, hne2, hl2, q4⟩ => wpAny_bind (wpAny_standAt (wpAny_pure ?_)))
  subst ey
  cases ry
  intro E'
  exact spread I6 hp2 hrd2 hop2 hne2 hl2 fun s7 I7 => ⟨.ref s.heap.objs.size, _, I7, rfl, q4⟩
theorem repD_ok {α : Type} [DecidableEq α] {K : PySem.W.Frag} {F : Hp} {kk : α} {d : D} {v : V} (hd : Den K F d v) : ∀ {kvs : List (α × V)} {ds : List D}, DenL K F ds (kvs.map (·.2)) → DenL K F (repD kk d (kvs.map (·.1)) ds) ((kvs.map fun kv => if kv.1 = kk then (kv.1, v) else kv).map (·.2))
  | [], _, .nil => .nil
  | (k1, v1) :: kvs, _, .cons h t => by
    simp only [List.map_cons, repD]
    by_cases e : k1 = kk
    · rw [if_pos e, if_pos e]
      exact .cons hd (repD_ok hd t)
    · rw [if_neg e, if_neg e]
      exact .cons h (repD_ok hd t)
theorem any_mem {α : Type} [DecidableEq α] (kk : α) (kvs : List (α × V)) : ((kvs.any fun kv => decide (kv.1 = kk)) = true) ↔ kk ∈ kvs.map (·.1) := by
  rw [List.any_eq_true]
  constructor
  · rintro ⟨p, hp, e⟩
    exact List.mem_map.mpr ⟨p, hp, of_decide_eq_true e⟩
  · intro h
    obtain ⟨p, hp, e⟩ := List.mem_map.mp h
    exact ⟨p, hp, decide_eq_true e⟩
theorem putD_ok {α : Type} [DecidableEq α] {K : PySem.W.Frag} {F : Hp} {kk : α} {d : D} {v : V} (hd : Den K F d v) {kvs : List (α × V)} {ds : List D} (h : DenL K F ds (kvs.map (·.2))) :
    (putK kvs kk v).map (·.1) = (putD (kvs.map (·.1)) ds kk d).1 ∧ DenL K F (putD (kvs.map (·.1)) ds kk d).2 ((putK kvs kk v).map (·.2)) := by
  unfold putK putD
  by_cases e : kk ∈ kvs.map (·.1)
  · rw [if_pos ((any_mem kk kvs).mpr e), if_pos e]
    refine ⟨?_, repD_ok hd h⟩
    rw [List.map_map]
    refine List.map_congr_left fun p _ => ?_
    show (if p.1 = kk then (p.1, v) else p).1 = p.1
    split <;> rfl
  · rw [if_neg (fun z => e ((any_mem kk kvs).mp z)), if_neg e, List.map_append, List.map_append]
    exact ⟨rfl, h.append (.cons hd .nil)⟩
theorem mrgD_ok {K : PySem.W.Frag} {F : Hp} : ∀ {more kvs : List (Key × V)} {es ds : List D}, DenL K F ds (kvs.map (·.2)) → DenL K F es (more.map (·.2)) →
    (mergeK kvs more).map (·.1) = (mrgD (kvs.map (·.1)) ds (more.map (·.1)) es).1 ∧ DenL K F (mrgD (kvs.map (·.1)) ds (more.map (·.1)) es).2 ((mergeK kvs more).map (·.2))
  | [], kvs, _, ds, h, .nil => ⟨rfl, h⟩
  | (k, v) :: more, kvs, e :: es, ds, h, .cons he t => by
    obtain ⟨p1, p2⟩ := putD_ok (kk := k) he h
    have := mrgD_ok (more := more) (kvs := putK kvs k v) p2 t
    rw [p1] at this
    exact this
theorem flatV_den {K : PySem.W.Frag} {M : Mp} {F : Hp} {d : D} {v : V} (h : flatV d = true) (hv : Vr K M F d v) : Den K F d v := by
  rcases hv with ⟨j, i, rfl, _⟩ | hv
  · cases h
  · exact hv
theorem mergeK_ne : ∀ (more kvs : List (Key × V)), kvs ≠ [] → mergeK kvs more ≠ []
  | [], kvs, h => h
  | p :: more, kvs, h => by
    refine mergeK_ne more (putK kvs p.1 p.2) ?_
    unfold putK
    split
    · intro z
      exact h (List.map_eq_nil_iff.mp z)
    · simp
section
variable {T : Tb} {cf : Cf} {lf k : Nat} {CX : CXT}
theorem nrf_den {K : PySem.W.Frag} {M : Mp} {F : Hp} {d : D} {v : V} (h : nrf d = true) (hv : Vr K M F d v) : Den K F d v := by
  rcases hv with ⟨j, i, rfl, _⟩ | hv
  · cases h
  · exact hv
/-- a new thing, at a place of a new frame -/
theorem Rel.pushO {K : PySem.W.Frag} {M : Mp} {R : Sto} {P : Ps} {F H : Hp} {x : Addr} {o : O} (r : Rel K M R P F H) (h : RVR K M R P F H (.ref x) (.new o)) :
    Rel K (fun j i => match j with | 0 => x | j + 1 => M j i) ([o] :: R) P F H := by
  obtain ⟨p, e0, hf, h1, h2, h3⟩ := h
  cases e0
  have l0 : ∀ {i}, live ([o] :: R) 0 i → i = 0 := fun {i} ⟨u, q, _⟩ => by
    cases i with
    | zero => rfl
    | succ i => simp [sget] at q
  have lS : ∀ {j i}, live ([o] :: R) (j + 1) i → live R j i := fun {j i} ⟨u, q, f⟩ => ⟨u, q, f⟩
  refine ⟨r.ex, fun j i u e => ?_, fun j1 i1 j2 i2 l1 l2 e => ?_, fun q hq => ?_, r.pd⟩
  · cases j with
    | zero =>
      cases i with
      | zero =>
        have e : some o = some u := e
        cases e
        exact h1
      | succ i => simp [sget] at e
    | succ j => exact r.ob j i u e
  · cases j1 with
    | zero =>
      cases j2 with
      | zero => exact ⟨rfl, (l0 l1).trans (l0 l2).symm⟩
      | succ j2 => exact absurd e.symm (h2 _ _ (lS l2))
    | succ j1 =>
      cases j2 with
      | zero => exact absurd e (h2 _ _ (lS l1))
      | succ j2 =>
        obtain ⟨z1, z2⟩ := r.inj j1 i1 j2 i2 (lS l1) (lS l2) e
        exact ⟨by rw [z1], z2⟩
  · obtain ⟨g1, g2, gm, g3⟩ := r.pr q hq
    refine ⟨g1, g2, gm, fun j i l => ?_⟩
    cases j with
    | zero => exact fun z => h3 q hq z.symm
    | succ j => exact g3 j i (lS l)
theorem snd_dis1 {x u : C} (hx : Snd T cf lf CX k x) (hu : Snd T cf lf CX k u) : Snd T cf lf CX k (.dis1 x u) := by
  refine .of (fun X ok fa e h => ?_) (fun sc N e h => ?_) (fun sc N es p h => by simp [chk] at h)
  · simp only [chk] at h
    split at h
    · rename_i x1 v1 pos
      simp only [Bool.and_eq_true] at h
      obtain ⟨c1, c2⟩ := h
      intro σD R R' M P F σ H rv r er q hm
      simp only [ev] at q
      obtain ⟨kx, R1, q1, m1, q⟩ := bindV_ok q
      obtain ⟨dx, R2, q2, m2, q⟩ := bindV_ok q
      split at q
      · rename_i k1 hk1 hfl
        cases q
        refine we_of (pe_disp (pps_cons pe_w pe_w pps_nil) rfl rfl (by simp) (by simp)) ?_
        intro p hp
        have rA := r.aside (u := .dK []) hp (main_dK _)
        refine we_mono ((hx.v X ok fa _ c1).d rA er q1 m1) fun vk1 H1 ⟨F1, f1, r1, w1⟩ => ?_
        refine we_mono ((hu.v X ok fa _ c2).d r1 (er.mono f1) q2 m2) fun vd1 H2 ⟨F2, f2, r2, w2⟩ => ?_
        have d1 : Den X.K F2 (fz dx) vd1 := nrf_den hfl w2
        have b1 := keyD_v hk1 w1
        refine ⟨(r2.pr _ List.mem_cons_self).1, [(k1, vd1)], by rw [b1]; rfl, by simp, ?_⟩
        have e0 : mergeK [] [(k1, vd1)] = [(k1, vd1)] := by simp [mergeK, putK]
        rw [e0]
        have r5 := r2.turn (w := .dK [(k1, vd1)]) (main_dK _)
        obtain ⟨r', h1, h2, h3, h4⟩ := r5.back
        exact ⟨F2, f1.trans f2, r', p, rfl, rfl, ⟨h2, _, h1, rfl, .cons d1 .nil⟩, h3, h4⟩
      · cases q
    · cases h
  · cases e <;> first | rfl | simp [chk] at h
theorem snd_callB (f : Nat) {a : C} (ha : Snd T cf lf CX k a) : Snd T cf lf CX k (.callB f a) := by
  refine .of (fun X ok fa e h => ?_) (fun sc N e h => ?_) (fun sc N es p h => by simp [chk] at h)
  · simp only [chk] at h
    split at h
    · rename_i x px y p
      simp only [Bool.and_eq_true] at h
      obtain ⟨⟨⟨h1, h2⟩, h4⟩, h3⟩ := h
      intro σD R R' M P F σ H rv r er q hm
      simp only [ev] at q
      split at q
      · rename_i o R1 q1
        unfold callBV at q
        split at q
        · rename_i v own R2 q2
          split at q
          · rename_i hn
            cases q
            obtain ⟨a', fd, ps, f1, f2, f3, f4⟩ := fa.fn f x (of_decide_eq_true h1)
            obtain ⟨g1, g2, _⟩ := gl_of h2
            refine we_of (pe_call f4 (ok.room.mono (by omega)) g1 f1 f2 f3 .nil (ok.pass X rfl rfl) (pa_cons pe_w pa_nil (star_cons (nobool h4))) g2 (star_cons (nobool h4)) (any_star .nil)) ?_
            refine we_mono ((ha.v X ok fa _ h3) σD R R1 M P F σ H (.new o) r er q1 (fun ds z => by cases z)) fun vx H1 ⟨F1, e1, r1, v1⟩ => ?_
            obtain ⟨xa, rfl, hh⟩ : ∃ xa, vx = .ref xa ∧ RVR X.K M R1 P F1 H1 (.ref xa) (.new o) := by
              obtain ⟨xa, e0, rest⟩ := v1
              subst e0
              exact ⟨xa, rfl, xa, rfl, rest⟩
            have r2 := r1.pushO hh
            refine ⟨[.ref 0 0], _, [o] :: R1, P, F1, .val v, own :: R', q2, .cons (.inl ⟨0, 0, rfl, rfl⟩) .nil, r2, ?_⟩
            intro vv F' H' e3 r3 hv
            refine ⟨F', e1.trans e3, r3.dropN (M := M) (fun j i => rfl), .inr (nrf_den hn hv)⟩
          · cases q
        · cases q
      · cases q
    · cases h
  · cases e <;> first | rfl | simp [chk] at h
theorem snd_dspr {x u y v a b : C} (hx : Snd T cf lf CX k x) (hu : Snd T cf lf CX k u) (hy : Snd T cf lf CX k y) (hv : Snd T cf lf CX k v) (ha : Snd T cf lf CX k a) (hb : Snd T cf lf CX k b) : Snd T cf lf CX k (.dspr x u y v a b) := by
  refine .of (fun X ok fa e h => ?_) (fun sc N e h => ?_) (fun sc N es p h => by simp [chk] at h)
  · simp only [chk] at h
    split at h
    · rename_i x1 x2 v1 v2 e1 e2 pos
      simp only [Bool.and_eq_true] at h
      obtain ⟨⟨⟨⟨⟨c1, c2⟩, c3⟩, c4⟩, c5⟩, c6⟩ := h
      intro σD R R' M P F σ H rv r er q hm
      simp only [ev] at q
      obtain ⟨kx, R1, q1, m1, q⟩ := bindV_ok q
      obtain ⟨dx, R2, q2, m2, q⟩ := bindV_ok q
      obtain ⟨ky, R3, q3, m3, q⟩ := bindV_ok q
      obtain ⟨dy, R4, q4, m4, q⟩ := bindV_ok q
      split at q
      · rename_i k1 k2 hk1 hk2 hfl
        rw [Bool.and_eq_true] at hfl
        obtain ⟨m, R5, q5, m5, q⟩ := bindV_ok q
        split at q
        · rename_i ks ds hmd
          obtain ⟨n, R6, q6, m6, q⟩ := bindV_ok q
          split at q
          · rename_i ls es hnd
            split at q
            · rename_i hz
              cases q
              refine we_of (pe_ds (pps_cons pe_w pe_w (pps_cons pe_w pe_w pps_nil)) pe_w pe_w) ?_
              intro p hp
              have rA := r.aside (u := .dK []) hp (main_dK _)
              refine we_mono ((hx.v X ok fa _ c1).d rA er q1 m1) fun vk1 H1 ⟨F1, f1, r1, w1⟩ => ?_
              refine we_mono ((hu.v X ok fa _ c2).d r1 (er.mono f1) q2 m2) fun vd1 H2 ⟨F2, f2, r2, w2⟩ => ?_
              refine we_mono ((hy.v X ok fa _ c3).d r2 ((er.mono f1).mono f2) q3 m3) fun vk2 H3 ⟨F3, f3, r3, w3⟩ => ?_
              refine we_mono ((hv.v X ok fa _ c4).d r3 (((er.mono f1).mono f2).mono f3) q4 m4) fun vd2 H4 ⟨F4, f4, r4, w4⟩ => ?_
              have d1 : Den X.K F4 (fz dx) vd1 := flatV_den hfl.1 ((w2.mono f3).mono f4)
              have d2 : Den X.K F4 (fz dy) vd2 := flatV_den hfl.2 w4
              have b1 := keyD_v hk1 w1
              have b2 := keyD_v hk2 w3
              refine ⟨(r4.pr _ List.mem_cons_self).1, [(k1, vd1), (k2, vd2)], by rw [b1, b2]; rfl, by simp, ?_⟩
              have dd0 := mrgD_ok (K := X.K) (F := F4) (kvs := []) (ds := []) (more := [(k1, vd1), (k2, vd2)]) (es := [fz dx, fz dy]) .nil (.cons d1 (.cons d2 .nil))
              have l0 := length_mergeK [(k1, vd1), (k2, vd2)] []
              have n0 : mergeK [] [(k1, vd1), (k2, vd2)] ≠ [] := mergeK_ne [(k2, vd2)] (putK [] k1 vd1) (by simp [putK])
              generalize mergeK [] [(k1, vd1), (k2, vd2)] = D0 at *
              have r5 := r4.turn (w := .dK D0) (main_dK _)
              refine we_mono ((ha.v X ok fa _ c5).d r5 ((((er.mono f1).mono f2).mono f3).mono f4) q5 m5) fun vm H5 ⟨F5, f5, r6, w5⟩ => ?_
              rw [hmd] at w5
              obtain ⟨o, kv1, rfl, g1, g2, g3⟩ := w5.dct
              have p5 := r6.pr _ List.mem_cons_self
              have l1 : kv1.length = ks.length := by rw [← g2, List.length_map]
              simp only [List.length_cons, List.length_nil] at l0
              refine ⟨o, kv1, D0, rfl, p5.1, .inl (r6.ex _ _ g1), ne_of_none g1 p5.2.1, n0, by rw [sizeLine_eq]; omega, ?_⟩
              have dd1 := mrgD_ok (K := X.K) (F := F5) (kvs := D0) (more := kv1) (dd0.2.mono f5) g3
              rw [dd0.1, g2] at dd1
              have l2 := length_mergeK kv1 D0
              have n1 : mergeK D0 kv1 ≠ [] := mergeK_ne kv1 D0 n0
              generalize mergeK D0 kv1 = D1 at *
              have r7 := r6.turn (w := .dK D1) (main_dK _)
              refine we_mono ((hb.v X ok fa _ c6).d r7 (((((er.mono f1).mono f2).mono f3).mono f4).mono f5) q6 m6) fun vn H6 ⟨F6, f6, r8, w6⟩ => ?_
              rw [hnd] at w6
              obtain ⟨o2, kv2, rfl, g4, g5, g6⟩ := w6.dct
              have p6 := r8.pr _ List.mem_cons_self
              have l3 : kv2.length = ls.length := by rw [← g5, List.length_map]
              refine ⟨o2, kv2, D1, rfl, p6.1, .inl (r8.ex _ _ g4), ne_of_none g4 p6.2.1, n1, by rw [sizeLine_eq]; omega, ?_⟩
              have dd2 := mrgD_ok (K := X.K) (F := F6) (kvs := D1) (more := kv2) (dd1.2.mono f6) g6
              rw [dd1.1, g5] at dd2
              have r9 := r8.turn (w := .dK (mergeK D1 kv2)) (main_dK _)
              obtain ⟨r', h1, h2, h3, h4⟩ := r9.back
              exact ⟨F6, ((((f1.trans f2).trans f3).trans f4).trans f5).trans f6, r', p, rfl, rfl, ⟨h2, _, h1, dd2.1, dd2.2⟩, h3, h4⟩
            · cases q
          · cases q
        · cases q
      · cases q
    · cases h
  · simp only [chk] at h
    split at h
    · rfl
    · cases h
end
end EV

/-! EvQ: enumerate over a tuple. -/
namespace EQ
open PySem
open PySem.Sem (wp)
open AutoSeq1 (wpAny_loadPart')
theorem meets_enumerate_newT (t : Addr) (items : Array Value) :
    Meets (Builtin.«enumerate.__new__» ⟨[.type "enumerate", .ref t], []⟩) (fun _ R s => s.heap.IsTuple t items ∧
      R (.ok (.ret (.ref (s.heap.push { cls := .type "tuple_iterator", data := .fields #[.ref t, .int 0 0] }).objs.size)))
        { s with heap := (s.heap.push { cls := .type "tuple_iterator", data := .fields #[.ref t, .int 0 0] }).push { cls := .type "enumerate", data := .fields #[.none, .bool false, .ref s.heap.objs.size, rawInt 0, .none, .none] } }) :=
  .of_wp fun prog w A R s h => by
    obtain ⟨hp, g, d, tk, os⟩ := s; obtain ⟨hL, h⟩ := h
    have hsub := sub_enumerate
    obtain ⟨⟨c, dct, dt, sl⟩, hl, hc, n, hd⟩ := id hL
    replace hc : c = .type "tuple" := hc
    replace hd : dt = .seq items n := hd
    subst hc hd
    wp_walk using wpAny_loadPart' hl
    refine wpAny_stack_any fun st => wpAny_pure ?_
    split
    · rename_i c _ _ _ _ _
      cases (c == Value.type "enumerate")
      · wp_walk using wpAny_loadPart' hl, wpAny_pyIter_tuple hL
        exact ⟨_, rfl, h⟩
      · wp_walk using wpAny_loadPart' hl, wpAny_pyIter_tuple hL
        exact ⟨_, rfl, h⟩
    · wp_walk using wpAny_loadPart' hl, wpAny_pyIter_tuple hL
      exact ⟨_, rfl, h⟩
section
variable {prog : Program} {w : World} {A : Around} {E : Value → Shared → Prop} {s : Shared}
theorem call_enumerate_tuple {t : Addr} {items : Array Value} {Q : Value → Shared → Prop} (hL : s.heap.IsTuple t items)
    (h : ∀ h', IsEnum h' (s.heap.objs.size + 1) s.heap.objs.size 0 .none → h'.IsTupleIter s.heap.objs.size t 0 → h'.objs.size = s.heap.objs.size + 2 →
      (∀ b o, s.heap.get? b = some o → h'.get? b = some o) → Q (.ref (s.heap.objs.size + 1)) { s with heap := h' }) :
    wpAny (model prog w) A (call (.type "enumerate") [.ref t]) Q E s := by
  refine callType_new F.called_enumerate (by decide) (F.typeCall_enumerate_1 _) (F.newCall_enumerate_1 _) (fun obj => F.args_object_init_2 obj _) F.entry_enumerate_new
    (meets_enumerate_newT t items) ⟨hL, ?_⟩
  have hz : (s.heap.push { cls := .type "tuple_iterator", data := .fields #[.ref t, .int 0 0] }).objs.size = s.heap.objs.size + 1 := Heap.size_push ..
  show _ ∧ _
  rw [hz]
  have he : IsEnum ((s.heap.push { cls := .type "tuple_iterator", data := .fields #[.ref t, .int 0 0] }).push
      { cls := .type "enumerate", data := .fields #[.none, .bool false, .ref s.heap.objs.size, rawInt 0, .none, .none] }) (s.heap.objs.size + 1) s.heap.objs.size 0 .none := by
    have := Heap.get?_push_size (s.heap.push { cls := .type "tuple_iterator", data := .fields #[.ref t, .int 0 0] })
      (o := { cls := .type "enumerate", data := .fields #[.none, .bool false, .ref s.heap.objs.size, rawInt 0, .none, .none] }) rfl
    rw [hz] at this; exact this
  refine ⟨⟨_, he, rfl⟩, h _ he ⟨_, Heap.get?_push_of_some _ (Heap.get?_push_size _ rfl), rfl, rfl⟩ (by rw [Heap.size_push, hz]) fun b o x => Heap.get?_push_of_some _ (Heap.get?_push_of_some _ x)⟩
end
end EQ
namespace L2
open PySem PySem.Spec PyProof.Rows
/-- the tuple at a, each item in a new pair -/
def IteT (K : PySem.W.Frag) (a : Addr) : It :=
  ⟨fun i H => ∃ (xs : List V) (x : V), SqT K H a xs ∧ xs[i]? = some x, fun i H v H' => ∃ T x, v = .ref T ∧ H T = none ∧ H' = upd H T (.tup [.int (i : Nat), x]) ∧ ∀ xs, SqT K H a xs → xs[i]? = some x, fun i H => ∃ xs : List V, SqT K H a xs ∧ xs.length ≤ i⟩
theorem turn_enumT {P : Program} {w : World} {K : PySem.W.Frag} {elts : List Expr} {kk : Nat} {tpos : Pos} (a e it : Addr) :
    Turn P w K (.Tuple elts kk tpos) (IteT K a) [e, it] e (fun i h => (∃ old, IsEnum h e it ((i : Nat) : Int) old) ∧ h.IsTupleIter it a i ∧ e ≠ it ∧ a ≠ it ∧ a ≠ e) where
  mem := by simp
  obj := fun i h st b hb => by
    obtain ⟨⟨old, he⟩, ⟨o, ho, hc, hd⟩, _⟩ := st
    have e' : b = e ∨ b = it := by simpa using hb
    rcases e' with z | z
    · rw [z]; exact ⟨_, he, fun v q => nomatch q⟩
    · rw [z]; exact ⟨o, ho, fun v q => by rw [hd] at q; cases q⟩
  keep := fun i h h' st k => let ⟨⟨old, he⟩, hi, hne⟩ := st; ⟨⟨old, k e (by simp) _ he⟩, hi.at fun o q => k it (by simp) o q, hne⟩
  item := by
    intro X hP hw hK hc i pins s σ H E I hf st hg
    subst hP hw hK
    obtain ⟨⟨old, he⟩, hit, hne, hai, hae⟩ := st
    obtain ⟨xs, x, hq, hx⟩ := hg
    obtain ⟨its, rv, p, hz⟩ := I.tuple hq
    obtain ⟨u, hu, ru⟩ := rv.get hx
    have hel : e < s.heap.objs.size := Heap.lt_size he
    have hil : it < s.heap.objs.size := by obtain ⟨_, q, _⟩ := hit; exact Heap.lt_size q
    have hlt : i < its.toArray.size := by
      have := (List.getElem?_eq_some_iff.mp hu).1
      simpa using this
    have hh : X.A.in1.handled = none := I.ok.hd hc
    refine wpAny_pyNext_enum_itemC (c := ((i : Nat) : Int)) (Draws.tuple (prog := X.prog) (w := X.w) hh it a hai its.toArray) he ⟨hit, p⟩ hlt hne (by simp [hne, Ne.symm hae]) fun x' h' tk hP' ho hs' hT hsz hk => ?_
    have ex : x' = u := by
      have h1 : its.toArray[i]? = some x' := hP'
      have h2 : its.toArray[i]? = some u := by simpa using hu
      rw [h1] at h2
      exact Option.some.inj h2
    subst ex
    refine ⟨_, rfl, wpAny_letOwnedTupleGo_enum (s := { s with heap := h', toks := tk + 1 }) ho fun h'' he' sb => ?_⟩
    have hT2 : h''.get? s.heap.objs.size = some { cls := .type "tuple", data := .seq #[.int i tk, x'] } := (sb.2 _ (Nat.ne_of_gt hel)).trans hT
    have new : ObjOk X.prog X.w (upd H s.heap.objs.size (.tup [.int (i : Nat), x])) h'' s.heap.objs.size (.tup [.int (i : Nat), x]) :=
      ⟨by show 2 ≤ sizeLine; decide, [.int i tk, x'], .cons ⟨_, rfl⟩ (.cons ru .nil), ⟨_, hT2, rfl, _, rfl⟩⟩
    have I1 : Inv X pins σ (upd H s.heap.objs.size (.tup [.int (i : Nat), x])) { s with heap := h'', toks := tk + 1 } :=
      I.turnedNew (ch := [e, it]) (fun b ob hb q => (sb.2 b (fun z => hb (by simp [z]))).trans (hk b ob (fun z => hb (by simp [z])) (fun z => hb (by simp [z])) q)) hf (Nat.le_refl _) new
    refine ⟨.ref s.heap.objs.size, _, I1, rfl, ⟨_, x, rfl, I.hok.fresh (Nat.le_refl _), rfl, fun ys hy => by rw [I.tuple_inj hy hq]; exact hx⟩, ⟨⟨x', ?_⟩, hs'.1.at fun o q => (sb.2 it (Ne.symm hne)).trans q, hne, hai, hae⟩, fun b hb => ?_⟩
    · have e1 : ((i + 1 : Nat) : Int) = (i : Int) + 1 := by omega
      rw [e1]; exact he'
    · have hb' : b < s.heap.objs.size := by
        have e' : b = e ∨ b = it := by simpa using hb
        rcases e' with z | z
        · rw [z]; exact hel
        · rw [z]; exact hil
      rw [upd_ne (Nat.ne_of_lt hb')]
      exact (hf b hb).1
  done := by
    intro X hP hw hK hc i pins s σ H E I hf st hg
    subst hP hw hK
    obtain ⟨⟨old, he⟩, hit, hne, hai, hae⟩ := st
    obtain ⟨xs, hq, hx⟩ := hg
    obtain ⟨its, rv, p, hz⟩ := I.tuple hq
    obtain ⟨f0, f1, f2, f3, f4, f5⟩ := hf it (by simp)
    have hl := rv.length
    have hh : X.A.in1.handled = none := I.ok.hd hc
    have hT : s.TypeIs (.ref e) "enumerate" := ⟨_, he, rfl⟩
    unfold pyNext
    refine wpAny_bind (wpAny_attempt (wpAny_callSpecial?_slot (name := Str.ofString "__next__") hT F.slot_enumerate_next
      (wpAny_call_entry F.slot_enumerate_next hT F.entry_enumerate_next ?_ (F.args_enumerate_next_1 _))))
    show wpAny _ _ (field (.ref e) 2 >>= _) _ _ _
    refine wpAny_bind (wpAny_field he rfl (x := .ref it) rfl ?_)
    refine wpAny_bind (wpAny_nextOf_tuple_end hh hit p (by simp; omega) fun h' x he' hx' => ?_)
    obtain ⟨o, ho, hcl⟩ := hx'
    refine wpAny_bind (wpAny_isInstance (T := "StopIteration") (b := true) ⟨o, ho, hcl⟩ isSubtype_stop ?_)
    exact wpAny_pure ⟨rfl, I.turned (t' := s.toks) (fun b o hb q => he' b o hb q) f0 f1 f3 f4 f5⟩
  self := fun A i s Q E st h => let ⟨⟨_, he⟩, _⟩ := st; wpAny_pyIter_enum he h
def iEnumT (K : PySem.W.Frag) (ta : TA) : TI := fun σ H R => ta σ H fun vs H1 => ∃ a xs, vs = [.ref a] ∧ SqT K H1 a xs ∧ R (IteT K a) H1
theorem pi_enumT {X : Cx} {e : Expr} {ta : TA} {p pos tpos : Pos} {elts : List Expr} {kk : Nat} (hg : Gl X "enumerate") (hm : X.mg "enumerate" = none) (ha : PA X [e] ta) (hs : starEach [e] X.env = [(false, eval e X.env)] := by rfl) :
    PI X (.Tuple elts kk tpos) (.Call (.Name "enumerate" p) [e] [] pos) (iEnumT X.K ta) := by
  refine ⟨fun pins s σ H R I h => ?_⟩
  refine Call_ (ld_blt I hg hm boot_enumerate (PyProof.Rows.callWith_type1 (thn (ha.run pos pins s σ H _ I h) fun us s1 ⟨vs, H1, I1, r1, q1⟩ => ?_) hs rfl))
  obtain ⟨a, xs, ex, hq, q⟩ := q1
  subst ex
  cases r1 with
  | cons r rr =>
    cases rr
    cases r
    obtain ⟨its, rv, p', hz⟩ := I1.tuple hq
    have ha : a < s1.heap.objs.size := by obtain ⟨_, q, _⟩ := p'; exact Heap.lt_size q
    refine EQ.call_enumerate_tuple p' fun h' he hit hsz hk => wpAny_pyIter_enum he ?_
    have I2 : Inv X pins σ H1 { s1 with heap := h' } := I1.kept (t' := s1.toks) hk
    refine ⟨s1.heap.objs.size + 1, [s1.heap.objs.size + 1, s1.heap.objs.size], _, _, H1, rfl, I2, turn_enumT a (s1.heap.objs.size + 1) s1.heap.objs.size, ⟨⟨.none, he⟩, hit, Nat.succ_ne_self _, Nat.ne_of_lt ha, Nat.ne_of_lt (Nat.lt_succ_of_lt ha)⟩, fun b hb => ?_, q⟩
    have e' : b = s1.heap.objs.size + 1 ∨ b = s1.heap.objs.size := by simpa using hb
    have hle : s1.heap.objs.size ≤ b := by
      rcases e' with z | z
      · rw [z]; exact Nat.le_add_right _ _
      · rw [z]; exact Nat.le_refl _
    exact I1.fpOk hle (I1.hok.fresh hle)
end L2

/-! EvJ: slices, what is walked, comprehensions; all expressions together. -/
namespace EV
open PySem PySem.Spec PyProof.Rows L2

/-! ### what is walked -/
/-- told values are walked by J -/
def ItV (K : PySem.W.Frag) (F : Hp) (ds : List D) (J : L2.It) : Prop := ∀ H, Ex F H → (∀ i d, ds[i]? = some d → J.go i H ∧ ∀ x H', J.yld i H x H' → ∀ (M : Mp) (R : Sto) (P : Ps) (G : Hp), Ex F G → Rel K M R P G H → ∃ G', Ex G G' ∧ Rel K M R P G' H' ∧ Den K G' d x) ∧ J.stop ds.length H
/-- where the heap stays as it is -/
theorem itV_same {K : PySem.W.Frag} {F : Hp} {ds : List D} {vs : List V} {J : L2.It} (h : DenL K F ds vs) (k : ∀ H, Ex F H → (∀ i, i < vs.length → J.go i H ∧ ∀ x H', J.yld i H x H' → H' = H ∧ vs[i]? = some x) ∧ J.stop vs.length H) : ItV K F ds J := fun H e => by
  obtain ⟨k1, k2⟩ := k H e
  refine ⟨fun i d hd => ?_, ?_⟩
  · obtain ⟨v, h1, h2⟩ := h.get hd
    have hi := (List.getElem?_eq_some_iff.mp h1).1
    refine ⟨(k1 i hi).1, fun x H' y M R P G eG r => ?_⟩
    obtain ⟨e1, e2⟩ := (k1 i hi).2 x H' y
    subst e1
    rw [h1] at e2
    cases e2
    exact ⟨G, .refl G, r, h2.mono eG⟩
  · rw [← h.length]
    exact k2
def ItR (K : PySem.W.Frag) (M : Mp) (F : Hp) (j : It) (J : L2.It) : Prop := match j with
  | .vals ds => ItV K F ds J
  | .live x => ∃ a, Vr K M F x (.ref a) ∧ J = Itl K a
def WI (X : Cx) (tg e : Expr) (σ : L2.St) (H : Hp) (R : L2.It → Hp → Prop) : Prop := ∀ (pins : List (Addr × Obj)) (s : Shared), Inv X pins σ H s → wpAny (model X.prog X.w) X.A (eval e X.env) (fun v s1 => wpAny (model X.prog X.w) X.A (pyIter v) (PIE X pins σ tg R) X.xe s1) X.xe s
theorem pi_w {X : Cx} {tg e : Expr} : PI X tg e (WI X tg e) := ⟨fun pins s σ H R I h => h pins s I⟩
theorem wi_of {X : Cx} {tg e : Expr} {t : TI} {σ : L2.St} {H : Hp} {R : L2.It → Hp → Prop} (h : PI X tg e t) (q : t σ H R) : WI X tg e σ H R := fun pins s I => h.run pins s σ H R I q
section
variable {K : PySem.W.Frag} {F : Hp} {ds : List D} {vs : List V} {a : Addr}
theorem itV_list (h : DenL K F ds vs) (ha : ∀ H, Ex F H → SqL K H a vs) : ItV K F ds (Itl K a) := by
  refine itV_same h fun H e => ⟨fun i hi => ⟨⟨vs, vs[i], ha H e, List.getElem?_eq_getElem hi⟩, fun x H' y => ?_⟩, ⟨vs, ha H e, Nat.le_refl _⟩⟩
  obtain ⟨e1, y⟩ := y
  exact ⟨e1, y vs (ha H e)⟩
theorem itV_tup (h : DenL K F ds vs) (ha : SqT K F a vs) : ItV K F ds (Itt K a) := by
  refine itV_same h fun H e => ⟨fun i hi => ⟨⟨vs, vs[i], e.sqT ha, List.getElem?_eq_getElem hi⟩, fun x H' y => ?_⟩, ⟨vs, e.sqT ha, Nat.le_refl _⟩⟩
  obtain ⟨e1, y⟩ := y
  exact ⟨e1, y vs (e.sqT ha)⟩
theorem denl_ints (K : PySem.W.Frag) (F : Hp) (lo : Int) : ∀ n : Nat, DenL K F ((List.range n).map fun (i : Nat) => D.int (lo + (i : Int))) ((List.range n).map fun (i : Nat) => V.int (lo + (i : Int))) := fun n => by
  generalize List.range n = l
  induction l with
  | nil => exact .nil
  | cons x l ih => exact .cons (.int _) ih
theorem itV_range (lo : Int) (n : Nat) : ItV K F ((List.range n).map fun (i : Nat) => D.int (lo + (i : Int))) (Itr lo n) := by
  refine itV_same (denl_ints K F lo n) fun H e => ⟨fun i hi => ?_, ?_⟩
  · rw [List.length_map, List.length_range] at hi
    refine ⟨hi, fun x H' y => ?_⟩
    obtain ⟨e1, e2⟩ := y
    refine ⟨e1, ?_⟩
    rw [List.getElem?_map, List.getElem?_range hi, e2]
    rfl
  · rw [List.length_map, List.length_range]
    exact Nat.le_refl _
theorem ItV.mono {G : Hp} {J : L2.It} (e : Ex F G) (h : ItV K F ds J) : ItV K G ds J := fun H e' => by
  obtain ⟨h1, h2⟩ := h H (e.trans e')
  exact ⟨fun i d hd => ⟨(h1 i d hd).1, fun x H' y M R P I eI r => (h1 i d hd).2 x H' y M R P I (e.trans eI) r⟩, h2⟩
end

section
variable {T : Tb} {cf : Cf} {lf k : Nat} {CX : CXT} {c : C}
theorem po_w {X : Cx} {o : Option Expr} {lo : C} {σD : List (Option D)} {R R' : Sto} {M : Mp} {P : Ps} {F : Hp} {σ : L2.St} {H : Hp} {rv : Rv} {l : Option Int} (ok : Okx CX k X) (fa : Facts T cf CX k X) (hs : Snd T cf lf CX k lo) (h : (match o with | none => isNonC lo | some l => !isNonC lo && chk T lo X.env.scope X.N l) = true)
    (r : Rel X.K M R P F H) (er : ER X.K M F σD σ) (q : ev cf lf lo σD R = .ok rv R') (hm : ∀ ds, rv ≠ .many ds) (hl : ptOf (isNonC lo) (fz rv) = some l) :
    ∃ t, PO X o t ∧ ∀ Q : Option Int → Hp → Prop, (∀ H' F', Ex F F' → Rel X.K M R' P F' H' → Q l H') → t σ H Q := by
  cases o with
  | none =>
    have h : isNonC lo = true := h
    have e : lo = .lit .non := by
      unfold isNonC at h
      split at h
      · rfl
      · cases h
    subst e
    simp only [ev] at q
    cases q
    cases hl
    exact ⟨_, po_none, fun Q kq => kq H F (.refl F) r⟩
  | some e =>
    simp only [Bool.and_eq_true] at h
    rw [nobool h.1] at hl
    refine ⟨_, po_some pe_w, fun Q kq => we_mono ((hs.v X ok fa e h.2).d r er q hm) fun v H1 ⟨F1, e1, r1, v1⟩ => ?_⟩
    cases hd : fz rv with
    | int i =>
      rw [hd] at hl v1
      cases hl
      exact ⟨i, v1.int, kq H1 F1 e1 r1⟩
    | _ => rw [hd] at hl; cases hl
theorem snd_slc {a lo hi : C} (ha : Snd T cf lf CX k a) (hl : Snd T cf lf CX k lo) (hh : Snd T cf lf CX k hi) : Snd T cf lf CX k (.slc a lo hi) := by
  refine .of (fun X ok fa e h => ?_) (fun sc N e h => ?_) (fun sc N es p h => by simp [chk] at h)
  · have inv : ∃ x l u p2 p, e = .Subscript x (.Slice l u none p2) p ∧ chk T a X.env.scope X.N x = true ∧ (match l with | none => isNonC lo | some l => !isNonC lo && chk T lo X.env.scope X.N l) = true ∧ (match u with | none => isNonC hi | some l => !isNonC hi && chk T hi X.env.scope X.N l) = true := by
      cases e with
      | Subscript x y p =>
        cases y with
        | Slice l u st p2 =>
          cases st with
          | none =>
            simp only [chk, Bool.and_eq_true] at h
            exact ⟨x, l, u, p2, p, rfl, h.1.1, h.1.2, h.2⟩
          | some _ => simp [chk] at h
        | _ => simp [chk] at h
      | _ => simp [chk] at h
    obtain ⟨x, l, u, p2, p, rfl, h1, h2, h3⟩ := inv
    intro σD R R' M P F σ H rv r er q hm
    simp only [ev] at q
    obtain ⟨dx, R1, q1, m1, q⟩ := bindV_ok q
    obtain ⟨dl, R2, q2, m2, q⟩ := bindV_ok q
    obtain ⟨dh, R3, q3, m3, q⟩ := bindV_ok q
    obtain ⟨lv, uv, e1, e2, rl, o1, o2⟩ := slcOp_ok (X := X) q
    have plo : ∀ (F1 H1 : Hp), Ex F F1 → Rel X.K M R1 P F1 H1 → ∃ t, PO X l t ∧ ∀ Q : Option Int → Hp → Prop, (∀ H' F', Ex F1 F' → Rel X.K M R2 P F' H' → Q lv H') → t σ H1 Q := fun F1 H1 e r1 => po_w ok fa hl h2 r1 (er.mono e) q2 m2 e1
    have phi : ∀ (F1 H1 : Hp), Ex F F1 → Rel X.K M R2 P F1 H1 → ∃ t, PO X u t ∧ ∀ Q : Option Int → Hp → Prop, (∀ H' F', Ex F1 F' → Rel X.K M R3 P F' H' → Q uv H') → t σ H1 Q := fun F1 H1 e r1 => po_w ok fa hh h3 r1 (er.mono e) q3 m3 e2
    refine we_of (pe_slice (tl := fun σ H Q => ∃ t, PO X l t ∧ t σ H Q) (th := fun σ H Q => ∃ t, PO X u t ∧ t σ H Q) o1 pe_w ⟨fun pins s σ H Q I ⟨t, ht, hq⟩ => ht.run pins s σ H Q I hq⟩ ⟨fun pins s σ H Q I ⟨t, ht, hq⟩ => ht.run pins s σ H Q I hq⟩) ?_
    refine we_mono ((ha.v X ok fa _ h1).d r er q1 m1) fun vx H1 ⟨F1, f1, r1, v1⟩ => ?_
    obtain ⟨t, ht, hq⟩ := plo F1 H1 f1 r1
    refine ⟨t, ht, hq _ fun H2 F2 f2 r2 => ?_⟩
    obtain ⟨t', ht', hq'⟩ := phi F2 H2 (f1.trans f2) r2
    refine ⟨t', ht', hq' _ fun H3 F3 f3 r3 => ?_⟩
    exact o2 M P F3 H3 vx _ r3 ((v1.mono f2).mono f3) fun v F' H' e3 r4 h => ⟨F', ((f1.trans f2).trans f3).trans e3, r4, h⟩
  · cases e <;> first | rfl | simp [chk] at h
theorem snd_rng1 {a : C} : Snd T cf lf CX k (.rng1 a) := by
  have nm : ∀ {σD R rv R'}, ev cf lf (.rng1 a) σD R = .ok rv R' → ∃ ds, rv = .many ds := fun q => by
    simp only [ev] at q
    obtain ⟨x, R2, q2, m2, q⟩ := bindV_ok q
    cases q
    exact ⟨_, rfl⟩
  refine ⟨fun X ok fa e h σD R R' M P F σ H rv r er q hm => ?_, fun X ok fa es p h => by simp [chk] at h, fun X ok fa e h σD R R' M P F σ H rv b r er q hm => ?_⟩
  · obtain ⟨ds, e⟩ := nm q
    exact absurd e (hm _)
  · obtain ⟨ds, e⟩ := nm q
    exact absurd e (hm _)
theorem snd_rng2 {a b : C} : Snd T cf lf CX k (.rng2 a b) := by
  have nm : ∀ {σD R rv R'}, ev cf lf (.rng2 a b) σD R = .ok rv R' → ∃ ds, rv = .many ds := fun q => by
    simp only [ev] at q
    obtain ⟨x, R2, q2, m2, q⟩ := bindV_ok q
    obtain ⟨y, R3, q3, m3, q⟩ := bindV_ok q
    cases q
    exact ⟨_, rfl⟩
  refine ⟨fun X ok fa e h σD R R' M P F σ H rv r er q hm => ?_, fun X ok fa es p h => by simp [chk] at h, fun X ok fa e h σD R R' M P F σ H rv b r er q hm => ?_⟩
  · obtain ⟨ds, e⟩ := nm q
    exact absurd e (hm _)
  · obtain ⟨ds, e⟩ := nm q
    exact absurd e (hm _)
theorem itOf_false {rv : Rv} {j : It} {R : Sto} (h : itOf .val R rv = some j) : ∀ ds, rv ≠ .many ds := by
  intro ds z
  subst z
  cases h
theorem itOf_many {ds : List D} {j : It} {R : Sto} (h : itOf .rng R (.many ds) = some j) : ∃ a b : Int, ds = [.int a, .int b] ∧ (-(2 ^ 62) ≤ a ∧ a < 2 ^ 62 ∧ -(2 ^ 62) ≤ b ∧ b < 2 ^ 62) ∧ j = .vals ((List.range (b - a).toNat).map fun (i : Nat) => .int (a + (i : Int))) := by
  simp only [itOf] at h
  split at h
  · rename_i a b z
    cases z
    split at h
    · rename_i hb
      cases h
      exact ⟨_, _, rfl, of_decide_eq_true hb, rfl⟩
    · cases h
  · cases h
/-- what is walked, as the machine has it -/
def WJ (it : C) (X : Cx) (M : Mp) (R : Sto) (P : Ps) (F : Hp) (j : It) (e : Expr) (σ : L2.St) (H : Hp) : Prop := ∀ (tg : Expr) (Q : L2.It → Hp → Prop), tgIk it tg = true → (∀ J H' F', Ex F F' → Rel X.K M R P F' H' → ItR X.K M F' j J → Q J H') → WI X tg e σ H Q
theorem itV_eq {rv : Rv} {j : It} {R : Sto} (h : itOf .val R rv = some j) (hm : ∀ ds, rv ≠ .many ds) : itV R (fz rv) = some j := by
  cases rv with
  | val d => exact h
  | new o => exact h
  | many ds => exact absurd rfl (hm ds)
theorem it_val {it : C} (hs : Snd T cf lf CX k it) {X : Cx} {e : Expr} (ok : Okx CX k X) (fa : Facts T cf CX k X) (h : chk T it X.env.scope X.N e = true) {σD : List (Option D)} {R R' : Sto} {M : Mp} {P : Ps} {F : Hp} {σ : L2.St} {H : Hp} {rv : Rv} {j : It}
    (r : Rel X.K M R P F H) (er : ER X.K M F σD σ) (q : ev cf lf it σD R = .ok rv R') (hj : itOf .val R' rv = some j) : WJ it X M R' P F j e σ H := by
  intro tg Q ktg kq
  have hm := itOf_false hj
  have W := (hs.v X ok fa e h).d r er q hm
  have hj := itV_eq hj hm
  cases hd : fz rv with
  | tup ds =>
    rw [hd] at hj W
    cases hj
    refine wi_of (pi_tup pe_w) (we_mono W fun v H1 ⟨F1, e1, r1, v1⟩ => ?_)
    obtain ⟨a, vs, rfl, h1, h2⟩ := v1.tup
    exact ⟨a, rfl, ⟨vs, r1.ex.sqT h1⟩, kq _ _ F1 e1 r1 (itV_tup h2 h1)⟩
  | ktp ds =>
    rw [hd] at hj W
    cases hj
    refine wi_of (pi_tup pe_w) (we_mono W fun v H1 ⟨F1, e1, r1, v1⟩ => ?_)
    obtain ⟨a, vs, rfl, h1, h2⟩ := v1.ktp
    exact ⟨a, rfl, ⟨vs, r1.ex.sqT h1⟩, kq _ _ F1 e1 r1 (itV_tup h2 h1)⟩
  | lst ds =>
    rw [hd] at hj W
    cases hj
    refine wi_of (pi_list pe_w) (we_mono W fun v H1 ⟨F1, e1, r1, v1⟩ => ?_)
    obtain ⟨a, vs, rfl, h1, h2⟩ := v1.lst
    exact ⟨a, rfl, ⟨vs, .inl (.inl (r1.ex _ _ h1))⟩, kq _ _ F1 e1 r1 (itV_list h2 (fun H e => .inl (.inl (e _ _ h1))))⟩
  | scr ds =>
    rw [hd] at hj W
    cases hj
    refine wi_of (pi_list pe_w) (we_mono W fun v H1 ⟨F1, e1, r1, v1⟩ => ?_)
    obtain ⟨a, vs, rfl, h1, h2⟩ := v1.scr
    exact ⟨a, rfl, ⟨vs, r1.ex.sqL h1⟩, kq _ _ F1 e1 r1 (itV_list h2 (fun H e => e.sqL h1))⟩
  | ref j i =>
    rw [hd] at hj W
    simp only [itV] at hj
    split at hj
    · rename_i ds hds
      cases hj
      refine wi_of (pi_list pe_w) (we_mono W fun v H1 ⟨F1, e1, r1, v1⟩ => ?_)
      obtain ⟨a, vs, rfl, h1, h2⟩ := r1.asL v1 hds
      exact ⟨a, rfl, ⟨vs, .inl (.inl h1)⟩, kq _ _ F1 e1 r1 ⟨a, v1, rfl⟩⟩
    · cases hj
  | _ => rw [hd] at hj; cases hj
theorem it_rng1 {a it0 : C} (ha : Snd T cf lf CX k a) {X : Cx} {e : Expr} (ok : Okx CX k X) (fa : Facts T cf CX k X) (h : chk T (.rng1 a) X.env.scope X.N e = true) {σD : List (Option D)} {R R' : Sto} {M : Mp} {P : Ps} {F : Hp} {σ : L2.St} {H : Hp} {rv : Rv} {j : It}
    (r : Rel X.K M R P F H) (er : ER X.K M F σD σ) (q : ev cf lf (.rng1 a) σD R = .ok rv R') (hj : itOf .rng R' rv = some j) : WJ it0 X M R' P F j e σ H := by
  intro tg Q ktg kq
  have inv : ∃ y px p, e = .Call (.Name "range" px) [y] [] p ∧ ("range" : Str) ∈ T.bnm ∧ glB X.env.scope "range" = true ∧ isStar y = false ∧ chk T a X.env.scope X.N y = true := by
    cases e with
    | Call g es kws p =>
      cases g with
      | Name x px =>
        cases kws with
        | nil =>
          cases es with
          | nil => simp [chk] at h
          | cons y es =>
            cases es with
            | nil =>
              simp only [chk, Bool.and_eq_true] at h
              obtain ⟨⟨⟨⟨h1, h2⟩, h3⟩, h4⟩, h5⟩ := h
              cases of_decide_eq_true h1
              exact ⟨y, px, p, rfl, of_decide_eq_true h2, h3, nobool h4, h5⟩
            | cons _ _ => simp [chk] at h
        | cons _ _ => simp [chk] at h
      | _ => simp [chk] at h
    | _ => simp [chk] at h
  obtain ⟨y, px, p, rfl, h2, h3, h4, h5⟩ := inv
  obtain ⟨g1, g2, g3⟩ := gl_of h3
  simp only [ev] at q
  obtain ⟨x, R1, q1, m1, q⟩ := bindV_ok q
  cases q
  obtain ⟨lo, hi, e1, hb, rfl⟩ := itOf_many hj
  have W := (ha.v X ok fa y h5).d r er q1 m1
  cases hd : fz x with
  | int n =>
    rw [hd] at e1 W
    cases e1
    refine wi_of (pi_range1 g1 (fa.bl _ h2) (pa_cons pe_w pa_nil (star_cons h4)) (by rw [star_cons h4]; rfl)) ?_
    refine we_mono W fun v H1 ⟨F1, f1, r1, v1⟩ => ?_
    refine ⟨hi, ?_, hb.2.2.1, hb.2.2.2, kq _ _ F1 f1 r1 ?_⟩
    · rw [v1.int]
    · have z : (hi - 0).toNat = hi.toNat := by rw [Int.sub_zero]
      rw [z]
      exact itV_range 0 _
  | _ => rw [hd] at e1; cases e1
theorem it_rng2 {a b it0 : C} (ha : Snd T cf lf CX k a) (hb : Snd T cf lf CX k b) {X : Cx} {e : Expr} (ok : Okx CX k X) (fa : Facts T cf CX k X) (h : chk T (.rng2 a b) X.env.scope X.N e = true) {σD : List (Option D)} {R R' : Sto} {M : Mp} {P : Ps} {F : Hp} {σ : L2.St} {H : Hp} {rv : Rv} {j : It}
    (r : Rel X.K M R P F H) (er : ER X.K M F σD σ) (q : ev cf lf (.rng2 a b) σD R = .ok rv R') (hj : itOf .rng R' rv = some j) : WJ it0 X M R' P F j e σ H := by
  intro tg Q ktg kq
  have inv : ∃ y z px p, e = .Call (.Name "range" px) [y, z] [] p ∧ ("range" : Str) ∈ T.bnm ∧ glB X.env.scope "range" = true ∧ isStar y = false ∧ isStar z = false ∧ chk T a X.env.scope X.N y = true ∧ chk T b X.env.scope X.N z = true := by
    cases e with
    | Call g es kws p =>
      cases g with
      | Name x px =>
        cases kws with
        | nil =>
          cases es with
          | nil => simp [chk] at h
          | cons y es =>
            cases es with
            | nil => simp [chk] at h
            | cons z es =>
              cases es with
              | nil =>
                simp only [chk, Bool.and_eq_true] at h
                obtain ⟨⟨⟨⟨⟨⟨h1, h2⟩, h3⟩, h4⟩, h5⟩, h6⟩, h7⟩ := h
                cases of_decide_eq_true h1
                exact ⟨y, z, px, p, rfl, of_decide_eq_true h2, h3, nobool h4, nobool h5, h6, h7⟩
              | cons _ _ => simp [chk] at h
        | cons _ _ => simp [chk] at h
      | _ => simp [chk] at h
    | _ => simp [chk] at h
  obtain ⟨y, z, px, p, rfl, h2, h3, h4, h4', h5, h6⟩ := inv
  obtain ⟨g1, g2, g3⟩ := gl_of h3
  simp only [ev] at q
  obtain ⟨x, R1, q1, m1, q⟩ := bindV_ok q
  obtain ⟨w, R2, q2, m2, q⟩ := bindV_ok q
  cases q
  obtain ⟨lo, hi, e1, hbd, rfl⟩ := itOf_many hj
  have W := (ha.v X ok fa y h5).d r er q1 m1
  cases hd : fz x with
  | int n =>
    cases hd2 : fz w with
    | int m =>
      rw [hd, hd2] at e1
      rw [hd] at W
      cases e1
      refine wi_of (pi_range2 g1 (fa.bl _ h2) (pa_cons pe_w (pa_cons pe_w pa_nil (star_cons h4')) (star_cons h4)) (by rw [star_cons h4, star_cons h4']; rfl) (by rw [star_cons h4']; rfl)) ?_
      refine we_mono W fun v H1 ⟨F1, f1, r1, v1⟩ => ?_
      have W2 := (hb.v X ok fa z h6).d r1 (er.mono f1) q2 m2
      refine we_mono W2 fun v2 H2 ⟨F2, f2, r2, w2⟩ => ?_
      rw [hd2] at w2
      refine ⟨lo, hi, ?_, hbd, kq _ _ F2 (f1.trans f2) r2 (itV_range lo _)⟩
      rw [v1.int, w2.int]
    | _ => rw [hd, hd2] at e1; cases e1
  | _ => rw [hd] at e1; cases e1
/-! ### pairs at each turn: zip, enumerate, items -/
theorem snd_many1 {it a : C} (hev : ∀ σ R, ev cf lf it σ R = bindV (ev cf lf a σ R) fun x R1 => .ok (.many [x]) R1) (hl : ∀ T sc N es p, chk T it sc N (.List es p) = false) : Snd T cf lf CX k it := by
  have nm : ∀ {σD R rv R'}, ev cf lf it σD R = .ok rv R' → ∃ ds, rv = .many ds := fun q => by
    rw [hev] at q
    obtain ⟨x, R2, q2, m2, q⟩ := bindV_ok q
    cases q
    exact ⟨_, rfl⟩
  refine ⟨fun X ok fa e h σD R R' M P F σ H rv r er q hm => ?_, fun X ok fa es p h => (by rw [hl] at h; cases h), fun X ok fa e h σD R R' M P F σ H rv b r er q hm => ?_⟩
  · obtain ⟨ds, e⟩ := nm q
    exact absurd e (hm _)
  · obtain ⟨ds, e⟩ := nm q
    exact absurd e (hm _)
theorem snd_zipE {a b : C} : Snd T cf lf CX k (.zipE a b) := by
  have nm : ∀ {σD R rv R'}, ev cf lf (.zipE a b) σD R = .ok rv R' → ∃ ds, rv = .many ds := fun q => by
    simp only [ev] at q
    obtain ⟨x, R2, q2, m2, q⟩ := bindV_ok q
    obtain ⟨y, R3, q3, m3, q⟩ := bindV_ok q
    cases q
    exact ⟨_, rfl⟩
  refine ⟨fun X ok fa e h σD R R' M P F σ H rv r er q hm => ?_, fun X ok fa es p h => by simp [chk] at h, fun X ok fa e h σD R R' M P F σ H rv b r er q hm => ?_⟩
  · obtain ⟨ds, e⟩ := nm q
    exact absurd e (hm _)
  · obtain ⟨ds, e⟩ := nm q
    exact absurd e (hm _)
theorem snd_enmE {a : C} : Snd T cf lf CX k (.enmE a) := snd_many1 (a := a) (fun _ _ => by simp only [ev]) fun _ _ _ _ _ => (by simp [chk])
theorem snd_itm {a : C} : Snd T cf lf CX k (.itm a) := snd_many1 (a := a) (fun _ _ => by simp only [ev]) fun _ _ _ _ _ => (by simp [chk])
theorem zipL_get : ∀ {xs ys : List D} {i : Nat} {d : D}, (zipL xs ys)[i]? = some d → ∃ x y, xs[i]? = some x ∧ ys[i]? = some y ∧ d = .tup [x, y]
  | [], _, _, _, h => by simp [zipL] at h
  | _ :: _, [], _, _, h => by simp [zipL] at h
  | x :: xs, y :: ys, 0, d, h => by
    simp [zipL] at h
    exact ⟨x, y, rfl, rfl, h.symm⟩
  | x :: xs, y :: ys, i + 1, d, h => by
    simp [zipL] at h
    obtain ⟨x', y', h1, h2, h3⟩ := zipL_get h
    exact ⟨x', y', by simpa using h1, by simpa using h2, h3⟩
theorem zipL_len : ∀ (xs ys : List D), (zipL xs ys).length = min xs.length ys.length
  | [], _ => by simp [zipL]
  | _ :: _, [] => by simp [zipL]
  | x :: xs, y :: ys => by
    simp only [zipL, List.length_cons, zipL_len xs ys]
    omega
theorem enmL_get : ∀ {xs : List D} {n i : Nat} {d : D}, (enmL n xs)[i]? = some d → ∃ x, xs[i]? = some x ∧ d = .tup [.int ((n + i : Nat) : Int), x]
  | [], _, _, _, h => by simp [enmL] at h
  | x :: xs, n, 0, d, h => by
    simp [enmL] at h
    exact ⟨x, rfl, by rw [← h]; simp⟩
  | x :: xs, n, i + 1, d, h => by
    simp [enmL] at h
    obtain ⟨x', h1, h2⟩ := enmL_get h
    exact ⟨x', by simpa using h1, by rw [h2]; congr 4; omega⟩
theorem enmL_len : ∀ (xs : List D) (n : Nat), (enmL n xs).length = xs.length
  | [], _ => rfl
  | x :: xs, n => by simp only [enmL, List.length_cons, enmL_len xs]
/-- a turn that lays a new pair -/
theorem pair_turn {K : PySem.W.Frag} {M : Mp} {R : Sto} {P : Ps} {G H : Hp} {p : Addr} {x y : D} {vx vy : V} (r : Rel K M R P G H) (hp : H p = none) (hx : Den K G x vx) (hy : Den K G y vy) :
    ∃ G', Ex G G' ∧ Rel K M R P G' (upd H p (.tup [vx, vy])) ∧ Den K G' (.tup [x, y]) (.ref p) := by
  obtain ⟨G', e, r', h⟩ := r.tup hp (.cons hx (.cons hy .nil))
  refine ⟨G', e, r', ?_⟩
  rcases h with ⟨_, _, z, _⟩ | h
  · cases z
  · exact h
section
variable {K : PySem.W.Frag} {F : Hp} {xs ys : List D} {vs us : List V} {a b : Addr}
theorem itV_zip (hx : DenL K F xs vs) (hy : DenL K F ys us) (ha : F a = some (.lst vs)) (hb : F b = some (.lst us)) : ItV K F (zipL xs ys) (Itz K a b) := by
  intro H e
  refine ⟨fun i d hd => ?_, ?_⟩
  · obtain ⟨x, y, h1, h2, rfl⟩ := zipL_get hd
    obtain ⟨vx, g1, g2⟩ := hx.get h1
    obtain ⟨vy, g3, g4⟩ := hy.get h2
    refine ⟨⟨vs, us, vx, vy, .inl (.inl (e _ _ ha)), .inl (.inl (e _ _ hb)), g1, g3⟩, fun v H' yl M R P G eG r => ?_⟩
    obtain ⟨T, x', y', rfl, hT, rfl, k1, k2⟩ := yl
    have e1 := k1 vs (.inl (.inl (e _ _ ha)))
    have e2 := k2 us (.inl (.inl (e _ _ hb)))
    rw [g1] at e1
    rw [g3] at e2
    cases e1
    cases e2
    exact pair_turn r hT (g2.mono eG) (g4.mono eG)
  · refine ⟨vs, us, .inl (.inl (e _ _ ha)), .inl (.inl (e _ _ hb)), ?_⟩
    rw [zipL_len, hx.length, hy.length]
    omega
theorem itV_zipT (hx : DenL K F xs vs) (hy : DenL K F ys us) (ha : SqT K F a vs) (hb : SqT K F b us) : ItV K F (zipL xs ys) (RZ.ItzT K a b) := by
  intro H e
  refine ⟨fun i d hd => ?_, ?_⟩
  · obtain ⟨x, y, h1, h2, rfl⟩ := zipL_get hd
    obtain ⟨vx, g1, g2⟩ := hx.get h1
    obtain ⟨vy, g3, g4⟩ := hy.get h2
    refine ⟨⟨vs, us, vx, vy, e.sqT ha, e.sqT hb, g1, g3⟩, fun v H' yl M R P G eG r => ?_⟩
    obtain ⟨T, x', y', rfl, hT, rfl, k1, k2⟩ := yl
    have e1 := k1 vs (e.sqT ha)
    have e2 := k2 us (e.sqT hb)
    rw [g1] at e1
    rw [g3] at e2
    cases e1
    cases e2
    exact pair_turn r hT (g2.mono eG) (g4.mono eG)
  · refine ⟨vs, us, e.sqT ha, e.sqT hb, ?_⟩
    rw [zipL_len, hx.length, hy.length]
    omega
theorem itV_enum (hx : DenL K F xs vs) (ha : F a = some (.lst vs)) : ItV K F (enmL 0 xs) (Ite K a) := by
  intro H e
  refine ⟨fun i d hd => ?_, ?_⟩
  · obtain ⟨x, h1, rfl⟩ := enmL_get hd
    obtain ⟨vx, g1, g2⟩ := hx.get h1
    refine ⟨⟨vs, vx, .inl (.inl (e _ _ ha)), g1⟩, fun v H' yl M R P G eG r => ?_⟩
    obtain ⟨T, x', rfl, hT, rfl, k1⟩ := yl
    have e1 := k1 vs (.inl (.inl (e _ _ ha)))
    rw [g1] at e1
    cases e1
    rw [Nat.zero_add]
    exact pair_turn r hT (.int _) (g2.mono eG)
  · refine ⟨vs, .inl (.inl (e _ _ ha)), ?_⟩
    rw [enmL_len, hx.length]
    exact Nat.le_refl _
theorem itV_enumT (hx : DenL K F xs vs) (ha : SqT K F a vs) : ItV K F (enmL 0 xs) (IteT K a) := by
  intro H e
  refine ⟨fun i d hd => ?_, ?_⟩
  · obtain ⟨x, h1, rfl⟩ := enmL_get hd
    obtain ⟨vx, g1, g2⟩ := hx.get h1
    refine ⟨⟨vs, vx, e.sqT ha, g1⟩, fun v H' yl M R P G eG r => ?_⟩
    obtain ⟨T, x', rfl, hT, rfl, k1⟩ := yl
    have e1 := k1 vs (e.sqT ha)
    rw [g1] at e1
    cases e1
    rw [Nat.zero_add]
    exact pair_turn r hT (.int _) (g2.mono eG)
  · refine ⟨vs, e.sqT ha, ?_⟩
    rw [enmL_len, hx.length]
    exact Nat.le_refl _
end
theorem it_enmE {a it0 : C} (h0 : it0 = .enmE a) (ha : Snd T cf lf CX k a) {X : Cx} {e : Expr} (ok : Okx CX k X) (fa : Facts T cf CX k X) (h : chk T (.enmE a) X.env.scope X.N e = true) {σD : List (Option D)} {R R' : Sto} {M : Mp} {P : Ps} {F : Hp} {σ : L2.St} {H : Hp} {rv : Rv} {j : It}
    (r : Rel X.K M R P F H) (er : ER X.K M F σD σ) (q : ev cf lf (.enmE a) σD R = .ok rv R') (hj : itOf .enm R' rv = some j) : WJ it0 X M R' P F j e σ H := by
  intro tg Q ktg kq
  subst h0
  have inv : ∃ y px p, e = .Call (.Name "enumerate" px) [y] [] p ∧ ("enumerate" : Str) ∈ T.bnm ∧ glB X.env.scope "enumerate" = true ∧ isStar y = false ∧ chk T a X.env.scope X.N y = true := by
    cases e with
    | Call g es kws p =>
      cases g with
      | Name x px =>
        cases kws with
        | nil =>
          cases es with
          | nil => simp [chk] at h
          | cons y es =>
            cases es with
            | nil =>
              simp only [chk, Bool.and_eq_true] at h
              obtain ⟨⟨⟨⟨h1, h2⟩, h3⟩, h4⟩, h5⟩ := h
              cases of_decide_eq_true h1
              exact ⟨y, px, p, rfl, of_decide_eq_true h2, h3, nobool h4, h5⟩
            | cons _ _ => simp [chk] at h
        | cons _ _ => simp [chk] at h
      | _ => simp [chk] at h
    | _ => simp [chk] at h
  obtain ⟨y, px, p, rfl, h2, h3, h4, h5⟩ := inv
  obtain ⟨g1, g2, g3⟩ := gl_of h3
  cases tg with
  | Tuple elts kk tpos =>
    simp only [ev] at q
    obtain ⟨x, R1, q1, m1, q⟩ := bindV_ok q
    cases q
    have W := (ha.v X ok fa y h5).d r er q1 m1
    cases hd : fz x with
    | lst xs =>
      rw [hd] at hj W
      cases hj
      refine wi_of (pi_enum g1 (fa.bl _ h2) (pa_cons pe_w pa_nil (star_cons h4)) (by rw [star_cons h4]; rfl)) ?_
      refine we_mono W fun v H1 ⟨F1, f1, r1, v1⟩ => ?_
      obtain ⟨b, vs, rfl, k1, k2⟩ := v1.lst
      exact ⟨b, vs, rfl, .inl (.inl (r1.ex _ _ k1)), kq _ _ F1 f1 r1 (itV_enum k2 k1)⟩
    | tup xs =>
      rw [hd] at hj W
      cases hj
      refine wi_of (pi_enumT g1 (fa.bl _ h2) (pa_cons pe_w pa_nil (star_cons h4)) (by rw [star_cons h4]; rfl)) ?_
      refine we_mono W fun v H1 ⟨F1, f1, r1, v1⟩ => ?_
      obtain ⟨b, vs, rfl, k1, k2⟩ := v1.tup
      exact ⟨b, vs, rfl, r1.ex.sqT k1, kq _ _ F1 f1 r1 (itV_enumT k2 k1)⟩
    | _ => rw [hd] at hj; cases hj
  | _ => cases ktg
theorem it_zipE {a b it0 : C} (h0 : it0 = .zipE a b) (ha : Snd T cf lf CX k a) (hb : Snd T cf lf CX k b) {X : Cx} {e : Expr} (ok : Okx CX k X) (fa : Facts T cf CX k X) (h : chk T (.zipE a b) X.env.scope X.N e = true) {σD : List (Option D)} {R R' : Sto} {M : Mp} {P : Ps} {F : Hp} {σ : L2.St} {H : Hp} {rv : Rv} {j : It}
    (r : Rel X.K M R P F H) (er : ER X.K M F σD σ) (q : ev cf lf (.zipE a b) σD R = .ok rv R') (hj : itOf .zip R' rv = some j) : WJ it0 X M R' P F j e σ H := by
  intro tg Q ktg kq
  subst h0
  have inv : ∃ y z px p, e = .Call (.Name "zip" px) [y, z] [] p ∧ ("zip" : Str) ∈ T.bnm ∧ glB X.env.scope "zip" = true ∧ isStar y = false ∧ isStar z = false ∧ chk T a X.env.scope X.N y = true ∧ chk T b X.env.scope X.N z = true := by
    cases e with
    | Call g es kws p =>
      cases g with
      | Name x px =>
        cases kws with
        | nil =>
          cases es with
          | nil => simp [chk] at h
          | cons y es =>
            cases es with
            | nil => simp [chk] at h
            | cons z es =>
              cases es with
              | nil =>
                simp only [chk, Bool.and_eq_true] at h
                obtain ⟨⟨⟨⟨⟨⟨h1, h2⟩, h3⟩, h4⟩, h5⟩, h6⟩, h7⟩ := h
                cases of_decide_eq_true h1
                exact ⟨y, z, px, p, rfl, of_decide_eq_true h2, h3, nobool h4, nobool h5, h6, h7⟩
              | cons _ _ => simp [chk] at h
        | cons _ _ => simp [chk] at h
      | _ => simp [chk] at h
    | _ => simp [chk] at h
  obtain ⟨y, z, px, p, rfl, h2, h3, h4, h4', h5, h6⟩ := inv
  obtain ⟨g1, g2, g3⟩ := gl_of h3
  cases tg with
  | Tuple elts kk tpos =>
    simp only [ev] at q
    obtain ⟨x, R1, q1, m1, q⟩ := bindV_ok q
    obtain ⟨w, R2, q2, m2, q⟩ := bindV_ok q
    cases q
    have W := (ha.v X ok fa y h5).d r er q1 m1
    have rule := RZ.pi_zipA (elts := elts) (kk := kk) (tpos := tpos) (p := px) (pos := p) g1 (fa.bl _ h2) (pa_cons (pe_w (e := y)) (pa_cons (pe_w (e := z)) pa_nil (star_cons h4')) (star_cons h4)) (by rw [star_cons h4]) (by rw [star_cons h4']; rfl)
    simp only [itOf] at hj
    cases hd : fz x with
    | lst xs =>
      rw [hd] at hj W
      cases hd2 : fz w with
      | lst ys =>
        rw [hd2] at hj
        cases hj
        refine wi_of rule ?_
        refine we_mono W fun v H1 ⟨F1, f1, r1, v1⟩ => ?_
        refine we_mono ((hb.v X ok fa z h6).d r1 (er.mono f1) q2 m2) fun v2 H2 ⟨F2, f2, r2, w2⟩ => ?_
        rw [hd2] at w2
        obtain ⟨b1, vs, rfl, k1, k2⟩ := (v1.mono f2).lst
        obtain ⟨b2, us, rfl, k3, k4⟩ := w2.lst
        exact ⟨b1, b2, vs, us, rfl, .inl ⟨.inl (.inl (r2.ex _ _ k1)), .inl (.inl (r2.ex _ _ k3)), kq _ _ F2 (f1.trans f2) r2 (itV_zip k2 k4 k1 k3)⟩⟩
      | _ => rw [hd2] at hj; cases hj
    | tup xs =>
      rw [hd] at hj W
      cases hd2 : fz w with
      | tup ys =>
        rw [hd2] at hj
        cases hj
        refine wi_of rule ?_
        refine we_mono W fun v H1 ⟨F1, f1, r1, v1⟩ => ?_
        refine we_mono ((hb.v X ok fa z h6).d r1 (er.mono f1) q2 m2) fun v2 H2 ⟨F2, f2, r2, w2⟩ => ?_
        rw [hd2] at w2
        obtain ⟨b1, vs, rfl, k1, k2⟩ := (v1.mono f2).tup
        obtain ⟨b2, us, rfl, k3, k4⟩ := w2.tup
        exact ⟨b1, b2, vs, us, rfl, .inr ⟨r2.ex.sqT k1, r2.ex.sqT k3, kq _ _ F2 (f1.trans f2) r2 (itV_zipT k2 k4 k1 k3)⟩⟩
      | ktp ys =>
        rw [hd2] at hj
        cases hj
        refine wi_of rule ?_
        refine we_mono W fun v H1 ⟨F1, f1, r1, v1⟩ => ?_
        refine we_mono ((hb.v X ok fa z h6).d r1 (er.mono f1) q2 m2) fun v2 H2 ⟨F2, f2, r2, w2⟩ => ?_
        rw [hd2] at w2
        obtain ⟨b1, vs, rfl, k1, k2⟩ := (v1.mono f2).tup
        obtain ⟨b2, us, rfl, k3, k4⟩ := w2.ktp
        exact ⟨b1, b2, vs, us, rfl, .inr ⟨r2.ex.sqT k1, r2.ex.sqT k3, kq _ _ F2 (f1.trans f2) r2 (itV_zipT k2 k4 k1 k3)⟩⟩
      | _ => rw [hd2] at hj; cases hj
    | _ => rw [hd] at hj; cases hj
  | _ => cases ktg
end
end EV

/-! EvK: comprehensions; all expressions together. -/
namespace EV
open PySem PySem.Spec PyProof.Rows L2

section
variable {T : Tb} {cf : Cf} {lf k : Nat} {CX : CXT} {c : C}
/-- a block's context is as good -/
theorem Okx.blk {X : Cx} (ok : Okx CX k X) (s : Shared) (H : Hp) (scope : Scope) (env : Env) (fp : List Addr) : Okx CX k (X.blk s H scope env fp) :=
  ⟨ok.calm, ok.nd, ok.pass, PassesOwn.never, ok.nex, ok.room⟩
theorem Facts.blk {X : Cx} (fa : Facts T cf CX k X) (s : Shared) (H : Hp) (scope : Scope) (env : Env) (fp : List Addr) : Facts T cf CX k (X.blk s H scope env fp) :=
  ⟨fa.fn, fa.gl, fa.bl, fa.df, fa.cl, fa.dm, fa.dp, fa.me, fa.pr, fa.ma, fa.sl⟩
def WTs (X : Cx) (ifs : List Expr) (σ : L2.St) (H : Hp) (Q : Bool → Hp → Prop) : Prop := ∀ (pins : List (Addr × Obj)) (s : Shared), Inv X pins σ H s →
  wpAny (model X.prog X.w) X.A (forIn ifs true fun c r => if r = true then do let ok ← isTrue c X.env (eval c X.env); pure (ForInStep.yield ok) else pure (ForInStep.yield r)) (TP X pins σ Q) X.xe s
theorem pts_w {X : Cx} {ifs : List Expr} : PTs X ifs (WTs X ifs) := ⟨fun pins s σ H Q I h => h pins s I⟩
theorem wts_of {X : Cx} {ifs : List Expr} {t : TT} {σ : L2.St} {H : Hp} {Q : Bool → Hp → Prop} (h : PTs X ifs t) (q : t σ H Q) : WTs X ifs σ H Q := fun pins s I => h.run pins s σ H Q I q
/-- a block's element and tests, wherever it runs -/
def bkE (X : Cx) (scope : Scope) (e : Expr) : TE := fun σ H Q => ∀ (s : Shared) (H0 : Hp) (C : Addr) (cl : List (Str × Addr)) (fp : List Addr), WE (X.blk s H0 scope (compEnvC scope cl C X.env) fp) e σ H Q
def bkT (X : Cx) (scope : Scope) (ifs : List Expr) : TT := fun σ H Q => ∀ (s : Shared) (H0 : Hp) (C : Addr) (cl : List (Str × Addr)) (fp : List Addr), WTs (X.blk s H0 scope (compEnvC scope cl C X.env) fp) ifs σ H Q
abbrev En := List (Option D)
/-! ### targets -/
theorem assignEach_cons {e : Expr} {es : List Expr} {env : Env} (h : isStar e = false) : assignEach (e :: es) env = (false, assign e env) :: assignEach es env := by
  cases e <;> first | rfl | exact nomatch h
theorem setTg_many {is : List Nat} {d : D} {σD σD1 : En} (h : 2 ≤ is.length) (q : setTg is d σD = some σD1) : ∃ ds, (d = .tup ds ∨ d = .ktp ds) ∧ setsTg is ds σD = some σD1 := by
  unfold setTg at q
  split at q
  · simp at h
  · exact ⟨_, .inl rfl, q⟩
  · exact ⟨_, .inr rfl, q⟩
  · cases q
theorem Vr.tups {K : PySem.W.Frag} {M : Mp} {F : Hp} {d : D} {ds : List D} {v : V} (e : d = .tup ds ∨ d = .ktp ds) (h : Vr K M F d v) : ∃ a vs, v = .ref a ∧ SqT K F a vs ∧ DenL K F ds vs := by
  rcases e with rfl | rfl
  · exact h.tup
  · exact h.ktp
theorem loc_of {sc : Scope} {f : Str → Bool} {x : Str} (h : locB sc f x = true) : Loc sc x ∧ (f x = true ∨ sc.names.lookup x = some .local) := by
  unfold locB at h
  split at h
  · rename_i q; exact ⟨.inl q, .inr q⟩
  · rename_i q; exact ⟨.inr q, .inl h⟩
  · cases h
/-- the same but for these places -/
def Off (is : List Nat) (σ1 σ : L2.St) : Prop := σ1.length = σ.length ∧ ∀ i, i ∉ is → σ1[i]? = σ[i]?
theorem wipe_at (σ : L2.St) : ∀ (vs : List Nat) (i : Nat), (wipe σ vs)[i]? = if i ∈ vs then (if i < σ.length then some none else none) else σ[i]?
  | [], i => by simp [wipe]
  | v :: vs, i => by
    unfold wipe
    by_cases hv : v = i
    · subst hv
      rw [if_pos (List.mem_cons_self)]
      by_cases hl : v < σ.length
      · rw [List.getElem?_set_self (by rw [wipe_length]; exact hl), if_pos hl]
      · rw [List.getElem?_eq_none (by rw [List.length_set, wipe_length]; omega), if_neg hl]
    · rw [List.getElem?_set_ne hv, wipe_at σ vs i]
      by_cases hm : i ∈ vs
      · rw [if_pos hm, if_pos (List.mem_cons_of_mem _ hm)]
      · rw [if_neg hm, if_neg (by simp only [List.mem_cons, not_or]; exact ⟨fun e => hv e.symm, hm⟩)]
theorem wipe_off {is : List Nat} {σ1 σ : L2.St} (h : Off is σ1 (wipe σ is)) : wipe σ1 is = wipe σ is := by
  refine List.ext_getElem? fun i => ?_
  have hl : σ1.length = σ.length := by rw [h.1, wipe_length]
  rw [wipe_at, wipe_at σ, hl]
  by_cases hm : i ∈ is
  · rw [if_pos hm, if_pos hm]
  · rw [if_neg hm, if_neg hm, h.2 i hm, wipe_at, if_neg hm]
theorem ER.setK {K : PySem.W.Frag} {M : Mp} {F : Hp} {σD : En} {σ : L2.St} {i : Nat} {d : D} {v : V} (h : ER K M F σD σ) (hv : Vr K M F d v) : ER K M F (σD.set i (some d)) (σ.set i (some v)) := by
  refine ⟨by rw [List.length_set, List.length_set]; exact h.1, fun j d' q => ?_⟩
  by_cases hj : j = i
  · subst hj
    have hl : j < σD.length := by
      have := (List.getElem?_eq_some_iff.mp q).1
      rwa [List.length_set] at this
    rw [List.getElem?_set_self hl] at q
    cases q
    exact ⟨v, List.getElem?_set_self (by rw [h.1]; exact hl), hv⟩
  · rw [List.getElem?_set_ne (Ne.symm hj)] at q
    obtain ⟨w, h1, h2⟩ := h.2 j d' q
    exact ⟨w, by rw [List.getElem?_set_ne (Ne.symm hj)]; exact h1, h2⟩
theorem ER.clr {K : PySem.W.Frag} {M : Mp} {F : Hp} {σD : En} {σ : L2.St} (i : Nat) (h : ER K M F σD σ) : ER K M F (σD.set i none) (σ.set i none) := by
  refine ⟨by rw [List.length_set, List.length_set]; exact h.1, fun j d q => ?_⟩
  by_cases hj : j = i
  · subst hj
    have hl : j < σD.length := by
      have := (List.getElem?_eq_some_iff.mp q).1
      rwa [List.length_set] at this
    rw [List.getElem?_set_self hl] at q
    cases q
  · rw [List.getElem?_set_ne (Ne.symm hj)] at q
    obtain ⟨w, h1, h2⟩ := h.2 j d q
    exact ⟨w, by rw [List.getElem?_set_ne (Ne.symm hj)]; exact h1, h2⟩
theorem ER.wipe {K : PySem.W.Frag} {M : Mp} {F : Hp} {σD : En} {σ : L2.St} (h : ER K M F σD σ) : ∀ is : List Nat, ER K M F (wipeD σD is) (L2.wipe σ is)
  | [] => h
  | i :: is => (ER.wipe h is).clr i
theorem nmB_star {sc : Scope} {f : Str → Bool} {N : List Str} {i : Nat} {e : Expr} (h : nmB sc f N i e = true) : isStar e = false := by
  cases e <;> first | rfl | cases h
theorem nmsB_each {sc : Scope} {f : Str → Bool} {N : List Str} {env : Env} : ∀ {is : List Nat} {es : List Expr}, nmsB sc f N is es = true → is.length = es.length ∧ (assignEach es env).length = es.length ∧ (assignEach es env).findIdx? (·.1) = none
  | [], [], _ => ⟨rfl, rfl, rfl⟩
  | i :: is, e :: es, h => by
    simp only [nmsB, Bool.and_eq_true] at h
    obtain ⟨h1, h2, h3⟩ := nmsB_each (env := env) h.2
    rw [assignEach_cons (nmB_star h.1)]
    exact ⟨by rw [List.length_cons, h1, List.length_cons], by rw [List.length_cons, h2, List.length_cons], by rw [List.findIdx?_cons, h3]; rfl⟩
  | [], _ :: _, h => by simp [nmsB] at h
  | _ :: _, [], h => by simp [nmsB] at h
theorem nmsB_len {sc : Scope} {f : Str → Bool} {N : List Str} : ∀ {is : List Nat} {es : List Expr}, nmsB sc f N is es = true → is.length = es.length
  | [], [], _ => rfl
  | i :: is, e :: es, h => by
    simp only [nmsB, Bool.and_eq_true] at h
    rw [List.length_cons, nmsB_len h.2, List.length_cons]
  | [], _ :: _, h => by simp [nmsB] at h
  | _ :: _, [], h => by simp [nmsB] at h
def gNms : List Nat → TGs
  | [] => gNil
  | i :: is => gCons (gName i) (gNms is)
def gTg (K : PySem.W.Frag) : List Nat → Expr → TG
  | is, .Tuple _ _ _ => gTup K is.length (gNms is)
  | is, _ => gName (is.headD 0)
theorem blk_nm {X : Cx} (ok : Okx CX k X) {scope : Scope} {i : Nat} {e : Expr} (h : nmB (relSc scope X.env.scope) (fun y => scope.names.lookup y == some .cell) X.N i e = true) :
    ∀ (s : Shared) (H : Hp) (C : Addr) (cl : List (Str × Addr)) (fp : List Addr), PG (X.blk s H scope (compEnvC scope cl C X.env) fp) e (gName i) := fun s H C cl fp => by
  cases e with
  | Name x px =>
    simp only [nmB, Bool.and_eq_true] at h
    obtain ⟨l1, l2⟩ := loc_of h.2
    exact pg_name ok.nd (of_decide_eq_true h.1) l1 l2
  | _ => cases h
theorem blk_nms {X : Cx} (ok : Okx CX k X) {scope : Scope} : ∀ {is : List Nat} {es : List Expr}, nmsB (relSc scope X.env.scope) (fun y => scope.names.lookup y == some .cell) X.N is es = true →
    ∀ (s : Shared) (H : Hp) (C : Addr) (cl : List (Str × Addr)) (fp : List Addr), PGs (X.blk s H scope (compEnvC scope cl C X.env) fp) es (gNms is)
  | [], [], _ => fun _ _ _ _ _ => pgs_nil
  | i :: is, e :: es, h => fun s H C cl fp => by
    simp only [nmsB, Bool.and_eq_true] at h
    exact pgs_cons (blk_nm ok h.1 s H C cl fp) (blk_nms ok h.2 s H C cl fp) (by rw [assignEach_cons (nmB_star h.1)]; rfl)
  | [], _ :: _, h => by simp [nmsB] at h
  | _ :: _, [], h => by simp [nmsB] at h
theorem blk_pg {X : Cx} (ok : Okx CX k X) {scope : Scope} {is : List Nat} {tg : Expr} (h : tgB (relSc scope X.env.scope) (fun y => scope.names.lookup y == some .cell) X.N is tg = true) :
    ∀ (s : Shared) (H : Hp) (C : Addr) (cl : List (Str × Addr)) (fp : List Addr), PG (X.blk s H scope (compEnvC scope cl C X.env) fp) tg (gTg X.K is tg) := fun s H C cl fp => by
  cases tg with
  | Name x px =>
    simp only [tgB] at h
    split at h
    · exact blk_nm ok h s H C cl fp
    · cases h
  | Tuple es kk pt =>
    simp only [tgB, Bool.and_eq_true] at h
    obtain ⟨h1, h2, h3⟩ := nmsB_each (env := (X.blk s H scope (compEnvC scope cl C X.env) fp).env) h.2
    exact pg_tup ok.calm (blk_nms ok h.2 s H C cl fp) (by rw [h2, h1]) h3
  | _ => cases h
theorem gNms_ok {K : PySem.W.Frag} : ∀ {is : List Nat} {ds : List D} {vs : List V} {σD σD1 : En} {M : Mp} {F : Hp} {σ : L2.St} {H : Hp} {Q : L2.St → Hp → Prop}, setsTg is ds σD = some σD1 → DenL K F ds vs → ER K M F σD σ → (∀ σ1, ER K M F σD1 σ1 → Off is σ1 σ → Q σ1 H) → vs.length = is.length ∧ gNms is vs σ H Q
  | [], ds, vs, σD, σD1, M, F, σ, H, Q, q, hv, er, kq => by
    cases ds with
    | nil =>
      cases hv
      cases q
      exact ⟨rfl, rfl, kq σ er ⟨rfl, fun _ _ => rfl⟩⟩
    | cons _ _ => cases q
  | i :: is, ds, vs, σD, σD1, M, F, σ, H, Q, q, hv, er, kq => by
    cases ds with
    | nil => cases q
    | cons d ds =>
      cases hv with
      | cons h1 h2 =>
        obtain ⟨e1, e2⟩ := gNms_ok (H := H) (Q := Q) (is := is) (ds := ds) (σD := σD.set i (some d)) (σD1 := σD1) (M := M) q h2 (er.setK (i := i) (.inr h1)) fun σ1 er1 off => kq σ1 er1 ⟨by rw [off.1, List.length_set], fun j hj => (by
          rw [List.mem_cons, not_or] at hj
          rw [off.2 j hj.2, List.getElem?_set_ne (Ne.symm hj.1)])⟩
        exact ⟨by rw [List.length_cons, List.length_cons, e1], _, _, rfl, e2⟩
theorem gTg_ok {sc : Scope} {f : Str → Bool} {N : List Str} {K : PySem.W.Frag} {is : List Nat} {tg : Expr} (h : tgB sc f N is tg = true) {d : D} {v : V} {R : Sto} {σD σD1 : En} {M : Mp} {P : Ps} {F : Hp} {σ : L2.St} {H : Hp} {Q : L2.St → Hp → Prop}
    (q : setTg is d σD = some σD1) (hv : Vr K M F d v) (r : Rel K M R P F H) (er : ER K M F σD σ) (kq : ∀ σ1, ER K M F σD1 σ1 → Off is σ1 σ → Q σ1 H) : gTg K is tg v σ H Q := by
  cases tg with
  | Name x px =>
    simp only [tgB] at h
    split at h
    · rename_i i
      simp only [setTg] at q
      cases q
      exact kq _ (er.setK hv) ⟨List.length_set, fun j hj => List.getElem?_set_ne (fun e => hj (List.mem_singleton.mpr e.symm))⟩
    · cases h
  | Tuple es kk pt =>
    simp only [tgB, Bool.and_eq_true] at h
    have hl := nmsB_len h.2
    obtain ⟨ds, e, q'⟩ := setTg_many (by rw [hl]; exact of_decide_eq_true h.1) q
    obtain ⟨a, vs, rfl, h1, h2⟩ := Vr.tups e hv
    obtain ⟨e1, e2⟩ := gNms_ok q' h2 er kq
    exact ⟨a, vs, rfl, r.ex.sqT h1, e1, e2⟩
  | _ => cases h
theorem own_snd {sc : Scope} {f : Str → Bool} {N : List Str} {is : List Nat} {tg : Expr} (h : tgB sc f N is tg = true) : ((tgNs tg).zip is).map (·.2) = is := by
  cases tg with
  | Name x px =>
    simp only [tgB] at h
    split at h
    · rfl
    · cases h
  | Tuple es kk pt =>
    simp only [tgB, Bool.and_eq_true] at h
    have hl := nmsB_len h.2
    exact List.map_snd_zip (by rw [show tgNs (.Tuple es kk pt) = es.map tgN1 from rfl, List.length_map, hl]; exact Nat.le_refl _)
  | _ => cases h

/-- what a turn gives -/
def TurnQ (X : Cx) (scope : Scope) (el : Expr) (ifs : List Expr) (M : Mp) (P : Ps) (F : Hp) (R' : Sto) (o : Option D) (σ2 : L2.St) (H : Hp) : Prop := bkT X scope ifs σ2 H fun b H3 => match o with
  | none => b = false ∧ ∃ F', Ex F F' ∧ Rel X.K M R' P F' H3
  | some y => b = true ∧ bkE X scope el σ2 H3 fun u H4 => ∃ F', Ex F F' ∧ Rel X.K M R' P F' H4 ∧ Den X.K F' y u
/-- one turn: what the code's turn gives, the block's turn gives -/
def Turn1 (X : Cx) (f : D → Sto → Out (Option D)) (σD : List (Option D)) (slots : List Nat) (g : TG) (scope : Scope) (el : Expr) (ifs : List Expr) : Prop :=
  ∀ (d : D) (R R' : Sto) (o : Option D) (M : Mp) (P : Ps) (F : Hp) (σ : L2.St) (H : Hp) (v : V) (Q : L2.St → Hp → Prop), f d R = .ok o R' → Rel X.K M R P F H → ER X.K M F σD σ → Vr X.K M F d v →
    (∀ σ2, wipe σ2 slots = wipe σ slots → TurnQ X scope el ifs M P F R' o σ2 H → Q σ2 H) → g v (wipe σ slots) H Q
theorem turn1 {elt cond : C} {slots : List Nat} {tg : Expr} {scope : Scope} {el : Expr} {ifs : List Expr} (he : Snd T cf lf CX k elt) (hc : Snd T cf lf CX k cond) {X : Cx} (ok : Okx CX k X) (fa : Facts T cf CX k X)
    (h0 : tgB (relSc scope X.env.scope) (fun y => scope.names.lookup y == some .cell) X.N slots tg = true) (h1 : chk T elt (relSc scope X.env.scope) X.N el = true)
    (h2 : (match ifs with | [] => isYes cond | [c] => chk T cond (relSc scope X.env.scope) X.N c | _ => false) = true) (σD : List (Option D)) : Turn1 X (compF (ev cf lf cond) (ev cf lf elt) slots σD) σD slots (gTg X.K slots tg) scope el ifs := by
  intro d R R' o M P F σ H v Q0 q r er hv kq
  unfold compF at q
  split at q
  · cases q
  rename_i σD1 hset
  refine gTg_ok h0 hset hv r (er.wipe slots) fun σ1 er1 off => kq σ1 (wipe_off off) ?_
  -- the tests
  have tests : ∀ (R2 : Sto) (cv : Rv) (b : Bool), ev cf lf cond σD1 R = .ok cv R2 → (∀ ds, cv ≠ .many ds) → truth R2 (fz cv) = some b → ∀ Q : Bool → Hp → Prop, (∀ H3 F', Ex F F' → Rel X.K M R2 P F' H3 → Q b H3) → bkT X scope ifs σ1 H Q := by
    intro R2 cv b q1 hm ht Q kq s0 H0 C cl fp
    cases ifs with
    | nil =>
      have e : cond = .lit (.bl true) := by
        revert h2
        dsimp only
        intro h2
        unfold isYes at h2
        split at h2
        · rfl
        · cases h2
      subst e
      simp only [ev] at q1
      cases q1
      cases ht
      exact wts_of pts_nil (kq H F (.refl F) r)
    | cons c l =>
      cases l with
      | cons _ _ => cases h2
      | nil =>
        have W := hc.t (X.blk s0 H0 scope (compEnvC scope cl C X.env) fp) (ok.blk _ _ _ _ _) (fa.blk _ _ _ _ _) c h2 σD1 R R2 M P F σ1 H cv b r er1 q1 hm ht
        exact wts_of (pts_one pt_w) (wt_mono W fun b' H3 ⟨eb, F', e1, r1⟩ => by subst eb; exact kq H3 F' e1 r1)
  split at q
  · cases q
  · rename_i cv R2 hm q1
    have hm : ∀ ds, cv ≠ .many ds := fun ds z => by subst z; exact hm ds rfl
    split at q
    · rename_i ht
      split at q
      · cases q
      · rename_i y R3 hm2 q2
        have hm2 : ∀ ds, y ≠ .many ds := fun ds z => by subst z; exact hm2 ds rfl
        split at q
        · rename_i y' R4 hb
          cases q
          refine tests R2 cv true q1 hm ht _ fun H3 F' e1 r1 => ⟨rfl, ?_⟩
          intro s0 H0 C cl fp
          have W := (he.v (X.blk s0 H0 scope (compEnvC scope cl C X.env) fp) (ok.blk _ _ _ _ _) (fa.blk _ _ _ _ _) el h1).d r1 (er1.mono e1) q2 hm2
          refine we_mono W fun u H4 ⟨F2, e2, r2, v2⟩ => ?_
          obtain ⟨G, g1, g2, g3⟩ := r2.byv v2 hb
          exact ⟨G, (e1.trans e2).trans g1, g2, g3⟩
        · cases q
      · cases q
    · rename_i ht
      cases q
      exact tests _ cv false q1 hm ht _ fun H3 F' e1 r1 => ⟨rfl, F', e1, r1⟩
    · cases q
  · cases q
/-- the turns of a comprehension over told values -/
theorem comp_vals {X : Cx} {f : D → Sto → Out (Option D)} {σD : List (Option D)} {slots : List Nat} {g : TG} {scope : Scope} {el : Expr} {ifs : List Expr} (ht : Turn1 X f σD slots g scope el ifs) {ds : List D} {R R' : Sto} {rv : Rv} {M : Mp} {P : Ps} {F : Hp} {σ : L2.St} {H1 : Hp} {J : L2.It} {a : Addr}
    (q : compV f ds R [] = .ok rv R') (r : Rel X.K M R P F H1) (er : ER X.K M F σD σ) (hJ : ItV X.K F ds J) (ha : H1 a = none) :
    ∃ W : Nat → Nat → Hp → Prop, (∃ m, W 0 m (upd H1 a (.lst []))) ∧ ∀ i m H, W i m H →
      (J.stop i H ∧ PV X M R' P F rv (.ref a) H) ∨ (J.go i H ∧ ∃ Nx : Hp → Prop, (∀ H', Nx H' → ∃ m', m' < m ∧ W (i + 1) m' H') ∧ ∀ x H', J.yld i H x H' → g x (wipe σ slots) H' fun σ2 H2 => wipe σ2 slots = wipe σ slots ∧ bkT X scope ifs σ2 H2 fun b H3 =>
        if b = true then bkE X scope el σ2 H3 fun y H4 => ∃ acc, H4 a = some (.lst acc) ∧ acc.length < sizeLine ∧ Nx (upd H4 a (.lst (acc ++ [y]))) else Nx H3) := by
  refine ⟨fun i m H => m = ds.length - i ∧ i ≤ ds.length ∧ ∃ Ri acc avs Fi, compV f (ds.drop i) Ri acc = .ok rv R' ∧ Ex F Fi ∧ Rel X.K M Ri ((a, .lst avs) :: P) Fi H ∧ DenL X.K Fi acc.reverse avs, ⟨ds.length, rfl, Nat.zero_le _, R, [], [], F, q, .refl F, r.aside ha (main_lst _), .nil⟩, ?_⟩
  rintro i m H ⟨rfl, hi, Ri, acc, avs, Fi, qi, ei, ri, di⟩
  have hF : Ex F H := ei.trans ri.ex
  by_cases hlt : i < ds.length
  · have hd : ds.drop i = ds[i] :: ds.drop (i + 1) := List.drop_eq_getElem_cons hlt
    rw [hd] at qi
    unfold compV at qi
    have go := (hJ H hF).1 i ds[i] (List.getElem?_eq_getElem hlt)
    refine .inr ⟨go.1, fun H' => ∃ Ri acc avs Fi, compV f (ds.drop (i + 1)) Ri acc = .ok rv R' ∧ Ex F Fi ∧ Rel X.K M Ri ((a, .lst avs) :: P) Fi H' ∧ DenL X.K Fi acc.reverse avs, fun H' p' => ⟨ds.length - (i + 1), by omega, rfl, hlt, p'⟩, fun x H' y => ?_⟩
    obtain ⟨Fj, ej, rj, g2⟩ := go.2 x H' y M Ri ((a, .lst avs) :: P) Fi ei ri
    cases qf : f ds[i] Ri with
    | bad => rw [qf] at qi; cases qi
    | exc _ _ => rw [qf] at qi; cases qi
    | ok o R2 =>
      rw [qf] at qi
      refine ht ds[i] Ri R2 o M ((a, .lst avs) :: P) Fj σ H' x _ qf rj (er.mono (ei.trans ej)) (.inr g2) fun σ2 hw W => ⟨hw, ?_⟩
      intro s0 H0 C cl fp
      intro pins s I
      refine thn (W s0 H0 C cl fp pins s I) fun b s' ⟨H3, I3, w⟩ => ⟨H3, I3, ?_⟩
      cases o with
      | none =>
        obtain ⟨eb, F', f1, f2⟩ := w
        subst eb
        dsimp only at qi
        exact ⟨R2, acc, avs, F', qi, (ei.trans ej).trans f1, f2, di.mono (ej.trans f1)⟩
      | some y' =>
        obtain ⟨eb, w⟩ := w
        subst eb
        dsimp only at qi
        split at qi
        · rename_i hz
          intro s0 H0 C cl fp
          refine we_mono (w s0 H0 C cl fp) fun u H4 ⟨F', f1, f2, f3⟩ => ?_
          have hp := (f2.pr _ List.mem_cons_self).1
          refine ⟨avs, hp, by rw [di.length, List.length_reverse]; exact sz_lt hz, R2, y' :: acc, avs ++ [u], F', qi, (ei.trans ej).trans f1, f2.turn (main_lst _), ?_⟩
          rw [List.reverse_cons]
          exact (di.mono (ej.trans f1)).append (.cons f3 .nil)
        · cases qi
  · have e : i = ds.length := by omega
    subst e
    rw [List.drop_length] at qi
    unfold compV at qi
    cases qi
    refine .inl ⟨?_, ?_⟩
    · exact (hJ H hF).2
    · obtain ⟨r', h'⟩ := ri.backL di
      exact ⟨Fi, ei, r', h'⟩
theorem comp_live {X : Cx} {f : D → Sto → Out (Option D)} {σD : List (Option D)} {slots : List Nat} {g : TG} {scope : Scope} {el : Expr} {ifs : List Expr} (ht : Turn1 X f σD slots g scope el ifs) {x : D} {n : Nat} {R R' : Sto} {rv : Rv} {M : Mp} {P : Ps} {F : Hp} {σ : L2.St} {H1 : Hp} {J : L2.It} {a : Addr}
    (q : compR f x n 0 R [] = .ok rv R') (r : Rel X.K M R P F H1) (er : ER X.K M F σD σ) (hJ : ItR X.K M F (.live x) J) (ha : H1 a = none) :
    ∃ W : Nat → Nat → Hp → Prop, (∃ m, W 0 m (upd H1 a (.lst []))) ∧ ∀ i m H, W i m H →
      (J.stop i H ∧ PV X M R' P F rv (.ref a) H) ∨ (J.go i H ∧ ∃ Nx : Hp → Prop, (∀ H', Nx H' → ∃ m', m' < m ∧ W (i + 1) m' H') ∧ ∀ x H', J.yld i H x H' → g x (wipe σ slots) H' fun σ2 H2 => wipe σ2 slots = wipe σ slots ∧ bkT X scope ifs σ2 H2 fun b H3 =>
        if b = true then bkE X scope el σ2 H3 fun y H4 => ∃ acc, H4 a = some (.lst acc) ∧ acc.length < sizeLine ∧ Nx (upd H4 a (.lst (acc ++ [y]))) else Nx H3) := by
  obtain ⟨p, hp, rfl⟩ := hJ
  refine ⟨fun i m H => ∃ Ri acc avs Fi, compR f x m i Ri acc = .ok rv R' ∧ Ex F Fi ∧ Rel X.K M Ri ((a, .lst avs) :: P) Fi H ∧ DenL X.K Fi acc.reverse avs, ⟨n, R, [], [], F, q, .refl F, r.aside ha (main_lst _), .nil⟩, ?_⟩
  rintro i m H ⟨Ri, acc, avs, Fi, qi, ei, ri, di⟩
  cases m with
  | zero => unfold compR at qi; cases qi
  | succ m =>
    unfold compR at qi
    split at qi
    · cases qi
    · rename_i ds hds
      obtain ⟨a', vs, e1, h1, h2⟩ := ri.asL (hp.mono ei) hds
      cases e1
      split at qi
      · rename_i hi
        cases qi
        refine .inl ⟨⟨vs, .inl (.inl h1), ?_⟩, ?_⟩
        · rw [h2.length]
          exact List.getElem?_eq_none_iff.mp hi
        · obtain ⟨r', h'⟩ := ri.backL di
          exact ⟨Fi, ei, r', h'⟩
      · rename_i d hi
        obtain ⟨v, g1, g2⟩ := h2.get hi
        refine .inr ⟨⟨vs, v, .inl (.inl h1), g1⟩, fun H' => ∃ Ri acc avs Fi, compR f x m (i + 1) Ri acc = .ok rv R' ∧ Ex F Fi ∧ Rel X.K M Ri ((a, .lst avs) :: P) Fi H' ∧ DenL X.K Fi acc.reverse avs, fun H' p' => ⟨m, Nat.lt_succ_self _, p'⟩, fun u H' y => ?_⟩
        obtain ⟨e1, e2⟩ := y
        subst e1
        have e2 := e2 vs (.inl (.inl h1))
        obtain rfl : u = v := by
          rw [e2] at g1
          exact Option.some.inj g1
        cases qf : f d Ri with
        | bad => rw [qf] at qi; cases qi
        | exc _ _ => rw [qf] at qi; cases qi
        | ok o R2 =>
          rw [qf] at qi
          refine ht d Ri R2 o M ((a, .lst avs) :: P) Fi σ H' u _ qf ri (er.mono ei) (.inr g2) fun σ2 hw W => ⟨hw, ?_⟩
          intro s0 H0 C cl fp
          intro pins s I
          refine thn (W s0 H0 C cl fp pins s I) fun b s' ⟨H3, I3, w⟩ => ⟨H3, I3, ?_⟩
          cases o with
          | none =>
            obtain ⟨eb, F', f1, f2⟩ := w
            subst eb
            dsimp only at qi
            exact ⟨R2, acc, avs, F', qi, ei.trans f1, f2, di.mono f1⟩
          | some y' =>
            obtain ⟨eb, w⟩ := w
            subst eb
            dsimp only at qi
            split at qi
            · rename_i hz
              intro s0 H0 C cl fp
              refine we_mono (w s0 H0 C cl fp) fun u H4 ⟨F', f1, f2, f3⟩ => ?_
              have hp := (f2.pr _ List.mem_cons_self).1
              refine ⟨avs, hp, by rw [di.length, List.length_reverse]; exact sz_lt hz, R2, y' :: acc, avs ++ [u], F', qi, ei.trans f1, f2.turn (main_lst _), ?_⟩
              rw [List.reverse_cons]
              exact (di.mono f1).append (.cons f3 .nil)
            · cases qi
/-- what is walked -/
def SIt (T : Tb) (cf : Cf) (lf : Nat) (CX : CXT) (k : Nat) (it : C) : Prop := ∀ (X : Cx) (e : Expr), Okx CX k X → Facts T cf CX k X → chk T it X.env.scope X.N e = true → ∀ (σD : List (Option D)) (R R' : Sto) (M : Mp) (P : Ps) (F : Hp) (σ : L2.St) (H : Hp) (rv : Rv) (j : It),
  Rel X.K M R P F H → ER X.K M F σD σ → ev cf lf it σD R = .ok rv R' → itOf (ik it) R' rv = some j → WJ it X M R' P F j e σ H
/-- the code's parts of a comprehension, and its text's -/
structure CompT (T : Tb) (X : Cx) (elt : C) (slots : List Nat) (it cond : C) (el iter tg : Expr) (ifs : List Expr) (scope : Scope) : Prop where
  tgo : tgB (relSc scope X.env.scope) (fun y => scope.names.lookup y == some .cell) X.N slots tg = true
  blk : BlkOk X.N X.env.scope scope ((tgNs tg).zip slots)
  ito : chk T it X.env.scope X.N iter = true
  ik : tgIk it tg = true
  ns : isSet iter = false
  el : chk T elt (relSc scope X.env.scope) X.N el = true
  ifs : (match ifs with | [] => isYes cond | [c] => chk T cond (relSc scope X.env.scope) X.N c | _ => false) = true
theorem comp_inv {elt : C} {slots : List Nat} {it cond : C} {X : Cx} {e : Expr} (h : chk T (.comp elt slots it cond) X.env.scope X.N e = true) : ∃ el tg iter ifs scope pos, e = .ListComp el [⟨tg, iter, ifs, 0⟩] scope pos ∧ CompT T X elt slots it cond el iter tg ifs scope := by
  simp only [chk] at h
  split at h
  · simp only [Bool.and_eq_true] at h
    obtain ⟨⟨⟨⟨⟨⟨h1, h2⟩, h3⟩, h4⟩, h5⟩, h6⟩, h7⟩ := h
    exact ⟨_, _, _, _, _, _, rfl, h1, blkOk_by h2, h3, h4, nobool h5, h6, h7⟩
  · cases h
/-- what pe_lc asks of the walk -/
theorem comp_lc {elt : C} {slots : List Nat} {it cond : C} (he : Snd T cf lf CX k elt) (hi : SIt T cf lf CX k it) (hc : Snd T cf lf CX k cond) {X : Cx} (ok : Okx CX k X) (fa : Facts T cf CX k X) {el iter tg : Expr} {ifs : List Expr} {scope : Scope} (c : CompT T X elt slots it cond el iter tg ifs scope)
    {σD : List (Option D)} {R R' : Sto} {M : Mp} {P : Ps} {F : Hp} {σ : L2.St} {H : Hp} {rv : Rv} {Q : VK} (r : Rel X.K M R P F H) (er : ER X.K M F σD σ) (q : ev cf lf (.comp elt slots it cond) σD R = .ok rv R') (kq : ∀ v H', PV X M R' P F rv v H' → Q v H') :
    tLc (WI X tg iter) (gTg X.K slots tg) (bkT X scope ifs) (bkE X scope el) slots σ H Q := by
  simp only [ev] at q
  split at q
  · rename_i xv R1 q1
    cases hj : itOf (ik it) R1 xv with
    | none => rw [hj] at q; cases q
    | some j =>
      rw [hj] at q
      refine hi X iter ok fa c.ito σD R R1 M P F σ H xv j r er q1 hj tg _ c.ik fun J H1 F1 e1 r1 hJ => ?_
      intro a ha
      have ht := turn1 (slots := slots) he hc ok fa c.tgo c.el c.ifs σD
      have fin : ∀ v H', PV X M R' P F1 rv v H' → Q v H' := fun v H' ⟨F', f1, f2, f3⟩ => kq v H' ⟨F', e1.trans f1, f2, f3⟩
      cases j with
      | vals ds =>
        obtain ⟨W, w0, w1⟩ := comp_vals ht q r1 (er.mono e1) hJ ha
        exact ⟨W, w0, fun i m H w => (w1 i m H w).imp (fun z => ⟨z.1, fin _ _ z.2⟩) id⟩
      | live y =>
        obtain ⟨W, w0, w1⟩ := comp_live ht q r1 (er.mono e1) hJ ha
        exact ⟨W, w0, fun i m H w => (w1 i m H w).imp (fun z => ⟨z.1, fin _ _ z.2⟩) id⟩
  · cases q
theorem bk_pts {X : Cx} {scope : Scope} {ifs : List Expr} : ∀ (s : Shared) (H : Hp) (C : Addr) (cl : List (Str × Addr)) (fp : List Addr), PTs (X.blk s H scope (compEnvC scope cl C X.env) fp) ifs (bkT X scope ifs) := fun s H C cl fp => ⟨fun pins s' σ H' Q I h => h s H C cl fp pins s' I⟩
theorem bk_pe {X : Cx} {scope : Scope} {el : Expr} : ∀ (s : Shared) (H : Hp) (C : Addr) (cl : List (Str × Addr)) (fp : List Addr), PE (X.blk s H scope (compEnvC scope cl C X.env) fp) el (bkE X scope el) := fun s H C cl fp => ⟨fun pins s' σ H' Q I h => h s H C cl fp pins s' I⟩
theorem snd_comp {elt : C} {slots : List Nat} {it cond : C} (he : Snd T cf lf CX k elt) (hi : SIt T cf lf CX k it) (hc : Snd T cf lf CX k cond) : Snd T cf lf CX k (.comp elt slots it cond) := by
  refine .of (fun X ok fa e h => ?_) (fun sc N e h => ?_) (fun sc N es p h => by simp [chk] at h)
  · obtain ⟨el, tg, iter, ifs, scope, pos, rfl, c⟩ := comp_inv h
    intro σD R R' M P F σ H rv r er q hm
    have L := comp_lc he hi hc ok fa c r er q fun _ _ h => h
    rw [← own_snd c.tgo] at L
    have e2 : gTg X.K (((tgNs tg).zip slots).map (·.2)) tg = gTg X.K slots tg := by rw [own_snd c.tgo]
    rw [e2] at L
    exact we_of (pe_lc ok.calm ok.nd pi_w c.blk (blk_pg ok c.tgo) bk_pts bk_pe (notSet_of c.ns)) L
  · cases e <;> first | rfl | simp [chk] at h
theorem snd_dg2 (k1 v1 k2 v2 : Int) {a : C} (z : Int) (ha : Snd T cf lf CX k a) : Snd T cf lf CX k (.dg2 k1 v1 k2 v2 a z) := by
  refine .of (fun X ok fa e h => ?_) (fun sc N e h => ?_) (fun sc N es p h => by simp [chk] at h)
  · simp only [chk] at h
    split at h
    · rename_i i1 n1 p1 i2 n2 p2 j1 n3 p3 j2 n4 p4 pd m ap y j n5 p5 cp
      simp only [Bool.and_eq_true] at h
      obtain ⟨⟨⟨⟨⟨⟨⟨⟨h1, h2⟩, h3⟩, h4⟩, h5⟩, h6⟩, h7⟩, h8⟩, h9⟩ := h
      cases of_decide_eq_true h1
      cases of_decide_eq_true h2
      cases of_decide_eq_true h3
      cases of_decide_eq_true h4
      cases of_decide_eq_true h5
      cases of_decide_eq_true h6
      have st := nobool h8
      intro σD R R' M P F σ H rv r er q hm
      simp only [ev] at q
      obtain ⟨x, R1, q1, m1, q⟩ := bindV_ok q
      split at q
      · rename_i i hi
        cases q
        have hs2 : starEach [y, .Constant (.int z) n5 p5] X.env = [(false, eval y X.env), (false, eval (.Constant (.int z) n5 p5) X.env)] := by
          rw [star_cons st]
          rfl
        refine we_of (pe_dget2 (Nat.lt_of_le_of_lt (Nat.add_le_add_left (by decide : 1 ≤ 64) _) ok.room.units) (pe_disp (pps_cons pe_int pe_int (pps_cons pe_int pe_int pps_nil)) rfl rfl (by simp) (by simp)) pe_w pe_int
          ⟨rfl, by rw [hs2]; rfl, h7, by rw [hs2]; rfl⟩) ?_
        intro p hp
        refine ⟨upd_same, [(.inl k1, .int v1), (.inl k2, .int v2)], rfl, by simp, ?_⟩
        have r1 := (r.aside (u := .dK []) hp (main_dK _)).turn (w := .dK (mergeK [] [(.inl k1, .int v1), (.inl k2, .int v2)])) (main_dK _)
        refine ⟨p, rfl, .inl ⟨_, .inl upd_same⟩, ?_⟩
        refine we_mono ((ha.v X ok fa _ h9).d r1 er q1 m1) fun vx H1 ⟨F1, e1, r2, vx1⟩ => ?_
        rw [hi] at vx1
        cases vx1.int
        have hd := (r2.pr _ List.mem_cons_self).1
        refine ⟨_, DGet.k (k := .inl i) hd, F1, e1, r2.back.1, ?_⟩
        have e2 : (valV (mergeK [] [(.inl k1, V.int v1), (.inl k2, V.int v2)]) (.inl i : Key)).getD (.int z) = .int (if i = k2 then v2 else if i = k1 then v1 else z) := by
          show (valV (putK (putK [] (.inl k1) (V.int v1)) (.inl k2) (V.int v2)) (.inl i : Key)).getD (.int z) = _
          rw [valV_put, valV_put, valV_nil]
          by_cases a1 : i = k2
          · rw [if_pos (by rw [a1]), if_pos a1]
            rfl
          · rw [if_neg (fun w => a1 (Sum.inl.inj w)), if_neg a1]
            by_cases a2 : i = k1
            · rw [if_pos (by rw [a2]), if_pos a2]
              rfl
            · rw [if_neg (fun w => a2 (Sum.inl.inj w)), if_neg a2]
              rfl
        rw [e2]
        exact .inr (.int _)
      · cases q
    · cases h
  · simp only [chk] at h
    split at h
    · rfl
    · cases h
theorem sit_of {it : C} (hs : Snd T cf lf CX k it) (hr : ik it = .val) : SIt T cf lf CX k it := fun X e ok fa h σD R R' M P F σ H rv j r er q hj => by
  rw [hr] at hj
  exact it_val hs ok fa h r er q hj
theorem snd_both : ∀ c : C, Snd T cf lf CX k c ∧ SIt T cf lf CX k c
  | .var i => ⟨snd_var i, sit_of (snd_var i) rfl⟩
  | .lit d => ⟨snd_lit d, sit_of (snd_lit d) rfl⟩
  | .glob x d => ⟨snd_glob x d, sit_of (snd_glob x d) rfl⟩
  | .bin o a b => have h := snd_bin o (snd_both a).1 (snd_both b).1; ⟨h, sit_of h rfl⟩
  | .neg a => have h := snd_neg (snd_both a).1; ⟨h, sit_of h rfl⟩
  | .notE a => have h := snd_not (snd_both a).1; ⟨h, sit_of h rfl⟩
  | .cmp o a b => have h := snd_cmp o (snd_both a).1 (snd_both b).1; ⟨h, sit_of h rfl⟩
  | .chn o p a b c => have h := snd_chn o p (snd_both a).1 (snd_both b).1 (snd_both c).1; ⟨h, sit_of h rfl⟩
  | .chn3 o p q a b c d => have h := snd_chn3 o p q (snd_both a).1 (snd_both b).1 (snd_both c).1 (snd_both d).1; ⟨h, sit_of h rfl⟩
  | .andE a b => have h := snd_and (snd_both a).1 (snd_both b).1; ⟨h, sit_of h rfl⟩
  | .orE a b => have h := snd_or (snd_both a).1 (snd_both b).1; ⟨h, sit_of h rfl⟩
  | .ife c a b => have h := snd_ife (snd_both c).1 (snd_both a).1 (snd_both b).1; ⟨h, sit_of h rfl⟩
  | .nil => ⟨snd_nil, sit_of snd_nil rfl⟩
  | .cons a as => have h := snd_cons (snd_both a).1 (snd_both as).1; ⟨h, sit_of h rfl⟩
  | .tup as => have h := snd_tup (snd_both as).1; ⟨h, sit_of h rfl⟩
  | .lst as => have h := snd_lst (snd_both as).1; ⟨h, sit_of h rfl⟩
  | .call f as => have h := snd_call f (snd_both as).1; ⟨h, sit_of h rfl⟩
  | .blt b as => have h := snd_blt b (snd_both as).1; ⟨h, sit_of h rfl⟩
  | .callD f as dv => have h := snd_callD f dv (snd_both as).1; ⟨h, sit_of h rfl⟩
  | .fld a f => have h := snd_fld f (snd_both a).1; ⟨h, sit_of h rfl⟩
  | .prp a f => have h := snd_prp f (snd_both a).1; ⟨h, sit_of h rfl⟩
  | .mth a m as => have h := snd_mth m (snd_both a).1 (snd_both as).1; ⟨h, sit_of h rfl⟩
  | .new c as dv => have h := snd_new c dv (snd_both as).1; ⟨h, sit_of h rfl⟩
  | .isiC a c cs => have h := snd_isiC c cs (snd_both a).1; ⟨h, sit_of h rfl⟩
  | .dnew => ⟨snd_dnew, sit_of snd_dnew rfl⟩
  | .dget a y z => have h := snd_dget (snd_both a).1 (snd_both y).1 (snd_both z).1; ⟨h, sit_of h rfl⟩
  | .dspr x u y v a b => have h := snd_dspr (snd_both x).1 (snd_both u).1 (snd_both y).1 (snd_both v).1 (snd_both a).1 (snd_both b).1; ⟨h, sit_of h rfl⟩
  | .callB f a => have h := snd_callB f (snd_both a).1; ⟨h, sit_of h rfl⟩
  | .dis1 x u => have h := snd_dis1 (snd_both x).1 (snd_both u).1; ⟨h, sit_of h rfl⟩
  | .itm a => ⟨snd_itm, fun X e ok fa h σD R R' M P F σ H rv j r er q hj => by cases hj⟩
  | .zipE a b => ⟨snd_zipE, fun X e ok fa h σD R R' M P F σ H rv j r er q hj => it_zipE rfl (snd_both a).1 (snd_both b).1 ok fa h r er q hj⟩
  | .enmE a => ⟨snd_enmE, fun X e ok fa h σD R R' M P F σ H rv j r er q hj => it_enmE rfl (snd_both a).1 ok fa h r er q hj⟩
  | .isi a t => have h := snd_isi t (snd_both a).1; ⟨h, sit_of h rfl⟩
  | .sub a i => have h := snd_sub (snd_both a).1 (snd_both i).1; ⟨h, sit_of h rfl⟩
  | .slc a lo hi => have h := snd_slc (snd_both a).1 (snd_both lo).1 (snd_both hi).1; ⟨h, sit_of h rfl⟩
  | .rng1 a => ⟨snd_rng1, fun X e ok fa h σD R R' M P F σ H rv j r er q hj => it_rng1 (snd_both a).1 ok fa h r er q hj⟩
  | .rng2 a b => ⟨snd_rng2, fun X e ok fa h σD R R' M P F σ H rv j r er q hj => it_rng2 (snd_both a).1 (snd_both b).1 ok fa h r er q hj⟩
  | .dg2 k1 v1 k2 v2 a z => have h := snd_dg2 k1 v1 k2 v2 z (snd_both a).1; ⟨h, sit_of h rfl⟩
  | .comp elt slots it cond => have h := snd_comp (slots := slots) (snd_both elt).1 (snd_both it).2 (snd_both cond).1; ⟨h, sit_of h rfl⟩
theorem snd (c : C) : Snd T cf lf CX k c := (snd_both c).1
theorem sit (c : C) : SIt T cf lf CX k c := (snd_both c).2
end
end EV

/-! EvS: statements as codes: what a code does, and when a text's suite has a code. -/
namespace EV
open PySem PySem.Spec PyProof.Rows L2

inductive S where
  | nop | never
  | asg (i : Nat) (c : C) | asgN (i p : Nat) (c : C)
  | par2 (i j : Nat) (pi pj : Option Nat) (a b : C) | par3 (i j l : Nat) (a b c : C)
  | unp (is : List Nat) (c : C)
  | aug (i : Nat) (o : Operator) (c : C)
  | app (a e : C) | extd (a e : C) | sets (a i e : C) | expr (c : C)
  | fset (a : C) (f : Nat) (cls : List (Nat × List Nat)) (e : C) | faug (a : C) (f : Nat) (cls : List (Nat × List Nat)) (o : Operator) (e : C)
  | fset2 (a : C) (f : Nat) (b : C) (g : Nat) (cls : List (Nat × List Nat)) (e : C)
  | ret (c : C) | retN
  | ifS (c : C) (a b : S)
  | whl (c : C) (b : S)
  | forS (is : List Nat) (it : C) (b : S)
  | brk | cnt
  | seq (a b : S)
inductive Res where
  | nx (σ : En) (R : Sto) | bk (σ : En) (R : Sto) | ct (σ : En) (R : Sto)
  | rt (rv : Rv) (R : Sto) | bad
def noRef (σ : En) (p : Nat) : Bool := σ.all fun x => match x with
  | some (.ref 0 q) => !(q == p)
  | _ => true
def bvS (o : Out Rv) (f : Rv → Sto → Res) : Res := match o with
  | .ok (.many _) _ => .bad
  | .ok rv R => f rv R
  | _ => .bad
def iop (o : Operator) (x y : D) : Option D := match o, x, y with
  | .Add, .int i, .int j => some (.int (i + j))
  | .Sub, .int i, .int j => some (.int (i - j))
  | .Mult, .int i, .int j => if mulOk i j then some (.int (i * j)) else none
  | .FloorDiv, .int i, .int j => if divOk j then some (.int (i.fdiv j)) else none
  | .Add, .str a, .str b => if a.length + b.length ≤ 100000 then some (.str (a ++ b)) else none
  | _, _, _ => none
def setN (i p : Nat) (o : O) (σ : En) (R : Sto) : Res :=
  if noRef (σ.set i none) p then match sget R 0 p with
    | some _ => .nx (σ.set i (some (.ref 0 p))) (sset R 0 p o)
    | none => .bad
  else .bad
/-- a value's place: told, or a new thing at a place of the own frame -/
def putP (o : Option Nat) (i : Nat) (v : Rv) (σ : En) (R : Sto) : Res := match o with
  | none => .nx (σ.set i (some (fz v))) R
  | some p => match v with
    | .new u => setN i p u σ R
    | _ => .bad
/-- no instance -/
def plainR : Rv → Bool
  | .new (.ins _ _ _) => false
  | _ => true
def putPP (pi pj : Option Nat) (i j : Nat) (x y : Rv) (σ : En) (R : Sto) : Res := match pi with
  | none => putP pj j y (σ.set i (some (fz x))) R
  | some p => if plainR x then match putP pj j y σ R with
    | .nx σ1 R1 => putP (some p) i x σ1 R1
    | r => r
    else .bad
def appO (x : D) (y : D) (R : Sto) : Option Sto := match x with
  | .ref j i => match sget R j i with
    | some (.lst ds) => if ds.length < 100000 then some (sset R j i (.lst (ds ++ [y]))) else none
    | _ => none
  | _ => none
def extO (x : D) (es : List D) (R : Sto) : Option Sto := match x with
  | .ref j i => match sget R j i with
    | some (.lst ds) => if ds.length + es.length ≤ 100000 then some (sset R j i (.lst (ds ++ es))) else none
    | _ => none
  | _ => none
def tupD : D → Option (List D)
  | .tup es => some es
  | _ => none
def setO (x i y : D) (R : Sto) : Option Sto := match x with
  | .ref j k => match sget R j k with
    | some (.lst ds) => match i with
      | .int n => match L2.ixN ds.length n with
        | some m => some (sset R j k (.lst (ds.set m y)))
        | none => none
      | _ => none
    | some (.dct ks ds) => match keyD i with
      | some kk => if ks.length < 100000 then some (sset R j k (.dct (putD ks ds kk y).1 (putD ks ds kk y).2)) else none
      | none => none
    | some (.dcT ks ds) => match tupD i with
      | some es => match keysD es with
        | some kk => if ks.length < 100000 then some (sset R j k (.dcT (putD ks ds kk y).1 (putD ks ds kk y).2)) else none
        | none => none
      | none => none
    | _ => none
  | _ => none
def fstO (cls : List (Nat × List Nat)) (x : D) (f : Nat) (y : D) (R : Sto) : Option Sto := match x with
  | .ref j i => match sget R j i with
    | some (.ins c ns ds) => match cls.lookup c with
      | some fs => if fs.contains f && (ns.all fun n => fs.contains n) then some (sset R j i (.ins c (putD ns ds f y).1 (putD ns ds f y).2)) else none
      | none => none
    | _ => none
  | _ => none
def S.places : S → List Nat
  | .asgN _ p _ => [p]
  | .par2 _ _ pi pj _ _ => pi.toList ++ pj.toList
  | .ifS _ a b => a.places ++ b.places
  | .whl _ b => b.places
  | .forS _ _ b => b.places
  | .seq a b => a.places ++ b.places
  | _ => []
def whR (c : En → Sto → Out Rv) (f : En → Sto → Res) : Nat → En → Sto → Res
  | 0, _, _ => .bad
  | n + 1, σ, R => bvS (c σ R) fun x R1 => match truth R1 (fz x) with
    | some true => match f σ R1 with
      | .nx σ2 R2 => whR c f n σ2 R2
      | .ct σ2 R2 => whR c f n σ2 R2
      | .bk σ2 R2 => .nx σ2 R2
      | .rt v R2 => .rt v R2
      | .bad => .bad
    | some false => .nx σ R1
    | none => .bad
def forV (g : D → En → Option En) (f : En → Sto → Res) : List D → En → Sto → Res
  | [], σ, R => .nx σ R
  | d :: ds, σ, R => match g d σ with
    | none => .bad
    | some σ1 => match f σ1 R with
      | .nx σ2 R2 => forV g f ds σ2 R2
      | .ct σ2 R2 => forV g f ds σ2 R2
      | .bk σ2 R2 => .nx σ2 R2
      | .rt v R2 => .rt v R2
      | .bad => .bad
def forR (g : D → En → Option En) (f : En → Sto → Res) (x : D) : Nat → Nat → En → Sto → Res
  | 0, _, _, _ => .bad
  | n + 1, i, σ, R => match asL R x with
    | none => .bad
    | some ds => match ds[i]? with
      | none => .nx σ R
      | some d => match g d σ with
        | none => .bad
        | some σ1 => match f σ1 R with
          | .nx σ2 R2 => forR g f x n (i + 1) σ2 R2
          | .ct σ2 R2 => forR g f x n (i + 1) σ2 R2
          | .bk σ2 R2 => .nx σ2 R2
          | .rt v R2 => .rt v R2
          | .bad => .bad
def okLive (L : List Nat) : D → Bool
  | .ref 0 i => !(L.contains i)
  | .ref _ _ => true
  | _ => false
def forI (g : D → En → Option En) (f : En → Sto → Res) (L : List Nat) (lf : Nat) (σ : En) (R : Sto) : Option It → Res
  | some (.vals ds) => forV g f ds σ R
  | some (.live x) => if okLive L x then forR g f x lf 0 σ R else .bad
  | none => .bad
/-- what a suite's code does -/
def ex (cf : Cf) (lf : Nat) : S → En → Sto → Res
  | .nop, σ, R => .nx σ R
  | .never, _, _ => .bad
  | .asg i c, σ, R => bvS (ev cf lf c σ R) fun v R1 => .nx (σ.set i (some (fz v))) R1
  | .asgN i p c, σ, R => bvS (ev cf lf c σ R) fun v R1 => match v with
    | .new o => setN i p o σ R1
    | _ => .bad
  | .par2 i j pi pj a b, σ, R => bvS (ev cf lf a σ R) fun x R1 => bvS (ev cf lf b σ R1) fun y R2 => putPP pi pj i j x y σ R2
  | .par3 i j l a b c, σ, R => bvS (ev cf lf a σ R) fun x R1 => bvS (ev cf lf b σ R1) fun y R2 => bvS (ev cf lf c σ R2) fun z R3 => .nx (((σ.set i (some (fz x))).set j (some (fz y))).set l (some (fz z))) R3
  | .unp is c, σ, R => bvS (ev cf lf c σ R) fun v R1 => match setTg is (fz v) σ with
    | some σ1 => .nx σ1 R1
    | none => .bad
  | .aug i o c, σ, R => match σ[i]? with
    | some (some x) => bvS (ev cf lf c σ R) fun y R1 => match iop o x (fz y) with
      | some z => .nx (σ.set i (some z)) R1
      | none => .bad
    | _ => .bad
  | .app a e, σ, R => bvS (ev cf lf a σ R) fun x R1 => match asL R1 (fz x) with
    | none => .bad
    | some _ => bvS (ev cf lf e σ R1) fun y R2 => match byv (fz y) R2 with
      | none => .bad
      | some (y', R3) => match appO (fz x) y' R3 with
        | some R4 => .nx σ R4
        | none => .bad
  | .extd a e, σ, R => bvS (ev cf lf a σ R) fun x R1 => match asL R1 (fz x) with
    | none => .bad
    | some _ => bvS (ev cf lf e σ R1) fun y R2 => match asL R2 (fz y) with
      | none => .bad
      | some es => match extO (fz x) es R2 with
        | some R4 => .nx σ R4
        | none => .bad
  | .sets a i e, σ, R => bvS (ev cf lf e σ R) fun y R1 => match byv (fz y) R1 with
    | none => .bad
    | some (y', R2) => bvS (ev cf lf a σ R2) fun x R3 => bvS (ev cf lf i σ R3) fun n R4 => match setO (fz x) (fz n) y' R4 with
      | some R5 => .nx σ R5
      | none => .bad
  | .fset a f cls e, σ, R => bvS (ev cf lf e σ R) fun y R1 => match byv (fz y) R1 with
    | none => .bad
    | some (y', R2) => bvS (ev cf lf a σ R2) fun x R3 => match fstO cls (fz x) f y' R3 with
      | some R4 => .nx σ R4
      | none => .bad
  | .faug a f cls o e, σ, R => bvS (ev cf lf a σ R) fun x R1 => match fldD R1 (fz x) f with
    | none => .bad
    | some old => bvS (ev cf lf e σ R1) fun y R2 => match iop o old (fz y) with
      | none => .bad
      | some z => match fstO cls (fz x) f z R2 with
        | some R3 => .nx σ R3
        | none => .bad
  | .fset2 a f b g cls e, σ, R => bvS (ev cf lf e σ R) fun v R1 => match fz v with
    | .tup [d1, d2] => bvS (ev cf lf a σ R1) fun x R2 => match fstO cls (fz x) f d1 R2 with
      | none => .bad
      | some R3 => bvS (ev cf lf b σ R3) fun y R4 => match fstO cls (fz y) g d2 R4 with
        | some R5 => .nx σ R5
        | none => .bad
    | _ => .bad
  | .expr c, σ, R => bvS (ev cf lf c σ R) fun _ R1 => .nx σ R1
  | .ret c, σ, R => bvS (ev cf lf c σ R) fun v R1 => .rt v R1
  | .retN, _, R => .rt (.val .non) R
  | .ifS c a b, σ, R => bvS (ev cf lf c σ R) fun x R1 => match truth R1 (fz x) with
    | some true => ex cf lf a σ R1
    | some false => ex cf lf b σ R1
    | none => .bad
  | .whl c b, σ, R => whR (ev cf lf c) (ex cf lf b) lf σ R
  | .forS is it b, σ, R => match ev cf lf it σ R with
    | .ok x R1 => forI (setTg is) (ex cf lf b) b.places lf σ R1 (itOf (ik it) R1 x)
    | _ => .bad
  | .brk, σ, R => .bk σ R
  | .cnt, σ, R => .ct σ R
  | .seq a b, σ, R => match ex cf lf a σ R with
    | .nx σ1 R1 => ex cf lf b σ1 R1
    | r => r

/-! ### when a text's suite has a code -/
def isComp : Expr → Bool
  | .ListComp _ _ _ _ => true
  | .SetComp _ _ _ _ => true
  | .DictComp _ _ _ _ _ => true
  | _ => false
def lcB (sc : Scope) (x : Str) : Bool := match sc.names.lookup x with
  | some .local => true
  | _ => false
def stB (sc : Scope) (x : Str) : Bool := match sc.names.lookup x with
  | some .local => true
  | some .cell => true
  | _ => false
def isTupE : Expr → Bool
  | .Tuple _ _ _ => true
  | _ => false
def cmpB : Expr → Bool
  | .ListComp _ _ _ _ => true
  | e => !isComp e
def chkNm (sc : Scope) (N : List Str) (i : Nat) : Expr → Bool
  | .Name x _ => decide (N[i]? = some x) && stB sc x
  | _ => false
def chkNms (sc : Scope) (N : List Str) : List Nat → List Expr → Bool
  | [], [] => true
  | i :: is, e :: es => chkNm sc N i e && chkNms sc N is es
  | _, _ => false
def chkTg (sc : Scope) (N : List Str) (is : List Nat) : Expr → Bool
  | .Name x p => match is with
    | [i] => chkNm sc N i (.Name x p)
    | _ => false
  | .Tuple es _ _ => decide (2 ≤ es.length) && chkNms sc N is es
  | _ => false
def noSwap (n : Nat) : Expr → Bool
  | .Tuple vs _ _ => !(n == 2 || n == 3) || vs.length != n || vs.all (foldedForSure 8)
  | _ => true
/-- not all of them plain locals -/
def noLoc (sc : Scope) (es : List Expr) : Bool := es.any fun e => match e with
  | .Name x _ => !lcB sc x
  | _ => true
def chkS (T : Tb) : S → Scope → List Str → List Stmt → Bool
  | .nop, _, _, sts => match sts with
    | [] => true
    | [.Pass _] => true
    | [.Expr (.Constant (.str _) _ _) _] => true
    | _ => false
  | .never, _, _, _ => true
  | .asg i c, sc, N, sts => match sts with
    | [.Assign [.Name x px] e p] => decide (N[i]? = some x) && stB sc x && chk T c sc N e && cmpB e
    | _ => false
  | .asgN i p c, sc, N, sts => match sts with
    | [.Assign [.Name x px] e _] => decide (N[i]? = some x) && stB sc x && chk T c sc N e && cmpB e
    | _ => false
  | .par2 i j _ _ a b, sc, N, sts => match sts with
    | [.Assign [.Tuple [.Name x px, .Name y py] _ _] (.Tuple [e, f] _ _) _] => decide (N[i]? = some x) && decide (N[j]? = some y) && !(i == j) && lcB sc x && lcB sc y && (py.line == px.line) && !(x == y) && !isStar e && !isStar f && chk T a sc N e && chk T b sc N f &&
      !([e, f].all (foldedForSure 8)) && !([e, f].all (constantsAlone 8))
    | _ => false
  | .par3 i j l a b c, sc, N, sts => match sts with
    | [.Assign [.Tuple [.Name x px, .Name y py, .Name z pz] _ _] (.Tuple [e, f, g] _ _) _] => decide (N[i]? = some x) && decide (N[j]? = some y) && decide (N[l]? = some z) && !(i == j) && !(i == l) && !(j == l) && lcB sc x && lcB sc y && lcB sc z && (py.line == px.line) && (pz.line == px.line) &&
      !(x == y) && !(x == z) && !(y == z) && !isStar e && !isStar f && !isStar g && chk T a sc N e && chk T b sc N f && chk T c sc N g && !([e, f, g].all (foldedForSure 8)) && !([e, f, g].all (constantsAlone 8))
    | _ => false
  | .unp is c, sc, N, sts => match sts with
    | [.Assign [.Tuple es k pt] e p] => chkTg sc N is (.Tuple es k pt) && (noSwap es.length e || noLoc sc es) && chk T c sc N e
    | _ => false
  | .aug i o c, sc, N, sts => match sts with
    | [.AugAssign (.Name x _) o' e _] => decide (N[i]? = some x) && stB sc x && decide (o = o') && chk T c sc N e
    | _ => false
  | .app a e, sc, N, sts => match sts with
    | [.Expr (.Call (.Attribute (.Name x px) m ap) [y] [] cp) _] => decide (m = "append") && (ap.endLine == cp.line) && !isStar y && chk T a sc N (.Name x px) && chk T e sc N y
    | _ => false
  | .extd a e, sc, N, sts => match sts with
    | [.Expr (.Call (.Attribute (.Name x px) m ap) [y] [] cp) _] => decide (m = "extend") && (ap.endLine == cp.line) && !isStar y && chk T a sc N (.Name x px) && chk T e sc N y
    | _ => false
  | .sets a i e, sc, N, sts => match sts with
    | [.Assign [.Subscript o y ps] v _] => !isSlice y && !isComp v && chk T a sc N o && chk T i sc N y && chk T e sc N v
    | _ => false
  | .fset a f cls e, sc, N, sts => match sts with
    | [.Assign [.Attribute o m pa] v _] => decide (m = nmN f) && (cls.all fun p => decide (p ∈ T.sls)) && !isComp v && chk T a sc N o && chk T e sc N v
    | _ => false
  | .faug a f cls op e, sc, N, sts => match sts with
    | [.AugAssign (.Attribute o m pa) op' v _] => decide (m = nmN f) && decide (op = op') && (cls.all fun p => decide (p ∈ T.sls)) && chk T a sc N o && chk T e sc N v
    | _ => false
  | .fset2 a f b g cls e, sc, N, sts => match sts with
    | [.Assign [.Tuple [.Attribute o m pa, .Attribute q l pb] k pt] v _] => decide (m = nmN f) && decide (l = nmN g) && (cls.all fun p => decide (p ∈ T.sls)) && noSwap 2 v && chk T a sc N o && chk T b sc N q && chk T e sc N v
    | _ => false
  | .expr c, sc, N, sts => match sts with
    | [.Expr e _] => !isComp e && chk T c sc N e
    | _ => false
  | .ret c, sc, N, sts => match sts with
    | [.Return (some e) _] => chk T c sc N e
    | _ => false
  | .retN, _, _, sts => match sts with
    | [.Return none _] => true
    | _ => false
  | .ifS c a b, sc, N, sts => match sts with
    | [.If e x y _] => chk T c sc N e && chkS T a sc N x && chkS T b sc N y
    | _ => false
  | .whl c b, sc, N, sts => match sts with
    | [.While e x [] _] => chk T c sc N e && chkS T b sc N x
    | _ => false
  | .forS is it b, sc, N, sts => match sts with
    | [.For tg e x [] _] => chkTg sc N is tg && tgIk it tg && chk T it sc N e && !isSet e && chkS T b sc N x
    | _ => false
  | .brk, _, _, sts => match sts with
    | [.Break _] => true
    | _ => false
  | .cnt, _, _, sts => match sts with
    | [.Continue _] => true
    | _ => false
  | .seq a b, sc, N, sts => match sts with
    | st :: r => chkS T a sc N [st] && chkS T b sc N r
    | [] => false
end EV

/-! EvT: what a suite's code does, the text's suite does (words, leaves). -/
namespace EV
open PySem PySem.Spec PyProof.Rows L2

/-- places of the own frame may be laid anew -/
def Agr (L : List Nat) (M M' : Mp) : Prop := ∀ j i, (j = 0 → i ∉ L) → M' j i = M j i
theorem Agr.refl (L : List Nat) (M : Mp) : Agr L M M := fun _ _ _ => rfl
theorem Agr.trans {L : List Nat} {M M' M'' : Mp} (a : Agr L M M') (b : Agr L M' M'') : Agr L M M'' := fun j i h => (b j i h).trans (a j i h)
theorem Agr.mono {L L' : List Nat} {M M' : Mp} (a : Agr L M M') (h : ∀ x ∈ L, x ∈ L') : Agr L' M M' := fun j i q => a j i fun z w => q z (h i w)
def setM (M : Mp) (p : Nat) (a : Addr) : Mp := fun j i => if j = 0 ∧ i = p then a else M j i
theorem setM_same (M : Mp) (p : Nat) (a : Addr) : setM M p a 0 p = a := if_pos ⟨rfl, rfl⟩
theorem setM_ne {M : Mp} {p : Nat} {a : Addr} {j i : Nat} (h : ¬ (j = 0 ∧ i = p)) : setM M p a j i = M j i := if_neg h
def DS (X : Cx) (L : List Nat) (M : Mp) (P : Ps) (F : Hp) (D : Ends) : Res → Prop
  | .nx σD R => ∀ M' F' σ H, Agr L M M' → Ex F F' → Rel X.K M' R P F' H → ER X.K M' F' σD σ → D.nx σ H
  | .bk σD R => ∀ M' F' σ H, Agr L M M' → Ex F F' → Rel X.K M' R P F' H → ER X.K M' F' σD σ → D.bk σ H
  | .ct σD R => ∀ M' F' σ H, Agr L M M' → Ex F F' → Rel X.K M' R P F' H → ER X.K M' F' σD σ → D.ct σ H
  | .rt rv R => ∀ M' F' v H, Agr L M M' → Ex F F' → Rel X.K M' R P F' H → RVR X.K M' R P F' H v rv → D.rt v H
  | .bad => False
def WSs (X : Cx) (sts : List Stmt) (D : Ends) (σ : L2.St) (H : Hp) : Prop := ∀ (pins : List (Addr × Obj)) (s : Shared), Inv X pins σ H s → wpAny (model X.prog X.w) X.A (execs sts X.env) (SP X pins D) X.xe s
theorem pss_w {X : Cx} {sts : List Stmt} : PSs X sts (WSs X sts) := ⟨fun pins s σ H D I h => h pins s I⟩
theorem wss_of {X : Cx} {sts : List Stmt} {t : TS} {D : Ends} {σ : L2.St} {H : Hp} (h : PSs X sts t) (q : t D σ H) : WSs X sts D σ H := fun pins s I => h.run pins s σ H D I q
/-- with the context's kind at hand -/
theorem wss_k {X : Cx} {sts : List Stmt} {D : Ends} {σ : L2.St} {H : Hp} (h : X.env.scope.kind = .function → WSs X sts D σ H) : WSs X sts D σ H := fun pins s I => h I.ok.kind pins s I
structure Oks (CX : CXT) (k : Nat) (X : Cx) : Prop where
  ok : Okx CX k X
  fn : ∀ x, X.fn x = true
def SS (T : Tb) (cf : Cf) (lf : Nat) (CX : CXT) (k : Nat) (s : S) : Prop := ∀ (X : Cx) (sts : List Stmt), Oks CX k X → Facts T cf CX k X → chkS T s X.env.scope X.N sts = true → ∀ (σD : En) (R : Sto) (M : Mp) (P : Ps) (F : Hp) (σ : L2.St) (H : Hp) (D : Ends),
  Rel X.K M R P F H → ER X.K M F σD σ → DS X s.places M P F D (ex cf lf s σD R) → WSs X sts D σ H
section
variable {X : Cx} {L L' : List Nat} {M M' : Mp} {P : Ps} {F G H : Hp} {D D' : Ends} {r : Res} {R : Sto} {σD : En} {σ : L2.St}
theorem DS.mono (h : DS X L' M P F D r) (hl : ∀ x ∈ L, x ∈ L') (a : Agr L' M M') (e : Ex F G) : DS X L M' P G D r := by
  cases r with
  | nx σD R => exact fun M2 F2 σ H a2 e2 => h M2 F2 σ H (a.trans (a2.mono hl)) (e.trans e2)
  | bk σD R => exact fun M2 F2 σ H a2 e2 => h M2 F2 σ H (a.trans (a2.mono hl)) (e.trans e2)
  | ct σD R => exact fun M2 F2 σ H a2 e2 => h M2 F2 σ H (a.trans (a2.mono hl)) (e.trans e2)
  | rt rv R => exact fun M2 F2 v H a2 e2 => h M2 F2 v H (a.trans (a2.mono hl)) (e.trans e2)
  | bad => exact h
theorem DS.nx' (h : DS X L M P F D (.nx σD R)) (a : Agr L M M') (e : Ex F G) (r : Rel X.K M' R P G H) (er : ER X.K M' G σD σ) : D.nx σ H := h M' G σ H a e r er
theorem DS.nx0 (h : DS X L M P F D (.nx σD R)) (e : Ex F G) (r : Rel X.K M R P G H) (er : ER X.K M G σD σ) : D.nx σ H := h M G σ H (.refl L M) e r er
theorem bvS_ok {o : Out Rv} {f : Rv → Sto → Res} (h : DS X L M P F D (bvS o f)) : ∃ rv R1, o = .ok rv R1 ∧ (∀ ds, rv ≠ .many ds) ∧ DS X L M P F D (f rv R1) := by
  cases o with
  | ok x R1 =>
    cases x with
    | val d => exact ⟨_, _, rfl, fun _ z => (nomatch z), h⟩
    | new u => exact ⟨_, _, rfl, fun _ z => (nomatch z), h⟩
    | many _ => exact h.elim
  | exc _ _ => exact h.elim
  | bad => exact h.elim
end

/-! ### targets -/
section
variable {CX : CXT} {k : Nat} {X : Cx}
theorem stB_of (ok : Oks CX k X) {x : Str} (h : stB X.env.scope x = true) : Loc X.env.scope x := by
  unfold stB at h
  split at h
  · rename_i q; exact .inl q
  · rename_i q; exact .inr q
  · cases h
theorem lcB_of {sc : Scope} {x : Str} (h : lcB sc x = true) : sc.names.lookup x = some .local := by
  unfold lcB at h
  split at h
  · rename_i q; exact q
  · cases h
theorem nm_ok (ok : Oks CX k X) {i : Nat} {e : Expr} (h : chkNm X.env.scope X.N i e = true) : PG X e (gName i) ∧ isStar e = false ∧ (assignEach [e] X.env) = [(false, assign e X.env)] := by
  unfold chkNm at h
  split at h
  · rw [Bool.and_eq_true] at h
    exact ⟨pg_name ok.ok.nd (of_decide_eq_true h.1) (stB_of ok h.2) (.inl (ok.fn _)), rfl, rfl⟩
  · cases h
theorem nms_ok (ok : Oks CX k X) : ∀ {is : List Nat} {es : List Expr}, chkNms X.env.scope X.N is es = true → ∃ g, PGs X es g ∧ (assignEach es X.env).length = es.length ∧ (assignEach es X.env).findIdx? (·.1) = none ∧ is.length = es.length ∧
    ∀ (ds : List D) (vs : List V) (σD σD1 : En) (M : Mp) (F : Hp) (σ : L2.St) (H : Hp) (Q : L2.St → Hp → Prop), setsTg is ds σD = some σD1 → DenL X.K F ds vs → ER X.K M F σD σ → (∀ σ1, ER X.K M F σD1 σ1 → Q σ1 H) → vs.length = es.length ∧ g vs σ H Q
  | [], [], h => ⟨_, pgs_nil, rfl, rfl, rfl, fun ds vs σD σD1 M F σ H Q q hv er kq => by
    cases ds with
    | nil =>
      cases hv
      cases q
      exact ⟨rfl, rfl, kq σ er⟩
    | cons _ _ => cases q⟩
  | i :: is, e :: es, h => by
    simp only [chkNms, Bool.and_eq_true] at h
    obtain ⟨p1, st, ae⟩ := nm_ok ok h.1
    obtain ⟨g, p2, l1, l2, l3, kk⟩ := nms_ok ok h.2
    have ac := assignEach_cons (env := X.env) (es := es) st
    refine ⟨_, pgs_cons p1 p2 (by rw [ac]; rfl), by rw [ac, List.length_cons, l1, List.length_cons], by rw [ac, List.findIdx?_cons, l2]; rfl, by rw [List.length_cons, l3, List.length_cons], fun ds vs σD σD1 M F σ H Q q hv er kq => ?_⟩
    cases ds with
    | nil => cases q
    | cons d ds =>
      cases hv with
      | cons h1 h2 =>
        obtain ⟨e1, e2⟩ := kk ds _ (σD.set i (some d)) σD1 M F (σ.set i (some _)) H Q q h2 (er.set (.inr h1)) kq
        exact ⟨by rw [List.length_cons, List.length_cons, e1], _, _, rfl, e2⟩
  | [], _ :: _, h => by simp [chkNms] at h
  | _ :: _, [], h => by simp [chkNms] at h
theorem tg_ok (ok : Oks CX k X) {is : List Nat} {e : Expr} (h : chkTg X.env.scope X.N is e = true) : ∃ g, PG X e g ∧ (assignEach [e] X.env).map (·.2) = [assign e X.env] ∧
    ∀ (d : D) (v : V) (R : Sto) (σD σD1 : En) (M : Mp) (P : Ps) (F : Hp) (σ : L2.St) (H : Hp) (Q : L2.St → Hp → Prop), setTg is d σD = some σD1 → Vr X.K M F d v → Rel X.K M R P F H → ER X.K M F σD σ → (∀ σ1, ER X.K M F σD1 σ1 → Q σ1 H) → g v σ H Q := by
  unfold chkTg at h
  split at h
  · split at h
    · obtain ⟨p1, st, ae⟩ := nm_ok ok h
      refine ⟨_, p1, rfl, fun d v R σD σD1 M P F σ H Q q hv r er kq => ?_⟩
      simp only [setTg] at q
      cases q
      exact kq _ (er.set hv)
    · cases h
  · rw [Bool.and_eq_true] at h
    obtain ⟨g, p2, l1, l2, l3, kk⟩ := nms_ok ok h.2
    refine ⟨_, pg_tup ok.ok.calm p2 l1 l2, rfl, fun d v R σD σD1 M P F σ H Q q hv r er kq => ?_⟩
    obtain ⟨ds, e, q'⟩ := setTg_many (by rw [l3]; exact of_decide_eq_true h.1) q
    obtain ⟨a, vs, rfl, h1, h2⟩ := Vr.tups e hv
    obtain ⟨e1, e2⟩ := kk ds vs σD σD1 M F σ H Q q' h2 er kq
    exact ⟨a, vs, rfl, r.ex.sqT h1, e1, e2⟩
  · cases h
end

/-! ### leaves -/
section
variable {T : Tb} {cf : Cf} {lf k : Nat} {CX : CXT}
theorem ss_nop : SS T cf lf CX k .nop := fun X sts ok fa h σD R M P F σ H D r er q => by
  simp only [chkS] at h
  simp only [ex] at q
  have q := q.nx0 (.refl F) r er
  split at h
  · exact wss_of pss_nil q
  · exact wss_of (pss_one ps_pass) q
  · exact wss_of (pss_one ps_doc) q
  · cases h
theorem ss_never : SS T cf lf CX k .never := fun X sts ok fa h σD R M P F σ H D r er q => by
  simp only [ex] at q
  exact q.elim
theorem ss_brk : SS T cf lf CX k .brk := fun X sts ok fa h σD R M P F σ H D r er q => by
  simp only [chkS] at h
  simp only [ex] at q
  split at h
  · exact wss_of (pss_one ps_break) (q M F σ H (.refl _ M) (.refl F) r er)
  · cases h
theorem ss_cnt : SS T cf lf CX k .cnt := fun X sts ok fa h σD R M P F σ H D r er q => by
  simp only [chkS] at h
  simp only [ex] at q
  split at h
  · exact wss_of (pss_one ps_continue) (q M F σ H (.refl _ M) (.refl F) r er)
  · cases h
theorem ss_retN : SS T cf lf CX k .retN := fun X sts ok fa h σD R M P F σ H D r er q => by
  simp only [chkS] at h
  simp only [ex] at q
  split at h
  · exact wss_of (pss_one ps_retN) (q M F .non H (.refl _ M) (.refl F) r (.inr .non))
  · cases h
theorem ss_ret (c : C) : SS T cf lf CX k (.ret c) := fun X sts ok fa h σD R M P F σ H D r er q => by
  simp only [chkS] at h
  simp only [ex] at q
  split at h
  · rename_i e p
    obtain ⟨rv, R1, q1, m1, q⟩ := bvS_ok q
    refine wss_of (pss_one (ps_ret pe_w)) ?_
    exact we_mono ((snd c).v X ok.ok fa e h σD R R1 M P F σ H rv r er q1 m1) fun v H1 ⟨F1, e1, r1, v1⟩ => q M F1 v H1 (.refl _ M) e1 r1 v1
  · cases h
theorem sw_none {e : Expr} {tg : Option Expr} {l : Nat} {env : Env} (h : isComp e = false) : swapsWith e tg l env = pure false := by
  cases e <;> first | rfl | cases h
theorem ss_expr (c : C) : SS T cf lf CX k (.expr c) := fun X sts ok fa h σD R M P F σ H D r er q => by
  simp only [chkS] at h
  simp only [ex] at q
  split at h
  · rename_i e p
    rw [Bool.and_eq_true] at h
    obtain ⟨rv, R1, q1, m1, q⟩ := bvS_ok q
    refine wss_of (pss_one (ps_expr pe_w (sw_none (nobool h.1)))) ?_
    exact we_mono (((snd c).v X ok.ok fa _ h.2).d r er q1 m1) fun v H1 ⟨F1, e1, r1, v1⟩ => q.nx0 e1 r1 (er.mono e1)
  · cases h
end
end EV

/-! EvU: assignments. -/
namespace EV
open PySem PySem.Spec PyProof.Rows L2

section
variable {K : PySem.W.Frag} {M : Mp} {R : Sto} {P : Ps} {F G H : Hp} {v : V} {o u : O} {a : Addr} {p : Nat}
/-- a new thing takes a place of the own frame -/
theorem Rel.alloc (r : Rel K M R P F H) (hs : sget R 0 p = some u) (h : RVR K M R P F H v (.new o)) : ∃ a, v = .ref a ∧ Rel K (setM M p a) (sset R 0 p o) P F H := by
  obtain ⟨a, rfl, hf, h1, h2, h3⟩ := h
  refine ⟨a, rfl, ⟨r.ex, fun j i q e => ?_, fun j1 i1 j2 i2 l1 l2 e => ?_, fun q hq => ?_, r.pd⟩⟩
  · by_cases z : j = 0 ∧ i = p
    · obtain ⟨rfl, rfl⟩ := z
      rw [sget_set_same hs] at e
      cases e
      rw [setM_same]
      exact h1
    · rw [sget_set_ne z] at e
      rw [setM_ne z]
      exact r.ob j i q e
  · have old : ∀ {j i}, live (sset R 0 p o) j i → ¬ (j = 0 ∧ i = p) → live R j i := fun {j i} ⟨w, g1, g2⟩ z => by
      rw [sget_set_ne z] at g1
      exact ⟨w, g1, g2⟩
    by_cases z1 : j1 = 0 ∧ i1 = p
    · by_cases z2 : j2 = 0 ∧ i2 = p
      · exact ⟨z1.1.trans z2.1.symm, z1.2.trans z2.2.symm⟩
      · obtain ⟨rfl, rfl⟩ := z1
        rw [setM_same, setM_ne z2] at e
        exact absurd e.symm (h2 _ _ (old l2 z2))
    · by_cases z2 : j2 = 0 ∧ i2 = p
      · obtain ⟨rfl, rfl⟩ := z2
        rw [setM_same, setM_ne z1] at e
        exact absurd e (h2 _ _ (old l1 z1))
      · rw [setM_ne z1, setM_ne z2] at e
        exact r.inj _ _ _ _ (old l1 z1) (old l2 z2) e
  · obtain ⟨g1, g2, gm, g3⟩ := r.pr q hq
    refine ⟨g1, g2, gm, fun j i ⟨w, l1, l2⟩ => ?_⟩
    by_cases z : j = 0 ∧ i = p
    · obtain ⟨rfl, rfl⟩ := z
      rw [setM_same]
      exact fun e => h3 q hq e.symm
    · rw [sget_set_ne z] at l1
      rw [setM_ne z]
      exact g3 j i ⟨w, l1, l2⟩
theorem noRef_ne {σ : En} {j : Nat} {d : D} (h : noRef σ p = true) (e : σ[j]? = some (some d)) : d ≠ .ref 0 p := by
  intro z
  subst z
  unfold noRef at h
  have := List.all_eq_true.mp h _ (List.mem_of_getElem? e)
  simp at this
theorem Vr.setM {d : D} (h : Vr K M F d v) (hd : d ≠ .ref 0 p) : Vr K (setM M p a) F d v := by
  rcases h with ⟨j, i, rfl, rfl⟩ | h
  · refine .inl ⟨j, i, rfl, ?_⟩
    rw [setM_ne fun z => hd (by rw [z.1, z.2])]
  · exact .inr h
theorem ER.setNew {σD : En} {σ : L2.St} {i : Nat} (h : ER K M F σD σ) (hn : noRef (σD.set i none) p = true) : ER K (EV.setM M p a) F (σD.set i (some (.ref 0 p))) (σ.set i (some (.ref a))) := by
  refine ⟨by rw [List.length_set, List.length_set]; exact h.1, fun j d q => ?_⟩
  by_cases hj : j = i
  · subst hj
    have hl : j < σD.length := by
      have := (List.getElem?_eq_some_iff.mp q).1
      rwa [List.length_set] at this
    rw [List.getElem?_set_self hl] at q
    cases q
    exact ⟨.ref a, List.getElem?_set_self (by rw [h.1]; exact hl), .inl ⟨0, p, rfl, by rw [setM_same]⟩⟩
  · rw [List.getElem?_set_ne (Ne.symm hj)] at q
    obtain ⟨w, h1, h2⟩ := h.2 j d q
    refine ⟨w, by rw [List.getElem?_set_ne (Ne.symm hj)]; exact h1, h2.setM ?_⟩
    exact noRef_ne hn (by rw [List.getElem?_set_ne (Ne.symm hj)]; exact q)
theorem Agr.setM : Agr [p] M (EV.setM M p a) := fun j i h => setM_ne fun z => by
  have := h z.1
  rw [z.2] at this
  simp at this
end

section
variable {T : Tb} {cf : Cf} {lf k : Nat} {CX : CXT}
theorem isComp_lc {e : Expr} (h : cmpB e = true) : isComp e = false ∨ ∃ el gs scope pos, e = .ListComp el gs scope pos := by
  cases e <;> first | exact .inl rfl | exact .inr ⟨_, _, _, _, rfl⟩ | exact nomatch h
theorem code_lc {c : C} {sc : Scope} {N : List Str} {el : Expr} {gs : List Comprehension} {scope : Scope} {pos : Pos} (h : chk T c sc N (.ListComp el gs scope pos) = true) : ∃ elt slot it cond, c = .comp elt slot it cond := by
  cases c with
  | comp a b c d => exact ⟨a, b, c, d, rfl⟩
  | _ => simp [chk] at h
/-- name = e -/
theorem asg_go {X : Cx} (ok : Oks CX k X) (fa : Facts T cf CX k X) {c : C} {i : Nat} {x : Str} {px p : Pos} {e : Expr} (hi : X.N[i]? = some x) (hx : stB X.env.scope x = true) (hc : chk T c X.env.scope X.N e = true) (he : cmpB e = true)
    {σD : En} {R R1 : Sto} {M : Mp} {P : Ps} {F : Hp} {σ : L2.St} {H : Hp} {D : Ends} {rv : Rv} (r : Rel X.K M R P F H) (er : ER X.K M F σD σ) (q : ev cf lf c σD R = .ok rv R1) (hm : ∀ ds, rv ≠ .many ds)
    (kq : ∀ v H1, PV X M R1 P F rv v H1 → D.nx (σ.set i (some v)) H1) : WSs X [.Assign [.Name x px] e p] D σ H := by
  have plain : swapsWith e (some (.Name x px)) p.line X.env = pure false → WSs X [.Assign [.Name x px] e p] D σ H := fun sw => by
    refine wss_of (pss_one (ps_set ok.ok.nd hi (stB_of ok hx) pe_w sw (.inl (ok.fn x)))) ?_
    exact we_mono ((snd c).v X ok.ok fa e hc σD R R1 M P F σ H rv r er q hm) fun v H1 h => kq v H1 h
  rcases isComp_lc he with h | ⟨el, gs, scope, pos, rfl⟩
  · exact plain (sw_none h)
  · have sw : swapsWith (.ListComp el gs scope pos) (some (.Name x px)) p.line X.env = pure (X.env.blockKind == .function && X.env.kindOf x == some .local && px.line == pos.line && !(scope.names.any fun (n, k) => n == x && (k == .local || k == .cell))) := rfl
    cases hb : (X.env.blockKind == .function && X.env.kindOf x == some .local && px.line == pos.line && !(scope.names.any fun (n, k) => n == x && (k == .local || k == .cell))) with
    | false => exact plain (by rw [sw, hb])
    | true =>
      rw [hb] at sw
      simp only [Bool.and_eq_true] at hb
      obtain ⟨⟨⟨_, h2⟩, _⟩, _⟩ := hb
      have hy : X.env.scope.names.lookup x = some .local := beq_iff_eq.mp h2
      obtain ⟨elt, slot, it, cond, rfl⟩ := code_lc hc
      obtain ⟨el', tg, iter, ifs, scope', pos', e1, ct⟩ := comp_inv hc
      cases e1
      refine wss_of (pss_one (ps_setLc ok.ok.calm ok.ok.nd hi hy sw pi_w ct.blk (blk_pg ok.ok ct.tgo) bk_pts bk_pe (notSet_of ct.ns))) ?_
      have L := comp_lc (snd elt) (sit it) (snd cond) ok.ok fa ct r er q kq
      have e2 : gTg X.K (((tgNs tg).zip slot).map (·.2)) tg = gTg X.K slot tg := by rw [own_snd ct.tgo]
      rw [← own_snd ct.tgo] at L
      rw [e2] at L
      exact L
theorem ss_asg (i : Nat) (c : C) : SS T cf lf CX k (.asg i c) := fun X sts ok fa h σD R M P F σ H D r er q => by
  simp only [chkS] at h
  simp only [ex] at q
  split at h
  · rename_i x px e p
    simp only [Bool.and_eq_true] at h
    obtain ⟨⟨⟨h1, h2⟩, h3⟩, h4⟩ := h
    obtain ⟨rv, R1, q1, m1, q⟩ := bvS_ok q
    refine asg_go ok fa (of_decide_eq_true h1) h2 h3 h4 r er q1 m1 fun v H1 ⟨F1, e1, r1, v1⟩ => ?_
    obtain ⟨G, g1, g2, g3⟩ := r1.fz v1
    exact q.nx0 (e1.trans g1) g2 ((er.mono (e1.trans g1)).set g3)
  · cases h
theorem ss_asgN (i p : Nat) (c : C) : SS T cf lf CX k (.asgN i p c) := fun X sts ok fa h σD R M P F σ H D r er q => by
  simp only [chkS] at h
  simp only [ex] at q
  split at h
  · rename_i x px e p'
    simp only [Bool.and_eq_true] at h
    obtain ⟨⟨⟨h1, h2⟩, h3⟩, h4⟩ := h
    obtain ⟨rv, R1, q1, m1, q⟩ := bvS_ok q
    refine asg_go ok fa (of_decide_eq_true h1) h2 h3 h4 r er q1 m1 fun v H1 ⟨F1, e1, r1, v1⟩ => ?_
    cases rv with
    | new o =>
      dsimp only at q
      unfold setN at q
      split at q
      · rename_i hn
        split at q
        · rename_i u hu
          obtain ⟨a, rfl, r2⟩ := r1.alloc hu v1
          exact q.nx' (Agr.setM (a := a)) e1 r2 ((er.mono e1).setNew hn)
        · exact q.elim
      · exact q.elim
    | _ => exact q.elim
  · cases h
/-- two expressions -/
theorem two_go {X : Cx} (ok : Okx CX k X) (fa : Facts T cf CX k X) {a b : C} {e f : Expr} (h1 : chk T a X.env.scope X.N e = true) (h2 : chk T b X.env.scope X.N f = true) (s1 : isStar e = false) (s2 : isStar f = false)
    {σD : En} {R R1 R2 : Sto} {M : Mp} {P : Ps} {F : Hp} {σ : L2.St} {H : Hp} {x y : Rv} (r : Rel X.K M R P F H) (er : ER X.K M F σD σ) (q1 : ev cf lf a σD R = .ok x R1) (m1 : ∀ ds, x ≠ .many ds) (q2 : ev cf lf b σD R1 = .ok y R2) (m2 : ∀ ds, y ≠ .many ds) :
    WA X [e, f] σ H (PL X M R2 P F [fz x, fz y]) := by
  refine wa_of (pa_cons pe_w (pa_cons pe_w pa_nil (star_cons s2)) (star_cons s1)) ?_
  refine we_mono (((snd a).v X ok fa _ h1).d r er q1 m1) fun v1 H1 ⟨F1, e1, r1, v1'⟩ => ?_
  refine we_mono (((snd b).v X ok fa _ h2).d r1 (er.mono e1) q2 m2) fun v2 H2 ⟨F2, e2, r2, v2'⟩ => ?_
  exact ⟨F2, e1.trans e2, r2, .cons (v1'.mono e2) (.cons v2' .nil)⟩
theorem three_go {X : Cx} (ok : Okx CX k X) (fa : Facts T cf CX k X) {a b c : C} {e f g : Expr} (h1 : chk T a X.env.scope X.N e = true) (h2 : chk T b X.env.scope X.N f = true) (h3 : chk T c X.env.scope X.N g = true) (s1 : isStar e = false) (s2 : isStar f = false) (s3 : isStar g = false)
    {σD : En} {R R1 R2 R3 : Sto} {M : Mp} {P : Ps} {F : Hp} {σ : L2.St} {H : Hp} {x y z : Rv} (r : Rel X.K M R P F H) (er : ER X.K M F σD σ) (q1 : ev cf lf a σD R = .ok x R1) (m1 : ∀ ds, x ≠ .many ds) (q2 : ev cf lf b σD R1 = .ok y R2) (m2 : ∀ ds, y ≠ .many ds)
    (q3 : ev cf lf c σD R2 = .ok z R3) (m3 : ∀ ds, z ≠ .many ds) : WA X [e, f, g] σ H (PL X M R3 P F [fz x, fz y, fz z]) := by
  refine wa_of (pa_cons pe_w (pa_cons pe_w (pa_cons pe_w pa_nil (star_cons s3)) (star_cons s2)) (star_cons s1)) ?_
  refine we_mono (((snd a).v X ok fa _ h1).d r er q1 m1) fun v1 H1 ⟨F1, e1, r1, v1'⟩ => ?_
  refine we_mono (((snd b).v X ok fa _ h2).d r1 (er.mono e1) q2 m2) fun v2 H2 ⟨F2, e2, r2, v2'⟩ => ?_
  refine we_mono (((snd c).v X ok fa _ h3).d r2 ((er.mono e1).mono e2) q3 m3) fun v3 H3 ⟨F3, e3, r3, v3'⟩ => ?_
  exact ⟨F3, (e1.trans e2).trans e3, r3, .cons ((v1'.mono e2).mono e3) (.cons (v2'.mono e3) (.cons v3' .nil))⟩
theorem swap2 {env : Env} {x y : Str} {px py pt pt2 : Pos} {kt k2 : Nat} {e f : Expr} (hk : env.scope.kind = .function) (hx : env.scope.names.lookup x = some .local) (hy : env.scope.names.lookup y = some .local) (hl : (py.line == px.line) = true) (hxy : (x == y) = false)
    (s1 : isStar e = false) (s2 : isStar f = false) (h1 : [e, f].all (foldedForSure 8) = false) (h2 : [e, f].all (constantsAlone 8) = false) : swappedStores [.Tuple [.Name x px, .Name y py] kt pt] (.Tuple [e, f] k2 pt2) env = pure (some [x, y]) := by
  have hb : env.blockKind = .function := by unfold Env.blockKind; rw [hk]; rfl
  have kx : env.kindOf x = some .local := hx
  have ky : env.kindOf y = some .local := hy
  have hyx : (y == x) = false := by
    cases q : (y == x) with
    | false => rfl
    | true => rw [beq_iff_eq.mp q] at hxy; simp at hxy
  have ed : [x, y].eraseDups = [x, y] := by
    simp [List.eraseDups, List.eraseDupsBy, List.eraseDupsBy.loop, hxy, hyx]
  unfold swappedStores
  simp only [List.any_cons, List.any_nil, Bool.or_false, hb, List.filterMap_cons, List.filterMap_nil, Expr.pos, List.head?_cons, Option.map_some, Option.getD_some, kx, ky, hl, beq_self_eq_true, Bool.and_self, if_true, ed, h1, h2, List.length_cons, List.length_nil]
  refine (if_neg (by decide)).trans ?_
  refine (if_neg fun z => ?_).trans ?_
  · rcases (Bool.or_eq_true _ _).mp z with z | z
    · cases e <;> first | exact Bool.false_ne_true z | exact Bool.false_ne_true s1.symm
    · cases f <;> first | exact Bool.false_ne_true z | exact Bool.false_ne_true s2.symm
  · rfl
theorem swap3 {env : Env} {x y z : Str} {px py pz pt pt2 : Pos} {kt k2 : Nat} {e f g : Expr} (hk : env.scope.kind = .function) (hx : env.scope.names.lookup x = some .local) (hy : env.scope.names.lookup y = some .local) (hz : env.scope.names.lookup z = some .local) (hl : (py.line == px.line) = true) (hl2 : (pz.line == px.line) = true) (hxy : (x == y) = false) (hxz : (x == z) = false) (hyz : (y == z) = false)
    (s1 : isStar e = false) (s2 : isStar f = false) (s3 : isStar g = false) (h1 : [e, f, g].all (foldedForSure 8) = false) (h2 : [e, f, g].all (constantsAlone 8) = false) : swappedStores [.Tuple [.Name x px, .Name y py, .Name z pz] kt pt] (.Tuple [e, f, g] k2 pt2) env = pure (some [x, y, z]) := by
  have hb : env.blockKind = .function := by unfold Env.blockKind; rw [hk]; rfl
  have kx : env.kindOf x = some .local := hx
  have ky : env.kindOf y = some .local := hy
  have kz : env.kindOf z = some .local := hz
  have sw : ∀ {a b : Str}, (a == b) = false → (b == a) = false := fun {a b} h => by
    cases q : (b == a) with
    | false => rfl
    | true => rw [beq_iff_eq.mp q] at h; simp at h
  have ed : [x, y, z].eraseDups = [x, y, z] := by
    simp [List.eraseDups, List.eraseDupsBy, List.eraseDupsBy.loop, hxy, hxz, hyz, sw hxy, sw hxz, sw hyz]
  unfold swappedStores
  simp only [List.any_cons, List.any_nil, Bool.or_false, hb, List.filterMap_cons, List.filterMap_nil, Expr.pos, List.head?_cons, Option.map_some, Option.getD_some, kx, ky, kz, hl, hl2, beq_self_eq_true, Bool.and_self, if_true, ed, h1, h2, List.length_cons, List.length_nil]
  refine (if_neg (by decide)).trans ?_
  refine (if_neg fun z => ?_).trans ?_
  · rcases (Bool.or_eq_true _ _).mp z with z | z
    · cases e <;> first | exact Bool.false_ne_true z | exact Bool.false_ne_true s1.symm
    · rcases (Bool.or_eq_true _ _).mp z with z | z
      · cases f <;> first | exact Bool.false_ne_true z | exact Bool.false_ne_true s2.symm
      · cases g <;> first | exact Bool.false_ne_true z | exact Bool.false_ne_true s3.symm
  · rfl
theorem noteq {x y : Nat} (h : (x == y) = false) : x ≠ y := fun e => by
  rw [e] at h
  simp at h
theorem putP_two (o : Option Nat) (i : Nat) (rv : Rv) (σD : En) (R : Sto) : putP o i rv σD R = .bad ∨ ∃ σ1 R1, putP o i rv σD R = .nx σ1 R1 := by
  cases o with
  | none => exact .inr ⟨_, _, rfl⟩
  | some p =>
    cases rv with
    | new u =>
      simp only [putP, setN]
      split
      · split
        · exact .inr ⟨_, _, rfl⟩
        · exact .inl rfl
      · exact .inl rfl
    | _ => exact .inl rfl
theorem putP_nx {X : Cx} {L : List Nat} {D : Ends} {M0 : Mp} {F0 : Hp} {P0 : Ps} {o : Option Nat} {i : Nat} {rv : Rv} {σD : En} {R : Sto} {g : En → Sto → Res} (q : DS X L M0 P0 F0 D (match putP o i rv σD R with | .nx σ1 R1 => g σ1 R1 | r => r)) :
    ∃ σ1 R1, putP o i rv σD R = .nx σ1 R1 ∧ DS X L M0 P0 F0 D (g σ1 R1) := by
  rcases putP_two o i rv σD R with h | ⟨σ1, R1, h⟩
  · rw [h] at q
    exact q.elim
  · rw [h] at q
    exact ⟨σ1, R1, h, q⟩
theorem putP_nx0 {X : Cx} {L : List Nat} {D : Ends} {M0 : Mp} {F0 : Hp} {P0 : Ps} {o : Option Nat} {i : Nat} {rv : Rv} {σD : En} {R : Sto} (q : DS X L M0 P0 F0 D (putP o i rv σD R)) :
    ∃ σ1 R1, putP o i rv σD R = .nx σ1 R1 ∧ DS X L M0 P0 F0 D (.nx σ1 R1) := by
  rcases putP_two o i rv σD R with h | ⟨σ1, R1, h⟩
  · rw [h] at q
    exact q.elim
  · rw [h] at q
    exact ⟨σ1, R1, h, q⟩
theorem putP_ok {X : Cx} {M : Mp} {R R1 : Sto} {P : Ps} {F H : Hp} {o : Option Nat} {i : Nat} {rv : Rv} {v : V} {σD σ1 : En} {σ : L2.St}
    (q : putP o i rv σD R = .nx σ1 R1) (r : Rel X.K M R P F H) (er : ER X.K M F σD σ) (hv : RVR X.K M R P F H v rv) :
    ∃ M' F', Agr o.toList M M' ∧ Ex F F' ∧ Rel X.K M' R1 P F' H ∧ ER X.K M' F' σ1 (σ.set i (some v)) := by
  cases o with
  | none =>
    cases q
    obtain ⟨G, g1, g2, g3⟩ := r.fz hv
    exact ⟨M, G, .refl _ M, g1, g2, (er.mono g1).set g3⟩
  | some p =>
    cases rv with
    | new u =>
      simp only [putP, setN] at q
      split at q
      · rename_i hn
        split at q
        · rename_i w hw
          cases q
          obtain ⟨a, rfl, r2⟩ := r.alloc hw hv
          exact ⟨_, F, Agr.setM (a := a), .refl F, r2, er.setNew hn⟩
        · cases q
      · cases q
    | _ => cases q
theorem OR.at {K : PySem.W.Frag} {F G H H' : Hp} {a : Addr} {u : O} (hf : u.isF = false) (hp : plainR (.new u) = true) (g : OR K F H a u) (e : Ex F G) (hn : G a = Option.none) (h : ∀ w, H a = some w → H' a = some w) : OR K G H' a u := by
  cases u with
  | lst ds =>
    obtain ⟨h0, vs, h1, h2⟩ := g
    exact ⟨hn, vs, h _ h1, h2.mono e⟩
  | dct ks ds =>
    obtain ⟨h0, vs, h1, h2, h3⟩ := g
    exact ⟨hn, vs, h _ h1, h2, h3.mono e⟩
  | dcT ks ds =>
    obtain ⟨h0, vs, h1, h2, h3⟩ := g
    exact ⟨hn, vs, h _ h1, h2, h3.mono e⟩
  | ins c ns ds => cases hp
  | frz d => cases hf
  | dead => cases hf
theorem ss_par2 (i j : Nat) (pi pj : Option Nat) (a b : C) : SS T cf lf CX k (.par2 i j pi pj a b) := fun X sts ok fa h σD R M P F σ H D r er q => by
  simp only [chkS] at h
  simp only [ex] at q
  split at h
  · rename_i x px y py kt pt e f k2 pt2 p
    simp only [Bool.and_eq_true] at h
    obtain ⟨⟨⟨⟨⟨⟨⟨⟨⟨⟨⟨⟨h1, h2⟩, h3⟩, h4⟩, h5⟩, h6⟩, h7⟩, h8⟩, h9⟩, h10⟩, h11⟩, h12⟩, h13⟩ := h
    obtain ⟨v, R1, q1, m1, q⟩ := bvS_ok q
    obtain ⟨w, R2, q2, m2, q⟩ := bvS_ok q
    refine wss_k fun hk => ?_
    refine wss_of (pss_one (ps_par ok.ok.calm ok.ok.nd (of_decide_eq_true h1) (of_decide_eq_true h2) (noteq (nobool h3)) (lcB_of h4) (lcB_of h5) pa_w (swap2 hk (lcB_of h4) (lcB_of h5) h6 (nobool h7) (nobool h8) (nobool h9) (nobool h12) (nobool h13)))) ?_
    refine wa_of (pa_cons pe_w (pa_cons pe_w pa_nil (star_cons (nobool h9))) (star_cons (nobool h8))) ?_
    cases pi with
    | none =>
      refine we_mono (((snd a).v X ok.ok fa _ h10).d r er q1 m1) fun v1 H1 ⟨F1, e1, r1, v1'⟩ => ?_
      refine we_mono ((snd b).v X ok.ok fa _ h11 _ _ _ _ _ _ _ _ _ r1 (er.mono e1) q2 m2) fun v2 H2 ⟨F2, e2, r2, v2'⟩ => ?_
      refine ⟨v1, v2, rfl, ?_⟩
      simp only [putPP] at q
      obtain ⟨σ1, R3, q3, d1⟩ := putP_nx0 q
      obtain ⟨M', F', a1, e3, r3, er3⟩ := putP_ok q3 r2 (((er.mono e1).mono e2).set (v1'.mono e2)) v2'
      exact d1 M' F' _ _ (a1.mono fun z hz => List.mem_append_right _ hz) ((e1.trans e2).trans e3) r3 er3
    | some p =>
      refine we_mono ((snd a).v X ok.ok fa _ h10 _ _ _ _ _ _ _ _ _ r er q1 m1) fun v1 H1 ⟨F1, e1, r1, v1'⟩ => ?_
      cases v with
      | new u =>
        obtain ⟨ax, rfl, hf, g1, g2, g3⟩ := v1'
        obtain ⟨hn0, w0, hw0, hm0⟩ := g1.none hf
        have hpl : plainR (.new u) = true := by
          cases z : plainR (.new u) with
          | true => rfl
          | false =>
            exfalso
            simp only [putPP, z] at q
            exact q
        have rA : Rel X.K M R1 ((ax, w0) :: P) F1 H1 := ⟨r1.ex, r1.ob, r1.inj, fun q hq => by
          rcases List.mem_cons.mp hq with e | hq
          · subst e
            exact ⟨hw0, hn0, hm0, g2⟩
          · exact r1.pr q hq, by
          rw [List.map_cons, List.nodup_cons]
          refine ⟨fun z => ?_, r1.pd⟩
          obtain ⟨q, hq, e⟩ := List.mem_map.mp z
          exact g3 q hq e⟩
        refine we_mono ((snd b).v X ok.ok fa _ h11 _ _ _ _ _ _ _ _ _ rA (er.mono e1) q2 m2) fun v2 H2 ⟨F2, e2, r2, v2'⟩ => ?_
        refine ⟨.ref ax, v2, rfl, ?_⟩
        simp only [putPP, hpl, if_true] at q
        obtain ⟨σ1, R3, q3, d1⟩ := putP_nx q
        obtain ⟨M', F', a1, e3, r3, er3⟩ := putP_ok q3 r2 ((er.mono e1).mono e2) v2'
        obtain ⟨r4, b1, b2, b3, b4⟩ := r3.back
        have hv : RVR X.K M' R3 P F' H2 (.ref ax) (.new u) := by
          refine ⟨ax, rfl, hf, ?_, b3, b4⟩
          exact g1.at hf hpl (e2.trans e3) b2 fun w1 hw1 => by
            rw [hw0] at hw1
            cases hw1
            exact b1
        obtain ⟨σ2, R4, q4, d3⟩ := putP_nx0 d1
        obtain ⟨M2, F4, a2, e4, r5, er5⟩ := putP_ok q4 r4 er3 hv
        refine d3 M2 F4 _ _ ((a1.mono fun z hz => List.mem_append_right _ hz).trans (a2.mono fun z hz => List.mem_append_left _ hz)) (((e1.trans e2).trans e3).trans e4) r5 ?_
        rw [List.set_comm _ _ (noteq (nobool h3))]
        exact er5
      | val d =>
        exfalso
        simp only [putPP, plainR, if_true] at q
        obtain ⟨σ1, R3, _, d1⟩ := putP_nx q
        exact d1
      | many ds => exact absurd rfl (m1 ds)
  · cases h
theorem VrL.three {K : PySem.W.Frag} {M : Mp} {F : Hp} {d e f : D} {vs : List V} (h : VrL K M F [d, e, f] vs) : ∃ v w u, vs = [v, w, u] ∧ Vr K M F d v ∧ Vr K M F e w ∧ Vr K M F f u := by
  cases h with
  | cons h t =>
    obtain ⟨v, w, rfl, h1, h2⟩ := t.two
    exact ⟨_, _, _, rfl, h, h1, h2⟩
theorem ss_par3 (i j l : Nat) (a b c : C) : SS T cf lf CX k (.par3 i j l a b c) := fun X sts ok fa h σD R M P F σ H D r er q => by
  simp only [chkS] at h
  simp only [ex] at q
  split at h
  · rename_i x px y py z pz kt pt e f g k2 pt2 p
    simp only [Bool.and_eq_true] at h
    obtain ⟨⟨⟨⟨⟨⟨⟨⟨⟨⟨⟨⟨⟨⟨⟨⟨⟨⟨⟨⟨⟨h1, h2⟩, h3⟩, h4⟩, h5⟩, h6⟩, h7⟩, h8⟩, h9⟩, h10⟩, h11⟩, h12⟩, h13⟩, h14⟩, h15⟩, h16⟩, h17⟩, h18⟩, h19⟩, h20⟩, h21⟩, h22⟩ := h
    obtain ⟨v, R1, q1, m1, q⟩ := bvS_ok q
    obtain ⟨w, R2, q2, m2, q⟩ := bvS_ok q
    obtain ⟨u, R3, q3, m3, q⟩ := bvS_ok q
    refine wss_k fun hk => ?_
    refine wss_of (pss_one (ps_par3 ok.ok.calm ok.ok.nd (of_decide_eq_true h1) (of_decide_eq_true h2) (of_decide_eq_true h3) (noteq (nobool h4)) (noteq (nobool h5)) (noteq (nobool h6)) (lcB_of h7) (lcB_of h8) (lcB_of h9) pa_w
      (swap3 hk (lcB_of h7) (lcB_of h8) (lcB_of h9) h10 h11 (nobool h12) (nobool h13) (nobool h14) (nobool h15) (nobool h16) (nobool h17) (nobool h21) (nobool h22)))) ?_
    refine wa_mono (three_go ok.ok fa h18 h19 h20 (nobool h15) (nobool h16) (nobool h17) r er q1 m1 q2 m2 q3 m3) fun vs H1 ⟨F1, e1, r1, v1⟩ => ?_
    obtain ⟨u1, u2, u3, rfl, g1, g2, g3⟩ := v1.three
    exact ⟨u1, u2, u3, rfl, q.nx0 e1 r1 ((((er.mono e1).set g1).set g2).set g3)⟩
  · cases h
end
end EV

/-! EvV: the other statements; all suites together. -/
namespace EV
open PySem PySem.Spec PyProof.Rows L2

section
variable {T : Tb} {cf : Cf} {lf k : Nat} {CX : CXT}
theorem noSwap_ok {es : List Expr} {kt : Nat} {pt : Pos} {e : Expr} {env : Env} (h : noSwap es.length e = true) : swappedStores [.Tuple es kt pt] e env = pure none := by
  cases e with
  | Tuple vs k2 p2 =>
    simp only [noSwap, Bool.or_eq_true] at h
    unfold swappedStores
    dsimp only
    by_cases c1 : (!(es.length == 2 || es.length == 3) || vs.length != es.length || env.blockKind != .function) = true
    · rw [if_pos c1]
    · rw [if_neg c1]
      have h3 : vs.all (foldedForSure 8) = true := by
        rcases h with (h | h) | h
        · exact absurd (by rw [h]; simp) c1
        · exact absurd (by rw [h]; simp) c1
        · exact h
      split
      · rfl
      · split
        · rfl
        · rfl
  | _ => rfl
theorem fm_lt {α β : Type} {f : α → Option β} : ∀ {l : List α}, (∃ x ∈ l, f x = none) → (l.filterMap f).length < l.length
  | [], h => by obtain ⟨x, hx, _⟩ := h; cases hx
  | y :: l, h => by
    obtain ⟨x, hx, e⟩ := h
    have le : (l.filterMap f).length ≤ l.length := List.length_filterMap_le f l
    rcases List.mem_cons.mp hx with rfl | hx
    · rw [List.filterMap_cons, e]
      simp only [List.length_cons]
      omega
    · have := fm_lt (f := f) ⟨x, hx, e⟩
      rw [List.filterMap_cons]
      cases f y with
      | none => simp only [List.length_cons]; omega
      | some z => simp only [List.length_cons]; omega
theorem noLoc_ok {es : List Expr} {kt : Nat} {pt : Pos} {e : Expr} {env : Env} (h : noLoc env.scope es = true) : swappedStores [.Tuple es kt pt] e env = pure none := by
  cases e with
  | Tuple vs k2 p2 =>
    unfold swappedStores
    dsimp only
    split
    · rfl
    · split
      · rfl
      · split
        · rfl
        · rename_i hlen
          exfalso
          apply hlen
          rw [Bool.or_eq_true]
          left
          rw [bne_iff_ne]
          refine Nat.ne_of_lt (fm_lt ?_)
          obtain ⟨x, hx, hl⟩ := List.any_eq_true.mp h
          refine ⟨x, hx, ?_⟩
          cases x with
          | Name y py =>
            dsimp only at hl ⊢
            have k : (env.kindOf y == some .local) = false := by
              cases q : (env.kindOf y == some .local) with
              | false => rfl
              | true =>
                have q' : env.scope.names.lookup y = some .local := beq_iff_eq.mp q
                unfold lcB at hl
                rw [q'] at hl
                cases hl
            rw [k]
            rfl
          | _ => rfl
  | _ => rfl
theorem ss_unp (is : List Nat) (c : C) : SS T cf lf CX k (.unp is c) := fun X sts ok fa h σD R M P F σ H D r er q => by
  simp only [chkS] at h
  simp only [ex] at q
  split at h
  · rename_i es kt pt e p
    simp only [Bool.and_eq_true] at h
    obtain ⟨⟨h1, h2⟩, h3⟩ := h
    obtain ⟨v, R1, q1, m1, q⟩ := bvS_ok q
    split at q
    · rename_i σ1 hs
      obtain ⟨g, pg, ae, kk⟩ := tg_ok ok h1
      refine wss_of (pss_one (ps_asg pe_w pg (by cases e <;> rfl) (by rcases (Bool.or_eq_true _ _).mp h2 with h2 | h2; exact noSwap_ok h2; exact noLoc_ok h2) ae)) ?_
      refine we_mono (((snd c).v X ok.ok fa _ h3).d r er q1 m1) fun v1 H1 ⟨F1, e1, r1, v1'⟩ => ?_
      exact kk _ _ _ _ _ _ _ _ _ _ _ hs v1' r1 (er.mono e1) fun σ1' er1 => q.nx0 e1 r1 er1
    · exact q.elim
  · cases h
theorem iop_ok {X : Cx} {o : Operator} {x y z : D} (h : iop o x y = some z) : ∃ t, PIp X o t ∧ ∀ (M : Mp) (P : Ps) (R : Sto) (F H : Hp) (vx vy : V) (Q : VK), Rel X.K M R P F H → Vr X.K M F x vx → Vr X.K M F y vy → (∀ v, Vr X.K M F z v → Q v H) → t vx vy H Q := by
  unfold iop at h
  split at h
  · cases h
    exact ⟨_, iop_add, fun M P R F H vx vy Q r hx hy kq => by cases hx.int; cases hy.int; exact ⟨_, _, rfl, rfl, kq _ (.inr (.int _))⟩⟩
  · cases h
    exact ⟨_, iop_sub, fun M P R F H vx vy Q r hx hy kq => by cases hx.int; cases hy.int; exact ⟨_, _, rfl, rfl, kq _ (.inr (.int _))⟩⟩
  · split at h
    · rename_i hc
      cases h
      exact ⟨_, iop_mulW, fun M P R F H vx vy Q r hx hy kq => by cases hx.int; cases hy.int; exact ⟨_, _, rfl, rfl, mulOk_ok hc, kq _ (.inr (.int _))⟩⟩
    · cases h
  · split at h
    · rename_i hc
      cases h
      exact ⟨_, iop_fdivE, fun M P R F H vx vy Q r hx hy kq => by cases hx.int; cases hy.int; exact ⟨_, _, rfl, rfl, of_decide_eq_true hc, kq _ (.inr (.int _))⟩⟩
    · cases h
  · split at h
    · rename_i hc
      cases h
      exact ⟨_, iop_add_str, fun M P R F H vx vy Q r hx hy kq => by cases hx.str; cases hy.str; exact ⟨_, _, rfl, rfl, sz_of hc, kq _ (.inr (.str _))⟩⟩
    · cases h
  · cases h
theorem ss_aug (i : Nat) (o : Operator) (c : C) : SS T cf lf CX k (.aug i o c) := fun X sts ok fa h σD R M P F σ H D r er q => by
  simp only [chkS] at h
  simp only [ex] at q
  split at h
  · rename_i x px o' e p
    simp only [Bool.and_eq_true] at h
    obtain ⟨⟨⟨h1, h2⟩, h3⟩, h4⟩ := h
    cases of_decide_eq_true h3
    split at q
    · rename_i dx hx
      obtain ⟨y, R1, q1, m1, q⟩ := bvS_ok q
      split at q
      · rename_i z hz
        obtain ⟨t, pt, kk⟩ := iop_ok (X := X) hz
        obtain ⟨vx, g1, g2⟩ := er.2 i dx hx
        refine wss_of (pss_one (ps_aug ok.ok.nd (of_decide_eq_true h1) (stB_of ok h2) pe_w pt (.inl (ok.fn x)))) ⟨vx, g1, ?_⟩
        refine we_mono (((snd c).v X ok.ok fa _ h4).d r er q1 m1) fun v1 H1 ⟨F1, e1, r1, v1'⟩ => ?_
        exact kk M P R1 F1 H1 vx v1 _ r1 (g2.mono e1) v1' fun v hv => q.nx0 e1 r1 ((er.mono e1).set hv)
      · exact q.elim
    · exact q.elim
  · cases h
theorem appO_ok {X : Cx} {x y : D} {R R' : Sto} {M : Mp} {P : Ps} {F H : Hp} {vx vy : V} (h : appO x y R = some R') (r : Rel X.K M R P F H) (hx : Vr X.K M F x vx) (hy : Den X.K F y vy) :
    ∃ l xs, vx = .ref l ∧ H l = some (.lst xs) ∧ xs.length < sizeLine ∧ Rel X.K M R' P F (upd H l (.lst (xs ++ [vy]))) := by
  unfold appO at h
  split at h
  · rename_i j i
    have hv := hx.ref
    subst hv
    split at h
    · rename_i ds hs
      split at h
      · rename_i hz
        cases h
        obtain ⟨h0, vs, h1, h2⟩ := r.ob j i _ hs
        exact ⟨_, vs, rfl, h1, by rw [h2.length]; exact sz_lt hz, r.put hs rfl rfl ⟨h0, _, upd_same, h2.append (.cons hy .nil)⟩⟩
      · cases h
    · cases h
  · cases h
theorem ss_app (a e : C) : SS T cf lf CX k (.app a e) := fun X sts ok fa h σD R M P F σ H D r er q => by
  simp only [chkS] at h
  simp only [ex] at q
  split at h
  · rename_i x px m ap y cp p
    simp only [Bool.and_eq_true] at h
    obtain ⟨⟨⟨⟨h1, h2⟩, h3⟩, h4⟩, h5⟩ := h
    cases of_decide_eq_true h1
    have st := nobool h3
    obtain ⟨vx, R1, q1, m1, q⟩ := bvS_ok q
    split at q
    · exact q.elim
    · rename_i ds0 hl
      obtain ⟨vy, R2, q2, m2, q⟩ := bvS_ok q
      split at q
      · exact q.elim
      · rename_i y' R3 hb
        split at q
        · rename_i R4 ha
          refine wss_of (pss_one (ps_expr (pe_bm PySem.F.plainAttrs_list PySem.F.slot_list_append PySem.F.type_list_append mt_append pe_w (pa_cons pe_w pa_nil (star_cons st)) rfl (by rw [star_cons st]; rfl) h2 (star_cons st) rfl))) ?_
          refine we_mono (((snd a).v X ok.ok fa _ h4).d r er q1 m1) fun v1 H1 ⟨F1, e1, r1, v1'⟩ => ?_
          obtain ⟨b, xs, rfl, g1, g2⟩ := r1.asL v1' hl
          refine ⟨.inl ⟨rfl, xs, .inl (.inl g1)⟩, ?_⟩
          refine we_mono (((snd e).v X ok.ok fa _ h5).d r1 (er.mono e1) q2 m2) fun v2 H2 ⟨F2, e2, r2, v2'⟩ => ?_
          obtain ⟨G, g3, g4, g5⟩ := r2.byv v2' hb
          obtain ⟨l, us, e3, g6, g7, g8⟩ := appO_ok (X := X) ha g4 ((v1'.mono e2).mono g3) g5
          cases e3
          exact ⟨b, us, v2, rfl, rfl, g6, g7, q.nx0 ((e1.trans e2).trans g3) g8 (((er.mono e1).mono e2).mono g3)⟩
        · exact q.elim
  · cases h
theorem extO_ok {X : Cx} {x : D} {es : List D} {R R' : Sto} {M : Mp} {P : Ps} {F H : Hp} {vx : V} {zs : List V} (h : extO x es R = some R') (r : Rel X.K M R P F H) (hx : Vr X.K M F x vx) (hy : DenL X.K F es zs) :
    ∃ l xs, vx = .ref l ∧ H l = some (.lst xs) ∧ xs.length + zs.length ≤ sizeLine ∧ Rel X.K M R' P F (upd H l (.lst (xs ++ zs))) := by
  unfold extO at h
  split at h
  · rename_i j i
    have hv := hx.ref
    subst hv
    split at h
    · rename_i ds hs
      split at h
      · rename_i hz
        cases h
        obtain ⟨h0, vs, h1, h2⟩ := r.ob j i _ hs
        exact ⟨_, vs, rfl, h1, by rw [h2.length, hy.length]; exact sz_of hz, r.put hs rfl rfl ⟨h0, _, upd_same, h2.append hy⟩⟩
      · cases h
    · cases h
  · cases h
theorem ss_extd (a e : C) : SS T cf lf CX k (.extd a e) := fun X sts ok fa h σD R M P F σ H D r er q => by
  simp only [chkS] at h
  simp only [ex] at q
  split at h
  · rename_i x px m ap y cp p
    simp only [Bool.and_eq_true] at h
    obtain ⟨⟨⟨⟨h1, h2⟩, h3⟩, h4⟩, h5⟩ := h
    cases of_decide_eq_true h1
    have st := nobool h3
    obtain ⟨vx, R1, q1, m1, q⟩ := bvS_ok q
    split at q
    · exact q.elim
    · rename_i ds0 hl
      obtain ⟨vy, R2, q2, m2, q⟩ := bvS_ok q
      split at q
      · exact q.elim
      · rename_i es hes
        split at q
        · rename_i R4 ha
          refine wss_of (pss_one (ps_expr (pe_bm PySem.F.plainAttrs_list PySem.F.slot_list_extend PySem.F.type_list_extend mt_extend pe_w (pa_cons pe_w pa_nil (star_cons st)) rfl (by rw [star_cons st]; rfl) h2 (star_cons st) rfl))) ?_
          refine we_mono (((snd a).v X ok.ok fa _ h4).d r er q1 m1) fun v1 H1 ⟨F1, e1, r1, v1'⟩ => ?_
          obtain ⟨b, xs, rfl, g1, g2⟩ := r1.asL v1' hl
          refine ⟨.inl ⟨rfl, xs, .inl (.inl g1)⟩, ?_⟩
          refine we_mono (((snd e).v X ok.ok fa _ h5).d r1 (er.mono e1) q2 m2) fun v2 H2 ⟨F2, e2, r2, v2'⟩ => ?_
          obtain ⟨b2, zs, rfl, z1, z2⟩ := r2.asL v2' hes
          obtain ⟨l, us, e3, g6, g7, g8⟩ := extO_ok (X := X) ha r2 (v1'.mono e2) z2
          cases e3
          exact ⟨b, b2, us, zs, rfl, rfl, g6, z1, g7, q.nx0 (e1.trans e2) g8 ((er.mono e1).mono e2)⟩
        · exact q.elim
  · cases h
theorem setO_ok {X : Cx} {x i y : D} {R R' : Sto} (h : setO x i y R = some R') :
    (∀ {M : Mp} {P : Ps} {F H : Hp} {vx vi vy : V}, Rel X.K M R P F H → Vr X.K M F x vx → Vr X.K M F i vi → Den X.K F y vy → ∃ p xs n j, vx = .ref p ∧ vi = .int n ∧ H p = some (.lst xs) ∧ L2.ixN xs.length n = some j ∧ Rel X.K M R' P F (upd H p (.lst (xs.set j vy)))) ∨
    (∀ {M : Mp} {P : Ps} {F H : Hp} {vx vi vy : V}, Rel X.K M R P F H → Vr X.K M F x vx → Vr X.K M F i vi → Den X.K F y vy → ∃ p H', vx = .ref p ∧ DPut H p vi vy H' ∧ Rel X.K M R' P F H') := by
  unfold setO at h
  split at h
  · rename_i j l
    split at h
    · rename_i ds hs
      split at h
      · rename_i n
        split at h
        · rename_i m hz
          cases h
          refine .inl fun {M P F H vx vi vy} r hx hi hy => ?_
          have hv := hx.ref
          subst hv
          obtain ⟨h0, vs, h1, h2⟩ := r.ob j l _ hs
          exact ⟨_, vs, n, m, rfl, hi.int, h1, by rw [h2.length]; exact hz, r.put hs rfl rfl ⟨h0, _, upd_same, h2.set hy m⟩⟩
        · cases h
      · cases h
    · rename_i ks ds hs
      split at h
      · rename_i kk hk
        split at h
        · rename_i hz
          cases h
          refine .inr fun {M P F H vx vi vy} r hx hi hy => ?_
          have hv := hx.ref
          subst hv
          obtain ⟨h0, kvs, h1, rfl, h2⟩ := r.ob j l _ hs
          obtain ⟨p1, p2⟩ := putD_ok (kk := kk) hy h2
          rw [keyD_v hk hi]
          exact ⟨_, _, rfl, DPut.k h1 (by rw [List.length_map] at hz; rw [sizeLine_eq]; omega), r.put hs rfl rfl ⟨h0, _, upd_same, p1, p2⟩⟩
        · cases h
      · cases h
    · rename_i ks ds hs
      split at h
      · rename_i es hes
        split at h
        · rename_i kk hk
          split at h
          · rename_i hz
            cases h
            have hi' : i = .tup es := by
              cases i <;> cases hes
              rfl
            subst hi'
            refine .inr fun {M P F H vx vi vy} r hx hi hy => ?_
            have hv := hx.ref
            subst hv
            obtain ⟨h0, kvs, h1, rfl, h2⟩ := r.ob j l _ hs
            obtain ⟨p1, p2⟩ := putD_ok (kk := kk) hy h2
            obtain ⟨b, vs, rfl, g1, g2⟩ := hi.tupF
            have e := keysD_v hk g2
            subst e
            exact ⟨_, _, rfl, DPut.t h1 (r.ex _ _ g1) (by rw [List.length_map] at hz; rw [sizeLine_eq]; omega), r.put hs rfl rfl ⟨h0, _, upd_same, p1, p2⟩⟩
          · cases h
        · cases h
      · cases h
    · cases h
  · cases h
theorem asgSub {y : Expr} (h : isSlice y = false) (o : Expr) (pos : Pos) (env : Env) : ∀ v, assign (.Subscript o y pos) env v = (do
      let ov ← holding [v] (eval o env)
      let iv ← holding [v, ov] (eval y env)
      standAt pos
      holding [v, ov, iv] (setItem ov iv v)
      release [v, ov, iv] []) := by
  intro v
  cases y <;> first | rfl | exact nomatch h
theorem sole_none {e t : Expr} {l : Nat} {env : Env} (h : isComp e = false) : swapsWithSole [t] e l env = pure false := by
  unfold swapsWithSole
  exact sw_none h
theorem ss_sets (a i e : C) : SS T cf lf CX k (.sets a i e) := fun X sts ok fa h σD R M P F σ H D r er q => by
  simp only [chkS] at h
  simp only [ex] at q
  split at h
  · rename_i o y ps v p
    simp only [Bool.and_eq_true] at h
    obtain ⟨⟨⟨⟨h1, h2⟩, h3⟩, h4⟩, h5⟩ := h
    obtain ⟨vy, R1, q1, m1, q⟩ := bvS_ok q
    split at q
    · exact q.elim
    · rename_i y' R2 hb
      obtain ⟨vx, R3, q2, m2, q⟩ := bvS_ok q
      obtain ⟨vn, R4, q3, m3, q⟩ := bvS_ok q
      split at q
      · rename_i R5 hs
        rcases setO_ok (X := X) hs with kk | kk
        · refine wss_of (pss_one (ps_asg pe_w (pg_sub pe_w pe_w set_list (asgSub (nobool h1) _ _ _)) (sole_none (nobool h2)) rfl rfl)) ?_
          refine we_mono (((snd e).v X ok.ok fa _ h5).d r er q1 m1) fun v1 H1 ⟨F1, e1, r1, v1'⟩ => ?_
          obtain ⟨G, g1, g2, g3⟩ := r1.byv v1' hb
          refine we_mono (((snd a).v X ok.ok fa _ h3).d g2 ((er.mono e1).mono g1) q2 m2) fun v2 H2 ⟨F2, e2, r2, v2'⟩ => ?_
          refine we_mono (((snd i).v X ok.ok fa _ h4).d r2 (((er.mono e1).mono g1).mono e2) q3 m3) fun v3 H3 ⟨F3, e3, r3, v3'⟩ => ?_
          obtain ⟨pp, xs, n, j, g4, g5, g6, g7, g8⟩ := kk r3 (v2'.mono e3) v3' ((g3.mono e2).mono e3)
          exact ⟨pp, xs, n, j, g4, g5, g6, g7, q.nx0 (((e1.trans g1).trans e2).trans e3) g8 ((((er.mono e1).mono g1).mono e2).mono e3)⟩
        · refine wss_of (pss_one (ps_asg pe_w (pg_sub pe_w pe_w (set_dict (units1 ok.ok)) (asgSub (nobool h1) _ _ _)) (sole_none (nobool h2)) rfl rfl)) ?_
          refine we_mono (((snd e).v X ok.ok fa _ h5).d r er q1 m1) fun v1 H1 ⟨F1, e1, r1, v1'⟩ => ?_
          obtain ⟨G, g1, g2, g3⟩ := r1.byv v1' hb
          refine we_mono (((snd a).v X ok.ok fa _ h3).d g2 ((er.mono e1).mono g1) q2 m2) fun v2 H2 ⟨F2, e2, r2, v2'⟩ => ?_
          refine we_mono (((snd i).v X ok.ok fa _ h4).d r2 (((er.mono e1).mono g1).mono e2) q3 m3) fun v3 H3 ⟨F3, e3, r3, v3'⟩ => ?_
          obtain ⟨pp, H4, g4, g5, g6⟩ := kk r3 (v2'.mono e3) v3' ((g3.mono e2).mono e3)
          exact ⟨pp, H4, g4, g5, q.nx0 (((e1.trans g1).trans e2).trans e3) g6 ((((er.mono e1).mono g1).mono e2).mono e3)⟩
      · exact q.elim
  · cases h
/-! ### slots stored -/
section
variable {X : Cx} {o e value : Expr} {f : Str} {pos pos' tpos : Pos} {ta tv : TE}
def gSlT (K : PySem.W.Frag) (ta : TE) (f : Str) : TG := fun v σ H Q => ta σ H fun x H2 => ∃ a C dx p vs i, x = .ref a ∧ SlX.Slt H2 a C dx vs ∧ SlX.SCls K C ∧ SlX.Slot1 K C f p i ∧ Q σ (SlX.slH H2 a C dx (SlX.putS i v vs))
theorem pg_sl (ha : PE X o ta) : PG X (.Attribute o f pos) (gSlT X.K ta f) := by
  refine ⟨fun pins s σ H v u Q I r h => ?_⟩
  rw [assign_Attribute]
  refine wpAny_bind (wpAny_holding (thn (ha.run pins s σ H _ I h) fun ov s1 ⟨x, H1, I1, rx, a, C, dx, p, vs, i, ex, hsl, c, t, q⟩ => ?_))
  subst ex
  obtain rfl : ov = Value.ref a := rx
  refine wpAny_bind (wpAny_standAt (wpAny_bind (wpAny_holding ?_)))
  exact SlX.setslot_ok I1 hsl c t r fun s3 I3 => wpAny_release ⟨σ, _, I3, q⟩
def sSlAug (K : PySem.W.Frag) (ta tv : TE) (f : Str) (rd : TIp) : TS := fun D σ H => ta σ H fun x H1 => ∃ a C dx p vs i v, x = .ref a ∧ SlX.Slt H1 a C dx vs ∧ SlX.SCls K C ∧ SlX.Slot1 K C f p i ∧ vs[i]? = some (some v) ∧
  tv σ H1 fun y H2 => rd v y H2 fun z H3 => ∃ C dx p vs i, SlX.Slt H3 a C dx vs ∧ SlX.SCls K C ∧ SlX.Slot1 K C f p i ∧ D.nx σ (SlX.slH H3 a C dx (SlX.putS i z vs))
theorem ps_slAug {op : Operator} {rd : TIp} (ha : PE X o ta) (hv : PE X value tv) (hop : PIp X op rd) : PS X (.AugAssign (.Attribute o f tpos) op value pos) (sSlAug X.K ta tv f rd) := by
  refine ⟨fun pins s σ H D I h => ?_⟩
  refine wpAny_AugAssign_AttributeAny (thn (ha.run pins s σ H _ I h) fun ov s1 ⟨x, H1, I1, rx, a, C, dx, p, vs, i, v, ex, ea, c, t, l, q⟩ => ?_)
  subst ex
  obtain rfl : ov = Value.ref a := rx
  refine SlX.getslot_ok I1 ea c t l fun u s2 I2 ru => thn (hv.run pins s2 σ H1 _ I2 q) fun w3 s3 ⟨y, H2, I3, ry, q3⟩ => thn (hop pins s3 σ H2 v y u w3 _ I3 ru ry q3) fun w4 s4 ⟨z, H3, I4, rz, C', dx', p', vs', i', ea', c', t', q4⟩ => ?_
  exact SlX.setslot_ok I4 ea' c' t' rz fun s5 I5 => ⟨σ, _, I5, q4⟩
end
theorem slot1_one {K : PySem.W.Frag} {C p p' : Addr} {f : Str} {i i' : Nat} (a : SlX.Slot1 K C f p i) (b : SlX.Slot1 K C f p' i') : p' = p ∧ i' = i := by
  have h1 := b.at_.symm.trans a.at_
  cases h1
  have h2 := b.ix.symm.trans a.ix
  cases h2
  exact ⟨rfl, rfl⟩
theorem rep_den {K : PySem.W.Frag} {F : Hp} {f : Nat} {y : D} {v : V} (hy : Den K F y v) : ∀ {ns : List Nat} {ds : List D} {us : List V}, DenL K F ds us → us.length = ns.length →
    ∃ us', DenL K F (repD f y ns ds) us' ∧ us'.length = ns.length ∧ ∀ (j g : Nat) (u : V), ns[j]? = some g → us'[j]? = some u → (g = f ∧ u = v) ∨ (g ≠ f ∧ us[j]? = some u)
  | [], [], [], .nil, _ => ⟨[], .nil, rfl, fun j g u h1 h2 => by simp at h1⟩
  | [], _ :: _, _ :: _, .cons _ _, hl => by simp at hl
  | _ :: _, [], [], .nil, hl => by simp at hl
  | n :: ns, d :: ds, u0 :: us, .cons h t, hl => by
    obtain ⟨us', g1, g2, g3⟩ := rep_den hy t (ns := ns) (by simpa using hl)
    simp only [repD]
    by_cases e : n = f
    · rw [if_pos e]
      refine ⟨v :: us', .cons hy g1, by rw [List.length_cons, List.length_cons, g2], fun j g u h1 h2 => ?_⟩
      cases j with
      | zero =>
        simp only [List.getElem?_cons_zero] at h1 h2
        cases h1
        cases h2
        exact .inl ⟨e, rfl⟩
      | succ j =>
        simp only [List.getElem?_cons_succ] at h1 h2 ⊢
        exact g3 j g u h1 h2
    · rw [if_neg e]
      refine ⟨u0 :: us', .cons h g1, by rw [List.length_cons, List.length_cons, g2], fun j g u h1 h2 => ?_⟩
      cases j with
      | zero =>
        simp only [List.getElem?_cons_zero] at h1 h2
        cases h1
        cases h2
        exact .inr ⟨e, rfl⟩
      | succ j =>
        simp only [List.getElem?_cons_succ] at h1 h2 ⊢
        exact g3 j g u h1 h2
theorem ins_den {K : PySem.W.Frag} {F : Hp} {f : Nat} {y : D} {v : V} (hy : Den K F y v) {ns : List Nat} {ds : List D} {us : List V} (h : DenL K F ds us) (hl : us.length = ns.length) :
    ∃ us', DenL K F (putD ns ds f y).2 us' ∧ us'.length = (putD ns ds f y).1.length ∧ ∀ (j g : Nat) (u : V), (putD ns ds f y).1[j]? = some g → us'[j]? = some u → (g = f ∧ u = v) ∨ (g ≠ f ∧ ns[j]? = some g ∧ us[j]? = some u) := by
  unfold putD
  by_cases e : f ∈ ns
  · rw [if_pos e]
    obtain ⟨us', g1, g2, g3⟩ := rep_den hy h hl
    exact ⟨us', g1, g2, fun j g u h1 h2 => (g3 j g u h1 h2).imp id fun z => ⟨z.1, h1, z.2⟩⟩
  · rw [if_neg e]
    refine ⟨us ++ [v], h.append (.cons hy .nil), by simp [hl], fun j g u h1 h2 => ?_⟩
    by_cases hj : j < ns.length
    · rw [List.getElem?_append_left hj] at h1
      rw [List.getElem?_append_left (by rw [hl]; exact hj)] at h2
      refine .inr ⟨fun z => e ?_, h1, h2⟩
      rw [← z]
      exact List.mem_of_getElem? h1
    · rw [List.getElem?_append_right (by omega)] at h1
      rw [List.getElem?_append_right (by omega), hl] at h2
      cases q : j - ns.length with
      | zero =>
        rw [q] at h1 h2
        simp only [List.getElem?_cons_zero] at h1 h2
        cases h1
        cases h2
        exact .inl ⟨rfl, rfl⟩
      | succ m =>
        rw [q] at h1
        simp at h1
/-- x.f = y, x an instance of the store -/
theorem fstO_ok {X : Cx} (fa : Facts T cf CX k X) {cls : List (Nat × List Nat)} (hc : (cls.all fun p => decide (p ∈ T.sls)) = true) {x y : D} {f : Nat} {R R' : Sto} (h : fstO cls x f y R = some R') {M : Mp} {P : Ps} {F H : Hp} {vx vy : V} (r : Rel X.K M R P F H) (hx : Vr X.K M F x vx) (hy : Den X.K F y vy)
    (nx : ∀ (a C dx : Addr) (vs : List (Option V)), SlX.Slt H a C dx vs → dx ≠ a) :
    ∃ a C dx p vs i, vx = .ref a ∧ SlX.Slt H a C dx vs ∧ SlX.SCls X.K C ∧ SlX.Slot1 X.K C (nmN f) p i ∧ Rel X.K M R' P F (SlX.slH H a C dx (SlX.putS i vy vs)) := by
  unfold fstO at h
  split at h
  · rename_i j l
    have hv := hx.ref
    subst hv
    split at h
    · rename_i c ns ds hs
      split at h
      · rename_i fs hfs
        split at h
        · rename_i hz
          cases h
          simp only [Bool.and_eq_true, List.all_eq_true] at hz
          obtain ⟨hf, hns⟩ := hz
          obtain ⟨h0, C, dx, vs, us, g1, g2, g3, g4⟩ := r.ob j l _ hs
          have hm : (c, fs) ∈ T.sls := by
            have : (c, fs) ∈ cls := by
              clear hc
              revert hfs
              induction cls with
              | nil => intro z; cases z
              | cons p cls ih =>
                intro z
                obtain ⟨c1, f1⟩ := p
                rw [List.lookup_cons] at z
                split at z
                · rename_i e
                  cases z
                  rw [beq_iff_eq.mp e]
                  exact List.mem_cons_self
                · exact List.mem_cons_of_mem _ (ih z)
            exact of_decide_eq_true (List.all_eq_true.mp hc _ this)
          have slot : ∀ g, fs.contains g = true → ∃ i p, fs[i]? = some g ∧ SlX.Slot1 X.K C (nmN g) p i := fun g hg => by
            obtain ⟨i, hi, e⟩ := List.mem_iff_getElem.mp (List.contains_iff_mem.mp hg)
            have e' : fs[i]? = some g := by rw [List.getElem?_eq_getElem hi, e]
            obtain ⟨p, hp⟩ := fa.sl c fs hm C g1 i g e'
            exact ⟨i, p, e', hp⟩
          obtain ⟨i, p, hi, hp⟩ := slot f hf
          have hslt := g2.slo.slt
          obtain ⟨us', u1, u2, u3⟩ := ins_den (f := f) hy g4 g3.1
          refine ⟨_, C, dx, p, vs, i, rfl, hslt, g1.sc, hp, r.slot hs g1 g2 ⟨u2, fun jj g u e1 e2 => ?_⟩ u1 (nx _ _ _ _ hslt)⟩
          rcases u3 jj g u e1 e2 with ⟨rfl, rfl⟩ | ⟨ng, w1, w2⟩
          · exact ⟨p, i, hp, SlX.putS_get _ _ _⟩
          · obtain ⟨p', i', q1, q2⟩ := g3.2 jj g u w1 w2
            obtain ⟨i2, p2, hi2, hp2⟩ := slot g (hns g (List.mem_of_getElem? w1))
            obtain ⟨_, e⟩ := slot1_one hp2 q1
            subst e
            refine ⟨p', _, q1, (SlX.putS_ne fun z => ?_).mpr q2⟩
            rw [z, hi] at hi2
            exact ng (Option.some.inj hi2).symm
        · cases h
      · cases h
    · cases h
  · cases h
theorem ss_fset (a : C) (f : Nat) (cls : List (Nat × List Nat)) (e : C) : SS T cf lf CX k (.fset a f cls e) := fun X sts ok fa h σD R M P F σ H D r er q => by
  simp only [chkS] at h
  simp only [ex] at q
  split at h
  · rename_i o m pa v p
    simp only [Bool.and_eq_true] at h
    obtain ⟨⟨⟨⟨h1, h2⟩, h3⟩, h4⟩, h5⟩ := h
    cases of_decide_eq_true h1
    obtain ⟨vy, R1, q1, m1, q⟩ := bvS_ok q
    split at q
    · exact q.elim
    · rename_i y' R2 hb
      obtain ⟨vx, R3, q2, m2, q⟩ := bvS_ok q
      split at q
      · rename_i R4 hs
        refine wss_of (pss_one (SlX.ps_sl pe_w pe_w (sw_none (nobool h3)))) ?_
        refine we_mono (((snd e).v X ok.ok fa _ h5).d r er q1 m1) fun v1 H1 ⟨F1, e1, r1, v1'⟩ => ?_
        obtain ⟨G, g1, g2, g3⟩ := r1.byv v1' hb
        have W := ((snd a).v X ok.ok fa _ h4).d g2 ((er.mono e1).mono g1) q2 m2
        intro pins s I
        refine thn (W pins s I) fun u s' ⟨vx', H2, I2, ru, F2, e2, r2, v2'⟩ => ?_
        obtain ⟨b, C, dx, p', vs, i, z1, z2, z3, z4, z5⟩ := fstO_ok fa h2 hs r2 v2' (g3.mono e2) fun a C dx vs hsl => (SlX.slt_at I2 hsl).1
        exact ⟨vx', H2, I2, ru, b, C, dx, p', vs, i, z1, z2, z3, z4, q.nx0 ((e1.trans g1).trans e2) z5 (((er.mono e1).mono g1).mono e2)⟩
      · exact q.elim
  · cases h
theorem iop_plain {o : Operator} {x y z : D} {K : PySem.W.Frag} {M : Mp} {F : Hp} {v : V} (h : iop o x y = some z) (hv : Vr K M F z v) : Den K F z v := by
  rcases hv with ⟨j, i, rfl, _⟩ | hv
  · exfalso
    unfold iop at h
    repeat' split at h
    all_goals cases h
  · exact hv
theorem ss_faug (a : C) (f : Nat) (cls : List (Nat × List Nat)) (o : Operator) (e : C) : SS T cf lf CX k (.faug a f cls o e) := fun X sts ok fa h σD R M P F σ H D r er q => by
  simp only [chkS] at h
  simp only [ex] at q
  split at h
  · rename_i ob m pa op' v p
    simp only [Bool.and_eq_true] at h
    obtain ⟨⟨⟨⟨h1, h2⟩, h3⟩, h4⟩, h5⟩ := h
    cases of_decide_eq_true h1
    cases of_decide_eq_true h2
    obtain ⟨vx, R1, q1, m1, q⟩ := bvS_ok q
    split at q
    · exact q.elim
    · rename_i old hold
      obtain ⟨vy, R2, q2, m2, q⟩ := bvS_ok q
      split at q
      · exact q.elim
      · rename_i z hz
        split at q
        · rename_i R3 hs
          obtain ⟨t, pt, kk⟩ := iop_ok (X := X) hz
          refine wss_of (pss_one (ps_slAug pe_w pe_w pt)) ?_
          refine we_mono (((snd a).v X ok.ok fa _ h4).d r er q1 m1) fun v1 H1 ⟨F1, e1, r1, v1'⟩ => ?_
          obtain ⟨b, C, dx, vs, p', i, u, rfl, g1, g2, g3, g4, g5⟩ := fldD_ok r1 v1' hold
          refine ⟨b, C, dx, p', vs, i, u, rfl, g1, g2, g3, g4, ?_⟩
          have W := ((snd e).v X ok.ok fa _ h5).d r1 (er.mono e1) q2 m2
          intro pins s I
          refine thn (W pins s I) fun w s' ⟨vy', H2, I2, rw', F2, e2, r2, v2'⟩ => ⟨vy', H2, I2, rw', ?_⟩
          refine kk M P R2 F2 H2 u vy' _ r2 (.inr (g5.mono e2)) v2' fun vz hvz => ?_
          obtain ⟨b2, C2, dx2, p2, vs2, i2, z1, z2, z3, z4, z5⟩ := fstO_ok fa h3 hs r2 (v1'.mono e2) (iop_plain hz hvz) fun a C dx vs hsl => (SlX.slt_at I2 hsl).1
          cases z1
          exact ⟨C2, dx2, p2, vs2, i2, z2, z3, z4, q.nx0 (e1.trans e2) z5 ((er.mono e1).mono e2)⟩
        · exact q.elim
  · cases h
theorem noSwap2 {es : List Expr} {kt : Nat} {pt : Pos} {e : Expr} {env : Env} (hl : es.length = 2) (h : noSwap 2 e = true) : swappedStores [.Tuple es kt pt] e env = pure none := noSwap_ok (by rw [hl]; exact h)
theorem ss_fset2 (a : C) (f : Nat) (b : C) (g : Nat) (cls : List (Nat × List Nat)) (e : C) : SS T cf lf CX k (.fset2 a f b g cls e) := fun X sts ok fa h σD R M P F σ H D r er q => by
  simp only [chkS] at h
  simp only [ex] at q
  split at h
  · rename_i o m pa q' l pb kt pt v p
    simp only [Bool.and_eq_true] at h
    obtain ⟨⟨⟨⟨⟨⟨h1, h2⟩, h3⟩, h4⟩, h5⟩, h6⟩, h7⟩ := h
    cases of_decide_eq_true h1
    cases of_decide_eq_true h2
    obtain ⟨vv, R1, q1, m1, q⟩ := bvS_ok q
    split at q
    · rename_i d1 d2 hd
      obtain ⟨vx, R2, q2, m2, q⟩ := bvS_ok q
      split at q
      · exact q.elim
      · rename_i R3 hs1
        obtain ⟨vy, R4, q3, m3, q⟩ := bvS_ok q
        split at q
        · rename_i R5 hs2
          have pg := pg_tup (pos := pt) (k := kt) ok.ok.calm (pgs_cons (pg_sl (X := X) (o := o) (f := nmN f) (pos := pa) pe_w) (pgs_cons (pg_sl (X := X) (o := q') (f := nmN g) (pos := pb) pe_w) pgs_nil))
          refine wss_of (pss_one (ps_asg pe_w pg (by cases v <;> rfl) (noSwap2 rfl h4) rfl)) ?_
          refine we_mono (((snd e).v X ok.ok fa _ h7).d r er q1 m1) fun v1 H1 ⟨F1, e1, r1, v1'⟩ => ?_
          rw [hd] at v1'
          obtain ⟨b0, vs0, rfl, t1, t2⟩ := v1'.tup
          cases t2 with
          | cons t2 t3 =>
            cases t3 with
            | cons t3 t4 =>
              cases t4
              refine ⟨b0, _, rfl, r1.ex.sqT t1, rfl, _, _, rfl, ?_⟩
              have W := ((snd a).v X ok.ok fa _ h5).d r1 (er.mono e1) q2 m2
              intro pins s I
              refine thn (W pins s I) fun u s' ⟨vx', H2, I2, ru, F2, e2, r2, v2'⟩ => ⟨vx', H2, I2, ru, ?_⟩
              obtain ⟨b1, C, dx, p', vs, i, z1, z2, z3, z4, z5⟩ := fstO_ok fa h3 hs1 r2 v2' (t2.mono e2) fun a C dx vs hsl => (SlX.slt_at I2 hsl).1
              refine ⟨b1, C, dx, p', vs, i, z1, z2, z3, z4, _, _, rfl, ?_⟩
              have W2 := ((snd b).v X ok.ok fa _ h6).d z5 ((er.mono e1).mono e2) q3 m3
              intro pins2 s2 I3
              refine thn (W2 pins2 s2 I3) fun u2 s3 ⟨vy', H4, I4, ru2, F3, e3, r3, v3'⟩ => ⟨vy', H4, I4, ru2, ?_⟩
              obtain ⟨b2, C2, dx2, p2, vs2, i2, y1, y2, y3, y4, y5⟩ := fstO_ok fa h3 hs2 r3 v3' ((t3.mono e2).mono e3) fun a C dx vs hsl => (SlX.slt_at I4 hsl).1
              exact ⟨b2, C2, dx2, p2, vs2, i2, y1, y2, y3, y4, rfl, q.nx0 ((e1.trans e2).trans e3) y5 (((er.mono e1).mono e2).mono e3)⟩
        · exact q.elim
    · exact q.elim
  · cases h
theorem ss_if {a b : S} (c : C) (ha : SS T cf lf CX k a) (hb : SS T cf lf CX k b) : SS T cf lf CX k (.ifS c a b) := fun X sts ok fa h σD R M P F σ H D r er q => by
  simp only [chkS] at h
  simp only [ex] at q
  split at h
  · rename_i e x y p
    simp only [Bool.and_eq_true] at h
    obtain ⟨⟨h1, h2⟩, h3⟩ := h
    obtain ⟨v, R1, q1, m1, q⟩ := bvS_ok q
    refine wss_of (pss_one (ps_if pt_w pss_w pss_w)) ?_
    split at q
    · rename_i ht
      refine wt_mono ((snd c).t X ok.ok fa e h1 σD R R1 M P F σ H v true r er q1 m1 ht) fun b H1 ⟨eb, F1, e1, r1⟩ => ?_
      subst eb
      rw [if_pos rfl]
      exact ha X x ok fa h2 σD R1 M P F1 σ H1 D r1 (er.mono e1) (q.mono (fun z hz => List.mem_append_left _ hz) (.refl _ M) e1)
    · rename_i ht
      refine wt_mono ((snd c).t X ok.ok fa e h1 σD R R1 M P F σ H v false r er q1 m1 ht) fun b H1 ⟨eb, F1, e1, r1⟩ => ?_
      subst eb
      rw [if_neg Bool.false_ne_true]
      exact hb X y ok fa h3 σD R1 M P F1 σ H1 D r1 (er.mono e1) (q.mono (fun z hz => List.mem_append_right _ hz) (.refl _ M) e1)
    · exact q.elim
  · cases h
theorem execs_one (st : Stmt) (env : Env) : execs [st] env = exec st env := by
  have e : execs [st] env = exec st env >>= fun f => (pure f : Sem Flow) := by
    show (exec st env >>= fun f => match f with | .next => execs [] env | f => pure f) = _
    congr 1
    funext f
    cases f <;> rfl
  rw [e]
  exact PySem.Sem.bind_pure _
theorem ss_seq {a b : S} (ha : SS T cf lf CX k a) (hb : SS T cf lf CX k b) : SS T cf lf CX k (.seq a b) := fun X sts ok fa h σD R M P F σ H D r er q => by
  simp only [chkS] at h
  simp only [ex] at q
  split at h
  · rename_i st rest
    simp only [Bool.and_eq_true] at h
    -- what stands behind the first statement
    have key : DS X a.places M P F { D with nx := fun σ H => WSs X rest D σ H } (ex cf lf a σD R) := by
      cases hr : ex cf lf a σD R with
      | nx σ1 R1 =>
        rw [hr] at q
        exact fun M' F' σ' H' ag e1 r1 er1 => hb X rest ok fa h.2 σ1 R1 M' P F' σ' H' D r1 er1 (q.mono (fun z hz => List.mem_append_right _ hz) (ag.mono fun z hz => List.mem_append_left _ hz) e1)
      | bk σ1 R1 =>
        rw [hr] at q
        exact fun M' F' σ' H' ag e1 r1 er1 => q M' F' σ' H' (ag.mono fun z hz => List.mem_append_left _ hz) e1 r1 er1
      | ct σ1 R1 =>
        rw [hr] at q
        exact fun M' F' σ' H' ag e1 r1 er1 => q M' F' σ' H' (ag.mono fun z hz => List.mem_append_left _ hz) e1 r1 er1
      | rt v R1 =>
        rw [hr] at q
        exact fun M' F' v H' ag e1 r1 er1 => q M' F' v H' (ag.mono fun z hz => List.mem_append_left _ hz) e1 r1 er1
      | bad =>
        rw [hr] at q
        exact q
    have W := ha X [st] ok fa h.1 σD R M P F σ H _ r er key
    refine fun pins s I => ?_
    have p1 : PS X st (fun D σ H => WSs X [st] D σ H) := ⟨fun pins s σ H D I h => by
      have z := h pins s I
      rw [execs_one] at z
      exact z⟩
    exact (pss_cons p1 pss_w).run pins s σ H D I W
  · cases h
end
end EV

/-! EvW: loops; all suites together. -/
namespace EV
open PySem PySem.Spec PyProof.Rows L2

section
variable {T : Tb} {cf : Cf} {lf k : Nat} {CX : CXT}
/-- one turn's end, told to a loop -/
theorem loop_body {X : Cx} {L : List Nat} {M : Mp} {P : Ps} {F : Hp} {D : Ends} {r : Res} {g : En → Sto → Res} {N : L2.St → Hp → Prop}
    (q : DS X L M P F D (match r with
      | .nx σ2 R2 => g σ2 R2
      | .ct σ2 R2 => g σ2 R2
      | .bk σ2 R2 => .nx σ2 R2
      | .rt v R2 => .rt v R2
      | .bad => .bad))
    (kq : ∀ σ2 R2 M' F' σ' H', Agr L M M' → Ex F F' → Rel X.K M' R2 P F' H' → ER X.K M' F' σ2 σ' → DS X L M P F D (g σ2 R2) → N σ' H') : DS X L M P F { D with nx := N, ct := N, bk := D.nx } r := by
  cases r with
  | nx σ2 R2 => exact fun M' F' σ' H' a e r er => kq σ2 R2 M' F' σ' H' a e r er q
  | ct σ2 R2 => exact fun M' F' σ' H' a e r er => kq σ2 R2 M' F' σ' H' a e r er q
  | bk σ2 R2 => exact q
  | rt v R2 => exact q
  | bad => exact q
theorem ss_whl {b : S} (c : C) (hb : SS T cf lf CX k b) : SS T cf lf CX k (.whl c b) := fun X sts ok fa h σD R M P F σ H D r er q => by
  simp only [chkS] at h
  simp only [ex] at q
  split at h
  · rename_i e x p
    rw [Bool.and_eq_true] at h
    refine wss_of (pss_one (ps_while ok.ok.own pt_w pss_w)) ?_
    refine ⟨fun m σ' H' => ∃ σ2 R2 M' F', Agr b.places M M' ∧ Ex F F' ∧ Rel X.K M' R2 P F' H' ∧ ER X.K M' F' σ2 σ' ∧ DS X b.places M' P F' D (whR (ev cf lf c) (ex cf lf b) m σ2 R2), ⟨lf, σD, R, M, F, .refl _ M, .refl F, r, er, q⟩, ?_⟩
    rintro m σ1 H1 ⟨σ2, R2, M1, F1, a1, e1, r1, er1, q1⟩
    cases m with
    | zero => exact q1.elim
    | succ n =>
      unfold whR at q1
      obtain ⟨v, R3, c1, m1, q1⟩ := bvS_ok q1
      cases ht : truth R3 (fz v) with
      | none => rw [ht] at q1; exact q1.elim
      | some t =>
        rw [ht] at q1
        refine wt_mono ((snd c).t X ok.ok fa e h.1 σ2 R2 R3 M1 P F1 σ1 H1 v t r1 er1 c1 m1 ht) fun b' H2 ⟨eb, F2, e2, r2⟩ => ?_
        subst eb
        cases b' with
        | false =>
          rw [if_neg Bool.false_ne_true]
          exact q1.nx0 e2 r2 (er1.mono e2)
        | true =>
          rw [if_pos rfl]
          refine ⟨fun σ' H' => ∃ σ2 R2 M' F', Agr b.places M M' ∧ Ex F F' ∧ Rel X.K M' R2 P F' H' ∧ ER X.K M' F' σ2 σ' ∧ DS X b.places M' P F' D (whR (ev cf lf c) (ex cf lf b) n σ2 R2), fun σ' H' w => ⟨n, Nat.lt_succ_self n, w⟩, ?_⟩
          refine hb X x ok fa h.2 σ2 R3 M1 P F2 σ1 H2 _ r2 (er1.mono e2) (loop_body (g := fun σ R => whR (ev cf lf c) (ex cf lf b) n σ R) (q1.mono (fun z hz => hz) (.refl _ M1) e2) ?_)
          intro σ3 R4 M3 F3 σ' H' a3 e3 r3 er3 q3
          exact ⟨σ3, R4, M3, F3, a1.trans a3, (e1.trans e2).trans e3, r3, er3, q3.mono (fun z hz => hz) a3 e3⟩
  · cases h
theorem okLive_vr {K : PySem.W.Frag} {L : List Nat} {M M' : Mp} {F F' : Hp} {x : D} {v : V} (h : okLive L x = true) (hv : Vr K M F x v) (a : Agr L M M') (e : Ex F F') : Vr K M' F' x v := by
  have key : ∀ {j i : Nat}, x = .ref j i → (j = 0 → i ∉ L) → Vr K M' F' x v := fun {j i} hx hn => by
    subst hx
    have := hv.ref
    subst this
    exact .inl ⟨j, i, rfl, by rw [a j i hn]⟩
  unfold okLive at h
  split at h
  · rename_i i
    refine key rfl fun _ hm => ?_
    have := nobool h
    rw [List.contains_iff_mem.mpr hm] at this
    cases this
  · rename_i j i hj
    exact key rfl fun z => absurd z hj
  · cases h
theorem ss_for {b : S} (is : List Nat) (it : C) (hb : SS T cf lf CX k b) : SS T cf lf CX k (.forS is it b) := fun X sts ok fa h σD R M P F σ H D r er q => by
  simp only [chkS] at h
  simp only [ex] at q
  split at h
  · rename_i tg e x p
    simp only [Bool.and_eq_true] at h
    obtain ⟨⟨⟨⟨h1, h0⟩, h2⟩, h3⟩, h4⟩ := h
    obtain ⟨g, pg, _, kk⟩ := tg_ok ok h1
    refine wss_of (pss_one (ps_for ok.ok.own ok.ok.calm pi_w pg pss_w (notSet_of (nobool h3)))) ?_
    split at q
    · rename_i xv R1 q1
      cases hj : itOf (ik it) R1 xv with
      | none => rw [hj] at q; exact q.elim
      | some j =>
        rw [hj] at q
        refine sit it X e ok.ok fa h2 σD R R1 M P F σ H xv j r er q1 hj tg _ h0 fun J H1 F1 e1 r1 hJ => ?_
        cases j with
        | vals ds =>
          refine ⟨fun i m σ' H' => m = ds.length - i ∧ i ≤ ds.length ∧ ∃ σ2 R2 M' F', Agr b.places M M' ∧ Ex F1 F' ∧ Rel X.K M' R2 P F' H' ∧ ER X.K M' F' σ2 σ' ∧ DS X b.places M' P F' D (forV (setTg is) (ex cf lf b) (ds.drop i) σ2 R2),
            ⟨ds.length, rfl, Nat.zero_le _, σD, R1, M, F1, .refl _ M, .refl F1, r1, er.mono e1, q.mono (fun z hz => hz) (.refl _ M) e1⟩, ?_⟩
          rintro i m σ1 H2 ⟨rfl, hi, σ2, R2, M2, F2, a2, e2, r2, er2, q2⟩
          have hF : Ex F1 H2 := e2.trans r2.ex
          by_cases hlt : i < ds.length
          · have hd : ds.drop i = ds[i] :: ds.drop (i + 1) := List.drop_eq_getElem_cons hlt
            rw [hd] at q2
            unfold forV at q2
            have go := (hJ H2 hF).1 i ds[i] (List.getElem?_eq_getElem hlt)
            refine .inr ⟨go.1, fun σ' H' => ∃ σ2 R2 M' F', Agr b.places M M' ∧ Ex F1 F' ∧ Rel X.K M' R2 P F' H' ∧ ER X.K M' F' σ2 σ' ∧ DS X b.places M' P F' D (forV (setTg is) (ex cf lf b) (ds.drop (i + 1)) σ2 R2), fun σ' H' w => ⟨ds.length - (i + 1), by omega, rfl, hlt, w⟩, fun v H' y => ?_⟩
            obtain ⟨Fj, ej, rj, g2⟩ := go.2 v H' y M2 R2 P F2 e2 r2
            cases hs : setTg is ds[i] σ2 with
            | none => rw [hs] at q2; exact q2.elim
            | some σ3 =>
              rw [hs] at q2
              refine kk ds[i] v R2 σ2 σ3 M2 P Fj σ1 H' _ hs (.inr g2) rj (er2.mono ej) fun σ4 er4 => ?_
              refine hb X x ok fa h4 σ3 R2 M2 P Fj σ4 H' _ rj er4 (loop_body (g := fun σ R => forV (setTg is) (ex cf lf b) (ds.drop (i + 1)) σ R) (q2.mono (fun z hz => hz) (.refl _ M2) ej) ?_)
              intro σ5 R5 M5 F5 σ' H5 a5 e5 r5 er5 q5
              exact ⟨σ5, R5, M5, F5, a2.trans a5, (e2.trans ej).trans e5, r5, er5, q5.mono (fun z hz => hz) a5 e5⟩
          · have e : i = ds.length := by omega
            subst e
            rw [List.drop_length] at q2
            unfold forV at q2
            exact .inl ⟨(hJ H2 hF).2, q2.nx0 (.refl F2) r2 er2⟩
        | live y =>
          obtain ⟨a, hv, rfl⟩ := hJ
          unfold forI at q
          dsimp only at q
          split at q
          · rename_i hl
            refine ⟨fun i m σ' H' => ∃ σ2 R2 M' F', Agr b.places M M' ∧ Ex F1 F' ∧ Rel X.K M' R2 P F' H' ∧ ER X.K M' F' σ2 σ' ∧ DS X b.places M' P F' D (forR (setTg is) (ex cf lf b) y m i σ2 R2),
              ⟨lf, σD, R1, M, F1, .refl _ M, .refl F1, r1, er.mono e1, q.mono (fun z hz => hz) (.refl _ M) e1⟩, ?_⟩
            rintro i m σ1 H2 ⟨σ2, R2, M2, F2, a2, e2, r2, er2, q2⟩
            cases m with
            | zero => exact q2.elim
            | succ m =>
              unfold forR at q2
              cases hds : asL R2 y with
              | none => rw [hds] at q2; exact q2.elim
              | some ds =>
                rw [hds] at q2
                dsimp only at q2
                obtain ⟨a', vs, z1, z2, z3⟩ := r2.asL (okLive_vr hl hv a2 e2) hds
                cases z1
                cases hi : ds[i]? with
                | none =>
                  rw [hi] at q2
                  refine .inl ⟨⟨vs, .inl (.inl z2), ?_⟩, q2.nx0 (.refl F2) r2 er2⟩
                  rw [z3.length]
                  exact List.getElem?_eq_none_iff.mp hi
                | some d =>
                  rw [hi] at q2
                  dsimp only at q2
                  obtain ⟨v', g1, g2⟩ := z3.get hi
                  refine .inr ⟨⟨vs, v', .inl (.inl z2), g1⟩, fun σ' H' => ∃ σ2 R2 M' F', Agr b.places M M' ∧ Ex F1 F' ∧ Rel X.K M' R2 P F' H' ∧ ER X.K M' F' σ2 σ' ∧ DS X b.places M' P F' D (forR (setTg is) (ex cf lf b) y m (i + 1) σ2 R2), fun σ' H' w => ⟨m, Nat.lt_succ_self m, w⟩, fun v H' yy => ?_⟩
                  obtain ⟨y1, y2⟩ := yy
                  subst y1
                  have y2 := y2 vs (.inl (.inl z2))
                  obtain rfl : v = v' := by
                    rw [y2] at g1
                    exact Option.some.inj g1
                  cases hs : setTg is d σ2 with
                  | none => rw [hs] at q2; exact q2.elim
                  | some σ3 =>
                    rw [hs] at q2
                    refine kk d v R2 σ2 σ3 M2 P F2 σ1 H' _ hs (.inr g2) r2 er2 fun σ4 er4 => ?_
                    refine hb X x ok fa h4 σ3 R2 M2 P F2 σ4 H' _ r2 er4 (loop_body (g := fun σ R => forR (setTg is) (ex cf lf b) y m (i + 1) σ R) q2 ?_)
                    intro σ5 R5 M5 F5 σ' H5 a5 e5 r5 er5 q5
                    exact ⟨σ5, R5, M5, F5, a2.trans a5, e2.trans e5, r5, er5, q5.mono (fun z hz => hz) a5 e5⟩
          · exact q.elim
    · exact q.elim
  · cases h
theorem ss : ∀ s : S, SS T cf lf CX k s
  | .nop => ss_nop
  | .never => ss_never
  | .asg i c => ss_asg i c
  | .asgN i p c => ss_asgN i p c
  | .par2 i j pi pj a b => ss_par2 i j pi pj a b
  | .par3 i j l a b c => ss_par3 i j l a b c
  | .unp is c => ss_unp is c
  | .aug i o c => ss_aug i o c
  | .app a e => ss_app a e
  | .extd a e => ss_extd a e
  | .sets a i e => ss_sets a i e
  | .fset a f cls e => ss_fset a f cls e
  | .faug a f cls o e => ss_faug a f cls o e
  | .fset2 a f b g cls e => ss_fset2 a f b g cls e
  | .expr c => ss_expr c
  | .ret c => ss_ret c
  | .retN => ss_retN
  | .ifS c a b => ss_if c (ss a) (ss b)
  | .whl c b => ss_whl c (ss b)
  | .forS is it b => ss_for is it (ss b)
  | .brk => ss_brk
  | .cnt => ss_cnt
  | .seq a b => ss_seq (ss a) (ss b)
end
end EV

/-! EvX: defs: what a table of defs computes, and that the text's defs do so. -/
namespace EV
open PySem PySem.Spec PyProof.Rows L2

structure Fn where
  np : Nat
  nv : Nat
  pl : Nat
  code : S
/-- what a def's end hands to its caller -/
def retv (own : List O) (R : Sto) : Rv → Out Rv
  | .val (.ref 0 p) => match own[p]? with
    | some (.lst ds) => .ok (.new (.lst ds)) R
    | some (.dct ks ds) => .ok (.new (.dct ks ds)) R
    | some (.dcT ks ds) => .ok (.new (.dcT ks ds)) R
    | some (.ins c ns ds) => .ok (.new (.ins c ns ds)) R
    | some (.frz d) => .ok (.val d) R
    | _ => .bad
  | .val (.ref (j + 1) i) => .ok (.val (.ref j i)) R
  | .val d => .ok (.val d) R
  | .new o => .ok (.new o) R
  | .many _ => .bad
def finR : Res → Out Rv
  | .nx _ (_ :: R) => .ok (.val .non) R
  | .rt rv (own :: R) => retv own R rv
  | _ => .bad
def startD (n : Nat) (as : List D) : En := as.map (fun a => some (up a)) ++ List.replicate (n - as.length) none
/-- the defs; class, method, def; class, property, def -/
structure Tab where
  fns : List Fn
  mts : List (Nat × Nat × Nat) := []
  prs : List (Nat × Nat × Nat) := []
def pick : List (Nat × Nat × Nat) → Nat → Nat → Option Nat
  | [], _, _ => none
  | p :: r, c, m => if p.1 = c ∧ p.2.1 = m then some p.2.2 else pick r c m
theorem pick_mem {c m g : Nat} : ∀ {l : List (Nat × Nat × Nat)}, pick l c m = some g → (c, m, g) ∈ l
  | [], h => by cases h
  | p :: r, h => by
    unfold pick at h
    split at h
    · rename_i e
      cases h
      obtain ⟨rfl, rfl⟩ := e
      exact List.mem_cons_self
    · exact List.mem_cons_of_mem _ (pick_mem h)
/-- the def that a call reaches -/
def disp (Fs : Tab) (f : Nat) (as : List D) (R : Sto) : Option Nat := if f < 131072 then some f else match as with
  | d :: _ => match clsD R d with
    | some c => if f % 2 = 0 then pick Fs.mts c (f / 2) else pick Fs.prs c (f / 2)
    | none => none
  | [] => none
def run (Fs : Tab) (lf : Nat) : Nat → Cf
  | 0 => fun _ _ _ => .bad
  | n + 1 => fun f as R => match disp Fs f as R with
    | some g => match Fs.fns[g]? with
      | some d => if as.length = d.np then finR (ex (run Fs lf n) lf d.code (startD d.nv as) (List.replicate d.pl .dead :: R)) else .bad
      | none => .bad
    | none => .bad
theorem run_disp {Fs : Tab} {lf : Nat} (hl : Fs.fns.length ≤ 131072) {n f : Nat} {as : List D} {R R' : Sto} {rv : Rv} (h : run Fs lf n f as R = .ok rv R') : ∃ g, disp Fs f as R = some g ∧ run Fs lf n g as R = .ok rv R' := by
  cases n with
  | zero => cases h
  | succ n =>
    unfold run at h
    cases q : disp Fs f as R with
    | none => rw [q] at h; cases h
    | some g =>
      rw [q] at h
      refine ⟨g, rfl, ?_⟩
      dsimp only at h
      cases q2 : Fs.fns[g]? with
      | none => rw [q2] at h; cases h
      | some d =>
        have hg : g < 131072 := Nat.lt_of_lt_of_le (List.getElem?_eq_some_iff.mp q2).1 hl
        have e : disp Fs g as R = some g := if_pos hg
        unfold run
        rw [e]
        exact h

section
variable {K : PySem.W.Frag} {M M' : Mp} {R : Sto} {P : Ps} {F H : Hp} {own : List O}
def pushM (M : Mp) : Mp := fun j i => match j with
  | 0 => 0
  | j + 1 => M j i
theorem sget_cons (own : List O) (R : Sto) (j i : Nat) : sget (own :: R) (j + 1) i = sget R j i := rfl
theorem sget_own (own : List O) (R : Sto) (i : Nat) : sget (own :: R) 0 i = own[i]? := rfl
theorem live_cons {own : List O} {R : Sto} {j i : Nat} : live (own :: R) (j + 1) i ↔ live R j i := Iff.rfl
theorem not_live0 {n : Nat} {R : Sto} {i : Nat} : ¬ live (List.replicate n .dead :: R) 0 i := fun ⟨o, h1, h2⟩ => by
  rw [sget_own, List.getElem?_replicate] at h1
  split at h1
  · cases h1; cases h2
  · cases h1
theorem Rel.push (r : Rel K M R P F H) (n : Nat) : Rel K (pushM M) (List.replicate n .dead :: R) P F H := by
  refine ⟨r.ex, fun j i o e => ?_, fun j1 i1 j2 i2 l1 l2 e => ?_, fun q hq => ?_, r.pd⟩
  · cases j with
    | zero =>
      rw [sget_own, List.getElem?_replicate] at e
      split at e
      · cases e; trivial
      · cases e
    | succ j => exact r.ob j i o e
  · cases j1 with
    | zero => exact absurd l1 not_live0
    | succ j1 =>
      cases j2 with
      | zero => exact absurd l2 not_live0
      | succ j2 =>
        obtain ⟨h1, h2⟩ := r.inj j1 i1 j2 i2 l1 l2 e
        exact ⟨by rw [h1], h2⟩
  · obtain ⟨h1, h2, hm, h3⟩ := r.pr q hq
    refine ⟨h1, h2, hm, fun j i l => ?_⟩
    cases j with
    | zero => exact absurd l not_live0
    | succ j => exact h3 j i l
theorem Vr.up {d : D} {v : V} (h : Vr K M F d v) : Vr K (pushM M) F (EV.up d) v := by
  have t := VrL.up (M' := pushM M) (fun _ _ => rfl) (.cons h .nil)
  cases t with
  | cons t _ => exact t
theorem VrL.get : ∀ {ds : List D} {vs : List V} {i : Nat} {d : D}, VrL K M F ds vs → ds[i]? = some d → ∃ v, vs[i]? = some v ∧ Vr K M F d v
  | _, _, _, _, .nil, e => by simp at e
  | _, _, 0, _, .cons h _, e => by simp at e; subst e; exact ⟨_, rfl, h⟩
  | _, _, i + 1, d, .cons _ t, e => by
    obtain ⟨v, h1, h2⟩ := VrL.get (i := i) (d := d) t (by simpa using e)
    exact ⟨v, by simpa using h1, h2⟩
theorem ER.start {N : List Str} {ds : List D} {vs : List V} {nv : Nat} (h : VrL K M F ds vs) (hn : N.length = nv) : ER K (pushM M) F (startD nv ds) (L2.start N vs) := by
  have hl := h.length
  refine ⟨?_, fun i d q => ?_⟩
  · unfold startD L2.start
    rw [List.length_append, List.length_append, List.length_map, List.length_map, List.length_replicate, List.length_replicate, hl, hn]
  · unfold startD at q
    unfold L2.start
    by_cases hi : i < ds.length
    · rw [List.getElem?_append_left (by rw [List.length_map]; exact hi), List.getElem?_map] at q
      cases e : ds[i]? with
      | none => rw [e] at q; cases q
      | some d0 =>
        rw [e] at q
        cases q
        obtain ⟨v, h1, h2⟩ := h.get e
        refine ⟨v, ?_, h2.up⟩
        rw [List.getElem?_append_left (by rw [List.length_map, hl]; exact hi), List.getElem?_map, h1]
        rfl
    · rw [List.getElem?_append_right (by rw [List.length_map]; omega), List.getElem?_replicate] at q
      split at q <;> cases q
/-- the end of a def's body -/
theorem fin_ok {X : Cx} {L : List Nat} {Q : VK} {r : Res} {rv : Rv} {R' : Sto} (q : finR r = .ok rv R') (p : Pst X.K M P F rv R' Q) : DS X L (pushM M) P F { nx := fun _ H' => Q .non H', rt := Q } r := by
  have ag : ∀ {M1 : Mp}, Agr L (pushM M) M1 → ∀ j i, M1 (j + 1) i = M j i := fun a j i => a (j + 1) i (fun z => by omega)
  cases r with
  | nx σ R1 =>
    cases R1 with
    | nil => cases q
    | cons own R1 =>
      cases q
      intro M1 F1 σ1 H1 a e r er
      exact p _ F1 H1 e (r.dropN (ag a)) (.inr .non)
  | rt v R1 =>
    cases R1 with
    | nil => cases q
    | cons own R1 =>
      simp only [finR] at q
      intro M1 F1 u H1 a e r hv
      have r' := r.dropN (ag a)
      cases v with
      | many _ => cases q
      | new o =>
        cases q
        obtain ⟨b, rfl, g1, g2, g3, g4⟩ := hv
        exact p _ F1 H1 e r' ⟨b, rfl, g1, g2, fun j i l => by rw [← ag a]; exact g3 (j + 1) i l, g4⟩
      | val d =>
        have plain : (∀ j i, d ≠ .ref j i) → .ok (.val d) R1 = Out.ok rv R' → Q u H1 := fun hd e1 => by
          cases e1
          rcases hv with ⟨j, i, e2, _⟩ | h
          · exact (hd j i e2).elim
          · exact p _ F1 H1 e r' (.inr h)
        cases d with
        | ref j i =>
          have hu := Vr.ref hv
          subst hu
          cases j with
          | succ j =>
            cases q
            exact p _ F1 H1 e r' (.inl ⟨j, i, rfl, by rw [ag a]⟩)
          | zero =>
            simp only [retv] at q
            have back : ∀ o, own[i]? = some o → o.isF = false → .ok (.new o) R1 = Out.ok rv R' → Q (.ref (M1 0 i)) H1 := fun o ho hf e1 => by
              cases e1
              have ho : sget (own :: R') 0 i = some o := ho
              refine p _ F1 H1 e r' ⟨_, rfl, hf, r.ob 0 i o ho, fun j k l z => ?_, fun q hq z => (r.pr q hq).2.2.2 0 i ⟨o, ho, hf⟩ z.symm⟩
              have := r.inj (j + 1) k 0 i l ⟨o, ho, hf⟩ (by rw [ag a]; exact z)
              omega
            split at q
            · rename_i ds ho; exact back _ ho rfl q
            · rename_i ks ds ho; exact back _ ho rfl q
            · rename_i ks ds ho; exact back _ ho rfl q
            · rename_i c ns ds ho; exact back _ ho rfl q
            · rename_i d ho
              cases q
              exact p _ F1 H1 e r' (.inr (r.ob 0 i _ ho))
            · cases q
        | _ => exact plain (fun _ _ z => nomatch z) q
  | bk _ _ => cases q
  | ct _ _ => cases q
  | bad => cases q
end

/-- a def of the text and its code -/
structure DefOk (T : Tb) (d : Fn) (N ps : List Str) (st : Stmt) : Prop where
  np : ps.length = d.np
  nv : N.length = d.nv
  sc : FnScope N ps (defScope st)
  ck : chkS T d.code (defScope st) N (defBody st) = true
/-- a def as it stands behind the top, with defaults or without -/
structure FunZ (K : PySem.W.Frag) (x qual : Str) (st : Stmt) (f : Addr) (fd : FuncData) : Prop where
  ex : ∃ (oc : Value) (od : Option Addr) (dV kV doc pm : Value) (an : Option Addr) (cdv ct : Value) (osl : Array (Option Value)),
    fd = PySem.W.fnOf x qual (defArgs st) (defBody st) (defScope st) dV kV doc pm an cdv ct ∧ K.lookup f = some ⟨oc, od, .func fd, osl⟩ ∧ PySem.W.codeIn K cdv qual = true
  kp : PySem.W.keepIn K (.ref f) = true
theorem FunZ.of {K : PySem.W.Frag} {x qual : Str} {st : Stmt} {f : Addr} {fd : FuncData} {dvs : List V} {kws : List (Str × V)} (F : FunD K x qual (defArgs st) (defBody st) (defScope st) dvs kws f fd) : FunZ K x qual st f fd := by
  obtain ⟨oc, od, dV, kV, doc, pm, an, cdv, ct, osl, e, l, c, _, _⟩ := F.ex
  exact ⟨⟨oc, od, dV, kV, doc, pm, an, cdv, ct, osl, e, l, c⟩, F.kp⟩
theorem FunZ.ok {P : Program} {w : World} {K : PySem.W.Frag} {mg : Str → Option Value} {base : Heap} {x qual : Str} {st : Stmt} {f : Addr} {fd : FuncData} {N ps : List Str} {k : Nat} {sp : Sp} (F : FunZ K x qual st f fd) (S : FnScope N ps (defScope st)) (len : ∀ vs H Q E, sp vs H Q E → vs.length = ps.length)
    (hbody : ∀ (cdv : Value) (A : Around) (outer : List Env) (s : Shared) (H : Hp) (vs : List V) (Q : VK) (E : XK), Room k (A.deeper (envOfC qual (defScope st) s.heap.objs.size f cdv)) → sp vs H Q E →
      ∃ t, PSs (cxOf CX0 P w K mg base N qual (defScope st) f cdv A outer s H E).nox (defBody st) t ∧ t { nx := fun _ H' => Q .non H', rt := Q } (start N vs) H) : FnOk P w K mg base CX0 (k + 1) f fd ps sp := by
  obtain ⟨oc, od, dV, kV, doc, pm, an, cdv, ct, osl, rfl, lk, hcd⟩ := F.ex
  refine fn_of lk hcd S len fun A outer s H vs Q E hr hsp => ?_
  obtain ⟨t, h, q⟩ := hbody cdv A outer s H vs Q E hr hsp
  exact ⟨t, h.nox, q⟩
/-- the defs with these numbers are the def at a; dv: what fills up -/
def DefAt (K : PySem.W.Frag) (T : Tb) (Fs : Tab) (I : Nat → Prop) (a : Addr) (dv : List D) : Prop := ∃ x qual st fd ps N d ds dvs, (∀ i, I i → Fs.fns[i]? = some d) ∧ FunZ K x qual st a fd ∧ Binds K fd ps ds ∧ Vals dvs ds ∧ DenL K (fun _ => none) dv dvs ∧ DefOk T d N ps st
section
variable {Pr : Program} {w : World} {K : PySem.W.Frag} {mg : Str → Option Value} {base : Heap} {T : Tb} {Fs : Tab} {lf : Nat}
theorem fn_step {n i : Nat} {x qual : Str} {st : Stmt} {f : Addr} {fd : FuncData} {d : Fn} {N ps : List Str} (F : FunZ K x qual st f fd) (ok : DefOk T d N ps st) (hd : Fs.fns[i]? = some d) (hl : Fs.fns.length ≤ 131072)
    (facts : ∀ X : Cx, X.prog = Pr → X.w = w → X.K = K → X.mg = mg → X.base = base → Facts T (run Fs lf n) CX0 (4 * n) X) : FnOk Pr w K mg base CX0 (4 * (n + 1)) f fd ps (spC K (run Fs lf (n + 1)) i) := by
  have hi : ∀ (as : List D) (R : Sto), disp Fs i as R = some i := fun as R => if_pos (Nat.lt_of_lt_of_le (List.getElem?_eq_some_iff.mp hd).1 hl)
  refine F.ok (k := 4 * n + 3) ok.sc (fun vs H Q E h => ?_) (fun cdv A outer s H vs Q E hr h => ?_)
  · obtain ⟨ds, M, R, P, F, rv, R', q, hv, r, p⟩ := h
    unfold run at q
    rw [hi] at q
    dsimp only at q
    rw [hd] at q
    dsimp only at q
    split at q
    · rename_i hl
      rw [hv.length, hl, ok.np]
    · cases q
  · obtain ⟨ds, M, R, P, F', rv, R', q, hv, r, p⟩ := h
    unfold run at q
    rw [hi] at q
    dsimp only at q
    rw [hd] at q
    dsimp only at q
    split at q
    · refine ⟨_, pss_w, ?_⟩
      exact ss d.code _ (defBody st) ⟨⟨rfl, ok.sc.nd, fun Y _ _ => pass0, PassesOwn.never, fun _ _ _ _ _ z => z, hr⟩, fun _ => rfl⟩ (facts _ rfl rfl rfl rfl rfl) ok.ck _ _ _ P F' _ H _ (r.push d.pl) (.start hv ok.nv) (fin_ok (M := M) q p)
    · cases q
/-- the whole table -/
structure TabOk (K : PySem.W.Frag) (mg : Str → Option Value) (T : Tb) (Fs : Tab) : Prop where
  fn : ∀ (i : Nat) (x : Str), T.fnm[i]? = some x → ∃ a, mg x = some (.ref a) ∧ DefAt K T Fs (· = i) a []
  gl : ∀ (g : Nat) (x : Str) (d : D), T.gnm[g]? = some x → T.gval[g]? = some d → ∃ u v, mg x = some u ∧ RelV v u ∧ Den K (fun _ => none) d v
  bl : ∀ x ∈ T.bnm, mg x = none
  hl : Fs.fns.length ≤ 131072
  mt : T.mts = Fs.mts
  pt : T.prs = Fs.prs
  df : ∀ (f : Nat) (x : Str) (dv : List D), T.fnm[f]? = some x → memDfl f dv T.dfl = true → ∃ a, mg x = some (.ref a) ∧ DefAt K T Fs (· = f) a dv
  cl : ∀ c ∈ T.cls, ∃ C, ClsA K c C ∧ mg (nmN c) = some (.ref C)
  me : ∀ (c m g : Nat), (c, m, g) ∈ T.mts → ∀ C, ClsA K c C → ∃ a, Meth K C (nmN m) a ∧ DefAt K T Fs (· = g) a []
  pr : ∀ (c f g : Nat), (c, f, g) ∈ T.prs → ∀ C, ClsA K c C → ∃ p a rest, PySem.W.findIn K (.ref C) (nmN f) = some (some (.ref p)) ∧ PySem.W.specialIn K (.ref p) "__get__" = some (some (.builtin "property.__get__")) ∧
    PySem.W.takesIn K (.ref p) = some true ∧ PySem.W.recIn K p "property" = some (.ref a :: rest) ∧ DefAt K T Fs (· = g) a []
  ma : ∀ (c : Nat) (dv : List D), memDfl c dv T.mks = true → ∃ C a, ClsA K c C ∧ mg (nmN c) = some (.ref C) ∧ Mk K C a ∧ DefAt K T Fs (fun g => (c, mInit, g) ∈ T.mts) a dv
  sl : ∀ (c : Nat) (fs : List Nat), (c, fs) ∈ T.sls → ∀ C, ClsA K c C → ∀ (i f : Nat), fs[i]? = some f → ∃ p, SlX.Slot1 K C (nmN f) p i
theorem TabOk.dm (t : TabOk K mg T Fs) {n : Nat} (m : Nat) (ds : List D) (R : Sto) (rv : Rv) (R' : Sto) (hm : 65536 ≤ m) (h : run Fs lf n (2 * m) ds R = .ok rv R') : ∃ d r c g, ds = d :: r ∧ clsD R d = some c ∧ (c, m, g) ∈ T.mts ∧ run Fs lf n g ds R = .ok rv R' := by
  obtain ⟨g, h1, h2⟩ := run_disp t.hl h
  unfold disp at h1
  rw [if_neg (by omega)] at h1
  cases ds with
  | nil => cases h1
  | cons d r =>
    dsimp only at h1
    cases hc : clsD R d with
    | none => rw [hc] at h1; cases h1
    | some c =>
      rw [hc] at h1
      dsimp only at h1
      rw [if_pos (by omega), show 2 * m / 2 = m by omega] at h1
      exact ⟨d, r, c, g, rfl, hc, by rw [t.mt]; exact pick_mem h1, h2⟩
theorem TabOk.dp (t : TabOk K mg T Fs) {n : Nat} (m : Nat) (ds : List D) (R : Sto) (rv : Rv) (R' : Sto) (hm : 65536 ≤ m) (h : run Fs lf n (2 * m + 1) ds R = .ok rv R') : ∃ d r c g, ds = d :: r ∧ clsD R d = some c ∧ (c, m, g) ∈ T.prs ∧ run Fs lf n g ds R = .ok rv R' := by
  obtain ⟨g, h1, h2⟩ := run_disp t.hl h
  unfold disp at h1
  rw [if_neg (by omega)] at h1
  cases ds with
  | nil => cases h1
  | cons d r =>
    dsimp only at h1
    cases hc : clsD R d with
    | none => rw [hc] at h1; cases h1
    | some c =>
      rw [hc] at h1
      dsimp only at h1
      rw [if_neg (by omega), show (2 * m + 1) / 2 = m by omega] at h1
      exact ⟨d, r, c, g, rfl, hc, by rw [t.pt]; exact pick_mem h1, h2⟩
/-- of the defs' promises, the facts -/
theorem TabOk.of (t : TabOk K mg T Fs) {n k : Nat} {X : Cx} (h3 : X.K = K) (h4 : X.mg = mg)
    (go : ∀ (I : Nat → Prop) (a : Addr) (dv : List D), DefAt K T Fs I a dv → ∃ fd ps ds dvs, PySem.W.keepIn X.K (.ref a) = true ∧ Binds X.K fd ps ds ∧ Vals dvs ds ∧ DenL X.K (fun _ => none) dv dvs ∧ ∀ i, I i → FnOk X.prog X.w X.K X.mg X.base CX0 k a fd ps (spC X.K (run Fs lf n) i)) :
    Facts T (run Fs lf n) CX0 k X := by
  subst h3 h4
  have raw : ∀ (g : Nat) (a : Addr), DefAt X.K T Fs (· = g) a [] → FnR X.prog X.w X.K X.mg X.base CX0 k a (spC X.K (run Fs lf n) g) := fun g a hd => by
    obtain ⟨fd, ps, ds, dvs, _, h2, h3, h4, h5⟩ := go _ a [] hd
    cases h4
    have z := (h5 g rfl).raw h2 h3
    exact z.imp fun vs H Q E q => by rw [List.append_nil]; exact q
  refine ⟨fun f x hx => ?_, t.gl, t.bl, fun f x dv hx hv => ?_, t.cl, fun m ds R rv R' hm h => t.dm m ds R rv R' hm h, fun m ds R rv R' hm h => t.dp m ds R rv R' hm h, fun c m g hg C hC => ?_, fun c f g hg C hC => ?_, fun c dv hv => ?_, t.sl⟩
  · obtain ⟨a, h1, h2⟩ := t.fn f x hx
    obtain ⟨fd, ps, ds, dvs, g1, g2, g3, g4, g5⟩ := go _ a [] h2
    cases g4
    cases g3
    exact ⟨a, fd, ps, h1, g1, g2, g5 f rfl⟩
  · obtain ⟨a, h1, h2⟩ := t.df f x dv hx hv
    obtain ⟨fd, ps, ds, dvs, g1, g2, g3, g4, g5⟩ := go _ a dv h2
    exact ⟨a, fd, ps, ds, dvs, h1, g1, g2, g3, g4, g5 f rfl⟩
  · obtain ⟨a, h1, h2⟩ := t.me c m g hg C hC
    exact ⟨a, h1, raw g a h2⟩
  · obtain ⟨p, a, rest, h1, h2, h3, h4, h5⟩ := t.pr c f g hg C hC
    exact ⟨p, a, rest, h1, h2, h3, h4, raw g a h5⟩
  · obtain ⟨C, a, h1, h2, h3, h4⟩ := t.ma c dv hv
    obtain ⟨fd, ps, ds, dvs, g1, g2, g3, g4, g5⟩ := go _ a dv h4
    exact ⟨C, a, fd, ps, ds, dvs, h1, h2, h3, g2, g3, g4, g5⟩
theorem TabOk.facts (t : TabOk K mg T Fs) : ∀ (n : Nat) (X : Cx), X.prog = Pr → X.w = w → X.K = K → X.mg = mg → X.base = base → Facts T (run Fs lf n) CX0 (4 * n) X := by
  intro n
  induction n with
  | zero =>
    intro X h1 h2 h3 h4 h5
    have no : ∀ {i : Nat} {α : Prop} {vs : List V} {H : Hp} {Q : VK} {E : XK}, spC X.K (run Fs lf 0) i vs H Q E → α := fun h => by
      obtain ⟨_, _, _, _, _, _, _, q, _⟩ := h
      cases q
    refine t.of h3 h4 fun I a dv ⟨x, qual, st, fd, ps, N, d, ds, dvs, g1, g2, g3, g4, g5, g6⟩ => ?_
    subst h3
    exact ⟨fd, ps, ds, dvs, g2.kp, g3, g4, g5, fun i hi => ⟨fun vs H Q E h => no h, fun A outer s H args us vs Q E _ _ _ _ h => no h⟩⟩
  | succ n ih =>
    intro X h1 h2 h3 h4 h5
    refine t.of h3 h4 fun I a dv ⟨x, qual, st, fd, ps, N, d, ds, dvs, g1, g2, g3, g4, g5, g6⟩ => ?_
    subst h1 h2 h3 h4 h5
    exact ⟨fd, ps, ds, dvs, g2.kp, g3, g4, g5, fun i hi => fn_step g2 g6 (g1 i hi) t.hl fun Y e1 e2 e3 e4 e5 => ih Y e1 e2 e3 e4 e5⟩
/-- the law's promise -/
def spLaw (K : PySem.W.Frag) (cf : Cf) (i : Nat) : Sp := spC K cf i
theorem law_sp {K : PySem.W.Frag} {cf : Cf} {i : Nat} {ns : List Int} {a : Addr} {H : Hp} {R' : Sto} {E : XK} (h : cf i [.scr (ns.map D.int)] [] = .ok (.val (.bl true)) R') (hS : SqL K H a (ns.map V.int)) : spC K cf i [.ref a] H (fun v _ => v = .bl true) E := by
  have den : ∀ l : List Int, DenL K H (l.map D.int) (l.map V.int) := fun l => by
    induction l with
    | nil => exact .nil
    | cons x l ih => exact .cons (.int x) ih
  refine ⟨_, fun _ _ => 0, [], [], H, _, _, h, .cons (.inr (.scr hS (den ns))) .nil, ⟨.refl H, fun j i o e => ?_, fun j i j' i' l => ?_, fun q hq => ?_, List.nodup_nil⟩, fun v F' H' e r hv => ?_⟩
  · unfold sget at e
    simp at e
  · obtain ⟨o, e, _⟩ := l
    unfold sget at e
    simp at e
  · cases hq
  · exact Vr.bl hv
end
end EV

/-! EvY: equations for simp: what codes give at values partly known. -/
namespace EV
open PySem PySem.Spec PyProof.Rows L2

theorem run_succ {Fs : Tab} {lf : Nat} (n f : Nat) (as : List D) (R : Sto) : EV.run Fs lf (n + 1) f as R = match disp Fs f as R with
    | some g => match Fs.fns[g]? with
      | some d => if as.length = d.np then finR (ex (EV.run Fs lf n) lf d.code (startD d.nv as) (List.replicate d.pl .dead :: R)) else .bad
      | none => .bad
    | none => .bad := rfl
theorem run_at {Fs : Tab} {lf : Nat} (n f : Nat) (as : List D) (R : Sto) (d : Fn) (hf : f < 131072) (h : Fs.fns[f]? = some d) : EV.run Fs lf (n + 1) f as R = if as.length = d.np then finR (ex (EV.run Fs lf n) lf d.code (startD d.nv as) (List.replicate d.pl .dead :: R)) else .bad := by
  have e : disp Fs f as R = some f := if_pos hf
  rw [run_succ, e]
  dsimp only
  rw [h]
/-- a method's call is a def's -/
theorem run_mth {Fs : Tab} {lf : Nat} (n f : Nat) (x : D) (as : List D) (R : Sto) (c g : Nat) (hf : 131072 ≤ f) (hc : clsD R x = some c) (hp : (if f % 2 = 0 then pick Fs.mts c (f / 2) else pick Fs.prs c (f / 2)) = some g) (hg : g < 131072) : EV.run Fs lf n f (x :: as) R = EV.run Fs lf n g (x :: as) R := by
  cases n with
  | zero => rfl
  | succ n =>
    have e : disp Fs f (x :: as) R = some g := by
      unfold disp
      rw [if_neg (by omega)]
      dsimp only
      rw [hc]
      exact hp
    have e2 : disp Fs g (x :: as) R = some g := if_pos hg
    rw [run_succ, run_succ, e, e2]
@[simp] theorem eqOp_int (a b : Int) (R : Sto) : eqOp (.int a) (.int b) R = some (decide (a = b)) := by
  simp [eqOp, derefs, toP, SeqAt.shaped, PyData.eqv, PyData.canLay0, PyData.depth]
  rfl
@[simp] theorem eqOp_bl (a b : Bool) (R : Sto) : eqOp (.bl a) (.bl b) R = some (a == b) := by
  simp [eqOp, derefs, toP, SeqAt.shaped, PyData.eqv, PyData.canLay0, PyData.depth]
theorem mulOk_of {i j : Int} {n m : Nat} (h1 : i.natAbs < 2 ^ n) (h2 : j.natAbs < 2 ^ m) (h : n + m ≤ 1000000) : mulOk i j = true := by
  unfold mulOk
  refine decide_eq_true ?_
  have e1 : i.natAbs.log2 < n ∨ n = 0 := by
    by_cases z : i.natAbs = 0
    · rw [z]
      cases n with
      | zero => exact .inr rfl
      | succ n => exact .inl (by simp)
    · exact .inl ((Nat.log2_lt z).mpr h1)
  have e2 : j.natAbs.log2 < m ∨ m = 0 := by
    by_cases z : j.natAbs = 0
    · rw [z]
      cases m with
      | zero => exact .inr rfl
      | succ m => exact .inl (by simp)
    · exact .inl ((Nat.log2_lt z).mpr h2)
  have z1 : n = 0 → i.natAbs.log2 = 0 := fun e => by
    subst e
    have : i.natAbs = 0 := by simpa using h1
    rw [this]
    rfl
  have z2 : m = 0 → j.natAbs.log2 = 0 := fun e => by
    subst e
    have : j.natAbs = 0 := by simpa using h2
    rw [this]
    rfl
  rcases e1 with e1 | e1 <;> rcases e2 with e2 | e2
  · omega
  · have := z2 e2
    omega
  · have := z1 e1
    omega
  · have := z1 e1
    have := z2 e2
    omega
theorem divOk_of {j : Int} {m : Nat} (h1 : j.natAbs < 2 ^ m) (h : m ≤ 9000) (h0 : j ≠ 0) : divOk j = true := by
  unfold divOk
  refine decide_eq_true ⟨h0, ?_⟩
  have := (Nat.log2_lt (n := j.natAbs) (k := m) (by omega)).mpr h1
  omega
theorem natAbs_lt {i : Int} {n : Nat} (h1 : -(n : Int) < i) (h2 : i < n) : i.natAbs < n := by omega
theorem whR_t {c : En → Sto → Out Rv} {f : En → Sto → Res} {n : Nat} {σ σ2 : En} {R R1 R2 : Sto} (h1 : c σ R = .ok (.val (.bl true)) R1) (h3 : f σ R1 = .nx σ2 R2) : whR c f (n + 1) σ R = whR c f n σ2 R2 := by
  rw [whR, h1]
  simp only [bvS, fz, truth, h3]
theorem whR_f {c : En → Sto → Out Rv} {f : En → Sto → Res} {n : Nat} {σ : En} {R R1 : Sto} (h1 : c σ R = .ok (.val (.bl false)) R1) : whR c f (n + 1) σ R = .nx σ R1 := by
  rw [whR, h1]
  simp only [bvS, fz, truth]
theorem forV_nx {g : D → En → Option En} {f : En → Sto → Res} {d : D} {ds : List D} {σ σ1 σ2 : En} {R R2 : Sto} (h1 : g d σ = some σ1) (h2 : f σ1 R = .nx σ2 R2) : forV g f (d :: ds) σ R = forV g f ds σ2 R2 := by
  rw [forV, h1]
  simp only [h2]
theorem forV_ct {g : D → En → Option En} {f : En → Sto → Res} {d : D} {ds : List D} {σ σ1 σ2 : En} {R R2 : Sto} (h1 : g d σ = some σ1) (h2 : f σ1 R = .ct σ2 R2) : forV g f (d :: ds) σ R = forV g f ds σ2 R2 := by
  rw [forV, h1]
  simp only [h2]
theorem forV_bk {g : D → En → Option En} {f : En → Sto → Res} {d : D} {ds : List D} {σ σ1 σ2 : En} {R R2 : Sto} (h1 : g d σ = some σ1) (h2 : f σ1 R = .bk σ2 R2) : forV g f (d :: ds) σ R = .nx σ2 R2 := by
  rw [forV, h1]
  simp only [h2]
theorem forV_rt {g : D → En → Option En} {f : En → Sto → Res} {d : D} {ds : List D} {σ σ1 : En} {R R2 : Sto} {v : Rv} (h1 : g d σ = some σ1) (h2 : f σ1 R = .rt v R2) : forV g f (d :: ds) σ R = .rt v R2 := by
  rw [forV, h1]
  simp only [h2]
/-- a property of a value; a method of one, its arguments' outcome told -/
def prpX (cf : Cf) (f : Nat) (x : D) (R : Sto) : Out Rv := match x with
  | .obj c ns ds => cf (2 * f + 1) [.obj c ns ds] R
  | _ => .bad
def mthX (cf : Cf) (m : Nat) (x : D) (o : Out Rv) : Out Rv := match x with
  | .obj c ns ds => bindA o fun es R => cf (2 * m) (.obj c ns ds :: es) R
  | _ => .bad
@[simp] theorem prpX_obj (cf : Cf) (f c : Nat) (ns : List Nat) (ds : List D) (R : Sto) : prpX cf f (.obj c ns ds) R = cf (2 * f + 1) [.obj c ns ds] R := rfl
@[simp] theorem mthX_obj (cf : Cf) (m c : Nat) (ns : List Nat) (ds : List D) (o : Out Rv) : mthX cf m (.obj c ns ds) o = bindA o fun es R => cf (2 * m) (.obj c ns ds :: es) R := rfl
@[simp] theorem ev_var (cf : Cf) (lf : Nat) (i : Nat) (σ : En) (R : Sto) : ev cf lf (.var i) σ R = (match σ[i]? with
    | some (some d) => .ok (.val d) R
    | _ => .bad) := rfl
@[simp] theorem ev_lit (cf : Cf) (lf : Nat) (d : D) (σ : En) (R : Sto) : ev cf lf (.lit d) σ R = (.ok (.val d) R) := rfl
@[simp] theorem ev_glob (cf : Cf) (lf : Nat) (x : Nat) (d : D) (σ : En) (R : Sto) : ev cf lf (.glob x d) σ R = (.ok (.val d) R) := rfl
@[simp] theorem ev_bin (cf : Cf) (lf : Nat) (o : Operator) (a b : C) (σ : En) (R : Sto) : ev cf lf (.bin o a b) σ R = (bindV (ev cf lf a σ R) fun x R1 => bindV (ev cf lf b σ R1) fun y R2 => binopX cf o x y R2) := rfl
@[simp] theorem ev_neg (cf : Cf) (lf : Nat) (a : C) (σ : En) (R : Sto) : ev cf lf (.neg a) σ R = (bindV (ev cf lf a σ R) fun x R1 => negX cf x R1) := rfl
@[simp] theorem ev_notE (cf : Cf) (lf : Nat) (a : C) (σ : En) (R : Sto) : ev cf lf (.notE a) σ R = (bindV (ev cf lf a σ R) fun x R1 => liftO (truth R1 x) R1 fun b => .val (.bl (!b))) := rfl
@[simp] theorem ev_cmp (cf : Cf) (lf : Nat) (o : CmpOp) (a b : C) (σ : En) (R : Sto) : ev cf lf (.cmp o a b) σ R = (bindV (ev cf lf a σ R) fun x R1 => bindV (ev cf lf b σ R1) fun y R2 => cmpX cf o x y R2) := rfl
@[simp] theorem ev_chn (cf : Cf) (lf : Nat) (o p : CmpOp) (a b c : C) (σ : En) (R : Sto) : ev cf lf (.chn o p a b c) σ R = (bindV (ev cf lf a σ R) fun x R1 => bindV (ev cf lf b σ R1) fun y R2 => match cmpop o x y R2 with
    | some true => bindV (ev cf lf c σ R2) fun z R3 => liftO (cmpop p y z R3) R3 fun b => .val (.bl b)
    | some false => .ok (.val (.bl false)) R2
    | none => .bad) := rfl
@[simp] theorem ev_chn3 (cf : Cf) (lf : Nat) (o p q : CmpOp) (a b c d : C) (σ : En) (R : Sto) : ev cf lf (.chn3 o p q a b c d) σ R = (bindV (ev cf lf a σ R) fun x R1 => bindV (ev cf lf b σ R1) fun y R2 => match cmpop o x y R2 with
    | some true => bindV (ev cf lf c σ R2) fun z R3 => match cmpop p y z R3 with
      | some true => bindV (ev cf lf d σ R3) fun w R4 => liftO (cmpop q z w R4) R4 fun b => .val (.bl b)
      | some false => .ok (.val (.bl false)) R3
      | none => .bad
    | some false => .ok (.val (.bl false)) R2
    | none => .bad) := rfl
@[simp] theorem ev_andE (cf : Cf) (lf : Nat) (a b : C) (σ : En) (R : Sto) : ev cf lf (.andE a b) σ R = (bindV (ev cf lf a σ R) fun x R1 => match truth R1 x with
    | some true => ev cf lf b σ R1
    | some false => .ok (.val x) R1
    | none => .bad) := rfl
@[simp] theorem ev_orE (cf : Cf) (lf : Nat) (a b : C) (σ : En) (R : Sto) : ev cf lf (.orE a b) σ R = (bindV (ev cf lf a σ R) fun x R1 => match truth R1 x with
    | some true => .ok (.val x) R1
    | some false => ev cf lf b σ R1
    | none => .bad) := rfl
@[simp] theorem ev_ife (cf : Cf) (lf : Nat) (c a b : C) (σ : En) (R : Sto) : ev cf lf (.ife c a b) σ R = (bindV (ev cf lf c σ R) fun x R1 => match truth R1 x with
    | some true => ev cf lf a σ R1
    | some false => ev cf lf b σ R1
    | none => .bad) := rfl
@[simp] theorem ev_nil (cf : Cf) (lf : Nat)  (σ : En) (R : Sto) : ev cf lf (.nil ) σ R = (.ok (.many []) R) := rfl
@[simp] theorem ev_cons (cf : Cf) (lf : Nat) (a as : C) (σ : En) (R : Sto) : ev cf lf (.cons a as) σ R = (bindV (ev cf lf a σ R) fun x R1 => bindA (ev cf lf as σ R1) fun ds R2 => .ok (.many (x :: ds)) R2) := rfl
@[simp] theorem ev_tup (cf : Cf) (lf : Nat) (as : C) (σ : En) (R : Sto) : ev cf lf (.tup as) σ R = (bindA (ev cf lf as σ R) fun ds R1 => match byvL ds R1 with
    | some (ds', R2) => if ds'.length ≤ 100000 then .ok (.val (.tup ds')) R2 else .bad
    | none => .bad) := rfl
@[simp] theorem ev_lst (cf : Cf) (lf : Nat) (as : C) (σ : En) (R : Sto) : ev cf lf (.lst as) σ R = (bindA (ev cf lf as σ R) fun ds R1 => match byvL ds R1 with
    | some (ds', R2) => if ds'.length ≤ 100000 then .ok (.new (.lst ds')) R2 else .bad
    | none => .bad) := rfl
@[simp] theorem ev_call (cf : Cf) (lf : Nat) (f : Nat) (as : C) (σ : En) (R : Sto) : ev cf lf (.call f as) σ R = (bindA (ev cf lf as σ R) fun ds R1 => cf f ds R1) := rfl
@[simp] theorem ev_blt (cf : Cf) (lf : Nat) (k : Bk) (as : C) (σ : En) (R : Sto) : ev cf lf (.blt k as) σ R = (bindA (ev cf lf as σ R) fun ds R1 => bltX cf k ds R1) := rfl
@[simp] theorem ev_callD (cf : Cf) (lf : Nat) (f : Nat) (as : C) (dv : List D) (σ : En) (R : Sto) : ev cf lf (.callD f as dv) σ R = (bindA (ev cf lf as σ R) fun ds R1 => cf f (ds ++ dv) R1) := rfl
@[simp] theorem ev_fld (cf : Cf) (lf : Nat) (a : C) (f : Nat) (σ : En) (R : Sto) : ev cf lf (.fld a f) σ R = (bindV (ev cf lf a σ R) fun x R1 => liftO (fldD R1 x f) R1 .val) := rfl
@[simp] theorem ev_prp (cf : Cf) (lf : Nat) (a : C) (f : Nat) (σ : En) (R : Sto) : ev cf lf (.prp a f) σ R = (bindV (ev cf lf a σ R) fun x R1 => prpX cf f x R1) := rfl
@[simp] theorem ev_mth (cf : Cf) (lf : Nat) (a : C) (m : Nat) (as : C) (σ : En) (R : Sto) : ev cf lf (.mth a m as) σ R = (bindV (ev cf lf a σ R) fun x R1 => mthX cf m x (ev cf lf as σ R1)) := rfl
@[simp] theorem ev_new (cf : Cf) (lf : Nat) (c : Nat) (as : C) (dv : List D) (σ : En) (R : Sto) : ev cf lf (.new c as dv) σ R = (bindA (ev cf lf as σ R) fun ds R1 => newV cf c (ds ++ dv) R1) := rfl
@[simp] theorem ev_isiC (cf : Cf) (lf : Nat) (a : C) (c : Nat) (cs : List Nat) (σ : En) (R : Sto) : ev cf lf (.isiC a c cs) σ R = (bindV (ev cf lf a σ R) fun x R1 => isiY c cs x R1) := rfl
@[simp] theorem ev_dnew (cf : Cf) (lf : Nat)  (σ : En) (R : Sto) : ev cf lf (.dnew ) σ R = (.ok (.new (.dct [] [])) R) := rfl
@[simp] theorem ev_dget (cf : Cf) (lf : Nat) (a k z : C) (σ : En) (R : Sto) : ev cf lf (.dget a k z) σ R = (bindV (ev cf lf a σ R) fun x R1 => if isDct R1 x then bindV (ev cf lf k σ R1) fun y R2 => bindV (ev cf lf z σ R2) fun w R3 => match dctGet R3 x y with
      | some (some d) => .ok (.val d) R3
      | some none => .ok (.val w) R3
      | none => .bad
    else .bad) := rfl
@[simp] theorem ev_dspr (cf : Cf) (lf : Nat) (x u y v a b : C) (σ : En) (R : Sto) : ev cf lf (.dspr x u y v a b) σ R = (bindV (ev cf lf x σ R) fun kx R1 => bindV (ev cf lf u σ R1) fun dx R2 => bindV (ev cf lf y σ R2) fun ky R3 => bindV (ev cf lf v σ R3) fun dy R4 => match keyD kx, keyD ky, flatV dx && flatV dy with
    | some k1, some k2, true => bindV (ev cf lf a σ R4) fun m R5 => match m with
      | .dct ks ds => bindV (ev cf lf b σ R5) fun n R6 => match n with
        | .dct ls es => if ks.length + ls.length ≤ 99000 then
            .ok (.new (.dct (mrgD (mrgD (mrgD [] [] [k1, k2] [dx, dy]).1 (mrgD [] [] [k1, k2] [dx, dy]).2 ks ds).1 (mrgD (mrgD [] [] [k1, k2] [dx, dy]).1 (mrgD [] [] [k1, k2] [dx, dy]).2 ks ds).2 ls es).1
              (mrgD (mrgD (mrgD [] [] [k1, k2] [dx, dy]).1 (mrgD [] [] [k1, k2] [dx, dy]).2 ks ds).1 (mrgD (mrgD [] [] [k1, k2] [dx, dy]).1 (mrgD [] [] [k1, k2] [dx, dy]).2 ks ds).2 ls es).2)) R6 else .bad
        | _ => .bad
      | _ => .bad
    | _, _, _ => .bad) := rfl
@[simp] theorem ev_callB (cf : Cf) (lf : Nat) (f : Nat) (a : C) (σ : En) (R : Sto) : ev cf lf (.callB f a) σ R = (match ev cf lf a σ R with
    | .ok (.new o) R1 => callBV cf f o R1
    | _ => .bad) := rfl
theorem callBV_ok {cf : Cf} {f : Nat} {o : O} {R R2 : Sto} {v : D} {own : List O} (h : cf f [.ref 0 0] ([o] :: R) = .ok (.val v) (own :: R2)) (hn : nrf v = true) : callBV cf f o R = .ok (.val v) R2 := by
  unfold callBV
  rw [h]
  exact if_pos hn
@[simp] theorem ev_dis1 (cf : Cf) (lf : Nat) (x u : C) (σ : En) (R : Sto) : ev cf lf (.dis1 x u) σ R = (bindV (ev cf lf x σ R) fun kx R1 => bindV (ev cf lf u σ R1) fun dx R2 => match keyD kx, nrf dx with
    | some k, true => .ok (.new (.dct [k] [dx])) R2
    | _, _ => .bad) := rfl
@[simp] theorem ev_itm (cf : Cf) (lf : Nat) (a : C) (σ : En) (R : Sto) : ev cf lf (.itm a) σ R = (bindV (ev cf lf a σ R) fun x R1 => .ok (.many [x]) R1) := rfl
@[simp] theorem ev_zipE (cf : Cf) (lf : Nat) (a b : C) (σ : En) (R : Sto) : ev cf lf (.zipE a b) σ R = (bindV (ev cf lf a σ R) fun x R1 => bindV (ev cf lf b σ R1) fun y R2 => .ok (.many [x, y]) R2) := rfl
@[simp] theorem ev_enmE (cf : Cf) (lf : Nat) (a : C) (σ : En) (R : Sto) : ev cf lf (.enmE a) σ R = (bindV (ev cf lf a σ R) fun x R1 => .ok (.many [x]) R1) := rfl
@[simp] theorem ev_isi (cf : Cf) (lf : Nat) (a : C) (t : Ty) (σ : En) (R : Sto) : ev cf lf (.isi a t) σ R = (bindV (ev cf lf a σ R) fun x R1 => isiX t x R1) := rfl
@[simp] theorem ev_sub (cf : Cf) (lf : Nat) (a i : C) (σ : En) (R : Sto) : ev cf lf (.sub a i) σ R = (bindV (ev cf lf a σ R) fun x R1 => bindV (ev cf lf i σ R1) fun y R2 => liftO (subX x y R2) R2 .val) := rfl
@[simp] theorem ev_slc (cf : Cf) (lf : Nat) (a lo hi : C) (σ : En) (R : Sto) : ev cf lf (.slc a lo hi) σ R = (bindV (ev cf lf a σ R) fun x R1 => bindV (ev cf lf lo σ R1) fun l R2 => bindV (ev cf lf hi σ R2) fun h R3 => slcOp x (ptOf (isNonC lo) l) (ptOf (isNonC hi) h) R3) := rfl
@[simp] theorem ev_rng1 (cf : Cf) (lf : Nat) (a : C) (σ : En) (R : Sto) : ev cf lf (.rng1 a) σ R = (bindV (ev cf lf a σ R) fun x R1 => .ok (.many [.int 0, x]) R1) := rfl
@[simp] theorem ev_rng2 (cf : Cf) (lf : Nat) (a b : C) (σ : En) (R : Sto) : ev cf lf (.rng2 a b) σ R = (bindV (ev cf lf a σ R) fun x R1 => bindV (ev cf lf b σ R1) fun y R2 => .ok (.many [x, y]) R2) := rfl
@[simp] theorem ev_dg2 (cf : Cf) (lf : Nat) (k1 v1 k2 v2 : Int) (a : C) (z : Int) (σ : En) (R : Sto) : ev cf lf (.dg2 k1 v1 k2 v2 a z) σ R = (bindV (ev cf lf a σ R) fun x R1 => match x with
    | .int i => .ok (.val (.int (if i = k2 then v2 else if i = k1 then v1 else z))) R1
    | _ => .bad) := rfl
@[simp] theorem ev_comp (cf : Cf) (lf : Nat) (elt : C) (slots : List Nat) (it cond : C) (σ : En) (R : Sto) : ev cf lf (.comp elt slots it cond) σ R = (match ev cf lf it σ R with
    | .ok x R1 => compI (compF (ev cf lf cond) (ev cf lf elt) slots σ) lf (itOf (ik it) R1 x) R1
    | _ => .bad) := rfl
@[simp] theorem ex_nop (cf : Cf) (lf : Nat)  (σ : En) (R : Sto) : ex cf lf (.nop ) σ R = (.nx σ R) := rfl
@[simp] theorem ex_never (cf : Cf) (lf : Nat)  (σ : En) (R : Sto) : ex cf lf (.never ) σ R = (.bad) := rfl
@[simp] theorem ex_asg (cf : Cf) (lf : Nat) (i : Nat) (c : C) (σ : En) (R : Sto) : ex cf lf (.asg i c) σ R = (bvS (ev cf lf c σ R) fun v R1 => .nx (σ.set i (some (fz v))) R1) := rfl
@[simp] theorem ex_asgN (cf : Cf) (lf : Nat) (i p : Nat) (c : C) (σ : En) (R : Sto) : ex cf lf (.asgN i p c) σ R = (bvS (ev cf lf c σ R) fun v R1 => match v with
    | .new o => setN i p o σ R1
    | _ => .bad) := rfl
@[simp] theorem ex_par2 (cf : Cf) (lf : Nat) (i j : Nat) (pi pj : Option Nat) (a b : C) (σ : En) (R : Sto) : ex cf lf (.par2 i j pi pj a b) σ R = (bvS (ev cf lf a σ R) fun x R1 => bvS (ev cf lf b σ R1) fun y R2 => putPP pi pj i j x y σ R2) := rfl
@[simp] theorem ex_par3 (cf : Cf) (lf : Nat) (i j l : Nat) (a b c : C) (σ : En) (R : Sto) : ex cf lf (.par3 i j l a b c) σ R = (bvS (ev cf lf a σ R) fun x R1 => bvS (ev cf lf b σ R1) fun y R2 => bvS (ev cf lf c σ R2) fun z R3 => .nx (((σ.set i (some (fz x))).set j (some (fz y))).set l (some (fz z))) R3) := rfl
@[simp] theorem ex_unp (cf : Cf) (lf : Nat) (is : List Nat) (c : C) (σ : En) (R : Sto) : ex cf lf (.unp is c) σ R = (bvS (ev cf lf c σ R) fun v R1 => match setTg is (fz v) σ with
    | some σ1 => .nx σ1 R1
    | none => .bad) := rfl
@[simp] theorem ex_aug (cf : Cf) (lf : Nat) (i : Nat) (o : Operator) (c : C) (σ : En) (R : Sto) : ex cf lf (.aug i o c) σ R = (match σ[i]? with
    | some (some x) => bvS (ev cf lf c σ R) fun y R1 => match iop o x (fz y) with
      | some z => .nx (σ.set i (some z)) R1
      | none => .bad
    | _ => .bad) := rfl
@[simp] theorem ex_app (cf : Cf) (lf : Nat) (a e : C) (σ : En) (R : Sto) : ex cf lf (.app a e) σ R = (bvS (ev cf lf a σ R) fun x R1 => match asL R1 (fz x) with
    | none => .bad
    | some _ => bvS (ev cf lf e σ R1) fun y R2 => match byv (fz y) R2 with
      | none => .bad
      | some (y', R3) => match appO (fz x) y' R3 with
        | some R4 => .nx σ R4
        | none => .bad) := rfl
@[simp] theorem ex_extd (cf : Cf) (lf : Nat) (a e : C) (σ : En) (R : Sto) : ex cf lf (.extd a e) σ R = (bvS (ev cf lf a σ R) fun x R1 => match asL R1 (fz x) with
    | none => .bad
    | some _ => bvS (ev cf lf e σ R1) fun y R2 => match asL R2 (fz y) with
      | none => .bad
      | some es => match extO (fz x) es R2 with
        | some R4 => .nx σ R4
        | none => .bad) := rfl
@[simp] theorem ex_sets (cf : Cf) (lf : Nat) (a i e : C) (σ : En) (R : Sto) : ex cf lf (.sets a i e) σ R = (bvS (ev cf lf e σ R) fun y R1 => match byv (fz y) R1 with
    | none => .bad
    | some (y', R2) => bvS (ev cf lf a σ R2) fun x R3 => bvS (ev cf lf i σ R3) fun n R4 => match setO (fz x) (fz n) y' R4 with
      | some R5 => .nx σ R5
      | none => .bad) := rfl
@[simp] theorem ex_fset (cf : Cf) (lf : Nat) (a : C) (f : Nat) (cls : List (Nat × List Nat)) (e : C) (σ : En) (R : Sto) : ex cf lf (.fset a f cls e) σ R = (bvS (ev cf lf e σ R) fun y R1 => match byv (fz y) R1 with
    | none => .bad
    | some (y', R2) => bvS (ev cf lf a σ R2) fun x R3 => match fstO cls (fz x) f y' R3 with
      | some R4 => .nx σ R4
      | none => .bad) := rfl
@[simp] theorem ex_faug (cf : Cf) (lf : Nat) (a : C) (f : Nat) (cls : List (Nat × List Nat)) (o : Operator) (e : C) (σ : En) (R : Sto) : ex cf lf (.faug a f cls o e) σ R = (bvS (ev cf lf a σ R) fun x R1 => match fldD R1 (fz x) f with
    | none => .bad
    | some old => bvS (ev cf lf e σ R1) fun y R2 => match iop o old (fz y) with
      | none => .bad
      | some z => match fstO cls (fz x) f z R2 with
        | some R3 => .nx σ R3
        | none => .bad) := rfl
@[simp] theorem ex_fset2 (cf : Cf) (lf : Nat) (a : C) (f : Nat) (b : C) (g : Nat) (cls : List (Nat × List Nat)) (e : C) (σ : En) (R : Sto) : ex cf lf (.fset2 a f b g cls e) σ R = (bvS (ev cf lf e σ R) fun v R1 => match fz v with
    | .tup [d1, d2] => bvS (ev cf lf a σ R1) fun x R2 => match fstO cls (fz x) f d1 R2 with
      | none => .bad
      | some R3 => bvS (ev cf lf b σ R3) fun y R4 => match fstO cls (fz y) g d2 R4 with
        | some R5 => .nx σ R5
        | none => .bad
    | _ => .bad) := rfl
@[simp] theorem ex_expr (cf : Cf) (lf : Nat) (c : C) (σ : En) (R : Sto) : ex cf lf (.expr c) σ R = (bvS (ev cf lf c σ R) fun _ R1 => .nx σ R1) := rfl
@[simp] theorem ex_ret (cf : Cf) (lf : Nat) (c : C) (σ : En) (R : Sto) : ex cf lf (.ret c) σ R = (bvS (ev cf lf c σ R) fun v R1 => .rt v R1) := rfl
@[simp] theorem ex_retN (cf : Cf) (lf : Nat)  (σ : En) (R : Sto) : ex cf lf (.retN ) σ R = (.rt (.val .non) R) := rfl
@[simp] theorem ex_ifS (cf : Cf) (lf : Nat) (c : C) (a b : S) (σ : En) (R : Sto) : ex cf lf (.ifS c a b) σ R = (bvS (ev cf lf c σ R) fun x R1 => match truth R1 (fz x) with
    | some true => ex cf lf a σ R1
    | some false => ex cf lf b σ R1
    | none => .bad) := rfl
@[simp] theorem ex_whl (cf : Cf) (lf : Nat) (c : C) (b : S) (σ : En) (R : Sto) : ex cf lf (.whl c b) σ R = (whR (ev cf lf c) (ex cf lf b) lf σ R) := rfl
@[simp] theorem ex_forS (cf : Cf) (lf : Nat) (is : List Nat) (it : C) (b : S) (σ : En) (R : Sto) : ex cf lf (.forS is it b) σ R = (match ev cf lf it σ R with
    | .ok x R1 => forI (setTg is) (ex cf lf b) b.places lf σ R1 (itOf (ik it) R1 x)
    | _ => .bad) := rfl
@[simp] theorem ex_brk (cf : Cf) (lf : Nat)  (σ : En) (R : Sto) : ex cf lf (.brk ) σ R = (.bk σ R) := rfl
@[simp] theorem ex_cnt (cf : Cf) (lf : Nat)  (σ : En) (R : Sto) : ex cf lf (.cnt ) σ R = (.ct σ R) := rfl
@[simp] theorem ex_seq (cf : Cf) (lf : Nat) (a b : S) (σ : En) (R : Sto) : ex cf lf (.seq a b) σ R = (match ex cf lf a σ R with
    | .nx σ1 R1 => ex cf lf b σ1 R1
    | r => r) := rfl

section
variable (d : D) (o : O) (R : Sto) (i j : Int) (b c : Bool) (n m : Nat) (ds es : List D) (σ : En)
@[simp] theorem bvS_val (f : Rv → Sto → Res) : bvS (.ok (.val d) R) f = f (.val d) R := rfl
@[simp] theorem bvS_new (f : Rv → Sto → Res) : bvS (.ok (.new o) R) f = f (.new o) R := rfl
@[simp] theorem bindV_val (f : D → Sto → Out Rv) : bindV (.ok (.val d) R) f = f d R := rfl
@[simp] theorem bindV_new (f : D → Sto → Out Rv) : bindV (.ok (.new o) R) f = f (fzO o) R := rfl
@[simp] theorem bindA_many (f : List D → Sto → Out Rv) : bindA (.ok (.many ds) R) f = f ds R := rfl
@[simp] theorem liftO_some {α : Type} (a : α) (f : α → Rv) : liftO (some a) R f = .ok (f a) R := rfl
@[simp] theorem bX_int (cf : Cf) (op : Operator) (y : D) : binopX cf op (.int i) y R = binop op (.int i) y R := rfl
@[simp] theorem bX_bl (cf : Cf) (op : Operator) (y : D) : binopX cf op (.bl b) y R = binop op (.bl b) y R := rfl
@[simp] theorem bX_str (cf : Cf) (op : Operator) (x : Str) (y : D) : binopX cf op (.str x) y R = binop op (.str x) y R := rfl
@[simp] theorem bX_tup (cf : Cf) (op : Operator) (y : D) : binopX cf op (.tup ds) y R = binop op (.tup ds) y R := rfl
@[simp] theorem bX_lst (cf : Cf) (op : Operator) (y : D) : binopX cf op (.lst ds) y R = binop op (.lst ds) y R := rfl
@[simp] theorem bX_scr (cf : Cf) (op : Operator) (y : D) : binopX cf op (.scr ds) y R = binop op (.scr ds) y R := rfl
@[simp] theorem bX_ref (cf : Cf) (op : Operator) (y : D) : binopX cf op (.ref n m) y R = binop op (.ref n m) y R := rfl
@[simp] theorem bX_add (cf : Cf) (k : Nat) (ns ms : List Nat) : binopX cf .Add (.obj k ns ds) (.obj k ms es) R = cf (2 * mAdd) [.obj k ns ds, .obj k ms es] R := if_pos rfl
@[simp] theorem bX_sub (cf : Cf) (k : Nat) (ns ms : List Nat) : binopX cf .Sub (.obj k ns ds) (.obj k ms es) R = cf (2 * mSub) [.obj k ns ds, .obj k ms es] R := if_pos rfl
@[simp] theorem bX_mul (cf : Cf) (k : Nat) (ns ms : List Nat) : binopX cf .Mult (.obj k ns ds) (.obj k ms es) R = cf (2 * mMul) [.obj k ns ds, .obj k ms es] R := if_pos rfl
@[simp] theorem nX_int (cf : Cf) : negX cf (.int i) R = .ok (.val (.int (-i))) R := rfl
@[simp] theorem nX_obj (cf : Cf) (k : Nat) (ns : List Nat) : negX cf (.obj k ns ds) R = cf (2 * mNeg) [.obj k ns ds] R := rfl
@[simp] theorem cX_int (cf : Cf) (op : CmpOp) (y : D) : cmpX cf op (.int i) y R = liftO (cmpY op (.int i) y R) R fun b => .val (.bl b) := rfl
@[simp] theorem cX_bl (cf : Cf) (op : CmpOp) (y : D) : cmpX cf op (.bl b) y R = liftO (cmpY op (.bl b) y R) R fun b => .val (.bl b) := rfl
@[simp] theorem cX_non (cf : Cf) (op : CmpOp) (y : D) : cmpX cf op .non y R = liftO (cmpY op .non y R) R fun b => .val (.bl b) := rfl
@[simp] theorem cX_str (cf : Cf) (op : CmpOp) (x : Str) (y : D) : cmpX cf op (.str x) y R = liftO (cmpY op (.str x) y R) R fun b => .val (.bl b) := rfl
@[simp] theorem cX_tup (cf : Cf) (op : CmpOp) (y : D) : cmpX cf op (.tup ds) y R = liftO (cmpY op (.tup ds) y R) R fun b => .val (.bl b) := rfl
@[simp] theorem cX_lst (cf : Cf) (op : CmpOp) (y : D) : cmpX cf op (.lst ds) y R = liftO (cmpY op (.lst ds) y R) R fun b => .val (.bl b) := rfl
@[simp] theorem cX_ref (cf : Cf) (op : CmpOp) (y : D) : cmpX cf op (.ref n m) y R = liftO (cmpY op (.ref n m) y R) R fun b => .val (.bl b) := rfl
@[simp] theorem cX_eq (cf : Cf) (k : Nat) (ns : List Nat) (y : D) : cmpX cf .Eq (.obj k ns ds) y R = if eqArg y then (match cf (2 * mEq) [.obj k ns ds, y] R with
      | .ok (.val (.bl b)) R' => .ok (.val (.bl b)) R'
      | _ => .bad) else .bad := rfl
@[simp] theorem cX_ne (cf : Cf) (k : Nat) (ns : List Nat) (y : D) : cmpX cf .NotEq (.obj k ns ds) y R = if eqArg y then (match cf (2 * mEq) [.obj k ns ds, y] R with
      | .ok (.val (.bl b)) R' => .ok (.val (.bl (!b))) R'
      | _ => .bad) else .bad := rfl
@[simp] theorem eqArg_int : eqArg (.int i) = true := rfl
@[simp] theorem eqArg_obj (k : Nat) (ns : List Nat) : eqArg (.obj k ns ds) = true := rfl
@[simp] theorem cY_lt (x y : D) : cmpY .Lt x y R = cmpop .Lt x y R := rfl
@[simp] theorem cY_le (x y : D) : cmpY .LtE x y R = cmpop .LtE x y R := rfl
@[simp] theorem cY_gt (x y : D) : cmpY .Gt x y R = cmpop .Gt x y R := rfl
@[simp] theorem cY_ge (x y : D) : cmpY .GtE x y R = cmpop .GtE x y R := rfl
@[simp] theorem cY_eq (x y : D) : cmpY .Eq x y R = cmpop .Eq x y R := rfl
@[simp] theorem cY_ne (x y : D) : cmpY .NotEq x y R = cmpop .NotEq x y R := rfl
@[simp] theorem cY_is (x y : D) : cmpY .Is x y R = cmpop .Is x y R := rfl
@[simp] theorem cY_isn (x y : D) : cmpY .IsNot x y R = cmpop .IsNot x y R := rfl
@[simp] theorem cY_in_tup (x : D) : cmpY .In x (.tup ds) R = cmpop .In x (.tup ds) R := rfl
@[simp] theorem cY_in_lst (x : D) : cmpY .In x (.lst ds) R = cmpop .In x (.lst ds) R := rfl
@[simp] theorem cY_nin_tup (x : D) : cmpY .NotIn x (.tup ds) R = cmpop .NotIn x (.tup ds) R := rfl
@[simp] theorem cY_nin_lst (x : D) : cmpY .NotIn x (.lst ds) R = cmpop .NotIn x (.lst ds) R := rfl
@[simp] theorem bltX_nil (cf : Cf) (k : Bk) : bltX cf k [] R = bltop k [] R := rfl
@[simp] theorem bltX_int (cf : Cf) (k : Bk) : bltX cf k [.int i] R = bltop k [.int i] R := rfl
@[simp] theorem bltX_bl (cf : Cf) (k : Bk) : bltX cf k [.bl b] R = bltop k [.bl b] R := rfl
@[simp] theorem bltX_str (cf : Cf) (k : Bk) (x : Str) : bltX cf k [.str x] R = bltop k [.str x] R := rfl
@[simp] theorem bltX_tup (cf : Cf) (k : Bk) : bltX cf k [.tup ds] R = bltop k [.tup ds] R := rfl
@[simp] theorem bltX_lst (cf : Cf) (k : Bk) : bltX cf k [.lst ds] R = bltop k [.lst ds] R := rfl
@[simp] theorem bltX_scr (cf : Cf) (k : Bk) : bltX cf k [.scr ds] R = bltop k [.scr ds] R := rfl
@[simp] theorem bltX_ref (cf : Cf) (k : Bk) : bltX cf k [.ref n m] R = bltop k [.ref n m] R := rfl
@[simp] theorem bltX_two (cf : Cf) (k : Bk) (x y : D) : bltX cf k (x :: y :: ds) R = bltop k (x :: y :: ds) R := by
  cases x <;> rfl
@[simp] theorem bltX_boolO (cf : Cf) (k : Nat) (ns : List Nat) : bltX cf .bool1 [.obj k ns ds] R = (match cf (2 * mBool) [.obj k ns ds] R with
      | .ok (.val (.bl b)) R' => .ok (.val (.bl b)) R'
      | _ => .bad) := rfl
@[simp] theorem isiX_obj (t : Ty) (k : Nat) (ns : List Nat) : isiX t (.obj k ns ds) R = .ok (.val (.bl false)) R := rfl
@[simp] theorem isiX_int (t : Ty) : isiX t (.int i) R = .ok (.val (.bl (Ty.isi .int t))) R := rfl
@[simp] theorem isiX_bl (t : Ty) : isiX t (.bl b) R = .ok (.val (.bl (Ty.isi .bool t))) R := rfl
@[simp] theorem isiX_tup (t : Ty) : isiX t (.tup ds) R = .ok (.val (.bl (Ty.isi .tuple t))) R := rfl
@[simp] theorem isiX_str (t : Ty) (x : Str) : isiX t (.str x) R = .ok (.val (.bl (Ty.isi .str t))) R := rfl
@[simp] theorem isiY_obj (k c : Nat) (cs ns : List Nat) : isiY k cs (.obj c ns ds) R = if cs.contains c then .ok (.val (.bl (decide (c = k)))) R else .bad := rfl
@[simp] theorem isiY_int (k : Nat) (cs : List Nat) : isiY k cs (.int i) R = .ok (.val (.bl false)) R := rfl
@[simp] theorem isiY_bl (k : Nat) (cs : List Nat) : isiY k cs (.bl b) R = .ok (.val (.bl false)) R := rfl
@[simp] theorem isiY_tup (k : Nat) (cs : List Nat) : isiY k cs (.tup ds) R = .ok (.val (.bl false)) R := rfl
@[simp] theorem subX_tup : subX (.tup ds) (.int i) R = atI ds i := rfl
@[simp] theorem subX_ktp : subX (.ktp ds) (.int i) R = subOp (.ktp ds) (.int i) R := rfl
@[simp] theorem subX_lst : subX (.lst ds) (.int i) R = atI ds i := rfl
@[simp] theorem subX_scr : subX (.scr ds) (.int i) R = atI ds i := rfl
@[simp] theorem subX_dct (ks : List Key) : subX (.dct ks ds) (.int i) R = lookK ks ds (.inl i) := rfl
theorem subX_L (h : sget R n m = some (.lst ds)) : subX (.ref n m) (.int i) R = atI ds i := by
  simp [subX, dctGet, derefs, h, fzO, subOp, asS, asL]
theorem subX_Dk {ks : List Key} (h : sget R n m = some (.dct ks ds)) : subX (.ref n m) (.int i) R = lookK ks ds (.inl i) := by
  simp [subX, dctGet, derefs, h, fzO, keyD]
theorem subX_Dt {ks : List (List Key)} {ts : List D} {kk : List Key} (h : sget R n m = some (.dcT ks ds)) (hk : keysD ts = some kk) : subX (.ref n m) (.tup ts) R = lookK ks ds kk := by
  simp [subX, dctGet, derefs, h, fzO, hk]
theorem dctGet_Dk {ks : List Key} (h : sget R n m = some (.dct ks ds)) : dctGet R (.ref n m) (.int i) = some (lookK ks ds (.inl i)) := by
  simp [dctGet, derefs, h, fzO, keyD]
theorem isDct_Dk {ks : List Key} (h : sget R n m = some (.dct ks ds)) : isDct R (.ref n m) = true := by
  simp [isDct, derefs, h, fzO]
@[simp] theorem fz_val : fz (.val d) = d := rfl
@[simp] theorem fz_new : fz (.new o) = fzO o := rfl
@[simp] theorem fzO_lst : fzO (.lst ds) = .lst ds := rfl
@[simp] theorem truth_bl : truth R (.bl b) = some b := rfl
@[simp] theorem truth_int : truth R (.int i) = some (i != 0) := rfl
@[simp] theorem truth_tup : truth R (.tup ds) = some (!ds.isEmpty) := rfl
@[simp] theorem truth_lst : truth R (.lst ds) = some (!ds.isEmpty) := rfl
@[simp] theorem truth_scr : truth R (.scr ds) = some (!ds.isEmpty) := rfl
@[simp] theorem cmp_lt : cmpop .Lt (.int i) (.int j) R = some (decide (i < j)) := rfl
@[simp] theorem cmp_le : cmpop .LtE (.int i) (.int j) R = some (decide (i ≤ j)) := rfl
@[simp] theorem cmp_gt : cmpop .Gt (.int i) (.int j) R = some (decide (j < i)) := rfl
@[simp] theorem cmp_ge : cmpop .GtE (.int i) (.int j) R = some (decide (j ≤ i)) := rfl
@[simp] theorem cmp_eq : cmpop .Eq (.int i) (.int j) R = some (decide (i = j)) := eqOp_int i j R
@[simp] theorem cmp_ne : cmpop .NotEq (.int i) (.int j) R = some (!decide (i = j)) := by
  show (eqOp (.int i) (.int j) R).map (fun b => !b) = _
  rw [eqOp_int]
  rfl
@[simp] theorem bin_add : binop .Add (.int i) (.int j) R = .ok (.val (.int (i + j))) R := rfl
@[simp] theorem bin_sub : binop .Sub (.int i) (.int j) R = .ok (.val (.int (i - j))) R := rfl
@[simp] theorem bin_mul : binop .Mult (.int i) (.int j) R = if mulOk i j then .ok (.val (.int (i * j))) R else .bad := rfl
@[simp] theorem bin_fdiv : binop .FloorDiv (.int i) (.int j) R = if divOk j then .ok (.val (.int (i.fdiv j))) R else .bad := rfl
@[simp] theorem bin_mod : binop .Mod (.int i) (.int j) R = if j = 0 then .bad else .ok (.val (.int (i.fmod j))) R := rfl
@[simp] theorem bin_pow : binop .Pow (.int i) (.int j) R = if powOk i j then .ok (.val (.int (i ^ j.toNat))) R else .bad := rfl
@[simp] theorem iop_iadd : iop .Add (.int i) (.int j) = some (.int (i + j)) := rfl
@[simp] theorem iop_isub : iop .Sub (.int i) (.int j) = some (.int (i - j)) := rfl
@[simp] theorem iop_imul : iop .Mult (.int i) (.int j) = if mulOk i j then some (.int (i * j)) else none := rfl
@[simp] theorem iop_ifdiv : iop .FloorDiv (.int i) (.int j) = if divOk j then some (.int (i.fdiv j)) else none := rfl
@[simp] theorem blt_abs : bltop .abs [.int i] R = .ok (.val (.int (if i < 0 then -i else i))) R := rfl
@[simp] theorem blt_max : bltop .max2 [.int i, .int j] R = .ok (.val (.int (if j > i then j else i))) R := rfl
@[simp] theorem blt_min : bltop .min2 [.int i, .int j] R = .ok (.val (.int (if j < i then j else i))) R := rfl
@[simp] theorem blt_int : bltop .int1 [.int i] R = .ok (.val (.int i)) R := rfl
@[simp] theorem blt_intb : bltop .int1 [.bl b] R = .ok (.val (.int (if b then 1 else 0))) R := rfl
@[simp] theorem blt_boolb : bltop .bool1 [.bl b] R = .ok (.val (.bl b)) R := rfl
@[simp] theorem blt_bool : bltop .bool1 [.int i] R = .ok (.val (.bl (i != 0))) R := rfl
@[simp] theorem blt_len_tup : bltop .len [.tup ds] R = .ok (.val (.int ds.length)) R := rfl
@[simp] theorem blt_len_lst : bltop .len [.lst ds] R = .ok (.val (.int ds.length)) R := rfl
@[simp] theorem blt_len_scr : bltop .len [.scr ds] R = .ok (.val (.int ds.length)) R := rfl
@[simp] theorem blt_divmod : bltop .divmod [.int i, .int j] R = if 0 < j ∧ j < 1073741824 then .ok (.val (.tup [.int (i / j), .int (i % j)])) R else .bad := rfl
@[simp] theorem blt_tup_lst : bltop .tuple [.lst ds] R = .ok (.val (.tup ds)) R := rfl
@[simp] theorem blt_tup_tup : bltop .tuple [.tup ds] R = .ok (.val (.tup ds)) R := rfl
@[simp] theorem blt_lst_lst : bltop .list [.lst ds] R = .ok (.new (.lst ds)) R := rfl
@[simp] theorem blt_lst_tup : bltop .list [.tup ds] R = .ok (.new (.lst ds)) R := rfl
@[simp] theorem blt_any_tup (ns : List Int) : bltop .any [.tup (ns.map D.int)] R = .ok (.val (.bl (ns.any (· != 0)))) R := by
  have io : ∀ l : List Int, intsOf (l.map D.int) = some l := fun l => by
    induction l with
    | nil => rfl
    | cons x l ih => simp [intsOf, ih]
  show (match intsOf (ns.map D.int) with | some ns => (Out.ok (Rv.val (.bl (ns.any (· != 0)))) R : Out Rv) | none => .bad) = _
  rw [io]
theorem intsOf_map : ∀ l : List Int, intsOf (l.map D.int) = some l
  | [] => rfl
  | x :: l => by simp [intsOf, intsOf_map l]
@[simp] theorem blt_repr_b : bltop .repr1 [.bl b] R = .ok (.val (.str (if b then "True" else "False"))) R := rfl
theorem blt_maxL (n : Int) (ns : List Int) : bltop .maxL [.lst ((n :: ns).map D.int)] R = .ok (.val (.int (maxI n ns))) R := by
  show (match intsOf ((n :: ns).map D.int) with | some (n :: ns) => (Out.ok (Rv.val (.int (maxI n ns))) R : Out Rv) | _ => .bad) = _
  rw [intsOf_map]
theorem blt_minL (n : Int) (ns : List Int) : bltop .minL [.lst ((n :: ns).map D.int)] R = .ok (.val (.int (minI n ns))) R := by
  show (match intsOf ((n :: ns).map D.int) with | some (n :: ns) => (Out.ok (Rv.val (.int (minI n ns))) R : Out Rv) | _ => .bad) = _
  rw [intsOf_map]
@[simp] theorem sub_tup : subOp (.tup ds) (.int i) R = atI ds i := rfl
@[simp] theorem sub_lst : subOp (.lst ds) (.int i) R = atI ds i := rfl
@[simp] theorem sub_scr : subOp (.scr ds) (.int i) R = atI ds i := rfl
@[simp] theorem sub_ref : subOp (.ref n m) (.int i) R = (asL R (.ref n m)).bind fun l => atI l i := by
  show (Option.map (fun ds => (true, ds)) (asL R (.ref n m))).bind _ = _
  cases asL R (.ref n m) <;> rfl
@[simp] theorem asL_ref : asL R (.ref n m) = match sget R n m with | some (.lst ds) => some ds | some (.frz (.lst ds)) => some ds | _ => none := rfl
@[simp] theorem asL_lst : asL R (.lst ds) = some ds := rfl
@[simp] theorem tg_one (k : Nat) : setTg [k] d σ = some (σ.set k (some d)) := by
  cases d <;> rfl
@[simp] theorem tg_two (k l : Nat) (x y : D) : setTg [k, l] (.tup [x, y]) σ = some ((σ.set k (some x)).set l (some y)) := rfl
@[simp] theorem tg_three (k l m : Nat) (x y z : D) : setTg [k, l, m] (.tup [x, y, z]) σ = some (((σ.set k (some x)).set l (some y)).set m (some z)) := rfl
@[simp] theorem byv_int : byv (.int i) R = some (.int i, R) := rfl
@[simp] theorem byv_bl : byv (.bl b) R = some (.bl b, R) := rfl
@[simp] theorem byv_tup : byv (.tup ds) R = some (.tup ds, R) := rfl
@[simp] theorem byv_lst : byv (.lst ds) R = some (.lst ds, R) := rfl
@[simp] theorem byv_non : byv .non R = some (.non, R) := rfl
@[simp] theorem byvL_nil : byvL [] R = some ([], R) := rfl
@[simp] theorem byvL_int : byvL (.int i :: ds) R = match byvL ds R with | some (es, R2) => some (.int i :: es, R2) | none => none := rfl
@[simp] theorem byvL_bl : byvL (.bl b :: ds) R = match byvL ds R with | some (es, R2) => some (.bl b :: es, R2) | none => none := rfl
@[simp] theorem byvL_tup : byvL (.tup es :: ds) R = match byvL ds R with | some (fs, R2) => some (.tup es :: fs, R2) | none => none := rfl
@[simp] theorem byvL_lst : byvL (.lst es :: ds) R = match byvL ds R with | some (fs, R2) => some (.lst es :: fs, R2) | none => none := rfl
@[simp] theorem byvL_non : byvL (.non :: ds) R = match byvL ds R with | some (fs, R2) => some (.non :: fs, R2) | none => none := rfl
@[simp] theorem forI_vals (g : D → En → Option En) (f : En → Sto → Res) (L : List Nat) (lf : Nat) : forI g f L lf σ R (some (.vals ds)) = forV g f ds σ R := rfl
@[simp] theorem forI_live (g : D → En → Option En) (f : En → Sto → Res) (L : List Nat) (lf : Nat) : forI g f L lf σ R (some (.live d)) = if okLive L d then forR g f d lf 0 σ R else .bad := rfl
@[simp] theorem itOf_val : itOf .val R (.val d) = itV R d := rfl
@[simp] theorem itOf_new : itOf .val R (.new o) = itV R (fzO o) := rfl
@[simp] theorem itOf_two : itOf .rng R (.many [.int i, .int j]) = if rngOk i j then some (.vals ((List.range (j - i).toNat).map fun (k : Nat) => .int (i + (k : Int)))) else none := rfl
@[simp] theorem itD_tup : EV.itV R (.tup ds) = some (.vals ds) := rfl
@[simp] theorem itD_lst : EV.itV R (.lst ds) = some (.vals ds) := rfl
@[simp] theorem itD_scr : EV.itV R (.scr ds) = some (.vals ds) := rfl
@[simp] theorem ik_rng1 (a : C) : ik (.rng1 a) = .rng := rfl
@[simp] theorem ik_rng2 (a c : C) : ik (.rng2 a c) = .rng := rfl
@[simp] theorem ik_zipE (a c : C) : ik (.zipE a c) = .zip := rfl
@[simp] theorem ik_enmE (a : C) : ik (.enmE a) = .enm := rfl
@[simp] theorem ik_var (i : Nat) : ik (.var i) = .val := rfl
@[simp] theorem ik_lit (d : D) : ik (.lit d) = .val := rfl
@[simp] theorem ik_glob (x : Nat) (d : D) : ik (.glob x d) = .val := rfl
@[simp] theorem ik_bin (o : Operator) (a b : C) : ik (.bin o a b) = .val := rfl
@[simp] theorem ik_ife (a b c : C) : ik (.ife a b c) = .val := rfl
@[simp] theorem ik_tup (a : C) : ik (.tup a) = .val := rfl
@[simp] theorem ik_lst (a : C) : ik (.lst a) = .val := rfl
@[simp] theorem ik_call (f : Nat) (a : C) : ik (.call f a) = .val := rfl
@[simp] theorem ik_callD (f : Nat) (a : C) (dv : List D) : ik (.callD f a dv) = .val := rfl
@[simp] theorem ik_blt (k : Bk) (a : C) : ik (.blt k a) = .val := rfl
@[simp] theorem ik_fld (a : C) (f : Nat) : ik (.fld a f) = .val := rfl
@[simp] theorem ik_prp (a : C) (f : Nat) : ik (.prp a f) = .val := rfl
@[simp] theorem ik_mth (a : C) (f : Nat) (b : C) : ik (.mth a f b) = .val := rfl
@[simp] theorem ik_sub (a b : C) : ik (.sub a b) = .val := rfl
@[simp] theorem ik_slc (a b c : C) : ik (.slc a b c) = .val := rfl
@[simp] theorem ik_comp (a : C) (l : List Nat) (b c : C) : ik (.comp a l b c) = .val := rfl
@[simp] theorem ik_dget (a b c : C) : ik (.dget a b c) = .val := rfl
@[simp] theorem itOf_zt : itOf .zip R (.many [.tup ds, .tup es]) = some (.vals (zipL ds es)) := rfl
@[simp] theorem itOf_zl : itOf .zip R (.many [.lst ds, .lst es]) = some (.vals (zipL ds es)) := rfl
@[simp] theorem itOf_zk : itOf .zip R (.many [.tup ds, .ktp es]) = some (.vals (zipL ds es)) := rfl
@[simp] theorem itOf_et : itOf .enm R (.many [.tup ds]) = some (.vals (enmL 0 ds)) := rfl
@[simp] theorem itOf_el : itOf .enm R (.many [.lst ds]) = some (.vals (enmL 0 ds)) := rfl
@[simp] theorem itD_ktp : EV.itV R (.ktp ds) = some (.vals ds) := rfl
@[simp] theorem compI_vals (f : D → Sto → Out (Option D)) (lf : Nat) : compI f lf (some (.vals ds)) R = compV f ds R [] := rfl
@[simp] theorem compI_live (f : D → Sto → Out (Option D)) (lf : Nat) : compI f lf (some (.live d)) R = compR f d lf 0 R [] := rfl
@[simp] theorem finR_nx (own : List O) : finR (.nx σ (own :: R)) = .ok (.val .non) R := rfl
@[simp] theorem finR_rt (own : List O) (v : Rv) : finR (.rt v (own :: R)) = retv own R v := rfl
@[simp] theorem retv_int (own : List O) : retv own R (.val (.int i)) = .ok (.val (.int i)) R := rfl
@[simp] theorem retv_bl (own : List O) : retv own R (.val (.bl b)) = .ok (.val (.bl b)) R := rfl
@[simp] theorem retv_non (own : List O) : retv own R (.val .non) = .ok (.val .non) R := rfl
@[simp] theorem retv_tup (own : List O) : retv own R (.val (.tup ds)) = .ok (.val (.tup ds)) R := rfl
@[simp] theorem retv_lst (own : List O) : retv own R (.val (.lst ds)) = .ok (.val (.lst ds)) R := rfl
@[simp] theorem retv_scr (own : List O) : retv own R (.val (.scr ds)) = .ok (.val (.scr ds)) R := rfl
@[simp] theorem retv_new (own : List O) : retv own R (.new o) = .ok (.new o) R := rfl
@[simp] theorem retv_own (own : List O) (p : Nat) : retv own R (.val (.ref 0 p)) = match own[p]? with
    | some (.lst ds) => .ok (.new (.lst ds)) R
    | some (.dct ks ds) => .ok (.new (.dct ks ds)) R
    | some (.dcT ks ds) => .ok (.new (.dcT ks ds)) R
    | some (.ins c ns ds) => .ok (.new (.ins c ns ds)) R
    | some (.frz d) => .ok (.val d) R
    | _ => .bad := rfl
@[simp] theorem up_int : up (.int i) = .int i := rfl
@[simp] theorem up_bl : up (.bl b) = .bl b := rfl
@[simp] theorem up_tup : up (.tup ds) = .tup ds := rfl
@[simp] theorem up_lst : up (.lst ds) = .lst ds := rfl
@[simp] theorem up_scr : up (.scr ds) = .scr ds := rfl
@[simp] theorem up_non : up .non = .non := rfl
@[simp] theorem up_ref : up (.ref n m) = .ref (n + 1) m := rfl
@[simp] theorem sget0 (own : List O) : sget (own :: R) 0 n = own[n]? := rfl
@[simp] theorem sget1 (own : List O) : sget (own :: R) (n + 1) m = sget R n m := rfl
@[simp] theorem sset0 (own : List O) : sset (own :: R) 0 n o = own.set n o :: R := rfl
@[simp] theorem sset1 (own : List O) : sset (own :: R) (n + 1) m o = own :: sset R n m o := rfl
@[simp] theorem app_ref (y : D) : appO (.ref n m) y R = match sget R n m with
    | some (.lst ds) => if ds.length < 100000 then some (sset R n m (.lst (ds ++ [y]))) else none
    | _ => none := rfl
@[simp] theorem ext_ref : extO (.ref n m) es R = match sget R n m with
    | some (.lst ds) => if ds.length + es.length ≤ 100000 then some (sset R n m (.lst (ds ++ es))) else none
    | _ => none := rfl
theorem set_lst {y : D} (h : sget R n m = some (.lst ds)) : setO (.ref n m) (.int i) y R = (L2.ixN ds.length i).bind fun k => some (sset R n m (.lst (ds.set k y))) := by
  simp only [setO, h]
  cases L2.ixN ds.length i <;> rfl
theorem set_dct {y : D} {ks : List Key} (h : sget R n m = some (.dct ks ds)) : setO (.ref n m) (.int i) y R = if ks.length < 100000 then some (sset R n m (.dct (putD ks ds (.inl i) y).1 (putD ks ds (.inl i) y).2)) else none := by
  simp only [setO, h, keyD]
@[simp] theorem isi_ii : Ty.isi .int .int = true := rfl
@[simp] theorem isi_ib : Ty.isi .int .bool = false := rfl
@[simp] theorem tyD_int : tyD R (.int i) = some .int := rfl
@[simp] theorem tyD_bl : tyD R (.bl b) = some .bool := rfl
@[simp] theorem tyD_tup : tyD R (.tup ds) = some .tuple := rfl
@[simp] theorem tyD_lst : tyD R (.lst ds) = some .list := rfl
@[simp] theorem startD_eq : startD n ds = ds.map (fun a => some (up a)) ++ List.replicate (n - ds.length) none := rfl
@[simp] theorem putP_none (k : Nat) (v : Rv) : putP none k v σ R = .nx (σ.set k (some (fz v))) R := rfl
@[simp] theorem putP_new (p k : Nat) (u : O) : putP (some p) k (.new u) σ R = setN k p u σ R := rfl
@[simp] theorem putPP_none (pj : Option Nat) (k l : Nat) (x y : Rv) : putPP none pj k l x y σ R = putP pj l y (σ.set k (some (fz x))) R := rfl
@[simp] theorem putPP_some (p : Nat) (pj : Option Nat) (k l : Nat) (x y : Rv) : putPP (some p) pj k l x y σ R = if plainR x then match putP pj l y σ R with
    | .nx σ1 R1 => putP (some p) k x σ1 R1
    | r => r
    else .bad := rfl
@[simp] theorem plainR_lst : plainR (.new (.lst ds)) = true := rfl
@[simp] theorem plainR_dct (ks : List Key) : plainR (.new (.dct ks ds)) = true := rfl
@[simp] theorem setN_eq (k p : Nat) (u : O) : setN k p u σ R = if noRef (σ.set k none) p then match sget R 0 p with
    | some _ => .nx (σ.set k (some (.ref 0 p))) (sset R 0 p u)
    | none => .bad
  else .bad := rfl
@[simp] theorem noRef_nil (p : Nat) : noRef [] p = true := rfl
@[simp] theorem noRef_none (p : Nat) : noRef (none :: σ) p = noRef σ p := rfl
@[simp] theorem noRef_int (p : Nat) : noRef (some (.int i) :: σ) p = noRef σ p := rfl
@[simp] theorem noRef_bl (p : Nat) : noRef (some (.bl b) :: σ) p = noRef σ p := rfl
@[simp] theorem noRef_tup (p : Nat) : noRef (some (.tup ds) :: σ) p = noRef σ p := rfl
@[simp] theorem noRef_lst (p : Nat) : noRef (some (.lst ds) :: σ) p = noRef σ p := rfl
@[simp] theorem noRef_scr (p : Nat) : noRef (some (.scr ds) :: σ) p = noRef σ p := rfl
@[simp] theorem noRef_non (p : Nat) : noRef (some .non :: σ) p = noRef σ p := rfl
@[simp] theorem noRef_ref0 (p q : Nat) : noRef (some (.ref 0 q) :: σ) p = (!(q == p) && noRef σ p) := rfl
@[simp] theorem noRef_ref1 (p q : Nat) : noRef (some (.ref (n + 1) q) :: σ) p = noRef σ p := rfl
@[simp] theorem cmp_in2 (x y : Int) : cmpop .In (.int i) (.tup [.int x, .int y]) R = some (decide (i = x) || decide (i = y)) := by
  have e : ∀ a b : Int, (a == b) = decide (b = a) := fun a b => by
    rw [Bool.eq_iff_iff, beq_iff_eq, decide_eq_true_iff]
    exact eq_comm
  simp [cmpop, inOp, flatD, asS, flatDs, inV, eqV, e]
theorem compV_some {f : D → Sto → Out (Option D)} {d y : D} {ds acc : List D} {R R' : Sto} (h : f d R = .ok (some y) R') (hl : acc.length < 100000) : compV f (d :: ds) R acc = compV f ds R' (y :: acc) := by
  rw [compV, h]
  simp only [hl, if_true]
theorem compV_none {f : D → Sto → Out (Option D)} {d : D} {ds acc : List D} {R R' : Sto} (h : f d R = .ok none R') : compV f (d :: ds) R acc = compV f ds R' acc := by
  rw [compV, h]
@[simp] theorem compV_nil (f : D → Sto → Out (Option D)) (acc : List D) : compV f [] R acc = .ok (.new (.lst acc.reverse)) R := rfl
/-- a turn whose test is the value v -/
theorem compF_t {ec ee : List (Option D) → Sto → Out Rv} {slots : List Nat} {σ σ1 : En} {d y y' : D} {R R2 R3 R4 : Sto} (h0 : setTg slots d (wipeD σ slots) = some σ1) (h1 : ec σ1 R = .ok (.val (.bl true)) R2) (h2 : ee σ1 R2 = .ok (.val y) R3) (h3 : byv y R3 = some (y', R4)) : compF ec ee slots σ d R = .ok (some y') R4 := by
  unfold compF
  rw [h0]
  dsimp only
  rw [h1]
  simp only [truth_bl, fz_val, h2, h3]
theorem compF_tn {ec ee : List (Option D) → Sto → Out Rv} {slots : List Nat} {σ σ1 : En} {d y' : D} {o : O} {R R2 R3 R4 : Sto} (h0 : setTg slots d (wipeD σ slots) = some σ1) (h1 : ec σ1 R = .ok (.val (.bl true)) R2) (h2 : ee σ1 R2 = .ok (.new o) R3) (h3 : byv (fzO o) R3 = some (y', R4)) : compF ec ee slots σ d R = .ok (some y') R4 := by
  unfold compF
  rw [h0]
  dsimp only
  rw [h1]
  simp only [truth_bl, fz_val, fz_new, h2, h3]
theorem compF_f {ec ee : List (Option D) → Sto → Out Rv} {slots : List Nat} {σ σ1 : En} {d : D} {R R2 : Sto} (h0 : setTg slots d (wipeD σ slots) = some σ1) (h1 : ec σ1 R = .ok (.val (.bl false)) R2) : compF ec ee slots σ d R = .ok none R2 := by
  unfold compF
  rw [h0]
  dsimp only
  rw [h1]
  simp only [truth_bl, fz_val]
@[simp] theorem wipeD_nil : wipeD σ [] = σ := rfl
@[simp] theorem wipeD_cons (k : Nat) (l : List Nat) : wipeD σ (k :: l) = (wipeD σ l).set k none := rfl
@[simp] theorem eqOp_nil : eqOp (.lst []) (.lst []) R = some true := rfl
@[simp] theorem cmp_ne_nil : cmpop .NotEq (.lst []) (.lst []) R = some false := rfl
@[simp] theorem cmp_eq_nil : cmpop .Eq (.lst []) (.lst []) R = some true := rfl
@[simp] theorem ix0 (x : D) : atI (x :: ds) 0 = some x := by
  unfold atI L2.ixN
  rw [if_pos (by omega), if_pos (by rw [List.length_cons]; omega)]
  rfl
@[simp] theorem ix1 (x y : D) : atI (x :: y :: ds) 1 = some y := by
  unfold atI L2.ixN
  rw [if_pos (by omega), if_pos (by rw [List.length_cons, List.length_cons]; omega)]
  rfl
@[simp] theorem ix2 (x y z : D) : atI (x :: y :: z :: ds) 2 = some z := by
  unfold atI L2.ixN
  rw [if_pos (by omega), if_pos (by rw [List.length_cons, List.length_cons, List.length_cons]; omega)]
  rfl
@[simp] theorem ixN3_0 : L2.ixN 3 0 = some 0 := rfl
@[simp] theorem ixN3_1 : L2.ixN 3 1 = some 1 := rfl
@[simp] theorem ixN3_2 : L2.ixN 3 2 = some 2 := rfl
end
end EV

/-! EvZ: the facts of a text's top, told by one Bool that the kernel reckons, and what the table asks of them. -/
namespace EV
open PySem PySem.Spec PyProof.Rows L2
open He (ga ma eqO eqO_ok ba frG frG_in)
abbrev Frg := PySem.W.Frag
def obsZ (ok : Frg → Bool) (fn : List He5.DefA) (K : Frg) : He.AlD := (ok K && fn.all fun d => d.ok K, fn.map fun d => He5.fnA K (d.at_ K))
def valZ (fn : List He5.DefA) : He.AlD := (true, fn.map He5.DefA.val)
def SaysZ (ok : Frg → Bool) (fn : List He5.DefA) (K : Frg) : Prop := obsZ ok fn K = valZ fn
def obsZG (n : Nat) (ok : Frg → Bool) (fn : List He5.DefA) (g : Addr → Option Obj) : He.AlD := obsZ ok fn (frG g (He5.asA g n))
def hookZ (n : Nat) (ok : Frg → Bool) (fn : List He5.DefA) : PySem.W.Hook where
  α := He.AlD
  obs := fun s => obsZG n ok fn s.heap.get?
  val := fun _ => valZ fn
  says := fun _ h => ∃ K : Frg, K.In h ∧ SaysZ ok fn K
  of := fun _ _ e => ⟨_, frG_in, e⟩
  keeps := fun _ _ _ ⟨K, hK, c⟩ k => ⟨K, PySem.W.Frag.In.keeps hK k, c⟩
theorem obsZG_eq {n : Nat} {ok : Frg → Bool} {fn : List He5.DefA} {g : Addr → Option Obj} {s : Shared} (h : ∀ a, g a = s.heap.get? a) : obsZG n ok fn g = (hookZ n ok fn).obs s := by
  have e : g = s.heap.get? := funext h
  rw [e] <;> rfl
section
variable {okf : Frg → Bool} {fn : List He5.DefA} {K : Frg}
theorem SaysZ.fact (c : SaysZ okf fn K) : okf K = true :=
  (ba (show (okf K && fn.all fun d => d.ok K) = true from congrArg (fun z : He.AlD => z.1) c)).1
theorem SaysZ.def_ (c : SaysZ okf fn K) (i : Nat) {d : He5.DefA} (h : fn[i]? = some d := by rfl) : ∃ fd, FunD K d.name d.qual d.params d.body d.scope (d.dvs K) (d.kws K) (d.at_ K) fd := by
  have c2 := (ba (show (okf K && fn.all fun d => d.ok K) = true from congrArg (fun z : He.AlD => z.1) c)).2
  have e : fn.map (fun d => He5.fnA K (d.at_ K)) = fn.map He5.DefA.val := congrArg (fun z : He.AlD => z.2) c
  have e2 : (fn.map fun d => He5.fnA K (d.at_ K))[i]? = (fn.map He5.DefA.val)[i]? := by rw [e]
  rw [List.getElem?_map, List.getElem?_map, h] at e2
  exact He5.DefA.funD (Option.some.inj e2) (List.all_eq_true.mp c2 d (List.mem_of_getElem? h))
end
/-- where a def stands -/
inductive Loc where
  | glo (x : Str) | met (c m : Str) | pro (c f : Str)
def Loc.at_ (l : Loc) (K : Frg) : Addr := match l with
  | .glo x => ga K x
  | .met c m => ma K (ga K c) m
  | .pro c f => match PySem.W.recIn K (ma K (ga K c) f) "property" with
    | some (.ref a :: _) => a
    | _ => 0
def Loc.ok (K : Frg) : Loc → Bool
  | .glo x => eqO (PySem.W.nsIn K mainGlobals x) (some (some (.ref (ga K x))))
  | .met c m => eqO (PySem.W.findIn K (.ref (ga K c)) m) (some (some (.ref (ma K (ga K c) m)))) && (PySem.W.isFn K (.ref (ma K (ga K c) m)) && PySem.W.keepIn K (.ref (ma K (ga K c) m)))
  | .pro c f => eqO (PySem.W.findIn K (.ref (ga K c)) f) (some (some (.ref (ma K (ga K c) f)))) && (eqO (PySem.W.specialIn K (.ref (ma K (ga K c) f)) "__get__") (some (some (.builtin "property.__get__"))) &&
      (decide (PySem.W.takesIn K (.ref (ma K (ga K c) f)) = some true) && (match PySem.W.recIn K (ma K (ga K c) f) "property" with
        | some (.ref _ :: _) => true
        | _ => false)))
section
variable {K : Frg} {h : Heap} {mg : Str → Option Value}
theorem glo_of (X : K.In h) (G : h.Ns mainGlobals mg) {x : Str} (c : (Loc.glo x).ok K = true) : mg x = some (.ref ((Loc.glo x).at_ K)) := PySem.W.mg_of X G (eqO_ok c)
theorem met_of {c m : Str} (e : (Loc.met c m).ok K = true) : Meth K (ga K c) m ((Loc.met c m).at_ K) := by
  obtain ⟨c1, c⟩ := ba e
  obtain ⟨c2, c3⟩ := ba c
  exact ⟨eqO_ok c1, c2, c3⟩
theorem pro_of {c f : Str} (e : (Loc.pro c f).ok K = true) : ∃ p rest, PySem.W.findIn K (.ref (ga K c)) f = some (some (.ref p)) ∧ PySem.W.specialIn K (.ref p) "__get__" = some (some (.builtin "property.__get__")) ∧
    PySem.W.takesIn K (.ref p) = some true ∧ PySem.W.recIn K p "property" = some (.ref ((Loc.pro c f).at_ K) :: rest) := by
  obtain ⟨c1, e⟩ := ba e
  obtain ⟨c2, e⟩ := ba e
  obtain ⟨c3, e⟩ := ba e
  unfold Loc.at_
  dsimp only
  cases q : PySem.W.recIn K (ma K (ga K c) f) "property" with
  | none => rw [q] at e; cases e
  | some l =>
    rw [q] at e
    cases l with
    | nil => cases e
    | cons v rest =>
      cases v with
      | ref a => exact ⟨_, rest, eqO_ok c1, eqO_ok c2, of_decide_eq_true c3, q⟩
      | _ => cases e
end
/-- a class with slots of its own, over object alone -/
def clsZ (K : Frg) (x : Str) : Bool := eqO (PySem.W.nsIn K mainGlobals x) (some (some (.ref (ga K x)))) &&
  (PySem.W.plainGet K (ga K x) Str.empty && (PySem.W.isClsIn K (ga K x) && (PySem.W.plainOver K (ga K x) && (eqO (PySem.W.findIn K (.ref (ga K x)) "__setattr__") (some (some (.builtin "object.__setattr__"))) &&
  (eqO (PySem.W.findIn K (.ref (ga K x)) "__class__") (some (some (.builtin "object.__class__"))) && (eqO (PySem.W.specialIn K (.builtin "object.__class__") "__get__") (some (some (.builtin "getset_descriptor.__get__"))) &&
  (decide (PySem.W.takesIn K (.builtin "object.__class__") = some true) && (decide (PySem.W.mroIn K (ga K x) (.type "object") = some true) && (decide (PySem.W.typeIn K (.ref (ga K x)) = some (.type "type")) && (PySem.W.selfFirst K (ga K x) &&
  ((match PySem.W.clsIn K (ga K x) with
    | some cd => decide (cd.mro = [.ref (ga K x), .type "object"]) && decide (cd.name = x)
    | none => false) && (eqO (PySem.W.findIn K (.ref (ga K x)) "__ne__") (some (some (.builtin "object.__ne__"))) && (PySem.W.makesIn K (ga K x) && PySem.W.keepIn K (.ref (ga K x)))))))))))))))
theorem clsZ_ok {K : Frg} {x : Str} {c : Nat} (hx : nmN c = x) (e : clsZ K x = true) : ClsA K c (ga K x) ∧ PySem.W.makesIn K (ga K x) = true ∧ PySem.W.keepIn K (.ref (ga K x)) = true := by
  obtain ⟨c1, e⟩ := ba e
  obtain ⟨c2, e⟩ := ba e
  obtain ⟨c3, e⟩ := ba e
  obtain ⟨c4, e⟩ := ba e
  obtain ⟨c5, e⟩ := ba e
  obtain ⟨c6, e⟩ := ba e
  obtain ⟨c7, e⟩ := ba e
  obtain ⟨c8, e⟩ := ba e
  obtain ⟨c9, e⟩ := ba e
  obtain ⟨c10, e⟩ := ba e
  obtain ⟨c11, e⟩ := ba e
  obtain ⟨c12, e⟩ := ba e
  obtain ⟨c13, e⟩ := ba e
  obtain ⟨c14, c15⟩ := ba e
  refine ⟨⟨by rw [hx]; exact eqO_ok c1, ⟨c2, c3, c4, eqO_ok c5⟩, ⟨eqO_ok c6, eqO_ok c7, of_decide_eq_true c8, of_decide_eq_true c9⟩, of_decide_eq_true c10, c11, ?_, eqO_ok c13⟩, c14, c15⟩
  rw [hx]
  cases q : PySem.W.clsIn K (ga K x) with
  | none => rw [q] at c12; cases c12
  | some cd =>
    rw [q] at c12
    obtain ⟨k1, k2⟩ := ba (show (decide (cd.mro = [.ref (ga K x), .type "object"]) && decide (cd.name = x)) = true from c12)
    exact ⟨cd, rfl, of_decide_eq_true k1, of_decide_eq_true k2⟩
def sloZ (K : Frg) (x f : Str) (i : Nat) : Bool := eqO (PySem.W.findIn K (.ref (ga K x)) f) (some (some (.ref (ma K (ga K x) f)))) && (eqO (PySem.W.specialIn K (.ref (ma K (ga K x) f)) "__get__") (some (some (.builtin "member_descriptor.__get__"))) &&
  (decide (PySem.W.takesIn K (.ref (ma K (ga K x) f)) = some true) && (decide (PySem.W.typeIn K (.ref (ma K (ga K x) f)) = some (.type "member_descriptor")) && (decide (PySem.W.slotIn K (ma K (ga K x) f) (ga K x) = some i) && decide (i < 1000)))))
theorem sloZ_ok {K : Frg} {x f : Str} {i : Nat} (e : sloZ K x f i = true) : SlX.Slot1 K (ga K x) f (ma K (ga K x) f) i := by
  obtain ⟨c1, e⟩ := ba e
  obtain ⟨c2, e⟩ := ba e
  obtain ⟨c3, e⟩ := ba e
  obtain ⟨c4, e⟩ := ba e
  obtain ⟨c5, c6⟩ := ba e
  exact ⟨eqO_ok c1, eqO_ok c2, of_decide_eq_true c3, of_decide_eq_true c4, of_decide_eq_true c5, of_decide_eq_true c6⟩
/-- all that the table asks: places of defs, built-in names that are free, int constants, classes, slots -/
structure Zf where
  locs : List Loc
  free : List Str
  cvs : List (Str × Int)
  cls : List Str
  slo : List (Str × Str × Nat)
def intZ (K : Frg) (p : Str × Int) : Bool := match PySem.W.nsIn K mainGlobals p.1 with
  | some (some (.int j _)) => decide (j = p.2)
  | _ => false
def Zf.ok (z : Zf) (K : Frg) : Bool := (z.locs.all fun l => l.ok K) && ((z.free.all fun x => eqO (PySem.W.nsIn K mainGlobals x) (some none)) && ((z.cvs.all fun p => intZ K p) && ((z.cls.all fun x => clsZ K x) && (z.slo.all fun q => sloZ K q.1 q.2.1 q.2.2))))
section
variable {z : Zf} {K : Frg} {h : Heap} {mg : Str → Option Value}
theorem Zf.loc (e : z.ok K = true) {l : Loc} (i : Nat) (hi : z.locs[i]? = some l := by rfl) : l.ok K = true := List.all_eq_true.mp (ba e).1 l (List.mem_of_getElem? hi)
theorem Zf.fr (e : z.ok K = true) (X : K.In h) (G : h.Ns mainGlobals mg) {x : Str} (hx : x ∈ z.free) : mg x = none := PySem.W.mg_none_of X G (eqO_ok (List.all_eq_true.mp (ba (ba e).2).1 x hx))
theorem Zf.int_ (e : z.ok K = true) (X : K.In h) (G : h.Ns mainGlobals mg) (j : Nat) {x : Str} {i : Int} (hx : z.cvs[j]? = some (x, i) := by rfl) : ∃ t, mg x = some (.int i t) := by
  have c := List.all_eq_true.mp (ba (ba (ba e).2).2).1 (x, i) (List.mem_of_getElem? hx)
  unfold intZ at c
  cases q : PySem.W.nsIn K mainGlobals x with
  | none => simp only [q] at c; cases c
  | some o =>
    cases o with
    | none => simp only [q] at c; cases c
    | some v =>
      cases v with
      | int j t =>
        simp only [q] at c
        have ej : j = i := of_decide_eq_true c
        rw [ej] at q
        exact ⟨t, PySem.W.mg_of X G q⟩
      | _ => simp only [q] at c; cases c
theorem Zf.cl (e : z.ok K = true) (j : Nat) {x : Str} (hx : z.cls[j]? = some x := by rfl) : clsZ K x = true := List.all_eq_true.mp (ba (ba (ba (ba e).2).2).2).1 x (List.mem_of_getElem? hx)
theorem Zf.sl (e : z.ok K = true) (j : Nat) {x f : Str} {i : Nat} (hx : z.slo[j]? = some (x, f, i) := by rfl) : sloZ K x f i = true := List.all_eq_true.mp (ba (ba (ba (ba e).2).2).2).2 (x, f, i) (List.mem_of_getElem? hx)
end
/-- one def of the text, for the Hook -/
def defZ (l : Loc) (x q : Str) (st : Stmt) (dfl : List He.Dv) : He5.DefA := ⟨l.at_, x, q, defArgs st, defBody st, defScope st, dfl, []⟩
theorem FunD.bindsX {K : Frg} {x qual : Str} {st : Stmt} {f : Addr} {fd : FuncData} {ps : List Str} (F : FunD K x qual (defArgs st) (defBody st) (defScope st) [] [] f fd)
    (h : ∀ (kV doc pm : Value) (an : Option Addr) (cdv ct : Value) (us : List Value), us.length = ps.length → bindArgs (PySem.W.fnOf x qual (defArgs st) (defBody st) (defScope st) .none kV doc pm an cdv ct) ⟨us, []⟩ = pure (ps.zip us)) : Binds K fd ps [] :=
  (He5.fun_of F).binds h
/-! the head in parts, each reckoned by itself -/
theorem obsZ_app {ok1 ok2 : Frg → Bool} {f1 f2 : List He5.DefA} {K : Frg} (h1 : obsZ ok1 f1 K = valZ f1) (h2 : obsZ ok2 f2 K = valZ f2) : obsZ ok1 (f1 ++ f2) K = valZ (f1 ++ f2) := by
  unfold obsZ valZ at *
  obtain ⟨a1, b1⟩ := Prod.mk.inj h1
  obtain ⟨a2, b2⟩ := Prod.mk.inj h2
  rw [Bool.and_eq_true] at a1 a2
  rw [List.all_append, a1.1, a1.2, a2.2, List.map_append, List.map_append, b1, b2]
  rfl
theorem map_obs {x : Option PySem.W.SharedT} {n : Nat} {ok1 ok2 : Frg → Bool} {f1 f2 : List He5.DefA} (h1 : x.map (fun s => obsZG n ok1 f1 (HandSHeadRun.getT s)) = some (valZ f1)) (h2 : x.map (fun s => obsZG n ok2 f2 (HandSHeadRun.getT s)) = some (valZ f2)) : x.map (fun s => obsZG n ok1 (f1 ++ f2) (HandSHeadRun.getT s)) = some (valZ (f1 ++ f2)) := by
  cases x with
  | none => cases h1
  | some s => exact congrArg some (obsZ_app (Option.some.inj h1) (Option.some.inj h2))
theorem map_two {α β γ δ : Type} {x : Option α} {A : α → β} {B : α → γ} {C : α → δ} {a : β} {b : γ} {c : δ} (h : x.map (fun s => (A s, B s)) = some (a, b)) (hc : x.map C = some c) : x.map (fun s => (A s, B s, C s)) = some (a, b, c) := by
  cases x with
  | none => cases h
  | some s =>
    obtain ⟨h1, h2⟩ := Prod.mk.inj (Option.some.inj h)
    show some (A s, B s, C s) = _
    rw [h1, h2, Option.some.inj hc]
/-- the same at told addresses -/
def obsL (as : List Addr) (ok : Frg → Bool) (fn : List He5.DefA) (g : Addr → Option Obj) : He.AlD := obsZ ok fn (frG g as)
def hookL (as : List Addr) (ok : Frg → Bool) (fn : List He5.DefA) : PySem.W.Hook where
  α := He.AlD
  obs := fun s => obsL as ok fn s.heap.get?
  val := fun _ => valZ fn
  says := fun _ h => ∃ K : Frg, K.In h ∧ SaysZ ok fn K
  of := fun _ _ e => ⟨_, frG_in, e⟩
  keeps := fun _ _ _ ⟨K, hK, c⟩ k => ⟨K, PySem.W.Frag.In.keeps hK k, c⟩
theorem obsL_eq {as : List Addr} {ok : Frg → Bool} {fn : List He5.DefA} {g : Addr → Option Obj} {s : Shared} (h : ∀ a, g a = s.heap.get? a) : obsL as ok fn g = (hookL as ok fn).obs s := by
  have e : g = s.heap.get? := funext h
  rw [e] <;> rfl
theorem map_obsL {x : Option PySem.W.SharedT} {as : List Addr} {ok1 ok2 : Frg → Bool} {f1 f2 : List He5.DefA} (h1 : x.map (fun s => obsL as ok1 f1 (HandSHeadRun.getT s)) = some (valZ f1)) (h2 : x.map (fun s => obsL as ok2 f2 (HandSHeadRun.getT s)) = some (valZ f2)) : x.map (fun s => obsL as ok1 (f1 ++ f2) (HandSHeadRun.getT s)) = some (valZ (f1 ++ f2)) := by
  cases x with
  | none => cases h1
  | some s => exact congrArg some (obsZ_app (Option.some.inj h1) (Option.some.inj h2))
end EV

/-! HQ: plain law: fractions and fours over the fractions, their lowest terms, bounds. -/
namespace HQ
structure H where
  w : Rat
  x : Rat
  y : Rat
  z : Rat
deriving DecidableEq
theorem H.ext' {p q : H} (h1 : p.w = q.w) (h2 : p.x = q.x) (h3 : p.y = q.y) (h4 : p.z = q.z) : p = q := by
  cases p; cases q; simp_all
/-- a bottom and four entries -/
structure E5 where
  b : Int
  e0 : Int
  e1 : Int
  e2 : Int
  e3 : Int
deriving DecidableEq
def g5 (b e0 e1 e2 e3 : Int) : Nat := Nat.gcd (Nat.gcd (Nat.gcd (Nat.gcd b.natAbs e0.natAbs) e1.natAbs) e2.natAbs) e3.natAbs
def s5 (b e0 e1 e2 e3 : Int) : Int := if 0 < b then (g5 b e0 e1 e2 e3 : Int) else -(g5 b e0 e1 e2 e3 : Int)
def low (b e0 e1 e2 e3 : Int) : E5 := ⟨b / s5 b e0 e1 e2 e3, e0 / s5 b e0 e1 e2 e3, e1 / s5 b e0 e1 e2 e3, e2 / s5 b e0 e1 e2 e3, e3 / s5 b e0 e1 e2 e3⟩
theorem g5_dvd (b e0 e1 e2 e3 : Int) : (g5 b e0 e1 e2 e3 : Int) ∣ b ∧ (g5 b e0 e1 e2 e3 : Int) ∣ e0 ∧ (g5 b e0 e1 e2 e3 : Int) ∣ e1 ∧ (g5 b e0 e1 e2 e3 : Int) ∣ e2 ∧ (g5 b e0 e1 e2 e3 : Int) ∣ e3 := by
  have d3 : g5 b e0 e1 e2 e3 ∣ e3.natAbs := Nat.gcd_dvd_right _ _
  have t3 : g5 b e0 e1 e2 e3 ∣ Nat.gcd (Nat.gcd (Nat.gcd b.natAbs e0.natAbs) e1.natAbs) e2.natAbs := Nat.gcd_dvd_left _ _
  have d2 := Nat.dvd_trans t3 (Nat.gcd_dvd_right _ _)
  have t2 := Nat.dvd_trans t3 (Nat.gcd_dvd_left _ _)
  have d1 := Nat.dvd_trans t2 (Nat.gcd_dvd_right _ _)
  have t1 := Nat.dvd_trans t2 (Nat.gcd_dvd_left _ _)
  have d0 := Nat.dvd_trans t1 (Nat.gcd_dvd_right _ _)
  have t0 := Nat.dvd_trans t1 (Nat.gcd_dvd_left _ _)
  have c : ∀ {n : Nat} {i : Int}, n ∣ i.natAbs → (n : Int) ∣ i := fun h => Int.natAbs_dvd_natAbs.mp (by simpa using h)
  exact ⟨c t0, c d0, c d1, c d2, c d3⟩
theorem g5_pos {b : Int} (hb : b ≠ 0) (e0 e1 e2 e3 : Int) : 0 < g5 b e0 e1 e2 e3 := by
  rcases Nat.eq_zero_or_pos (g5 b e0 e1 e2 e3) with h | h
  · have := (g5_dvd b e0 e1 e2 e3).1
    rw [h] at this
    exact absurd (Int.zero_dvd.mp this) hb
  · exact h
theorem s5_ne {b : Int} (hb : b ≠ 0) (e0 e1 e2 e3 : Int) : s5 b e0 e1 e2 e3 ≠ 0 := by
  have := g5_pos hb e0 e1 e2 e3
  unfold s5
  split <;> omega
theorem s5_dvd (b e0 e1 e2 e3 : Int) : s5 b e0 e1 e2 e3 ∣ b ∧ s5 b e0 e1 e2 e3 ∣ e0 ∧ s5 b e0 e1 e2 e3 ∣ e1 ∧ s5 b e0 e1 e2 e3 ∣ e2 ∧ s5 b e0 e1 e2 e3 ∣ e3 := by
  obtain ⟨h0, h1, h2, h3, h4⟩ := g5_dvd b e0 e1 e2 e3
  unfold s5
  split
  · exact ⟨h0, h1, h2, h3, h4⟩
  · exact ⟨Int.neg_dvd.mpr h0, Int.neg_dvd.mpr h1, Int.neg_dvd.mpr h2, Int.neg_dvd.mpr h3, Int.neg_dvd.mpr h4⟩
/-- what low gives, multiplied back -/
theorem low_mul (b e0 e1 e2 e3 : Int) : (low b e0 e1 e2 e3).b * s5 b e0 e1 e2 e3 = b ∧ (low b e0 e1 e2 e3).e0 * s5 b e0 e1 e2 e3 = e0 ∧ (low b e0 e1 e2 e3).e1 * s5 b e0 e1 e2 e3 = e1 ∧ (low b e0 e1 e2 e3).e2 * s5 b e0 e1 e2 e3 = e2 ∧ (low b e0 e1 e2 e3).e3 * s5 b e0 e1 e2 e3 = e3 := by
  obtain ⟨h0, h1, h2, h3, h4⟩ := s5_dvd b e0 e1 e2 e3
  exact ⟨Int.ediv_mul_cancel h0, Int.ediv_mul_cancel h1, Int.ediv_mul_cancel h2, Int.ediv_mul_cancel h3, Int.ediv_mul_cancel h4⟩
theorem low_pos {b : Int} (hb : b ≠ 0) (e0 e1 e2 e3 : Int) : 0 < (low b e0 e1 e2 e3).b := by
  have h := (low_mul b e0 e1 e2 e3).1
  have g := g5_pos hb e0 e1 e2 e3
  rcases Int.lt_or_gt_of_ne hb with hn | hp
  · have hs : s5 b e0 e1 e2 e3 < 0 := by unfold s5; rw [if_neg (by omega)]; omega
    rcases Int.lt_or_le 0 (low b e0 e1 e2 e3).b with q | q
    · exact q
    · have := Int.mul_nonneg_of_nonpos_of_nonpos q (Int.le_of_lt hs)
      omega
  · have hs : 0 < s5 b e0 e1 e2 e3 := by unfold s5; rw [if_pos hp]; omega
    exact Int.pos_of_mul_pos_left_ne h hs hp
where
  Int.pos_of_mul_pos_left_ne {c s b : Int} (h : c * s = b) (hs : 0 < s) (hp : 0 < b) : 0 < c := by
    rcases Int.lt_or_le 0 c with q | q
    · exact q
    · have := Int.mul_nonpos_of_nonpos_of_nonneg q (Int.le_of_lt hs)
      omega
theorem low_cop {b : Int} (hb : b ≠ 0) (e0 e1 e2 e3 : Int) : g5 (low b e0 e1 e2 e3).b (low b e0 e1 e2 e3).e0 (low b e0 e1 e2 e3).e1 (low b e0 e1 e2 e3).e2 (low b e0 e1 e2 e3).e3 = 1 := by
  obtain ⟨h0, h1, h2, h3, h4⟩ := low_mul b e0 e1 e2 e3
  have hs : (s5 b e0 e1 e2 e3).natAbs = g5 b e0 e1 e2 e3 := by unfold s5; split <;> omega
  have gp := g5_pos hb e0 e1 e2 e3
  generalize hl : low b e0 e1 e2 e3 = l at *
  have key : g5 b e0 e1 e2 e3 = g5 l.b l.e0 l.e1 l.e2 l.e3 * g5 b e0 e1 e2 e3 := by
    generalize hg : g5 b e0 e1 e2 e3 = g at *
    generalize s5 b e0 e1 e2 e3 = s at *
    unfold g5 at hg
    rw [← h0, ← h1, ← h2, ← h3, ← h4] at hg
    simp only [Int.natAbs_mul] at hg
    rw [hs, Nat.gcd_mul_right, Nat.gcd_mul_right, Nat.gcd_mul_right, Nat.gcd_mul_right] at hg
    exact hg.symm
  exact Nat.eq_of_mul_eq_mul_right gp (by omega)
/-- lowest terms are told by the fractions -/
theorem low_uniq {l m : E5} (hl : 0 < l.b) (hm : 0 < m.b) (gl : g5 l.b l.e0 l.e1 l.e2 l.e3 = 1) (gm : g5 m.b m.e0 m.e1 m.e2 m.e3 = 1) (h0 : l.e0 * m.b = m.e0 * l.b) (h1 : l.e1 * m.b = m.e1 * l.b) (h2 : l.e2 * m.b = m.e2 * l.b) (h3 : l.e3 * m.b = m.e3 * l.b) : l = m := by
  have dv : ∀ {l m : E5}, g5 l.b l.e0 l.e1 l.e2 l.e3 = 1 → l.e0 * m.b = m.e0 * l.b → l.e1 * m.b = m.e1 * l.b → l.e2 * m.b = m.e2 * l.b → l.e3 * m.b = m.e3 * l.b → l.b.natAbs ∣ m.b.natAbs := by
    intro l m g h0 h1 h2 h3
    have d : ∀ {e f : Int}, e * m.b = f * l.b → l.b.natAbs ∣ e.natAbs * m.b.natAbs := fun {e f} h => by
      rw [← Int.natAbs_mul, h, Int.natAbs_mul]
      exact Nat.dvd_mul_left _ _
    have t : l.b.natAbs ∣ g5 l.b l.e0 l.e1 l.e2 l.e3 * m.b.natAbs := by
      unfold g5
      rw [← Nat.gcd_mul_right, ← Nat.gcd_mul_right, ← Nat.gcd_mul_right, ← Nat.gcd_mul_right]
      exact Nat.dvd_gcd (Nat.dvd_gcd (Nat.dvd_gcd (Nat.dvd_gcd (Nat.dvd_mul_right _ _) (d h0)) (d h1)) (d h2)) (d h3)
    rwa [g, Nat.one_mul] at t
  have e1 := Nat.dvd_antisymm (dv gl h0 h1 h2 h3) (dv gm h0.symm h1.symm h2.symm h3.symm)
  have e2 : l.b = m.b := by omega
  cases l; cases m
  simp only at *
  subst e2
  have c : ∀ {x y z : Int}, 0 < z → x * z = y * z → x = y := fun hz h => Int.eq_of_mul_eq_mul_right (by omega) h
  rw [c hl h0, c hl h1, c hl h2, c hl h3]
theorem low_eq {b b' : Int} {e0 e1 e2 e3 f0 f1 f2 f3 : Int} (hb : b ≠ 0) (hb' : b' ≠ 0) (h0 : e0 * b' = f0 * b) (h1 : e1 * b' = f1 * b) (h2 : e2 * b' = f2 * b) (h3 : e3 * b' = f3 * b) : low b e0 e1 e2 e3 = low b' f0 f1 f2 f3 := by
  obtain ⟨a0, a1, a2, a3, a4⟩ := low_mul b e0 e1 e2 e3
  obtain ⟨c0, c1, c2, c3, c4⟩ := low_mul b' f0 f1 f2 f3
  have s1 := s5_ne hb e0 e1 e2 e3
  have s2 := s5_ne hb' f0 f1 f2 f3
  refine low_uniq (low_pos hb ..) (low_pos hb' ..) (low_cop hb ..) (low_cop hb' ..) ?_ ?_ ?_ ?_
  all_goals
    generalize low b e0 e1 e2 e3 = l at *
    generalize low b' f0 f1 f2 f3 = m at *
    generalize s5 b e0 e1 e2 e3 = s at *
    generalize s5 b' f0 f1 f2 f3 = t at *
    have ne : s * t ≠ 0 := Int.mul_ne_zero s1 s2
    refine Int.eq_of_mul_eq_mul_right ne ?_
    grind
/-- the four of a bottom and entries -/
def ofE (b e0 e1 e2 e3 : Int) : H := ⟨(e0 : Rat) / (b : Rat), (e1 : Rat) / (b : Rat), (e2 : Rat) / (b : Rat), (e3 : Rat) / (b : Rat)⟩
def rep (v : H) : E5 := low ((v.w.den : Int) * v.x.den * v.y.den * v.z.den) (v.w.num * (v.x.den * v.y.den * v.z.den)) (v.x.num * (v.w.den * v.y.den * v.z.den)) (v.y.num * (v.w.den * v.x.den * v.z.den)) (v.z.num * (v.w.den * v.x.den * v.y.den))
theorem den_ne (q : Rat) : (q.den : Int) ≠ 0 := by have := q.den_nz; omega
theorem castI_ne {b : Int} (h : b ≠ 0) : (b : Rat) ≠ 0 := by
  intro e
  exact h (by exact_mod_cast e)
theorem num_den (q : Rat) : q = (q.num : Rat) / ((q.den : Int) : Rat) := by
  have := Rat.num_divInt_den q
  rw [Rat.divInt_eq_div] at this
  exact this.symm
theorem div_eq {a b c d : Int} (hb : b ≠ 0) (hd : d ≠ 0) : (a : Rat) / (b : Rat) = (c : Rat) / (d : Rat) ↔ a * d = c * b := by
  have h1 := castI_ne hb
  have h2 := castI_ne hd
  constructor
  · intro h
    have : (a : Rat) * d = c * b := by grind
    exact_mod_cast this
  · intro h
    have : (a : Rat) * d = c * b := by exact_mod_cast h
    grind
theorem low_rep {b : Int} (hb : b ≠ 0) (e0 e1 e2 e3 : Int) : low b e0 e1 e2 e3 = rep (ofE b e0 e1 e2 e3) := by
  have n := den_ne
  have q : ∀ e : Int, e * (((e : Rat) / (b : Rat)).den : Int) = ((e : Rat) / (b : Rat)).num * b := fun e => (div_eq hb (n _)).mp (num_den _)
  refine low_eq hb ?_ ?_ ?_ ?_ ?_
  · exact Int.mul_ne_zero (Int.mul_ne_zero (Int.mul_ne_zero (n _) (n _)) (n _)) (n _)
  all_goals
    simp only [ofE]
    have q0 := q e0
    have q1 := q e1
    have q2 := q e2
    have q3 := q e3
    grind
theorem rep_pos (v : H) : 0 < (rep v).b := low_pos (Int.mul_ne_zero (Int.mul_ne_zero (Int.mul_ne_zero (den_ne _) (den_ne _)) (den_ne _)) (den_ne _)) ..
theorem rep_ne (v : H) : (rep v).b ≠ 0 := by have := rep_pos v; omega
theorem of_rep (v : H) : ofE (rep v).b (rep v).e0 (rep v).e1 (rep v).e2 (rep v).e3 = v := by
  have n := den_ne
  have D : (v.w.den : Int) * v.x.den * v.y.den * v.z.den ≠ 0 := Int.mul_ne_zero (Int.mul_ne_zero (Int.mul_ne_zero (n _) (n _)) (n _)) (n _)
  obtain ⟨a0, a1, a2, a3, a4⟩ := low_mul ((v.w.den : Int) * v.x.den * v.y.den * v.z.den) (v.w.num * (v.x.den * v.y.den * v.z.den)) (v.x.num * (v.w.den * v.y.den * v.z.den)) (v.y.num * (v.w.den * v.x.den * v.z.den)) (v.z.num * (v.w.den * v.x.den * v.y.den))
  have s := s5_ne D (v.w.num * (v.x.den * v.y.den * v.z.den)) (v.x.num * (v.w.den * v.y.den * v.z.den)) (v.y.num * (v.w.den * v.x.den * v.z.den)) (v.z.num * (v.w.den * v.x.den * v.y.den))
  have sn := s
  have r : low ((v.w.den : Int) * v.x.den * v.y.den * v.z.den) (v.w.num * (v.x.den * v.y.den * v.z.den)) (v.x.num * (v.w.den * v.y.den * v.z.den)) (v.y.num * (v.w.den * v.x.den * v.z.den)) (v.z.num * (v.w.den * v.x.den * v.y.den)) = rep v := rfl
  have p := rep_ne v
  rw [r] at a0 a1 a2 a3 a4
  generalize s5 _ _ _ _ _ = t at *
  have w0 := n v.w
  have w1 := n v.x
  have w2 := n v.y
  have w3 := n v.z
  refine H.ext' ?_ ?_ ?_ ?_
  · conv => rhs; rw [num_den v.w]
    refine (div_eq p (n _)).mpr ?_
    have ne : t * (v.x.den * v.y.den * v.z.den) ≠ 0 := Int.mul_ne_zero sn (Int.mul_ne_zero (Int.mul_ne_zero w1 w2) w3)
    refine Int.eq_of_mul_eq_mul_right ne ?_
    grind
  · conv => rhs; rw [num_den v.x]
    refine (div_eq p (n _)).mpr ?_
    have ne : t * (v.w.den * v.y.den * v.z.den) ≠ 0 := Int.mul_ne_zero sn (Int.mul_ne_zero (Int.mul_ne_zero w0 w2) w3)
    refine Int.eq_of_mul_eq_mul_right ne ?_
    grind
  · conv => rhs; rw [num_den v.y]
    refine (div_eq p (n _)).mpr ?_
    have ne : t * (v.w.den * v.x.den * v.z.den) ≠ 0 := Int.mul_ne_zero sn (Int.mul_ne_zero (Int.mul_ne_zero w0 w1) w3)
    refine Int.eq_of_mul_eq_mul_right ne ?_
    grind
  · conv => rhs; rw [num_den v.z]
    refine (div_eq p (n _)).mpr ?_
    have ne : t * (v.w.den * v.x.den * v.y.den) ≠ 0 := Int.mul_ne_zero sn (Int.mul_ne_zero (Int.mul_ne_zero w0 w1) w2)
    refine Int.eq_of_mul_eq_mul_right ne ?_
    grind
theorem rep_inj {p q : H} (h : rep p = rep q) : p = q := by rw [← of_rep p, ← of_rep q, h]
end HQ

/-! HB: how long numbers may be: bounds found by instances. -/
namespace HQ
/-- x has at most n binary digits -/
class BI (x : Int) (n : outParam Nat) : Prop where
  h : x.natAbs < 2 ^ n
class BR (q : Rat) (n : outParam Nat) : Prop where
  t : q.num.natAbs < 2 ^ n
  d : q.den < 2 ^ n
class BE (e : E5) (n : outParam Nat) : Prop where
  b : e.b.natAbs < 2 ^ n
  e0 : e.e0.natAbs < 2 ^ n
  e1 : e.e1.natAbs < 2 ^ n
  e2 : e.e2.natAbs < 2 ^ n
  e3 : e.e3.natAbs < 2 ^ n
class BH (v : H) (n : outParam Nat) : Prop where
  h : BE (rep v) n
theorem pow_mono {n m : Nat} (h : n ≤ m) : 2 ^ n ≤ 2 ^ m := Nat.pow_le_pow_right (by decide) h
theorem BI.up {x : Int} {n m : Nat} (b : BI x n) (h : n ≤ m) : BI x m := ⟨Nat.lt_of_lt_of_le b.h (pow_mono h)⟩
instance {q : Rat} {n : Nat} [b : BR q n] : BI q.num n := ⟨b.t⟩
instance {q : Rat} {n : Nat} [b : BR q n] : BI (q.den : Int) n := ⟨by simpa using b.d⟩
instance {v : H} {n : Nat} [b : BH v n] : BI (rep v).b n := ⟨b.h.b⟩
instance {v : H} {n : Nat} [b : BH v n] : BI (rep v).e0 n := ⟨b.h.e0⟩
instance {v : H} {n : Nat} [b : BH v n] : BI (rep v).e1 n := ⟨b.h.e1⟩
instance {v : H} {n : Nat} [b : BH v n] : BI (rep v).e2 n := ⟨b.h.e2⟩
instance {v : H} {n : Nat} [b : BH v n] : BI (rep v).e3 n := ⟨b.h.e3⟩
instance {x y : Int} {n m : Nat} [a : BI x n] [b : BI y m] : BI (x * y) (n + m) := ⟨by
  rw [Int.natAbs_mul, Nat.pow_add]
  exact Nat.mul_lt_mul'' a.h b.h⟩
instance {x y : Int} {n m : Nat} [a : BI x n] [b : BI y m] : BI (x + y) (max n m + 1) := ⟨by
  have h1 := Nat.lt_of_lt_of_le a.h (pow_mono (Nat.le_max_left n m))
  have h2 := Nat.lt_of_lt_of_le b.h (pow_mono (Nat.le_max_right n m))
  rw [Nat.pow_succ]
  omega⟩
instance {x y : Int} {n m : Nat} [a : BI x n] [b : BI y m] : BI (x - y) (max n m + 1) := ⟨by
  have h1 := Nat.lt_of_lt_of_le a.h (pow_mono (Nat.le_max_left n m))
  have h2 := Nat.lt_of_lt_of_le b.h (pow_mono (Nat.le_max_right n m))
  rw [Nat.pow_succ]
  omega⟩
instance {x : Int} {n : Nat} [a : BI x n] : BI (-x) n := ⟨by rw [Int.natAbs_neg]; exact a.h⟩
theorem nat_lt_two_pow_size (k : Nat) : k < 2 ^ (k.log2 + 1) := Nat.lt_log2_self
instance {k : Nat} : BI (OfNat.ofNat k : Int) (k.log2 + 1) := ⟨nat_lt_two_pow_size k⟩
/-- what low gives is no greater -/
theorem natAbs_ediv_le {x s : Int} (hd : s ∣ x) (hs : s ≠ 0) : (x / s).natAbs ≤ x.natAbs := by
  obtain ⟨c, rfl⟩ := hd
  rw [Int.mul_ediv_cancel_left _ hs, Int.natAbs_mul]
  exact Nat.le_mul_of_pos_left _ (by omega)
theorem BE.low {b e0 e1 e2 e3 : Int} {n : Nat} (hb : b ≠ 0) (h : b.natAbs < 2 ^ n) (h0 : e0.natAbs < 2 ^ n) (h1 : e1.natAbs < 2 ^ n) (h2 : e2.natAbs < 2 ^ n) (h3 : e3.natAbs < 2 ^ n) : BE (low b e0 e1 e2 e3) n := by
  obtain ⟨d, d0, d1, d2, d3⟩ := s5_dvd b e0 e1 e2 e3
  have s := s5_ne hb e0 e1 e2 e3
  exact ⟨Nat.lt_of_le_of_lt (natAbs_ediv_le d s) h, Nat.lt_of_le_of_lt (natAbs_ediv_le d0 s) h0, Nat.lt_of_le_of_lt (natAbs_ediv_le d1 s) h1, Nat.lt_of_le_of_lt (natAbs_ediv_le d2 s) h2, Nat.lt_of_le_of_lt (natAbs_ediv_le d3 s) h3⟩
/-- the bound of a four by any of its written forms -/
theorem BH.of {b e0 e1 e2 e3 : Int} {n : Nat} (hb : b ≠ 0) (h : BI b n) (h0 : BI e0 n) (h1 : BI e1 n) (h2 : BI e2 n) (h3 : BI e3 n) : BH (ofE b e0 e1 e2 e3) n := ⟨by
  rw [← low_rep hb]
  exact .low hb h.h h0.h h1.h h2.h h3.h⟩
theorem BH.up {v : H} {n m : Nat} (b : BH v n) (h : n ≤ m) : BH v m := ⟨⟨Nat.lt_of_lt_of_le b.h.b (pow_mono h), Nat.lt_of_lt_of_le b.h.e0 (pow_mono h), Nat.lt_of_lt_of_le b.h.e1 (pow_mono h), Nat.lt_of_lt_of_le b.h.e2 (pow_mono h), Nat.lt_of_lt_of_le b.h.e3 (pow_mono h)⟩⟩
theorem BR.up {v : Rat} {n m : Nat} (b : BR v n) (h : n ≤ m) : BR v m := ⟨Nat.lt_of_lt_of_le b.t (pow_mono h), Nat.lt_of_lt_of_le b.d (pow_mono h)⟩
/-- the fraction of any two numbers, as the program makes it -/
def shr (t b : Int) : Int := if 0 < b then (Int.gcd t b : Int) else -(Int.gcd t b : Int)
theorem shr_ne {t b : Int} (hb : b ≠ 0) : shr t b ≠ 0 := by
  have g : Int.gcd t b ≠ 0 := fun z => hb (Int.gcd_eq_zero_iff.mp z).2
  unfold shr
  split <;> omega
theorem shr_dvd (t b : Int) : shr t b ∣ t ∧ shr t b ∣ b := by
  unfold shr
  split
  · exact ⟨Int.gcd_dvd_left .., Int.gcd_dvd_right ..⟩
  · exact ⟨Int.neg_dvd.mpr (Int.gcd_dvd_left ..), Int.neg_dvd.mpr (Int.gcd_dvd_right ..)⟩
theorem num_shr (t : Int) {b : Int} (hb : b ≠ 0) : (Rat.divInt t b).num = t / shr t b := by
  rw [Rat.num_divInt]
  unfold shr
  rw [Int.gcd_comm]
  have d : (Int.gcd t b : Int) ∣ t := Int.gcd_dvd_left ..
  obtain ⟨c, hc⟩ := d
  have g : (Int.gcd t b : Int) ≠ 0 := by have : Int.gcd t b ≠ 0 := fun z => hb (Int.gcd_eq_zero_iff.mp z).2
                                         omega
  rcases Int.lt_or_gt_of_ne hb with hn | hp
  · rw [if_neg (by omega), Int.sign_eq_neg_one_of_neg hn]
    generalize (Int.gcd t b : Int) = q at *
    subst hc
    rw [Int.ediv_neg, Int.mul_ediv_cancel_left _ g, show (-1 : Int) * (q * c) = q * (-c) by grind, Int.mul_ediv_cancel_left _ g]
  · rw [if_pos hp, Int.sign_eq_one_of_pos hp, Int.one_mul]
theorem den_shr (t : Int) {b : Int} (hb : b ≠ 0) : ((Rat.divInt t b).den : Int) = b / shr t b := by
  rw [Rat.den_divInt, if_neg hb]
  unfold shr
  rw [Int.gcd_comm]
  have d : (Int.gcd t b : Int) ∣ b := Int.gcd_dvd_right ..
  rcases Int.lt_or_gt_of_ne hb with hn | hp
  · rw [if_neg (by omega), Int.ediv_neg, ← Int.neg_ediv_of_dvd d, Int.natCast_ediv]
    congr 1
    omega
  · rw [if_pos hp, Int.natCast_ediv]
    congr 1
    omega
theorem BR.of {t b : Int} {n : Nat} (hb : b ≠ 0) (h : BI t n) (h2 : BI b n) : BR (Rat.divInt t b) n := by
  obtain ⟨d1, d2⟩ := shr_dvd t b
  refine ⟨?_, ?_⟩
  · rw [num_shr t hb]
    exact Nat.lt_of_le_of_lt (natAbs_ediv_le d1 (shr_ne hb)) h.h
  · have : (Rat.divInt t b).den = (((Rat.divInt t b).den : Int)).natAbs := by omega
    rw [this, den_shr t hb]
    exact Nat.lt_of_le_of_lt (natAbs_ediv_le d2 (shr_ne hb)) h2.h
end HQ

/-! HH: fours over the fractions: products, mates, norms; by their written forms; bounds. -/
namespace HQ
def pw (a b : Int) (p q : E5) : Int := p.e0 * q.e0 + a * p.e1 * q.e1 + b * (p.e2 * q.e2 - a * p.e3 * q.e3)
def px (a b : Int) (p q : E5) : Int := p.e0 * q.e1 + p.e1 * q.e0 + b * (p.e3 * q.e2 - p.e2 * q.e3)
def py (a b : Int) (p q : E5) : Int := p.e0 * q.e2 + p.e2 * q.e0 + a * (p.e1 * q.e3 - p.e3 * q.e1)
def pz (a b : Int) (p q : E5) : Int := p.e0 * q.e3 + p.e3 * q.e0 + p.e1 * q.e2 - p.e2 * q.e1
def pn (a b : Int) (p : E5) : Int := p.e0 * p.e0 - a * p.e1 * p.e1 - b * (p.e2 * p.e2 - a * p.e3 * p.e3)
instance {e : E5} {n : Nat} [b : BE e n] : BI e.b n := ⟨b.b⟩
instance {e : E5} {n : Nat} [b : BE e n] : BI e.e0 n := ⟨b.e0⟩
instance {e : E5} {n : Nat} [b : BE e n] : BI e.e1 n := ⟨b.e1⟩
instance {e : E5} {n : Nat} [b : BE e n] : BI e.e2 n := ⟨b.e2⟩
instance {e : E5} {n : Nat} [b : BE e n] : BI e.e3 n := ⟨b.e3⟩
theorem BE.up {e : E5} {n m : Nat} (b : BE e n) (h : n ≤ m) : BE e m := ⟨Nat.lt_of_lt_of_le b.b (pow_mono h), Nat.lt_of_lt_of_le b.e0 (pow_mono h), Nat.lt_of_lt_of_le b.e1 (pow_mono h), Nat.lt_of_lt_of_le b.e2 (pow_mono h), Nat.lt_of_lt_of_le b.e3 (pow_mono h)⟩
def ofS (e : E5) : H := ofE e.b e.e0 e.e1 e.e2 e.e3
theorem ofS_rep (v : H) : ofS (rep v) = v := of_rep v
def mulH (a b : Int) (p q : H) : H := ⟨p.w * q.w + a * p.x * q.x + b * (p.y * q.y - a * p.z * q.z), p.w * q.x + p.x * q.w + b * (p.z * q.y - p.y * q.z), p.w * q.y + p.y * q.w + a * (p.x * q.z - p.z * q.x), p.w * q.z + p.z * q.w + p.x * q.y - p.y * q.x⟩
def addH (p q : H) : H := ⟨p.w + q.w, p.x + q.x, p.y + q.y, p.z + q.z⟩
def subH (p q : H) : H := ⟨p.w - q.w, p.x - q.x, p.y - q.y, p.z - q.z⟩
def negH (p : H) : H := ⟨-p.w, -p.x, -p.y, -p.z⟩
def sclH (r : Rat) (p : H) : H := ⟨r * p.w, r * p.x, r * p.y, r * p.z⟩
def mateH (p : H) : H := ⟨p.w, -p.x, -p.y, -p.z⟩
def nrmH (a b : Int) (p : H) : Rat := p.w * p.w - a * p.x * p.x - b * (p.y * p.y - a * p.z * p.z)
def trH (p : H) : Rat := 2 * p.w
def invH (a b : Int) (p : H) : H := sclH (1 / nrmH a b p) (mateH p)
def zeroH : H := ⟨0, 0, 0, 0⟩
def oneH : H := ⟨1, 0, 0, 0⟩
theorem of_mul (a b : Int) {p q : E5} (hp : p.b ≠ 0) (hq : q.b ≠ 0) : ofE (p.b * q.b) (pw a b p q) (px a b p q) (py a b p q) (pz a b p q) = mulH a b (ofS p) (ofS q) := by
  have h1 := castI_ne hp
  have h2 := castI_ne hq
  simp only [ofE, ofS, mulH, pw, px, py, pz, Rat.intCast_mul, Rat.intCast_add, Rat.intCast_sub]
  refine H.ext' ?_ ?_ ?_ ?_ <;> grind
theorem of_add {p q : E5} (hp : p.b ≠ 0) (hq : q.b ≠ 0) : ofE (p.b * q.b) (p.e0 * q.b + q.e0 * p.b) (p.e1 * q.b + q.e1 * p.b) (p.e2 * q.b + q.e2 * p.b) (p.e3 * q.b + q.e3 * p.b) = addH (ofS p) (ofS q) := by
  have h1 := castI_ne hp
  have h2 := castI_ne hq
  simp only [ofE, ofS, addH, Rat.intCast_mul, Rat.intCast_add, Rat.intCast_sub]
  refine H.ext' ?_ ?_ ?_ ?_ <;> grind
theorem of_neg (p : E5) : ofE p.b (-p.e0) (-p.e1) (-p.e2) (-p.e3) = negH (ofS p) := by
  simp only [ofE, ofS, negH, Rat.intCast_neg]
  refine H.ext' ?_ ?_ ?_ ?_ <;> grind
theorem of_mate (p : E5) : ofE p.b p.e0 (-p.e1) (-p.e2) (-p.e3) = mateH (ofS p) := by
  simp only [ofE, ofS, mateH, Rat.intCast_neg]
  refine H.ext' ?_ ?_ ?_ ?_ <;> grind
theorem of_scl (r : Rat) {p : E5} (hp : p.b ≠ 0) : ofE (p.b * (r.den : Int)) (r.num * p.e0) (r.num * p.e1) (r.num * p.e2) (r.num * p.e3) = sclH r (ofS p) := by
  have h1 := castI_ne hp
  have h2 := castI_ne (den_ne r)
  have h3 := num_den r
  simp only [ofE, ofS, sclH, Rat.intCast_mul]
  generalize (r.num : Rat) = t at *
  generalize ((r.den : Int) : Rat) = d at *
  subst h3
  refine H.ext' ?_ ?_ ?_ ?_ <;> grind
theorem nrm_rep (a b : Int) (v : H) : Rat.divInt (pn a b (rep v)) ((rep v).b * (rep v).b) = nrmH a b v := by
  have h1 := castI_ne (rep_ne v)
  conv => rhs; rw [← ofS_rep v]
  rw [Rat.divInt_eq_div]
  simp only [ofE, ofS, nrmH, pn, Rat.intCast_mul, Rat.intCast_sub]
  grind
theorem tr_rep (v : H) : Rat.divInt (2 * (rep v).e0) (rep v).b = trH v := by
  conv => rhs; rw [← ofS_rep v]
  rw [Rat.divInt_eq_div]
  simp only [ofE, ofS, trH, Rat.intCast_mul]
  have : ((2 : Int) : Rat) = 2 := rfl
  grind
theorem pn_zero (a b : Int) (v : H) : pn a b (rep v) = 0 ↔ nrmH a b v = 0 := by
  have h1 := castI_ne (rep_ne v)
  rw [← nrm_rep, Rat.divInt_eq_div]
  constructor
  · intro h
    rw [h]
    simp only [Rat.intCast_zero]
    grind
  · intro h
    have : ((pn a b (rep v) : Int) : Rat) = 0 := by
      simp only [Rat.intCast_mul] at h
      grind
    exact_mod_cast this
theorem of_inv (a b : Int) (v : H) (h : nrmH a b v ≠ 0) : ofE (pn a b (rep v)) ((rep v).b * (rep v).e0) ((rep v).b * -(rep v).e1) ((rep v).b * -(rep v).e2) ((rep v).b * -(rep v).e3) = invH a b v := by
  have n0 : pn a b (rep v) ≠ 0 := fun z => h ((pn_zero a b v).mp z)
  have h1 := castI_ne (rep_ne v)
  have h2 := castI_ne n0
  have h3 := nrm_rep a b v
  rw [Rat.divInt_eq_div, Rat.intCast_mul] at h3
  have hv := ofS_rep v
  have z : ((pn a b (rep v) : Int) : Rat) / ((rep v).b * (rep v).b) ≠ 0 := by rw [h3]; exact h
  unfold invH
  rw [← h3]
  generalize rep v = p at *
  subst hv
  simp only [ofE, ofS, sclH, mateH, Rat.intCast_mul, Rat.intCast_neg]
  generalize ((pn a b p : Int) : Rat) = N at *
  generalize (p.b : Rat) = B at *
  have k : 1 / (N / (B * B)) = B * B * N⁻¹ := by
    have k1 : N / (B * B) * (B * B * N⁻¹) = 1 := by grind
    generalize N / (B * B) = u at *
    grind
  rw [k]
  refine H.ext' ?_ ?_ ?_ ?_ <;> grind
/-! bounds -/
instance {a b : Int} {v u : H} {n m : Nat} [ha : BI a 30] [hb : BI b 30] [hv : BH v n] [hu : BH u m] : BH (mulH a b v u) (n + m + 63) := by
  have e := of_mul a b (rep_ne v) (rep_ne u)
  rw [ofS_rep, ofS_rep] at e
  rw [← e]
  unfold pw px py pz
  refine BH.of (Int.mul_ne_zero (rep_ne v) (rep_ne u)) (BI.up inferInstance ?_) (BI.up inferInstance ?_) (BI.up inferInstance ?_) (BI.up inferInstance ?_) (BI.up inferInstance ?_) <;> omega
instance {v u : H} {n m : Nat} [hv : BH v n] [hu : BH u m] : BH (addH v u) (n + m + 1) := by
  have e := of_add (rep_ne v) (rep_ne u)
  rw [ofS_rep, ofS_rep] at e
  rw [← e]
  refine BH.of (Int.mul_ne_zero (rep_ne v) (rep_ne u)) (BI.up inferInstance ?_) (BI.up inferInstance ?_) (BI.up inferInstance ?_) (BI.up inferInstance ?_) (BI.up inferInstance ?_) <;> omega
instance {v : H} {n : Nat} [hv : BH v n] : BH (negH v) n := by
  have e := of_neg (rep v)
  rw [ofS_rep] at e
  rw [← e]
  exact BH.of (rep_ne v) inferInstance inferInstance inferInstance inferInstance inferInstance
theorem sub_eq (v u : H) : subH v u = addH v (negH u) := by
  simp only [subH, addH, negH]
  refine H.ext' ?_ ?_ ?_ ?_ <;> grind
instance {v u : H} {n m : Nat} [hv : BH v n] [hu : BH u m] : BH (subH v u) (n + m + 1) := by
  rw [sub_eq]
  infer_instance
instance {v : H} {n : Nat} [hv : BH v n] : BH (mateH v) n := by
  have e := of_mate (rep v)
  rw [ofS_rep] at e
  rw [← e]
  exact BH.of (rep_ne v) inferInstance inferInstance inferInstance inferInstance inferInstance
instance {v : H} {r : Rat} {n m : Nat} [hv : BH v n] [hr : BR r m] : BH (sclH r v) (n + m) := by
  have e := of_scl r (rep_ne v)
  rw [ofS_rep] at e
  rw [← e]
  refine BH.of (Int.mul_ne_zero (rep_ne v) (den_ne r)) (BI.up inferInstance ?_) (BI.up inferInstance ?_) (BI.up inferInstance ?_) (BI.up inferInstance ?_) (BI.up inferInstance ?_) <;> omega
instance {a b : Int} {v : H} {n : Nat} [ha : BI a 30] [hb : BI b 30] [hv : BH v n] : BR (nrmH a b v) (n + n + 62) := by
  rw [← nrm_rep]
  unfold pn
  refine BR.of (Int.mul_ne_zero (rep_ne v) (rep_ne v)) (BI.up inferInstance ?_) (BI.up inferInstance ?_) <;> omega
instance {v : H} {n : Nat} [hv : BH v n] : BR (trH v) (n + 2) := by
  rw [← tr_rep]
  haveI : BI 2 2 := ⟨by decide⟩
  refine BR.of (rep_ne v) (BI.up inferInstance (n := 2 + n) ?_) (BI.up inferInstance ?_) <;> omega
theorem BH.inv {a b : Int} {v : H} {n : Nat} [ha : BI a 30] [hb : BI b 30] [hv : BH v n] (h : nrmH a b v ≠ 0) : BH (invH a b v) (n + n + 62) := by
  have n0 : pn a b (rep v) ≠ 0 := fun z => h ((pn_zero a b v).mp z)
  rw [← of_inv a b v h]
  unfold pn at *
  refine BH.of n0 (BI.up inferInstance ?_) (BI.up inferInstance ?_) (BI.up inferInstance ?_) (BI.up inferInstance ?_) (BI.up inferInstance ?_) <;> omega
theorem BH.of' {v : H} {b e0 e1 e2 e3 : Int} {n : Nat} (e : ofE b e0 e1 e2 e3 = v) (hb : b ≠ 0) (h : BI b n) (h0 : BI e0 n) (h1 : BI e1 n) (h2 : BI e2 n) (h3 : BI e3 n) : BH v n := by
  rw [← e]
  exact BH.of hb h h0 h1 h2 h3
end HQ

/-! EvM: the program's defs as codes over a table of places; its values (fractions, fours, algebras) as plain ones. -/
namespace EV
open PySem PySem.Spec PyProof.Rows L2 HQ
/-- where a law's table has the program's defs; glob's numbers; all classes; the classes of a slot -/
structure PIx where
  is_whole : Nat := 0
  is_integer : Nat := 0
  require_integer : Nat := 0
  common_of : Nat := 0
  ratio_of : Nat := 0
  is_ratio_or_integer : Nat := 0
  told_ratio : Nat := 0
  is_number : Nat := 0
  require_number : Nat := 0
  factors_of : Nat := 0
  power_rest : Nat := 0
  residue_sign_of : Nat := 0
  parted_by : Nat := 0
  raw_product : Nat := 0
  raw_mate : Nat := 0
  raw_norm : Nat := 0
  sign_by_two : Nat := 0
  sign_by_prime : Nat := 0
  sign_of : Nat := 0
  places_of : Nat := 0
  lowest : Nat := 0
  parts_told : Nat := 0
  four_made : Nat := 0
  require_algebra : Nat := 0
  require_same_algebra : Nat := 0
  gBEYOND : Nat := 0
  gMAX_NUMBER : Nat := 0
  gREAL : Nat := 0
  gMANY_ENTRIES : Nat := 0
  gMAX_POWER : Nat := 0
  cs : List Nat := []
  tb : Nat → List (Nat × List Nat) := fun _ => []
def k_is_whole (I : PIx) : Fn := ⟨1, 1, 0,
    (.seq (.ret (.andE (.isi (.var 0) .int) (.notE (.isi (.var 0) .bool))))
    .nop)⟩
def k_is_integer (I : PIx) : Fn := ⟨1, 1, 0,
    (.seq (.ret (.andE (.call I.is_whole (.cons (.var 0) .nil)) (.chn .Lt .Lt (.neg (.glob I.gBEYOND (.int 1000000000000000000000000000000000000000000000000000000000000))) (.var 0) (.glob I.gBEYOND (.int 1000000000000000000000000000000000000000000000000000000000000)))))
    .nop)⟩
def k_require_integer (I : PIx) : Fn := ⟨1, 1, 0,
    (.seq (.ifS (.notE (.call I.is_integer (.cons (.var 0) .nil)))
      (.seq .never
      .nop)
      .nop)
    .nop)⟩
def k_common_of (I : PIx) : Fn := ⟨2, 2, 0,
    (.seq (.par2 0 1 none none (.blt .abs (.cons (.var 0) .nil)) (.blt .abs (.cons (.var 1) .nil)))
    (.seq (.whl (.cmp .NotEq (.var 1) (.lit (.int 0)))
      (.seq (.par2 0 1 none none (.var 1) (.bin .Mod (.var 0) (.var 1)))
      .nop))
    (.seq (.ret (.var 0))
    .nop)))⟩
def k_ratio_of (I : PIx) : Fn := ⟨2, 2, 0,
    (.seq (.ret (.new 72057947860265327 (.cons (.new 72057956517178739 (.cons (.var 0) (.cons (.var 1) .nil)) []) (.cons (.lit (.int 1)) .nil)) []))
    .nop)⟩
def k_is_ratio_or_integer (I : PIx) : Fn := ⟨1, 1, 0,
    (.seq (.ret (.orE (.isiC (.var 0) 72057947860265327 I.cs) (.call I.is_integer (.cons (.var 0) .nil))))
    .nop)⟩
def k_told_ratio (I : PIx) : Fn := ⟨1, 1, 0,
    (.seq (.ifS (.isiC (.var 0) 72057947860265327 I.cs)
      (.seq (.ret (.var 0))
      .nop)
      .nop)
    (.seq (.ifS (.notE (.call I.is_integer (.cons (.var 0) .nil)))
      (.seq .never
      .nop)
      .nop)
    (.seq (.ret (.call I.ratio_of (.cons (.var 0) (.cons (.lit (.int 1)) .nil))))
    .nop)))⟩
def k_is_number (I : PIx) : Fn := ⟨1, 1, 0,
    (.seq (.ret (.andE (.call I.is_whole (.cons (.var 0) .nil)) (.andE (.cmp .NotEq (.var 0) (.lit (.int 0))) (.chn .LtE .LtE (.neg (.glob I.gMAX_NUMBER (.int 1000000000))) (.var 0) (.glob I.gMAX_NUMBER (.int 1000000000))))))
    .nop)⟩
def k_require_number (I : PIx) : Fn := ⟨1, 1, 0,
    (.seq (.ifS (.notE (.call I.is_number (.cons (.var 0) .nil)))
      (.seq .never
      .nop)
      .nop)
    .nop)⟩
def k_factors_of (I : PIx) : Fn := ⟨1, 4, 1,
    (.seq (.par2 1 2 (some 0) none .dnew (.blt .abs (.cons (.var 0) .nil)))
    (.seq (.asg 3 (.lit (.int 2)))
    (.seq (.whl (.cmp .LtE (.bin .Mult (.var 3) (.var 3)) (.var 2))
      (.seq (.whl (.cmp .Eq (.bin .Mod (.var 2) (.var 3)) (.lit (.int 0)))
        (.seq (.sets (.var 1) (.var 3) (.bin .Add (.dget (.var 1) (.var 3) (.lit (.int 0))) (.lit (.int 1))))
        (.seq (.aug 2 .FloorDiv (.var 3))
        .nop)))
      (.seq (.aug 3 .Add (.ife (.cmp .Eq (.var 3) (.lit (.int 2))) (.lit (.int 1)) (.lit (.int 2))))
      .nop)))
    (.seq (.ifS (.cmp .Gt (.var 2) (.lit (.int 1)))
      (.seq (.sets (.var 1) (.var 2) (.bin .Add (.dget (.var 1) (.var 2) (.lit (.int 0))) (.lit (.int 1))))
      .nop)
      .nop)
    (.seq (.ret (.var 1))
    .nop)))))⟩
def k_power_rest (I : PIx) : Fn := ⟨3, 6, 0,
    (.seq (.par3 3 4 5 (.bin .Mod (.lit (.int 1)) (.var 2)) (.bin .Mod (.var 0) (.var 2)) (.var 1))
    (.seq (.whl (.cmp .Gt (.var 5) (.lit (.int 0)))
      (.seq (.ifS (.cmp .Eq (.bin .Mod (.var 5) (.lit (.int 2))) (.lit (.int 1)))
        (.seq (.asg 3 (.bin .Mod (.bin .Mult (.var 3) (.var 4)) (.var 2)))
        .nop)
        .nop)
      (.seq (.asg 4 (.bin .Mod (.bin .Mult (.var 4) (.var 4)) (.var 2)))
      (.seq (.aug 5 .FloorDiv (.lit (.int 2)))
      .nop))))
    (.seq (.ret (.var 3))
    .nop)))⟩
def k_residue_sign_of (I : PIx) : Fn := ⟨2, 2, 0,
    (.seq (.ifS (.cmp .Eq (.bin .Mod (.var 0) (.var 1)) (.lit (.int 0)))
      (.seq (.ret (.lit (.int 0)))
      .nop)
      .nop)
    (.seq (.ifS (.cmp .Eq (.var 1) (.lit (.int 2)))
      (.seq (.ret (.ife (.cmp .In (.bin .Mod (.var 0) (.lit (.int 8))) (.tup (.cons (.lit (.int 1)) (.cons (.lit (.int 7)) .nil)))) (.lit (.int 1)) (.neg (.lit (.int 1)))))
      .nop)
      .nop)
    (.seq (.ret (.ife (.cmp .Eq (.call I.power_rest (.cons (.var 0) (.cons (.bin .FloorDiv (.bin .Sub (.var 1) (.lit (.int 1))) (.lit (.int 2))) (.cons (.var 1) .nil)))) (.lit (.int 1))) (.lit (.int 1)) (.neg (.lit (.int 1)))))
    .nop)))⟩
def k_parted_by (I : PIx) : Fn := ⟨2, 4, 0,
    (.seq (.par2 2 3 none none (.lit (.int 0)) (.var 0))
    (.seq (.whl (.cmp .Eq (.bin .Mod (.var 3) (.var 1)) (.lit (.int 0)))
      (.seq (.par2 2 3 none none (.bin .Add (.var 2) (.lit (.int 1))) (.bin .FloorDiv (.var 3) (.var 1)))
      .nop))
    (.seq (.ret (.tup (.cons (.var 2) (.cons (.var 3) .nil))))
    .nop)))⟩
def k_raw_product (I : PIx) : Fn := ⟨4, 14, 0,
    (.seq (.unp [4, 5, 6, 7] (.var 2))
    (.seq (.unp [8, 9, 10, 11] (.var 3))
    (.seq (.asg 12 (.bin .Add (.bin .Add (.bin .Mult (.var 4) (.var 8)) (.bin .Mult (.bin .Mult (.var 0) (.var 5)) (.var 9))) (.bin .Mult (.var 1) (.bin .Sub (.bin .Mult (.var 6) (.var 10)) (.bin .Mult (.bin .Mult (.var 0) (.var 7)) (.var 11))))))
    (.seq (.asg 13 (.bin .Add (.bin .Add (.bin .Mult (.var 4) (.var 9)) (.bin .Mult (.var 5) (.var 8))) (.bin .Mult (.var 1) (.bin .Sub (.bin .Mult (.var 7) (.var 10)) (.bin .Mult (.var 6) (.var 11))))))
    (.seq (.ret (.tup (.cons (.var 12) (.cons (.var 13) (.cons (.bin .Add (.bin .Add (.bin .Mult (.var 4) (.var 10)) (.bin .Mult (.var 6) (.var 8))) (.bin .Mult (.var 0) (.bin .Sub (.bin .Mult (.var 5) (.var 11)) (.bin .Mult (.var 7) (.var 9))))) (.cons (.bin .Sub (.bin .Add (.bin .Add (.bin .Mult (.var 4) (.var 11)) (.bin .Mult (.var 7) (.var 8))) (.bin .Mult (.var 5) (.var 10))) (.bin .Mult (.var 6) (.var 9))) .nil))))))
    .nop)))))⟩
def k_raw_mate (I : PIx) : Fn := ⟨1, 1, 0,
    (.seq (.ret (.tup (.cons (.sub (.var 0) (.lit (.int 0))) (.cons (.neg (.sub (.var 0) (.lit (.int 1)))) (.cons (.neg (.sub (.var 0) (.lit (.int 2)))) (.cons (.neg (.sub (.var 0) (.lit (.int 3)))) .nil))))))
    .nop)⟩
def k_raw_norm (I : PIx) : Fn := ⟨3, 7, 0,
    (.seq (.unp [3, 4, 5, 6] (.var 2))
    (.seq (.ret (.bin .Sub (.bin .Sub (.bin .Mult (.var 3) (.var 3)) (.bin .Mult (.bin .Mult (.var 0) (.var 4)) (.var 4))) (.bin .Mult (.var 1) (.bin .Sub (.bin .Mult (.var 5) (.var 5)) (.bin .Mult (.bin .Mult (.var 0) (.var 6)) (.var 6))))))
    .nop))⟩
def k_sign_by_two (I : PIx) : Fn := ⟨4, 6, 0,
    (.seq (.asg 4 (.bin .Mult (.bin .FloorDiv (.bin .Sub (.var 0) (.lit (.int 1))) (.lit (.int 2))) (.bin .FloorDiv (.bin .Sub (.var 1) (.lit (.int 1))) (.lit (.int 2)))))
    (.seq (.asg 5 (.bin .Add (.bin .Add (.var 4) (.bin .Mult (.var 2) (.bin .FloorDiv (.bin .Sub (.bin .Mult (.var 1) (.var 1)) (.lit (.int 1))) (.lit (.int 8))))) (.bin .Mult (.var 3) (.bin .FloorDiv (.bin .Sub (.bin .Mult (.var 0) (.var 0)) (.lit (.int 1))) (.lit (.int 8))))))
    (.seq (.ret (.ife (.cmp .Eq (.bin .Mod (.var 5) (.lit (.int 2))) (.lit (.int 0))) (.lit (.int 1)) (.neg (.lit (.int 1)))))
    .nop)))⟩
def k_sign_by_prime (I : PIx) : Fn := ⟨3, 8, 0,
    (.seq (.unp [3, 4] (.call I.parted_by (.cons (.var 0) (.cons (.var 2) .nil))))
    (.seq (.unp [5, 6] (.call I.parted_by (.cons (.var 1) (.cons (.var 2) .nil))))
    (.seq (.ifS (.cmp .Eq (.var 2) (.lit (.int 2)))
      (.seq (.ret (.call I.sign_by_two (.cons (.var 4) (.cons (.var 6) (.cons (.var 3) (.cons (.var 5) .nil))))))
      .nop)
      .nop)
    (.seq (.asg 7 (.ife (.cmp .Eq (.bin .Mod (.bin .Mult (.var 3) (.var 5)) (.lit (.int 2))) (.lit (.int 1))) (.call I.residue_sign_of (.cons (.neg (.lit (.int 1))) (.cons (.var 2) .nil))) (.lit (.int 1))))
    (.seq (.aug 7 .Mult (.ife (.cmp .Eq (.bin .Mod (.var 5) (.lit (.int 2))) (.lit (.int 1))) (.call I.residue_sign_of (.cons (.var 4) (.cons (.var 2) .nil))) (.lit (.int 1))))
    (.seq (.ret (.bin .Mult (.var 7) (.ife (.cmp .Eq (.bin .Mod (.var 3) (.lit (.int 2))) (.lit (.int 1))) (.call I.residue_sign_of (.cons (.var 6) (.cons (.var 2) .nil))) (.lit (.int 1)))))
    .nop))))))⟩
def k_sign_of (I : PIx) : Fn := ⟨3, 3, 0,
    (.seq (.ifS (.cmp .Eq (.var 2) (.glob I.gREAL (.int 0)))
      (.seq (.ret (.ife (.andE (.cmp .Lt (.var 0) (.lit (.int 0))) (.cmp .Lt (.var 1) (.lit (.int 0)))) (.neg (.lit (.int 1))) (.lit (.int 1))))
      .nop)
      .nop)
    (.seq (.ret (.call I.sign_by_prime (.cons (.var 0) (.cons (.var 1) (.cons (.var 2) .nil)))))
    .nop))⟩
def k_places_of (I : PIx) : Fn := ⟨2, 4, 0,
    (.seq (.asg 2 (.blt .sorted1 (.cons (.dspr (.glob I.gREAL (.int 0)) (.lit (.bl true)) (.lit (.int 2)) (.lit (.bl true)) (.call I.factors_of (.cons (.var 0) .nil)) (.call I.factors_of (.cons (.var 1) .nil))) .nil)))
    (.seq (.ret (.blt .tuple (.cons (.comp (.var 3) [3] (.var 2) (.cmp .Eq (.call I.sign_of (.cons (.var 0) (.cons (.var 1) (.cons (.var 3) .nil)))) (.neg (.lit (.int 1))))) .nil)))
    .nop))⟩
def k_lowest (I : PIx) : Fn := ⟨2, 5, 0,
    (.seq (.asg 2 (.blt .abs (.cons (.var 1) .nil)))
    (.seq (.forS [3] (.var 0)
      (.seq (.asg 2 (.call I.common_of (.cons (.var 2) (.cons (.blt .abs (.cons (.var 3) .nil)) .nil))))
      .nop))
    (.seq (.asg 4 (.ife (.cmp .Gt (.var 1) (.lit (.int 0))) (.var 2) (.neg (.var 2))))
    (.seq (.ret (.tup (.cons (.blt .tuple (.cons (.comp (.bin .FloorDiv (.var 3) (.var 4)) [3] (.var 0) (.lit (.bl true))) .nil)) (.cons (.bin .FloorDiv (.var 1) (.var 4)) .nil))))
    .nop))))⟩
def k_parts_told (I : PIx) : Fn := ⟨2, 3, 0,
    (.seq (.ifS (.isiC (.var 0) 72057939270202483 I.cs)
      (.seq (.ret (.var 0))
      .nop)
      .nop)
    (.seq (.ifS (.orE (.notE (.isi (.var 0) .tuple)) (.orE (.cmp .NotEq (.blt .len (.cons (.var 0) .nil)) (.glob I.gMANY_ENTRIES (.int 4))) (.notE (.blt .all (.cons (.comp (.call I.is_integer (.cons (.var 2) .nil)) [2] (.var 0) (.lit (.bl true))) .nil)))))
      (.seq .never
      .nop)
      .nop)
    (.seq (.ifS (.orE (.notE (.call I.is_integer (.cons (.var 1) .nil))) (.cmp .Eq (.var 1) (.lit (.int 0))))
      (.seq .never
      .nop)
      .nop)
    (.seq (.ret (.new 72057939270202483 (.cons (.var 0) (.cons (.var 1) .nil)) []))
    .nop))))⟩
def k_four_made (I : PIx) : Fn := ⟨3, 3, 0,
    (.seq (.ret (.new 281476158420338 (.cons (.var 0) (.cons (.new 72057939270202483 (.cons (.var 1) (.cons (.var 2) .nil)) []) .nil)) [(.int 1)]))
    .nop)⟩
def k_require_algebra (I : PIx) : Fn := ⟨1, 1, 0,
    (.seq (.ifS (.notE (.isiC (.var 0) 4722384897934469788257 I.cs))
      (.seq .never
      .nop)
      .nop)
    .nop)⟩
def k_require_same_algebra (I : PIx) : Fn := ⟨2, 2, 0,
    (.seq (.ifS (.cmp .NotEq (.fld (.var 0) 20282544358415273851079157248609) (.fld (.var 1) 20282544358415273851079157248609))
      (.seq .never
      .nop)
      .nop)
    .nop)⟩
def k_Terms_init (I : PIx) : Fn := ⟨3, 3, 0,
    (.seq (.fset (.var 0) 4722397857907991670640 (I.tb 4722397857907991670640) (.var 1))
    (.seq (.fset (.var 0) 79228688900059664593393577837 (I.tb 79228688900059664593393577837) (.var 2))
    .nop))⟩
def k_Ratio_init (I : PIx) : Fn := ⟨3, 5, 0,
    (.seq (.ifS (.isiC (.var 1) 72057956517178739 I.cs)
      (.seq (.par2 1 2 none none (.fld (.var 1) 4722397857907991670640) (.fld (.var 1) 79228688900059664593393577837))
      .nop)
      (.seq (.expr (.call I.require_integer (.cons (.var 1) .nil)))
      (.seq (.expr (.call I.require_integer (.cons (.var 2) .nil)))
      (.seq (.ifS (.cmp .Eq (.var 2) (.lit (.int 0)))
        (.seq .never
        .nop)
        .nop)
      .nop))))
    (.seq (.asg 3 (.call I.common_of (.cons (.var 1) (.cons (.var 2) .nil))))
    (.seq (.asg 4 (.ife (.cmp .Gt (.var 2) (.lit (.int 0))) (.var 3) (.neg (.var 3))))
    (.seq (.fset (.var 0) 4722397857907991670640 (I.tb 4722397857907991670640) (.bin .FloorDiv (.var 1) (.var 4)))
    (.seq (.fset (.var 0) 79228688900059664593393577837 (I.tb 79228688900059664593393577837) (.bin .FloorDiv (.var 2) (.var 4)))
    .nop)))))⟩
def k_Ratio_top (I : PIx) : Fn := ⟨1, 1, 0,
    (.seq (.ret (.fld (.var 0) 4722397857907991670640))
    .nop)⟩
def k_Ratio_bottom (I : PIx) : Fn := ⟨1, 1, 0,
    (.seq (.ret (.fld (.var 0) 79228688900059664593393577837))
    .nop)⟩
def k_Ratio_over (I : PIx) : Fn := ⟨2, 3, 0,
    (.seq (.asg 2 (.call I.told_ratio (.cons (.var 1) .nil)))
    (.seq (.ifS (.cmp .Eq (.fld (.var 2) 4722397857907991670640) (.lit (.int 0)))
      (.seq .never
      .nop)
      .nop)
    (.seq (.ret (.call I.ratio_of (.cons (.bin .Mult (.fld (.var 0) 4722397857907991670640) (.fld (.var 2) 79228688900059664593393577837)) (.cons (.bin .Mult (.fld (.var 0) 79228688900059664593393577837) (.fld (.var 2) 4722397857907991670640)) .nil))))
    .nop)))⟩
def k_Ratio_add (I : PIx) : Fn := ⟨2, 4, 0,
    (.seq (.ifS (.notE (.call I.is_ratio_or_integer (.cons (.var 1) .nil)))
      (.seq .never
      .nop)
      .nop)
    (.seq (.asg 2 (.call I.told_ratio (.cons (.var 1) .nil)))
    (.seq (.asg 3 (.bin .Add (.bin .Mult (.fld (.var 0) 4722397857907991670640) (.fld (.var 2) 79228688900059664593393577837)) (.bin .Mult (.fld (.var 2) 4722397857907991670640) (.fld (.var 0) 79228688900059664593393577837))))
    (.seq (.ret (.call I.ratio_of (.cons (.var 3) (.cons (.bin .Mult (.fld (.var 0) 79228688900059664593393577837) (.fld (.var 2) 79228688900059664593393577837)) .nil))))
    .nop))))⟩
def k_Ratio_sub (I : PIx) : Fn := ⟨2, 4, 0,
    (.seq (.ifS (.notE (.call I.is_ratio_or_integer (.cons (.var 1) .nil)))
      (.seq .never
      .nop)
      .nop)
    (.seq (.asg 2 (.call I.told_ratio (.cons (.var 1) .nil)))
    (.seq (.asg 3 (.bin .Sub (.bin .Mult (.fld (.var 0) 4722397857907991670640) (.fld (.var 2) 79228688900059664593393577837)) (.bin .Mult (.fld (.var 2) 4722397857907991670640) (.fld (.var 0) 79228688900059664593393577837))))
    (.seq (.ret (.call I.ratio_of (.cons (.var 3) (.cons (.bin .Mult (.fld (.var 0) 79228688900059664593393577837) (.fld (.var 2) 79228688900059664593393577837)) .nil))))
    .nop))))⟩
def k_Ratio_mul (I : PIx) : Fn := ⟨2, 3, 0,
    (.seq (.ifS (.notE (.call I.is_ratio_or_integer (.cons (.var 1) .nil)))
      (.seq .never
      .nop)
      .nop)
    (.seq (.asg 2 (.call I.told_ratio (.cons (.var 1) .nil)))
    (.seq (.ret (.call I.ratio_of (.cons (.bin .Mult (.fld (.var 0) 4722397857907991670640) (.fld (.var 2) 4722397857907991670640)) (.cons (.bin .Mult (.fld (.var 0) 79228688900059664593393577837) (.fld (.var 2) 79228688900059664593393577837)) .nil))))
    .nop)))⟩
def k_Ratio_neg (I : PIx) : Fn := ⟨1, 1, 0,
    (.seq (.ret (.call I.ratio_of (.cons (.neg (.fld (.var 0) 4722397857907991670640)) (.cons (.fld (.var 0) 79228688900059664593393577837) .nil))))
    .nop)⟩
def k_Ratio_eq (I : PIx) : Fn := ⟨2, 2, 0,
    (.seq (.ifS (.call I.is_whole (.cons (.var 1) .nil))
      (.seq (.ret (.andE (.cmp .Eq (.fld (.var 0) 79228688900059664593393577837) (.lit (.int 1))) (.cmp .Eq (.fld (.var 0) 4722397857907991670640) (.var 1))))
      .nop)
      .nop)
    (.seq (.ret (.andE (.isiC (.var 1) 72057947860265327 I.cs) (.andE (.cmp .Eq (.fld (.var 0) 4722397857907991670640) (.fld (.var 1) 4722397857907991670640)) (.cmp .Eq (.fld (.var 0) 79228688900059664593393577837) (.fld (.var 1) 79228688900059664593393577837)))))
    .nop))⟩
def k_Ratio_bool (I : PIx) : Fn := ⟨1, 1, 0,
    (.seq (.ret (.blt .bool1 (.cons (.fld (.var 0) 4722397857907991670640) .nil)))
    .nop)⟩
def k_Algebra_init (I : PIx) : Fn := ⟨3, 4, 0,
    (.seq (.expr (.call I.require_number (.cons (.var 1) .nil)))
    (.seq (.expr (.call I.require_number (.cons (.var 2) .nil)))
    (.seq (.fset (.var 0) 72058072783019873 (I.tb 72058072783019873) (.var 1))
    (.seq (.fset (.var 0) 72058072783019874 (I.tb 72058072783019874) (.var 2))
    (.seq (.fset (.var 0) 79228688900059679973351581043 (I.tb 79228688900059679973351581043) (.call I.places_of (.cons (.var 1) (.cons (.var 2) .nil))))
    (.seq (.fset (.var 0) 22300893362960104240665737060543834854878836 (I.tb 22300893362960104240665737060543834854878836) (.lit (.int 1)))
    (.seq (.forS [3] (.fld (.var 0) 79228688900059679973351581043)
      (.seq (.faug (.var 0) 22300893362960104240665737060543834854878836 (I.tb 22300893362960104240665737060543834854878836) .Mult (.blt .max2 (.cons (.lit (.int 1)) (.cons (.var 3) .nil))))
      .nop))
    .nop)))))))⟩
def k_Algebra_is_tables (I : PIx) : Fn := ⟨1, 1, 0,
    (.seq (.ret (.cmp .Eq (.fld (.var 0) 79228688900059679973351581043) (.tup .nil)))
    .nop)⟩
def k_Algebra_basis (I : PIx) : Fn := ⟨1, 5, 0,
    (.seq (.asg 1 (.comp (.blt .tuple (.cons (.comp (.blt .int1 (.cons (.cmp .Eq (.var 2) (.var 3)) .nil)) [2] (.rng1 (.glob I.gMANY_ENTRIES (.int 4))) (.lit (.bl true))) .nil)) [3] (.rng1 (.glob I.gMANY_ENTRIES (.int 4))) (.lit (.bl true))))
    (.seq (.ret (.blt .tuple (.cons (.comp (.callD I.four_made (.cons (.var 0) (.cons (.var 4) .nil)) [(.int 1)]) [4] (.var 1) (.lit (.bl true))) .nil)))
    .nop))⟩
def k_Algebra_eq (I : PIx) : Fn := ⟨2, 2, 0,
    (.seq (.ret (.andE (.isiC (.var 1) 4722384897934469788257 I.cs) (.andE (.cmp .Eq (.fld (.var 0) 72058072783019873) (.fld (.var 1) 72058072783019873)) (.cmp .Eq (.fld (.var 0) 72058072783019874) (.fld (.var 1) 72058072783019874)))))
    .nop)⟩
def k_Parts_init (I : PIx) : Fn := ⟨3, 3, 0,
    (.seq (.fset2 (.var 0) 20282544358415274979234140480883 (.var 0) 79228688900059664593393577837 (I.tb 20282544358415274979234140480883) (.call I.lowest (.cons (.var 1) (.cons (.var 2) .nil))))
    .nop)⟩
def k_Four_init (I : PIx) : Fn := ⟨4, 5, 0,
    (.seq (.expr (.call I.require_algebra (.cons (.var 1) .nil)))
    (.seq (.asg 4 (.call I.parts_told (.cons (.var 2) (.cons (.var 3) .nil))))
    (.seq (.fset (.var 0) 20282544358415273851079157248609 (I.tb 20282544358415273851079157248609) (.var 1))
    (.seq (.fset (.var 0) 79228688900059664593393577837 (I.tb 79228688900059664593393577837) (.fld (.var 4) 79228688900059664593393577837))
    (.seq (.fset (.var 0) 20282544358415274979234140480883 (I.tb 20282544358415274979234140480883) (.fld (.var 4) 20282544358415274979234140480883))
    .nop)))))⟩
def k_Four_bottom (I : PIx) : Fn := ⟨1, 1, 0,
    (.seq (.ret (.fld (.var 0) 79228688900059664593393577837))
    .nop)⟩
def k_Four_trace (I : PIx) : Fn := ⟨1, 1, 0,
    (.seq (.ret (.call I.ratio_of (.cons (.bin .Mult (.lit (.int 2)) (.sub (.fld (.var 0) 20282544358415274979234140480883) (.lit (.int 0)))) (.cons (.fld (.var 0) 79228688900059664593393577837) .nil))))
    .nop)⟩
def k_Four_norm (I : PIx) : Fn := ⟨1, 2, 0,
    (.seq (.asg 1 (.call I.raw_norm (.cons (.fld (.fld (.var 0) 20282544358415273851079157248609) 72058072783019873) (.cons (.fld (.fld (.var 0) 20282544358415273851079157248609) 72058072783019874) (.cons (.fld (.var 0) 20282544358415274979234140480883) .nil)))))
    (.seq (.ret (.call I.ratio_of (.cons (.var 1) (.cons (.bin .Mult (.fld (.var 0) 79228688900059664593393577837) (.fld (.var 0) 79228688900059664593393577837)) .nil))))
    .nop))⟩
def k_Four_mate (I : PIx) : Fn := ⟨1, 1, 0,
    (.seq (.ret (.call I.four_made (.cons (.fld (.var 0) 20282544358415273851079157248609) (.cons (.call I.raw_mate (.cons (.fld (.var 0) 20282544358415274979234140480883) .nil)) (.cons (.fld (.var 0) 79228688900059664593393577837) .nil)))))
    .nop)⟩
def k_Four_inverse (I : PIx) : Fn := ⟨1, 4, 0,
    (.seq (.asg 1 (.call I.raw_norm (.cons (.fld (.fld (.var 0) 20282544358415273851079157248609) 72058072783019873) (.cons (.fld (.fld (.var 0) 20282544358415273851079157248609) 72058072783019874) (.cons (.fld (.var 0) 20282544358415274979234140480883) .nil)))))
    (.seq (.ifS (.cmp .Eq (.var 1) (.lit (.int 0)))
      (.seq .never
      .nop)
      .nop)
    (.seq (.asg 2 (.blt .tuple (.cons (.comp (.bin .Mult (.fld (.var 0) 79228688900059664593393577837) (.var 3)) [3] (.call I.raw_mate (.cons (.fld (.var 0) 20282544358415274979234140480883) .nil)) (.lit (.bl true))) .nil)))
    (.seq (.ret (.call I.four_made (.cons (.fld (.var 0) 20282544358415273851079157248609) (.cons (.var 2) (.cons (.var 1) .nil)))))
    .nop))))⟩
def k_Four_power (I : PIx) : Fn := ⟨2, 5, 0,
    (.seq (.ifS (.orE (.notE (.call I.is_integer (.cons (.var 1) .nil))) (.notE (.chn .LtE .LtE (.neg (.glob I.gMAX_POWER (.int 1000))) (.var 1) (.glob I.gMAX_POWER (.int 1000)))))
      (.seq .never
      .nop)
      .nop)
    (.seq (.asg 2 (.ife (.cmp .GtE (.var 1) (.lit (.int 0))) (.var 0) (.mth (.var 0) 4722396159196987028325 .nil)))
    (.seq (.par2 3 4 none none (.callD I.four_made (.cons (.fld (.var 0) 20282544358415273851079157248609) (.cons (.tup (.cons (.lit (.int 1)) (.cons (.lit (.int 0)) (.cons (.lit (.int 0)) (.cons (.lit (.int 0)) .nil))))) .nil)) [(.int 1)]) (.blt .abs (.cons (.var 1) .nil)))
    (.seq (.whl (.cmp .Gt (.var 4) (.lit (.int 0)))
      (.seq (.ifS (.cmp .Eq (.bin .Mod (.var 4) (.lit (.int 2))) (.lit (.int 1)))
        (.seq (.asg 3 (.bin .Mult (.var 3) (.var 2)))
        .nop)
        .nop)
      (.seq (.aug 4 .FloorDiv (.lit (.int 2)))
      (.seq (.ifS (.cmp .Gt (.var 4) (.lit (.int 0)))
        (.seq (.asg 2 (.bin .Mult (.var 2) (.var 2)))
        .nop)
        .nop)
      .nop))))
    (.seq (.ret (.var 3))
    .nop)))))⟩
def k_Four_scaled (I : PIx) : Fn := ⟨2, 5, 0,
    (.seq (.asg 2 (.call I.told_ratio (.cons (.var 1) .nil)))
    (.seq (.asg 3 (.blt .tuple (.cons (.comp (.bin .Mult (.prp (.var 2) 1099519258480) (.var 4)) [4] (.fld (.var 0) 20282544358415274979234140480883) (.lit (.bl true))) .nil)))
    (.seq (.ret (.call I.four_made (.cons (.fld (.var 0) 20282544358415273851079157248609) (.cons (.var 3) (.cons (.bin .Mult (.fld (.var 0) 79228688900059664593393577837) (.prp (.var 2) 18446852304544231277)) .nil)))))
    .nop)))⟩
def k_Four_add (I : PIx) : Fn := ⟨2, 7, 0,
    (.seq (.ifS (.notE (.isiC (.var 1) 281476158420338 I.cs))
      (.seq .never
      .nop)
      .nop)
    (.seq (.expr (.call I.require_same_algebra (.cons (.var 0) (.cons (.var 1) .nil))))
    (.seq (.unp [2, 3] (.tup (.cons (.fld (.var 0) 79228688900059664593393577837) (.cons (.fld (.var 1) 79228688900059664593393577837) .nil))))
    (.seq (.asg 4 (.blt .tuple (.cons (.comp (.bin .Add (.bin .Mult (.var 5) (.var 3)) (.bin .Mult (.var 6) (.var 2))) [5, 6] (.zipE (.fld (.var 0) 20282544358415274979234140480883) (.fld (.var 1) 20282544358415274979234140480883)) (.lit (.bl true))) .nil)))
    (.seq (.ret (.call I.four_made (.cons (.fld (.var 0) 20282544358415273851079157248609) (.cons (.var 4) (.cons (.bin .Mult (.var 2) (.var 3)) .nil)))))
    .nop)))))⟩
def k_Four_sub (I : PIx) : Fn := ⟨2, 2, 0,
    (.seq (.ifS (.notE (.isiC (.var 1) 281476158420338 I.cs))
      (.seq .never
      .nop)
      .nop)
    (.seq (.expr (.call I.require_same_algebra (.cons (.var 0) (.cons (.var 1) .nil))))
    (.seq (.ret (.bin .Add (.var 0) (.neg (.var 1))))
    .nop)))⟩
def k_Four_mul (I : PIx) : Fn := ⟨2, 4, 0,
    (.seq (.ifS (.notE (.isiC (.var 1) 281476158420338 I.cs))
      (.seq .never
      .nop)
      .nop)
    (.seq (.expr (.call I.require_same_algebra (.cons (.var 0) (.cons (.var 1) .nil))))
    (.seq (.asg 2 (.fld (.var 0) 20282544358415273851079157248609))
    (.seq (.asg 3 (.call I.raw_product (.cons (.fld (.var 2) 72058072783019873) (.cons (.fld (.var 2) 72058072783019874) (.cons (.fld (.var 0) 20282544358415274979234140480883) (.cons (.fld (.var 1) 20282544358415274979234140480883) .nil))))))
    (.seq (.ret (.call I.four_made (.cons (.var 2) (.cons (.var 3) (.cons (.bin .Mult (.fld (.var 0) 79228688900059664593393577837) (.fld (.var 1) 79228688900059664593393577837)) .nil)))))
    .nop)))))⟩
def k_Four_neg (I : PIx) : Fn := ⟨1, 2, 0,
    (.seq (.ret (.call I.four_made (.cons (.fld (.var 0) 20282544358415273851079157248609) (.cons (.blt .tuple (.cons (.comp (.neg (.var 1)) [1] (.fld (.var 0) 20282544358415274979234140480883) (.lit (.bl true))) .nil)) (.cons (.fld (.var 0) 79228688900059664593393577837) .nil)))))
    .nop)⟩
def k_Four_eq (I : PIx) : Fn := ⟨2, 2, 0,
    (.seq (.ifS (.orE (.notE (.isiC (.var 1) 281476158420338 I.cs)) (.cmp .NotEq (.fld (.var 0) 20282544358415273851079157248609) (.fld (.var 1) 20282544358415273851079157248609)))
      (.seq (.ret (.lit (.bl false)))
      .nop)
      .nop)
    (.seq (.ret (.andE (.cmp .Eq (.fld (.var 0) 79228688900059664593393577837) (.fld (.var 1) 79228688900059664593393577837)) (.cmp .Eq (.fld (.var 0) 20282544358415274979234140480883) (.fld (.var 1) 20282544358415274979234140480883))))
    .nop))⟩
def k_Four_bool (I : PIx) : Fn := ⟨1, 1, 0,
    (.seq (.ret (.blt .any (.cons (.fld (.var 0) 20282544358415274979234140480883) .nil)))
    .nop)⟩
/-! ### values -/
structure Al where
  a : Int
  b : Int
  ps : List Int
  d : Int
def ratioO (q : Rat) : O := .ins 72057947860265327 [4722397857907991670640, 79228688900059664593393577837] [.int q.num, .int (q.den : Int)]
def ratioD (q : Rat) : D := .obj 72057947860265327 [4722397857907991670640, 79228688900059664593393577837] [.int q.num, .int (q.den : Int)]
def termsO (t b : Int) : O := .ins 72057956517178739 [4722397857907991670640, 79228688900059664593393577837] [.int t, .int b]
def termsD (t b : Int) : D := .obj 72057956517178739 [4722397857907991670640, 79228688900059664593393577837] [.int t, .int b]
def algO (A : Al) : O := .ins 4722384897934469788257 [72058072783019873, 72058072783019874, 79228688900059679973351581043, 22300893362960104240665737060543834854878836] [.int A.a, .int A.b, .tup (A.ps.map D.int), .int A.d]
def algD (A : Al) : D := .obj 4722384897934469788257 [72058072783019873, 72058072783019874, 79228688900059679973351581043, 22300893362960104240665737060543834854878836] [.int A.a, .int A.b, .tup (A.ps.map D.int), .int A.d]
def entD (e : E5) : D := .tup [.int e.e0, .int e.e1, .int e.e2, .int e.e3]
def partsO (e : E5) : O := .ins 72057939270202483 [20282544358415274979234140480883, 79228688900059664593393577837] [entD e, .int e.b]
def partsD (e : E5) : D := .obj 72057939270202483 [20282544358415274979234140480883, 79228688900059664593393577837] [entD e, .int e.b]
def fourO (A : Al) (v : H) : O := .ins 281476158420338 [20282544358415273851079157248609, 79228688900059664593393577837, 20282544358415274979234140480883] [algD A, .int (rep v).b, entD (rep v)]
def fourD (A : Al) (v : H) : D := .obj 281476158420338 [20282544358415273851079157248609, 79228688900059664593393577837, 20282544358415274979234140480883] [algD A, .int (rep v).b, entD (rep v)]
section
variable (q q' : Rat) (t b : Int) (A B : Al) (e : E5) (v u : H) (R : Sto) (cf : Cf) (own : List O) (ds : List D) (σ : En) (p : Nat) (k : Nat) (cs : List Nat) (ty : Ty)
@[simp] theorem fzO_ratio : fzO (ratioO q) = ratioD q := rfl
@[simp] theorem fzO_terms : fzO (termsO t b) = termsD t b := rfl
@[simp] theorem fzO_alg : fzO (algO A) = algD A := rfl
@[simp] theorem fzO_parts : fzO (partsO e) = partsD e := rfl
@[simp] theorem fzO_four : fzO (fourO A v) = fourD A v := rfl
@[simp] theorem up_ratio : up (ratioD q) = ratioD q := rfl
@[simp] theorem up_terms : up (termsD t b) = termsD t b := rfl
@[simp] theorem up_alg : up (algD A) = algD A := rfl
@[simp] theorem up_parts : up (partsD e) = partsD e := rfl
@[simp] theorem up_four : up (fourD A v) = fourD A v := rfl
@[simp] theorem up_ent : up (entD e) = entD e := rfl
@[simp] theorem byv_ratio : byv (ratioD q) R = some (ratioD q, R) := rfl
@[simp] theorem byv_alg : byv (algD A) R = some (algD A, R) := rfl
@[simp] theorem byv_four : byv (fourD A v) R = some (fourD A v, R) := rfl
@[simp] theorem byv_ent : byv (entD e) R = some (entD e, R) := rfl
@[simp] theorem byvL_ratio : byvL (ratioD q :: ds) R = match byvL ds R with | some (es, R2) => some (ratioD q :: es, R2) | none => none := rfl
@[simp] theorem byvL_alg : byvL (algD A :: ds) R = match byvL ds R with | some (es, R2) => some (algD A :: es, R2) | none => none := rfl
@[simp] theorem byvL_four : byvL (fourD A v :: ds) R = match byvL ds R with | some (es, R2) => some (fourD A v :: es, R2) | none => none := rfl
@[simp] theorem byvL_ent : byvL (entD e :: ds) R = match byvL ds R with | some (es, R2) => some (entD e :: es, R2) | none => none := rfl
@[simp] theorem retv_ratio : retv own R (.val (ratioD q)) = .ok (.val (ratioD q)) R := rfl
@[simp] theorem retv_alg : retv own R (.val (algD A)) = .ok (.val (algD A)) R := rfl
@[simp] theorem retv_parts : retv own R (.val (partsD e)) = .ok (.val (partsD e)) R := rfl
@[simp] theorem retv_four : retv own R (.val (fourD A v)) = .ok (.val (fourD A v)) R := rfl
@[simp] theorem retv_ent : retv own R (.val (entD e)) = .ok (.val (entD e)) R := rfl
@[simp] theorem isiX_ratio : isiX ty (ratioD q) R = .ok (.val (.bl false)) R := rfl
@[simp] theorem isiX_terms : isiX ty (termsD t b) R = .ok (.val (.bl false)) R := rfl
@[simp] theorem isiX_alg : isiX ty (algD A) R = .ok (.val (.bl false)) R := rfl
@[simp] theorem isiX_parts : isiX ty (partsD e) R = .ok (.val (.bl false)) R := rfl
@[simp] theorem isiX_four : isiX ty (fourD A v) R = .ok (.val (.bl false)) R := rfl
@[simp] theorem isiX_ent : isiX ty (entD e) R = .ok (.val (.bl (Ty.isi .tuple ty))) R := rfl
@[simp] theorem isiY_ratio : isiY k cs (ratioD q) R = if cs.contains 72057947860265327 then .ok (.val (.bl (decide (72057947860265327 = k)))) R else .bad := rfl
@[simp] theorem isiY_terms : isiY k cs (termsD t b) R = if cs.contains 72057956517178739 then .ok (.val (.bl (decide (72057956517178739 = k)))) R else .bad := rfl
@[simp] theorem isiY_alg : isiY k cs (algD A) R = if cs.contains 4722384897934469788257 then .ok (.val (.bl (decide (4722384897934469788257 = k)))) R else .bad := rfl
@[simp] theorem isiY_parts : isiY k cs (partsD e) R = if cs.contains 72057939270202483 then .ok (.val (.bl (decide (72057939270202483 = k)))) R else .bad := rfl
@[simp] theorem isiY_four : isiY k cs (fourD A v) R = if cs.contains 281476158420338 then .ok (.val (.bl (decide (281476158420338 = k)))) R else .bad := rfl
@[simp] theorem isiY_ent : isiY k cs (entD e) R = .ok (.val (.bl false)) R := rfl
@[simp] theorem eqArg_ratio : eqArg (ratioD q) = true := rfl
@[simp] theorem eqArg_alg : eqArg (algD A) = true := rfl
@[simp] theorem eqArg_four : eqArg (fourD A v) = true := rfl
@[simp] theorem bX_addR : binopX cf .Add (ratioD q) (ratioD q') R = cf (2 * mAdd) [ratioD q, ratioD q'] R := by
  simp only [ratioD, fourD]
  exact bX_add ..
@[simp] theorem bX_subR : binopX cf .Sub (ratioD q) (ratioD q') R = cf (2 * mSub) [ratioD q, ratioD q'] R := by
  simp only [ratioD, fourD]
  exact bX_sub ..
@[simp] theorem bX_mulR : binopX cf .Mult (ratioD q) (ratioD q') R = cf (2 * mMul) [ratioD q, ratioD q'] R := by
  simp only [ratioD, fourD]
  exact bX_mul ..
@[simp] theorem bX_addF : binopX cf .Add (fourD A v) (fourD B u) R = cf (2 * mAdd) [fourD A v, fourD B u] R := by
  simp only [ratioD, fourD]
  exact bX_add ..
@[simp] theorem bX_subF : binopX cf .Sub (fourD A v) (fourD B u) R = cf (2 * mSub) [fourD A v, fourD B u] R := by
  simp only [ratioD, fourD]
  exact bX_sub ..
@[simp] theorem bX_mulF : binopX cf .Mult (fourD A v) (fourD B u) R = cf (2 * mMul) [fourD A v, fourD B u] R := by
  simp only [ratioD, fourD]
  exact bX_mul ..
@[simp] theorem nX_ratio : negX cf (ratioD q) R = cf (2 * mNeg) [ratioD q] R := rfl
@[simp] theorem nX_four : negX cf (fourD A v) R = cf (2 * mNeg) [fourD A v] R := rfl
@[simp] theorem cX_eqR (y : D) : cmpX cf .Eq (ratioD q) y R = if eqArg y then (match cf (2 * mEq) [ratioD q, y] R with
      | .ok (.val (.bl b)) R' => .ok (.val (.bl b)) R'
      | _ => .bad) else .bad := rfl
@[simp] theorem cX_neR (y : D) : cmpX cf .NotEq (ratioD q) y R = if eqArg y then (match cf (2 * mEq) [ratioD q, y] R with
      | .ok (.val (.bl b)) R' => .ok (.val (.bl (!b))) R'
      | _ => .bad) else .bad := rfl
@[simp] theorem cX_eqA (y : D) : cmpX cf .Eq (algD A) y R = if eqArg y then (match cf (2 * mEq) [algD A, y] R with
      | .ok (.val (.bl b)) R' => .ok (.val (.bl b)) R'
      | _ => .bad) else .bad := rfl
@[simp] theorem cX_neA (y : D) : cmpX cf .NotEq (algD A) y R = if eqArg y then (match cf (2 * mEq) [algD A, y] R with
      | .ok (.val (.bl b)) R' => .ok (.val (.bl (!b))) R'
      | _ => .bad) else .bad := rfl
@[simp] theorem cX_eqF (y : D) : cmpX cf .Eq (fourD A v) y R = if eqArg y then (match cf (2 * mEq) [fourD A v, y] R with
      | .ok (.val (.bl b)) R' => .ok (.val (.bl b)) R'
      | _ => .bad) else .bad := rfl
@[simp] theorem cX_neF (y : D) : cmpX cf .NotEq (fourD A v) y R = if eqArg y then (match cf (2 * mEq) [fourD A v, y] R with
      | .ok (.val (.bl b)) R' => .ok (.val (.bl (!b))) R'
      | _ => .bad) else .bad := rfl
@[simp] theorem bltX_ratio (kk : Bk) : bltX cf .bool1 [ratioD q] R = (match cf (2 * mBool) [ratioD q] R with
      | .ok (.val (.bl b)) R' => .ok (.val (.bl b)) R'
      | _ => .bad) := rfl
@[simp] theorem bltX_four : bltX cf .bool1 [fourD A v] R = (match cf (2 * mBool) [fourD A v] R with
      | .ok (.val (.bl b)) R' => .ok (.val (.bl b)) R'
      | _ => .bad) := rfl
@[simp] theorem bltX_ent (kk : Bk) : bltX cf kk [entD e] R = bltop kk [entD e] R := rfl
@[simp] theorem prpX_ratio (f : Nat) : prpX cf f (ratioD q) R = cf (2 * f + 1) [ratioD q] R := rfl
@[simp] theorem prpX_alg (f : Nat) : prpX cf f (algD A) R = cf (2 * f + 1) [algD A] R := rfl
@[simp] theorem prpX_four (f : Nat) : prpX cf f (fourD A v) R = cf (2 * f + 1) [fourD A v] R := rfl
@[simp] theorem mthX_ratio (m : Nat) (o : Out Rv) : mthX cf m (ratioD q) o = bindA o fun es R => cf (2 * m) (ratioD q :: es) R := rfl
@[simp] theorem mthX_alg (m : Nat) (o : Out Rv) : mthX cf m (algD A) o = bindA o fun es R => cf (2 * m) (algD A :: es) R := rfl
@[simp] theorem mthX_four (m : Nat) (o : Out Rv) : mthX cf m (fourD A v) o = bindA o fun es R => cf (2 * m) (fourD A v :: es) R := rfl
@[simp] theorem fld_ratio_t : fldD R (ratioD q) 4722397857907991670640 = some (.int q.num) := rfl
@[simp] theorem fld_ratio_b : fldD R (ratioD q) 79228688900059664593393577837 = some (.int (q.den : Int)) := rfl
@[simp] theorem fld_terms_t : fldD R (termsD t b) 4722397857907991670640 = some (.int t) := rfl
@[simp] theorem fld_terms_b : fldD R (termsD t b) 79228688900059664593393577837 = some (.int b) := rfl
@[simp] theorem fld_alg_a : fldD R (algD A) 72058072783019873 = some (.int A.a) := rfl
@[simp] theorem fld_alg_b : fldD R (algD A) 72058072783019874 = some (.int A.b) := rfl
@[simp] theorem fld_alg_p : fldD R (algD A) 79228688900059679973351581043 = some (.tup (A.ps.map D.int)) := rfl
@[simp] theorem fld_alg_d : fldD R (algD A) 22300893362960104240665737060543834854878836 = some (.int A.d) := rfl
@[simp] theorem fld_parts_e : fldD R (partsD e) 20282544358415274979234140480883 = some (entD e) := rfl
@[simp] theorem fld_parts_b : fldD R (partsD e) 79228688900059664593393577837 = some (.int e.b) := rfl
@[simp] theorem fld_four_a : fldD R (fourD A v) 20282544358415273851079157248609 = some (algD A) := rfl
@[simp] theorem fld_four_b : fldD R (fourD A v) 79228688900059664593393577837 = some (.int (rep v).b) := rfl
@[simp] theorem fld_four_e : fldD R (fourD A v) 20282544358415274979234140480883 = some (entD (rep v)) := rfl
@[simp] theorem cls_ratio : clsD R (ratioD q) = some 72057947860265327 := rfl
@[simp] theorem cls_alg : clsD R (algD A) = some 4722384897934469788257 := rfl
@[simp] theorem cls_four : clsD R (fourD A v) = some 281476158420338 := rfl
@[simp] theorem noRef_ratio : noRef (some (ratioD q) :: σ) p = noRef σ p := rfl
@[simp] theorem noRef_alg : noRef (some (algD A) :: σ) p = noRef σ p := rfl
@[simp] theorem noRef_four : noRef (some (fourD A v) :: σ) p = noRef σ p := rfl
@[simp] theorem noRef_ent : noRef (some (entD e) :: σ) p = noRef σ p := rfl
@[simp] theorem cX_ent (op : CmpOp) (y : D) : cmpX cf op (entD e) y R = liftO (cmpY op (entD e) y R) R fun b => .val (.bl b) := rfl
@[simp] theorem itD_ent : EV.itV R (entD e) = some (.vals [.int e.e0, .int e.e1, .int e.e2, .int e.e3]) := rfl
@[simp] theorem sub_ent (i : Int) : subX (entD e) (.int i) R = atI [.int e.e0, .int e.e1, .int e.e2, .int e.e3] i := rfl
@[simp] theorem tg_ent (i0 i1 i2 i3 : Nat) : setTg [i0, i1, i2, i3] (entD e) σ = some ((((σ.set i0 (some (.int e.e0))).set i1 (some (.int e.e1))).set i2 (some (.int e.e2))).set i3 (some (.int e.e3))) := rfl
@[simp] theorem zip_ent (e' : E5) : itOf .zip R (.many [entD e, entD e']) = some (.vals [.tup [.int e.e0, .int e'.e0], .tup [.int e.e1, .int e'.e1], .tup [.int e.e2, .int e'.e2], .tup [.int e.e3, .int e'.e3]]) := rfl
@[simp] theorem any_ent : bltop .any [entD e] R = .ok (.val (.bl ([e.e0, e.e1, e.e2, e.e3].any (· != 0)))) R := blt_any_tup R [e.e0, e.e1, e.e2, e.e3]
@[simp] theorem len_ent : bltop .len [entD e] R = .ok (.val (.int 4)) R := rfl
end
theorem ent_eq (i0 i1 i2 i3 : Int) : D.tup [.int i0, .int i1, .int i2, .int i3] = entD ⟨0, i0, i1, i2, i3⟩ := rfl

/-! ### long numbers -/
theorem mulOk_bd {i j : Int} {n m : Nat} [a : BI i n] [b : BI j m] (h : n + m ≤ 1000000) : mulOk i j = true := mulOk_of a.h b.h h
theorem divOk_bd {j : Int} {m : Nat} [b : BI j m] (h0 : j ≠ 0) (h : m ≤ 9000) : divOk j = true := divOk_of b.h h h0

/-! ### promises of defs: at each depth from d on -/
def At (Fs : Tab) (lf d : Nat) (P : Cf → Prop) : Prop := ∀ n, d ≤ n → P (run Fs lf n)
theorem At.up {Fs : Tab} {lf d e : Nat} {P : Cf → Prop} (h : At Fs lf d P) (hd : d ≤ e) : At Fs lf e P := fun n hn => h n (Nat.le_trans hd hn)
theorem At.mk {Fs : Tab} {lf d : Nat} {P : Cf → Prop} (h : ∀ n, d ≤ n → P (run Fs lf (n + 1))) : At Fs lf (d + 1) P := fun n hn => by
  obtain ⟨m, rfl⟩ : ∃ m, n = m + 1 := ⟨n - 1, by omega⟩
  exact h m (by omega)
theorem run_fn {Fs : Tab} {lf n f : Nat} {as : List D} {R : Sto} {d : Fn} (h : Fs.fns[f]? = some d) (hf : f < 131072) : EV.run Fs lf (n + 1) f as R = if as.length = d.np then finR (ex (EV.run Fs lf n) lf d.code (startD d.nv as) (List.replicate d.pl .dead :: R)) else .bad := run_at n f as R d hf h
theorem run_obj {Fs : Tab} {lf n f : Nat} {x : D} {as : List D} {R : Sto} {c g : Nat} {d : Fn} (hc : clsD R x = some c) (hf : 131072 ≤ f) (hp : (if f % 2 = 0 then pick Fs.mts c (f / 2) else pick Fs.prs c (f / 2)) = some g) (hg : g < 131072) (hd : Fs.fns[g]? = some d) :
    EV.run Fs lf (n + 1) f (x :: as) R = if (x :: as).length = d.np then finR (ex (EV.run Fs lf n) lf d.code (startD d.nv (x :: as)) (List.replicate d.pl .dead :: R)) else .bad := by
  rw [run_mth (n + 1) f x as R c g hf hc hp hg, run_at n g _ R d hg hd]
/-- a def, a method, a property of the table -/
def HasF (Fs : Tab) (i : Nat) (d : Fn) : Prop := Fs.fns[i]? = some d ∧ i < 131072
def HasM (Fs : Tab) (c m : Nat) (d : Fn) : Prop := ∃ g, pick Fs.mts c m = some g ∧ g < 131072 ∧ Fs.fns[g]? = some d ∧ 65536 ≤ m
def HasP (Fs : Tab) (c f : Nat) (d : Fn) : Prop := ∃ g, pick Fs.prs c f = some g ∧ g < 131072 ∧ Fs.fns[g]? = some d ∧ 65536 ≤ f
theorem run_f {Fs : Tab} {lf n i : Nat} {as : List D} {R : Sto} {d : Fn} (h : HasF Fs i d) : EV.run Fs lf (n + 1) i as R = if as.length = d.np then finR (ex (EV.run Fs lf n) lf d.code (startD d.nv as) (List.replicate d.pl .dead :: R)) else .bad := run_fn h.1 h.2
theorem run_m {Fs : Tab} {lf n m c : Nat} {x : D} {as : List D} {R : Sto} {d : Fn} (h : HasM Fs c m d) (hc : clsD R x = some c) : EV.run Fs lf (n + 1) (2 * m) (x :: as) R = if (x :: as).length = d.np then finR (ex (EV.run Fs lf n) lf d.code (startD d.nv (x :: as)) (List.replicate d.pl .dead :: R)) else .bad := by
  obtain ⟨g, h1, h2, h3, h4⟩ := h
  exact run_obj hc (by omega) (by rw [if_pos (by omega), show 2 * m / 2 = m by omega]; exact h1) h2 h3
theorem run_p {Fs : Tab} {lf n m c : Nat} {x : D} {as : List D} {R : Sto} {d : Fn} (h : HasP Fs c m d) (hc : clsD R x = some c) : EV.run Fs lf (n + 1) (2 * m + 1) (x :: as) R = if (x :: as).length = d.np then finR (ex (EV.run Fs lf n) lf d.code (startD d.nv (x :: as)) (List.replicate d.pl .dead :: R)) else .bad := by
  obtain ⟨g, h1, h2, h3, h4⟩ := h
  exact run_obj hc (by omega) (by rw [if_neg (by omega), show (2 * m + 1) / 2 = m by omega]; exact h1) h2 h3

/-! ### greatest common divisors -/
theorem abs_cast (i : Int) : (if i < 0 then -i else i) = ((i.natAbs : Nat) : Int) := by omega
theorem fmod_nat (a b : Nat) : (a : Int).fmod (b : Int) = ((a % b : Nat) : Int) := by
  rw [Int.fmod_eq_emod_of_nonneg _ (by omega)]
  exact (Int.natCast_emod a b).symm
abbrev cGC : C := .cmp .NotEq (.var 1) (.lit (.int 0))
abbrev cGB : S := .seq (.par2 0 1 none none (.var 1) (.bin .Mod (.var 0) (.var 1))) .nop
theorem gcd_turn (cf : Cf) (lf a b : Nat) (R : Sto) (fuel : Nat) (hb : b ≠ 0) : whR (ev cf lf cGC) (ex cf lf cGB) (fuel + 1) [some (.int a), some (.int b)] R = whR (ev cf lf cGC) (ex cf lf cGB) fuel [some (.int b), some (.int (a % b : Nat))] R := by
  have h : ¬ (b : Int) = 0 := by omega
  rw [whR_t (R1 := R) (σ2 := [some (.int b), some (.int (a % b : Nat))]) (R2 := R)]
  · simp [hb]
  · simp [hb, h, fmod_nat]
theorem gcd_end (cf : Cf) (lf a : Nat) (R : Sto) (fuel : Nat) : whR (ev cf lf cGC) (ex cf lf cGB) (fuel + 1) [some (.int a), some (.int (0 : Nat))] R = .nx [some (.int a), some (.int (0 : Nat))] R := whR_f (by simp)
theorem gcd_loop (cf : Cf) (lf : Nat) (R : Sto) : ∀ (k a b fuel : Nat), b < 2 ^ k → 2 * k + 1 ≤ fuel → whR (ev cf lf cGC) (ex cf lf cGB) fuel [some (.int a), some (.int b)] R = .nx [some (.int (Nat.gcd a b : Nat)), some (.int (0 : Nat))] R := by
  intro k
  induction k with
  | zero =>
    intro a b fuel hb hf
    obtain ⟨m, rfl⟩ : ∃ m, fuel = m + 1 := ⟨fuel - 1, by omega⟩
    have : b = 0 := by simpa using hb
    subst this
    rw [gcd_end, Nat.gcd_zero_right]
  | succ k ih =>
    intro a b fuel hb hf
    obtain ⟨m, rfl⟩ : ∃ m, fuel = m + 3 := ⟨fuel - 3, by omega⟩
    by_cases h0 : b = 0
    · subst h0
      rw [gcd_end, Nat.gcd_zero_right]
    · rw [gcd_turn _ _ _ _ _ _ h0]
      by_cases h1 : a % b = 0
      · rw [h1, gcd_end]
        rw [Nat.gcd_eq_right (Nat.dvd_of_mod_eq_zero h1)]
      · rw [gcd_turn _ _ _ _ _ _ h1]
        have hr : a % b < b := Nat.mod_lt _ (by omega)
        have hh : b % (a % b) < 2 ^ k := by
          rw [Nat.pow_succ] at hb
          rcases Nat.lt_or_ge (2 * (a % b)) (b + 1) with h2 | h2
          · have := Nat.mod_lt b (show 0 < a % b by omega)
            omega
          · have : b % (a % b) = b - a % b := by
              rw [Nat.mod_eq_sub_mod (by omega), Nat.mod_eq_of_lt (by omega)]
            omega
        rw [ih (a % b) (b % (a % b)) (m + 1) hh (by omega)]
        have e : Nat.gcd (a % b) (b % (a % b)) = Nat.gcd a b := by
          rw [Nat.gcd_comm, ← Nat.gcd_rec, ← Nat.gcd_rec, Nat.gcd_comm]
        rw [e]
section
variable {Fs : Tab} {lf : Nat} (hlf : 10 ^ 100 ≤ lf) {I : PIx}
include hlf
abbrev PCommon (i : Nat) (cf : Cf) : Prop := ∀ (a b : Int) (R : Sto) (m : Nat) [BI b m], m ≤ 100000 → cf i [.int a, .int b] R = .ok (.val (.int (Int.gcd a b : Nat))) R
theorem ok_common (h : HasF Fs I.common_of (k_common_of I)) : At Fs lf 1 (PCommon I.common_of) := .mk fun n _ a b R m hb hm => by
  rw [run_f h]
  have e := gcd_loop (EV.run Fs lf n) lf ([] :: R) m a.natAbs b.natAbs lf hb.h (by omega)
  simp [k_common_of, abs_cast, e]
  rfl
end

/-! ### classes of a law: those that isinstance knows, the slots' tables -/
structure PIx.Cl (I : PIx) : Prop where
  cA : 4722384897934469788257 ∈ I.cs
  cF : 281476158420338 ∈ I.cs
  cP : 72057939270202483 ∈ I.cs
  cR : 72057947860265327 ∈ I.cs
  cT : 72057956517178739 ∈ I.cs
  tT : (I.tb 4722397857907991670640).lookup 72057956517178739 = some [79228688900059664593393577837, 4722397857907991670640]
  tR : (I.tb 4722397857907991670640).lookup 72057947860265327 = some [79228688900059664593393577837, 4722397857907991670640]
  bT : (I.tb 79228688900059664593393577837).lookup 72057956517178739 = some [79228688900059664593393577837, 4722397857907991670640]
  bR : (I.tb 79228688900059664593393577837).lookup 72057947860265327 = some [79228688900059664593393577837, 4722397857907991670640]
  bF : (I.tb 79228688900059664593393577837).lookup 281476158420338 = some [20282544358415273851079157248609, 79228688900059664593393577837, 20282544358415274979234140480883]
  aF : (I.tb 20282544358415273851079157248609).lookup 281476158420338 = some [20282544358415273851079157248609, 79228688900059664593393577837, 20282544358415274979234140480883]
  eF : (I.tb 20282544358415274979234140480883).lookup 281476158420338 = some [20282544358415273851079157248609, 79228688900059664593393577837, 20282544358415274979234140480883]
  eP : (I.tb 20282544358415274979234140480883).lookup 72057939270202483 = some [79228688900059664593393577837, 20282544358415274979234140480883]
  xA : (I.tb 72058072783019873).lookup 4722384897934469788257 = some [72058072783019873, 72058072783019874, 22300893362960104240665737060543834854878836, 79228688900059679973351581043]
  yA : (I.tb 72058072783019874).lookup 4722384897934469788257 = some [72058072783019873, 72058072783019874, 22300893362960104240665737060543834854878836, 79228688900059679973351581043]
  pA : (I.tb 79228688900059679973351581043).lookup 4722384897934469788257 = some [72058072783019873, 72058072783019874, 22300893362960104240665737060543834854878836, 79228688900059679973351581043]
  dA : (I.tb 22300893362960104240665737060543834854878836).lookup 4722384897934469788257 = some [72058072783019873, 72058072783019874, 22300893362960104240665737060543834854878836, 79228688900059679973351581043]
theorem isi_obj (R : Sto) (c : Nat) (cs : List Nat) (h : cs.contains c = true) : (if cs.contains c then (Out.ok (Rv.val (.bl true)) R : Out Rv) else .bad) = .ok (.val (.bl true)) R := by rw [if_pos h]
theorem fst_own (cls : List (Nat × List Nat)) (c f : Nat) (ns fs : List Nat) (ds : List D) (y : D) (own : List O) (R : Sto) (h : cls.lookup c = some fs) (hb : (fs.contains f && ns.all fun n => fs.contains n) = true) : fstO cls (.ref 1 0) f y (own :: [.ins c ns ds] :: R) = some (own :: [.ins c (putD ns ds f y).1 (putD ns ds f y).2] :: R) := by
  show (match cls.lookup c with | some fs => if (fs.contains f && ns.all fun n => fs.contains n) = true then some (sset (own :: [.ins c ns ds] :: R) 1 0 (.ins c (putD ns ds f y).1 (putD ns ds f y).2)) else none | none => none) = _
  rw [h]
  dsimp only
  rw [if_pos hb]
  rfl
theorem newV_eq {cf : Cf} {c : Nat} {ds : List D} {R : Sto} {ns : List Nat} {es : List D} (h : cf (2 * mInit) (.ref 0 0 :: ds.map up) ([.ins c [] []] :: R) = .ok (.val .non) ([.ins c ns es] :: R)) : newV cf c ds R = .ok (.new (.ins c ns es)) R := by
  unfold newV
  rw [h]
  exact if_pos rfl
theorem cls_own (c : Nat) (ns : List Nat) (ds : List D) (R : Sto) : clsD ([.ins c ns ds] :: R) (.ref 0 0) = some c := rfl
section
variable {Fs : Tab} {lf : Nat} {I : PIx}
/-- terms -/
abbrev PTerms (cf : Cf) : Prop := ∀ (t b : Int) (R : Sto), newV cf 72057956517178739 [.int t, .int b] R = .ok (.new (termsO t b)) R
theorem ok_terms (c : I.Cl) (h : HasM Fs 72057956517178739 mInit (k_Terms_init I)) : At Fs lf 1 PTerms := .mk fun n _ t b R => by
  refine newV_eq ?_
  rw [run_m h (cls_own _ _ _ _)]
  simp [k_Terms_init, fst_own, c.tT, c.bT, putD]
/-- ratios -/
abbrev PRatio (cf : Cf) : Prop := ∀ (t b : Int) (R : Sto) (n m : Nat) [BI t n] [BI b m], b ≠ 0 → n ≤ 9000 → m ≤ 9000 → newV cf 72057947860265327 [termsD t b, .int 1] R = .ok (.new (ratioO (Rat.divInt t b))) R
theorem gcd_bi {a b : Int} {m : Nat} [h : BI b m] (hb : b ≠ 0) : BI (Int.gcd a b : Nat) m := ⟨by
  have := Nat.gcd_le_right (n := b.natAbs) a.natAbs (by omega)
  have := h.h
  show ((Nat.gcd a.natAbs b.natAbs : Nat) : Int).natAbs < 2 ^ m
  omega⟩
theorem shr_bi {a b : Int} {m : Nat} [h : BI b m] (hb : b ≠ 0) : BI (shr a b) m := ⟨by
  have := (gcd_bi (a := a) hb).h
  unfold shr
  split <;> omega⟩
theorem ok_ratio (hc : At Fs lf 1 (PCommon I.common_of)) (c : I.Cl) (h : HasM Fs 72057947860265327 mInit (k_Ratio_init I)) : At Fs lf 2 PRatio := .mk fun n hn t b R bn bm ht hb h0 hn1 hm1 => by
  refine newV_eq ?_
  rw [run_m h (cls_own _ _ _ _)]
  have e1 : ∀ R, run Fs lf n I.common_of [.int t, .int b] R = .ok (.val (.int (Int.gcd t b : Nat))) R := fun R => hc n hn t b R bm (by omega)
  have g : (if 0 < b then (Int.gcd t b : Int) else -(Int.gcd t b : Int)) = shr t b := rfl
  have s0 := shr_ne (t := t) h0
  haveI := shr_bi (a := t) h0
  have dv : divOk (shr t b) = true := divOk_bd s0 (by omega)
  obtain ⟨d1, d2⟩ := shr_dvd t b
  have f1 : t.fdiv (shr t b) = (Rat.divInt t b).num := by rw [num_shr t h0, Int.fdiv_eq_ediv_of_dvd d1]
  have f2 : b.fdiv (shr t b) = ((Rat.divInt t b).den : Int) := by rw [den_shr t h0, Int.fdiv_eq_ediv_of_dvd d2]
  rcases Int.lt_or_gt_of_ne h0 with hb0 | hb0
  · have g' : -(Int.gcd t b : Int) = shr t b := by rw [← g, if_neg (by omega)]
    have nb : ¬ 0 < b := by omega
    simp [k_Ratio_init, fst_own, c.tR, c.bR, c.cT, putD, e1, nb, g', dv, f1, f2]
  · have g' : (Int.gcd t b : Int) = shr t b := by rw [← g, if_pos hb0]
    simp [k_Ratio_init, fst_own, c.tR, c.bR, c.cT, putD, e1, hb0, g', dv, f1, f2]
abbrev PRatioOf (i : Nat) (cf : Cf) : Prop := ∀ (t b : Int) (R : Sto) (n m : Nat) [BI t n] [BI b m], b ≠ 0 → n ≤ 9000 → m ≤ 9000 → cf i [.int t, .int b] R = .ok (.new (ratioO (Rat.divInt t b))) R
theorem ok_ratioOf (ht : At Fs lf 1 PTerms) (hr : At Fs lf 2 PRatio) (h : HasF Fs I.ratio_of (k_ratio_of I)) : At Fs lf 3 (PRatioOf I.ratio_of) := .mk fun n hn t b R bn bm hbt hbb h0 h1 h2 => by
  rw [run_f h]
  have e1 := ht n (by omega) t b
  have e2 := fun R => hr n (by omega) t b R bn bm h0 h1 h2
  simp [k_ratio_of, e1, e2]
end
section
variable {Fs : Tab} {lf : Nat} {I : PIx}
/-! ### judging numbers -/
abbrev PWhole (i : Nat) (cf : Cf) : Prop := (∀ (v : Int) (R : Sto), cf i [.int v] R = .ok (.val (.bl true)) R) ∧ (∀ (q : Rat) (R : Sto), cf i [ratioD q] R = .ok (.val (.bl false)) R)
theorem ok_whole (h : HasF Fs I.is_whole (k_is_whole I)) : At Fs lf 1 (PWhole I.is_whole) := .mk fun n _ => by
  refine ⟨fun v R => ?_, fun q R => ?_⟩ <;> (rw [run_f h]; simp [k_is_whole])
def beyond : Int := 1000000000000000000000000000000000000000000000000000000000000
abbrev PInteger (i : Nat) (cf : Cf) : Prop := ∀ (v : Int) (R : Sto), -beyond < v → v < beyond → cf i [.int v] R = .ok (.val (.bl true)) R
theorem ok_integer (hw : At Fs lf 1 (PWhole I.is_whole)) (h : HasF Fs I.is_integer (k_is_integer I)) : At Fs lf 2 (PInteger I.is_integer) := .mk fun n hn v R h1 h2 => by
  rw [run_f h]
  unfold beyond at h1 h2
  simp [k_is_integer, (hw n hn).1, h1, h2]
abbrev PReqInt (i : Nat) (cf : Cf) : Prop := ∀ (v : Int) (R : Sto), -beyond < v → v < beyond → cf i [.int v] R = .ok (.val .non) R
theorem ok_reqInt (hw : At Fs lf 2 (PInteger I.is_integer)) (h : HasF Fs I.require_integer (k_require_integer I)) : At Fs lf 3 (PReqInt I.require_integer) := .mk fun n hn v R h1 h2 => by
  rw [run_f h]
  simp [k_require_integer, hw n hn v _ h1 h2]
abbrev PNumber (i : Nat) (cf : Cf) : Prop := ∀ (v : Int) (R : Sto), v ≠ 0 → -1000000000 ≤ v → v ≤ 1000000000 → cf i [.int v] R = .ok (.val (.bl true)) R
theorem ok_number (hw : At Fs lf 1 (PWhole I.is_whole)) (h : HasF Fs I.is_number (k_is_number I)) : At Fs lf 2 (PNumber I.is_number) := .mk fun n hn v R h0 h1 h2 => by
  rw [run_f h]
  simp [k_is_number, (hw n hn).1, h0, h1, h2]
abbrev PReqNum (i : Nat) (cf : Cf) : Prop := ∀ (v : Int) (R : Sto), v ≠ 0 → -1000000000 ≤ v → v ≤ 1000000000 → cf i [.int v] R = .ok (.val .non) R
theorem ok_reqNum (hw : At Fs lf 2 (PNumber I.is_number)) (h : HasF Fs I.require_number (k_require_number I)) : At Fs lf 3 (PReqNum I.require_number) := .mk fun n hn v R h0 h1 h2 => by
  rw [run_f h]
  simp [k_require_number, hw n hn v _ h0 h1 h2]
/-! ### ratios -/
/-- a ratio of any two told integers, by the class -/
abbrev PRatio2 (cf : Cf) : Prop := ∀ (t b : Int) (R : Sto), b ≠ 0 → -beyond < t → t < beyond → -beyond < b → b < beyond → newV cf 72057947860265327 [.int t, .int b] R = .ok (.new (ratioO (Rat.divInt t b))) R
theorem bey_bi {v : Int} (h1 : -beyond < v) (h2 : v < beyond) : BI v 200 := ⟨by unfold beyond at *; have : (2 : Nat) ^ 200 = 1606938044258990275541962092341162602522202993782792835301376 := by decide
                                                                                rw [this]; omega⟩
theorem ok_ratio2 (hc : At Fs lf 1 (PCommon I.common_of)) (hi : At Fs lf 3 (PReqInt I.require_integer)) (c : I.Cl) (h : HasM Fs 72057947860265327 mInit (k_Ratio_init I)) : At Fs lf 4 PRatio2 := .mk fun n hn t b R h0 t1 t2 b1 b2 => by
  refine newV_eq ?_
  rw [run_m h (cls_own _ _ _ _)]
  haveI := bey_bi t1 t2
  haveI := bey_bi b1 b2
  have e1 : ∀ R, run Fs lf n I.common_of [.int t, .int b] R = .ok (.val (.int (Int.gcd t b : Nat))) R := fun R => hc n (by omega) t b R 200 (by omega)
  have e2 := fun R => hi n hn t R t1 t2
  have e3 := fun R => hi n hn b R b1 b2
  have g : (if 0 < b then (Int.gcd t b : Int) else -(Int.gcd t b : Int)) = shr t b := rfl
  have s0 := shr_ne (t := t) h0
  haveI := shr_bi (a := t) h0
  have dv : divOk (shr t b) = true := divOk_bd s0 (by omega)
  obtain ⟨d1, d2⟩ := shr_dvd t b
  have f1 : t.fdiv (shr t b) = (Rat.divInt t b).num := by rw [num_shr t h0, Int.fdiv_eq_ediv_of_dvd d1]
  have f2 : b.fdiv (shr t b) = ((Rat.divInt t b).den : Int) := by rw [den_shr t h0, Int.fdiv_eq_ediv_of_dvd d2]
  rcases Int.lt_or_gt_of_ne h0 with hb0 | hb0
  · have g' : -(Int.gcd t b : Int) = shr t b := by rw [← g, if_neg (by omega)]
    have nb : ¬ 0 < b := by omega
    simp [k_Ratio_init, fst_own, c.tR, c.bR, c.cT, putD, e1, e2, e3, h0, nb, g', dv, f1, f2, ratioO]
  · have g' : (Int.gcd t b : Int) = shr t b := by rw [← g, if_pos hb0]
    simp [k_Ratio_init, fst_own, c.tR, c.bR, c.cT, putD, e1, e2, e3, h0, hb0, g', dv, f1, f2, ratioO]
/-- is it a ratio, or an integer -/
abbrev PIsRat (i : Nat) (cf : Cf) : Prop := (∀ (q : Rat) (R : Sto), cf i [ratioD q] R = .ok (.val (.bl true)) R) ∧ (∀ (v : Int) (R : Sto), -beyond < v → v < beyond → cf i [.int v] R = .ok (.val (.bl true)) R)
theorem ok_isRat (hi : At Fs lf 2 (PInteger I.is_integer)) (c : I.Cl) (h : HasF Fs I.is_ratio_or_integer (k_is_ratio_or_integer I)) : At Fs lf 3 (PIsRat I.is_ratio_or_integer) := .mk fun n hn => by
  refine ⟨fun q R => ?_, fun v R h1 h2 => ?_⟩
  · rw [run_f h]; simp [k_is_ratio_or_integer, c.cR]
  · rw [run_f h]; simp [k_is_ratio_or_integer, c.cR, hi n hn v _ h1 h2]
abbrev PTold (i : Nat) (cf : Cf) : Prop := (∀ (q : Rat) (R : Sto), cf i [ratioD q] R = .ok (.val (ratioD q)) R) ∧ (∀ (v : Int) (R : Sto), -beyond < v → v < beyond → cf i [.int v] R = .ok (.new (ratioO (v : Rat))) R)
theorem ok_told (hi : At Fs lf 2 (PInteger I.is_integer)) (hr : At Fs lf 3 (PRatioOf I.ratio_of)) (c : I.Cl) (h : HasF Fs I.told_ratio (k_told_ratio I)) : At Fs lf 4 (PTold I.told_ratio) := .mk fun n hn => by
  refine ⟨fun q R => ?_, fun v R h1 h2 => ?_⟩
  · rw [run_f h]; simp [k_told_ratio, c.cR]
  · haveI := bey_bi h1 h2
    haveI : BI 1 1 := ⟨by decide⟩
    have e1 := fun R => hr n hn v 1 R 200 1 (by decide) (by decide) (by decide)
    have e2 : Rat.divInt v 1 = (v : Rat) := by
      rw [Rat.divInt_eq_div]
      have : ((1 : Int) : Rat) = 1 := rfl
      grind
    rw [run_f h]; simp [k_told_ratio, c.cR, hi n (by omega) v _ h1 h2, e1, e2]
/-- a ratio's operators -/
abbrev POp (m : Nat) (f : Rat → Rat → Rat) (cf : Cf) : Prop := ∀ (p q : Rat) (R : Sto) (n m' : Nat) [BR p n] [BR q m'], n ≤ 2000 → m' ≤ 2000 → cf (2 * m) [ratioD p, ratioD q] R = .ok (.new (ratioO (f p q))) R
theorem rat_add (p q : Rat) : Rat.divInt (p.num * (q.den : Int) + q.num * (p.den : Int)) ((p.den : Int) * (q.den : Int)) = p + q := by
  conv => rhs; rw [← Rat.num_divInt_den p, ← Rat.num_divInt_den q]
  exact (Rat.divInt_add_divInt _ _ (den_ne p) (den_ne q)).symm
theorem rat_sub (p q : Rat) : Rat.divInt (p.num * (q.den : Int) - q.num * (p.den : Int)) ((p.den : Int) * (q.den : Int)) = p - q := by
  conv => rhs; rw [← Rat.num_divInt_den p, ← Rat.num_divInt_den q]
  exact (Rat.divInt_sub_divInt _ _ (den_ne p) (den_ne q)).symm
theorem rat_mul (p q : Rat) : Rat.divInt (p.num * q.num) ((p.den : Int) * (q.den : Int)) = p * q := by
  conv => rhs; rw [← Rat.num_divInt_den p, ← Rat.num_divInt_den q]
  exact (Rat.divInt_mul_divInt _ _).symm
theorem den_mul_ne (p q : Rat) : (p.den : Int) * (q.den : Int) ≠ 0 := Int.mul_ne_zero (den_ne p) (den_ne q)
theorem ok_add (hi : At Fs lf 3 (PIsRat I.is_ratio_or_integer)) (ht : At Fs lf 4 (PTold I.told_ratio)) (hr : At Fs lf 3 (PRatioOf I.ratio_of)) (h : HasM Fs 72057947860265327 mAdd (k_Ratio_add I)) : At Fs lf 5 (POp mAdd (· + ·)) := .mk fun n hn p q R np nq bp bq h1 h2 => by
  rw [run_m h (cls_ratio _ _)]
  replace bp := bp.up h1
  replace bq := bq.up h2
  have e1 := fun R => hr n (by omega) (p.num * (q.den : Int) + q.num * (p.den : Int)) ((p.den : Int) * (q.den : Int)) R _ _ (den_mul_ne p q) (show max (2000 + 2000) (2000 + 2000) + 1 ≤ 9000 by decide) (show 2000 + 2000 ≤ 9000 by decide)
  have m1 : mulOk p.num q.den = true := mulOk_bd (n := 2000) (m := 2000) (by decide)
  have m2 : mulOk q.num p.den = true := mulOk_bd (n := 2000) (m := 2000) (by decide)
  have m3 : mulOk p.den q.den = true := mulOk_bd (n := 2000) (m := 2000) (by decide)
  simp [k_Ratio_add, (hi n (by omega)).1, (ht n hn).1, m1, m2, m3, e1, rat_add]
theorem ok_sub (hi : At Fs lf 3 (PIsRat I.is_ratio_or_integer)) (ht : At Fs lf 4 (PTold I.told_ratio)) (hr : At Fs lf 3 (PRatioOf I.ratio_of)) (h : HasM Fs 72057947860265327 mSub (k_Ratio_sub I)) : At Fs lf 5 (POp mSub (· - ·)) := .mk fun n hn p q R np nq bp bq h1 h2 => by
  rw [run_m h (cls_ratio _ _)]
  replace bp := bp.up h1
  replace bq := bq.up h2
  have e1 := fun R => hr n (by omega) (p.num * (q.den : Int) - q.num * (p.den : Int)) ((p.den : Int) * (q.den : Int)) R _ _ (den_mul_ne p q) (show max (2000 + 2000) (2000 + 2000) + 1 ≤ 9000 by decide) (show 2000 + 2000 ≤ 9000 by decide)
  have m1 : mulOk p.num q.den = true := mulOk_bd (n := 2000) (m := 2000) (by decide)
  have m2 : mulOk q.num p.den = true := mulOk_bd (n := 2000) (m := 2000) (by decide)
  have m3 : mulOk p.den q.den = true := mulOk_bd (n := 2000) (m := 2000) (by decide)
  simp [k_Ratio_sub, (hi n (by omega)).1, (ht n hn).1, m1, m2, m3, e1, rat_sub]
theorem ok_mul (hi : At Fs lf 3 (PIsRat I.is_ratio_or_integer)) (ht : At Fs lf 4 (PTold I.told_ratio)) (hr : At Fs lf 3 (PRatioOf I.ratio_of)) (h : HasM Fs 72057947860265327 mMul (k_Ratio_mul I)) : At Fs lf 5 (POp mMul (· * ·)) := .mk fun n hn p q R np nq bp bq h1 h2 => by
  rw [run_m h (cls_ratio _ _)]
  replace bp := bp.up h1
  replace bq := bq.up h2
  have e1 := fun R => hr n (by omega) (p.num * q.num) ((p.den : Int) * (q.den : Int)) R _ _ (den_mul_ne p q) (show 2000 + 2000 ≤ 9000 by decide) (show 2000 + 2000 ≤ 9000 by decide)
  have m1 : mulOk p.num q.num = true := mulOk_bd (n := 2000) (m := 2000) (by decide)
  have m3 : mulOk p.den q.den = true := mulOk_bd (n := 2000) (m := 2000) (by decide)
  simp [k_Ratio_mul, (hi n (by omega)).1, (ht n hn).1, m1, m3, e1, rat_mul]
/-- equal by worth -/
abbrev PEqR (cf : Cf) : Prop := (∀ (p q : Rat) (R : Sto), cf (2 * mEq) [ratioD p, ratioD q] R = .ok (.val (.bl (decide (p = q)))) R) ∧ (∀ (p : Rat) (v : Int) (R : Sto), cf (2 * mEq) [ratioD p, .int v] R = .ok (.val (.bl (decide (p = (v : Rat))))) R)
theorem rat_eq (p q : Rat) : (decide (p.num = q.num) && decide ((p.den : Int) = (q.den : Int))) = decide (p = q) := by
  rw [Bool.eq_iff_iff, Bool.and_eq_true, decide_eq_true_iff, decide_eq_true_iff, decide_eq_true_iff]
  constructor
  · rintro ⟨h1, h2⟩
    exact Rat.ext h1 (by omega)
  · rintro rfl
    exact ⟨rfl, rfl⟩
theorem ok_eqR (hw : At Fs lf 1 (PWhole I.is_whole)) (c : I.Cl) (h : HasM Fs 72057947860265327 mEq (k_Ratio_eq I)) : At Fs lf 2 PEqR := .mk fun n hn => by
  refine ⟨fun p q R => ?_, fun p v R => ?_⟩
  · rw [run_m h (cls_ratio _ _)]
    rw [← rat_eq]
    by_cases e : p.num = q.num <;> simp [k_Ratio_eq, (hw n hn).2, c.cR, e]
  · rw [run_m h (cls_ratio _ _)]
    have e2 : decide (p = (v : Rat)) = (decide ((p.den : Int) = 1) && decide (p.num = v)) := by
      rw [← rat_eq, Rat.num_intCast, Rat.den_intCast, Bool.and_comm]
      rfl
    rw [e2]
    by_cases e : (p.den : Int) = 1 <;> simp [k_Ratio_eq, (hw n hn).1, e]
abbrev POver (cf : Cf) : Prop := ∀ (p q : Rat) (R : Sto) (n m' : Nat) [BR p n] [BR q m'], q ≠ 0 → n ≤ 2000 → m' ≤ 2000 → cf (2 * 281476846740850) [ratioD p, ratioD q] R = .ok (.new (ratioO (p / q))) R
theorem rat_over (p q : Rat) (h : q ≠ 0) : Rat.divInt (p.num * (q.den : Int)) ((p.den : Int) * q.num) = p / q := by
  have n0 : q.num ≠ 0 := fun z => h (Rat.num_eq_zero.mp z)
  have e1 := castI_ne (den_ne p)
  have e2 := castI_ne (den_ne q)
  have e3 := castI_ne n0
  rw [Rat.divInt_eq_div]
  have k1 := num_den p
  have k2 := num_den q
  have c1 : ((p.num * (q.den : Int) : Int) : Rat) = (p.num : Rat) * ((q.den : Int) : Rat) := by exact_mod_cast rfl
  have c2 : (((p.den : Int) * q.num : Int) : Rat) = ((p.den : Int) : Rat) * (q.num : Rat) := by exact_mod_cast rfl
  rw [c1, c2]
  generalize (p.num : Rat) = a at *
  generalize (q.num : Rat) = b at *
  generalize ((p.den : Int) : Rat) = x at *
  generalize ((q.den : Int) : Rat) = y at *
  subst k1
  rw [k2]
  grind
theorem ok_over (ht : At Fs lf 4 (PTold I.told_ratio)) (hr : At Fs lf 3 (PRatioOf I.ratio_of)) (h : HasM Fs 72057947860265327 281476846740850 (k_Ratio_over I)) : At Fs lf 5 POver := .mk fun n hn p q R np nq bp bq h0 h1 h2 => by
  have hr2 : EV.run Fs lf (n + 1) (2 * 281476846740850) [ratioD p, ratioD q] R = _ := run_m h (cls_ratio _ _)
  rw [hr2]
  replace bp := bp.up h1
  replace bq := bq.up h2
  have n0 : q.num ≠ 0 := fun z => h0 (Rat.num_eq_zero.mp z)
  have e1 := fun R => hr n (by omega) (p.num * (q.den : Int)) ((p.den : Int) * q.num) R _ _ (Int.mul_ne_zero (den_ne p) n0) (show 2000 + 2000 ≤ 9000 by decide) (show 2000 + 2000 ≤ 9000 by decide)
  have m1 : mulOk p.num q.den = true := mulOk_bd (n := 2000) (m := 2000) (by decide)
  have m3 : mulOk p.den q.num = true := mulOk_bd (n := 2000) (m := 2000) (by decide)
  simp [k_Ratio_over, (ht n hn).1, m1, m3, n0, h0, e1, rat_over p q h0]
end
section
variable {Fs : Tab} {lf : Nat} {I : PIx}
/-! ### fours -/
def ofL (b e0 e1 e2 e3 : Int) : D := .tup [.tup [.int (low b e0 e1 e2 e3).e0, .int (low b e0 e1 e2 e3).e1, .int (low b e0 e1 e2 e3).e2, .int (low b e0 e1 e2 e3).e3], .int (low b e0 e1 e2 e3).b]
abbrev PLowest (i : Nat) (cf : Cf) : Prop := ∀ (b e0 e1 e2 e3 : Int) (R : Sto) (n : Nat), b ≠ 0 → n ≤ 9000 → BI b n → BI e0 n → BI e1 n → BI e2 n → BI e3 n → cf i [.tup [.int e0, .int e1, .int e2, .int e3], .int b] R = .ok (.val (ofL b e0 e1 e2 e3)) R
theorem abs_bi {x : Int} {n : Nat} (h : BI x n) : BI (if x < 0 then -x else x) n := ⟨by have := h.h; split <;> omega⟩
theorem g5_eq (b e0 e1 e2 e3 : Int) : (g5 b e0 e1 e2 e3 : Int) = ((Int.gcd (Int.gcd (Int.gcd (Int.gcd (if b < 0 then -b else b) (if e0 < 0 then -e0 else e0) : Nat) (if e1 < 0 then -e1 else e1) : Nat) (if e2 < 0 then -e2 else e2) : Nat) (if e3 < 0 then -e3 else e3) : Nat) : Int) := by
  have a : ∀ x : Int, (if x < 0 then -x else x).natAbs = x.natAbs := fun x => by split <;> omega
  unfold g5 Int.gcd
  simp only [a, Int.natAbs_natCast]
theorem s5_bi {b : Int} {n : Nat} (hb : b ≠ 0) (h : BI b n) (e0 e1 e2 e3 : Int) : BI (s5 b e0 e1 e2 e3) n := ⟨by
  have h1 := Int.natAbs_dvd_natAbs.mpr (s5_dvd b e0 e1 e2 e3).1
  exact Nat.lt_of_le_of_lt (Nat.le_of_dvd (by omega) h1) h.h⟩
theorem ok_lowest (hc : At Fs lf 1 (PCommon I.common_of)) (h : HasF Fs I.lowest (k_lowest I)) : At Fs lf 2 (PLowest I.lowest) := .mk fun n hn b e0 e1 e2 e3 R m hb hm bb b0 b1 b2 b3 => by
  rw [run_f h]
  have st : ∀ (x y : Int) (R : Sto), BI y m → run Fs lf n I.common_of [.int x, .int (if y < 0 then -y else y)] R = .ok (.val (.int (Int.gcd x (if y < 0 then -y else y) : Nat))) R := fun x y R hy => by
    haveI := abs_bi hy
    exact hc n hn x _ R m (by omega)
  have s0 := s5_ne hb e0 e1 e2 e3
  haveI := s5_bi hb bb e0 e1 e2 e3
  have dv : divOk (s5 b e0 e1 e2 e3) = true := divOk_bd s0 (by omega)
  obtain ⟨d, d0, d1, d2, d3⟩ := s5_dvd b e0 e1 e2 e3
  have fd : ∀ {x : Int}, s5 b e0 e1 e2 e3 ∣ x → x.fdiv (s5 b e0 e1 e2 e3) = x / s5 b e0 e1 e2 e3 := fun h => Int.fdiv_eq_ediv_of_dvd h
  have gs : s5 b e0 e1 e2 e3 = if 0 < b then (g5 b e0 e1 e2 e3 : Int) else -(g5 b e0 e1 e2 e3 : Int) := rfl
  have t0 := fun x R => st x e0 R b0
  have t1 := fun x R => st x e1 R b1
  have t2 := fun x R => st x e2 R b2
  have t3 := fun x R => st x e3 R b3
  have g := g5_eq b e0 e1 e2 e3
  rcases Int.lt_or_gt_of_ne hb with hb0 | hb0
  · have nb : ¬ 0 < b := by omega
    rw [if_neg nb, g] at gs
    simp [k_lowest, forV, compV, compF, t0, t1, t2, t3, nb, ← gs, dv, fd d, fd d0, fd d1, fd d2, fd d3, ofL, low]
  · rw [if_pos hb0, g] at gs
    simp [k_lowest, forV, compV, compF, t0, t1, t2, t3, hb0, ← gs, dv, fd d, fd d0, fd d1, fd d2, fd d3, ofL, low]
end
end EV

/-! EvN: promises of fours and algebras. -/
namespace EV
open PySem PySem.Spec PyProof.Rows L2 HQ
section
variable {Fs : Tab} {lf : Nat} {I : PIx}
@[simp] theorem isi_tt : Ty.isi .tuple .tuple = true := rfl
@[simp] theorem all4 (a b c d : Bool) (R : Sto) : bltop .all [.lst [.bl a, .bl b, .bl c, .bl d]] R = .ok (.val (.bl (a && (b && (c && d))))) R := by
  show (Out.ok (Rv.val (.bl ([a, b, c, d].all id))) R : Out Rv) = _
  simp
abbrev PParts (cf : Cf) : Prop := ∀ (b e0 e1 e2 e3 : Int) (R : Sto) (n : Nat), b ≠ 0 → n ≤ 9000 → BI b n → BI e0 n → BI e1 n → BI e2 n → BI e3 n → newV cf 72057939270202483 [.tup [.int e0, .int e1, .int e2, .int e3], .int b] R = .ok (.new (partsO (low b e0 e1 e2 e3))) R
theorem ok_parts (hl : At Fs lf 2 (PLowest I.lowest)) (c : I.Cl) (cb : (I.tb 20282544358415274979234140480883).lookup 72057939270202483 = some [79228688900059664593393577837, 20282544358415274979234140480883]) (h : HasM Fs 72057939270202483 mInit (k_Parts_init I)) : At Fs lf 3 PParts := .mk fun n hn b e0 e1 e2 e3 R m hb hm bb b0 b1 b2 b3 => by
  refine newV_eq ?_
  rw [run_m h (cls_own _ _ _ _)]
  have e := fun R => hl n hn b e0 e1 e2 e3 R m hb hm bb b0 b1 b2 b3
  simp [k_Parts_init, e, ofL, fst_own, c.eP, putD, partsO, entD]
abbrev PPartsTold (i : Nat) (cf : Cf) : Prop := (∀ (e : E5) (R : Sto), cf i [partsD e, .int 1] R = .ok (.val (partsD e)) R) ∧
  (∀ (b e0 e1 e2 e3 : Int) (R : Sto), b ≠ 0 → -beyond < b → b < beyond → -beyond < e0 → e0 < beyond → -beyond < e1 → e1 < beyond → -beyond < e2 → e2 < beyond → -beyond < e3 → e3 < beyond → cf i [.tup [.int e0, .int e1, .int e2, .int e3], .int b] R = .ok (.new (partsO (low b e0 e1 e2 e3))) R)
theorem ok_partsTold (hp : At Fs lf 3 PParts) (hi : At Fs lf 2 (PInteger I.is_integer)) (c : I.Cl) (h : HasF Fs I.parts_told (k_parts_told I)) : At Fs lf 4 (PPartsTold I.parts_told) := .mk fun n hn => by
  refine ⟨fun e R => ?_, fun b e0 e1 e2 e3 R hb h1 h2 h3 h4 h5 h6 h7 h8 h9 h10 => ?_⟩
  · rw [run_f h]
    simp [k_parts_told, c.cP]
  · rw [run_f h]
    have t := fun v R a b => hi n (by omega) v R a b
    have e := fun R => hp n hn b e0 e1 e2 e3 R 200 hb (by decide) (bey_bi h1 h2) (bey_bi h3 h4) (bey_bi h5 h6) (bey_bi h7 h8) (bey_bi h9 h10)
    simp [k_parts_told, c.cP, t, h1, h2, h3, h4, h5, h6, h7, h8, h9, h10, compV, compF, hb, e]
abbrev PReqAlg (i : Nat) (cf : Cf) : Prop := ∀ (A : Al) (R : Sto), cf i [algD A] R = .ok (.val .non) R
theorem ok_reqAlg (c : I.Cl) (h : HasF Fs I.require_algebra (k_require_algebra I)) : At Fs lf 1 (PReqAlg I.require_algebra) := .mk fun n hn A R => by
  rw [run_f h]
  simp [k_require_algebra, c.cA]
/-- a four of its parts; of told numbers -/
abbrev PFour (cf : Cf) : Prop := (∀ (A : Al) (v : H) (R : Sto), newV cf 281476158420338 [algD A, partsD (rep v), .int 1] R = .ok (.new (fourO A v)) R) ∧
  (∀ (A : Al) (b e0 e1 e2 e3 : Int) (R : Sto), b ≠ 0 → -beyond < b → b < beyond → -beyond < e0 → e0 < beyond → -beyond < e1 → e1 < beyond → -beyond < e2 → e2 < beyond → -beyond < e3 → e3 < beyond → newV cf 281476158420338 [algD A, .tup [.int e0, .int e1, .int e2, .int e3], .int b] R = .ok (.new (fourO A (ofE b e0 e1 e2 e3))) R)
theorem ok_four (ha : At Fs lf 1 (PReqAlg I.require_algebra)) (hp : At Fs lf 4 (PPartsTold I.parts_told)) (c : I.Cl) (h : HasM Fs 281476158420338 mInit (k_Four_init I)) : At Fs lf 5 PFour := .mk fun n hn => by
  refine ⟨fun A v R => ?_, fun A b e0 e1 e2 e3 R hb h1 h2 h3 h4 h5 h6 h7 h8 h9 h10 => ?_⟩
  · refine newV_eq ?_
    rw [run_m h (cls_own _ _ _ _)]
    simp [k_Four_init, ha n (by omega), (hp n hn).1, fst_own, c.aF, c.bF, c.eF, putD, fourO]
  · refine newV_eq ?_
    rw [run_m h (cls_own _ _ _ _)]
    have e := fun R => (hp n hn).2 b e0 e1 e2 e3 R hb h1 h2 h3 h4 h5 h6 h7 h8 h9 h10
    simp [k_Four_init, ha n (by omega), e, fst_own, c.aF, c.bF, c.eF, putD, fourO, low_rep hb]
abbrev PMade (i : Nat) (cf : Cf) : Prop := ∀ (A : Al) (b e0 e1 e2 e3 : Int) (R : Sto) (n : Nat), b ≠ 0 → n ≤ 9000 → BI b n → BI e0 n → BI e1 n → BI e2 n → BI e3 n → cf i [algD A, .tup [.int e0, .int e1, .int e2, .int e3], .int b] R = .ok (.new (fourO A (ofE b e0 e1 e2 e3))) R
theorem ok_made (hp : At Fs lf 3 PParts) (hf : At Fs lf 5 PFour) (h : HasF Fs I.four_made (k_four_made I)) : At Fs lf 6 (PMade I.four_made) := .mk fun n hn A b e0 e1 e2 e3 R m hb hm bb b0 b1 b2 b3 => by
  rw [run_f h]
  have e := fun R => hp n (by omega) b e0 e1 e2 e3 R m hb hm bb b0 b1 b2 b3
  simp [k_four_made, e, low_rep hb, (hf n hn).1]
/-! equal algebras -/
abbrev PEqA (cf : Cf) : Prop := ∀ (A B : Al) (R : Sto), cf (2 * mEq) [algD A, algD B] R = .ok (.val (.bl (decide (A.a = B.a ∧ A.b = B.b)))) R
theorem ok_eqA (c : I.Cl) (h : HasM Fs 4722384897934469788257 mEq (k_Algebra_eq I)) : At Fs lf 1 PEqA := .mk fun n hn A B R => by
  rw [run_m h (cls_alg _ _)]
  by_cases e : A.a = B.a <;> by_cases e2 : A.b = B.b <;> simp [k_Algebra_eq, c.cA, e, e2]
abbrev PSame (i : Nat) (cf : Cf) : Prop := ∀ (A : Al) (v u : H) (R : Sto), cf i [fourD A v, fourD A u] R = .ok (.val .non) R
theorem ok_same (he : At Fs lf 1 PEqA) (h : HasF Fs I.require_same_algebra (k_require_same_algebra I)) : At Fs lf 2 (PSame I.require_same_algebra) := .mk fun n hn A v u R => by
  rw [run_f h]
  simp [k_require_same_algebra, he n (by omega)]
abbrev PEqF (cf : Cf) : Prop := ∀ (A : Al) (v u : H) (R : Sto), cf (2 * mEq) [fourD A v, fourD A u] R = .ok (.val (.bl (decide (v = u)))) R
theorem rep_eq (v u : H) : (decide ((rep v).b = (rep u).b) && decide ((rep v).e0 = (rep u).e0 ∧ (rep v).e1 = (rep u).e1 ∧ (rep v).e2 = (rep u).e2 ∧ (rep v).e3 = (rep u).e3)) = decide (v = u) := by
  rw [Bool.eq_iff_iff, Bool.and_eq_true, decide_eq_true_iff, decide_eq_true_iff, decide_eq_true_iff]
  constructor
  · rintro ⟨h1, h2, h3, h4, h5⟩
    refine rep_inj ?_
    cases h : rep v
    cases h' : rep u
    simp_all
  · rintro rfl
    exact ⟨rfl, rfl, rfl, rfl, rfl⟩
theorem toPs_ints : ∀ ns : List Int, toPs (ns.map D.int) = some (ns.map PyData.int)
  | [] => rfl
  | n :: ns => by simp [toPs, toP, toPs_ints ns]
theorem lay_ints : ∀ ns : List Int, PyData.canLayAll0 (ns.map PyData.int) = true
  | [] => rfl
  | n :: ns => by simp [PyData.canLayAll0, PyData.canLay0, lay_ints ns]
theorem depth_ints : ∀ ns : List Int, PyData.depthAll (ns.map PyData.int) ≤ 1
  | [] => by simp [PyData.depthAll]
  | n :: ns => by have := depth_ints ns; simp [PyData.depthAll, PyData.depth]; omega
theorem eqv_ints : ∀ ns ms : List Int, PyData.eqvAll (ns.map PyData.int) (ms.map PyData.int) = decide (ns = ms)
  | [], [] => rfl
  | [], _ :: _ => rfl
  | _ :: _, [] => rfl
  | n :: ns, m :: ms => by
    have : (n == m) = decide (n = m) := rfl
    simp [PyData.eqvAll, PyData.eqv, eqv_ints ns ms, this]
@[simp] theorem eqOp_tupI (ns ms : List Int) (R : Sto) : eqOp (.tup (ns.map D.int)) (.tup (ms.map D.int)) R = some (decide (ns = ms)) := by
  simp [eqOp, derefs, toP, toPs_ints, SeqAt.shaped, PyData.canLay0, lay_ints, PyData.eqv, eqv_ints, PyData.depth]
  have := depth_ints ns
  have := depth_ints ms
  omega
theorem eq_ent (e f : E5) (R : Sto) : cmpop .Eq (entD e) (entD f) R = some (decide (e.e0 = f.e0 ∧ e.e1 = f.e1 ∧ e.e2 = f.e2 ∧ e.e3 = f.e3)) := by
  refine (eqOp_tupI [e.e0, e.e1, e.e2, e.e3] [f.e0, f.e1, f.e2, f.e3] R).trans ?_
  simp
theorem ok_eqF (he : At Fs lf 1 PEqA) (c : I.Cl) (h : HasM Fs 281476158420338 mEq (k_Four_eq I)) : At Fs lf 2 PEqF := .mk fun n hn A v u R => by
  rw [run_m h (cls_four _ _ _)]
  rw [← rep_eq]
  by_cases e : (rep v).b = (rep u).b <;> simp [k_Four_eq, c.cF, he n hn, e, eq_ent]
/-! ### plain products -/
/-- the size of an algebra's numbers -/
abbrev SmA (A : Al) : Prop := A.a ≠ 0 ∧ A.b ≠ 0 ∧ -1000000000 ≤ A.a ∧ A.a ≤ 1000000000 ∧ -1000000000 ≤ A.b ∧ A.b ≤ 1000000000
theorem SmA.a {A : Al} (h : SmA A) : BI A.a 30 := ⟨by have : (2 : Nat) ^ 30 = 1073741824 := by decide
                                                      rw [this]; omega⟩
theorem SmA.b {A : Al} (h : SmA A) : BI A.b 30 := ⟨by have : (2 : Nat) ^ 30 = 1073741824 := by decide
                                                      rw [this]; omega⟩
abbrev PProd (i : Nat) (cf : Cf) : Prop := ∀ (a b : Int) (p q : E5) (R : Sto), BI a 30 → BI b 30 → BE p 2000 → BE q 2000 → cf i [.int a, .int b, entD p, entD q] R = .ok (.val (.tup [.int (pw a b p q), .int (px a b p q), .int (py a b p q), .int (pz a b p q)])) R
theorem ok_prod (h : HasF Fs I.raw_product (k_raw_product I)) : At Fs lf 1 (PProd I.raw_product) := .mk fun n hn a b p q R ha hb hp hq => by
  rw [run_f h]
  simp (config := { decide := true }) [k_raw_product, mulOk_bd, pw, px, py, pz]
abbrev PMate (i : Nat) (cf : Cf) : Prop := ∀ (p : E5) (R : Sto), cf i [entD p] R = .ok (.val (.tup [.int p.e0, .int (-p.e1), .int (-p.e2), .int (-p.e3)])) R
theorem ok_mate (h : HasF Fs I.raw_mate (k_raw_mate I)) : At Fs lf 1 (PMate I.raw_mate) := .mk fun n hn p R => by
  rw [run_f h]
  have a3 : ∀ x y z w : D, atI [x, y, z, w] 3 = some w := fun _ _ _ _ => rfl
  simp [k_raw_mate, a3]
abbrev PNorm (i : Nat) (cf : Cf) : Prop := ∀ (a b : Int) (p : E5) (R : Sto), BI a 30 → BI b 30 → BE p 2000 → cf i [.int a, .int b, entD p] R = .ok (.val (.int (pn a b p))) R
theorem ok_norm (h : HasF Fs I.raw_norm (k_raw_norm I)) : At Fs lf 1 (PNorm I.raw_norm) := .mk fun n hn a b p R ha hb hp => by
  rw [run_f h]
  simp (config := { decide := true }) [k_raw_norm, mulOk_bd, pn]
class OkA (A : Al) : Prop where
  h : SmA A
instance {A : Al} [o : OkA A] : BI A.a 30 := o.h.a
instance {A : Al} [o : OkA A] : BI A.b 30 := o.h.b
abbrev mulA (A : Al) (v u : H) : H := mulH A.a A.b v u
abbrev nrmA (A : Al) (v : H) : Rat := nrmH A.a A.b v
abbrev PMulF (cf : Cf) : Prop := ∀ (A : Al) (v u : H) (R : Sto) (n m : Nat) [OkA A] [BH v n] [BH u m], n ≤ 2000 → m ≤ 2000 → cf (2 * mMul) [fourD A v, fourD A u] R = .ok (.new (fourO A (mulA A v u))) R
theorem ok_mulF (hs : At Fs lf 2 (PSame I.require_same_algebra)) (hp : At Fs lf 1 (PProd I.raw_product)) (hm : At Fs lf 6 (PMade I.four_made)) (c : I.Cl) (h : HasM Fs 281476158420338 mMul (k_Four_mul I)) : At Fs lf 7 PMulF := .mk fun n hn A v u R nv nu oa bv bu h1 h2 => by
  rw [run_m h (cls_four _ _ _)]
  replace bv := bv.up h1
  replace bu := bu.up h2
  have e0 := fun R => hs n (by omega) A v u R
  have e1 := fun R => hp n (by omega) A.a A.b (rep v) (rep u) R inferInstance inferInstance bv.h bu.h
  have m1 : mulOk (rep v).b (rep u).b = true := mulOk_bd (n := 2000) (m := 2000) (by decide)
  have e2 := fun R => hm n hn A ((rep v).b * (rep u).b) (pw A.a A.b (rep v) (rep u)) (px A.a A.b (rep v) (rep u)) (py A.a A.b (rep v) (rep u)) (pz A.a A.b (rep v) (rep u)) R 9000 (Int.mul_ne_zero (rep_ne v) (rep_ne u)) (by decide)
    (BI.up inferInstance (by decide)) (by unfold pw; exact BI.up inferInstance (by decide)) (by unfold px; exact BI.up inferInstance (by decide)) (by unfold py; exact BI.up inferInstance (by decide)) (by unfold pz; exact BI.up inferInstance (by decide))
  have e3 := of_mul A.a A.b (rep_ne v) (rep_ne u)
  rw [ofS_rep, ofS_rep] at e3
  rw [e3] at e2
  simp [k_Four_mul, c.cF, e0, e1, m1, e2]
abbrev PAddF (cf : Cf) : Prop := ∀ (A : Al) (v u : H) (R : Sto) (n m : Nat) [BH v n] [BH u m], n ≤ 4000 → m ≤ 4000 → cf (2 * mAdd) [fourD A v, fourD A u] R = .ok (.new (fourO A (addH v u))) R
theorem ok_addF (hs : At Fs lf 2 (PSame I.require_same_algebra)) (hm : At Fs lf 6 (PMade I.four_made)) (c : I.Cl) (h : HasM Fs 281476158420338 mAdd (k_Four_add I)) : At Fs lf 7 PAddF := .mk fun n hn A v u R nv nu bv bu h1 h2 => by
  rw [run_m h (cls_four _ _ _)]
  replace bv := bv.up h1
  replace bu := bu.up h2
  have e0 := fun R => hs n (by omega) A v u R
  have e2 := fun R => hm n hn A ((rep v).b * (rep u).b) ((rep v).e0 * (rep u).b + (rep u).e0 * (rep v).b) ((rep v).e1 * (rep u).b + (rep u).e1 * (rep v).b) ((rep v).e2 * (rep u).b + (rep u).e2 * (rep v).b) ((rep v).e3 * (rep u).b + (rep u).e3 * (rep v).b) R 9000 (Int.mul_ne_zero (rep_ne v) (rep_ne u)) (by decide)
    (BI.up inferInstance (by decide)) (BI.up inferInstance (by decide)) (BI.up inferInstance (by decide)) (BI.up inferInstance (by decide)) (BI.up inferInstance (by decide))
  have e3 := of_add (rep_ne v) (rep_ne u)
  rw [ofS_rep, ofS_rep] at e3
  rw [e3] at e2
  simp (config := { decide := true }) [k_Four_add, c.cF, e0, mulOk_bd, e2, compV, compF]
abbrev PNegF (cf : Cf) : Prop := ∀ (A : Al) (v : H) (R : Sto) (n : Nat) [BH v n], n ≤ 8900 → cf (2 * mNeg) [fourD A v] R = .ok (.new (fourO A (negH v))) R
theorem ok_negF (hm : At Fs lf 6 (PMade I.four_made)) (h : HasM Fs 281476158420338 mNeg (k_Four_neg I)) : At Fs lf 7 PNegF := .mk fun n hn A v R nv bv h1 => by
  rw [run_m h (cls_four _ _ _)]
  replace bv := bv.up h1
  have e2 := fun R => hm n hn A (rep v).b (-(rep v).e0) (-(rep v).e1) (-(rep v).e2) (-(rep v).e3) R 9000 (rep_ne v) (by decide)
    (BI.up inferInstance (by decide)) (BI.up inferInstance (by decide)) (BI.up inferInstance (by decide)) (BI.up inferInstance (by decide)) (BI.up inferInstance (by decide))
  have e3 := of_neg (rep v)
  rw [ofS_rep] at e3
  rw [e3] at e2
  simp (config := { decide := true }) [k_Four_neg, mulOk_bd, e2, compV, compF]
abbrev PSubF (cf : Cf) : Prop := ∀ (A : Al) (v u : H) (R : Sto) (n m : Nat) [BH v n] [BH u m], n ≤ 4000 → m ≤ 4000 → cf (2 * mSub) [fourD A v, fourD A u] R = .ok (.new (fourO A (subH v u))) R
theorem ok_subF (hs : At Fs lf 2 (PSame I.require_same_algebra)) (ha : At Fs lf 7 PAddF) (hn' : At Fs lf 7 PNegF) (c : I.Cl) (h : HasM Fs 281476158420338 mSub (k_Four_sub I)) : At Fs lf 8 PSubF := .mk fun n hn A v u R nv nu bv bu h1 h2 => by
  rw [run_m h (cls_four _ _ _)]
  have e0 := fun R => hs n (by omega) A v u R
  have e1 := fun R => hn' n hn A u R nu (by omega)
  have e2 := fun R => ha n hn A v (negH u) R nv nu h1 h2
  rw [sub_eq]
  simp [k_Four_sub, c.cF, e0, e1, e2]
abbrev PMateF (cf : Cf) : Prop := ∀ (A : Al) (v : H) (R : Sto) (n : Nat) [BH v n], n ≤ 9000 → cf (2 * 281476811813989) [fourD A v] R = .ok (.new (fourO A (mateH v))) R
theorem ok_mateF (hr : At Fs lf 1 (PMate I.raw_mate)) (hm : At Fs lf 6 (PMade I.four_made)) (h : HasM Fs 281476158420338 281476811813989 (k_Four_mate I)) : At Fs lf 7 PMateF := .mk fun n hn A v R nv bv h1 => by
  have hr2 : EV.run Fs lf (n + 1) (2 * 281476811813989) [fourD A v] R = _ := run_m h (cls_four _ _ _)
  rw [hr2]
  replace bv := bv.up h1
  have e2 := fun R => hm n hn A (rep v).b (rep v).e0 (-(rep v).e1) (-(rep v).e2) (-(rep v).e3) R 9000 (rep_ne v) (by decide)
    inferInstance inferInstance inferInstance inferInstance inferInstance
  have e3 := of_mate (rep v)
  rw [ofS_rep] at e3
  rw [e3] at e2
  have e1 := fun R => hr n (by omega) (rep v) R
  simp [k_Four_mate, e1, e2]
abbrev PTrF (cf : Cf) : Prop := ∀ (A : Al) (v : H) (R : Sto) (n : Nat) [BH v n], n ≤ 8900 → cf (2 * 72058094173119333 + 1) [fourD A v] R = .ok (.new (ratioO (trH v))) R
theorem ok_trF (hr : At Fs lf 3 (PRatioOf I.ratio_of)) (h : HasP Fs 281476158420338 72058094173119333 (k_Four_trace I)) : At Fs lf 4 PTrF := .mk fun n hn A v R nv bv h1 => by
  have hr2 : EV.run Fs lf (n + 1) (2 * 72058094173119333 + 1) [fourD A v] R = _ := run_p h (cls_four _ _ _)
  rw [hr2]
  replace bv := bv.up h1
  haveI : BI 2 2 := ⟨by decide⟩
  have e2 := fun R => hr n (by omega) (2 * (rep v).e0) (rep v).b R (2 + 8900) 8900 (rep_ne v) (by decide) (by decide)
  rw [tr_rep] at e2
  have m1 : mulOk 2 (rep v).e0 = true := mulOk_bd (n := 2) (m := 8900) (by decide)
  simp [k_Four_trace, m1, e2]
abbrev PNrmF (cf : Cf) : Prop := ∀ (A : Al) (v : H) (R : Sto) (n : Nat) [OkA A] [BH v n], n ≤ 2000 → cf (2 * 281476829508205 + 1) [fourD A v] R = .ok (.new (ratioO (nrmA A v))) R
theorem ok_nrmF (hn' : At Fs lf 1 (PNorm I.raw_norm)) (hr : At Fs lf 3 (PRatioOf I.ratio_of)) (h : HasP Fs 281476158420338 281476829508205 (k_Four_norm I)) : At Fs lf 4 PNrmF := .mk fun n hn A v R nv oa bv h1 => by
  have hr2 : EV.run Fs lf (n + 1) (2 * 281476829508205 + 1) [fourD A v] R = _ := run_p h (cls_four _ _ _)
  rw [hr2]
  replace bv := bv.up h1
  have e1 := fun R => hn' n (by omega) A.a A.b (rep v) R inferInstance inferInstance bv.h
  haveI : BI (pn A.a A.b (rep v)) 9000 := by unfold pn; exact BI.up inferInstance (by decide)
  have e2 := fun R => hr n (by omega) (pn A.a A.b (rep v)) ((rep v).b * (rep v).b) R 9000 (2000 + 2000) (Int.mul_ne_zero (rep_ne v) (rep_ne v)) (by decide) (by decide)
  rw [nrm_rep] at e2
  have m1 : mulOk (rep v).b (rep v).b = true := mulOk_bd (n := 2000) (m := 2000) (by decide)
  simp [k_Four_norm, e1, m1, e2]
abbrev PInvF (cf : Cf) : Prop := ∀ (A : Al) (v : H) (R : Sto) (n : Nat) [OkA A] [BH v n], nrmA A v ≠ 0 → n ≤ 2000 → cf (2 * 4722396159196987028325) [fourD A v] R = .ok (.new (fourO A (invH A.a A.b v))) R
theorem ok_invF (hn' : At Fs lf 1 (PNorm I.raw_norm)) (hr : At Fs lf 1 (PMate I.raw_mate)) (hm : At Fs lf 6 (PMade I.four_made)) (h : HasM Fs 281476158420338 4722396159196987028325 (k_Four_inverse I)) : At Fs lf 7 PInvF := .mk fun n hn A v R nv oa bv h0 h1 => by
  have hr2 : EV.run Fs lf (n + 1) (2 * 4722396159196987028325) [fourD A v] R = _ := run_m h (cls_four _ _ _)
  rw [hr2]
  replace bv := bv.up h1
  have e1 := fun R => hn' n (by omega) A.a A.b (rep v) R inferInstance inferInstance bv.h
  have n0 : pn A.a A.b (rep v) ≠ 0 := fun z => h0 ((pn_zero _ _ v).mp z)
  haveI : BI (pn A.a A.b (rep v)) 9000 := by unfold pn; exact BI.up inferInstance (by decide)
  have e2 := fun R => hm n hn A (pn A.a A.b (rep v)) ((rep v).b * (rep v).e0) ((rep v).b * -(rep v).e1) ((rep v).b * -(rep v).e2) ((rep v).b * -(rep v).e3) R 9000 n0 (by decide)
    inferInstance (BI.up inferInstance (by decide)) (BI.up inferInstance (by decide)) (BI.up inferInstance (by decide)) (BI.up inferInstance (by decide))
  rw [of_inv _ _ _ h0] at e2
  have e3 := fun R => hr n (by omega) (rep v) R
  have m0 : mulOk (rep v).b (rep v).e0 = true := mulOk_bd (n := 2000) (m := 2000) (by decide)
  have m1 : mulOk (rep v).b (-(rep v).e1) = true := mulOk_bd (n := 2000) (m := 2000) (by decide)
  have m2 : mulOk (rep v).b (-(rep v).e2) = true := mulOk_bd (n := 2000) (m := 2000) (by decide)
  have m3 : mulOk (rep v).b (-(rep v).e3) = true := mulOk_bd (n := 2000) (m := 2000) (by decide)
  simp only [k_Four_inverse] 
  simp [e1, e2, e3, n0, m0, m1, m2, m3, compV, compF]
abbrev PBoolF (cf : Cf) : Prop := ∀ (A : Al) (v : H) (R : Sto), cf (2 * mBool) [fourD A v] R = .ok (.val (.bl (decide (v ≠ zeroH)))) R
theorem rep_any (v : H) : ([(rep v).e0, (rep v).e1, (rep v).e2, (rep v).e3].any (· != 0)) = decide (v ≠ zeroH) := by
  have h := ofS_rep v
  have n0 := castI_ne (rep_ne v)
  rw [Bool.eq_iff_iff, decide_eq_true_iff]
  simp only [List.any_cons, List.any_nil, Bool.or_false, Bool.or_eq_true, bne_iff_ne, ne_eq]
  constructor
  · intro q z
    rw [z] at q
    have : rep zeroH = ⟨1, 0, 0, 0, 0⟩ := by decide +kernel
    rw [this] at q
    simp at q
  · intro q
    have : ¬ ((rep v).e0 = 0 ∧ (rep v).e1 = 0 ∧ (rep v).e2 = 0 ∧ (rep v).e3 = 0) := by
      rintro ⟨h0, h1, h2, h3⟩
      apply q
      rw [← h]
      unfold ofS ofE zeroH
      rw [h0, h1, h2, h3]
      refine H.ext' ?_ ?_ ?_ ?_ <;> (simp only [Rat.intCast_zero]; grind)
    omega
theorem ok_boolF (h : HasM Fs 281476158420338 mBool (k_Four_bool I)) : At Fs lf 1 PBoolF := .mk fun n hn A v R => by
  rw [run_m h (cls_four _ _ _), ← rep_any]
  simp only [k_Four_bool]
  simp
abbrev PSclF (cf : Cf) : Prop := ∀ (A : Al) (v : H) (r : Rat) (R : Sto) (n m : Nat) [BH v n] [BR r m], n ≤ 4000 → m ≤ 4000 → cf (2 * 18446870944383001956) [fourD A v, ratioD r] R = .ok (.new (fourO A (sclH r v))) R
abbrev PTopR (cf : Cf) : Prop := ∀ (r : Rat) (R : Sto), cf (2 * 1099519258480 + 1) [ratioD r] R = .ok (.val (.int r.num)) R
abbrev PBotR (cf : Cf) : Prop := ∀ (r : Rat) (R : Sto), cf (2 * 18446852304544231277 + 1) [ratioD r] R = .ok (.val (.int (r.den : Int))) R
theorem ok_topR (h : HasP Fs 72057947860265327 1099519258480 (k_Ratio_top I)) : At Fs lf 1 PTopR := .mk fun n hn r R => by
  have hr2 : EV.run Fs lf (n + 1) (2 * 1099519258480 + 1) [ratioD r] R = _ := run_p h (cls_ratio _ _)
  rw [hr2]
  simp [k_Ratio_top]
theorem ok_botR (h : HasP Fs 72057947860265327 18446852304544231277 (k_Ratio_bottom I)) : At Fs lf 1 PBotR := .mk fun n hn r R => by
  have hr2 : EV.run Fs lf (n + 1) (2 * 18446852304544231277 + 1) [ratioD r] R = _ := run_p h (cls_ratio _ _)
  rw [hr2]
  simp [k_Ratio_bottom]
theorem ok_sclF (ht : At Fs lf 4 (PTold I.told_ratio)) (h1' : At Fs lf 1 PTopR) (h2' : At Fs lf 1 PBotR) (hm : At Fs lf 6 (PMade I.four_made)) (h : HasM Fs 281476158420338 18446870944383001956 (k_Four_scaled I)) : At Fs lf 7 PSclF := .mk fun n hn A v r R nv nr bv br h1 h2 => by
  have hr2 : EV.run Fs lf (n + 1) (2 * 18446870944383001956) [fourD A v, ratioD r] R = _ := run_m h (cls_four _ _ _)
  rw [hr2]
  replace bv := bv.up h1
  replace br := br.up h2
  have e2 := fun R => hm n hn A ((rep v).b * (r.den : Int)) (r.num * (rep v).e0) (r.num * (rep v).e1) (r.num * (rep v).e2) (r.num * (rep v).e3) R 9000 (Int.mul_ne_zero (rep_ne v) (den_ne r)) (by decide)
    (BI.up inferInstance (by decide)) (BI.up inferInstance (by decide)) (BI.up inferInstance (by decide)) (BI.up inferInstance (by decide)) (BI.up inferInstance (by decide))
  have e3 := of_scl r (rep_ne v)
  rw [ofS_rep] at e3
  rw [e3] at e2
  have t1 := h1' n (by omega)
  have t2 := h2' n (by omega)
  simp only [PTopR, PBotR, Nat.reduceMul, Nat.reduceAdd] at t1 t2
  simp (config := { decide := true }) [k_Four_scaled, (ht n (by omega)).1, t1, t2, mulOk_bd, e2, compV, compF]
end
end EV

/-! NT: plain law of whole numbers: primes by trial, parting. -/
namespace NT
def IsP (p : Nat) : Prop := 2 ≤ p ∧ ∀ d, d ∣ p → 2 ≤ d → d = p
/-- how often p divides, and what is left -/
def pvN (p : Nat) : Nat → Nat → Nat × Nat
  | 0, n => (0, n)
  | f + 1, n => if n % p = 0 then ((pvN p f (n / p)).1 + 1, (pvN p f (n / p)).2) else (0, n)
theorem pvN_ok {p : Nat} (hp : 2 ≤ p) : ∀ (f n : Nat), n ≠ 0 → n < 2 ^ f → n = p ^ (pvN p f n).1 * (pvN p f n).2 ∧ (pvN p f n).2 % p ≠ 0
  | 0, n, h0, h => by omega
  | f + 1, n, h0, h => by
    unfold pvN
    by_cases hd : n % p = 0
    · rw [if_pos hd]
      obtain ⟨c, rfl⟩ := Nat.dvd_of_mod_eq_zero hd
      have e : p * c / p = c := Nat.mul_div_cancel_left _ (by omega)
      have c0 : c ≠ 0 := by rintro rfl; simp at h0
      have hc : c < 2 ^ f := by
        have : 2 * c ≤ p * c := Nat.mul_le_mul_right _ hp
        rw [Nat.pow_succ] at h
        omega
      rw [e]
      obtain ⟨h1, h2⟩ := pvN_ok hp f c c0 hc
      refine ⟨?_, h2⟩
      dsimp only
      rw [Nat.pow_succ, Nat.mul_comm (p ^ _) p, Nat.mul_assoc, ← h1]
    · rw [if_neg hd]
      exact ⟨by simp, hd⟩
def prodKV : List Nat → List Nat → Nat
  | k :: ks, v :: vs => k ^ v * prodKV ks vs
  | _, _ => 1
theorem prodKV_append : ∀ {ks vs : List Nat} (k v : Nat), ks.length = vs.length → prodKV (ks ++ [k]) (vs ++ [v]) = prodKV ks vs * k ^ v
  | [], [], k, v, _ => by simp [prodKV]
  | x :: ks, y :: vs, k, v, h => by
    show x ^ y * prodKV (ks ++ [k]) (vs ++ [v]) = x ^ y * prodKV ks vs * k ^ v
    rw [prodKV_append k v (by simpa using h), Nat.mul_assoc]
  | [], _ :: _, _, _, h => by simp at h
  | _ :: _, [], _, _, h => by simp at h
/-- what a walk through trial factors keeps -/
structure Trial (n : Nat) (ks vs : List Nat) (l f : Nat) : Prop where
  len : ks.length = vs.length
  pw : ks.Pairwise (· < ·)
  l1 : 1 ≤ l
  f2 : 2 ≤ f
  odd : f = 2 ∨ f % 2 = 1
  prod : prodKV ks vs * l = n
  cnt : 2 ^ ks.length * l ≤ n
  pr : ∀ k ∈ ks, IsP k ∧ k ∣ n ∧ k < f
  all : ∀ q, IsP q → q ∣ n → q ∈ ks ∨ q ∣ l
  low : ∀ d, 2 ≤ d → d < f → ¬ d ∣ l
theorem Trial.start {n : Nat} (h : 1 ≤ n) : Trial n [] [] n 2 := ⟨rfl, .nil, h, by decide, .inl rfl, by simp [prodKV], by simp, fun k hk => by simp at hk, fun q _ h => .inr h, fun d h1 h2 => by omega⟩
theorem prime_dvd_mul {p : Nat} (hp : IsP p) {a b : Nat} (h : p ∣ a * b) : p ∣ a ∨ p ∣ b := by
  rcases Nat.lt_or_ge (Nat.gcd p a) 2 with h1 | h1
  · right
    have : Nat.gcd p a = 1 := by
      have := Nat.gcd_pos_of_pos_left a (show 0 < p by have := hp.1; omega)
      omega
    exact Nat.Coprime.dvd_of_dvd_mul_left this h
  · left
    have e := hp.2 _ (Nat.gcd_dvd_left p a) h1
    rw [← e]
    exact Nat.gcd_dvd_right p a
theorem prime_dvd_pow {p : Nat} (hp : IsP p) {a : Nat} : ∀ {m : Nat}, p ∣ a ^ m → p ∣ a
  | 0, h => by
    rw [Nat.pow_zero] at h
    have := Nat.le_of_dvd (by decide) h
    have := hp.1
    omega
  | m + 1, h => by
    rw [Nat.pow_succ] at h
    rcases prime_dvd_mul hp h with h | h
    · exact prime_dvd_pow hp h
    · exact h
theorem Trial.prime {n : Nat} {ks vs : List Nat} {l f : Nat} (i : Trial n ks vs l f) (hd : f ∣ l) : IsP f := by
  refine ⟨i.f2, fun d h1 h2 => ?_⟩
  rcases Nat.lt_or_ge d f with h | h
  · exact absurd (Nat.dvd_trans h1 hd) (i.low d h2 h)
  · have := Nat.le_of_dvd (by have := i.f2; omega) h1
    omega
def nextF (f : Nat) : Nat := if f = 2 then 3 else f + 2
theorem Trial.skip {n : Nat} {ks vs : List Nat} {l f : Nat} (i : Trial n ks vs l f) (hd : ¬ f ∣ l) : Trial n ks vs l (nextF f) := by
  have hf : f < nextF f := by unfold nextF; split <;> omega
  refine ⟨i.len, i.pw, i.l1, by have := i.f2; omega, ?_, i.prod, i.cnt, fun k hk => ?_, i.all, fun d h1 h2 h3 => ?_⟩
  · right
    unfold nextF
    have := i.odd
    have := i.f2
    split <;> omega
  · obtain ⟨a, b, c⟩ := i.pr k hk
    exact ⟨a, b, by omega⟩
  · rcases Nat.lt_or_ge d f with h | h
    · exact i.low d h1 h h3
    · by_cases e : d = f
      · subst e
        exact hd h3
      · unfold nextF at h2
        split at h2
        · omega
        · -- d = f + 1, even
          have : d = f + 1 := by omega
          have o : f % 2 = 1 := by have := i.odd; omega
          have e2 : 2 ∣ d := by omega
          have f2 := i.f2
          exact i.low 2 (by decide) (by omega) (Nat.dvd_trans e2 h3)
theorem Trial.take {n : Nat} {ks vs : List Nat} {l f m r : Nat} (i : Trial n ks vs l f) (hd : f ∣ l) (e : l = f ^ m * r) (hr : r % f ≠ 0) : Trial n (ks ++ [f]) (vs ++ [m]) r (nextF f) := by
  have hp := i.prime hd
  have hf : f < nextF f := by unfold nextF; split <;> omega
  have m1 : 1 ≤ m := by
    rcases Nat.eq_zero_or_pos m with z | z
    · subst z
      have : l = r := by simpa using e
      rw [this] at hd
      exact absurd (Nat.mod_eq_zero_of_dvd hd) hr
    · exact z
  have dr : r ∣ l := ⟨f ^ m, by rw [e, Nat.mul_comm]⟩
  have r1 : 1 ≤ r := by
    rcases Nat.eq_zero_or_pos r with z | z
    · subst z
      simp at hr
    · exact z
  refine ⟨by simp [i.len], ?_, r1, by have := i.f2; omega, ?_, ?_, ?_, fun k hk => ?_, fun q hq hn => ?_, fun d h1 h2 h3 => ?_⟩
  · rw [List.pairwise_append]
    refine ⟨i.pw, List.pairwise_singleton _ _, fun a ha b hb => ?_⟩
    rw [List.mem_singleton] at hb
    subst hb
    exact (i.pr a ha).2.2
  · right
    unfold nextF
    have := i.odd
    have := i.f2
    split <;> omega
  · rw [prodKV_append _ _ i.len, Nat.mul_assoc, ← e]
    exact i.prod
  · have h1 := i.cnt
    rw [List.length_append, List.length_singleton, Nat.pow_succ, Nat.mul_assoc]
    refine Nat.le_trans (Nat.mul_le_mul_left _ ?_) h1
    have f1 : f ≤ f ^ m := by
      obtain ⟨k, rfl⟩ : ∃ k, m = k + 1 := ⟨m - 1, by omega⟩
      rw [Nat.pow_succ]
      exact Nat.le_mul_of_pos_left _ (Nat.pow_pos (by have := i.f2; omega))
    rw [e]
    exact Nat.mul_le_mul_right _ (Nat.le_trans i.f2 f1)
  · rcases List.mem_append.mp hk with h | h
    · obtain ⟨a, b, c⟩ := i.pr k h
      exact ⟨a, b, by omega⟩
    · rw [List.mem_singleton] at h
      subst h
      exact ⟨hp, Nat.dvd_trans hd ⟨prodKV ks vs, by rw [← i.prod, Nat.mul_comm]⟩, hf⟩
  · rcases i.all q hq hn with h | h
    · exact .inl (List.mem_append_left _ h)
    · rw [e] at h
      rcases prime_dvd_mul hq h with h | h
      · left
        have h2 := prime_dvd_pow hq h
        have := hp.2 q h2 hq.1
        subst this
        simp
      · exact .inr h
  · rcases Nat.lt_or_ge d f with h | h
    · exact i.low d h1 h (Nat.dvd_trans h3 dr)
    · by_cases e2 : d = f
      · subst e2
        exact hr (Nat.mod_eq_zero_of_dvd h3)
      · unfold nextF at h2
        split at h2
        · omega
        · have : d = f + 1 := by omega
          have o : f % 2 = 1 := by have := i.odd; omega
          have e3 : 2 ∣ d := by omega
          have f2 := i.f2
          exact i.low 2 (by decide) (by omega) (Nat.dvd_trans e3 (Nat.dvd_trans h3 dr))
theorem Trial.last {n : Nat} {ks vs : List Nat} {l f : Nat} (i : Trial n ks vs l f) (h : l < f * f) (h1 : 1 < l) : IsP l ∧ f ≤ l := by
  have fl : f ≤ l := by
    rcases Nat.lt_or_ge l f with q | q
    · exact absurd (Nat.dvd_refl l) (i.low l h1 q)
    · exact q
  refine ⟨⟨h1, fun d h2 h3 => ?_⟩, fl⟩
  obtain ⟨e, he⟩ := h2
  rcases Nat.lt_or_ge d f with q | q
  · exact absurd ⟨e, he⟩ (i.low d h3 q)
  · rcases Nat.lt_or_ge e 2 with q2 | q2
    · have : e = 1 := by
        rcases Nat.eq_zero_or_pos e with z | z
        · subst z; omega
        · omega
      subst this
      omega
    · rcases Nat.lt_or_ge e f with q3 | q3
      · exact absurd ⟨d, by rw [he, Nat.mul_comm]⟩ (i.low e q2 q3)
      · have := Nat.mul_le_mul q q3
        omega
/-- the primes of n, ascending, each with its exponent -/
structure Facs (n : Nat) (ks vs : List Nat) : Prop where
  len : ks.length = vs.length
  pw : ks.Pairwise (· < ·)
  prod : prodKV ks vs = n
  cnt : 2 ^ ks.length ≤ n
  pr : ∀ k ∈ ks, IsP k ∧ k ∣ n
  all : ∀ q, IsP q → q ∣ n → q ∈ ks
theorem Trial.done1 {n : Nat} {ks vs : List Nat} {l f : Nat} (i : Trial n ks vs l f) (h1 : l = 1) : Facs n ks vs := by
  subst h1
  refine ⟨i.len, i.pw, by have := i.prod; omega, by have := i.cnt; omega, fun k hk => ⟨(i.pr k hk).1, (i.pr k hk).2.1⟩, fun q hq hn => ?_⟩
  rcases i.all q hq hn with h | h
  · exact h
  · have := Nat.le_of_dvd (by decide) h
    have := hq.1
    omega
theorem Trial.done2 {n : Nat} {ks vs : List Nat} {l f : Nat} (i : Trial n ks vs l f) (h : l < f * f) (h1 : 1 < l) : l ∉ ks ∧ Facs n (ks ++ [l]) (vs ++ [1]) := by
  obtain ⟨hp, fl⟩ := i.last h h1
  have nl : ∀ k ∈ ks, k < l := fun k hk => by have := (i.pr k hk).2.2; omega
  refine ⟨fun hm => by have := nl l hm; omega, ⟨by simp [i.len], ?_, ?_, ?_, fun k hk => ?_, fun q hq hn => ?_⟩⟩
  · rw [List.pairwise_append]
    refine ⟨i.pw, List.pairwise_singleton _ _, fun a ha b hb => ?_⟩
    rw [List.mem_singleton] at hb
    subst hb
    exact nl a ha
  · rw [prodKV_append _ _ i.len, Nat.pow_one]
    exact i.prod
  · have := i.cnt
    rw [List.length_append, List.length_singleton, Nat.pow_succ]
    exact Nat.le_trans (Nat.mul_le_mul_left _ (by omega)) this
  · rcases List.mem_append.mp hk with h | h
    · exact ⟨(i.pr k h).1, (i.pr k h).2.1⟩
    · rw [List.mem_singleton] at h
      subst h
      exact ⟨hp, ⟨prodKV ks vs, by rw [← i.prod, Nat.mul_comm]⟩⟩
  · rcases i.all q hq hn with h | h
    · exact List.mem_append_left _ h
    · have := hp.2 q h hq.1
      subst this
      simp
end NT

/-! EvA: promises of factors, signs, places, algebras. -/
namespace EV
open PySem PySem.Spec PyProof.Rows L2 HQ NT
section
variable {Fs : Tab} {lf : Nat} {I : PIx}
/-! ### dicts from ints to ints -/
def dKV (ks vs : List Nat) : O := .dct (ks.map fun (k : Nat) => Sum.inl (k : Int)) (vs.map fun (v : Nat) => D.int (v : Int))
theorem look_none : ∀ {ks : List Nat} (ds : List D) {f : Nat}, f ∉ ks → lookK (ks.map fun (k : Nat) => (Sum.inl (k : Int) : Key)) ds (Sum.inl (f : Int)) = none
  | [], _, _, _ => rfl
  | k :: ks, [], _, _ => rfl
  | k :: ks, d :: ds, f, h => by
    have h1 : ¬ (k : Int) = (f : Int) := by
      intro e
      exact h (by simp; left; omega)
    have h2 : ¬ (Sum.inl (k : Int) : Key) = Sum.inl (f : Int) := fun e => h1 (Sum.inl.inj e)
    simp only [List.map_cons, lookK, h2, if_false]
    exact look_none ds fun z => h (List.mem_cons_of_mem _ z)
theorem look_last : ∀ {ks vs : List Nat} {f : Nat} (d : D), f ∉ ks → ks.length = vs.length → lookK ((ks.map fun (k : Nat) => (Sum.inl (k : Int) : Key)) ++ [Sum.inl (f : Int)]) ((vs.map fun (v : Nat) => D.int (v : Int)) ++ [d]) (Sum.inl (f : Int)) = some d
  | [], [], _, _, _, _ => by simp [lookK]
  | k :: ks, v :: vs, f, d, h, hl => by
    have h1 : ¬ (k : Int) = (f : Int) := by
      intro e
      exact h (by simp; left; omega)
    have h2 : ¬ (Sum.inl (k : Int) : Key) = Sum.inl (f : Int) := fun e => h1 (Sum.inl.inj e)
    simp only [List.map_cons, List.cons_append, lookK, h2, if_false]
    exact look_last d (fun z => h (List.mem_cons_of_mem _ z)) (by simpa using hl)
  | [], _ :: _, _, _, _, hl => by simp at hl
  | _ :: _, [], _, _, _, hl => by simp at hl
theorem mem_key {ks : List Nat} {f : Nat} : (Sum.inl (f : Int) : Key) ∈ (ks.map fun (k : Nat) => (Sum.inl (k : Int) : Key)) ↔ f ∈ ks := by
  rw [List.mem_map]
  constructor
  · rintro ⟨k, hk, e⟩
    have := Sum.inl.inj e
    have : k = f := by omega
    rwa [← this]
  · intro h
    exact ⟨f, h, rfl⟩
theorem put_new {ks vs : List Nat} {f : Nat} (h : f ∉ ks) (d : D) : putD (ks.map fun (k : Nat) => (Sum.inl (k : Int) : Key)) (vs.map fun (v : Nat) => D.int (v : Int)) (Sum.inl (f : Int)) d = ((ks.map fun (k : Nat) => (Sum.inl (k : Int) : Key)) ++ [Sum.inl (f : Int)], (vs.map fun (v : Nat) => D.int (v : Int)) ++ [d]) := if_neg fun z => h (mem_key.mp z)
theorem rep_last : ∀ {ks vs : List Nat} {f : Nat} (d d' : D), f ∉ ks → ks.length = vs.length → repD (Sum.inl (f : Int)) d' ((ks.map fun (k : Nat) => (Sum.inl (k : Int) : Key)) ++ [Sum.inl (f : Int)]) ((vs.map fun (v : Nat) => D.int (v : Int)) ++ [d]) = (vs.map fun (v : Nat) => D.int (v : Int)) ++ [d']
  | [], [], _, _, _, _, _ => by simp [repD]
  | k :: ks, v :: vs, f, d, d', h, hl => by
    have h1 : ¬ (k : Int) = (f : Int) := by
      intro e
      exact h (by simp; left; omega)
    have h2 : ¬ (Sum.inl (k : Int) : Key) = Sum.inl (f : Int) := fun e => h1 (Sum.inl.inj e)
    simp only [List.map_cons, List.cons_append, repD, h2, if_false]
    rw [rep_last d d' (fun z => h (List.mem_cons_of_mem _ z)) (by simpa using hl)]
  | [], _ :: _, _, _, _, _, hl => by simp at hl
  | _ :: _, [], _, _, _, _, hl => by simp at hl
theorem put_last {ks vs : List Nat} {f : Nat} (h : f ∉ ks) (hl : ks.length = vs.length) (d d' : D) : putD ((ks.map fun (k : Nat) => (Sum.inl (k : Int) : Key)) ++ [Sum.inl (f : Int)]) ((vs.map fun (v : Nat) => D.int (v : Int)) ++ [d]) (Sum.inl (f : Int)) d' = ((ks.map fun (k : Nat) => (Sum.inl (k : Int) : Key)) ++ [Sum.inl (f : Int)], (vs.map fun (v : Nat) => D.int (v : Int)) ++ [d']) := by
  unfold putD
  rw [if_pos (by simp), rep_last d d' h hl]
/-! ### factors -/
abbrev cF1 : C := .cmp .Eq (.bin .Mod (.var 2) (.var 3)) (.lit (.int 0))
abbrev sF1 : S := .seq (.sets (.var 1) (.var 3) (.bin .Add (.dget (.var 1) (.var 3) (.lit (.int 0))) (.lit (.int 1)))) (.seq (.aug 2 .FloorDiv (.var 3)) .nop)
theorem fdiv_nat (a b : Nat) : (a : Int).fdiv (b : Int) = ((a / b : Nat) : Int) := by
  rw [Int.fdiv_eq_ediv_of_nonneg _ (by omega)]
  exact (Int.natCast_ediv a b).symm
/-- a trial factor taken out, as often as it goes: behind the first time -/
theorem fac_more (cf : Cf) (lf : Nat) (x : D) (R : Sto) {ks vs : List Nat} {f : Nat} (hf : f ∉ ks) (hl : ks.length = vs.length) (f2 : 2 ≤ f ∧ f < 2 ^ 40) (hk : ks.length < 1000) : ∀ (k l j fuel : Nat), l ≠ 0 → l < 2 ^ k → k < fuel →
    whR (ev cf lf cF1) (ex cf lf sF1) fuel [some x, some (.ref 0 0), some (.int (l : Int)), some (.int (f : Int))] ([.dct ((ks.map fun (k : Nat) => (Sum.inl (k : Int) : Key)) ++ [Sum.inl (f : Int)]) ((vs.map fun (v : Nat) => D.int (v : Int)) ++ [.int (j : Int)])] :: R) =
    .nx [some x, some (.ref 0 0), some (.int ((pvN f k l).2 : Nat)), some (.int (f : Int))] ([.dct ((ks.map fun (k : Nat) => (Sum.inl (k : Int) : Key)) ++ [Sum.inl (f : Int)]) ((vs.map fun (v : Nat) => D.int (v : Int)) ++ [.int ((j + (pvN f k l).1 : Nat) : Int)])] :: R) := by
  intro k
  induction k with
  | zero => intro l j fuel h0 h1; omega
  | succ k ih =>
    intro l j fuel h0 h1 h2
    obtain ⟨q, rfl⟩ : ∃ q, fuel = q + 1 := ⟨fuel - 1, by omega⟩
    have fn : ¬ (f : Int) = 0 := by omega
    have fn' : ¬ f = 0 := by omega
    have dv : divOk (f : Int) = true := divOk_of (m := 40) (by omega) (by omega) fn
    have lk := fun d => look_last (f := f) d hf hl
    have pt := fun d d' => put_last (f := f) hf hl d d'
    unfold pvN
    by_cases hd : l % f = 0
    · rw [if_pos hd]
      have hlen : ks.length + 1 < 100000 := by omega
      obtain ⟨c, rfl⟩ := Nat.dvd_of_mod_eq_zero hd
      have e : f * c / f = c := Nat.mul_div_cancel_left _ (by omega)
      have c0 : c ≠ 0 := by rintro rfl; simp at h0
      have hc : c < 2 ^ k := by
        have : 2 * c ≤ f * c := Nat.mul_le_mul_right _ f2.1
        rw [Nat.pow_succ] at h1
        omega
      rw [whR_t (R1 := [.dct ((ks.map fun (k : Nat) => (Sum.inl (k : Int) : Key)) ++ [Sum.inl (f : Int)]) ((vs.map fun (v : Nat) => D.int (v : Int)) ++ [.int (j : Int)])] :: R) (σ2 := [some x, some (.ref 0 0), some (.int (c : Int)), some (.int (f : Int))])
        (R2 := [.dct ((ks.map fun (k : Nat) => (Sum.inl (k : Int) : Key)) ++ [Sum.inl (f : Int)]) ((vs.map fun (v : Nat) => D.int (v : Int)) ++ [.int ((j + 1 : Nat) : Int)])] :: R)]
      · rw [ih c (j + 1) q c0 hc (by omega), e]
        congr 8
        omega
      · simp [fn']
      · have fd := fdiv_nat (f * c) f
        rw [e] at fd
        simp [isDct, dctGet, derefs, fzO, keyD, lk, setO, pt, hlen, dv] at fd ⊢
        simp [fd]
    · rw [if_neg hd, whR_f (R1 := [.dct ((ks.map fun (k : Nat) => (Sum.inl (k : Int) : Key)) ++ [Sum.inl (f : Int)]) ((vs.map fun (v : Nat) => D.int (v : Int)) ++ [.int (j : Int)])] :: R)]
      · rfl
      · simp [fn']
        intro z
        rw [fmod_nat] at z
        exact hd (by exact_mod_cast z)
end
section
variable {Fs : Tab} {lf : Nat} {I : PIx}
/-- the store of factors_of's own frame -/
abbrev rKV (ks vs : List Nat) (R : Sto) : Sto := [dKV ks vs] :: R
/-- one trial factor -/
theorem fac_one (cf : Cf) (lf : Nat) (x : D) (R : Sto) {ks vs : List Nat} {f : Nat} (hf : f ∉ ks) (hl : ks.length = vs.length) (f2 : 2 ≤ f ∧ f < 2 ^ 40) (hk : ks.length < 1000) (k l fuel : Nat) (h0 : l ≠ 0) (h1 : l < 2 ^ k) (h2 : k < fuel) :
    whR (ev cf lf cF1) (ex cf lf sF1) fuel [some x, some (.ref 0 0), some (.int (l : Int)), some (.int (f : Int))] (rKV ks vs R) =
    .nx [some x, some (.ref 0 0), some (.int ((pvN f k l).2 : Nat)), some (.int (f : Int))] (if l % f = 0 then rKV (ks ++ [f]) (vs ++ [(pvN f k l).1]) R else rKV ks vs R) := by
  cases k with
  | zero => omega
  | succ k =>
    obtain ⟨q, rfl⟩ : ∃ q, fuel = q + 1 := ⟨fuel - 1, by omega⟩
    have fn : ¬ (f : Int) = 0 := by omega
    have fn' : ¬ f = 0 := by omega
    have dv : divOk (f : Int) = true := divOk_of (m := 40) (by omega) (by omega) fn
    have lk := fun ds => look_none (f := f) ds hf
    have pt := fun d => put_new (f := f) (vs := vs) hf d
    unfold pvN
    by_cases hd : l % f = 0
    · rw [if_pos hd, if_pos hd]
      have hlen : ks.length < 100000 := by omega
      obtain ⟨c, rfl⟩ := Nat.dvd_of_mod_eq_zero hd
      have e : f * c / f = c := Nat.mul_div_cancel_left _ (by omega)
      have c0 : c ≠ 0 := by rintro rfl; simp at h0
      have hc : c < 2 ^ k := by
        have : 2 * c ≤ f * c := Nat.mul_le_mul_right _ f2.1
        rw [Nat.pow_succ] at h1
        omega
      rw [whR_t (R1 := rKV ks vs R) (σ2 := [some x, some (.ref 0 0), some (.int (c : Int)), some (.int (f : Int))])
        (R2 := [.dct ((ks.map fun (k : Nat) => (Sum.inl (k : Int) : Key)) ++ [Sum.inl (f : Int)]) ((vs.map fun (v : Nat) => D.int (v : Int)) ++ [.int ((1 : Nat) : Int)])] :: R)]
      · rw [fac_more cf lf x R hf hl f2 hk k c 1 q c0 hc (by omega), e]
        simp [dKV, Nat.add_comm]
      · simp [fn']
      · have fd := fdiv_nat (f * c) f
        rw [e] at fd
        simp [isDct, dctGet, derefs, fzO, keyD, lk, setO, pt, hlen, dv, dKV] at fd ⊢
        simp [fd]
    · rw [if_neg hd, if_neg hd, whR_f (R1 := rKV ks vs R)]
      · simp [fn']
        intro z
        rw [fmod_nat] at z
        exact hd (by exact_mod_cast z)
abbrev cF2 : C := .cmp .LtE (.bin .Mult (.var 3) (.var 3)) (.var 2)
abbrev sF2 : S := .seq (.whl cF1 sF1) (.seq (.aug 3 .Add (.ife (.cmp .Eq (.var 3) (.lit (.int 2))) (.lit (.int 1)) (.lit (.int 2)))) .nop)
theorem fac_all (cf : Cf) (lf : Nat) (hlf : 10 ^ 100 ≤ lf) (x : D) {n : Nat} (hn : n < 2 ^ 31) : ∀ (k : Nat) (ks vs : List Nat) (l f fuel : Nat), Trial n ks vs l f → l < k + f → k < fuel → f < 2 ^ 39 →
    ∃ (ks' vs' : List Nat) (l' f' : Nat), (∀ R, whR (ev cf lf cF2) (ex cf lf sF2) fuel [some x, some (.ref 0 0), some (.int (l : Int)), some (.int (f : Int))] (rKV ks vs R) = .nx [some x, some (.ref 0 0), some (.int (l' : Int)), some (.int (f' : Int))] (rKV ks' vs' R)) ∧ Trial n ks' vs' l' f' ∧ l' < f' * f' := by
  intro k
  induction k with
  | zero =>
    intro ks vs l f fuel i h1 h2 h3
    obtain ⟨q, rfl⟩ : ∃ q, fuel = q + 1 := ⟨fuel - 1, by omega⟩
    have lt : l < f * f := Nat.lt_of_lt_of_le (show l < f by omega) (Nat.le_mul_of_pos_left _ (by have := i.f2; omega))
    refine ⟨ks, vs, l, f, fun R => whR_f (R1 := rKV ks vs R) ?_, i, lt⟩
    have m : mulOk (f : Int) (f : Int) = true := mulOk_of (n := 40) (m := 40) (by omega) (by omega) (by decide)
    have nl : ¬ (f : Int) * (f : Int) ≤ (l : Int) := by
      rw [← Int.natCast_mul]
      omega
    simp [m, nl]
  | succ k ih =>
    intro ks vs l f fuel i h1 h2 h3
    obtain ⟨q, rfl⟩ : ∃ q, fuel = q + 1 := ⟨fuel - 1, by omega⟩
    have m : mulOk (f : Int) (f : Int) = true := mulOk_of (n := 40) (m := 40) (by omega) (by omega) (by decide)
    by_cases hle : f * f ≤ l
    · have nl : (f : Int) * (f : Int) ≤ (l : Int) := by
        rw [← Int.natCast_mul]
        omega
      have l31 : l < 2 ^ 31 := by
        have := i.prod
        have h4 : prodKV ks vs ≠ 0 := by
          intro z
          rw [z] at this
          have h5 := i.cnt
          have h6 : 0 < 2 ^ ks.length * l := Nat.mul_pos (Nat.pow_pos (by decide)) (by have := i.l1; omega)
          omega
        have : l ≤ prodKV ks vs * l := Nat.le_mul_of_pos_left _ (by omega)
        omega
      have hk : ks.length < 1000 := by
        have h5 := i.cnt
        have h6 : 2 ^ ks.length ≤ 2 ^ ks.length * l := Nat.le_mul_of_pos_right _ i.l1
        have h7 : ks.length < 2 ^ ks.length := Nat.lt_two_pow_self
        rcases Nat.lt_or_ge ks.length 31 with h8 | h8
        · omega
        · have := Nat.pow_le_pow_right (show 0 < 2 by decide) h8
          omega
      have nf : f ∉ ks := fun hm => by have := (i.pr f hm).2.2; omega
      have one := fun R => fac_one cf lf x R nf i.len ⟨i.f2, by omega⟩ hk 31 l lf (by have := i.l1; omega) l31 (by omega)
      obtain ⟨e1, e2⟩ := pvN_ok i.f2 31 l (by have := i.l1; omega) l31
      have step : ∃ (ks2 vs2 : List Nat) (l2 : Nat), (∀ R, ex cf lf sF2 [some x, some (.ref 0 0), some (.int (l : Int)), some (.int (f : Int))] (rKV ks vs R) = .nx [some x, some (.ref 0 0), some (.int (l2 : Nat)), some (.int (nextF f : Nat))] (rKV ks2 vs2 R)) ∧ Trial n ks2 vs2 l2 (nextF f) ∧ l2 ≤ l := by
        have nx : (f : Int) + (if (f : Int) = 2 then 1 else 2) = ((nextF f : Nat) : Int) := by
          unfold nextF
          split <;> split <;> omega
        have nxe : ∀ b : Bool, b = decide ((f : Int) = 2) → (f : Int) + (match b with | true => 1 | false => 2) = ((nextF f : Nat) : Int) := fun b hb => by
          rw [← nx, hb]
          by_cases z : (f : Int) = 2 <;> simp [z]
        by_cases hd : l % f = 0
        · simp only [if_pos hd] at one
          refine ⟨ks ++ [f], vs ++ [(pvN f 31 l).1], (pvN f 31 l).2, fun R => ?_, i.take (Nat.dvd_of_mod_eq_zero hd) e1 e2, ?_⟩
          · rw [ex_seq, ex_whl, one]
            by_cases z : (f : Int) = 2
            · simp [z] at nx ⊢
              exact nx
            · simp [z] at nx ⊢
              exact nx
          · conv => rhs; rw [e1]
            exact Nat.le_mul_of_pos_left _ (Nat.pow_pos (by have := i.f2; omega))
        · simp only [if_neg hd] at one
          have e3 : (pvN f 31 l).2 = l := by
            unfold pvN
            rw [if_neg hd]
          refine ⟨ks, vs, l, fun R => ?_, i.skip (fun z => hd (Nat.mod_eq_zero_of_dvd z)), Nat.le_refl _⟩
          rw [ex_seq, ex_whl, one, e3]
          by_cases z : (f : Int) = 2
          · simp [z] at nx ⊢
            exact nx
          · simp [z] at nx ⊢
            exact nx
      obtain ⟨ks2, vs2, l2, s1, s2, s3⟩ := step
      have hf : f < nextF f ∧ nextF f ≤ f + 2 := by unfold nextF; split <;> omega
      have f31 : f < 2 ^ 31 := by
        have : f ≤ f * f := Nat.le_mul_of_pos_left _ (by have := i.f2; omega)
        omega
      obtain ⟨ks', vs', l', f', r1, r2, r3⟩ := ih ks2 vs2 l2 (nextF f) q s2 (by omega) (by omega) (by omega)
      refine ⟨ks', vs', l', f', fun R => ?_, r2, r3⟩
      rw [whR_t (R1 := rKV ks vs R) (σ2 := [some x, some (.ref 0 0), some (.int (l2 : Nat)), some (.int (nextF f : Nat))]) (R2 := rKV ks2 vs2 R) (by simp [m, nl]) (s1 R)]
      exact r1 R
    · refine ⟨ks, vs, l, f, fun R => whR_f (R1 := rKV ks vs R) ?_, i, by omega⟩
      have nl : ¬ (f : Int) * (f : Int) ≤ (l : Int) := by
        rw [← Int.natCast_mul]
        omega
      simp [m, nl]
abbrev PFacs (i : Nat) (cf : Cf) : Prop := ∀ n : Int, n ≠ 0 → n.natAbs < 2 ^ 31 → ∃ ks vs, Facs n.natAbs ks vs ∧ ∀ R, cf i [.int n] R = .ok (.new (dKV ks vs)) R
theorem ok_facs (hlf : 10 ^ 100 ≤ lf) (h : HasF Fs I.factors_of (k_factors_of I)) : At Fs lf 1 (PFacs I.factors_of) := .mk fun d _ n h0 hn => by
  have a31 : (2 : Nat) ^ 31 = 2147483648 := by decide
  have fl : n.natAbs < lf := by
    have : (2147483648 : Nat) ≤ 10 ^ 100 := by decide
    rw [a31] at hn
    exact Nat.lt_of_lt_of_le (show n.natAbs < 10 ^ 100 by omega) hlf
  obtain ⟨ks, vs, l, f, w, i, hl⟩ := fac_all (run Fs lf d) lf hlf (.int n) hn n.natAbs [] [] n.natAbs 2 lf (Trial.start (by omega)) (by omega) fl (by decide)
  have l1 := i.l1
  by_cases h1 : l = 1
  · refine ⟨ks, vs, i.done1 h1, fun R => ?_⟩
    rw [run_f h]
    have w' := w R
    subst h1
    simp [rKV, dKV] at w'
    simp [k_factors_of, abs_cast, dKV, w']
  · obtain ⟨nm, fc⟩ := i.done2 hl (by omega)
    refine ⟨ks ++ [l], vs ++ [1], fc, fun R => ?_⟩
    rw [run_f h]
    have w' := w R
    have gt : (1 : Int) < (l : Int) := by omega
    have lk := fun ds => look_none (f := l) ds nm
    have pt := fun d => put_new (f := l) (vs := vs) nm d
    have hlen : ks.length < 100000 := by
      have h5 := i.cnt
      have h6 : 2 ^ ks.length ≤ 2 ^ ks.length * l := Nat.le_mul_of_pos_right _ i.l1
      have h7 : ks.length < 2 ^ ks.length := Nat.lt_two_pow_self
      rcases Nat.lt_or_ge ks.length 31 with h8 | h8
      · omega
      · have := Nat.pow_le_pow_right (show 0 < 2 by decide) h8
        omega
    simp [rKV, dKV] at w'
    simp [k_factors_of, abs_cast, dKV, w', gt, isDct, dctGet, derefs, fzO, keyD, lk, setO, pt, hlen]
end
end EV

/-! SG: plain law: the sign of two numbers at a place, as the program reckons it. -/
namespace NT
/-- how often p divides, and what is left -/
def prt (p : Int) : Nat → Int → Nat × Int
  | 0, n => (0, n)
  | f + 1, n => if n % p = 0 then ((prt p f (n / p)).1 + 1, (prt p f (n / p)).2) else (0, n)
theorem div_small {p n : Int} (hp : 2 ≤ p) (f : Nat) (hn : n ≠ 0) (h : n.natAbs < 2 ^ (f + 1)) (hd : n % p = 0) : n / p ≠ 0 ∧ (n / p).natAbs < 2 ^ f := by
  obtain ⟨c, rfl⟩ : p ∣ n := Int.dvd_of_emod_eq_zero hd
  have e : p * c / p = c := Int.mul_ediv_cancel_left _ (by omega)
  rw [e]
  refine ⟨fun z => hn (by rw [z, Int.mul_zero]), ?_⟩
  rw [Int.natAbs_mul] at h
  have : 2 * c.natAbs ≤ p.natAbs * c.natAbs := Nat.mul_le_mul_right _ (by omega)
  rw [Nat.pow_succ] at h
  omega
theorem prt_ok {p : Int} (hp : 2 ≤ p) : ∀ (f : Nat) (n : Int), n ≠ 0 → n.natAbs < 2 ^ f → n = p ^ (prt p f n).1 * (prt p f n).2 ∧ (prt p f n).2 % p ≠ 0 ∧ (prt p f n).2.natAbs ≤ n.natAbs ∧ (prt p f n).1 ≤ f
  | 0, n, h0, h => by omega
  | f + 1, n, h0, h => by
    unfold prt
    by_cases hd : n % p = 0
    · rw [if_pos hd]
      obtain ⟨g1, g2⟩ := div_small hp f h0 h hd
      obtain ⟨h1, h2, h3, h4⟩ := prt_ok hp f (n / p) g1 g2
      have e : n = p * (n / p) := (Int.mul_ediv_cancel' (Int.dvd_of_emod_eq_zero hd)).symm
      refine ⟨?_, h2, ?_, by dsimp only; omega⟩
      · dsimp only
        conv => lhs; rw [e, h1]
        rw [Int.pow_succ, Int.mul_comm (p ^ _) p, Int.mul_assoc]
      · dsimp only
        have : (n / p).natAbs ≤ n.natAbs := by
          have e2 := congrArg Int.natAbs e
          rw [Int.natAbs_mul] at e2
          rw [e2]
          exact Nat.le_mul_of_pos_left _ (by omega)
        omega
    · rw [if_neg hd]
      exact ⟨by simp, hd, Nat.le_refl _, by dsimp only; omega⟩
theorem emod_pow (a m : Int) : ∀ n : Nat, (a % m) ^ n % m = a ^ n % m
  | 0 => by simp
  | n + 1 => by
    rw [Int.pow_succ, Int.pow_succ, Int.mul_emod, emod_pow a m n, Int.emod_emod, ← Int.mul_emod]
/-- the residue sign -/
def rsg (n p : Int) : Int := if n % p = 0 then 0 else if p = 2 then (if n % 8 = 1 ∨ n % 8 = 7 then 1 else -1) else if n ^ ((p - 1) / 2).toNat % p = 1 then 1 else -1
def sg2 (u v : Int) (m n : Nat) : Int := if ((u - 1) / 2 * ((v - 1) / 2) + (m : Int) * ((v * v - 1) / 8) + (n : Int) * ((u * u - 1) / 8)) % 2 = 0 then 1 else -1
def sgO (u v : Int) (m n : Nat) (p : Int) : Int := (if (m : Int) * (n : Int) % 2 = 1 then rsg (-1) p else 1) * (if (n : Int) % 2 = 1 then rsg u p else 1) * (if (m : Int) % 2 = 1 then rsg v p else 1)
def sgp (a b p : Int) : Int := if p = 2 then sg2 (prt p 31 a).2 (prt p 31 b).2 (prt p 31 a).1 (prt p 31 b).1 else sgO (prt p 31 a).2 (prt p 31 b).2 (prt p 31 a).1 (prt p 31 b).1 p
def sgN (a b p : Int) : Int := if p = 0 then (if a < 0 ∧ b < 0 then -1 else 1) else sgp a b p
theorem rsg_abs (n p : Int) : (rsg n p).natAbs ≤ 1 := by
  unfold rsg
  repeat' split
  all_goals decide
end NT

/-! EvA: promises of factors, signs, places, algebras. -/
namespace EV
open PySem PySem.Spec PyProof.Rows L2 HQ NT
section
variable {Fs : Tab} {lf : Nat} {I : PIx}
theorem fmd (n p : Int) (hp : 2 ≤ p) : n.fmod p = n % p ∧ n.fdiv p = n / p := ⟨Int.fmod_eq_emod_of_nonneg _ (by omega), Int.fdiv_eq_ediv_of_nonneg _ (by omega)⟩
theorem num_bi {a : Int} (h : a.natAbs < 2 ^ 31) : BI a 31 := ⟨h⟩
/-! ### parting -/
abbrev cPa : C := .cmp .Eq (.bin .Mod (.var 3) (.var 1)) (.lit (.int 0))
abbrev sPa : S := .seq (.par2 2 3 none none (.bin .Add (.var 2) (.lit (.int 1))) (.bin .FloorDiv (.var 3) (.var 1))) .nop
theorem part_loop (cf : Cf) (lf : Nat) (p : Int) (hp : 2 ≤ p) (hp2 : p.natAbs < 2 ^ 31) (x : Option D) (R : Sto) : ∀ (f fuel : Nat) (m n : Int), n ≠ 0 → n.natAbs < 2 ^ f → f < fuel →
    whR (ev cf lf cPa) (ex cf lf sPa) fuel [x, some (.int p), some (.int m), some (.int n)] R = .nx [x, some (.int p), some (.int (m + (prt p f n).1)), some (.int (prt p f n).2)] R := by
  have d1 : divOk p = true := divOk_of (m := 40) (by omega) (by omega) (by omega)
  have p0 : ¬ p = 0 := by omega
  intro f
  induction f with
  | zero =>
    intro fuel m n h0 h1 h2
    omega
  | succ f ih =>
    intro fuel m n h0 h1 h2
    obtain ⟨k, rfl⟩ : ∃ k, fuel = k + 1 := ⟨fuel - 1, by omega⟩
    by_cases hd : n % p = 0
    · obtain ⟨g1, g2⟩ := div_small hp f h0 h1 hd
      rw [whR_t (R1 := R) (σ2 := [x, some (.int p), some (.int (m + 1)), some (.int (n / p))]) (R2 := R) (by simp [p0, (fmd n p hp).1, hd]) (by simp [d1, (fmd n p hp).2])]
      rw [ih k (m + 1) (n / p) g1 g2 (by omega), show m + 1 + ((prt p f (n / p)).1 : Int) = m + (((prt p f (n / p)).1 + 1 : Nat) : Int) by omega]
      simp only [prt, hd, if_true]
    · rw [whR_f (R1 := R) (by simp [p0, (fmd n p hp).1, hd])]
      simp only [prt, hd, if_false]
      simp
abbrev PPart (i : Nat) (cf : Cf) : Prop := ∀ (n p : Int) (R : Sto), n ≠ 0 → n.natAbs < 2 ^ 31 → 2 ≤ p → p.natAbs < 2 ^ 31 → cf i [.int n, .int p] R = .ok (.val (.tup [.int ((prt p 31 n).1 : Nat), .int (prt p 31 n).2])) R
theorem ok_part (hlf : 10 ^ 100 ≤ lf) (h : HasF Fs I.parted_by (k_parted_by I)) : At Fs lf 1 (PPart I.parted_by) := .mk fun d hd n p R h0 hn hp hp2 => by
  have fl : 31 < lf := Nat.lt_of_lt_of_le (by decide) hlf
  have e := part_loop (run Fs lf d) lf p hp hp2 (some (.int n)) ([] :: R) 31 lf 0 n h0 hn fl
  rw [run_f h]
  simp only [Int.zero_add] at e
  simp [k_parted_by, e]
/-! ### powers -/
abbrev cPo : C := .cmp .Gt (.var 5) (.lit (.int 0))
abbrev sPo : S := .seq (.ifS (.cmp .Eq (.bin .Mod (.var 5) (.lit (.int 2))) (.lit (.int 1))) (.seq (.asg 3 (.bin .Mod (.bin .Mult (.var 3) (.var 4)) (.var 2))) .nop) .nop) (.seq (.asg 4 (.bin .Mod (.bin .Mult (.var 4) (.var 4)) (.var 2))) (.seq (.aug 5 .FloorDiv (.lit (.int 2))) .nop))
theorem pow_loop (cf : Cf) (lf : Nat) (m : Int) (hm : 2 ≤ m) (hm2 : m.natAbs < 2 ^ 31) (x y : Option D) (R : Sto) : ∀ (k fuel l : Nat) (g f : Int), l < 2 ^ k → k < fuel → 0 ≤ g → g < m → 0 ≤ f → f < m →
    ∃ f', whR (ev cf lf cPo) (ex cf lf sPo) fuel [x, y, some (.int m), some (.int g), some (.int f), some (.int (l : Int))] R = .nx [x, y, some (.int m), some (.int (g * f ^ l % m)), some (.int f'), some (.int 0)] R := by
  have m0 : ¬ m = 0 := by omega
  have d2 : divOk 2 = true := by decide +kernel
  intro k
  induction k with
  | zero =>
    intro fuel l g f h1 h2 g0 g1 f0 f1
    obtain ⟨q, rfl⟩ : ∃ q, fuel = q + 1 := ⟨fuel - 1, by omega⟩
    have : l = 0 := by simpa using h1
    subst this
    refine ⟨f, ?_⟩
    rw [whR_f (R1 := R) (by simp)]
    rw [Int.pow_zero, Int.mul_one, Int.emod_eq_of_lt g0 g1]
    rfl
  | succ k ih =>
    intro fuel l g f h1 h2 g0 g1 f0 f1
    obtain ⟨q, rfl⟩ : ∃ q, fuel = q + 1 := ⟨fuel - 1, by omega⟩
    by_cases hl : l = 0
    · subst hl
      refine ⟨f, ?_⟩
      rw [whR_f (R1 := R) (by simp)]
      rw [Int.pow_zero, Int.mul_one, Int.emod_eq_of_lt g0 g1]
      rfl
    · have lp : (0 : Int) < (l : Int) := by omega
      have mg : mulOk g f = true := mulOk_of (n := 31) (m := 31) (by omega) (by omega) (by decide)
      have mf : mulOk f f = true := mulOk_of (n := 31) (m := 31) (by omega) (by omega) (by decide)
      have e1 := (fmd (l : Int) 2 (by decide)).1
      have e2 := (fmd (l : Int) 2 (by decide)).2
      have e3 : ∀ z : Int, z.fmod m = z % m := fun z => (fmd z m hm).1
      have l2 : l / 2 < 2 ^ k := by rw [Nat.pow_succ] at h1; omega
      have q0 : ∀ z : Int, 0 ≤ z % m ∧ z % m < m := fun z => ⟨Int.emod_nonneg _ m0, Int.emod_lt_of_pos _ (by omega)⟩
      have half : ((l : Int) / 2) = ((l / 2 : Nat) : Int) := by omega
      by_cases ho : (l : Int) % 2 = 1
      · obtain ⟨f', e⟩ := ih q (l / 2) (g * f % m) (f * f % m) l2 (by omega) (q0 _).1 (q0 _).2 (q0 _).1 (q0 _).2
        refine ⟨f', ?_⟩
        rw [whR_t (R1 := R) (σ2 := [x, y, some (.int m), some (.int (g * f % m)), some (.int (f * f % m)), some (.int ((l / 2 : Nat) : Int))]) (R2 := R) (by simp; omega) (by simp [e1, e2, e3, ho, mg, mf, m0, d2]), e]
        have pw : g * f % m * (f * f % m) ^ (l / 2) % m = g * f ^ l % m := by
          have hl2 : l = 2 * (l / 2) + 1 := by omega
          have : f ^ l = (f * f) ^ (l / 2) * f := by
            conv => lhs; rw [hl2]
            rw [Int.pow_succ, Int.pow_mul]
            congr 2
            rw [Int.pow_succ, Int.pow_succ, Int.pow_zero, Int.one_mul]
          rw [this, Int.mul_emod, Int.emod_emod, emod_pow, ← Int.mul_emod]
          congr 1
          grind
        rw [pw]
      · obtain ⟨f', e⟩ := ih q (l / 2) g (f * f % m) l2 (by omega) g0 g1 (q0 _).1 (q0 _).2
        refine ⟨f', ?_⟩
        rw [whR_t (R1 := R) (σ2 := [x, y, some (.int m), some (.int g), some (.int (f * f % m)), some (.int ((l / 2 : Nat) : Int))]) (R2 := R) (by simp; omega) (by simp [e1, e2, e3, ho, mg, mf, m0, d2]), e]
        have pw : g * (f * f % m) ^ (l / 2) % m = g * f ^ l % m := by
          have hl2 : l = 2 * (l / 2) := by omega
          have : f ^ l = (f * f) ^ (l / 2) := by
            conv => lhs; rw [hl2]
            rw [Int.pow_mul]
            congr 1
            rw [Int.pow_succ, Int.pow_succ, Int.pow_zero, Int.one_mul]
          rw [this, Int.mul_emod, emod_pow, ← Int.mul_emod]
        rw [pw]
end
section
variable {Fs : Tab} {lf : Nat} {I : PIx}
abbrev PPow (i : Nat) (cf : Cf) : Prop := ∀ (b e m : Int) (R : Sto), 0 ≤ e → e.natAbs < 2 ^ 31 → 2 ≤ m → m.natAbs < 2 ^ 31 → cf i [.int b, .int e, .int m] R = .ok (.val (.int (b ^ e.toNat % m))) R
theorem ok_pow (hlf : 10 ^ 100 ≤ lf) (h : HasF Fs I.power_rest (k_power_rest I)) : At Fs lf 1 (PPow I.power_rest) := .mk fun d hd b e m R e0 he hm hm2 => by
  have fl : 31 < lf := Nat.lt_of_lt_of_le (by decide) hlf
  have m0 : ¬ m = 0 := by omega
  have q0 : ∀ z : Int, 0 ≤ z % m ∧ z % m < m := fun z => ⟨Int.emod_nonneg _ m0, Int.emod_lt_of_pos _ (by omega)⟩
  obtain ⟨f', w⟩ := pow_loop (run Fs lf d) lf m hm hm2 (some (.int b)) (some (.int e)) ([] :: R) 31 lf e.toNat (1 % m) (b % m) (by omega) fl (q0 _).1 (q0 _).2 (q0 _).1 (q0 _).2
  have e3 : ∀ z : Int, z.fmod m = z % m := fun z => (fmd z m hm).1
  have t : ((e.toNat : Nat) : Int) = e := Int.toNat_of_nonneg e0
  rw [t] at w
  have pw : 1 % m * (b % m) ^ e.toNat % m = b ^ e.toNat % m := by
    rw [Int.mul_emod, Int.emod_emod, emod_pow, ← Int.mul_emod, Int.one_mul]
  rw [pw] at w
  rw [run_f h]
  simp [k_power_rest, m0, e3, w]
abbrev PRsg (i : Nat) (cf : Cf) : Prop := ∀ (n p : Int) (R : Sto), 2 ≤ p → p.natAbs < 2 ^ 31 → cf i [.int n, .int p] R = .ok (.val (.int (rsg n p))) R
theorem ok_rsg (hp : At Fs lf 1 (PPow I.power_rest)) (h : HasF Fs I.residue_sign_of (k_residue_sign_of I)) : At Fs lf 2 (PRsg I.residue_sign_of) := .mk fun d hd n p R p2 pb => by
  have p0 : ¬ p = 0 := by omega
  have e3 : ∀ z : Int, z.fmod p = z % p := fun z => (fmd z p p2).1
  have e8 : ∀ z : Int, z.fmod 8 = z % 8 := fun z => (fmd z 8 (by decide)).1
  have d2 : divOk 2 = true := by decide +kernel
  have e2 : ∀ z : Int, z.fdiv 2 = z / 2 := fun z => (fmd z 2 (by decide)).2
  have w := fun R => hp d hd n ((p - 1) / 2) p R (by omega) (by omega) p2 pb
  rw [run_f h]
  unfold rsg
  by_cases h1 : n % p = 0
  · simp [k_residue_sign_of, p0, e3, h1]
  · by_cases h2 : p = 2
    · subst h2
      by_cases h3 : n % 8 = 1 ∨ n % 8 = 7
      · rcases h3 with h3 | h3 <;> simp [k_residue_sign_of, e3, h1, e8, h3]
      · have h4 : ¬ n % 8 = 1 ∧ ¬ n % 8 = 7 := by omega
        simp [k_residue_sign_of, e3, h1, e8, h4.1, h4.2]
    · by_cases h3 : n ^ ((p - 1) / 2).toNat % p = 1 <;> simp [k_residue_sign_of, p0, e3, h1, h2, d2, e2, w, h3]
abbrev PSg2 (i : Nat) (cf : Cf) : Prop := ∀ (u v : Int) (m n : Nat) (R : Sto), u.natAbs < 2 ^ 31 → v.natAbs < 2 ^ 31 → m ≤ 31 → n ≤ 31 → cf i [.int u, .int v, .int (m : Int), .int (n : Int)] R = .ok (.val (.int (sg2 u v m n))) R
theorem div2_bi {u k : Int} {n : Nat} (hk : 2 ≤ k) (h : BI u n) : BI (u / k) n := ⟨by
  have := h.h
  have h1 : (u / k).natAbs ≤ u.natAbs := by
    rcases Int.lt_or_le u 0 with q | q
    · have h2 : u / k < 0 := Int.ediv_neg_of_neg_of_pos q (by omega)
      have h3 : u ≤ u / k := by
        have := Int.le_ediv_of_mul_le (show 0 < k by omega) (show u * k ≤ u by
          have : k * u ≤ 1 * u := Int.mul_le_mul_of_nonpos_right (by omega) (by omega)
          rw [Int.mul_comm]; omega)
        exact this
      omega
    · have h2 : 0 ≤ u / k := Int.ediv_nonneg q (by omega)
      have h3 : u / k ≤ u := Int.ediv_le_self _ q
      omega
  omega⟩
theorem ok_sg2 (h : HasF Fs I.sign_by_two (k_sign_by_two I)) : At Fs lf 1 (PSg2 I.sign_by_two) := .mk fun d hd u v m n R hu hv hm hn => by
  haveI := num_bi hu
  haveI := num_bi hv
  haveI : BI (m : Int) 8 := ⟨by omega⟩
  haveI : BI (n : Int) 8 := ⟨by omega⟩
  haveI : BI 1 1 := ⟨by decide⟩
  haveI i1 : BI ((u - 1) / 2) 40 := BI.up (div2_bi (by decide) (inferInstance : BI (u - 1) _)) (by decide)
  haveI i2 : BI ((v - 1) / 2) 40 := BI.up (div2_bi (by decide) (inferInstance : BI (v - 1) _)) (by decide)
  haveI i3 : BI ((v * v - 1) / 8) 80 := BI.up (div2_bi (by decide) (inferInstance : BI (v * v - 1) _)) (by decide)
  haveI i4 : BI ((u * u - 1) / 8) 80 := BI.up (div2_bi (by decide) (inferInstance : BI (u * u - 1) _)) (by decide)
  have m1 : mulOk ((u - 1) / 2) ((v - 1) / 2) = true := mulOk_bd (n := 40) (m := 40) (by decide)
  have m2 : mulOk (m : Int) ((v * v - 1) / 8) = true := mulOk_bd (n := 8) (m := 80) (by decide)
  have m3 : mulOk (n : Int) ((u * u - 1) / 8) = true := mulOk_bd (n := 8) (m := 80) (by decide)
  have m4 : mulOk u u = true := mulOk_bd (n := 31) (m := 31) (by decide)
  have m5 : mulOk v v = true := mulOk_bd (n := 31) (m := 31) (by decide)
  have e2 : ∀ z : Int, z.fdiv 2 = z / 2 := fun z => (fmd z 2 (by decide)).2
  have e8 : ∀ z : Int, z.fdiv 8 = z / 8 := fun z => (fmd z 8 (by decide)).2
  have f2 : ∀ z : Int, z.fmod 2 = z % 2 := fun z => (fmd z 2 (by decide)).1
  have d2 : divOk 2 = true := by decide +kernel
  have d8 : divOk 8 = true := by decide +kernel
  rw [run_f h]
  unfold sg2
  by_cases hz : ((u - 1) / 2 * ((v - 1) / 2) + (m : Int) * ((v * v - 1) / 8) + (n : Int) * ((u * u - 1) / 8)) % 2 = 0
  · simp [k_sign_by_two, d2, d8, e2, e8, f2, m1, m2, m3, m4, m5, hz]
  · simp [k_sign_by_two, d2, d8, e2, e8, f2, m1, m2, m3, m4, m5, hz]
abbrev PSgp (i : Nat) (cf : Cf) : Prop := ∀ (a b p : Int) (R : Sto), a ≠ 0 → b ≠ 0 → a.natAbs < 2 ^ 31 → b.natAbs < 2 ^ 31 → 2 ≤ p → p.natAbs < 2 ^ 31 → cf i [.int a, .int b, .int p] R = .ok (.val (.int (sgp a b p))) R
theorem ok_sgp (hp : At Fs lf 1 (PPart I.parted_by)) (hr : At Fs lf 2 (PRsg I.residue_sign_of)) (h2 : At Fs lf 1 (PSg2 I.sign_by_two)) (h : HasF Fs I.sign_by_prime (k_sign_by_prime I)) : At Fs lf 3 (PSgp I.sign_by_prime) := .mk fun d hd a b p R a0 b0 ha hb p2 pb => by
  obtain ⟨_, _, ua, ma⟩ := prt_ok p2 31 a a0 ha
  obtain ⟨_, _, ub, mb⟩ := prt_ok p2 31 b b0 hb
  have e1 := fun R => hp d (by omega) a p R a0 ha p2 pb
  have e2 := fun R => hp d (by omega) b p R b0 hb p2 pb
  unfold sgp sgO
  generalize prt p 31 a = A at *
  generalize prt p 31 b = B at *
  obtain ⟨m, u⟩ := A
  obtain ⟨n, v⟩ := B
  dsimp only at *
  have r1 := fun R => hr d hd (-1) p R p2 pb
  have r2 := fun R => hr d hd u p R p2 pb
  have r3 := fun R => hr d hd v p R p2 pb
  have s := fun R => h2 d (by omega) u v m n R (by omega) (by omega) ma mb
  have f2 : ∀ z : Int, z.fmod 2 = z % 2 := fun z => (fmd z 2 (by decide)).1
  have ab : ∀ z, (rsg z p).natAbs < 2 ^ 1 := fun z => by have := rsg_abs z p; omega
  have one : ∀ c : Prop, [Decidable c] → ∀ z, (if c then rsg z p else 1).natAbs < 2 ^ 1 := fun c _ z => by split; exact ab z; decide
  have mo1 : mulOk (m : Int) (n : Int) = true := mulOk_of (n := 8) (m := 8) (by omega) (by omega) (by decide)
  have mo2 : ∀ x y : Int, x.natAbs < 2 ^ 1 → y.natAbs < 2 ^ 1 → mulOk x y = true := fun x y hx hy => mulOk_of hx hy (by decide)
  have mo3 : ∀ x y z : Int, x.natAbs < 2 ^ 1 → y.natAbs < 2 ^ 1 → z.natAbs < 2 ^ 1 → mulOk (x * y) z = true := fun x y z hx hy hz => mulOk_of (n := 2) (m := 1) (by rw [Int.natAbs_mul]; exact Nat.lt_of_lt_of_le (Nat.mul_lt_mul'' hx hy) (by decide)) hz (by decide)
  rw [run_f h]
  by_cases hp2 : p = 2
  · subst hp2
    simp [k_sign_by_prime, e1, e2, s]
  · have o1 : (1 : Int).natAbs < 2 ^ 1 := by decide
    by_cases c1 : (m : Int) * (n : Int) % 2 = 1 <;> by_cases c2 : (n : Int) % 2 = 1 <;> by_cases c3 : (m : Int) % 2 = 1 <;>
      simp [k_sign_by_prime, e1, e2, hp2, mo1, f2, c1, c2, c3, r1, r2, r3, mo2, mo3, ab, o1]
abbrev PSgn (i : Nat) (cf : Cf) : Prop := ∀ (a b p : Int) (R : Sto), a ≠ 0 → b ≠ 0 → a.natAbs < 2 ^ 31 → b.natAbs < 2 ^ 31 → p = 0 ∨ 2 ≤ p → p.natAbs < 2 ^ 31 → cf i [.int a, .int b, .int p] R = .ok (.val (.int (sgN a b p))) R
theorem ok_sgn (hs : At Fs lf 3 (PSgp I.sign_by_prime)) (h : HasF Fs I.sign_of (k_sign_of I)) : At Fs lf 4 (PSgn I.sign_of) := .mk fun d hd a b p R a0 b0 ha hb p2 pb => by
  rw [run_f h]
  unfold sgN
  by_cases hp0 : p = 0
  · by_cases h1 : a < 0 <;> by_cases h2 : b < 0 <;> simp [k_sign_of, hp0, h1, h2]
  · have s := fun R => hs d hd a b p R a0 b0 ha hb (by omega) pb
    simp [k_sign_of, hp0, s]
end
section
variable {Fs : Tab} {lf : Nat} {I : PIx}
/-! ### places -/
def addN : List Nat → List Nat → List Nat
  | ks, [] => ks
  | ks, k :: r => addN (if k ∈ ks then ks else ks ++ [k]) r
theorem mem_addN : ∀ (r ks : List Nat) (x : Nat), x ∈ addN ks r ↔ x ∈ ks ∨ x ∈ r
  | [], ks, x => by simp [addN]
  | k :: r, ks, x => by
    unfold addN
    rw [mem_addN r]
    split
    · rename_i h
      simp only [List.mem_cons]
      constructor
      · rintro (h1 | h1)
        · exact .inl h1
        · exact .inr (.inr h1)
      · rintro (h1 | rfl | h1)
        · exact .inl h1
        · exact .inl h
        · exact .inr h1
    · simp only [List.mem_append, List.mem_cons, List.not_mem_nil, or_false]
      constructor
      · rintro ((h1 | h1) | h1)
        · exact .inl h1
        · exact .inr (.inl h1)
        · exact .inr (.inr h1)
      · rintro (h1 | h1 | h1)
        · exact .inl (.inl h1)
        · exact .inl (.inr h1)
        · exact .inr h1
theorem len_addN : ∀ (r ks : List Nat), (addN ks r).length ≤ ks.length + r.length
  | [], ks => by simp [addN]
  | k :: r, ks => by
    unfold addN
    have := len_addN r (if k ∈ ks then ks else ks ++ [k])
    rw [List.length_cons]
    split at this
    · rw [if_pos ‹_›]; omega
    · rw [if_neg ‹_›]
      rw [List.length_append, List.length_singleton] at this
      omega
theorem putD_keys {ks : List Nat} (ds : List D) (k : Nat) (d : D) : (putD (ks.map fun (k : Nat) => (Sum.inl (k : Int) : Key)) ds (Sum.inl (k : Int)) d).1 = (if k ∈ ks then ks else ks ++ [k]).map fun (k : Nat) => (Sum.inl (k : Int) : Key) := by
  unfold putD
  by_cases h : k ∈ ks
  · rw [if_pos (mem_key.mpr h), if_pos h]
  · rw [if_neg (fun z => h (mem_key.mp z)), if_neg h]
    simp
theorem mrg_keys : ∀ (ls es : List Nat) (ks : List Nat) (ds : List D), ls.length = es.length → (mrgD (ks.map fun (k : Nat) => (Sum.inl (k : Int) : Key)) ds (ls.map fun (k : Nat) => (Sum.inl (k : Int) : Key)) (es.map fun (v : Nat) => D.int (v : Int))).1 = (addN ks ls).map fun (k : Nat) => (Sum.inl (k : Int) : Key)
  | [], _, ks, ds, _ => rfl
  | k :: r, e :: s, ks, ds, h => by
    show (mrgD (putD _ ds (Sum.inl (k : Int)) _).1 _ _ _).1 = _
    rw [putD_keys]
    exact mrg_keys r s _ _ (by simpa using h)
  | _ :: _, [], _, _, h => by simp at h
theorem kints_map : ∀ ks : List Nat, kints (ks.map fun (k : Nat) => (Sum.inl (k : Int) : Key)) = some (ks.map fun (k : Nat) => (k : Int))
  | [] => rfl
  | k :: ks => by
    show (kints _).map _ = _
    rw [kints_map ks]
    rfl
theorem mem_insI (x : Int) : ∀ (l : List Int) (y : Int), y ∈ insI x l ↔ y = x ∨ y ∈ l := fun l y => by
  rw [(insI_perm x l).mem_iff]
  simp
theorem mem_sortI : ∀ (l : List Int) (y : Int), y ∈ sortI l ↔ y ∈ l
  | [], y => by simp [sortI]
  | x :: l, y => by
    show y ∈ insI x (sortI l) ↔ _
    rw [mem_insI, mem_sortI l, List.mem_cons]
theorem len_insI (x : Int) (l : List Int) : (insI x l).length = l.length + 1 := (insI_perm x l).length_eq
theorem len_sortI : ∀ l : List Int, (sortI l).length = l.length
  | [] => rfl
  | x :: l => by
    show (insI x (sortI l)).length = _
    rw [len_insI, len_sortI l, List.length_cons]
theorem compV_fil {f : D → Sto → Out (Option D)} {R : Sto} {c : Int → Bool} : ∀ (ns : List Int) (acc : List D), (∀ n ∈ ns, f (.int n) R = .ok (if c n then some (.int n) else none) R) → acc.length + ns.length < 100000 → compV f (ns.map D.int) R acc = .ok (.new (.lst (acc.reverse ++ (ns.filter c).map D.int))) R
  | [], acc, _, _ => by simp [compV]
  | n :: ns, acc, h, hl => by
    have h1 := h n List.mem_cons_self
    rw [List.length_cons] at hl
    rw [List.map_cons]
    by_cases hc : c n
    · rw [if_pos hc] at h1
      rw [compV_some h1 (by omega), compV_fil ns (.int n :: acc) (fun m hm => h m (List.mem_cons_of_mem _ hm)) (by rw [List.length_cons]; omega)]
      simp [hc]
    · rw [if_neg hc] at h1
      rw [compV_none h1, compV_fil ns acc (fun m hm => h m (List.mem_cons_of_mem _ hm)) (by omega)]
      simp [hc]
/-- a place at which the sign may be -1 -/
def Near (a b p : Int) : Prop := p = 0 ∨ p = 2 ∨ ∃ q : Nat, p = q ∧ IsP q ∧ (q ∣ a.natAbs ∨ q ∣ b.natAbs)
structure PlOk (a b : Int) (ps : List Int) : Prop where
  mem : ∀ p, p ∈ ps ↔ Near a b p ∧ sgN a b p = -1
  len : ps.length < 64
theorem Near.big {a b p : Int} (a0 : a ≠ 0) (b0 : b ≠ 0) (ha : a.natAbs < 2 ^ 31) (hb : b.natAbs < 2 ^ 31) (h : Near a b p) : (p = 0 ∨ 2 ≤ p) ∧ p.natAbs < 2 ^ 31 := by
  rcases h with rfl | rfl | ⟨q, rfl, hq, h⟩
  · exact ⟨.inl rfl, by decide⟩
  · exact ⟨.inr (by decide), by decide⟩
  · refine ⟨.inr (by have := hq.1; omega), ?_⟩
    rcases h with h | h
    · have := Nat.le_of_dvd (by omega) h
      omega
    · have := Nat.le_of_dvd (by omega) h
      omega
theorem facs_len {n : Nat} {ks vs : List Nat} (f : Facs n ks vs) (hn : n < 2 ^ 31) : ks.length < 31 := by
  rcases Nat.lt_or_ge ks.length 31 with h | h
  · exact h
  · have h1 := f.cnt
    have h2 := Nat.pow_le_pow_right (show 0 < 2 by decide) h
    omega
abbrev PPlaces (i : Nat) (cf : Cf) : Prop := ∀ (a b : Int), a ≠ 0 → b ≠ 0 → a.natAbs < 2 ^ 31 → b.natAbs < 2 ^ 31 → ∃ ps, PlOk a b ps ∧ ∀ R, cf i [.int a, .int b] R = .ok (.val (.tup (ps.map D.int))) R
theorem ok_places (hf : At Fs lf 1 (PFacs I.factors_of)) (hs : At Fs lf 4 (PSgn I.sign_of)) (h : HasF Fs I.places_of (k_places_of I)) : At Fs lf 5 (PPlaces I.places_of) := .mk fun d hd a b a0 b0 ha hb => by
  obtain ⟨ka, va, fa, ea⟩ := hf d (by omega) a a0 ha
  obtain ⟨kb, vb, fb, eb⟩ := hf d (by omega) b b0 hb
  have la := facs_len fa ha
  have lb := facs_len fb hb
  have m1 : (mrgD [] [] [(Sum.inl 0 : Key), Sum.inl 2] [D.bl true, D.bl true]).1 = ([0, 2] : List Nat).map fun (k : Nat) => (Sum.inl (k : Int) : Key) := by
    simp [mrgD, putD]
  have m2 : ∀ ds, (mrgD (([0, 2] : List Nat).map fun (k : Nat) => (Sum.inl (k : Int) : Key)) ds (ka.map fun (k : Nat) => (Sum.inl (k : Int) : Key)) (va.map fun (v : Nat) => D.int (v : Int))).1 = (addN [0, 2] ka).map fun (k : Nat) => (Sum.inl (k : Int) : Key) := fun ds => mrg_keys ka va _ ds fa.len
  have m3 : ∀ ds, (mrgD ((addN [0, 2] ka).map fun (k : Nat) => (Sum.inl (k : Int) : Key)) ds (kb.map fun (k : Nat) => (Sum.inl (k : Int) : Key)) (vb.map fun (v : Nat) => D.int (v : Int))).1 = (addN (addN [0, 2] ka) kb).map fun (k : Nat) => (Sum.inl (k : Int) : Key) := fun ds => mrg_keys kb vb _ ds fb.len
  have ln : (addN (addN [0, 2] ka) kb).length < 64 := by
    have h1 := len_addN kb (addN [0, 2] ka)
    have h2 := len_addN ka [0, 2]
    simp only [List.length_cons, List.length_nil] at h2
    omega
  have near : ∀ p : Int, p ∈ sortI ((addN (addN [0, 2] ka) kb).map fun (k : Nat) => (k : Int)) ↔ Near a b p := fun p => by
    rw [mem_sortI, List.mem_map]
    constructor
    · rintro ⟨k, hk, rfl⟩
      rw [mem_addN, mem_addN] at hk
      rcases hk with (hk | hk) | hk
      · simp only [List.mem_cons, List.not_mem_nil, or_false] at hk
        rcases hk with rfl | rfl
        · exact .inl rfl
        · exact .inr (.inl rfl)
      · exact .inr (.inr ⟨k, rfl, (fa.pr k hk).1, .inl (fa.pr k hk).2⟩)
      · exact .inr (.inr ⟨k, rfl, (fb.pr k hk).1, .inr (fb.pr k hk).2⟩)
    · rintro (rfl | rfl | ⟨q, rfl, hq, hd⟩)
      · exact ⟨0, by rw [mem_addN, mem_addN]; simp, rfl⟩
      · exact ⟨2, by rw [mem_addN, mem_addN]; simp, rfl⟩
      · refine ⟨q, ?_, rfl⟩
        rw [mem_addN, mem_addN]
        rcases hd with hd | hd
        · exact .inl (.inr (fa.all q hq hd))
        · exact .inr (fb.all q hq hd)
  refine ⟨(sortI ((addN (addN [0, 2] ka) kb).map fun (k : Nat) => (k : Int))).filter (fun p => decide (sgN a b p = -1)), ⟨fun p => ?_, ?_⟩, fun R => ?_⟩
  · rw [List.mem_filter, near, decide_eq_true_iff]
  · refine Nat.lt_of_le_of_lt (List.length_filter_le _ _) ?_
    rw [len_sortI, List.length_map]
    exact ln
  · rw [run_f h]
    have srt : bltop .sorted1 [.dct ((addN (addN [0, 2] ka) kb).map fun (k : Nat) => (Sum.inl (k : Int) : Key)) (mrgD (mrgD (mrgD [] [] [(Sum.inl 0 : Key), Sum.inl 2] [D.bl true, D.bl true]).1 (mrgD [] [] [(Sum.inl 0 : Key), Sum.inl 2] [D.bl true, D.bl true]).2 (ka.map fun (k : Nat) => (Sum.inl (k : Int) : Key)) (va.map fun (v : Nat) => D.int (v : Int))).1
        (mrgD (mrgD [] [] [(Sum.inl 0 : Key), Sum.inl 2] [D.bl true, D.bl true]).1 (mrgD [] [] [(Sum.inl 0 : Key), Sum.inl 2] [D.bl true, D.bl true]).2 (ka.map fun (k : Nat) => (Sum.inl (k : Int) : Key)) (va.map fun (v : Nat) => D.int (v : Int))).2 (kb.map fun (k : Nat) => (Sum.inl (k : Int) : Key)) (vb.map fun (v : Nat) => D.int (v : Int))).2] ([] :: R) =
        .ok (.new (.lst ((sortI ((addN (addN [0, 2] ka) kb).map fun (k : Nat) => (k : Int))).map D.int))) ([] :: R) := by
      show (match kints _ with | some ns => if ns.length < 64 then (Out.ok (Rv.new (.lst ((sortI ns).map D.int))) ([] :: R) : Out Rv) else .bad | none => .bad) = _
      rw [kints_map]
      dsimp only
      rw [if_pos (by rw [List.length_map]; exact ln)]
    have s1 : ex (run Fs lf d) lf (.asg 2 (.blt .sorted1 (.cons (.dspr (.glob I.gREAL (.int 0)) (.lit (.bl true)) (.lit (.int 2)) (.lit (.bl true)) (.call I.factors_of (.cons (.var 0) .nil)) (.call I.factors_of (.cons (.var 1) .nil))) .nil))) [some (.int a), some (.int b), none, none] ([] :: R) =
        .nx [some (.int a), some (.int b), some (.lst ((sortI ((addN (addN [0, 2] ka) kb).map fun (k : Nat) => (k : Int))).map D.int)), none] ([] :: R) := by
      have lk : ¬ 99000 < ka.length + kb.length := by omega
      have lk2 : ka.length + kb.length ≤ 99000 := by omega
      simp only [ex_asg, ev_blt, ev_cons, ev_dspr, ev_glob, ev_lit, ev_call, ev_var, ev_nil, bindV_val, bindA_many, List.getElem?_cons_zero, List.getElem?_cons_succ, ea, eb, bindV_new, keyD]
      simp only [dKV, fzO, List.length_map, lk2, if_true, bindA_many, bindV_new, show flatV (.bl true) = true from rfl, Bool.and_true, Bool.and_self]
      rw [m1, m2, m3] at *
      simp only [bltX] 
      rw [srt]
      rfl
    have cm : ∀ n ∈ sortI ((addN (addN [0, 2] ka) kb).map fun (k : Nat) => (k : Int)), compF (ev (run Fs lf d) lf (.cmp .Eq (.call I.sign_of (.cons (.var 0) (.cons (.var 1) (.cons (.var 3) .nil)))) (.neg (.lit (.int 1))))) (ev (run Fs lf d) lf (.var 3)) [3]
        [some (.int a), some (.int b), some (.lst ((sortI ((addN (addN [0, 2] ka) kb).map fun (k : Nat) => (k : Int))).map D.int)), none] (.int n) ([] :: R) = .ok (if decide (sgN a b n = -1) then some (.int n) else none) ([] :: R) := fun n hn => by
      have bg := Near.big a0 b0 ha hb ((near n).mp hn)
      have e := fun R => hs d hd a b n R a0 b0 ha hb bg.1 bg.2
      by_cases hz : sgN a b n = -1 <;> simp [compF, e, hz]
    have cv := compV_fil (f := compF (ev (run Fs lf d) lf (.cmp .Eq (.call I.sign_of (.cons (.var 0) (.cons (.var 1) (.cons (.var 3) .nil)))) (.neg (.lit (.int 1))))) (ev (run Fs lf d) lf (.var 3)) [3]
        [some (.int a), some (.int b), some (.lst ((sortI ((addN (addN [0, 2] ka) kb).map fun (k : Nat) => (k : Int))).map D.int)), none]) (c := fun p => decide (sgN a b p = -1)) _ [] cm (by rw [len_sortI, List.length_map, List.length_nil]; omega)
    have st : ex (run Fs lf d) lf (k_places_of I).code [some (.int a), some (.int b), none, none] ([] :: R) = .rt (.val (.tup (((sortI ((addN (addN [0, 2] ka) kb).map fun (k : Nat) => (k : Int))).filter (fun p => decide (sgN a b p = -1))).map D.int))) ([] :: R) := by
      show ex _ _ (.seq (.asg 2 _) _) _ _ = _
      rw [ex_seq, s1]
      dsimp only
      simp [cv]
    refine (if_pos rfl).trans ?_
    show finR (ex (run Fs lf d) lf (k_places_of I).code [some (.int a), some (.int b), none, none] ([] :: R)) = _
    rw [st]
    rfl
/-! ### algebras -/
def discL : List Int → Int → Int
  | [], d => d
  | p :: ps, d => discL ps (d * (if p > 1 then p else 1))
theorem disc_loop (cf : Cf) (lf : Nat) (c : I.Cl) (xs : List (Option D)) (a b : Int) (P : D) (R : Sto) : ∀ (ps : List Int) (d : Int) (y : Option D) (m : Nat), BI d (31 * m) → m + ps.length ≤ 1000 → (∀ p ∈ ps, p.natAbs < 2 ^ 31) →
    ∃ y', forV (setTg [3]) (ex cf lf (.seq (.faug (.var 0) 22300893362960104240665737060543834854878836 (I.tb 22300893362960104240665737060543834854878836) .Mult (.blt .max2 (.cons (.lit (.int 1)) (.cons (.var 3) .nil)))) .nop)) (ps.map D.int) [some (.ref 1 0), some (.int a), some (.int b), y] ([] :: [.ins 4722384897934469788257 [72058072783019873, 72058072783019874, 79228688900059679973351581043, 22300893362960104240665737060543834854878836] [.int a, .int b, P, .int d]] :: R) =
      .nx [some (.ref 1 0), some (.int a), some (.int b), y'] ([] :: [.ins 4722384897934469788257 [72058072783019873, 72058072783019874, 79228688900059679973351581043, 22300893362960104240665737060543834854878836] [.int a, .int b, P, .int (discL ps d)]] :: R)
  | [], d, y, m, _, _, _ => ⟨y, rfl⟩
  | p :: ps, d, y, m, hd, hl, hp => by
    rw [List.length_cons] at hl
    have p31 := hp p List.mem_cons_self
    haveI ip : BI (if p > 1 then p else 1) 31 := ⟨by split; exact p31; decide⟩
    have mo : mulOk d (if p > 1 then p else 1) = true := mulOk_bd (n := 31 * m) (m := 31) (by omega)
    haveI i2 : BI (d * (if p > 1 then p else 1)) (31 * (m + 1)) := BI.up (inferInstance : BI (d * (if p > 1 then p else 1)) (31 * m + 31)) (by omega)
    obtain ⟨y', e⟩ := disc_loop cf lf c xs a b P R ps (d * (if p > 1 then p else 1)) (some (.int p)) (m + 1) i2 (by omega) (fun q hq => hp q (List.mem_cons_of_mem _ hq))
    refine ⟨y', ?_⟩
    have fl : ∀ R, fldD ([] :: [.ins 4722384897934469788257 [72058072783019873, 72058072783019874, 79228688900059679973351581043, 22300893362960104240665737060543834854878836] [.int a, .int b, P, .int d]] :: R) (.ref 1 0) 22300893362960104240665737060543834854878836 = some (.int d) := fun R => rfl
    rw [List.map_cons, forV_nx (σ1 := [some (.ref 1 0), some (.int a), some (.int b), some (.int p)]) (σ2 := [some (.ref 1 0), some (.int a), some (.int b), some (.int p)]) (R2 := [] :: [.ins 4722384897934469788257 [72058072783019873, 72058072783019874, 79228688900059679973351581043, 22300893362960104240665737060543834854878836] [.int a, .int b, P, .int (d * (if p > 1 then p else 1))]] :: R) (by simp) ?_]
    · exact e
    · simp only [gt_iff_lt] at mo
      simp [fl, mo, fst_own, c.dA, putD, repD]
abbrev PAlg (cf : Cf) : Prop := ∀ (a b : Int), a ≠ 0 → b ≠ 0 → -1000000000 ≤ a → a ≤ 1000000000 → -1000000000 ≤ b → b ≤ 1000000000 → ∃ A : Al, A.a = a ∧ A.b = b ∧ PlOk a b A.ps ∧ ∀ R, newV cf 4722384897934469788257 [.int a, .int b] R = .ok (.new (algO A)) R
theorem ok_alg (hn' : At Fs lf 3 (PReqNum I.require_number)) (hp : At Fs lf 5 (PPlaces I.places_of)) (c : I.Cl) (h : HasM Fs 4722384897934469788257 mInit (k_Algebra_init I)) : At Fs lf 6 PAlg := .mk fun n hn a b a0 b0 a1 a2 b1 b2 => by
  obtain ⟨ps, pk, ep⟩ := hp n hn a b a0 b0 (by omega) (by omega)
  refine ⟨⟨a, b, ps, discL ps 1⟩, rfl, rfl, pk, fun R => ?_⟩
  refine newV_eq (ns := [72058072783019873, 72058072783019874, 79228688900059679973351581043, 22300893362960104240665737060543834854878836]) (es := [.int a, .int b, .tup (ps.map D.int), .int (discL ps 1)]) ?_
  rw [run_m h (cls_own _ _ _ _)]
  have e1 := fun R => hn' n (by omega) a R a0 a1 a2
  have e2 := fun R => hn' n (by omega) b R b0 b1 b2
  have big : ∀ p ∈ ps, p.natAbs < 2 ^ 31 := fun p hp => (Near.big a0 b0 (by omega) (by omega) ((pk.mem p).mp hp).1).2
  obtain ⟨y', w⟩ := disc_loop (run Fs lf n) lf c [] a b (.tup (ps.map D.int)) R ps 1 none 1 ⟨by decide⟩ (by have := pk.len; omega) big
  have fl : ∀ d R, fldD ([] :: [.ins 4722384897934469788257 [72058072783019873, 72058072783019874, 79228688900059679973351581043, 22300893362960104240665737060543834854878836] [.int a, .int b, .tup (ps.map D.int), .int d]] :: R) (.ref 1 0) 79228688900059679973351581043 = some (.tup (ps.map D.int)) := fun d R => rfl
  simp [k_Algebra_init, e1, e2, ep, fst_own, c.xA, c.yA, c.pA, c.dA, putD, fl, w]
abbrev PTabs (cf : Cf) : Prop := ∀ (A : Al) (R : Sto), cf (2 * 309486955042964206988846451 + 1) [algD A] R = .ok (.val (.bl (decide (A.ps = [])))) R
theorem ok_tabs (h : HasP Fs 4722384897934469788257 309486955042964206988846451 (k_Algebra_is_tables I)) : At Fs lf 1 PTabs := .mk fun n hn A R => by
  have hr2 : EV.run Fs lf (n + 1) (2 * 309486955042964206988846451 + 1) [algD A] R = _ := run_p h (cls_alg _ _)
  rw [hr2]
  have e : ∀ R, cmpop .Eq (.tup (A.ps.map D.int)) (.tup []) R = some (decide (A.ps = [])) := fun R => eqOp_tupI A.ps [] R
  simp [k_Algebra_is_tables, e]
end
end EV

/-! EvA3: promises of bases and powers. -/
namespace EV
open PySem PySem.Spec PyProof.Rows L2 HQ NT
theorem mulH_assoc (a b : Int) (p q r : H) : mulH a b (mulH a b p q) r = mulH a b p (mulH a b q r) := by
  simp only [mulH]
  refine H.ext' ?_ ?_ ?_ ?_ <;> grind
theorem mulH_one (a b : Int) (p : H) : mulH a b p oneH = p := by
  simp only [mulH, oneH]
  refine H.ext' ?_ ?_ ?_ ?_ <;> grind
theorem one_mulH (a b : Int) (p : H) : mulH a b oneH p = p := by
  simp only [mulH, oneH]
  refine H.ext' ?_ ?_ ?_ ?_ <;> grind
def powH (a b : Int) (v : H) : Nat → H
  | 0 => oneH
  | n + 1 => mulH a b (powH a b v n) v
theorem powH_add (a b : Int) (v : H) (i : Nat) : ∀ j, powH a b v (i + j) = mulH a b (powH a b v i) (powH a b v j)
  | 0 => by rw [powH, mulH_one]; rfl
  | j + 1 => by
    show mulH a b (powH a b v (i + j)) v = mulH a b (powH a b v i) (mulH a b (powH a b v j) v)
    rw [powH_add a b v i j, mulH_assoc]
theorem powH_mul (a b : Int) (v : H) (i : Nat) : powH a b v (i * 2) = mulH a b (powH a b v i) (powH a b v i) := by rw [Nat.mul_comm, Nat.two_mul, powH_add]
theorem powH_one (a b : Int) (v : H) : powH a b v 1 = v := one_mulH a b v
instance : BH oneH 1 := ⟨by
  have : rep oneH = ⟨1, 1, 0, 0, 0⟩ := by decide +kernel
  rw [this]
  exact ⟨by decide, by decide, by decide, by decide, by decide⟩⟩
theorem powH_bh {a b : Int} {v : H} {n : Nat} [ha : BI a 30] [hb : BI b 30] [hv : BH v n] : ∀ k, BH (powH a b v k) ((n + 63) * k + 1)
  | 0 => (inferInstance : BH oneH 1)
  | k + 1 => by
    haveI := powH_bh (a := a) (b := b) (v := v) (n := n) k
    exact BH.up (inferInstance : BH (mulH a b (powH a b v k) v) _) (by rw [Nat.mul_add]; omega)
def iH : H := ⟨0, 1, 0, 0⟩
def jH : H := ⟨0, 0, 1, 0⟩
def kH : H := ⟨0, 0, 0, 1⟩
section
variable {Fs : Tab} {lf : Nat} {I : PIx}
abbrev PBasis (cf : Cf) : Prop := ∀ (A : Al) (R : Sto), cf (2 * 72058016579676531) [algD A] R = .ok (.val (.tup [fourD A oneH, fourD A iH, fourD A jH, fourD A kH])) R
theorem ok_basis (hm : At Fs lf 6 (PMade I.four_made)) (h : HasM Fs 4722384897934469788257 72058016579676531 (k_Algebra_basis I)) : At Fs lf 7 PBasis := .mk fun n hn A R => by
  have hr2 : EV.run Fs lf (n + 1) (2 * 72058016579676531) [algD A] R = _ := run_m h (cls_alg _ _)
  rw [hr2]
  have z : ∀ x : Int, x = 0 ∨ x = 1 → BI x 9 := fun x hx => ⟨by rcases hx with rfl | rfl <;> decide⟩
  have e : ∀ (e0 e1 e2 e3 : Int) (R : Sto), (e0 = 0 ∨ e0 = 1) → (e1 = 0 ∨ e1 = 1) → (e2 = 0 ∨ e2 = 1) → (e3 = 0 ∨ e3 = 1) → run Fs lf n I.four_made [algD A, .tup [.int e0, .int e1, .int e2, .int e3], .int 1] R = .ok (.new (fourO A (ofE 1 e0 e1 e2 e3))) R := fun e0 e1 e2 e3 R h0 h1 h2 h3 => hm n hn A 1 e0 e1 e2 e3 R 9 (by decide) (by decide) ⟨by decide⟩ (z _ h0) (z _ h1) (z _ h2) (z _ h3)
  have r4 : (List.map (fun (k : Nat) => D.int (k : Int)) (List.range 4)) = [.int 0, .int 1, .int 2, .int 3] := rfl
  have r0 : rngOk 0 4 = true := by decide
  have o1 : ofE 1 1 0 0 0 = oneH := by decide +kernel
  have o2 : ofE 1 0 1 0 0 = iH := by decide +kernel
  have o3 : ofE 1 0 0 1 0 = jH := by decide +kernel
  have o4 : ofE 1 0 0 0 1 = kH := by decide +kernel
  simp [k_Algebra_basis, compV, compF, r4, r0, e, o1, o2, o3, o4]
/-! ### powers -/
abbrev cFp : C := .cmp .Gt (.var 4) (.lit (.int 0))
abbrev sFp : S := .seq (.ifS (.cmp .Eq (.bin .Mod (.var 4) (.lit (.int 2))) (.lit (.int 1))) (.seq (.asg 3 (.bin .Mult (.var 3) (.var 2))) .nop) .nop) (.seq (.aug 4 .FloorDiv (.lit (.int 2))) (.seq (.ifS (.cmp .Gt (.var 4) (.lit (.int 0))) (.seq (.asg 2 (.bin .Mult (.var 2) (.var 2))) .nop) .nop) .nop))
theorem fpow_loop {cf : Cf} (hc : PMulF cf) (lf : Nat) (A : Al) [OkA A] (v : H) {n : Nat} [BH v n] (x y : Option D) (R : Sto) : ∀ (k fuel l i j : Nat), l < 2 ^ k → k < fuel → (n + 63) * (j + i * l) + 1 ≤ 2000 → 1 ≤ i →
    ∃ w, whR (ev cf lf cFp) (ex cf lf sFp) fuel [x, y, some (fourD A (powH A.a A.b v i)), some (fourD A (powH A.a A.b v j)), some (.int (l : Int))] R = .nx [x, y, w, some (fourD A (powH A.a A.b v (j + i * l))), some (.int 0)] R := by
  have d2 : divOk 2 = true := by decide +kernel
  intro k
  induction k with
  | zero =>
    intro fuel l i j h1 h2 h3 h4
    obtain ⟨q, rfl⟩ : ∃ q, fuel = q + 1 := ⟨fuel - 1, by omega⟩
    have : l = 0 := by simpa using h1
    subst this
    refine ⟨some (fourD A (powH A.a A.b v i)), ?_⟩
    rw [whR_f (R1 := R) (by simp)]
    simp
  | succ k ih =>
    intro fuel l i j h1 h2 h3 h4
    obtain ⟨q, rfl⟩ : ∃ q, fuel = q + 1 := ⟨fuel - 1, by omega⟩
    by_cases hl : l = 0
    · subst hl
      refine ⟨some (fourD A (powH A.a A.b v i)), ?_⟩
      rw [whR_f (R1 := R) (by simp)]
      simp
    · have lp : (0 : Int) < (l : Int) := by omega
      have e1 := (fmd (l : Int) 2 (by decide)).1
      have e2 := (fmd (l : Int) 2 (by decide)).2
      have l2 : l / 2 < 2 ^ k := by rw [Nat.pow_succ] at h1; omega
      haveI bi := powH_bh (a := A.a) (b := A.b) (v := v) (n := n) i
      haveI bj := powH_bh (a := A.a) (b := A.b) (v := v) (n := n) j
      have il : i ≤ i * l := Nat.le_mul_of_pos_right _ (by omega)
      have hi : (n + 63) * i + 1 ≤ 2000 := Nat.le_trans (Nat.add_le_add_right (Nat.mul_le_mul_left _ (by omega)) 1) h3
      have hj : (n + 63) * j + 1 ≤ 2000 := Nat.le_trans (Nat.add_le_add_right (Nat.mul_le_mul_left _ (by omega)) 1) h3
      have m1 := fun R => hc A (powH A.a A.b v j) (powH A.a A.b v i) R _ _ hj hi
      have m2 := fun R => hc A (powH A.a A.b v i) (powH A.a A.b v i) R _ _ hi hi
      simp only [mulA, ← powH_add] at m1 m2
      have ii : i + i = i * 2 := by omega
      rw [ii] at m2
      by_cases ho : (l : Int) % 2 = 1
      · have hl2 : l = 2 * (l / 2) + 1 := by omega
        have key : j + i + i * 2 * (l / 2) = j + i * l := by
          conv => rhs; rw [hl2]
          grind
        by_cases hz : l / 2 = 0
        · refine ⟨some (fourD A (powH A.a A.b v i)), ?_⟩
          have nz : ¬ (0 : Int) < (l : Int) / 2 := by omega
          have z0 : (l : Int) / 2 = 0 := by omega
          have q1 : l = 1 := by omega
          rw [whR_t (R1 := R) (σ2 := [x, y, some (fourD A (powH A.a A.b v i)), some (fourD A (powH A.a A.b v (j + i))), some (.int 0)]) (R2 := R) (by simp; omega) (by simp [e1, e2, ho, d2, m1, z0])]
          obtain ⟨q2, rfl⟩ : ∃ z, q = z + 1 := ⟨q - 1, by omega⟩
          rw [whR_f (R1 := R) (by simp), q1, Nat.mul_one]
        · obtain ⟨w, e⟩ := ih q (l / 2) (i * 2) (j + i) l2 (by omega) (by rw [key]; exact h3) (by omega)
          have pz : (0 : Int) < (l : Int) / 2 := by omega
          refine ⟨w, ?_⟩
          rw [whR_t (R1 := R) (σ2 := [x, y, some (fourD A (powH A.a A.b v (i * 2))), some (fourD A (powH A.a A.b v (j + i))), some (.int ((l / 2 : Nat) : Int))]) (R2 := R) (by simp; omega) (by simp [e1, e2, ho, d2, m1, m2, pz]), e, key]
      · have hl2 : l = 2 * (l / 2) := by omega
        have key : j + i * 2 * (l / 2) = j + i * l := by
          conv => rhs; rw [hl2]
          grind
        have pz : (0 : Int) < (l : Int) / 2 := by omega
        obtain ⟨w, e⟩ := ih q (l / 2) (i * 2) j l2 (by omega) (by rw [key]; exact h3) (by omega)
        refine ⟨w, ?_⟩
        rw [whR_t (R1 := R) (σ2 := [x, y, some (fourD A (powH A.a A.b v (i * 2))), some (fourD A (powH A.a A.b v j)), some (.int ((l / 2 : Nat) : Int))]) (R2 := R) (by simp; omega) (by simp [e1, e2, ho, d2, m2, pz]), e, key]
abbrev PPower (cf : Cf) : Prop := (∀ (A : Al) (v : H) (k : Nat) (R : Sto) (n : Nat) [OkA A] [BH v n], k ≤ 1000 → (n + 63) * k + 1 ≤ 2000 → cf (2 * 72058076944360818) [fourD A v, .int (k : Int)] R = .ok (.val (fourD A (powH A.a A.b v k))) R) ∧
  (∀ (A : Al) (v : H) (k : Nat) (R : Sto) (n : Nat) [OkA A] [BH v n], nrmA A v ≠ 0 → 1 ≤ k → k ≤ 1000 → (n + n + 62 + 63) * k + 1 ≤ 2000 → n ≤ 2000 → cf (2 * 72058076944360818) [fourD A v, .int (-(k : Int))] R = .ok (.val (fourD A (powH A.a A.b (invH A.a A.b v) k))) R)
theorem ok_power (hlf : 10 ^ 100 ≤ lf) (hi : At Fs lf 2 (PInteger I.is_integer)) (hm : At Fs lf 6 (PMade I.four_made)) (hc : At Fs lf 7 PMulF) (hv : At Fs lf 7 PInvF) (h : HasM Fs 281476158420338 72058076944360818 (k_Four_power I)) : At Fs lf 8 PPower := .mk fun d hd => by
  have fl : 10 < lf := Nat.lt_of_lt_of_le (by decide) hlf
  have o1 : ofE 1 1 0 0 0 = oneH := by decide +kernel
  refine ⟨fun A v k R n oa bv h1 h2 => ?_, fun A v k R n oa bv h0 h1 h2 h3 h4 => ?_⟩
  · have hr2 : EV.run Fs lf (d + 1) (2 * 72058076944360818) [fourD A v, .int (k : Int)] R = _ := run_m h (cls_four _ _ _)
    rw [hr2]
    obtain ⟨w, e⟩ := fpow_loop (hc d (by omega)) lf A v (n := n) (some (fourD A v)) (some (.int (k : Int))) ([] :: R) 10 lf k 1 0 (by omega) fl (by simpa using h2) (by decide)
    rw [powH_one, Nat.zero_add, Nat.one_mul] at e
    have e0 := fun R => hm d (by omega) A 1 1 0 0 0 R 9 (by decide) (by decide) ⟨by decide⟩ ⟨by decide⟩ ⟨by decide⟩ ⟨by decide⟩ ⟨by decide⟩
    rw [o1] at e0
    have i1 := fun R => hi d (by omega) (k : Int) R (by unfold beyond; omega) (by unfold beyond; omega)
    have c1 : (-1000 : Int) ≤ (k : Int) ∧ (k : Int) ≤ 1000 ∧ (0 : Int) ≤ k := by omega
    have ab : (if (k : Int) < 0 then -(k : Int) else (k : Int)) = (k : Int) := if_neg (by omega)
    have pz : powH A.a A.b v 0 = oneH := rfl
    rw [pz] at e
    have nk : ¬ (k : Int) < 0 := by omega
    simp only [k_Four_power]
    simp [i1, c1.1, c1.2.1, c1.2.2, e0, nk, e]
  · have hr2 : EV.run Fs lf (d + 1) (2 * 72058076944360818) [fourD A v, .int (-(k : Int))] R = _ := run_m h (cls_four _ _ _)
    rw [hr2]
    haveI := BH.inv (a := A.a) (b := A.b) (v := v) (n := n) h0
    obtain ⟨w, e⟩ := fpow_loop (hc d (by omega)) lf A (invH A.a A.b v) (n := n + n + 62) (some (fourD A v)) (some (.int (-(k : Int)))) ([] :: R) 10 lf k 1 0 (by omega) fl (by simpa using h3) (by decide)
    rw [powH_one, Nat.zero_add, Nat.one_mul] at e
    have e0 := fun R => hm d (by omega) A 1 1 0 0 0 R 9 (by decide) (by decide) ⟨by decide⟩ ⟨by decide⟩ ⟨by decide⟩ ⟨by decide⟩ ⟨by decide⟩
    rw [o1] at e0
    have i1 := fun R => hi d (by omega) (-(k : Int)) R (by unfold beyond; omega) (by unfold beyond; omega)
    have v1 := fun R => hv d (by omega) A v R n h0 h4
    have c1 : (-1000 : Int) ≤ -(k : Int) ∧ -(k : Int) ≤ 1000 ∧ ¬ (0 : Int) ≤ -(k : Int) ∧ -(k : Int) < 0 := by omega
    have pz : powH A.a A.b (invH A.a A.b v) 0 = oneH := rfl
    rw [pz] at e
    simp only [PInvF, Nat.reduceMul] at v1
    have kk : ¬ k = 0 := by omega
    have kp : 0 < k := by omega
    simp only [k_Four_power]
    simp [i1, c1.1, c1.2.1, c1.2.2, e0, v1, kk, kp, e]
end
end EV

/-! EvB1: the laws' draws of the bowl kind, and their own lowest terms. -/
namespace EV
open PySem PySem.Spec PyProof.Rows L2 HQ NT
structure BIx where
  bowl : Nat := 0
  scoop : Nat := 0
  one_of : Nat := 0
  number : Nat := 0
  pair : Nat := 0
  common : Nat := 0
  lowest : Nat := 0
  drawn : Nat := 0
  times : Nat := 0
  plus : Nat := 0
  scaled : Nat := 0
  mate : Nat := 0
  norm : Nat := 0
def b_bowl (J : BIx) : Fn := ⟨2, 5, 0,
    (.seq (.asg 2 (.ife (.cmp .Lt (.var 1) (.blt .len (.cons (.var 0) .nil))) (.blt .int1 (.cons (.sub (.var 0) (.var 1)) .nil)) (.bin .Add (.bin .Mult (.lit (.int 97)) (.var 1)) (.lit (.int 71)))))
    (.seq (.asg 3 (.bin .Mod (.blt .abs (.cons (.var 2) .nil)) (.bin .Pow (.bin .Pow (.lit (.int 10)) (.lit (.int 53))) (.lit (.int 6)))))
    (.seq (.asg 4 (.bin .Add (.bin .Add (.bin .Add (.bin .Mult (.bin .Mod (.var 3) (.lit (.int 2305843009213693907))) (.lit (.int 73))) (.bin .Mult (.lit (.int 1429)) (.var 1))) (.bin .Mult (.lit (.int 37)) (.blt .int1 (.cons (.cmp .Lt (.var 2) (.lit (.int 0))) .nil)))) (.lit (.int 29))))
    (.seq (.ret (.lst (.cons (.blt .max2 (.cons (.lit (.int 0)) (.cons (.bin .Sub (.var 3) (.bin .Pow (.lit (.int 10)) (.lit (.int 15)))) .nil))) (.cons (.var 4) (.cons (.lit (.int 0)) .nil)))))
    .nop))))⟩
def b_scoop (J : BIx) : Fn := ⟨2, 5, 0,
    (.seq (.ifS (.cmp .Gt (.sub (.var 0) (.lit (.int 0))) (.lit (.int 0)))
      (.seq (.asg 2 (.bin .Mod (.blt .int1 (.cons (.sub (.var 0) (.lit (.int 0))) .nil)) (.var 1)))
      (.seq (.sets (.var 0) (.lit (.int 0)) (.bin .FloorDiv (.sub (.var 0) (.lit (.int 0))) (.var 1)))
      (.seq (.ret (.var 2))
      .nop)))
      .nop)
    (.seq (.sets (.var 0) (.lit (.int 2)) (.bin .Add (.sub (.var 0) (.lit (.int 2))) (.lit (.int 1))))
    (.seq (.asg 3 (.bin .Mod (.blt .int1 (.cons (.bin .Add (.sub (.var 0) (.lit (.int 1))) (.bin .Mult (.lit (.int 8219)) (.sub (.var 0) (.lit (.int 2))))) .nil)) (.lit (.int 2305843009213693951))))
    (.seq (.asg 4 (.bin .Mod (.blt .int1 (.cons (.bin .Add (.bin .Mult (.var 3) (.var 3)) (.bin .Mult (.lit (.int 227)) (.sub (.var 0) (.lit (.int 2))))) .nil)) (.lit (.int 2305843009213693921))))
    (.seq (.ret (.bin .Mod (.blt .int1 (.cons (.bin .FloorDiv (.blt .int1 (.cons (.bin .Add (.bin .Mult (.var 4) (.lit (.int 1000081))) (.var 3)) .nil)) (.lit (.int 65536))) .nil)) (.var 1)))
    .nop)))))⟩
def b_one_of (J : BIx) : Fn := ⟨2, 2, 0,
    (.seq (.ret (.sub (.var 1) (.call J.scoop (.cons (.var 0) (.cons (.blt .len (.cons (.var 1) .nil)) .nil)))))
    .nop)⟩
def b_number (J : BIx) : Fn := ⟨1, 3, 0,
    (.seq (.asg 1 (.call J.one_of (.cons (.var 0) (.cons (.lst (.cons (.lit (.int 3)) (.cons (.lit (.int 3)) (.cons (.lit (.int 12)) (.cons (.lit (.int 12)) (.cons (.lit (.int 60)) (.cons (.lit (.int 1000)) .nil))))))) .nil))))
    (.seq (.asg 2 (.bin .Add (.lit (.int 1)) (.call J.scoop (.cons (.var 0) (.cons (.var 1) .nil)))))
    (.seq (.ret (.ife (.cmp .Eq (.call J.scoop (.cons (.var 0) (.cons (.lit (.int 2)) .nil))) (.lit (.int 0))) (.var 2) (.bin .Sub (.lit (.int 0)) (.var 2))))
    .nop)))⟩
def b_pair (J : BIx) : Fn := ⟨1, 2, 0,
    (.seq (.asg 1 (.lst (.cons (.tup (.cons (.neg (.lit (.int 1))) (.cons (.neg (.lit (.int 1))) .nil))) (.cons (.tup (.cons (.neg (.lit (.int 1))) (.cons (.neg (.lit (.int 11))) .nil))) (.cons (.tup (.cons (.lit (.int 1)) (.cons (.lit (.int 1)) .nil))) (.cons (.tup (.cons (.lit (.int 2)) (.cons (.lit (.int 5)) .nil))) (.cons (.tup (.cons (.neg (.lit (.int 1))) (.cons (.lit (.int 3)) .nil))) (.cons (.tup (.cons (.neg (.lit (.int 2))) (.cons (.neg (.lit (.int 5))) .nil))) (.cons (.tup (.cons (.neg (.lit (.int 1))) (.cons (.neg (.lit (.int 7))) .nil))) (.cons (.tup (.cons (.lit (.int 5)) (.cons (.neg (.lit (.int 1))) .nil))) (.cons (.tup (.cons (.neg (.lit (.int 3))) (.cons (.neg (.lit (.int 10))) .nil))) (.cons (.tup (.cons (.lit (.int 6)) (.cons (.neg (.lit (.int 15))) .nil))) .nil))))))))))))
    (.seq (.ret (.ife (.cmp .Eq (.call J.scoop (.cons (.var 0) (.cons (.lit (.int 2)) .nil))) (.lit (.int 0))) (.call J.one_of (.cons (.var 0) (.cons (.var 1) .nil))) (.tup (.cons (.call J.number (.cons (.var 0) .nil)) (.cons (.call J.number (.cons (.var 0) .nil)) .nil)))))
    .nop))⟩
def b_common (J : BIx) : Fn := ⟨2, 3, 0,
    (.seq (.par2 0 1 none none (.blt .abs (.cons (.var 0) .nil)) (.blt .abs (.cons (.var 1) .nil)))
    (.seq (.forS [2] (.rng1 (.lit (.int 600)))
      (.seq (.ifS (.cmp .Eq (.var 1) (.lit (.int 0)))
        (.seq .brk
        .nop)
        .nop)
      (.seq (.par2 0 1 none none (.var 1) (.bin .Sub (.var 0) (.bin .Mult (.bin .FloorDiv (.var 0) (.var 1)) (.var 1))))
      .nop)))
    (.seq (.ret (.var 0))
    .nop)))⟩
def b_lowest (J : BIx) : Fn := ⟨2, 5, 0,
    (.seq (.asg 2 (.blt .abs (.cons (.var 1) .nil)))
    (.seq (.forS [3] (.var 0)
      (.seq (.asg 2 (.call J.common (.cons (.var 2) (.cons (.var 3) .nil))))
      .nop))
    (.seq (.asg 4 (.ife (.cmp .Gt (.var 1) (.lit (.int 0))) (.var 2) (.bin .Sub (.lit (.int 0)) (.var 2))))
    (.seq (.ret (.tup (.cons (.blt .tuple (.cons (.comp (.bin .FloorDiv (.var 3) (.var 4)) [3] (.var 0) (.lit (.bl true))) .nil)) (.cons (.bin .FloorDiv (.var 1) (.var 4)) .nil))))
    .nop))))⟩
def b_drawn (J : BIx) : Fn := ⟨1, 4, 0,
    (.seq (.asg 1 (.call J.one_of (.cons (.var 0) (.cons (.lst (.cons (.lit (.int 2)) (.cons (.lit (.int 4)) (.cons (.lit (.int 4)) (.cons (.lit (.int 20)) (.cons (.bin .Pow (.lit (.int 10)) (.lit (.int 12))) .nil)))))) .nil))))
    (.seq (.asg 2 (.comp (.bin .Sub (.call J.scoop (.cons (.var 0) (.cons (.bin .Add (.bin .Mult (.lit (.int 2)) (.var 1)) (.lit (.int 1))) .nil))) (.var 1)) [3] (.rng1 (.lit (.int 4))) (.lit (.bl true))))
    (.seq (.ret (.call J.lowest (.cons (.var 2) (.cons (.bin .Add (.lit (.int 1)) (.call J.scoop (.cons (.var 0) (.cons (.call J.one_of (.cons (.var 0) (.cons (.lst (.cons (.lit (.int 1)) (.cons (.lit (.int 1)) (.cons (.lit (.int 2)) (.cons (.lit (.int 6)) .nil))))) .nil))) .nil)))) .nil))))
    .nop)))⟩
section
variable {Fs : Tab} {lf : Nat} {J : BIx}
/-- a bowl, with so many draws behind it at most -/
abbrev Bw (o : O) (c : Int) : Prop := ∃ g s k : Int, o = .lst [.int g, .int s, .int k] ∧ (0 ≤ g ∧ g < 10 ^ 400) ∧ (0 ≤ s ∧ s < 1208925819614629174706176) ∧ 0 ≤ k ∧ k ≤ c
abbrev PBowl (i : Nat) (cf : Cf) : Prop := ∀ (ns : List Int) (at_ : Nat) (R : Sto), at_ < 3 → ns.length ≤ 63 → ∃ o, (∃ ds, o = O.lst ds) ∧ cf i [.scr (ns.map D.int), .int (at_ : Int)] R = .ok (.new o) R ∧ Bw o 0
theorem ok_bowl (h : HasF Fs J.bowl (b_bowl J)) : At Fs lf 1 (PBowl J.bowl) := .mk fun n hn ns i R hi hl => by
  have p1 : powOk 10 53 = true := by decide +kernel
  have p2 : powOk (10 ^ 53) 6 = true := by decide +kernel
  have p3 : powOk 10 15 = true := by decide +kernel
  have m0 : mulOk 97 (i : Int) = true := mulOk_of (n := 20) (m := 20) (by omega) (by omega) (by decide)
  have m1 : mulOk 1429 (i : Int) = true := mulOk_of (n := 40) (m := 20) (by omega) (by omega) (by decide)
  have m2 : ∀ b : Bool, mulOk 37 (if b = true then 1 else 0) = true := fun b => by cases b <;> decide +kernel
  have key : ∀ (z : Int), ∃ g s : Int, (∀ cf : Cf, ex cf lf (.seq (.asg 3 (.bin .Mod (.blt .abs (.cons (.var 2) .nil)) (.bin .Pow (.bin .Pow (.lit (.int 10)) (.lit (.int 53))) (.lit (.int 6)))))
    (.seq (.asg 4 (.bin .Add (.bin .Add (.bin .Add (.bin .Mult (.bin .Mod (.var 3) (.lit (.int 2305843009213693907))) (.lit (.int 73))) (.bin .Mult (.lit (.int 1429)) (.var 1))) (.bin .Mult (.lit (.int 37)) (.blt .int1 (.cons (.cmp .Lt (.var 2) (.lit (.int 0))) .nil)))) (.lit (.int 29))))
    (.seq (.ret (.lst (.cons (.blt .max2 (.cons (.lit (.int 0)) (.cons (.bin .Sub (.var 3) (.bin .Pow (.lit (.int 10)) (.lit (.int 15)))) .nil))) (.cons (.var 4) (.cons (.lit (.int 0)) .nil)))))
    .nop)))
      [some (.scr (ns.map D.int)), some (.int (i : Int)), some (.int z), none, none] ([] :: R) = .rt (.new (.lst [.int g, .int s, .int 0])) ([] :: R)) ∧ (0 ≤ g ∧ g < 10 ^ 400) ∧ 0 ≤ s ∧ s < 1208925819614629174706176 := by
    intro z
    obtain ⟨G, hG⟩ : ∃ G : Int, G = (if z < 0 then -z else z).fmod ((10 ^ 53) ^ 6) := ⟨_, rfl⟩
    have g0 : 0 ≤ G := by rw [hG]; exact Int.fmod_nonneg_of_pos _ (by decide +kernel)
    have g1 : G < (10 ^ 53) ^ 6 := by rw [hG]; exact Int.fmod_lt_of_pos _ (by decide +kernel)
    have q0 : 0 ≤ G.fmod 2305843009213693907 := Int.fmod_nonneg_of_pos _ (by decide)
    have q1 : G.fmod 2305843009213693907 < 2305843009213693907 := Int.fmod_lt_of_pos _ (by decide)
    have m3 : mulOk (G.fmod 2305843009213693907) 73 = true := mulOk_of (n := 80) (m := 20) (by omega) (by omega) (by decide)
    have x1 : ¬ ((10 : Int) ^ 53) ^ 6 = 0 := by decide +kernel
    have b1 : ∀ cf σ R, ev cf lf (.bin .Pow (.bin .Pow (.lit (.int 10)) (.lit (.int 53))) (.lit (.int 6))) σ R = .ok (.val (.int ((10 ^ 53) ^ 6))) R := fun cf σ R => by
      rw [ev_bin, ev_bin, ev_lit, bindV_val, ev_lit, bindV_val, bX_int, bin_pow, if_pos p1, bindV_val, ev_lit, bindV_val, bX_int]
      show binop .Pow (.int (10 ^ 53)) (.int 6) R = _
      rw [bin_pow, if_pos p2]
      rfl
    have b2 : ∀ cf σ R, ev cf lf (.bin .Pow (.lit (.int 10)) (.lit (.int 15))) σ R = .ok (.val (.int (10 ^ 15))) R := fun cf σ R => by
      rw [ev_bin, ev_lit, bindV_val, ev_lit, bindV_val, bX_int, bin_pow, if_pos p3]
      rfl
    have s1 : ((10 : Int) ^ 53) ^ 6 ≤ 10 ^ 400 := by decide +kernel
    have s2 : (0 : Int) ≤ 10 ^ 15 := by decide +kernel
    have bb : ∀ b : Bool, (0 : Int) ≤ (if b = true then 1 else 0) ∧ (if b = true then (1 : Int) else 0) ≤ 1 := fun b => by cases b <;> decide
    have bz := bb (decide (z < 0))
    generalize hp : ((10 : Int) ^ 53) ^ 6 = Bg at *
    generalize hq : (10 : Int) ^ 15 = Bs at *
    generalize hq : (10 : Int) ^ 400 = Bt at *
    refine ⟨if G - Bs > 0 then G - Bs else 0, G.fmod 2305843009213693907 * 73 + 1429 * (i : Int) + 37 * (if decide (z < 0) = true then 1 else 0) + 29, fun cf => ?_, ?_, by omega, by omega⟩
    · simp only [ex_seq, ex_asg, ex_ret, ex_nop, ev_bin, ev_blt, ev_cons, ev_nil, ev_var, ev_lit, ev_lst, ev_cmp, b1, b2, List.getElem?_cons_zero, List.getElem?_cons_succ, bindV_val, bindA_many, bltX_int, blt_abs, blt_int, bX_int, bin_mod, x1, if_false, bvS_val, fz_val, List.set, ← hG, bin_mul, m3, if_true, m1, cX_int, cY_lt, cmp_lt, liftO_some, bltX_bl, blt_intb, m2, bin_add, bltX_two, blt_max, bin_sub, byvL_int, byvL_nil, show ¬ (2305843009213693907 : Int) = 0 by decide]
      rfl
    · split <;> omega
  rw [run_f h]
  by_cases hc : i < ns.length
  · obtain ⟨g, s, e, b1, b2⟩ := key ns[i]
    refine ⟨.lst [.int g, .int s, .int 0], ⟨_, rfl⟩, ?_, g, s, 0, rfl, b1, b2, by decide, by decide⟩
    have h1 : (i : Int) < (ns.length : Int) := by omega
    have h2 : atI (ns.map D.int) (i : Int) = some (.int ns[i]) := by
      unfold atI L2.ixN
      rw [List.length_map, if_pos (by omega), if_pos (by omega)]
      simp [hc]
    have e' := e (EV.run Fs lf n)
    simp [b_bowl, h1, h2] at e' ⊢
    rw [e']
    rfl
  · obtain ⟨g, s, e, b1, b2⟩ := key (97 * (i : Int) + 71)
    refine ⟨.lst [.int g, .int s, .int 0], ⟨_, rfl⟩, ?_, g, s, 0, rfl, b1, b2, by decide, by decide⟩
    have h1 : ¬ (i : Int) < (ns.length : Int) := by omega
    have hd : decide ((i : Int) < (ns.length : Int)) = false := decide_eq_false h1
    have s1 : ex (EV.run Fs lf n) lf (.asg 2 (.ife (.cmp .Lt (.var 1) (.blt .len (.cons (.var 0) .nil))) (.blt .int1 (.cons (.sub (.var 0) (.var 1)) .nil)) (.bin .Add (.bin .Mult (.lit (.int 97)) (.var 1)) (.lit (.int 71))))) [some (.scr (ns.map D.int)), some (.int (i : Int)), none, none, none] ([] :: R) = .nx [some (.scr (ns.map D.int)), some (.int (i : Int)), some (.int (97 * (i : Int) + 71)), none, none] ([] :: R) := by
      simp only [ex_asg, ev_ife, ev_cmp, ev_var, ev_blt, ev_cons, ev_nil, List.getElem?_cons_zero, List.getElem?_cons_succ, bindV_val, bindA_many, bltX_scr, blt_len_scr, cX_int, cY_lt, cmp_lt, liftO_some, List.length_map, hd, truth_bl, ev_bin, ev_lit, bX_int, bin_mul, m0, if_true, bin_add, bvS_val, fz_val, List.set]
    refine (if_pos rfl).trans ?_
    show finR (ex _ lf (.seq (.asg 2 _) _) [some (.scr (ns.map D.int)), some (.int (i : Int)), none, none, none] ([] :: R)) = _
    rw [ex_seq, s1]
    exact (congrArg finR (e _)).trans rfl
abbrev PScoop (i : Nat) (cf : Cf) : Prop := ∀ (j p : Nat) (o : O) (c tot : Int) (R : Sto), sget R j p = some o → Bw o c → c ≤ 1000000 → 1 ≤ tot → tot ≤ 10000000000000 → ∃ (v : Int) (o' : O), cf i [.ref j p, .int tot] R = .ok (.val (.int v)) (sset R j p o') ∧ 0 ≤ v ∧ v < tot ∧ Bw o' (c + 1)
theorem ok_scoop (h : HasF Fs J.scoop (b_scoop J)) : At Fs lf 1 (PScoop J.scoop) := .mk fun n hn j p o c tot R hg hb hc1 ht1 ht2 => by
  obtain ⟨g, s, k, rfl, hg0, hs0, hk0, hk1⟩ := hb
  rw [run_f h]
  have t0 : ¬ tot = 0 := by omega
  have d1 : divOk tot = true := divOk_of (m := 50) (by omega) (by omega) (by omega)
  have hh : sget ([] :: R) (j + 1) p = some (.lst [.int g, .int s, .int k]) := hg
  have sub : ∀ i : Int, subX (.ref (j + 1) p) (.int i) ([] :: R) = atI [.int g, .int s, .int k] i := fun i => subX_L _ _ _ _ _ hh
  have st : ∀ (i : Int) (y : D), setO (.ref (j + 1) p) (.int i) y ([] :: R) = (L2.ixN 3 i).bind fun q => some ([] :: sset R j p (.lst ([D.int g, .int s, .int k].set q y))) := fun i y => set_lst _ _ _ _ _ hh
  have sub2 : ∀ (ds : List D) (i : Int), subX (.ref (j + 1) p) (.int i) ([] :: sset R j p (.lst ds)) = atI ds i := fun ds i => subX_L _ _ _ _ _ (show sget ([] :: sset R j p (.lst ds)) (j + 1) p = _ from sget_set_same hg)
  by_cases hp : 0 < g
  · refine ⟨g.fmod tot, .lst [.int (g.fdiv tot), .int s, .int k], ?_, Int.fmod_nonneg_of_pos _ (by omega), Int.fmod_lt_of_pos _ (by omega), g.fdiv tot, s, k, rfl, ?_, hs0, hk0, by omega⟩
    · simp [b_scoop, sub, st, hp, t0, d1]
    · rw [Int.fdiv_eq_ediv_of_nonneg _ (by omega)]
      have z1 : 0 ≤ g / tot := Int.ediv_nonneg (by omega) (by omega)
      have z2 : g / tot ≤ g := Int.ediv_le_self _ (by omega)
      exact ⟨z1, Int.lt_of_le_of_lt z2 hg0.2⟩
  · obtain ⟨one, hone⟩ : ∃ one : Int, one = (s + 8219 * (k + 1)).fmod 2305843009213693951 := ⟨_, rfl⟩
    have o1 : 0 ≤ one := by rw [hone]; exact Int.fmod_nonneg_of_pos _ (by decide)
    have o2 : one < 2305843009213693951 := by rw [hone]; exact Int.fmod_lt_of_pos _ (by decide)
    obtain ⟨two, htwo⟩ : ∃ two : Int, two = (one * one + 227 * (k + 1)).fmod 2305843009213693921 := ⟨_, rfl⟩
    have w1 : 0 ≤ two := by rw [htwo]; exact Int.fmod_nonneg_of_pos _ (by decide)
    have w2 : two < 2305843009213693921 := by rw [htwo]; exact Int.fmod_lt_of_pos _ (by decide)
    have m1 : mulOk 8219 (k + 1) = true := mulOk_of (n := 40) (m := 40) (by decide) (by omega) (by decide)
    have m2 : mulOk one one = true := mulOk_of (n := 64) (m := 64) (by omega) (by omega) (by decide)
    have m3 : mulOk 227 (k + 1) = true := mulOk_of (n := 40) (m := 40) (by decide) (by omega) (by decide)
    have m4 : mulOk two 1000081 = true := mulOk_of (n := 64) (m := 20) (by omega) (by decide) (by decide)
    have d2 : divOk 65536 = true := by decide +kernel
    refine ⟨((two * 1000081 + one).fdiv 65536).fmod tot, .lst [.int g, .int s, .int (k + 1)], ?_, Int.fmod_nonneg_of_pos _ (by omega), Int.fmod_lt_of_pos _ (by omega), g, s, k + 1, rfl, hg0, hs0, by omega, by omega⟩
    simp [b_scoop, sub, st, sub2, hp, m1, m2, ← hone, m3, m4, ← htwo, d2, t0]
abbrev POneOf (i : Nat) (cf : Cf) : Prop := ∀ (j p : Nat) (o : O) (c : Int) (ds : List D) (R : Sto), sget R j p = some o → Bw o c → c ≤ 1000000 → 1 ≤ ds.length → ds.length ≤ 1000 → (∀ d ∈ ds, ∀ R, retv [] R (.val d) = .ok (.val d) R) → ∃ d ∈ ds, ∃ o' : O, cf i [.ref j p, .lst ds] R = .ok (.val d) (sset R j p o') ∧ Bw o' (c + 1)
theorem ok_oneOf (hs : At Fs lf 1 (PScoop J.scoop)) (h : HasF Fs J.one_of (b_one_of J)) : At Fs lf 2 (POneOf J.one_of) := .mk fun n hn j p o c ds R hg hb hc1 l1 l2 hr => by
  obtain ⟨v, o', e, v0, v1, b⟩ := hs n hn (j + 1) p o c ds.length ([] :: R) hg hb hc1 (by omega) (by omega)
  have hv : v.toNat < ds.length := by omega
  refine ⟨ds[v.toNat], List.getElem_mem hv, o', ?_, b⟩
  have at_ : atI ds v = some ds[v.toNat] := by
    unfold atI L2.ixN
    rw [if_pos (by omega), if_pos (by omega)]
    exact List.getElem?_eq_getElem hv
  rw [run_f h]
  simp [b_one_of, e, at_, hr _ (List.getElem_mem hv)]
end
section
variable {Fs : Tab} {lf : Nat} {J : BIx}
theorem int_ret (l : List Int) : ∀ d ∈ l.map D.int, ∀ R, retv [] R (.val d) = .ok (.val d) R := fun d hd R => by
  obtain ⟨i, _, rfl⟩ := List.mem_map.mp hd
  rfl
abbrev PNumb (i : Nat) (cf : Cf) : Prop := ∀ (j p : Nat) (o : O) (c : Int) (R : Sto), sget R j p = some o → Bw o c → c ≤ 900000 → ∃ (v : Int) (o' : O), cf i [.ref j p] R = .ok (.val (.int v)) (sset R j p o') ∧ v ≠ 0 ∧ -1000 ≤ v ∧ v ≤ 1000 ∧ Bw o' (c + 3)
theorem sget_push {o : O} {R : Sto} {j p : Nat} (h : sget R j p = some o) (u : O) : sget ([] :: sset R j p u) (j + 1) p = some u := sget_set_same h
theorem sset_push {R : Sto} {j p : Nat} (u w : O) : sset ([] :: sset R j p u) (j + 1) p w = [] :: sset R j p w := by
  show [] :: sset (sset R j p u) j p w = _
  rw [sset_sset]
theorem ok_numb (hs : At Fs lf 1 (PScoop J.scoop)) (ho : At Fs lf 2 (POneOf J.one_of)) (h : HasF Fs J.number (b_number J)) : At Fs lf 3 (PNumb J.number) := .mk fun n hn j p o c R hg hb hc1 => by
  obtain ⟨d, hd, o1, e1, b1⟩ := ho n hn (j + 1) p o c ([3, 3, 12, 12, 60, 1000].map D.int) ([] :: R) hg hb (by omega) (by decide) (by decide) (int_ret _)
  obtain ⟨sz, hsz, rfl⟩ := List.mem_map.mp hd
  have sb : 1 ≤ sz ∧ sz ≤ 1000 := by
    simp only [List.mem_cons, List.not_mem_nil, or_false] at hsz
    omega
  obtain ⟨v, o2, e2, v0, v1, b2⟩ := hs n (by omega) (j + 1) p o1 (c + 1) sz ([] :: sset R j p o1) (sget_push hg o1) b1 (by omega) (by omega) (by omega)
  obtain ⟨w, o3, e3, w0, w1, b3⟩ := hs n (by omega) (j + 1) p o2 (c + 1 + 1) 2 ([] :: sset R j p o2) (sget_push hg o2) b2 (by omega) (by omega) (by omega)
  rw [sset_push] at e2 e3
  simp only [List.map, sset1] at e1
  rw [run_f h]
  by_cases hw : w = 0
  · refine ⟨1 + v, o3, ?_, by omega, by omega, by omega, by rw [show c + 3 = c + 1 + 1 + 1 by omega]; exact b3⟩
    simp [b_number, e1, e2, e3, hw]
  · refine ⟨0 - (1 + v), o3, ?_, by omega, by omega, by omega, by rw [show c + 3 = c + 1 + 1 + 1 by omega]; exact b3⟩
    simp [b_number, e1, e2, e3, hw]
abbrev PPair (i : Nat) (cf : Cf) : Prop := ∀ (j p : Nat) (o : O) (c : Int) (R : Sto), sget R j p = some o → Bw o c → c ≤ 800000 → ∃ (a b : Int) (o' : O), cf i [.ref j p] R = .ok (.val (.tup [.int a, .int b])) (sset R j p o') ∧ a ≠ 0 ∧ -1000 ≤ a ∧ a ≤ 1000 ∧ b ≠ 0 ∧ -1000 ≤ b ∧ b ≤ 1000 ∧ Bw o' (c + 7)
theorem Bw.up {o : O} {c d : Int} (h : Bw o c) (hd : c ≤ d) : Bw o d := by
  obtain ⟨g, s, k, h1, h2, h3, h4, h5⟩ := h
  exact ⟨g, s, k, h1, h2, h3, h4, by omega⟩
def knownP : List (Int × Int) := [(-1, -1), (-1, -11), (1, 1), (2, 5), (-1, 3), (-2, -5), (-1, -7), (5, -1), (-3, -10), (6, -15)]
theorem ok_pair (hs : At Fs lf 1 (PScoop J.scoop)) (ho : At Fs lf 2 (POneOf J.one_of)) (hm : At Fs lf 3 (PNumb J.number)) (h : HasF Fs J.pair (b_pair J)) : At Fs lf 4 (PPair J.pair) := .mk fun n hn j p o c R hg hb hc1 => by
  obtain ⟨w, o1, e1, w0, w1, b1⟩ := hs n (by omega) (j + 1) p o c 2 ([] :: R) hg hb (by omega) (by omega) (by omega)
  simp only [sset1] at e1
  rw [run_f h]
  by_cases hw : w = 0
  · obtain ⟨d, hd, o2, e2, b2⟩ := ho n (by omega) (j + 1) p o1 (c + 1) (knownP.map fun q => D.tup [.int q.1, .int q.2]) ([] :: sset R j p o1) (sget_push hg o1) b1 (by omega) (by decide) (by decide) (fun d hd R => by
      obtain ⟨i, _, rfl⟩ := List.mem_map.mp hd
      rfl)
    obtain ⟨q, hq, rfl⟩ := List.mem_map.mp hd
    rw [sset_push] at e2
    have qb : q.1 ≠ 0 ∧ -1000 ≤ q.1 ∧ q.1 ≤ 1000 ∧ q.2 ≠ 0 ∧ -1000 ≤ q.2 ∧ q.2 ≤ 1000 := by
      have : knownP.all (fun q => decide (q.1 ≠ 0 ∧ -1000 ≤ q.1 ∧ q.1 ≤ 1000 ∧ q.2 ≠ 0 ∧ -1000 ≤ q.2 ∧ q.2 ≤ 1000)) = true := by decide
      exact of_decide_eq_true (List.all_eq_true.mp this q hq)
    refine ⟨q.1, q.2, o2, ?_, qb.1, qb.2.1, qb.2.2.1, qb.2.2.2.1, qb.2.2.2.2.1, qb.2.2.2.2.2, b2.up (by omega)⟩
    simp only [knownP, List.map] at e2
    simp [b_pair, e1, e2, hw]
  · obtain ⟨a, o2, e2, a0, a1, a2, b2⟩ := hm n (by omega) (j + 1) p o1 (c + 1) ([] :: sset R j p o1) (sget_push hg o1) b1 (by omega)
    obtain ⟨b, o3, e3, b0, b1', b2', b3⟩ := hm n (by omega) (j + 1) p o2 (c + 1 + 3) ([] :: sset R j p o2) (sget_push hg o2) b2 (by omega)
    rw [sset_push] at e2 e3
    refine ⟨a, b, o3, ?_, a0, a1, a2, b0, b1', b2', b3.up (by omega)⟩
    simp [b_pair, e1, e2, e3, hw]
/-! ### the law's own divisors -/
def fibN : Nat → Nat
  | 0 => 1
  | 1 => 2
  | n + 2 => fibN (n + 1) + fibN n
abbrev sLC : S := .seq (.ifS (.cmp .Eq (.var 1) (.lit (.int 0))) (.seq .brk .nop) .nop) (.seq (.par2 0 1 none none (.var 1) (.bin .Sub (.var 0) (.bin .Mult (.bin .FloorDiv (.var 0) (.var 1)) (.var 1)))) .nop)
theorem lc_end (cf : Cf) (lf a : Nat) (R : Sto) (ds : List D) (y : Option D) : ∃ z, forV (setTg [2]) (ex cf lf sLC) ds [some (.int a), some (.int (0 : Nat)), y] R = .nx [some (.int a), some (.int (0 : Nat)), z] R := by
  cases ds with
  | nil => exact ⟨y, rfl⟩
  | cons d ds => exact ⟨some d, forV_bk (σ1 := [some (.int a), some (.int (0 : Nat)), some d]) (tg_one _ _ _) (by simp)⟩
theorem lc_turn (cf : Cf) (lf a b : Nat) (R : Sto) (d : D) (ds : List D) (y : Option D) (hb : b ≠ 0) (ha : a < 2 ^ 400000) (hb2 : b < 2 ^ 9000) : forV (setTg [2]) (ex cf lf sLC) (d :: ds) [some (.int a), some (.int b), y] R = forV (setTg [2]) (ex cf lf sLC) ds [some (.int b), some (.int (a % b : Nat)), some d] R := by
  have b0 : ¬ (b : Int) = 0 := by omega
  have dv : divOk (b : Int) = true := divOk_of (m := 9000) (by simpa using hb2) (by decide) b0
  have q : (a / b) * b ≤ a := Nat.div_mul_le_self a b
  have mo : mulOk ((a / b : Nat) : Int) (b : Int) = true := mulOk_of (n := 400000) (m := 9000) (by
    have : a / b ≤ a := Nat.div_le_self a b
    simp only [Int.natAbs_natCast]
    omega) (by simpa using hb2) (by decide)
  have sb : (a : Int) - ((a / b : Nat) : Int) * (b : Int) = ((a % b : Nat) : Int) := by
    have := Nat.div_add_mod a b
    rw [← Int.natCast_mul]
    rw [Nat.mul_comm] at this
    omega
  refine forV_nx (σ1 := [some (.int a), some (.int b), some d]) (tg_one _ _ _) ?_
  have fd := fdiv_nat a b
  have step : ex cf lf (.par2 0 1 none none (.var 1) (.bin .Sub (.var 0) (.bin .Mult (.bin .FloorDiv (.var 0) (.var 1)) (.var 1)))) [some (.int a), some (.int b), some d] R = .nx [some (.int b), some (.int (a % b : Nat)), some d] R := by
    simp only [ex_par2, ev_var, ev_bin, List.getElem?_cons_zero, List.getElem?_cons_succ, bvS_val, bindV_val, bX_int, bin_fdiv, dv, if_true, fd, bin_mul, mo, bin_sub, sb, putPP_none, putP_none, fz_val, List.set]
  rw [ex_seq]
  simp only [ex_ifS, ev_cmp, ev_var, ev_lit, List.getElem?_cons_zero, List.getElem?_cons_succ, bindV_val, cX_int, cY_eq, cmp_eq, liftO_some, bvS_val, fz_val, truth_bl, b0, decide_false, ex_nop]
  rw [ex_seq, step]
  rfl
theorem lc_loop (cf : Cf) (lf : Nat) (R : Sto) : ∀ (k a b : Nat) (ds : List D) (y : Option D), b < fibN k → k ≤ ds.length → a < 2 ^ 400000 → b < 2 ^ 9000 → ∃ z, forV (setTg [2]) (ex cf lf sLC) ds [some (.int a), some (.int b), y] R = .nx [some (.int (Nat.gcd a b : Nat)), some (.int (0 : Nat)), z] R := by
  have two : ∀ k : Nat, (∀ (a b : Nat) (ds : List D) (y : Option D), b < fibN k → k ≤ ds.length → a < 2 ^ 400000 → b < 2 ^ 9000 → ∃ z, forV (setTg [2]) (ex cf lf sLC) ds [some (.int a), some (.int b), y] R = .nx [some (.int (Nat.gcd a b : Nat)), some (.int (0 : Nat)), z] R) ∧
      (∀ (a b : Nat) (ds : List D) (y : Option D), b < fibN (k + 1) → k + 1 ≤ ds.length → a < 2 ^ 400000 → b < 2 ^ 9000 → ∃ z, forV (setTg [2]) (ex cf lf sLC) ds [some (.int a), some (.int b), y] R = .nx [some (.int (Nat.gcd a b : Nat)), some (.int (0 : Nat)), z] R) := by
    have big : (2 : Nat) ^ 9000 ≤ 2 ^ 400000 := Nat.pow_le_pow_right (by decide) (by decide)
    intro k
    induction k with
    | zero =>
      refine ⟨fun a b ds y h1 h2 h3 h4 => ?_, fun a b ds y h1 h2 h3 h4 => ?_⟩
      · have : b = 0 := by simpa [fibN] using h1
        subst this
        rw [Nat.gcd_zero_right]
        exact lc_end cf lf a R ds y
      · by_cases h0 : b = 0
        · subst h0
          rw [Nat.gcd_zero_right]
          exact lc_end cf lf a R ds y
        · have : b = 1 := by simp [fibN] at h1; omega
          subst this
          cases ds with
          | nil => simp at h2
          | cons d ds =>
            rw [lc_turn cf lf a 1 R d ds y (by decide) h3 h4, Nat.mod_one, Nat.gcd_one_right]
            exact lc_end cf lf 1 R ds _
    | succ k ih =>
      refine ⟨ih.2, fun a b ds y h1 h2 h3 h4 => ?_⟩
      by_cases h0 : b = 0
      · subst h0
        rw [Nat.gcd_zero_right]
        exact lc_end cf lf a R ds y
      · have hr : a % b < b := Nat.mod_lt _ (by omega)
        have e : Nat.gcd b (a % b) = Nat.gcd a b := by rw [Nat.gcd_comm, ← Nat.gcd_rec, Nat.gcd_comm]
        cases ds with
        | nil => simp at h2
        | cons d ds =>
          rw [List.length_cons] at h2
          rw [lc_turn cf lf a b R d ds y h0 h3 h4]
          rcases Nat.lt_or_ge (a % b) (fibN (k + 1)) with q | q
          · rw [← e]
            exact ih.2 b (a % b) ds _ q (by omega) (by omega) (by omega)
          · have fp : 0 < fibN (k + 1) := by
              have : ∀ n, 0 < fibN n ∧ 0 < fibN (n + 1) := fun n => by
                induction n with
                | zero => decide
                | succ n ih => exact ⟨ih.2, by show 0 < fibN (n + 1) + fibN n; omega⟩
              exact (this k).2
            cases ds with
            | nil => simp at h2
            | cons d2 ds =>
              rw [List.length_cons] at h2
              rw [lc_turn cf lf b (a % b) R d2 ds _ (by omega) (by omega) (by omega)]
              have hm : b % (a % b) ≤ b - a % b := by
                have := Nat.mod_le (b - a % b) (a % b)
                rw [Nat.mod_eq_sub_mod (by omega)]
                exact this
              have hf : fibN (k + 2) = fibN (k + 1) + fibN k := rfl
              have h1' : b < fibN (k + 2) := h1
              have e2 : Nat.gcd (a % b) (b % (a % b)) = Nat.gcd a b := by rw [← e, Nat.gcd_comm, ← Nat.gcd_rec, Nat.gcd_comm]
              rw [← e2]
              have hr2 : b % (a % b) < a % b := Nat.mod_lt _ (by omega)
              exact ih.1 (a % b) (b % (a % b)) ds _ (by omega) (by omega) (by omega) (by omega)
  intro k
  exact (two k).1
theorem fib600 : 2 ^ 410 ≤ fibN 600 := by
  have step : ∀ n x y, x ≤ fibN n → y ≤ fibN (n + 1) → y ≤ fibN (n + 1) ∧ x + y ≤ fibN (n + 2) := fun n x y h1 h2 => ⟨h2, by show x + y ≤ fibN (n + 1) + fibN n; omega⟩
  have it : ∀ (m n x y : Nat), x ≤ fibN n → y ≤ fibN (n + 1) → (Nat.rec (x, y) (fun _ q => (q.2, q.1 + q.2)) m : Nat × Nat).1 ≤ fibN (n + m) ∧ (Nat.rec (x, y) (fun _ q => (q.2, q.1 + q.2)) m : Nat × Nat).2 ≤ fibN (n + m + 1) := fun m => by
    induction m with
    | zero => exact fun n x y h1 h2 => ⟨h1, h2⟩
    | succ m ih =>
      intro n x y h1 h2
      obtain ⟨g1, g2⟩ := ih n x y h1 h2
      exact step (n + m) _ _ g1 g2
  have h := (it 600 0 1 2 (by decide) (by decide)).1
  rw [Nat.zero_add] at h
  exact Nat.le_trans (by decide +kernel) h
abbrev PComm (i : Nat) (cf : Cf) : Prop := ∀ (a b : Int) (R : Sto), a.natAbs < 2 ^ 400000 → b.natAbs < 2 ^ 410 → cf i [.int a, .int b] R = .ok (.val (.int (Int.gcd a b : Nat))) R
theorem ok_comm (h : HasF Fs J.common (b_common J)) : At Fs lf 1 (PComm J.common) := .mk fun n hn a b R ha hb => by
  have hl : ((List.range (600 - 0 : Int).toNat).map fun (i : Nat) => D.int (0 + (i : Int))).length = 600 := by simp
  obtain ⟨z, e⟩ := lc_loop (EV.run Fs lf n) lf ([] :: R) 600 a.natAbs b.natAbs ((List.range (600 - 0 : Int).toNat).map fun (i : Nat) => D.int (0 + (i : Int))) none (Nat.lt_of_lt_of_le hb fib600) (by rw [hl]; exact Nat.le_refl _) ha (Nat.lt_of_lt_of_le hb (Nat.pow_le_pow_right (by decide) (by decide)))
  have r0 : rngOk 0 600 = true := by decide
  rw [run_f h]
  refine (if_pos rfl).trans ?_
  show finR (ex _ lf (.seq _ (.seq (.forS [2] _ sLC) _)) [some (.int a), some (.int b), none] ([] :: R)) = _
  rw [ex_seq, ex_par2]
  simp only [ev_blt, ev_cons, ev_var, ev_nil, List.getElem?_cons_zero, List.getElem?_cons_succ, bindV_val, bindA_many, bltX_int, blt_abs, abs_cast, bvS_val, putPP_none, putP_none, fz_val, List.set]
  rw [ex_seq, ex_forS, ev_rng1, ev_lit, bindV_val]
  simp only [ik_rng1, itOf_two, r0, if_true, forI_vals]
  rw [e]
  rfl
abbrev PLow (i : Nat) (cf : Cf) : Prop := ∀ (b e0 e1 e2 e3 : Int) (x : D) (R : Sto), x = .lst [.int e0, .int e1, .int e2, .int e3] ∨ x = .tup [.int e0, .int e1, .int e2, .int e3] → b ≠ 0 → BI b 8000 → BI e0 410 → BI e1 410 → BI e2 410 → BI e3 410 → cf i [x, .int b] R = .ok (.val (ofL b e0 e1 e2 e3)) R
theorem ok_low (hc : At Fs lf 1 (PComm J.common)) (h : HasF Fs J.lowest (b_lowest J)) : At Fs lf 2 (PLow J.lowest) := .mk fun n hn b e0 e1 e2 e3 x R hx hb bb b0 b1 b2 b3 => by
  rw [run_f h]
  have big : (2 : Nat) ^ 8000 ≤ 2 ^ 400000 := Nat.pow_le_pow_right (by decide) (by decide)
  have st : ∀ (x y : Int) (R : Sto), x.natAbs < 2 ^ 8000 → BI y 410 → run Fs lf n J.common [.int x, .int y] R = .ok (.val (.int (Int.gcd x y : Nat))) R := fun x y R hx hy => hc n hn x y R (by omega) hy.h
  have s0 := s5_ne hb e0 e1 e2 e3
  haveI := s5_bi hb bb e0 e1 e2 e3
  have dv : divOk (s5 b e0 e1 e2 e3) = true := divOk_bd s0 (by omega)
  obtain ⟨d, d0, d1, d2, d3⟩ := s5_dvd b e0 e1 e2 e3
  have fd : ∀ {x : Int}, s5 b e0 e1 e2 e3 ∣ x → x.fdiv (s5 b e0 e1 e2 e3) = x / s5 b e0 e1 e2 e3 := fun h => Int.fdiv_eq_ediv_of_dvd h
  have gs : s5 b e0 e1 e2 e3 = if 0 < b then (g5 b e0 e1 e2 e3 : Int) else -(g5 b e0 e1 e2 e3 : Int) := rfl
  have g : (g5 b e0 e1 e2 e3 : Int) = ((Int.gcd (Int.gcd (Int.gcd (Int.gcd (if b < 0 then -b else b) e0 : Nat) e1 : Nat) e2 : Nat) e3 : Nat) : Int) := by
    have a : ∀ x : Int, (if x < 0 then -x else x).natAbs = x.natAbs := fun x => by split <;> omega
    unfold g5 Int.gcd
    simp only [a, Int.natAbs_natCast]
  have ab : (if b < 0 then -b else b).natAbs = b.natAbs := by split <;> omega
  have le : ∀ (x : Int) (y : Int), x ≠ 0 → (Int.gcd x y : Int) ≠ 0 ∧ (Int.gcd x y : Int).natAbs ≤ x.natAbs := fun x y hx => by
    have h1 : Int.gcd x y ≠ 0 := fun z => hx (Int.gcd_eq_zero_iff.mp z).1
    have h2 := Nat.gcd_le_left (m := x.natAbs) y.natAbs (by omega)
    refine ⟨by omega, ?_⟩
    show ((Nat.gcd x.natAbs y.natAbs : Nat) : Int).natAbs ≤ _
    omega
  have l0 := bb.h
  have n0 : (if b < 0 then -b else b) ≠ 0 := by split <;> omega
  have l1 := le _ e0 n0
  have l2 := le _ e1 l1.1
  have l3 := le _ e2 l2.1
  have t0 := fun R => st (if b < 0 then -b else b) e0 R (by omega) b0
  have t1 := fun R => st _ e1 R (show (Int.gcd (if b < 0 then -b else b) e0 : Int).natAbs < 2 ^ 8000 by omega) b1
  have t2 := fun R => st _ e2 R (show (Int.gcd (Int.gcd (if b < 0 then -b else b) e0 : Nat) e1 : Int).natAbs < 2 ^ 8000 by omega) b2
  have t3 := fun R => st _ e3 R (show (Int.gcd (Int.gcd (Int.gcd (if b < 0 then -b else b) e0 : Nat) e1 : Nat) e2 : Int).natAbs < 2 ^ 8000 by omega) b3
  rcases Int.lt_or_gt_of_ne hb with hb0 | hb0
  · have nb : ¬ 0 < b := by omega
    rw [if_neg nb, g] at gs
    have gs' : s5 b e0 e1 e2 e3 = 0 - ((Int.gcd (Int.gcd (Int.gcd (Int.gcd (if b < 0 then -b else b) e0 : Nat) e1 : Nat) e2 : Nat) e3 : Nat) : Int) := by omega
    rcases hx with rfl | rfl <;> (simp only [b_lowest]; simp [forV, compV, compF, t0, t1, t2, t3, nb, ← gs, dv, fd d, fd d0, fd d1, fd d2, fd d3, ofL, low])
  · rw [if_pos hb0, g] at gs
    rcases hx with rfl | rfl <;> (simp only [b_lowest]; simp [forV, compV, compF, t0, t1, t2, t3, hb0, ← gs, dv, fd d, fd d0, fd d1, fd d2, fd d3, ofL, low])
end
section
variable {Fs : Tab} {lf : Nat} {J : BIx}
/-- a four as the law has it: its entries, its bottom -/
def pairD (v : H) : D := .tup [entD (rep v), .int (rep v).b]
theorem ofL_pair {b : Int} (hb : b ≠ 0) (e0 e1 e2 e3 : Int) : ofL b e0 e1 e2 e3 = pairD (ofE b e0 e1 e2 e3) := by
  unfold ofL pairD
  rw [← low_rep hb]
  rfl
@[simp] theorem retv_pair (own : List O) (R : Sto) (v : H) : retv own R (.val (pairD v)) = .ok (.val (pairD v)) R := rfl
@[simp] theorem byv_pair (R : Sto) (v : H) : byv (pairD v) R = some (pairD v, R) := rfl
@[simp] theorem byvL_pair (ds : List D) (R : Sto) (v : H) : byvL (pairD v :: ds) R = match byvL ds R with | some (es, R2) => some (pairD v :: es, R2) | none => none := rfl
@[simp] theorem up_pair (v : H) : up (pairD v) = pairD v := rfl
@[simp] theorem sub_pair (R : Sto) (v : H) (i : Int) : subX (pairD v) (.int i) R = atI [entD (rep v), .int (rep v).b] i := rfl
@[simp] theorem noRef_pair (σ : En) (p : Nat) (v : H) : noRef (some (pairD v) :: σ) p = noRef σ p := rfl
abbrev PDrawn (i : Nat) (cf : Cf) : Prop := ∀ (j p : Nat) (o : O) (c : Int) (R : Sto), sget R j p = some o → Bw o c → c ≤ 800000 → ∃ (v : H) (o' : O), cf i [.ref j p] R = .ok (.val (pairD v)) (sset R j p o') ∧ BH v 42 ∧ Bw o' (c + 7)
theorem ok_drawn (hs : At Fs lf 1 (PScoop J.scoop)) (ho : At Fs lf 2 (POneOf J.one_of)) (hl : At Fs lf 2 (PLow J.lowest)) (h : HasF Fs J.drawn (b_drawn J)) : At Fs lf 3 (PDrawn J.drawn) := .mk fun n hn j p o c R hg hb hc1 => by
  have hp12 : powOk 10 12 = true := by decide
  obtain ⟨d, hd, o1, e1, b1⟩ := ho n hn (j + 1) p o c ([2, 4, 4, 20, 1000000000000].map D.int) ([] :: R) hg hb (by omega) (by decide) (by decide) (int_ret _)
  obtain ⟨sz, hsz, rfl⟩ := List.mem_map.mp hd
  have sb : 1 ≤ sz ∧ sz ≤ 1000000000000 := by
    simp only [List.mem_cons, List.not_mem_nil, or_false] at hsz
    omega
  obtain ⟨v0, o2, e2, v0a, v0b, b2⟩ := hs n (by omega) (j + 1) p o1 (c + 1) (2 * sz + 1) ([] :: sset R j p o1) (sget_push hg o1) b1 (by omega) (by omega) (by omega)
  obtain ⟨v1, o3, e3, v1a, v1b, b3⟩ := hs n (by omega) (j + 1) p o2 (c + 1 + 1) (2 * sz + 1) ([] :: sset R j p o2) (sget_push hg o2) b2 (by omega) (by omega) (by omega)
  obtain ⟨v2, o4, e4, v2a, v2b, b4⟩ := hs n (by omega) (j + 1) p o3 (c + 1 + 1 + 1) (2 * sz + 1) ([] :: sset R j p o3) (sget_push hg o3) b3 (by omega) (by omega) (by omega)
  obtain ⟨v3, o5, e5, v3a, v3b, b5⟩ := hs n (by omega) (j + 1) p o4 (c + 1 + 1 + 1 + 1) (2 * sz + 1) ([] :: sset R j p o4) (sget_push hg o4) b4 (by omega) (by omega) (by omega)
  obtain ⟨d', hd', o6, e6, b6⟩ := ho n hn (j + 1) p o5 (c + 1 + 1 + 1 + 1 + 1) ([1, 1, 2, 6].map D.int) ([] :: sset R j p o5) (sget_push hg o5) b5 (by omega) (by decide) (by decide) (int_ret _)
  obtain ⟨bz, hbz, rfl⟩ := List.mem_map.mp hd'
  have sb2 : 1 ≤ bz ∧ bz ≤ 6 := by
    simp only [List.mem_cons, List.not_mem_nil, or_false] at hbz
    omega
  obtain ⟨v4, o7, e7, v4a, v4b, b7⟩ := hs n (by omega) (j + 1) p o6 (c + 1 + 1 + 1 + 1 + 1 + 1) bz ([] :: sset R j p o6) (sget_push hg o6) b6 (by omega) (by omega) (by omega)
  rw [sset_push] at e2 e3 e4 e5 e6 e7
  simp only [sset1] at e1
  have p42 : (2 : Nat) ^ 42 = 4398046511104 := by decide
  have q : ∀ x : Int, 0 ≤ x → x < 2 * sz + 1 → BI (x - sz) 42 := fun x h1 h2 => ⟨by rw [p42]; omega⟩
  have q4 : BI (1 + v4) 42 := ⟨by rw [p42]; omega⟩
  have up : ∀ {x : Int} {m : Nat}, BI x 42 → 42 ≤ m → BI x m := fun h hm => BI.up h hm
  have z4 : 1 + v4 ≠ 0 := by omega
  have e8 := hl n hn (1 + v4) (v0 - sz) (v1 - sz) (v2 - sz) (v3 - sz) (.lst [.int (v0 - sz), .int (v1 - sz), .int (v2 - sz), .int (v3 - sz)]) ([] :: sset R j p o7) (.inl rfl) z4 (up q4 (by decide)) (up (q _ v0a v0b) (by decide)) (up (q _ v1a v1b) (by decide)) (up (q _ v2a v2b) (by decide)) (up (q _ v3a v3b) (by decide))
  rw [ofL_pair z4] at e8
  refine ⟨ofE (1 + v4) (v0 - sz) (v1 - sz) (v2 - sz) (v3 - sz), o7, ?_, .of z4 q4 (q _ v0a v0b) (q _ v1a v1b) (q _ v2a v2b) (q _ v3a v3b), b7.up (by omega)⟩
  have mo : mulOk 2 sz = true := mulOk_of (n := 2) (m := 42) (by decide) (by omega) (by decide)
  have r4 : (List.map (fun (k : Nat) => D.int (k : Int)) (List.range 4)) = [.int 0, .int 1, .int 2, .int 3] := rfl
  have r0 : rngOk 0 4 = true := by decide
  simp only [List.map] at e1 e6
  rw [run_f h]
  simp only [b_drawn]
  simp [hp12, e1, compV, compF, r4, r0, mo, e2, e3, e4, e5, e6, e7, e8]
end
end EV

/-! EvB2: the laws' draws of the vial kind. -/
namespace EV
open PySem PySem.Spec PyProof.Rows L2 HQ NT
structure VIx where
  vial : Nat := 0
  drop : Nat := 0
  any : Nat := 0
def v_vial (J : VIx) : Fn := ⟨2, 4, 0,
    (.seq (.asg 2 (.ife (.cmp .Lt (.var 1) (.blt .len (.cons (.var 0) .nil))) (.blt .int1 (.cons (.sub (.var 0) (.var 1)) .nil)) (.bin .Add (.bin .Mult (.lit (.int 383)) (.var 1)) (.lit (.int 89)))))
    (.seq (.asg 3 (.bin .Mod (.blt .int1 (.cons (.blt .abs (.cons (.var 2) .nil)) .nil)) (.bin .Pow (.bin .Pow (.lit (.int 10)) (.lit (.int 57))) (.lit (.int 6)))))
    (.seq (.ret (.lst (.cons (.blt .max2 (.cons (.lit (.int 0)) (.cons (.bin .Sub (.var 3) (.bin .Pow (.lit (.int 10)) (.lit (.int 17)))) .nil))) (.cons (.bin .Add (.bin .Add (.bin .Add (.bin .Mult (.bin .Mod (.var 3) (.lit (.int 1000000000061))) (.lit (.int 104717))) (.bin .Mult (.lit (.int 4523)) (.var 1))) (.bin .Mult (.lit (.int 23)) (.blt .int1 (.cons (.cmp .Lt (.var 2) (.lit (.int 0))) .nil)))) (.lit (.int 13))) (.cons (.lit (.int 0)) .nil)))))
    .nop)))⟩
def v_drop (J : VIx) : Fn := ⟨2, 5, 0,
    (.seq (.ifS (.cmp .Gt (.sub (.var 0) (.lit (.int 0))) (.lit (.int 0)))
      (.seq (.asg 2 (.bin .Mod (.blt .int1 (.cons (.sub (.var 0) (.lit (.int 0))) .nil)) (.var 1)))
      (.seq (.sets (.var 0) (.lit (.int 0)) (.bin .FloorDiv (.sub (.var 0) (.lit (.int 0))) (.var 1)))
      (.seq (.ret (.var 2))
      .nop)))
      .nop)
    (.seq (.sets (.var 0) (.lit (.int 2)) (.bin .Add (.sub (.var 0) (.lit (.int 2))) (.lit (.int 1))))
    (.seq (.asg 3 (.bin .Mod (.blt .int1 (.cons (.bin .Add (.sub (.var 0) (.lit (.int 1))) (.bin .Mult (.lit (.int 3361993)) (.sub (.var 0) (.lit (.int 2))))) .nil)) (.lit (.int 2305843009213693951))))
    (.seq (.asg 4 (.bin .Mod (.blt .int1 (.cons (.bin .Add (.bin .Mult (.var 3) (.var 3)) (.bin .Mult (.lit (.int 700331)) (.sub (.var 0) (.lit (.int 2))))) .nil)) (.lit (.int 2305843009213693921))))
    (.seq (.ret (.bin .Mod (.blt .int1 (.cons (.bin .FloorDiv (.bin .Add (.bin .Mult (.var 4) (.lit (.int 37))) (.var 3)) (.lit (.int 131072))) .nil)) (.var 1)))
    .nop)))))⟩
def v_any (J : VIx) : Fn := ⟨2, 2, 0,
    (.seq (.ret (.sub (.var 1) (.call J.drop (.cons (.var 0) (.cons (.blt .len (.cons (.var 1) .nil)) .nil)))))
    .nop)⟩
section
variable {Fs : Tab} {lf : Nat} {J : VIx}
abbrev PVial (i : Nat) (cf : Cf) : Prop := ∀ (ns : List Int) (at_ : Nat) (R : Sto), at_ < 3 → ns.length ≤ 63 → ∃ o, (∃ ds, o = O.lst ds) ∧ cf i [.scr (ns.map D.int), .int (at_ : Int)] R = .ok (.new o) R ∧ Bw o 0
theorem ok_vial (h : HasF Fs J.vial (v_vial J)) : At Fs lf 1 (PVial J.vial) := .mk fun n hn ns i R hi hl => by
  have p1 : powOk 10 57 = true := by decide +kernel
  have p2 : powOk (10 ^ 57) 6 = true := by decide +kernel
  have p3 : powOk 10 17 = true := by decide +kernel
  have m0 : mulOk 383 (i : Int) = true := mulOk_of (n := 20) (m := 20) (by omega) (by omega) (by decide)
  have m1 : mulOk 4523 (i : Int) = true := mulOk_of (n := 40) (m := 20) (by omega) (by omega) (by decide)
  have m2 : ∀ b : Bool, mulOk 23 (if b = true then 1 else 0) = true := fun b => by cases b <;> decide +kernel
  have key : ∀ (z : Int), ∃ g s : Int, (∀ cf : Cf, ex cf lf (.seq (.asg 3 (.bin .Mod (.blt .int1 (.cons (.blt .abs (.cons (.var 2) .nil)) .nil)) (.bin .Pow (.bin .Pow (.lit (.int 10)) (.lit (.int 57))) (.lit (.int 6)))))
    (.seq (.ret (.lst (.cons (.blt .max2 (.cons (.lit (.int 0)) (.cons (.bin .Sub (.var 3) (.bin .Pow (.lit (.int 10)) (.lit (.int 17)))) .nil))) (.cons (.bin .Add (.bin .Add (.bin .Add (.bin .Mult (.bin .Mod (.var 3) (.lit (.int 1000000000061))) (.lit (.int 104717))) (.bin .Mult (.lit (.int 4523)) (.var 1))) (.bin .Mult (.lit (.int 23)) (.blt .int1 (.cons (.cmp .Lt (.var 2) (.lit (.int 0))) .nil)))) (.lit (.int 13))) (.cons (.lit (.int 0)) .nil)))))
    .nop))
      [some (.scr (ns.map D.int)), some (.int (i : Int)), some (.int z), none] ([] :: R) = .rt (.new (.lst [.int g, .int s, .int 0])) ([] :: R)) ∧ (0 ≤ g ∧ g < 10 ^ 400) ∧ 0 ≤ s ∧ s < 1208925819614629174706176 := by
    intro z
    obtain ⟨G, hG⟩ : ∃ G : Int, G = (if z < 0 then -z else z).fmod ((10 ^ 57) ^ 6) := ⟨_, rfl⟩
    have g0 : 0 ≤ G := by rw [hG]; exact Int.fmod_nonneg_of_pos _ (by decide +kernel)
    have g1 : G < (10 ^ 57) ^ 6 := by rw [hG]; exact Int.fmod_lt_of_pos _ (by decide +kernel)
    have q0 : 0 ≤ G.fmod 1000000000061 := Int.fmod_nonneg_of_pos _ (by decide)
    have q1 : G.fmod 1000000000061 < 1000000000061 := Int.fmod_lt_of_pos _ (by decide)
    have m3 : mulOk (G.fmod 1000000000061) 104717 = true := mulOk_of (n := 80) (m := 20) (by omega) (by omega) (by decide)
    have x1 : ¬ ((10 : Int) ^ 57) ^ 6 = 0 := by decide +kernel
    have b1 : ∀ cf σ R, ev cf lf (.bin .Pow (.bin .Pow (.lit (.int 10)) (.lit (.int 57))) (.lit (.int 6))) σ R = .ok (.val (.int ((10 ^ 57) ^ 6))) R := fun cf σ R => by
      rw [ev_bin, ev_bin, ev_lit, bindV_val, ev_lit, bindV_val, bX_int, bin_pow, if_pos p1, bindV_val, ev_lit, bindV_val, bX_int]
      show binop .Pow (.int (10 ^ 57)) (.int 6) R = _
      rw [bin_pow, if_pos p2]
      rfl
    have b2 : ∀ cf σ R, ev cf lf (.bin .Pow (.lit (.int 10)) (.lit (.int 17))) σ R = .ok (.val (.int (10 ^ 17))) R := fun cf σ R => by
      rw [ev_bin, ev_lit, bindV_val, ev_lit, bindV_val, bX_int, bin_pow, if_pos p3]
      rfl
    have s1 : ((10 : Int) ^ 57) ^ 6 ≤ 10 ^ 400 := by decide +kernel
    have s2 : (0 : Int) ≤ 10 ^ 17 := by decide +kernel
    have bb : ∀ b : Bool, (0 : Int) ≤ (if b = true then 1 else 0) ∧ (if b = true then (1 : Int) else 0) ≤ 1 := fun b => by cases b <;> decide
    have bz := bb (decide (z < 0))
    generalize hp : ((10 : Int) ^ 57) ^ 6 = Bg at *
    generalize hq : (10 : Int) ^ 17 = Bs at *
    generalize hq : (10 : Int) ^ 400 = Bt at *
    refine ⟨if G - Bs > 0 then G - Bs else 0, G.fmod 1000000000061 * 104717 + 4523 * (i : Int) + 23 * (if decide (z < 0) = true then 1 else 0) + 13, fun cf => ?_, ?_, by omega, by omega⟩
    · simp only [ex_seq, ex_asg, ex_ret, ex_nop, ev_bin, ev_blt, ev_cons, ev_nil, ev_var, ev_lit, ev_lst, ev_cmp, b1, b2, List.getElem?_cons_zero, List.getElem?_cons_succ, bindV_val, bindA_many, bltX_int, blt_abs, blt_int, bX_int, bin_mod, x1, if_false, bvS_val, fz_val, List.set, ← hG, bin_mul, m3, if_true, m1, cX_int, cY_lt, cmp_lt, liftO_some, bltX_bl, blt_intb, m2, bin_add, bltX_two, blt_max, bin_sub, byvL_int, byvL_nil, show ¬ (1000000000061 : Int) = 0 by decide]
      rfl
    · split <;> omega
  rw [run_f h]
  by_cases hc : i < ns.length
  · obtain ⟨g, s, e, b1, b2⟩ := key ns[i]
    refine ⟨.lst [.int g, .int s, .int 0], ⟨_, rfl⟩, ?_, g, s, 0, rfl, b1, b2, by decide, by decide⟩
    have h1 : (i : Int) < (ns.length : Int) := by omega
    have h2 : atI (ns.map D.int) (i : Int) = some (.int ns[i]) := by
      unfold atI L2.ixN
      rw [List.length_map, if_pos (by omega), if_pos (by omega)]
      simp [hc]
    have e' := e (EV.run Fs lf n)
    simp [v_vial, h1, h2] at e' ⊢
    rw [e']
    rfl
  · obtain ⟨g, s, e, b1, b2⟩ := key (383 * (i : Int) + 89)
    refine ⟨.lst [.int g, .int s, .int 0], ⟨_, rfl⟩, ?_, g, s, 0, rfl, b1, b2, by decide, by decide⟩
    have h1 : ¬ (i : Int) < (ns.length : Int) := by omega
    have hd : decide ((i : Int) < (ns.length : Int)) = false := decide_eq_false h1
    have s1 : ex (EV.run Fs lf n) lf (.asg 2 (.ife (.cmp .Lt (.var 1) (.blt .len (.cons (.var 0) .nil))) (.blt .int1 (.cons (.sub (.var 0) (.var 1)) .nil)) (.bin .Add (.bin .Mult (.lit (.int 383)) (.var 1)) (.lit (.int 89))))) [some (.scr (ns.map D.int)), some (.int (i : Int)), none, none] ([] :: R) = .nx [some (.scr (ns.map D.int)), some (.int (i : Int)), some (.int (383 * (i : Int) + 89)), none] ([] :: R) := by
      simp only [ex_asg, ev_ife, ev_cmp, ev_var, ev_blt, ev_cons, ev_nil, List.getElem?_cons_zero, List.getElem?_cons_succ, bindV_val, bindA_many, bltX_scr, blt_len_scr, cX_int, cY_lt, cmp_lt, liftO_some, List.length_map, hd, truth_bl, ev_bin, ev_lit, bX_int, bin_mul, m0, if_true, bin_add, bvS_val, fz_val, List.set]
    refine (if_pos rfl).trans ?_
    show finR (ex _ lf (.seq (.asg 2 _) _) [some (.scr (ns.map D.int)), some (.int (i : Int)), none, none] ([] :: R)) = _
    rw [ex_seq, s1]
    exact (congrArg finR (e _)).trans rfl
abbrev PDrop (i : Nat) (cf : Cf) : Prop := ∀ (j p : Nat) (o : O) (c tot : Int) (R : Sto), sget R j p = some o → Bw o c → c ≤ 1000000 → 1 ≤ tot → tot ≤ 10000000000000 → ∃ (v : Int) (o' : O), cf i [.ref j p, .int tot] R = .ok (.val (.int v)) (sset R j p o') ∧ 0 ≤ v ∧ v < tot ∧ Bw o' (c + 1)
theorem ok_drop (h : HasF Fs J.drop (v_drop J)) : At Fs lf 1 (PDrop J.drop) := .mk fun n hn j p o c tot R hg hb hc1 ht1 ht2 => by
  obtain ⟨g, s, k, rfl, hg0, hs0, hk0, hk1⟩ := hb
  rw [run_f h]
  have t0 : ¬ tot = 0 := by omega
  have d1 : divOk tot = true := divOk_of (m := 50) (by omega) (by omega) (by omega)
  have hh : sget ([] :: R) (j + 1) p = some (.lst [.int g, .int s, .int k]) := hg
  have sub : ∀ i : Int, subX (.ref (j + 1) p) (.int i) ([] :: R) = atI [.int g, .int s, .int k] i := fun i => subX_L _ _ _ _ _ hh
  have st : ∀ (i : Int) (y : D), setO (.ref (j + 1) p) (.int i) y ([] :: R) = (L2.ixN 3 i).bind fun q => some ([] :: sset R j p (.lst ([D.int g, .int s, .int k].set q y))) := fun i y => set_lst _ _ _ _ _ hh
  have sub2 : ∀ (ds : List D) (i : Int), subX (.ref (j + 1) p) (.int i) ([] :: sset R j p (.lst ds)) = atI ds i := fun ds i => subX_L _ _ _ _ _ (show sget ([] :: sset R j p (.lst ds)) (j + 1) p = _ from sget_set_same hg)
  by_cases hp : 0 < g
  · refine ⟨g.fmod tot, .lst [.int (g.fdiv tot), .int s, .int k], ?_, Int.fmod_nonneg_of_pos _ (by omega), Int.fmod_lt_of_pos _ (by omega), g.fdiv tot, s, k, rfl, ?_, hs0, hk0, by omega⟩
    · simp [v_drop, sub, st, hp, t0, d1]
    · rw [Int.fdiv_eq_ediv_of_nonneg _ (by omega)]
      have z1 : 0 ≤ g / tot := Int.ediv_nonneg (by omega) (by omega)
      have z2 : g / tot ≤ g := Int.ediv_le_self _ (by omega)
      exact ⟨z1, Int.lt_of_le_of_lt z2 hg0.2⟩
  · obtain ⟨one, hone⟩ : ∃ one : Int, one = (s + 3361993 * (k + 1)).fmod 2305843009213693951 := ⟨_, rfl⟩
    have o1 : 0 ≤ one := by rw [hone]; exact Int.fmod_nonneg_of_pos _ (by decide)
    have o2 : one < 2305843009213693951 := by rw [hone]; exact Int.fmod_lt_of_pos _ (by decide)
    obtain ⟨two, htwo⟩ : ∃ two : Int, two = (one * one + 700331 * (k + 1)).fmod 2305843009213693921 := ⟨_, rfl⟩
    have w1 : 0 ≤ two := by rw [htwo]; exact Int.fmod_nonneg_of_pos _ (by decide)
    have w2 : two < 2305843009213693921 := by rw [htwo]; exact Int.fmod_lt_of_pos _ (by decide)
    have m1 : mulOk 3361993 (k + 1) = true := mulOk_of (n := 40) (m := 40) (by decide) (by omega) (by decide)
    have m2 : mulOk one one = true := mulOk_of (n := 64) (m := 64) (by omega) (by omega) (by decide)
    have m3 : mulOk 700331 (k + 1) = true := mulOk_of (n := 40) (m := 40) (by decide) (by omega) (by decide)
    have m4 : mulOk two 37 = true := mulOk_of (n := 64) (m := 20) (by omega) (by decide) (by decide)
    have d2 : divOk 131072 = true := by decide +kernel
    refine ⟨((two * 37 + one).fdiv 131072).fmod tot, .lst [.int g, .int s, .int (k + 1)], ?_, Int.fmod_nonneg_of_pos _ (by omega), Int.fmod_lt_of_pos _ (by omega), g, s, k + 1, rfl, hg0, hs0, by omega, by omega⟩
    simp [v_drop, sub, st, sub2, hp, m1, m2, ← hone, m3, m4, ← htwo, d2, t0]
abbrev PAny (i : Nat) (cf : Cf) : Prop := ∀ (j p : Nat) (o : O) (c : Int) (ds : List D) (R : Sto), sget R j p = some o → Bw o c → c ≤ 1000000 → 1 ≤ ds.length → ds.length ≤ 1000 → (∀ d ∈ ds, ∀ R, retv [] R (.val d) = .ok (.val d) R) → ∃ d ∈ ds, ∃ o' : O, cf i [.ref j p, .lst ds] R = .ok (.val d) (sset R j p o') ∧ Bw o' (c + 1)
theorem ok_any (hs : At Fs lf 1 (PDrop J.drop)) (h : HasF Fs J.any (v_any J)) : At Fs lf 2 (PAny J.any) := .mk fun n hn j p o c ds R hg hb hc1 l1 l2 hr => by
  obtain ⟨v, o', e, v0, v1, b⟩ := hs n hn (j + 1) p o c ds.length ([] :: R) hg hb hc1 (by omega) (by omega)
  have hv : v.toNat < ds.length := by omega
  refine ⟨ds[v.toNat], List.getElem_mem hv, o', ?_, b⟩
  have at_ : atI ds v = some ds[v.toNat] := by
    unfold atI L2.ixN
    rw [if_pos (by omega), if_pos (by omega)]
    exact List.getElem?_eq_getElem hv
  rw [run_f h]
  simp [v_any, e, at_, hr _ (List.getElem_mem hv)]
end
end EV

/-! EvB3: the laws' draws of the jug kind. -/
namespace EV
open PySem PySem.Spec PyProof.Rows L2 HQ NT
structure JIx where
  jug : Nat := 0
  pour : Nat := 0
  of_ : Nat := 0
def j_jug (J : JIx) : Fn := ⟨2, 5, 0,
    (.seq (.asg 2 (.ife (.cmp .Lt (.var 1) (.blt .len (.cons (.var 0) .nil))) (.blt .int1 (.cons (.sub (.var 0) (.var 1)) .nil)) (.bin .Add (.bin .Add (.bin .Mult (.lit (.int 907)) (.var 1)) (.lit (.int 37))) (.bin .Mod (.blt .int1 (.cons (.blt .sum (.cons (.slc (.var 0) (.lit .non) (.lit (.int 1))) .nil)) .nil)) (.lit (.int 1000033))))))
    (.seq (.asg 3 (.bin .Mod (.blt .int1 (.cons (.blt .abs (.cons (.var 2) .nil)) .nil)) (.bin .Pow (.bin .Pow (.lit (.int 10)) (.lit (.int 59))) (.lit (.int 8)))))
    (.seq (.asg 4 (.bin .Mod (.blt .int1 (.cons (.bin .Add (.bin .Add (.bin .Add (.bin .Mult (.bin .Mod (.var 3) (.lit (.int 2305843009213693921))) (.lit (.int 50021))) (.bin .Mult (.lit (.int 4003)) (.var 1))) (.bin .Mult (.lit (.int 19)) (.blt .int1 (.cons (.cmp .Lt (.var 2) (.lit (.int 0))) .nil)))) (.lit (.int 71))) .nil)) (.lit (.int 2305843009213693951))))
    (.seq (.ret (.lst (.cons (.blt .max2 (.cons (.lit (.int 0)) (.cons (.bin .Sub (.var 3) (.bin .Pow (.lit (.int 10)) (.lit (.int 17)))) .nil))) (.cons (.var 4) (.cons (.lit (.int 0)) .nil)))))
    .nop))))⟩
def j_pour (J : JIx) : Fn := ⟨2, 5, 0,
    (.seq (.ifS (.cmp .Gt (.sub (.var 0) (.lit (.int 0))) (.lit (.int 0)))
      (.seq (.asg 2 (.bin .Mod (.blt .int1 (.cons (.sub (.var 0) (.lit (.int 0))) .nil)) (.var 1)))
      (.seq (.sets (.var 0) (.lit (.int 0)) (.bin .FloorDiv (.sub (.var 0) (.lit (.int 0))) (.var 1)))
      (.seq (.ret (.var 2))
      .nop)))
      .nop)
    (.seq (.sets (.var 0) (.lit (.int 2)) (.bin .Add (.sub (.var 0) (.lit (.int 2))) (.lit (.int 1))))
    (.seq (.asg 3 (.bin .Mod (.blt .int1 (.cons (.bin .Add (.sub (.var 0) (.lit (.int 1))) (.bin .Mult (.lit (.int 15485863)) (.sub (.var 0) (.lit (.int 2))))) .nil)) (.lit (.int 2305843009213693967))))
    (.seq (.asg 4 (.bin .Add (.bin .Add (.bin .Mult (.bin .Mod (.blt .int1 (.cons (.bin .Mult (.var 3) (.var 3)) .nil)) (.lit (.int 2305843009213693951))) (.lit (.int 32452867))) (.var 3)) (.bin .Mult (.lit (.int 7)) (.sub (.var 0) (.lit (.int 2))))))
    (.seq (.ret (.bin .Mod (.blt .int1 (.cons (.bin .FloorDiv (.var 4) (.lit (.int 131072))) .nil)) (.var 1)))
    .nop)))))⟩
def j_of (J : JIx) : Fn := ⟨2, 2, 0,
    (.seq (.ret (.sub (.var 1) (.call J.pour (.cons (.var 0) (.cons (.blt .len (.cons (.var 1) .nil)) .nil)))))
    .nop)⟩
/-- what a jug holds, behind c draws -/
def Bj (o : O) (c : Int) : Prop := ∃ g s k : Int, o = .lst [.int g, .int s, .int k] ∧ (0 ≤ g ∧ g < 10 ^ 480) ∧ (0 ≤ s ∧ s < 1208925819614629174706176) ∧ 0 ≤ k ∧ k ≤ c
theorem Bj.up {o : O} {c d : Int} (h : Bj o c) (hd : c ≤ d) : Bj o d := by
  obtain ⟨g, s, k, h1, h2, h3, h4, h5⟩ := h
  exact ⟨g, s, k, h1, h2, h3, h4, by omega⟩
section
variable {Fs : Tab} {lf : Nat} {J : JIx}
abbrev PPour (i : Nat) (cf : Cf) : Prop := ∀ (j p : Nat) (o : O) (c tot : Int) (R : Sto), sget R j p = some o → Bj o c → c ≤ 1000000 → 1 ≤ tot → tot ≤ 10000000000000 → ∃ (v : Int) (o' : O), cf i [.ref j p, .int tot] R = .ok (.val (.int v)) (sset R j p o') ∧ 0 ≤ v ∧ v < tot ∧ Bj o' (c + 1)
theorem ok_pour (h : HasF Fs J.pour (j_pour J)) : At Fs lf 1 (PPour J.pour) := .mk fun n hn j p o c tot R hg hb hc1 ht1 ht2 => by
  obtain ⟨g, s, k, rfl, hg0, hs0, hk0, hk1⟩ := hb
  rw [run_f h]
  have t0 : ¬ tot = 0 := by omega
  have d1 : divOk tot = true := divOk_of (m := 50) (by omega) (by omega) (by omega)
  have hh : sget ([] :: R) (j + 1) p = some (.lst [.int g, .int s, .int k]) := hg
  have sub : ∀ i : Int, subX (.ref (j + 1) p) (.int i) ([] :: R) = atI [.int g, .int s, .int k] i := fun i => subX_L _ _ _ _ _ hh
  have st : ∀ (i : Int) (y : D), setO (.ref (j + 1) p) (.int i) y ([] :: R) = (L2.ixN 3 i).bind fun q => some ([] :: sset R j p (.lst ([D.int g, .int s, .int k].set q y))) := fun i y => set_lst _ _ _ _ _ hh
  have sub2 : ∀ (ds : List D) (i : Int), subX (.ref (j + 1) p) (.int i) ([] :: sset R j p (.lst ds)) = atI ds i := fun ds i => subX_L _ _ _ _ _ (show sget ([] :: sset R j p (.lst ds)) (j + 1) p = _ from sget_set_same hg)
  by_cases hp : 0 < g
  · refine ⟨g.fmod tot, .lst [.int (g.fdiv tot), .int s, .int k], ?_, Int.fmod_nonneg_of_pos _ (by omega), Int.fmod_lt_of_pos _ (by omega), g.fdiv tot, s, k, rfl, ?_, hs0, hk0, by omega⟩
    · simp [j_pour, sub, st, hp, t0, d1]
    · rw [Int.fdiv_eq_ediv_of_nonneg _ (by omega)]
      have z1 : 0 ≤ g / tot := Int.ediv_nonneg (by omega) (by omega)
      have z2 : g / tot ≤ g := Int.ediv_le_self _ (by omega)
      exact ⟨z1, Int.lt_of_le_of_lt z2 hg0.2⟩
  · obtain ⟨one, hone⟩ : ∃ one : Int, one = (s + 15485863 * (k + 1)).fmod 2305843009213693967 := ⟨_, rfl⟩
    have o1 : 0 ≤ one := by rw [hone]; exact Int.fmod_nonneg_of_pos _ (by decide)
    have o2 : one < 2305843009213693967 := by rw [hone]; exact Int.fmod_lt_of_pos _ (by decide)
    obtain ⟨two, htwo⟩ : ∃ two : Int, two = (one * one).fmod 2305843009213693951 := ⟨_, rfl⟩
    have w1 : 0 ≤ two := by rw [htwo]; exact Int.fmod_nonneg_of_pos _ (by decide)
    have w2 : two < 2305843009213693951 := by rw [htwo]; exact Int.fmod_lt_of_pos _ (by decide)
    have m1 : mulOk 15485863 (k + 1) = true := mulOk_of (n := 40) (m := 40) (by decide) (by omega) (by decide)
    have m2 : mulOk one one = true := mulOk_of (n := 64) (m := 64) (by omega) (by omega) (by decide)
    have m3 : mulOk 7 (k + 1) = true := mulOk_of (n := 40) (m := 40) (by decide) (by omega) (by decide)
    have m4 : mulOk two 32452867 = true := mulOk_of (n := 64) (m := 40) (by omega) (by decide) (by decide)
    have d2 : divOk 131072 = true := by decide +kernel
    refine ⟨((two * 32452867 + one + 7 * (k + 1)).fdiv 131072).fmod tot, .lst [.int g, .int s, .int (k + 1)], ?_, Int.fmod_nonneg_of_pos _ (by omega), Int.fmod_lt_of_pos _ (by omega), g, s, k + 1, rfl, hg0, hs0, by omega, by omega⟩
    simp [j_pour, sub, st, sub2, hp, m1, m2, ← hone, m3, m4, ← htwo, d2, t0]
abbrev POf (i : Nat) (cf : Cf) : Prop := ∀ (j p : Nat) (o : O) (c : Int) (ds : List D) (R : Sto), sget R j p = some o → Bj o c → c ≤ 1000000 → 1 ≤ ds.length → ds.length ≤ 1000 → (∀ d ∈ ds, ∀ R, retv [] R (.val d) = .ok (.val d) R) → ∃ d ∈ ds, ∃ o' : O, cf i [.ref j p, .lst ds] R = .ok (.val d) (sset R j p o') ∧ Bj o' (c + 1)
theorem ok_of (hs : At Fs lf 1 (PPour J.pour)) (h : HasF Fs J.of_ (j_of J)) : At Fs lf 2 (POf J.of_) := .mk fun n hn j p o c ds R hg hb hc1 l1 l2 hr => by
  obtain ⟨v, o', e, v0, v1, b⟩ := hs n hn (j + 1) p o c ds.length ([] :: R) hg hb hc1 (by omega) (by omega)
  have hv : v.toNat < ds.length := by omega
  refine ⟨ds[v.toNat], List.getElem_mem hv, o', ?_, b⟩
  have at_ : atI ds v = some ds[v.toNat] := by
    unfold atI L2.ixN
    rw [if_pos (by omega), if_pos (by omega)]
    exact List.getElem?_eq_getElem hv
  rw [run_f h]
  simp [j_of, e, at_, hr _ (List.getElem_mem hv)]
abbrev PJug (i : Nat) (cf : Cf) : Prop := ∀ (ns : List Int) (at_ : Nat) (R : Sto), at_ < 3 → ns.length ≤ 63 → ∃ o, (∃ ds, o = O.lst ds) ∧ cf i [.scr (ns.map D.int), .int (at_ : Int)] R = .ok (.new o) R ∧ Bj o 0
theorem ok_jug (h : HasF Fs J.jug (j_jug J)) : At Fs lf 1 (PJug J.jug) := .mk fun n hn ns i R hi hl => by
  have p1 : powOk 10 59 = true := by decide +kernel
  have p2 : powOk (10 ^ 59) 8 = true := by decide +kernel
  have p3 : powOk 10 17 = true := by decide +kernel
  have m0 : mulOk 907 (i : Int) = true := mulOk_of (n := 20) (m := 20) (by omega) (by omega) (by decide)
  have m1 : mulOk 4003 (i : Int) = true := mulOk_of (n := 40) (m := 20) (by omega) (by omega) (by decide)
  have m2 : ∀ b : Bool, mulOk 19 (if b = true then 1 else 0) = true := fun b => by cases b <;> decide +kernel
  have key : ∀ (z : Int), ∃ g s : Int, (∀ cf : Cf, ex cf lf (.seq (.asg 3 (.bin .Mod (.blt .int1 (.cons (.blt .abs (.cons (.var 2) .nil)) .nil)) (.bin .Pow (.bin .Pow (.lit (.int 10)) (.lit (.int 59))) (.lit (.int 8)))))
    (.seq (.asg 4 (.bin .Mod (.blt .int1 (.cons (.bin .Add (.bin .Add (.bin .Add (.bin .Mult (.bin .Mod (.var 3) (.lit (.int 2305843009213693921))) (.lit (.int 50021))) (.bin .Mult (.lit (.int 4003)) (.var 1))) (.bin .Mult (.lit (.int 19)) (.blt .int1 (.cons (.cmp .Lt (.var 2) (.lit (.int 0))) .nil)))) (.lit (.int 71))) .nil)) (.lit (.int 2305843009213693951))))
    (.seq (.ret (.lst (.cons (.blt .max2 (.cons (.lit (.int 0)) (.cons (.bin .Sub (.var 3) (.bin .Pow (.lit (.int 10)) (.lit (.int 17)))) .nil))) (.cons (.var 4) (.cons (.lit (.int 0)) .nil)))))
    .nop)))
      [some (.scr (ns.map D.int)), some (.int (i : Int)), some (.int z), none, none] ([] :: R) = .rt (.new (.lst [.int g, .int s, .int 0])) ([] :: R)) ∧ (0 ≤ g ∧ g < 10 ^ 480) ∧ 0 ≤ s ∧ s < 1208925819614629174706176 := by
    intro z
    obtain ⟨G, hG⟩ : ∃ G : Int, G = (if z < 0 then -z else z).fmod ((10 ^ 59) ^ 8) := ⟨_, rfl⟩
    have g0 : 0 ≤ G := by rw [hG]; exact Int.fmod_nonneg_of_pos _ (by decide +kernel)
    have g1 : G < (10 ^ 59) ^ 8 := by rw [hG]; exact Int.fmod_lt_of_pos _ (by decide +kernel)
    have q0 : 0 ≤ G.fmod 2305843009213693921 := Int.fmod_nonneg_of_pos _ (by decide)
    have q1 : G.fmod 2305843009213693921 < 2305843009213693921 := Int.fmod_lt_of_pos _ (by decide)
    have m3 : mulOk (G.fmod 2305843009213693921) 50021 = true := mulOk_of (n := 80) (m := 20) (by omega) (by omega) (by decide)
    have x1 : ¬ ((10 : Int) ^ 59) ^ 8 = 0 := by decide +kernel
    have b1 : ∀ cf σ R, ev cf lf (.bin .Pow (.bin .Pow (.lit (.int 10)) (.lit (.int 59))) (.lit (.int 8))) σ R = .ok (.val (.int ((10 ^ 59) ^ 8))) R := fun cf σ R => by
      rw [ev_bin, ev_bin, ev_lit, bindV_val, ev_lit, bindV_val, bX_int, bin_pow, if_pos p1, bindV_val, ev_lit, bindV_val, bX_int]
      show binop .Pow (.int (10 ^ 59)) (.int 8) R = _
      rw [bin_pow, if_pos p2]
      rfl
    have b2 : ∀ cf σ R, ev cf lf (.bin .Pow (.lit (.int 10)) (.lit (.int 17))) σ R = .ok (.val (.int (10 ^ 17))) R := fun cf σ R => by
      rw [ev_bin, ev_lit, bindV_val, ev_lit, bindV_val, bX_int, bin_pow, if_pos p3]
      rfl
    have s1 : ((10 : Int) ^ 59) ^ 8 ≤ 10 ^ 480 := by decide +kernel
    have s2 : (0 : Int) ≤ 10 ^ 17 := by decide +kernel
    have bb : ∀ b : Bool, (0 : Int) ≤ (if b = true then 1 else 0) ∧ (if b = true then (1 : Int) else 0) ≤ 1 := fun b => by cases b <;> decide
    have bz := bb (decide (z < 0))
    generalize hp : ((10 : Int) ^ 59) ^ 8 = Bg at *
    generalize hq : (10 : Int) ^ 17 = Bs at *
    generalize hq : (10 : Int) ^ 480 = Bt at *
    refine ⟨if G - Bs > 0 then G - Bs else 0, (G.fmod 2305843009213693921 * 50021 + 4003 * (i : Int) + 19 * (if decide (z < 0) = true then 1 else 0) + 71).fmod 2305843009213693951, fun cf => ?_, ?_, Int.fmod_nonneg_of_pos _ (by decide), Int.lt_trans (Int.fmod_lt_of_pos _ (by decide)) (by decide)⟩
    · simp only [ex_seq, ex_asg, ex_ret, ex_nop, ev_bin, ev_blt, ev_cons, ev_nil, ev_var, ev_lit, ev_lst, ev_cmp, b1, b2, List.getElem?_cons_zero, List.getElem?_cons_succ, bindV_val, bindA_many, bltX_int, blt_abs, blt_int, bX_int, bin_mod, x1, if_false, bvS_val, fz_val, List.set, ← hG, bin_mul, m3, if_true, m1, cX_int, cY_lt, cmp_lt, liftO_some, bltX_bl, blt_intb, m2, bin_add, bltX_two, blt_max, bin_sub, byvL_int, byvL_nil, show ¬ (2305843009213693921 : Int) = 0 by decide, show ¬ (2305843009213693951 : Int) = 0 by decide]
      rfl
    · split <;> omega
  rw [run_f h]
  by_cases hc : i < ns.length
  · obtain ⟨g, s, e, b1, b2⟩ := key ns[i]
    refine ⟨.lst [.int g, .int s, .int 0], ⟨_, rfl⟩, ?_, g, s, 0, rfl, b1, b2, by decide, by decide⟩
    have h1 : (i : Int) < (ns.length : Int) := by omega
    have h2 : atI (ns.map D.int) (i : Int) = some (.int ns[i]) := by
      unfold atI L2.ixN
      rw [List.length_map, if_pos (by omega), if_pos (by omega)]
      simp [hc]
    have e' := e (EV.run Fs lf n)
    simp [j_jug, h1, h2] at e' ⊢
    rw [e']
    rfl
  · obtain ⟨c0, hc0⟩ : ∃ c0 : Int, ∀ σ R, σ[0]? = some (some (.scr (ns.map D.int))) → ev (EV.run Fs lf n) lf (.blt .int1 (.cons (.blt .sum (.cons (.slc (.var 0) (.lit .non) (.lit (.int 1))) .nil)) .nil)) σ R = .ok (.val (.int c0)) R := by
      cases ns with
      | nil => exact ⟨0, fun σ R h => by simp only [ev_blt, ev_cons, ev_slc, ev_var, h, ev_nil, ev_lit, bindV_val]; rfl⟩
      | cons a t => exact ⟨a + 0, fun σ R h => by simp only [ev_blt, ev_cons, ev_slc, ev_var, h, ev_nil, ev_lit, bindV_val]; rfl⟩
    obtain ⟨g, s, e, b1, b2⟩ := key (907 * (i : Int) + 37 + c0.fmod 1000033)
    refine ⟨.lst [.int g, .int s, .int 0], ⟨_, rfl⟩, ?_, g, s, 0, rfl, b1, b2, by decide, by decide⟩
    have h1 : ¬ (i : Int) < (ns.length : Int) := by omega
    have hd : decide ((i : Int) < (ns.length : Int)) = false := decide_eq_false h1
    have s1 : ex (EV.run Fs lf n) lf (.asg 2 (.ife (.cmp .Lt (.var 1) (.blt .len (.cons (.var 0) .nil))) (.blt .int1 (.cons (.sub (.var 0) (.var 1)) .nil)) (.bin .Add (.bin .Add (.bin .Mult (.lit (.int 907)) (.var 1)) (.lit (.int 37))) (.bin .Mod (.blt .int1 (.cons (.blt .sum (.cons (.slc (.var 0) (.lit .non) (.lit (.int 1))) .nil)) .nil)) (.lit (.int 1000033)))))) [some (.scr (ns.map D.int)), some (.int (i : Int)), none, none, none] ([] :: R) = .nx [some (.scr (ns.map D.int)), some (.int (i : Int)), some (.int (907 * (i : Int) + 37 + c0.fmod 1000033)), none, none] ([] :: R) := by
      have hc1 := hc0 [some (.scr (ns.map D.int)), some (.int (i : Int)), none, none, none] ([] :: R) rfl
      rw [ex_asg, ev_ife, ev_cmp, ev_var]
      have l0 : ev (EV.run Fs lf n) lf (.blt .len (.cons (.var 0) .nil)) [some (.scr (ns.map D.int)), some (.int (i : Int)), none, none, none] ([] :: R) = .ok (.val (.int (ns.length : Int))) ([] :: R) := by
        simp only [ev_blt, ev_cons, ev_var, ev_nil, List.getElem?_cons_zero, bindV_val, bindA_many, bltX_scr, blt_len_scr, List.length_map]
      simp only [l0, List.getElem?_cons_zero, List.getElem?_cons_succ, bindV_val, cX_int, cY_lt, cmp_lt, liftO_some, hd, truth_bl]
      simp only [ev_bin, hc1, ev_lit, ev_var, List.getElem?_cons_zero, List.getElem?_cons_succ, bindV_val, bX_int, bin_mul, m0, if_true, bin_add, bin_mod, show ¬ (1000033 : Int) = 0 by decide, if_false, bvS_val, fz_val, List.set]
    refine (if_pos rfl).trans ?_
    show finR (ex _ lf (.seq (.asg 2 _) _) [some (.scr (ns.map D.int)), some (.int (i : Int)), none, none, none] ([] :: R)) = _
    rw [ex_seq, s1]
    exact (congrArg finR (e _)).trans rfl
end
end EV

/-! HI: fours that are integers, fours that turn. -/
namespace HQ
def intH (n : Int) : H := ⟨(n : Rat), 0, 0, 0⟩
theorem ofE_int (n : Int) : ofE 1 n 0 0 0 = intH n := by
  have h1 : ((1 : Int) : Rat) = 1 := rfl
  have h0 : ((0 : Int) : Rat) = 0 := rfl
  unfold ofE intH
  rw [h1, h0]
  refine H.ext' ?_ ?_ ?_ ?_ <;> (simp only; grind)
theorem rep_int (n : Int) : rep (intH n) = ⟨1, n, 0, 0, 0⟩ := by
  rw [← ofE_int, ← low_rep (by decide)]
  have hs : s5 1 n 0 0 0 = 1 := by
    unfold s5 g5
    rw [if_pos (by decide)]
    simp
  unfold low
  rw [hs]
  simp
theorem is_int (v : H) (n : Int) : (decide ((rep v).b = 1) && decide ((rep v).e0 = n ∧ (rep v).e1 = 0 ∧ (rep v).e2 = 0 ∧ (rep v).e3 = 0)) = decide (v = intH n) := by
  rw [Bool.eq_iff_iff, Bool.and_eq_true, decide_eq_true_iff, decide_eq_true_iff, decide_eq_true_iff]
  constructor
  · rintro ⟨h1, h2, h3, h4, h5⟩
    rw [← of_rep v, h1, h2, h3, h4, h5, ofE_int]
  · rintro rfl
    rw [rep_int]
    exact ⟨rfl, rfl, rfl, rfl, rfl⟩
/-- the law's own products -/
def t0 (a b : Int) (p q : E5) : Int := p.e0 * q.e0 + a * p.e1 * q.e1 + b * p.e2 * q.e2 - a * b * p.e3 * q.e3
def t1 (a b : Int) (p q : E5) : Int := p.e0 * q.e1 + p.e1 * q.e0 - b * p.e2 * q.e3 + b * p.e3 * q.e2
def t2 (a b : Int) (p q : E5) : Int := p.e0 * q.e2 + a * p.e1 * q.e3 + p.e2 * q.e0 - a * p.e3 * q.e1
def t3 (a b : Int) (p q : E5) : Int := p.e0 * q.e3 + p.e1 * q.e2 - p.e2 * q.e1 + p.e3 * q.e0
theorem t0_eq (a b : Int) (p q : E5) : t0 a b p q = pw a b p q := by unfold t0 pw; grind
theorem t1_eq (a b : Int) (p q : E5) : t1 a b p q = px a b p q := by unfold t1 px; grind
theorem t2_eq (a b : Int) (p q : E5) : t2 a b p q = py a b p q := by unfold t2 py; grind
theorem t3_eq (a b : Int) (p q : E5) : t3 a b p q = pz a b p q := by unfold t3 pz; grind
theorem mul_t (a b : Int) (v u : H) : mulH a b v u = ofE ((rep v).b * (rep u).b) (t0 a b (rep v) (rep u)) (t1 a b (rep v) (rep u)) (t2 a b (rep v) (rep u)) (t3 a b (rep v) (rep u)) := by
  rw [t0_eq, t1_eq, t2_eq, t3_eq, of_mul a b (rep_ne v) (rep_ne u), ofS_rep, ofS_rep]
theorem bb_ne (v u : H) : (rep v).b * (rep u).b ≠ 0 := Int.mul_ne_zero (rep_ne v) (rep_ne u)
theorem div_int {x d n : Int} (h : d ≠ 0) : (x : Rat) / (d : Rat) = (n : Rat) ↔ x = n * d := by
  have h1 : ((1 : Int) : Rat) = 1 := rfl
  have e : (n : Rat) = (n : Rat) / ((1 : Int) : Rat) := by rw [h1]; grind
  rw [e, div_eq h (by decide), Int.mul_one]
theorem sq_iff (a b n : Int) (v : H) : decide (t0 a b (rep v) (rep v) = n * (rep v).b * (rep v).b ∧ t1 a b (rep v) (rep v) = 0 ∧ t2 a b (rep v) (rep v) = 0 ∧ t3 a b (rep v) (rep v) = 0) = decide (mulH a b v v = intH n) := by
  rw [mul_t]
  have h0 : ((0 : Int) : Rat) = 0 := rfl
  have hb := bb_ne v v
  rw [Bool.eq_iff_iff, decide_eq_true_iff, decide_eq_true_iff]
  generalize t0 a b (rep v) (rep v) = x0
  generalize t1 a b (rep v) (rep v) = x1
  generalize t2 a b (rep v) (rep v) = x2
  generalize t3 a b (rep v) (rep v) = x3
  constructor
  · rintro ⟨h1, h2, h3, h4⟩
    refine H.ext' ?_ ?_ ?_ ?_
    · exact (div_int hb).mpr (by rw [h1, Int.mul_assoc])
    · show _ = ((0 : Int) : Rat)
      exact (div_int hb).mpr (by rw [h2, Int.zero_mul])
    · show _ = ((0 : Int) : Rat)
      exact (div_int hb).mpr (by rw [h3, Int.zero_mul])
    · show _ = ((0 : Int) : Rat)
      exact (div_int hb).mpr (by rw [h4, Int.zero_mul])
  · intro h
    have e0 := congrArg H.w h
    have e1 := congrArg H.x h
    have e2 := congrArg H.y h
    have e3 := congrArg H.z h
    simp only [ofE, intH] at e0 e1 e2 e3
    rw [← h0] at e1 e2 e3
    rw [div_int hb] at e0 e1 e2 e3
    refine ⟨by rw [e0, Int.mul_assoc], ?_, ?_, ?_⟩
    · rw [e1, Int.zero_mul]
    · rw [e2, Int.zero_mul]
    · rw [e3, Int.zero_mul]
theorem turn_iff (a b : Int) (v u : H) : decide (t0 a b (rep v) (rep u) = 0 - t0 a b (rep u) (rep v) ∧ t1 a b (rep v) (rep u) = 0 - t1 a b (rep u) (rep v) ∧ t2 a b (rep v) (rep u) = 0 - t2 a b (rep u) (rep v) ∧ t3 a b (rep v) (rep u) = 0 - t3 a b (rep u) (rep v)) = decide (mulH a b v u = negH (mulH a b u v)) := by
  rw [mul_t, mul_t a b u v, Int.mul_comm (rep u).b]
  have hb := bb_ne v u
  generalize (rep v).b * (rep u).b = d at *
  generalize t0 a b (rep v) (rep u) = x0
  generalize t1 a b (rep v) (rep u) = x1
  generalize t2 a b (rep v) (rep u) = x2
  generalize t3 a b (rep v) (rep u) = x3
  generalize t0 a b (rep u) (rep v) = y0
  generalize t1 a b (rep u) (rep v) = y1
  generalize t2 a b (rep u) (rep v) = y2
  generalize t3 a b (rep u) (rep v) = y3
  have key : ∀ x y : Int, ((x : Rat) / (d : Rat) = -((y : Rat) / (d : Rat))) ↔ x = 0 - y := fun x y => by
    have e : -((y : Rat) / (d : Rat)) = ((0 - y : Int) : Rat) / (d : Rat) := by
      have : ((0 - y : Int) : Rat) = -(y : Rat) := by rw [Int.zero_sub, Rat.intCast_neg]
      rw [this]
      grind
    rw [e, div_eq hb hb]
    exact ⟨fun h => Int.eq_of_mul_eq_mul_right hb h, fun h => by rw [h]⟩
  rw [Bool.eq_iff_iff, decide_eq_true_iff, decide_eq_true_iff]
  constructor
  · rintro ⟨h1, h2, h3, h4⟩
    exact H.ext' ((key _ _).mpr h1) ((key _ _).mpr h2) ((key _ _).mpr h3) ((key _ _).mpr h4)
  · intro h
    exact ⟨(key _ _).mp (congrArg H.w h), (key _ _).mp (congrArg H.x h), (key _ _).mp (congrArg H.y h), (key _ _).mp (congrArg H.z h)⟩
end HQ

/-! HI2: fours led by a four. -/
namespace EV
open HQ
section
variable (a b : Int) (v p q : H)
theorem ci_scl (r : Rat) : mulH a b p (sclH r q) = sclH r (mulH a b p q) := by
  simp only [mulH, sclH]; refine H.ext' ?_ ?_ ?_ ?_ <;> grind
theorem ci_scl2 (r : Rat) : mulH a b (sclH r p) q = sclH r (mulH a b p q) := by
  simp only [mulH, sclH]; refine H.ext' ?_ ?_ ?_ ?_ <;> grind
theorem ci_mate : mulH a b v (mateH v) = sclH (nrmH a b v) oneH := by
  simp only [mulH, mateH, sclH, nrmH, oneH]; refine H.ext' ?_ ?_ ?_ ?_ <;> grind
theorem ci_mate2 : mulH a b (mateH v) v = sclH (nrmH a b v) oneH := by
  simp only [mulH, mateH, sclH, nrmH, oneH]; refine H.ext' ?_ ?_ ?_ ?_ <;> grind
theorem ci_one : mulH a b oneH p = p := by
  simp only [mulH, oneH]; refine H.ext' ?_ ?_ ?_ ?_ <;> grind
theorem ci_inv (h : nrmH a b v ≠ 0) : mulH a b v (invH a b v) = oneH := by
  unfold invH
  rw [ci_scl, ci_mate]
  simp only [sclH, oneH]; refine H.ext' ?_ ?_ ?_ ?_ <;> grind
theorem ci_inv2 (h : nrmH a b v ≠ 0) : mulH a b (invH a b v) v = oneH := by
  unfold invH
  rw [ci_scl2, ci_mate2]
  simp only [sclH, oneH]; refine H.ext' ?_ ?_ ?_ ?_ <;> grind
/-- a four led by one -/
def cj : H := mulH a b (mulH a b v p) (invH a b v)
theorem cj_mul (h : nrmH a b v ≠ 0) : mulH a b (cj a b v p) (cj a b v q) = cj a b v (mulH a b p q) := by
  unfold cj
  rw [mulH_assoc, ← mulH_assoc a b (invH a b v), ← mulH_assoc a b (invH a b v), ci_inv2 a b v h, ci_one, ← mulH_assoc, ← mulH_assoc]
theorem cj_neg : cj a b v (negH p) = negH (cj a b v p) := by
  have e1 : ∀ r s, mulH a b r (negH s) = negH (mulH a b r s) := fun r s => by
    simp only [mulH, negH]; refine H.ext' ?_ ?_ ?_ ?_ <;> grind
  have e2 : ∀ r s, mulH a b (negH r) s = negH (mulH a b r s) := fun r s => by
    simp only [mulH, negH]; refine H.ext' ?_ ?_ ?_ ?_ <;> grind
  unfold cj
  rw [e1, e2]
theorem cj_int (h : nrmH a b v ≠ 0) (n : Int) : cj a b v (intH n) = intH n := by
  have e1 : intH n = sclH (n : Rat) oneH := by
    simp only [intH, sclH, oneH]; refine H.ext' ?_ ?_ ?_ ?_ <;> grind
  have e2 : mulH a b v oneH = v := by
    simp only [mulH, oneH]; refine H.ext' ?_ ?_ ?_ ?_ <;> grind
  unfold cj
  rw [e1, ci_scl, e2, ci_scl2, ci_inv a b v h]
theorem ii : mulH a b iH iH = intH a := by simp only [mulH, iH, intH]; refine H.ext' ?_ ?_ ?_ ?_ <;> grind
theorem jj : mulH a b jH jH = intH b := by simp only [mulH, jH, intH]; refine H.ext' ?_ ?_ ?_ ?_ <;> grind
theorem ij : mulH a b iH jH = kH := by simp only [mulH, iH, jH, kH]; refine H.ext' ?_ ?_ ?_ ?_ <;> grind
theorem ji : mulH a b jH iH = negH kH := by simp only [mulH, iH, jH, kH, negH]; refine H.ext' ?_ ?_ ?_ ?_ <;> grind
theorem kk : mulH a b kH kH = intH (0 - a * b) := by
  have : ((0 - a * b : Int) : Rat) = -((a : Rat) * b) := by rw [Int.zero_sub, Rat.intCast_neg, Rat.intCast_mul]
  simp only [mulH, kH, intH, this]; refine H.ext' ?_ ?_ ?_ ?_ <;> grind
theorem ki : mulH a b kH iH = negH (mulH a b iH kH) := by simp only [mulH, iH, kH, negH]; refine H.ext' ?_ ?_ ?_ ?_ <;> grind
theorem neg_neg' : negH (negH p) = p := by simp only [negH]; refine H.ext' ?_ ?_ ?_ ?_ <;> grind
/-- the led i and j are images -/
theorem im1 (h : nrmH a b v ≠ 0) : mulH a b (cj a b v iH) (cj a b v iH) = intH a := by rw [cj_mul a b v _ _ h, ii, cj_int a b v h]
theorem im2 (h : nrmH a b v ≠ 0) : mulH a b (cj a b v jH) (cj a b v jH) = intH b := by rw [cj_mul a b v _ _ h, jj, cj_int a b v h]
theorem im3 (h : nrmH a b v ≠ 0) : mulH a b (cj a b v iH) (cj a b v jH) = negH (mulH a b (cj a b v jH) (cj a b v iH)) := by
  rw [cj_mul a b v _ _ h, cj_mul a b v _ _ h, ij, ji, cj_neg, neg_neg']
theorem im4 (h : nrmH a b v ≠ 0) : mulH a b (mulH a b (cj a b v iH) (cj a b v jH)) (mulH a b (cj a b v iH) (cj a b v jH)) = intH (0 - a * b) := by
  rw [cj_mul a b v _ _ h, cj_mul a b v _ _ h, ij, kk, cj_int a b v h]
theorem im5 (h : nrmH a b v ≠ 0) : mulH a b (cj a b v iH) (mulH a b (cj a b v iH) (cj a b v jH)) = negH (mulH a b (mulH a b (cj a b v iH) (cj a b v jH)) (cj a b v iH)) := by
  rw [cj_mul a b v _ _ h, cj_mul a b v _ _ h, cj_mul a b v _ _ h, ij, ki, cj_neg, neg_neg']
end
end EV

namespace K23
open PySem PySem.Spec PyProof.Rows L2 EV

def top (i : Nat) : Stmt := PySem.Challenge.pw_signfours_k23_images_judged.main.body.getD i (.Pass ⟨0, 0, 0, 0⟩)
/-- is_whole -/
abbrev st0 : Stmt := top 14
def N0 : List Str := ["value"]
def P0 : List Str := ["value"]
def c0 : S :=
    (.seq (.ret (.andE (.isi (.var 0) .int) (.notE (.isi (.var 0) .bool))))
    .nop)
def f0 : Fn := ⟨1, 1, 0, c0⟩
/-- is_integer -/
abbrev st1 : Stmt := top 15
def N1 : List Str := ["value"]
def P1 : List Str := ["value"]
def c1 : S :=
    (.seq (.ret (.andE (.call 0 (.cons (.var 0) .nil)) (.chn .Lt .Lt (.neg (.glob 0 (.int 1000000000000000000000000000000000000000000000000000000000000))) (.var 0) (.glob 0 (.int 1000000000000000000000000000000000000000000000000000000000000)))))
    .nop)
def f1 : Fn := ⟨1, 1, 0, c1⟩
/-- require_integer -/
abbrev st2 : Stmt := top 16
def N2 : List Str := ["value"]
def P2 : List Str := ["value"]
def c2 : S :=
    (.seq (.ifS (.notE (.call 1 (.cons (.var 0) .nil)))
      (.seq .never
      .nop)
      .nop)
    .nop)
def f2 : Fn := ⟨1, 1, 0, c2⟩
/-- common_of -/
abbrev st3 : Stmt := top 17
def N3 : List Str := ["one", "other"]
def P3 : List Str := ["one", "other"]
def c3 : S :=
    (.seq (.par2 0 1 none none (.blt .abs (.cons (.var 0) .nil)) (.blt .abs (.cons (.var 1) .nil)))
    (.seq (.whl (.cmp .NotEq (.var 1) (.lit (.int 0)))
      (.seq (.par2 0 1 none none (.var 1) (.bin .Mod (.var 0) (.var 1)))
      .nop))
    (.seq (.ret (.var 0))
    .nop)))
def f3 : Fn := ⟨2, 2, 0, c3⟩
/-- sign_of_integer -/
abbrev st4 : Stmt := top 21
def N4 : List Str := ["number"]
def P4 : List Str := ["number"]
def c4 : S :=
    (.seq (.ret (.bin .Sub (.blt .int1 (.cons (.cmp .Gt (.var 0) (.lit (.int 0))) .nil)) (.blt .int1 (.cons (.cmp .Lt (.var 0) (.lit (.int 0))) .nil))))
    .nop)
def f4 : Fn := ⟨1, 1, 0, c4⟩
/-- ratio_of -/
abbrev st5 : Stmt := top 22
def N5 : List Str := ["top", "bottom"]
def P5 : List Str := ["top", "bottom"]
def c5 : S :=
    (.seq (.ret (.new 72057947860265327 (.cons (.new 72057956517178739 (.cons (.var 0) (.cons (.var 1) .nil)) []) (.cons (.lit (.int 1)) .nil)) []))
    .nop)
def f5 : Fn := ⟨2, 2, 0, c5⟩
/-- is_ratio_or_integer -/
abbrev st6 : Stmt := top 24
def N6 : List Str := ["value"]
def P6 : List Str := ["value"]
def c6 : S :=
    (.seq (.ret (.orE (.isiC (.var 0) 72057947860265327 [4722384897934469788257, 281476158420338, 72057939270202483, 72057947860265327, 72057956517178739]) (.call 1 (.cons (.var 0) .nil))))
    .nop)
def f6 : Fn := ⟨1, 1, 0, c6⟩
/-- told_ratio -/
abbrev st7 : Stmt := top 25
def N7 : List Str := ["value"]
def P7 : List Str := ["value"]
def c7 : S :=
    (.seq (.ifS (.isiC (.var 0) 72057947860265327 [4722384897934469788257, 281476158420338, 72057939270202483, 72057947860265327, 72057956517178739])
      (.seq (.ret (.var 0))
      .nop)
      .nop)
    (.seq (.ifS (.notE (.call 1 (.cons (.var 0) .nil)))
      (.seq .never
      .nop)
      .nop)
    (.seq (.ret (.call 5 (.cons (.var 0) (.cons (.lit (.int 1)) .nil))))
    .nop)))
def f7 : Fn := ⟨1, 1, 0, c7⟩
/-- is_number -/
abbrev st8 : Stmt := top 28
def N8 : List Str := ["value"]
def P8 : List Str := ["value"]
def c8 : S :=
    (.seq (.ret (.andE (.call 0 (.cons (.var 0) .nil)) (.andE (.cmp .NotEq (.var 0) (.lit (.int 0))) (.chn .LtE .LtE (.neg (.glob 1 (.int 1000000000))) (.var 0) (.glob 1 (.int 1000000000))))))
    .nop)
def f8 : Fn := ⟨1, 1, 0, c8⟩
/-- require_number -/
abbrev st9 : Stmt := top 29
def N9 : List Str := ["value"]
def P9 : List Str := ["value"]
def c9 : S :=
    (.seq (.ifS (.notE (.call 8 (.cons (.var 0) .nil)))
      (.seq .never
      .nop)
      .nop)
    .nop)
def f9 : Fn := ⟨1, 1, 0, c9⟩
/-- factors_of -/
abbrev st10 : Stmt := top 30
def N10 : List Str := ["number", "found", "left", "factor"]
def P10 : List Str := ["number"]
def c10 : S :=
    (.seq (.par2 1 2 (some 0) none .dnew (.blt .abs (.cons (.var 0) .nil)))
    (.seq (.asg 3 (.lit (.int 2)))
    (.seq (.whl (.cmp .LtE (.bin .Mult (.var 3) (.var 3)) (.var 2))
      (.seq (.whl (.cmp .Eq (.bin .Mod (.var 2) (.var 3)) (.lit (.int 0)))
        (.seq (.sets (.var 1) (.var 3) (.bin .Add (.dget (.var 1) (.var 3) (.lit (.int 0))) (.lit (.int 1))))
        (.seq (.aug 2 .FloorDiv (.var 3))
        .nop)))
      (.seq (.aug 3 .Add (.ife (.cmp .Eq (.var 3) (.lit (.int 2))) (.lit (.int 1)) (.lit (.int 2))))
      .nop)))
    (.seq (.ifS (.cmp .Gt (.var 2) (.lit (.int 1)))
      (.seq (.sets (.var 1) (.var 2) (.bin .Add (.dget (.var 1) (.var 2) (.lit (.int 0))) (.lit (.int 1))))
      .nop)
      .nop)
    (.seq (.ret (.var 1))
    .nop)))))
def f10 : Fn := ⟨1, 4, 1, c10⟩
/-- power_rest -/
abbrev st11 : Stmt := top 31
def N11 : List Str := ["base", "exponent", "modulus", "found", "factor", "left"]
def P11 : List Str := ["base", "exponent", "modulus"]
def c11 : S :=
    (.seq (.par3 3 4 5 (.bin .Mod (.lit (.int 1)) (.var 2)) (.bin .Mod (.var 0) (.var 2)) (.var 1))
    (.seq (.whl (.cmp .Gt (.var 5) (.lit (.int 0)))
      (.seq (.ifS (.cmp .Eq (.bin .Mod (.var 5) (.lit (.int 2))) (.lit (.int 1)))
        (.seq (.asg 3 (.bin .Mod (.bin .Mult (.var 3) (.var 4)) (.var 2)))
        .nop)
        .nop)
      (.seq (.asg 4 (.bin .Mod (.bin .Mult (.var 4) (.var 4)) (.var 2)))
      (.seq (.aug 5 .FloorDiv (.lit (.int 2)))
      .nop))))
    (.seq (.ret (.var 3))
    .nop)))
def f11 : Fn := ⟨3, 6, 0, c11⟩
/-- residue_sign_of -/
abbrev st12 : Stmt := top 32
def N12 : List Str := ["number", "prime"]
def P12 : List Str := ["number", "prime"]
def c12 : S :=
    (.seq (.ifS (.cmp .Eq (.bin .Mod (.var 0) (.var 1)) (.lit (.int 0)))
      (.seq (.ret (.lit (.int 0)))
      .nop)
      .nop)
    (.seq (.ifS (.cmp .Eq (.var 1) (.lit (.int 2)))
      (.seq (.ret (.ife (.cmp .In (.bin .Mod (.var 0) (.lit (.int 8))) (.tup (.cons (.lit (.int 1)) (.cons (.lit (.int 7)) .nil)))) (.lit (.int 1)) (.neg (.lit (.int 1)))))
      .nop)
      .nop)
    (.seq (.ret (.ife (.cmp .Eq (.call 11 (.cons (.var 0) (.cons (.bin .FloorDiv (.bin .Sub (.var 1) (.lit (.int 1))) (.lit (.int 2))) (.cons (.var 1) .nil)))) (.lit (.int 1))) (.lit (.int 1)) (.neg (.lit (.int 1)))))
    .nop)))
def f12 : Fn := ⟨2, 2, 0, c12⟩
/-- parted_by -/
abbrev st13 : Stmt := top 33
def N13 : List Str := ["number", "prime", "many", "left"]
def P13 : List Str := ["number", "prime"]
def c13 : S :=
    (.seq (.par2 2 3 none none (.lit (.int 0)) (.var 0))
    (.seq (.whl (.cmp .Eq (.bin .Mod (.var 3) (.var 1)) (.lit (.int 0)))
      (.seq (.par2 2 3 none none (.bin .Add (.var 2) (.lit (.int 1))) (.bin .FloorDiv (.var 3) (.var 1)))
      .nop))
    (.seq (.ret (.tup (.cons (.var 2) (.cons (.var 3) .nil))))
    .nop)))
def f13 : Fn := ⟨2, 4, 0, c13⟩
/-- raw_product -/
abbrev st14 : Stmt := top 35
def N14 : List Str := ["a", "b", "one", "other", "w", "x", "y", "z", "s", "t", "u", "v", "first", "second"]
def P14 : List Str := ["a", "b", "one", "other"]
def c14 : S :=
    (.seq (.unp [4, 5, 6, 7] (.var 2))
    (.seq (.unp [8, 9, 10, 11] (.var 3))
    (.seq (.asg 12 (.bin .Add (.bin .Add (.bin .Mult (.var 4) (.var 8)) (.bin .Mult (.bin .Mult (.var 0) (.var 5)) (.var 9))) (.bin .Mult (.var 1) (.bin .Sub (.bin .Mult (.var 6) (.var 10)) (.bin .Mult (.bin .Mult (.var 0) (.var 7)) (.var 11))))))
    (.seq (.asg 13 (.bin .Add (.bin .Add (.bin .Mult (.var 4) (.var 9)) (.bin .Mult (.var 5) (.var 8))) (.bin .Mult (.var 1) (.bin .Sub (.bin .Mult (.var 7) (.var 10)) (.bin .Mult (.var 6) (.var 11))))))
    (.seq (.ret (.tup (.cons (.var 12) (.cons (.var 13) (.cons (.bin .Add (.bin .Add (.bin .Mult (.var 4) (.var 10)) (.bin .Mult (.var 6) (.var 8))) (.bin .Mult (.var 0) (.bin .Sub (.bin .Mult (.var 5) (.var 11)) (.bin .Mult (.var 7) (.var 9))))) (.cons (.bin .Sub (.bin .Add (.bin .Add (.bin .Mult (.var 4) (.var 11)) (.bin .Mult (.var 7) (.var 8))) (.bin .Mult (.var 5) (.var 10))) (.bin .Mult (.var 6) (.var 9))) .nil))))))
    .nop)))))
def f14 : Fn := ⟨4, 14, 0, c14⟩
/-- raw_mate -/
abbrev st15 : Stmt := top 36
def N15 : List Str := ["one"]
def P15 : List Str := ["one"]
def c15 : S :=
    (.seq (.ret (.tup (.cons (.sub (.var 0) (.lit (.int 0))) (.cons (.neg (.sub (.var 0) (.lit (.int 1)))) (.cons (.neg (.sub (.var 0) (.lit (.int 2)))) (.cons (.neg (.sub (.var 0) (.lit (.int 3)))) .nil))))))
    .nop)
def f15 : Fn := ⟨1, 1, 0, c15⟩
/-- raw_norm -/
abbrev st16 : Stmt := top 37
def N16 : List Str := ["a", "b", "one", "w", "x", "y", "z"]
def P16 : List Str := ["a", "b", "one"]
def c16 : S :=
    (.seq (.unp [3, 4, 5, 6] (.var 2))
    (.seq (.ret (.bin .Sub (.bin .Sub (.bin .Mult (.var 3) (.var 3)) (.bin .Mult (.bin .Mult (.var 0) (.var 4)) (.var 4))) (.bin .Mult (.var 1) (.bin .Sub (.bin .Mult (.var 5) (.var 5)) (.bin .Mult (.bin .Mult (.var 0) (.var 6)) (.var 6))))))
    .nop))
def f16 : Fn := ⟨3, 7, 0, c16⟩
/-- sign_by_two -/
abbrev st17 : Stmt := top 40
def N17 : List Str := ["left", "right", "many_left", "many_right", "both", "found"]
def P17 : List Str := ["left", "right", "many_left", "many_right"]
def c17 : S :=
    (.seq (.asg 4 (.bin .Mult (.bin .FloorDiv (.bin .Sub (.var 0) (.lit (.int 1))) (.lit (.int 2))) (.bin .FloorDiv (.bin .Sub (.var 1) (.lit (.int 1))) (.lit (.int 2)))))
    (.seq (.asg 5 (.bin .Add (.bin .Add (.var 4) (.bin .Mult (.var 2) (.bin .FloorDiv (.bin .Sub (.bin .Mult (.var 1) (.var 1)) (.lit (.int 1))) (.lit (.int 8))))) (.bin .Mult (.var 3) (.bin .FloorDiv (.bin .Sub (.bin .Mult (.var 0) (.var 0)) (.lit (.int 1))) (.lit (.int 8))))))
    (.seq (.ret (.ife (.cmp .Eq (.bin .Mod (.var 5) (.lit (.int 2))) (.lit (.int 0))) (.lit (.int 1)) (.neg (.lit (.int 1)))))
    .nop)))
def f17 : Fn := ⟨4, 6, 0, c17⟩
/-- sign_by_prime -/
abbrev st18 : Stmt := top 41
def N18 : List Str := ["a", "b", "prime", "many_left", "left", "many_right", "right", "found"]
def P18 : List Str := ["a", "b", "prime"]
def c18 : S :=
    (.seq (.unp [3, 4] (.call 13 (.cons (.var 0) (.cons (.var 2) .nil))))
    (.seq (.unp [5, 6] (.call 13 (.cons (.var 1) (.cons (.var 2) .nil))))
    (.seq (.ifS (.cmp .Eq (.var 2) (.lit (.int 2)))
      (.seq (.ret (.call 17 (.cons (.var 4) (.cons (.var 6) (.cons (.var 3) (.cons (.var 5) .nil))))))
      .nop)
      .nop)
    (.seq (.asg 7 (.ife (.cmp .Eq (.bin .Mod (.bin .Mult (.var 3) (.var 5)) (.lit (.int 2))) (.lit (.int 1))) (.call 12 (.cons (.neg (.lit (.int 1))) (.cons (.var 2) .nil))) (.lit (.int 1))))
    (.seq (.aug 7 .Mult (.ife (.cmp .Eq (.bin .Mod (.var 5) (.lit (.int 2))) (.lit (.int 1))) (.call 12 (.cons (.var 4) (.cons (.var 2) .nil))) (.lit (.int 1))))
    (.seq (.ret (.bin .Mult (.var 7) (.ife (.cmp .Eq (.bin .Mod (.var 3) (.lit (.int 2))) (.lit (.int 1))) (.call 12 (.cons (.var 6) (.cons (.var 2) .nil))) (.lit (.int 1)))))
    .nop))))))
def f18 : Fn := ⟨3, 8, 0, c18⟩
/-- sign_of -/
abbrev st19 : Stmt := top 42
def N19 : List Str := ["a", "b", "place"]
def P19 : List Str := ["a", "b", "place"]
def c19 : S :=
    (.seq (.ifS (.cmp .Eq (.var 2) (.glob 2 (.int 0)))
      (.seq (.ret (.ife (.andE (.cmp .Lt (.var 0) (.lit (.int 0))) (.cmp .Lt (.var 1) (.lit (.int 0)))) (.neg (.lit (.int 1))) (.lit (.int 1))))
      .nop)
      .nop)
    (.seq (.ret (.call 18 (.cons (.var 0) (.cons (.var 1) (.cons (.var 2) .nil)))))
    .nop))
def f19 : Fn := ⟨3, 3, 0, c19⟩
/-- places_of -/
abbrev st20 : Stmt := top 43
def N20 : List Str := ["a", "b", "near", "place"]
def P20 : List Str := ["a", "b"]
def c20 : S :=
    (.seq (.asg 2 (.blt .sorted1 (.cons (.dspr (.glob 2 (.int 0)) (.lit (.bl true)) (.lit (.int 2)) (.lit (.bl true)) (.call 10 (.cons (.var 0) .nil)) (.call 10 (.cons (.var 1) .nil))) .nil)))
    (.seq (.ret (.blt .tuple (.cons (.comp (.var 3) [3] (.var 2) (.cmp .Eq (.call 19 (.cons (.var 0) (.cons (.var 1) (.cons (.var 3) .nil)))) (.neg (.lit (.int 1))))) .nil)))
    .nop))
def f20 : Fn := ⟨2, 4, 0, c20⟩
/-- lowest -/
abbrev st21 : Stmt := top 49
def N21 : List Str := ["entries", "bottom", "common", "entry", "share"]
def P21 : List Str := ["entries", "bottom"]
def c21 : S :=
    (.seq (.asg 2 (.blt .abs (.cons (.var 1) .nil)))
    (.seq (.forS [3] (.var 0)
      (.seq (.asg 2 (.call 3 (.cons (.var 2) (.cons (.blt .abs (.cons (.var 3) .nil)) .nil))))
      .nop))
    (.seq (.asg 4 (.ife (.cmp .Gt (.var 1) (.lit (.int 0))) (.var 2) (.neg (.var 2))))
    (.seq (.ret (.tup (.cons (.blt .tuple (.cons (.comp (.bin .FloorDiv (.var 3) (.var 4)) [3] (.var 0) (.lit (.bl true))) .nil)) (.cons (.bin .FloorDiv (.var 1) (.var 4)) .nil))))
    .nop))))
def f21 : Fn := ⟨2, 5, 0, c21⟩
/-- parts_told -/
abbrev st22 : Stmt := top 54
def N22 : List Str := ["entries", "bottom", "one"]
def P22 : List Str := ["entries", "bottom"]
def c22 : S :=
    (.seq (.ifS (.isiC (.var 0) 72057939270202483 [4722384897934469788257, 281476158420338, 72057939270202483, 72057947860265327, 72057956517178739])
      (.seq (.ret (.var 0))
      .nop)
      .nop)
    (.seq (.ifS (.orE (.notE (.isi (.var 0) .tuple)) (.orE (.cmp .NotEq (.blt .len (.cons (.var 0) .nil)) (.glob 3 (.int 4))) (.notE (.blt .all (.cons (.comp (.call 1 (.cons (.var 2) .nil)) [2] (.var 0) (.lit (.bl true))) .nil)))))
      (.seq .never
      .nop)
      .nop)
    (.seq (.ifS (.orE (.notE (.call 1 (.cons (.var 1) .nil))) (.cmp .Eq (.var 1) (.lit (.int 0))))
      (.seq .never
      .nop)
      .nop)
    (.seq (.ret (.new 72057939270202483 (.cons (.var 0) (.cons (.var 1) .nil)) []))
    .nop))))
def f22 : Fn := ⟨2, 3, 0, c22⟩
/-- four_made -/
abbrev st23 : Stmt := top 56
def N23 : List Str := ["algebra", "entries", "bottom"]
def P23 : List Str := ["algebra", "entries", "bottom"]
def c23 : S :=
    (.seq (.ret (.new 281476158420338 (.cons (.var 0) (.cons (.new 72057939270202483 (.cons (.var 1) (.cons (.var 2) .nil)) []) .nil)) [(.int 1)]))
    .nop)
def f23 : Fn := ⟨3, 3, 0, c23⟩
/-- require_algebra -/
abbrev st24 : Stmt := top 57
def N24 : List Str := ["value"]
def P24 : List Str := ["value"]
def c24 : S :=
    (.seq (.ifS (.notE (.isiC (.var 0) 4722384897934469788257 [4722384897934469788257, 281476158420338, 72057939270202483, 72057947860265327, 72057956517178739]))
      (.seq .never
      .nop)
      .nop)
    .nop)
def f24 : Fn := ⟨1, 1, 0, c24⟩
/-- require_four -/
abbrev st25 : Stmt := top 58
def N25 : List Str := ["value"]
def P25 : List Str := ["value"]
def c25 : S :=
    (.seq (.ifS (.notE (.isiC (.var 0) 281476158420338 [4722384897934469788257, 281476158420338, 72057939270202483, 72057947860265327, 72057956517178739]))
      (.seq .never
      .nop)
      .nop)
    .nop)
def f25 : Fn := ⟨1, 1, 0, c25⟩
/-- is_four_of -/
abbrev st26 : Stmt := top 59
def N26 : List Str := ["algebra", "value"]
def P26 : List Str := ["algebra", "value"]
def c26 : S :=
    (.seq (.ret (.andE (.isiC (.var 1) 281476158420338 [4722384897934469788257, 281476158420338, 72057939270202483, 72057947860265327, 72057956517178739]) (.cmp .Eq (.fld (.var 1) 20282544358415273851079157248609) (.var 0))))
    .nop)
def f26 : Fn := ⟨2, 2, 0, c26⟩
/-- require_four_of -/
abbrev st27 : Stmt := top 60
def N27 : List Str := ["algebra", "value"]
def P27 : List Str := ["algebra", "value"]
def c27 : S :=
    (.seq (.ifS (.notE (.call 26 (.cons (.var 0) (.cons (.var 1) .nil))))
      (.seq .never
      .nop)
      .nop)
    .nop)
def f27 : Fn := ⟨2, 2, 0, c27⟩
/-- require_two_fours -/
abbrev st28 : Stmt := top 61
def N28 : List Str := ["one", "other"]
def P28 : List Str := ["one", "other"]
def c28 : S :=
    (.seq (.expr (.call 25 (.cons (.var 0) .nil)))
    (.seq (.expr (.call 27 (.cons (.fld (.var 0) 20282544358415273851079157248609) (.cons (.var 1) .nil))))
    .nop))
def f28 : Fn := ⟨2, 2, 0, c28⟩
/-- require_same_algebra -/
abbrev st29 : Stmt := top 62
def N29 : List Str := ["one", "other"]
def P29 : List Str := ["one", "other"]
def c29 : S :=
    (.seq (.ifS (.cmp .NotEq (.fld (.var 0) 20282544358415273851079157248609) (.fld (.var 1) 20282544358415273851079157248609))
      (.seq .never
      .nop)
      .nop)
    .nop)
def f29 : Fn := ⟨2, 2, 0, c29⟩
/-- require_sizes -/
abbrev st30 : Stmt := top 65
def N30 : List Str := ["algebras", "most", "algebra"]
def P30 : List Str := ["algebras", "most"]
def c30 : S :=
    (.seq (.forS [2] (.var 0)
      (.seq (.ifS (.cmp .Gt (.blt .max2 (.cons (.blt .abs (.cons (.fld (.var 2) 72058072783019873) .nil)) (.cons (.blt .abs (.cons (.fld (.var 2) 72058072783019874) .nil)) .nil))) (.var 1))
        (.seq .never
        .nop)
        .nop)
      .nop))
    .nop)
def f30 : Fn := ⟨2, 3, 0, c30⟩
/-- require_two -/
abbrev st31 : Stmt := top 66
def N31 : List Str := ["one", "other", "most"]
def P31 : List Str := ["one", "other", "most"]
def c31 : S :=
    (.seq (.expr (.call 24 (.cons (.var 0) .nil)))
    (.seq (.expr (.call 24 (.cons (.var 1) .nil)))
    (.seq (.expr (.call 30 (.cons (.tup (.cons (.var 0) (.cons (.var 1) .nil))) (.cons (.var 2) .nil))))
    .nop)))
def f31 : Fn := ⟨3, 3, 0, c31⟩
/-- is_integer_four -/
abbrev st32 : Stmt := top 67
def N32 : List Str := ["four", "number"]
def P32 : List Str := ["four", "number"]
def c32 : S :=
    (.seq (.ret (.andE (.cmp .Eq (.fld (.var 0) 79228688900059664593393577837) (.lit (.int 1))) (.cmp .Eq (.fld (.var 0) 20282544358415274979234140480883) (.tup (.cons (.var 1) (.cons (.lit (.int 0)) (.cons (.lit (.int 0)) (.cons (.lit (.int 0)) .nil))))))))
    .nop)
def f32 : Fn := ⟨2, 2, 0, c32⟩
/-- is_images -/
abbrev st33 : Stmt := top 68
def N33 : List Str := ["one", "other", "value", "four", "first", "second"]
def P33 : List Str := ["one", "other", "value"]
def c33 : S :=
    (.seq (.expr (.call 31 (.cons (.var 0) (.cons (.var 1) (.cons (.glob 4 (.int 10000)) .nil)))))
    (.seq (.ifS (.orE (.notE (.isi (.var 2) .tuple)) (.orE (.cmp .NotEq (.blt .len (.cons (.var 2) .nil)) (.lit (.int 2))) (.notE (.blt .all (.cons (.comp (.call 26 (.cons (.var 1) (.cons (.var 3) .nil))) [3] (.var 2) (.lit (.bl true))) .nil)))))
      (.seq (.ret (.lit (.bl false)))
      .nop)
      .nop)
    (.seq (.unp [4, 5] (.var 2))
    (.seq (.ifS (.orE (.notE (.call 32 (.cons (.bin .Mult (.var 4) (.var 4)) (.cons (.fld (.var 0) 72058072783019873) .nil)))) (.notE (.call 32 (.cons (.bin .Mult (.var 5) (.var 5)) (.cons (.fld (.var 0) 72058072783019874) .nil)))))
      (.seq (.ret (.lit (.bl false)))
      .nop)
      .nop)
    (.seq (.ret (.cmp .Eq (.bin .Mult (.var 4) (.var 5)) (.neg (.bin .Mult (.var 5) (.var 4)))))
    .nop)))))
def f33 : Fn := ⟨3, 6, 0, c33⟩
/-- has_inverse -/
abbrev st34 : Stmt := top 70
def N34 : List Str := ["four"]
def P34 : List Str := ["four"]
def c34 : S :=
    (.seq (.ret (.cmp .NotEq (.call 16 (.cons (.fld (.fld (.var 0) 20282544358415273851079157248609) 72058072783019873) (.cons (.fld (.fld (.var 0) 20282544358415273851079157248609) 72058072783019874) (.cons (.fld (.var 0) 20282544358415274979234140480883) .nil)))) (.lit (.int 0))))
    .nop)
def f34 : Fn := ⟨1, 1, 0, c34⟩
/-- turned -/
abbrev st35 : Stmt := top 71
def N35 : List Str := ["one", "other"]
def P35 : List Str := ["one", "other"]
def c35 : S :=
    (.seq (.expr (.call 28 (.cons (.var 0) (.cons (.var 1) .nil))))
    (.seq (.ifS (.notE (.call 34 (.cons (.var 0) .nil)))
      (.seq .never
      .nop)
      .nop)
    (.seq (.ret (.bin .Mult (.bin .Mult (.var 0) (.var 1)) (.mth (.var 0) 4722396159196987028325 .nil)))
    .nop)))
def f35 : Fn := ⟨2, 2, 0, c35⟩
/-- _law_jug -/
abbrev st36 : Stmt := top 73
def N36 : List Str := ["_law_script", "_law_spot", "_law_cell", "_law_great", "_law_mixed"]
def P36 : List Str := ["_law_script", "_law_spot"]
def c36 : S :=
    (.seq (.asg 2 (.ife (.cmp .Lt (.var 1) (.blt .len (.cons (.var 0) .nil))) (.blt .int1 (.cons (.sub (.var 0) (.var 1)) .nil)) (.bin .Add (.bin .Add (.bin .Mult (.lit (.int 907)) (.var 1)) (.lit (.int 37))) (.bin .Mod (.blt .int1 (.cons (.blt .sum (.cons (.slc (.var 0) (.lit .non) (.lit (.int 1))) .nil)) .nil)) (.lit (.int 1000033))))))
    (.seq (.asg 3 (.bin .Mod (.blt .int1 (.cons (.blt .abs (.cons (.var 2) .nil)) .nil)) (.bin .Pow (.bin .Pow (.lit (.int 10)) (.lit (.int 59))) (.lit (.int 8)))))
    (.seq (.asg 4 (.bin .Mod (.blt .int1 (.cons (.bin .Add (.bin .Add (.bin .Add (.bin .Mult (.bin .Mod (.var 3) (.lit (.int 2305843009213693921))) (.lit (.int 50021))) (.bin .Mult (.lit (.int 4003)) (.var 1))) (.bin .Mult (.lit (.int 19)) (.blt .int1 (.cons (.cmp .Lt (.var 2) (.lit (.int 0))) .nil)))) (.lit (.int 71))) .nil)) (.lit (.int 2305843009213693951))))
    (.seq (.ret (.lst (.cons (.blt .max2 (.cons (.lit (.int 0)) (.cons (.bin .Sub (.var 3) (.bin .Pow (.lit (.int 10)) (.lit (.int 17)))) .nil))) (.cons (.var 4) (.cons (.lit (.int 0)) .nil)))))
    .nop))))
def f36 : Fn := ⟨2, 5, 0, c36⟩
/-- _law_pour -/
abbrev st37 : Stmt := top 74
def N37 : List Str := ["_law_jug_here", "_law_many", "_law_found", "_law_one", "_law_two"]
def P37 : List Str := ["_law_jug_here", "_law_many"]
def c37 : S :=
    (.seq (.ifS (.cmp .Gt (.sub (.var 0) (.lit (.int 0))) (.lit (.int 0)))
      (.seq (.asg 2 (.bin .Mod (.blt .int1 (.cons (.sub (.var 0) (.lit (.int 0))) .nil)) (.var 1)))
      (.seq (.sets (.var 0) (.lit (.int 0)) (.bin .FloorDiv (.sub (.var 0) (.lit (.int 0))) (.var 1)))
      (.seq (.ret (.var 2))
      .nop)))
      .nop)
    (.seq (.sets (.var 0) (.lit (.int 2)) (.bin .Add (.sub (.var 0) (.lit (.int 2))) (.lit (.int 1))))
    (.seq (.asg 3 (.bin .Mod (.blt .int1 (.cons (.bin .Add (.sub (.var 0) (.lit (.int 1))) (.bin .Mult (.lit (.int 15485863)) (.sub (.var 0) (.lit (.int 2))))) .nil)) (.lit (.int 2305843009213693967))))
    (.seq (.asg 4 (.bin .Add (.bin .Add (.bin .Mult (.bin .Mod (.blt .int1 (.cons (.bin .Mult (.var 3) (.var 3)) .nil)) (.lit (.int 2305843009213693951))) (.lit (.int 32452867))) (.var 3)) (.bin .Mult (.lit (.int 7)) (.sub (.var 0) (.lit (.int 2))))))
    (.seq (.ret (.bin .Mod (.blt .int1 (.cons (.bin .FloorDiv (.var 4) (.lit (.int 131072))) .nil)) (.var 1)))
    .nop)))))
def f37 : Fn := ⟨2, 5, 0, c37⟩
/-- _law_of -/
abbrev st38 : Stmt := top 75
def N38 : List Str := ["_law_jug_here", "_law_items"]
def P38 : List Str := ["_law_jug_here", "_law_items"]
def c38 : S :=
    (.seq (.ret (.sub (.var 1) (.call 37 (.cons (.var 0) (.cons (.blt .len (.cons (.var 1) .nil)) .nil)))))
    .nop)
def f38 : Fn := ⟨2, 2, 0, c38⟩
/-- _law_times -/
abbrev st39 : Stmt := top 76
def N39 : List Str := ["_law_a", "_law_b", "_law_one", "_law_other", "_law_w", "_law_x", "_law_y", "_law_z", "_law_s", "_law_t", "_law_u", "_law_v", "_law_first", "_law_second"]
def P39 : List Str := ["_law_a", "_law_b", "_law_one", "_law_other"]
def c39 : S :=
    (.seq (.unp [4, 5, 6, 7] (.var 2))
    (.seq (.unp [8, 9, 10, 11] (.var 3))
    (.seq (.asg 12 (.bin .Sub (.bin .Add (.bin .Add (.bin .Mult (.var 4) (.var 8)) (.bin .Mult (.bin .Mult (.var 0) (.var 5)) (.var 9))) (.bin .Mult (.bin .Mult (.var 1) (.var 6)) (.var 10))) (.bin .Mult (.bin .Mult (.bin .Mult (.var 0) (.var 1)) (.var 7)) (.var 11))))
    (.seq (.asg 13 (.bin .Add (.bin .Sub (.bin .Add (.bin .Mult (.var 4) (.var 9)) (.bin .Mult (.var 5) (.var 8))) (.bin .Mult (.bin .Mult (.var 1) (.var 6)) (.var 11))) (.bin .Mult (.bin .Mult (.var 1) (.var 7)) (.var 10))))
    (.seq (.ret (.tup (.cons (.var 12) (.cons (.var 13) (.cons (.bin .Sub (.bin .Add (.bin .Add (.bin .Mult (.var 4) (.var 10)) (.bin .Mult (.bin .Mult (.var 0) (.var 5)) (.var 11))) (.bin .Mult (.var 6) (.var 8))) (.bin .Mult (.bin .Mult (.var 0) (.var 7)) (.var 9))) (.cons (.bin .Add (.bin .Sub (.bin .Add (.bin .Mult (.var 4) (.var 11)) (.bin .Mult (.var 5) (.var 10))) (.bin .Mult (.var 6) (.var 9))) (.bin .Mult (.var 7) (.var 8))) .nil))))))
    .nop)))))
def f39 : Fn := ⟨4, 14, 0, c39⟩
/-- _law_drawn -/
abbrev st40 : Stmt := top 77
def N40 : List Str := ["_law_jug_here", "_law_most", "_law_found"]
def P40 : List Str := ["_law_jug_here", "_law_most"]
def c40 : S :=
    (.seq (.asg 2 (.bin .Add (.lit (.int 1)) (.call 37 (.cons (.var 0) (.cons (.var 1) .nil)))))
    (.seq (.ret (.ife (.cmp .Eq (.call 37 (.cons (.var 0) (.cons (.lit (.int 2)) .nil))) (.lit (.int 0))) (.var 2) (.neg (.var 2))))
    .nop))
def f40 : Fn := ⟨2, 3, 0, c40⟩
/-- _law_pair -/
abbrev st41 : Stmt := top 78
def N41 : List Str := ["_law_jug_here", "_law_most"]
def P41 : List Str := ["_law_jug_here"]
def c41 : S :=
    (.seq (.asg 1 (.call 38 (.cons (.var 0) (.cons (.lst (.cons (.lit (.int 3)) (.cons (.lit (.int 7)) (.cons (.lit (.int 12)) (.cons (.lit (.int 12)) (.cons (.lit (.int 30)) (.cons (.lit (.int 30)) (.cons (.lit (.int 100)) .nil)))))))) .nil))))
    (.seq (.ret (.tup (.cons (.call 40 (.cons (.var 0) (.cons (.var 1) .nil))) (.cons (.call 40 (.cons (.var 0) (.cons (.var 1) .nil))) .nil))))
    .nop))
def f41 : Fn := ⟨1, 2, 0, c41⟩
/-- _law_squares_to -/
abbrev st42 : Stmt := top 79
def N42 : List Str := ["_law_algebra", "_law_four_here", "_law_number", "_law_e"]
def P42 : List Str := ["_law_algebra", "_law_four_here", "_law_number"]
def c42 : S :=
    (.seq (.asg 3 (.prp (.var 1) 4722395033288707761523))
    (.seq (.ret (.cmp .Eq (.call 39 (.cons (.prp (.var 0) 16777313) (.cons (.prp (.var 0) 16777314) (.cons (.var 3) (.cons (.var 3) .nil))))) (.tup (.cons (.bin .Mult (.bin .Mult (.var 2) (.prp (.var 1) 18446852304544231277)) (.prp (.var 1) 18446852304544231277)) (.cons (.lit (.int 0)) (.cons (.lit (.int 0)) (.cons (.lit (.int 0)) .nil)))))))
    .nop))
def f42 : Fn := ⟨3, 4, 0, c42⟩
/-- _law_do_turn -/
abbrev st43 : Stmt := top 80
def N43 : List Str := ["_law_algebra", "_law_one", "_law_other", "_law_first", "_law_second", "_law_entry"]
def P43 : List Str := ["_law_algebra", "_law_one", "_law_other"]
def c43 : S :=
    (.seq (.asg 3 (.call 39 (.cons (.prp (.var 0) 16777313) (.cons (.prp (.var 0) 16777314) (.cons (.prp (.var 1) 4722395033288707761523) (.cons (.prp (.var 2) 4722395033288707761523) .nil))))))
    (.seq (.asg 4 (.call 39 (.cons (.prp (.var 0) 16777313) (.cons (.prp (.var 0) 16777314) (.cons (.prp (.var 2) 4722395033288707761523) (.cons (.prp (.var 1) 4722395033288707761523) .nil))))))
    (.seq (.ret (.cmp .Eq (.blt .list (.cons (.var 3) .nil)) (.comp (.bin .Sub (.lit (.int 0)) (.var 5)) [5] (.var 4) (.lit (.bl true)))))
    .nop)))
def f43 : Fn := ⟨3, 6, 0, c43⟩
/-- _law_are_images -/
abbrev st44 : Stmt := top 81
def N44 : List Str := ["_law_one", "_law_other", "_law_value", "_law_x", "_law_y"]
def P44 : List Str := ["_law_one", "_law_other", "_law_value"]
def c44 : S :=
    (.seq (.ifS (.orE (.notE (.isi (.var 2) .tuple)) (.orE (.cmp .NotEq (.blt .len (.cons (.var 2) .nil)) (.lit (.int 2))) (.cmp .NotEq (.comp (.var 3) [3] (.var 2) (.notE (.isiC (.var 3) 281476158420338 [4722384897934469788257, 281476158420338, 72057939270202483, 72057947860265327, 72057956517178739]))) (.lst .nil))))
      (.seq (.ret (.lit (.bl false)))
      .nop)
      .nop)
    (.seq (.ifS (.cmp .NotEq (.comp (.var 3) [3] (.var 2) (.cmp .NotEq (.prp (.var 3) 4722393905133724529249) (.var 1))) (.lst .nil))
      (.seq (.ret (.lit (.bl false)))
      .nop)
      .nop)
    (.seq (.unp [3, 4] (.var 2))
    (.seq (.ret (.andE (.call 42 (.cons (.var 1) (.cons (.var 3) (.cons (.prp (.var 0) 16777313) .nil)))) (.andE (.call 42 (.cons (.var 1) (.cons (.var 4) (.cons (.prp (.var 0) 16777314) .nil)))) (.call 43 (.cons (.var 1) (.cons (.var 3) (.cons (.var 4) .nil)))))))
    .nop))))
def f44 : Fn := ⟨3, 5, 0, c44⟩
/-- _law_four -/
abbrev st45 : Stmt := top 82
def N45 : List Str := ["_law_jug_here", "_law_algebra", "_law_turn", "_law_found", "_law_at"]
def P45 : List Str := ["_law_jug_here", "_law_algebra"]
def c45 : S :=
    (.seq (.forS [2] (.rng1 (.lit (.int 9)))
      (.seq (.asg 3 (.new 281476158420338 (.cons (.var 1) (.cons (.blt .tuple (.cons (.comp (.bin .Sub (.call 37 (.cons (.var 0) (.cons (.lit (.int 9)) .nil))) (.lit (.int 4))) [4] (.rng1 (.lit (.int 4))) (.lit (.bl true))) .nil)) (.cons (.bin .Add (.lit (.int 1)) (.call 37 (.cons (.var 0) (.cons (.lit (.int 3)) .nil)))) .nil))) []))
      (.seq (.ifS (.cmp .NotEq (.prp (.prp (.var 3) 281476829508205) 281476912998254) (.lit (.int 0)))
        (.seq (.ret (.var 3))
        .nop)
        .nop)
      .nop)))
    (.seq (.ret (.new 281476158420338 (.cons (.var 1) (.cons (.tup (.cons (.lit (.int 1)) (.cons (.lit (.int 0)) (.cons (.lit (.int 0)) (.cons (.lit (.int 0)) .nil))))) .nil)) [(.int 1)]))
    .nop))
def f45 : Fn := ⟨2, 5, 0, c45⟩
/-- _law_near -/
abbrev st46 : Stmt := top 83
def N46 : List Str := ["_law_jug_here", "_law_algebra", "_law_strange", "_law_x", "_law_y", "_law_some", "_law_two", "_law_half", "_law_z", "_law_turn"]
def P46 : List Str := ["_law_jug_here", "_law_algebra", "_law_strange", "_law_x", "_law_y"]
def c46 : S :=
    (.seq (.asg 5 (.lst (.cons (.tup (.cons (.var 3) (.cons (.var 4) .nil))) (.cons (.tup (.cons (.var 4) (.cons (.var 3) .nil))) (.cons (.tup (.cons (.neg (.var 3)) (.cons (.var 4) .nil))) (.cons (.tup (.cons (.var 3) (.cons (.neg (.var 4)) .nil))) (.cons (.tup (.cons (.bin .Mult (.var 3) (.var 4)) (.cons (.var 4) .nil))) (.cons (.tup (.cons (.var 3) (.cons (.bin .Mult (.var 3) (.var 4)) .nil))) (.cons (.tup (.cons (.var 3) (.cons (.var 3) .nil))) (.cons (.tup (.cons (.var 3) (.cons (.var 4) (.cons (.var 3) .nil)))) (.cons (.tup (.cons (.var 3) .nil)) (.cons (.lst (.cons (.var 3) (.cons (.var 4) .nil))) (.cons (.lit .non) (.cons (.lit (.int 0)) (.cons (.lit (.str "xy")) (.cons (.tup .nil) .nil))))))))))))))))
    (.seq (.par2 6 7 none none (.mth (.var 3) 18446870944383001956 (.cons (.new 72057947860265327 (.cons (.lit (.int 2)) .nil) [(.int 1)]) .nil)) (.mth (.var 4) 18446870944383001956 (.cons (.new 72057947860265327 (.cons (.lit (.int 1)) (.cons (.lit (.int 2)) .nil)) []) .nil)))
    (.seq (.asg 5 (.bin .Add (.var 5) (.lst (.cons (.tup (.cons (.var 6) (.cons (.var 4) .nil))) (.cons (.tup (.cons (.var 3) (.cons (.var 7) .nil))) (.cons (.tup (.cons (.var 6) (.cons (.var 7) .nil))) (.cons (.tup (.cons (.mth (.var 3) 281476811813989 .nil) (.cons (.mth (.var 4) 281476811813989 .nil) .nil))) (.cons (.tup (.cons (.var 3) (.cons (.bin .Add (.var 4) (.new 281476158420338 (.cons (.var 1) (.cons (.tup (.cons (.lit (.int 1)) (.cons (.lit (.int 0)) (.cons (.lit (.int 0)) (.cons (.lit (.int 0)) .nil))))) .nil)) [(.int 1)])) .nil))) (.cons (.tup (.cons (.var 3) (.cons (.lit .non) .nil))) (.cons (.tup (.cons (.prp (.var 3) 4722395033288707761523) (.cons (.prp (.var 4) 4722395033288707761523) .nil))) .nil))))))))))
    (.seq (.asg 8 (.new 281476158420338 (.cons (.var 2) (.cons (.tup (.cons (.lit (.int 0)) (.cons (.lit (.int 1)) (.cons (.lit (.int 0)) (.cons (.lit (.int 0)) .nil))))) .nil)) [(.int 1)]))
    (.seq (.asg 5 (.bin .Add (.var 5) (.lst (.cons (.tup (.cons (.var 8) (.cons (.var 8) .nil))) (.cons (.tup (.cons (.var 3) (.cons (.var 8) .nil))) (.cons (.tup (.cons (.var 8) (.cons (.var 4) .nil))) (.cons (.tup (.cons (.var 3) (.cons (.bin .Mult (.bin .Mult (.var 3) (.var 4)) (.var 3)) .nil))) (.cons (.tup (.cons (.bin .Mult (.bin .Mult (.var 3) (.var 4)) (.var 3)) (.cons (.var 4) .nil))) (.cons (.tup (.cons (.bin .Mult (.bin .Mult (.var 4) (.var 3)) (.var 4)) (.cons (.var 3) .nil))) (.cons (.dis1 (.prp (.var 3) 18446852304544231277) (.var 4)) .nil))))))))))
    (.seq (.ret (.bin .Add (.comp (.call 38 (.cons (.var 0) (.cons (.var 5) .nil))) [9] (.rng1 (.lit (.int 10))) (.lit (.bl true))) (.lst (.cons (.tup (.cons (.var 3) (.cons (.var 4) .nil))) .nil))))
    .nop))))))
def f46 : Fn := ⟨5, 10, 0, c46⟩
/-- _law_right -/
abbrev st47 : Stmt := top 84
def N47 : List Str := ["_law_jug_here", "_law_a", "_law_b", "_law_algebra", "_law_strange", "_law_lead", "_law_basis", "_law_x", "_law_y", "_law_sources", "_law_value", "_law_source"]
def P47 : List Str := ["_law_jug_here"]
def c47 : S :=
    (.seq (.unp [1, 2] (.call 41 (.cons (.var 0) .nil)))
    (.seq (.par2 3 4 none none (.new 4722384897934469788257 (.cons (.var 1) (.cons (.var 2) .nil)) []) (.new 4722384897934469788257 (.cons (.var 1) (.cons (.ife (.cmp .NotEq (.var 2) (.neg (.lit (.int 1)))) (.bin .Add (.var 2) (.lit (.int 1))) (.lit (.int 5))) .nil)) []))
    (.seq (.par2 5 6 none none (.call 45 (.cons (.var 0) (.cons (.var 3) .nil))) (.mth (.var 3) 72058016579676531 .nil))
    (.seq (.par2 7 8 none none (.call 35 (.cons (.var 5) (.cons (.sub (.var 6) (.lit (.int 1))) .nil))) (.call 35 (.cons (.var 5) (.cons (.sub (.var 6) (.lit (.int 2))) .nil))))
    (.seq (.asg 9 (.lst (.cons (.var 3) (.cons (.new 4722384897934469788257 (.cons (.var 2) (.cons (.var 1) .nil)) []) (.cons (.new 4722384897934469788257 (.cons (.var 1) (.cons (.bin .Sub (.lit (.int 0)) (.bin .Mult (.var 1) (.var 2))) .nil)) []) (.cons (.new 4722384897934469788257 (.cons (.bin .Mult (.lit (.int 4)) (.var 1)) (.cons (.var 2) .nil)) []) (.cons (.new 4722384897934469788257 (.cons (.var 2) (.cons (.bin .Sub (.lit (.int 0)) (.bin .Mult (.var 1) (.var 2))) .nil)) []) (.cons (.var 4) .nil))))))))
    (.seq (.forS [10] (.call 46 (.cons (.var 0) (.cons (.var 3) (.cons (.var 4) (.cons (.var 7) (.cons (.var 8) .nil))))))
      (.seq (.asg 11 (.call 38 (.cons (.var 0) (.cons (.var 9) .nil))))
      (.seq (.ifS (.cmp .NotEq (.blt .repr1 (.cons (.call 33 (.cons (.var 11) (.cons (.var 3) (.cons (.var 10) .nil)))) .nil)) (.blt .repr1 (.cons (.call 44 (.cons (.var 11) (.cons (.var 3) (.cons (.var 10) .nil)))) .nil)))
        (.seq (.ret (.lit (.bl false)))
        .nop)
        .nop)
      .nop)))
    (.seq (.ret (.andE (.call 33 (.cons (.var 3) (.cons (.var 3) (.cons (.tup (.cons (.var 7) (.cons (.var 8) .nil))) .nil)))) (.call 33 (.cons (.new 4722384897934469788257 (.cons (.var 1) (.cons (.bin .Sub (.lit (.int 0)) (.bin .Mult (.var 1) (.var 2))) .nil)) []) (.cons (.var 3) (.cons (.tup (.cons (.var 7) (.cons (.bin .Mult (.var 7) (.var 8)) .nil))) .nil))))))
    .nop)))))))
def f47 : Fn := ⟨1, 12, 0, c47⟩
/-- law -/
abbrev st48 : Stmt := top 85
def N48 : List Str := ["_law_script", "_law_spot", "_law_split", "_law_one", "_law_i", "_law_j", "_law_k"]
def P48 : List Str := ["_law_script"]
def c48 : S :=
    (.seq (.forS [1] (.rng1 (.blt .max2 (.cons (.lit (.int 1)) (.cons (.blt .min2 (.cons (.lit (.int 3)) (.cons (.blt .len (.cons (.var 0) .nil)) .nil))) .nil))))
      (.seq (.ifS (.notE (.callB 47 (.call 36 (.cons (.var 0) (.cons (.var 1) .nil)))))
        (.seq (.ret (.lit (.bl false)))
        .nop)
        .nop)
      .nop))
    (.seq (.asg 2 (.new 4722384897934469788257 (.cons (.lit (.int 1)) (.cons (.lit (.int 1)) .nil)) []))
    (.seq (.unp [3, 4, 5, 6] (.mth (.var 2) 72058016579676531 .nil))
    (.seq (.ret (.andE (.call 33 (.cons (.new 4722384897934469788257 (.cons (.lit (.int 1)) (.cons (.neg (.lit (.int 1))) .nil)) []) (.cons (.var 2) (.cons (.tup (.cons (.var 4) (.cons (.var 6) .nil))) .nil)))) (.andE (.notE (.call 33 (.cons (.var 2) (.cons (.var 2) (.cons (.tup (.cons (.var 4) (.cons (.var 3) .nil))) .nil))))) (.call 33 (.cons (.var 2) (.cons (.var 2) (.cons (.tup (.cons (.neg (.var 5)) (.cons (.var 4) .nil))) .nil)))))))
    .nop))))
def f48 : Fn := ⟨1, 7, 0, c48⟩
/-- Terms.__init__ -/
abbrev st49 : Stmt := inClass (top 19) 1
def N49 : List Str := ["self", "top", "bottom"]
def P49 : List Str := ["self", "top", "bottom"]
def c49 : S :=
    (.seq (.fset (.var 0) 4722397857907991670640 [(72057947860265327, [79228688900059664593393577837, 4722397857907991670640]), (72057956517178739, [79228688900059664593393577837, 4722397857907991670640])] (.var 1))
    (.seq (.fset (.var 0) 79228688900059664593393577837 [(281476158420338, [20282544358415273851079157248609, 79228688900059664593393577837, 20282544358415274979234140480883]), (72057939270202483, [79228688900059664593393577837, 20282544358415274979234140480883]), (72057947860265327, [79228688900059664593393577837, 4722397857907991670640]), (72057956517178739, [79228688900059664593393577837, 4722397857907991670640])] (.var 2))
    .nop))
def f49 : Fn := ⟨3, 3, 0, c49⟩
/-- Ratio.__init__ -/
abbrev st50 : Stmt := inClass (top 20) 1
def N50 : List Str := ["self", "top", "bottom", "shared", "less"]
def P50 : List Str := ["self", "top", "bottom"]
def c50 : S :=
    (.seq (.ifS (.isiC (.var 1) 72057956517178739 [4722384897934469788257, 281476158420338, 72057939270202483, 72057947860265327, 72057956517178739])
      (.seq (.par2 1 2 none none (.fld (.var 1) 4722397857907991670640) (.fld (.var 1) 79228688900059664593393577837))
      .nop)
      (.seq (.expr (.call 2 (.cons (.var 1) .nil)))
      (.seq (.expr (.call 2 (.cons (.var 2) .nil)))
      (.seq (.ifS (.cmp .Eq (.var 2) (.lit (.int 0)))
        (.seq .never
        .nop)
        .nop)
      .nop))))
    (.seq (.asg 3 (.call 3 (.cons (.var 1) (.cons (.var 2) .nil))))
    (.seq (.asg 4 (.ife (.cmp .Gt (.var 2) (.lit (.int 0))) (.var 3) (.neg (.var 3))))
    (.seq (.fset (.var 0) 4722397857907991670640 [(72057947860265327, [79228688900059664593393577837, 4722397857907991670640]), (72057956517178739, [79228688900059664593393577837, 4722397857907991670640])] (.bin .FloorDiv (.var 1) (.var 4)))
    (.seq (.fset (.var 0) 79228688900059664593393577837 [(281476158420338, [20282544358415273851079157248609, 79228688900059664593393577837, 20282544358415274979234140480883]), (72057939270202483, [79228688900059664593393577837, 20282544358415274979234140480883]), (72057947860265327, [79228688900059664593393577837, 4722397857907991670640]), (72057956517178739, [79228688900059664593393577837, 4722397857907991670640])] (.bin .FloorDiv (.var 2) (.var 4)))
    .nop)))))
def f50 : Fn := ⟨3, 5, 0, c50⟩
/-- Ratio.top -/
abbrev st51 : Stmt := inClass (top 20) 3
def N51 : List Str := ["self"]
def P51 : List Str := ["self"]
def c51 : S :=
    (.seq (.ret (.fld (.var 0) 4722397857907991670640))
    .nop)
def f51 : Fn := ⟨1, 1, 0, c51⟩
/-- Ratio.bottom -/
abbrev st52 : Stmt := inClass (top 20) 4
def N52 : List Str := ["self"]
def P52 : List Str := ["self"]
def c52 : S :=
    (.seq (.ret (.fld (.var 0) 79228688900059664593393577837))
    .nop)
def f52 : Fn := ⟨1, 1, 0, c52⟩
/-- Ratio.sign -/
abbrev st53 : Stmt := inClass (top 20) 5
def N53 : List Str := ["self"]
def P53 : List Str := ["self"]
def c53 : S :=
    (.seq (.ret (.call 4 (.cons (.fld (.var 0) 4722397857907991670640) .nil)))
    .nop)
def f53 : Fn := ⟨1, 1, 0, c53⟩
/-- Ratio.__add__ -/
abbrev st54 : Stmt := inClass (top 20) 8
def N54 : List Str := ["self", "other", "more", "top"]
def P54 : List Str := ["self", "other"]
def c54 : S :=
    (.seq (.ifS (.notE (.call 6 (.cons (.var 1) .nil)))
      (.seq .never
      .nop)
      .nop)
    (.seq (.asg 2 (.call 7 (.cons (.var 1) .nil)))
    (.seq (.asg 3 (.bin .Add (.bin .Mult (.fld (.var 0) 4722397857907991670640) (.fld (.var 2) 79228688900059664593393577837)) (.bin .Mult (.fld (.var 2) 4722397857907991670640) (.fld (.var 0) 79228688900059664593393577837))))
    (.seq (.ret (.call 5 (.cons (.var 3) (.cons (.bin .Mult (.fld (.var 0) 79228688900059664593393577837) (.fld (.var 2) 79228688900059664593393577837)) .nil))))
    .nop))))
def f54 : Fn := ⟨2, 4, 0, c54⟩
/-- Ratio.__sub__ -/
abbrev st55 : Stmt := inClass (top 20) 9
def N55 : List Str := ["self", "other", "more", "top"]
def P55 : List Str := ["self", "other"]
def c55 : S :=
    (.seq (.ifS (.notE (.call 6 (.cons (.var 1) .nil)))
      (.seq .never
      .nop)
      .nop)
    (.seq (.asg 2 (.call 7 (.cons (.var 1) .nil)))
    (.seq (.asg 3 (.bin .Sub (.bin .Mult (.fld (.var 0) 4722397857907991670640) (.fld (.var 2) 79228688900059664593393577837)) (.bin .Mult (.fld (.var 2) 4722397857907991670640) (.fld (.var 0) 79228688900059664593393577837))))
    (.seq (.ret (.call 5 (.cons (.var 3) (.cons (.bin .Mult (.fld (.var 0) 79228688900059664593393577837) (.fld (.var 2) 79228688900059664593393577837)) .nil))))
    .nop))))
def f55 : Fn := ⟨2, 4, 0, c55⟩
/-- Ratio.__mul__ -/
abbrev st56 : Stmt := inClass (top 20) 10
def N56 : List Str := ["self", "other", "more"]
def P56 : List Str := ["self", "other"]
def c56 : S :=
    (.seq (.ifS (.notE (.call 6 (.cons (.var 1) .nil)))
      (.seq .never
      .nop)
      .nop)
    (.seq (.asg 2 (.call 7 (.cons (.var 1) .nil)))
    (.seq (.ret (.call 5 (.cons (.bin .Mult (.fld (.var 0) 4722397857907991670640) (.fld (.var 2) 4722397857907991670640)) (.cons (.bin .Mult (.fld (.var 0) 79228688900059664593393577837) (.fld (.var 2) 79228688900059664593393577837)) .nil))))
    .nop)))
def f56 : Fn := ⟨2, 3, 0, c56⟩
/-- Ratio.__neg__ -/
abbrev st57 : Stmt := inClass (top 20) 11
def N57 : List Str := ["self"]
def P57 : List Str := ["self"]
def c57 : S :=
    (.seq (.ret (.call 5 (.cons (.neg (.fld (.var 0) 4722397857907991670640)) (.cons (.fld (.var 0) 79228688900059664593393577837) .nil))))
    .nop)
def f57 : Fn := ⟨1, 1, 0, c57⟩
/-- Ratio.__eq__ -/
abbrev st58 : Stmt := inClass (top 20) 12
def N58 : List Str := ["self", "other"]
def P58 : List Str := ["self", "other"]
def c58 : S :=
    (.seq (.ifS (.call 0 (.cons (.var 1) .nil))
      (.seq (.ret (.andE (.cmp .Eq (.fld (.var 0) 79228688900059664593393577837) (.lit (.int 1))) (.cmp .Eq (.fld (.var 0) 4722397857907991670640) (.var 1))))
      .nop)
      .nop)
    (.seq (.ret (.andE (.isiC (.var 1) 72057947860265327 [4722384897934469788257, 281476158420338, 72057939270202483, 72057947860265327, 72057956517178739]) (.andE (.cmp .Eq (.fld (.var 0) 4722397857907991670640) (.fld (.var 1) 4722397857907991670640)) (.cmp .Eq (.fld (.var 0) 79228688900059664593393577837) (.fld (.var 1) 79228688900059664593393577837)))))
    .nop))
def f58 : Fn := ⟨2, 2, 0, c58⟩
/-- Algebra.__init__ -/
abbrev st59 : Stmt := inClass (top 52) 1
def N59 : List Str := ["self", "a", "b", "place"]
def P59 : List Str := ["self", "a", "b"]
def c59 : S :=
    (.seq (.expr (.call 9 (.cons (.var 1) .nil)))
    (.seq (.expr (.call 9 (.cons (.var 2) .nil)))
    (.seq (.fset (.var 0) 72058072783019873 [(4722384897934469788257, [72058072783019873, 72058072783019874, 22300893362960104240665737060543834854878836, 79228688900059679973351581043])] (.var 1))
    (.seq (.fset (.var 0) 72058072783019874 [(4722384897934469788257, [72058072783019873, 72058072783019874, 22300893362960104240665737060543834854878836, 79228688900059679973351581043])] (.var 2))
    (.seq (.fset (.var 0) 79228688900059679973351581043 [(4722384897934469788257, [72058072783019873, 72058072783019874, 22300893362960104240665737060543834854878836, 79228688900059679973351581043])] (.call 20 (.cons (.var 1) (.cons (.var 2) .nil))))
    (.seq (.fset (.var 0) 22300893362960104240665737060543834854878836 [(4722384897934469788257, [72058072783019873, 72058072783019874, 22300893362960104240665737060543834854878836, 79228688900059679973351581043])] (.lit (.int 1)))
    (.seq (.forS [3] (.fld (.var 0) 79228688900059679973351581043)
      (.seq (.faug (.var 0) 22300893362960104240665737060543834854878836 [(4722384897934469788257, [72058072783019873, 72058072783019874, 22300893362960104240665737060543834854878836, 79228688900059679973351581043])] .Mult (.blt .max2 (.cons (.lit (.int 1)) (.cons (.var 3) .nil))))
      .nop))
    .nop)))))))
def f59 : Fn := ⟨3, 4, 0, c59⟩
/-- Algebra.a -/
abbrev st60 : Stmt := inClass (top 52) 2
def N60 : List Str := ["self"]
def P60 : List Str := ["self"]
def c60 : S :=
    (.seq (.ret (.fld (.var 0) 72058072783019873))
    .nop)
def f60 : Fn := ⟨1, 1, 0, c60⟩
/-- Algebra.b -/
abbrev st61 : Stmt := inClass (top 52) 3
def N61 : List Str := ["self"]
def P61 : List Str := ["self"]
def c61 : S :=
    (.seq (.ret (.fld (.var 0) 72058072783019874))
    .nop)
def f61 : Fn := ⟨1, 1, 0, c61⟩
/-- Algebra.basis -/
abbrev st62 : Stmt := inClass (top 52) 8
def N62 : List Str := ["self", "rows", "at", "spot", "row"]
def P62 : List Str := ["self"]
def c62 : S :=
    (.seq (.asg 1 (.comp (.blt .tuple (.cons (.comp (.blt .int1 (.cons (.cmp .Eq (.var 2) (.var 3)) .nil)) [2] (.rng1 (.glob 3 (.int 4))) (.lit (.bl true))) .nil)) [3] (.rng1 (.glob 3 (.int 4))) (.lit (.bl true))))
    (.seq (.ret (.blt .tuple (.cons (.comp (.callD 23 (.cons (.var 0) (.cons (.var 4) .nil)) [(.int 1)]) [4] (.var 1) (.lit (.bl true))) .nil)))
    .nop))
def f62 : Fn := ⟨1, 5, 0, c62⟩
/-- Algebra.__eq__ -/
abbrev st63 : Stmt := inClass (top 52) 9
def N63 : List Str := ["self", "other"]
def P63 : List Str := ["self", "other"]
def c63 : S :=
    (.seq (.ret (.andE (.isiC (.var 1) 4722384897934469788257 [4722384897934469788257, 281476158420338, 72057939270202483, 72057947860265327, 72057956517178739]) (.andE (.cmp .Eq (.fld (.var 0) 72058072783019873) (.fld (.var 1) 72058072783019873)) (.cmp .Eq (.fld (.var 0) 72058072783019874) (.fld (.var 1) 72058072783019874)))))
    .nop)
def f63 : Fn := ⟨2, 2, 0, c63⟩
/-- Parts.__init__ -/
abbrev st64 : Stmt := inClass (top 53) 1
def N64 : List Str := ["self", "entries", "bottom"]
def P64 : List Str := ["self", "entries", "bottom"]
def c64 : S :=
    (.seq (.fset2 (.var 0) 20282544358415274979234140480883 (.var 0) 79228688900059664593393577837 [(281476158420338, [20282544358415273851079157248609, 79228688900059664593393577837, 20282544358415274979234140480883]), (72057939270202483, [79228688900059664593393577837, 20282544358415274979234140480883])] (.call 21 (.cons (.var 1) (.cons (.var 2) .nil))))
    .nop)
def f64 : Fn := ⟨3, 3, 0, c64⟩
/-- Four.__init__ -/
abbrev st65 : Stmt := inClass (top 55) 1
def N65 : List Str := ["self", "algebra", "entries", "bottom", "parts"]
def P65 : List Str := ["self", "algebra", "entries", "bottom"]
def c65 : S :=
    (.seq (.expr (.call 24 (.cons (.var 1) .nil)))
    (.seq (.asg 4 (.call 22 (.cons (.var 2) (.cons (.var 3) .nil))))
    (.seq (.fset (.var 0) 20282544358415273851079157248609 [(281476158420338, [20282544358415273851079157248609, 79228688900059664593393577837, 20282544358415274979234140480883])] (.var 1))
    (.seq (.fset (.var 0) 79228688900059664593393577837 [(281476158420338, [20282544358415273851079157248609, 79228688900059664593393577837, 20282544358415274979234140480883]), (72057939270202483, [79228688900059664593393577837, 20282544358415274979234140480883]), (72057947860265327, [79228688900059664593393577837, 4722397857907991670640]), (72057956517178739, [79228688900059664593393577837, 4722397857907991670640])] (.fld (.var 4) 79228688900059664593393577837))
    (.seq (.fset (.var 0) 20282544358415274979234140480883 [(281476158420338, [20282544358415273851079157248609, 79228688900059664593393577837, 20282544358415274979234140480883]), (72057939270202483, [79228688900059664593393577837, 20282544358415274979234140480883])] (.fld (.var 4) 20282544358415274979234140480883))
    .nop)))))
def f65 : Fn := ⟨4, 5, 0, c65⟩
/-- Four.algebra -/
abbrev st66 : Stmt := inClass (top 55) 2
def N66 : List Str := ["self"]
def P66 : List Str := ["self"]
def c66 : S :=
    (.seq (.ret (.fld (.var 0) 20282544358415273851079157248609))
    .nop)
def f66 : Fn := ⟨1, 1, 0, c66⟩
/-- Four.entries -/
abbrev st67 : Stmt := inClass (top 55) 3
def N67 : List Str := ["self"]
def P67 : List Str := ["self"]
def c67 : S :=
    (.seq (.ret (.fld (.var 0) 20282544358415274979234140480883))
    .nop)
def f67 : Fn := ⟨1, 1, 0, c67⟩
/-- Four.bottom -/
abbrev st68 : Stmt := inClass (top 55) 4
def N68 : List Str := ["self"]
def P68 : List Str := ["self"]
def c68 : S :=
    (.seq (.ret (.fld (.var 0) 79228688900059664593393577837))
    .nop)
def f68 : Fn := ⟨1, 1, 0, c68⟩
/-- Four.norm -/
abbrev st69 : Stmt := inClass (top 55) 6
def N69 : List Str := ["self", "size"]
def P69 : List Str := ["self"]
def c69 : S :=
    (.seq (.asg 1 (.call 16 (.cons (.fld (.fld (.var 0) 20282544358415273851079157248609) 72058072783019873) (.cons (.fld (.fld (.var 0) 20282544358415273851079157248609) 72058072783019874) (.cons (.fld (.var 0) 20282544358415274979234140480883) .nil)))))
    (.seq (.ret (.call 5 (.cons (.var 1) (.cons (.bin .Mult (.fld (.var 0) 79228688900059664593393577837) (.fld (.var 0) 79228688900059664593393577837)) .nil))))
    .nop))
def f69 : Fn := ⟨1, 2, 0, c69⟩
/-- Four.mate -/
abbrev st70 : Stmt := inClass (top 55) 8
def N70 : List Str := ["self"]
def P70 : List Str := ["self"]
def c70 : S :=
    (.seq (.ret (.call 23 (.cons (.fld (.var 0) 20282544358415273851079157248609) (.cons (.call 15 (.cons (.fld (.var 0) 20282544358415274979234140480883) .nil)) (.cons (.fld (.var 0) 79228688900059664593393577837) .nil)))))
    .nop)
def f70 : Fn := ⟨1, 1, 0, c70⟩
/-- Four.inverse -/
abbrev st71 : Stmt := inClass (top 55) 9
def N71 : List Str := ["self", "size", "entries", "entry"]
def P71 : List Str := ["self"]
def c71 : S :=
    (.seq (.asg 1 (.call 16 (.cons (.fld (.fld (.var 0) 20282544358415273851079157248609) 72058072783019873) (.cons (.fld (.fld (.var 0) 20282544358415273851079157248609) 72058072783019874) (.cons (.fld (.var 0) 20282544358415274979234140480883) .nil)))))
    (.seq (.ifS (.cmp .Eq (.var 1) (.lit (.int 0)))
      (.seq .never
      .nop)
      .nop)
    (.seq (.asg 2 (.blt .tuple (.cons (.comp (.bin .Mult (.fld (.var 0) 79228688900059664593393577837) (.var 3)) [3] (.call 15 (.cons (.fld (.var 0) 20282544358415274979234140480883) .nil)) (.lit (.bl true))) .nil)))
    (.seq (.ret (.call 23 (.cons (.fld (.var 0) 20282544358415273851079157248609) (.cons (.var 2) (.cons (.var 1) .nil)))))
    .nop))))
def f71 : Fn := ⟨1, 4, 0, c71⟩
/-- Four.scaled -/
abbrev st72 : Stmt := inClass (top 55) 11
def N72 : List Str := ["self", "ratio", "more", "entries", "entry"]
def P72 : List Str := ["self", "ratio"]
def c72 : S :=
    (.seq (.asg 2 (.call 7 (.cons (.var 1) .nil)))
    (.seq (.asg 3 (.blt .tuple (.cons (.comp (.bin .Mult (.prp (.var 2) 1099519258480) (.var 4)) [4] (.fld (.var 0) 20282544358415274979234140480883) (.lit (.bl true))) .nil)))
    (.seq (.ret (.call 23 (.cons (.fld (.var 0) 20282544358415273851079157248609) (.cons (.var 3) (.cons (.bin .Mult (.fld (.var 0) 79228688900059664593393577837) (.prp (.var 2) 18446852304544231277)) .nil)))))
    .nop)))
def f72 : Fn := ⟨2, 5, 0, c72⟩
/-- Four.__add__ -/
abbrev st73 : Stmt := inClass (top 55) 12
def N73 : List Str := ["self", "other", "low", "high", "entries", "one", "more"]
def P73 : List Str := ["self", "other"]
def c73 : S :=
    (.seq (.ifS (.notE (.isiC (.var 1) 281476158420338 [4722384897934469788257, 281476158420338, 72057939270202483, 72057947860265327, 72057956517178739]))
      (.seq .never
      .nop)
      .nop)
    (.seq (.expr (.call 29 (.cons (.var 0) (.cons (.var 1) .nil))))
    (.seq (.unp [2, 3] (.tup (.cons (.fld (.var 0) 79228688900059664593393577837) (.cons (.fld (.var 1) 79228688900059664593393577837) .nil))))
    (.seq (.asg 4 (.blt .tuple (.cons (.comp (.bin .Add (.bin .Mult (.var 5) (.var 3)) (.bin .Mult (.var 6) (.var 2))) [5, 6] (.zipE (.fld (.var 0) 20282544358415274979234140480883) (.fld (.var 1) 20282544358415274979234140480883)) (.lit (.bl true))) .nil)))
    (.seq (.ret (.call 23 (.cons (.fld (.var 0) 20282544358415273851079157248609) (.cons (.var 4) (.cons (.bin .Mult (.var 2) (.var 3)) .nil)))))
    .nop)))))
def f73 : Fn := ⟨2, 7, 0, c73⟩
/-- Four.__sub__ -/
abbrev st74 : Stmt := inClass (top 55) 13
def N74 : List Str := ["self", "other"]
def P74 : List Str := ["self", "other"]
def c74 : S :=
    (.seq (.ifS (.notE (.isiC (.var 1) 281476158420338 [4722384897934469788257, 281476158420338, 72057939270202483, 72057947860265327, 72057956517178739]))
      (.seq .never
      .nop)
      .nop)
    (.seq (.expr (.call 29 (.cons (.var 0) (.cons (.var 1) .nil))))
    (.seq (.ret (.bin .Add (.var 0) (.neg (.var 1))))
    .nop)))
def f74 : Fn := ⟨2, 2, 0, c74⟩
/-- Four.__mul__ -/
abbrev st75 : Stmt := inClass (top 55) 14
def N75 : List Str := ["self", "other", "algebra", "entries"]
def P75 : List Str := ["self", "other"]
def c75 : S :=
    (.seq (.ifS (.notE (.isiC (.var 1) 281476158420338 [4722384897934469788257, 281476158420338, 72057939270202483, 72057947860265327, 72057956517178739]))
      (.seq .never
      .nop)
      .nop)
    (.seq (.expr (.call 29 (.cons (.var 0) (.cons (.var 1) .nil))))
    (.seq (.asg 2 (.fld (.var 0) 20282544358415273851079157248609))
    (.seq (.asg 3 (.call 14 (.cons (.fld (.var 2) 72058072783019873) (.cons (.fld (.var 2) 72058072783019874) (.cons (.fld (.var 0) 20282544358415274979234140480883) (.cons (.fld (.var 1) 20282544358415274979234140480883) .nil))))))
    (.seq (.ret (.call 23 (.cons (.var 2) (.cons (.var 3) (.cons (.bin .Mult (.fld (.var 0) 79228688900059664593393577837) (.fld (.var 1) 79228688900059664593393577837)) .nil)))))
    .nop)))))
def f75 : Fn := ⟨2, 4, 0, c75⟩
/-- Four.__neg__ -/
abbrev st76 : Stmt := inClass (top 55) 15
def N76 : List Str := ["self", "entry"]
def P76 : List Str := ["self"]
def c76 : S :=
    (.seq (.ret (.call 23 (.cons (.fld (.var 0) 20282544358415273851079157248609) (.cons (.blt .tuple (.cons (.comp (.neg (.var 1)) [1] (.fld (.var 0) 20282544358415274979234140480883) (.lit (.bl true))) .nil)) (.cons (.fld (.var 0) 79228688900059664593393577837) .nil)))))
    .nop)
def f76 : Fn := ⟨1, 2, 0, c76⟩
/-- Four.__eq__ -/
abbrev st77 : Stmt := inClass (top 55) 16
def N77 : List Str := ["self", "other"]
def P77 : List Str := ["self", "other"]
def c77 : S :=
    (.seq (.ifS (.orE (.notE (.isiC (.var 1) 281476158420338 [4722384897934469788257, 281476158420338, 72057939270202483, 72057947860265327, 72057956517178739])) (.cmp .NotEq (.fld (.var 0) 20282544358415273851079157248609) (.fld (.var 1) 20282544358415273851079157248609)))
      (.seq (.ret (.lit (.bl false)))
      .nop)
      .nop)
    (.seq (.ret (.andE (.cmp .Eq (.fld (.var 0) 79228688900059664593393577837) (.fld (.var 1) 79228688900059664593393577837)) (.cmp .Eq (.fld (.var 0) 20282544358415274979234140480883) (.fld (.var 1) 20282544358415274979234140480883))))
    .nop))
def f77 : Fn := ⟨2, 2, 0, c77⟩
def mts : List (Nat × Nat × Nat) := [(72057956517178739, 1208932691942108501925727, 49), (72057947860265327, 1208932691942108501925727, 50), (72057947860265327, 4722393327864333492063, 54), (72057947860265327, 4722393327941927984991, 55), (72057947860265327, 4722393327916158836575, 56), (72057947860265327, 4722393327920185040735, 57), (72057947860265327, 18446848937038012255, 58), (4722384897934469788257, 1208932691942108501925727, 59), (4722384897934469788257, 72058016579676531, 62), (4722384897934469788257, 18446848937038012255, 63), (72057939270202483, 1208932691942108501925727, 64), (281476158420338, 1208932691942108501925727, 65), (281476158420338, 281476811813989, 70), (281476158420338, 4722396159196987028325, 71), (281476158420338, 18446870944383001956, 72), (281476158420338, 4722393327864333492063, 73), (281476158420338, 4722393327941927984991, 74), (281476158420338, 4722393327916158836575, 75), (281476158420338, 4722393327920185040735, 76), (281476158420338, 18446848937038012255, 77)]
def prs : List (Nat × Nat × Nat) := [(72057947860265327, 1099519258480, 51), (72057947860265327, 18446852304544231277, 52), (72057947860265327, 281476912998254, 53), (4722384897934469788257, 16777313, 60), (4722384897934469788257, 16777314, 61), (281476158420338, 4722393905133724529249, 66), (281476158420338, 4722395033288707761523, 67), (281476158420338, 18446852304544231277, 68), (281476158420338, 281476829508205, 69)]
def Fs : Tab := { fns := [f0, f1, f2, f3, f4, f5, f6, f7, f8, f9, f10, f11, f12, f13, f14, f15, f16, f17, f18, f19, f20, f21, f22, f23, f24, f25, f26, f27, f28, f29, f30, f31, f32, f33, f34, f35, f36, f37, f38, f39, f40, f41, f42, f43, f44, f45, f46, f47, f48, f49, f50, f51, f52, f53, f54, f55, f56, f57, f58, f59, f60, f61, f62, f63, f64, f65, f66, f67, f68, f69, f70, f71, f72, f73, f74, f75, f76, f77], mts := mts, prs := prs }
def T : Tb := { fnm := [("is_whole" : Str), ("is_integer" : Str), ("require_integer" : Str), ("common_of" : Str), ("sign_of_integer" : Str), ("ratio_of" : Str), ("is_ratio_or_integer" : Str), ("told_ratio" : Str), ("is_number" : Str), ("require_number" : Str), ("factors_of" : Str), ("power_rest" : Str), ("residue_sign_of" : Str), ("parted_by" : Str), ("raw_product" : Str), ("raw_mate" : Str), ("raw_norm" : Str), ("sign_by_two" : Str), ("sign_by_prime" : Str), ("sign_of" : Str), ("places_of" : Str), ("lowest" : Str), ("parts_told" : Str), ("four_made" : Str), ("require_algebra" : Str), ("require_four" : Str), ("is_four_of" : Str), ("require_four_of" : Str), ("require_two_fours" : Str), ("require_same_algebra" : Str), ("require_sizes" : Str), ("require_two" : Str), ("is_integer_four" : Str), ("is_images" : Str), ("has_inverse" : Str), ("turned" : Str), ("_law_jug" : Str), ("_law_pour" : Str), ("_law_of" : Str), ("_law_times" : Str), ("_law_drawn" : Str), ("_law_pair" : Str), ("_law_squares_to" : Str), ("_law_do_turn" : Str), ("_law_are_images" : Str), ("_law_four" : Str), ("_law_near" : Str), ("_law_right" : Str), ("law" : Str)], gnm := ["BEYOND", "MAX_NUMBER", "REAL", "MANY_ENTRIES", "MAX_SIDE"], gval := [(.int 1000000000000000000000000000000000000000000000000000000000000), (.int 1000000000), (.int 0), (.int 4), (.int 10000)], bnm := ["isinstance", "int", "bool", "abs", "sorted", "tuple", "len", "all", "max", "sum", "list", "range", "repr", "min", "zip"], dfl := [(23, [(.int 1)])], mts := mts, prs := prs, cls := [4722384897934469788257, 281476158420338, 72057939270202483, 72057947860265327, 72057956517178739], mks := [(72057947860265327, []), (72057956517178739, []), (72057939270202483, []), (281476158420338, [(.int 1)]), (281476158420338, []), (72057947860265327, [(.int 1)]), (4722384897934469788257, [])], sls := [(4722384897934469788257, [72058072783019873, 72058072783019874, 22300893362960104240665737060543834854878836, 79228688900059679973351581043]), (281476158420338, [20282544358415273851079157248609, 79228688900059664593393577837, 20282544358415274979234140480883]), (72057939270202483, [79228688900059664593393577837, 20282544358415274979234140480883]), (72057947860265327, [79228688900059664593393577837, 4722397857907991670640]), (72057956517178739, [79228688900059664593393577837, 4722397857907991670640])] }
theorem sc0 : FnScope N0 P0 (defScope st0) := ⟨rfl, rfl, rfl, by decide +kernel, rfl, by decide +kernel, by decide +kernel⟩
theorem ck0 : chkS T c0 (defScope st0) N0 (defBody st0) = true := by decide +kernel
theorem ok0 : DefOk T f0 N0 P0 st0 := ⟨rfl, rfl, sc0, ck0⟩
theorem sc1 : FnScope N1 P1 (defScope st1) := ⟨rfl, rfl, rfl, by decide +kernel, rfl, by decide +kernel, by decide +kernel⟩
theorem ck1 : chkS T c1 (defScope st1) N1 (defBody st1) = true := by decide +kernel
theorem ok1 : DefOk T f1 N1 P1 st1 := ⟨rfl, rfl, sc1, ck1⟩
theorem sc2 : FnScope N2 P2 (defScope st2) := ⟨rfl, rfl, rfl, by decide +kernel, rfl, by decide +kernel, by decide +kernel⟩
theorem ck2 : chkS T c2 (defScope st2) N2 (defBody st2) = true := by decide +kernel
theorem ok2 : DefOk T f2 N2 P2 st2 := ⟨rfl, rfl, sc2, ck2⟩
theorem sc3 : FnScope N3 P3 (defScope st3) := ⟨rfl, rfl, rfl, by decide +kernel, rfl, by decide +kernel, by decide +kernel⟩
theorem ck3 : chkS T c3 (defScope st3) N3 (defBody st3) = true := by decide +kernel
theorem ok3 : DefOk T f3 N3 P3 st3 := ⟨rfl, rfl, sc3, ck3⟩
theorem sc4 : FnScope N4 P4 (defScope st4) := ⟨rfl, rfl, rfl, by decide +kernel, rfl, by decide +kernel, by decide +kernel⟩
theorem ck4 : chkS T c4 (defScope st4) N4 (defBody st4) = true := by decide +kernel
theorem ok4 : DefOk T f4 N4 P4 st4 := ⟨rfl, rfl, sc4, ck4⟩
theorem sc5 : FnScope N5 P5 (defScope st5) := ⟨rfl, rfl, rfl, by decide +kernel, rfl, by decide +kernel, by decide +kernel⟩
theorem ck5 : chkS T c5 (defScope st5) N5 (defBody st5) = true := by decide +kernel
theorem ok5 : DefOk T f5 N5 P5 st5 := ⟨rfl, rfl, sc5, ck5⟩
theorem sc6 : FnScope N6 P6 (defScope st6) := ⟨rfl, rfl, rfl, by decide +kernel, rfl, by decide +kernel, by decide +kernel⟩
theorem ck6 : chkS T c6 (defScope st6) N6 (defBody st6) = true := by decide +kernel
theorem ok6 : DefOk T f6 N6 P6 st6 := ⟨rfl, rfl, sc6, ck6⟩
theorem sc7 : FnScope N7 P7 (defScope st7) := ⟨rfl, rfl, rfl, by decide +kernel, rfl, by decide +kernel, by decide +kernel⟩
theorem ck7 : chkS T c7 (defScope st7) N7 (defBody st7) = true := by decide +kernel
theorem ok7 : DefOk T f7 N7 P7 st7 := ⟨rfl, rfl, sc7, ck7⟩
theorem sc8 : FnScope N8 P8 (defScope st8) := ⟨rfl, rfl, rfl, by decide +kernel, rfl, by decide +kernel, by decide +kernel⟩
theorem ck8 : chkS T c8 (defScope st8) N8 (defBody st8) = true := by decide +kernel
theorem ok8 : DefOk T f8 N8 P8 st8 := ⟨rfl, rfl, sc8, ck8⟩
theorem sc9 : FnScope N9 P9 (defScope st9) := ⟨rfl, rfl, rfl, by decide +kernel, rfl, by decide +kernel, by decide +kernel⟩
theorem ck9 : chkS T c9 (defScope st9) N9 (defBody st9) = true := by decide +kernel
theorem ok9 : DefOk T f9 N9 P9 st9 := ⟨rfl, rfl, sc9, ck9⟩
theorem sc10 : FnScope N10 P10 (defScope st10) := ⟨rfl, rfl, rfl, by decide +kernel, rfl, by decide +kernel, by decide +kernel⟩
theorem ck10 : chkS T c10 (defScope st10) N10 (defBody st10) = true := by decide +kernel
theorem ok10 : DefOk T f10 N10 P10 st10 := ⟨rfl, rfl, sc10, ck10⟩
theorem sc11 : FnScope N11 P11 (defScope st11) := ⟨rfl, rfl, rfl, by decide +kernel, rfl, by decide +kernel, by decide +kernel⟩
theorem ck11 : chkS T c11 (defScope st11) N11 (defBody st11) = true := by decide +kernel
theorem ok11 : DefOk T f11 N11 P11 st11 := ⟨rfl, rfl, sc11, ck11⟩
theorem sc12 : FnScope N12 P12 (defScope st12) := ⟨rfl, rfl, rfl, by decide +kernel, rfl, by decide +kernel, by decide +kernel⟩
theorem ck12 : chkS T c12 (defScope st12) N12 (defBody st12) = true := by decide +kernel
theorem ok12 : DefOk T f12 N12 P12 st12 := ⟨rfl, rfl, sc12, ck12⟩
theorem sc13 : FnScope N13 P13 (defScope st13) := ⟨rfl, rfl, rfl, by decide +kernel, rfl, by decide +kernel, by decide +kernel⟩
theorem ck13 : chkS T c13 (defScope st13) N13 (defBody st13) = true := by decide +kernel
theorem ok13 : DefOk T f13 N13 P13 st13 := ⟨rfl, rfl, sc13, ck13⟩
theorem sc14 : FnScope N14 P14 (defScope st14) := ⟨rfl, rfl, rfl, by decide +kernel, rfl, by decide +kernel, by decide +kernel⟩
theorem ck14 : chkS T c14 (defScope st14) N14 (defBody st14) = true := by decide +kernel
theorem ok14 : DefOk T f14 N14 P14 st14 := ⟨rfl, rfl, sc14, ck14⟩
theorem sc15 : FnScope N15 P15 (defScope st15) := ⟨rfl, rfl, rfl, by decide +kernel, rfl, by decide +kernel, by decide +kernel⟩
theorem ck15 : chkS T c15 (defScope st15) N15 (defBody st15) = true := by decide +kernel
theorem ok15 : DefOk T f15 N15 P15 st15 := ⟨rfl, rfl, sc15, ck15⟩
theorem sc16 : FnScope N16 P16 (defScope st16) := ⟨rfl, rfl, rfl, by decide +kernel, rfl, by decide +kernel, by decide +kernel⟩
theorem ck16 : chkS T c16 (defScope st16) N16 (defBody st16) = true := by decide +kernel
theorem ok16 : DefOk T f16 N16 P16 st16 := ⟨rfl, rfl, sc16, ck16⟩
theorem sc17 : FnScope N17 P17 (defScope st17) := ⟨rfl, rfl, rfl, by decide +kernel, rfl, by decide +kernel, by decide +kernel⟩
theorem ck17 : chkS T c17 (defScope st17) N17 (defBody st17) = true := by decide +kernel
theorem ok17 : DefOk T f17 N17 P17 st17 := ⟨rfl, rfl, sc17, ck17⟩
theorem sc18 : FnScope N18 P18 (defScope st18) := ⟨rfl, rfl, rfl, by decide +kernel, rfl, by decide +kernel, by decide +kernel⟩
theorem ck18 : chkS T c18 (defScope st18) N18 (defBody st18) = true := by decide +kernel
theorem ok18 : DefOk T f18 N18 P18 st18 := ⟨rfl, rfl, sc18, ck18⟩
theorem sc19 : FnScope N19 P19 (defScope st19) := ⟨rfl, rfl, rfl, by decide +kernel, rfl, by decide +kernel, by decide +kernel⟩
theorem ck19 : chkS T c19 (defScope st19) N19 (defBody st19) = true := by decide +kernel
theorem ok19 : DefOk T f19 N19 P19 st19 := ⟨rfl, rfl, sc19, ck19⟩
theorem sc20 : FnScope N20 P20 (defScope st20) := ⟨rfl, rfl, rfl, by decide +kernel, rfl, by decide +kernel, by decide +kernel⟩
theorem ck20 : chkS T c20 (defScope st20) N20 (defBody st20) = true := by decide +kernel
theorem ok20 : DefOk T f20 N20 P20 st20 := ⟨rfl, rfl, sc20, ck20⟩
theorem sc21 : FnScope N21 P21 (defScope st21) := ⟨rfl, rfl, rfl, by decide +kernel, rfl, by decide +kernel, by decide +kernel⟩
theorem ck21 : chkS T c21 (defScope st21) N21 (defBody st21) = true := by decide +kernel
theorem ok21 : DefOk T f21 N21 P21 st21 := ⟨rfl, rfl, sc21, ck21⟩
theorem sc22 : FnScope N22 P22 (defScope st22) := ⟨rfl, rfl, rfl, by decide +kernel, rfl, by decide +kernel, by decide +kernel⟩
theorem ck22 : chkS T c22 (defScope st22) N22 (defBody st22) = true := by decide +kernel
theorem ok22 : DefOk T f22 N22 P22 st22 := ⟨rfl, rfl, sc22, ck22⟩
theorem sc23 : FnScope N23 P23 (defScope st23) := ⟨rfl, rfl, rfl, by decide +kernel, rfl, by decide +kernel, by decide +kernel⟩
theorem ck23 : chkS T c23 (defScope st23) N23 (defBody st23) = true := by decide +kernel
theorem ok23 : DefOk T f23 N23 P23 st23 := ⟨rfl, rfl, sc23, ck23⟩
theorem sc24 : FnScope N24 P24 (defScope st24) := ⟨rfl, rfl, rfl, by decide +kernel, rfl, by decide +kernel, by decide +kernel⟩
theorem ck24 : chkS T c24 (defScope st24) N24 (defBody st24) = true := by decide +kernel
theorem ok24 : DefOk T f24 N24 P24 st24 := ⟨rfl, rfl, sc24, ck24⟩
theorem sc25 : FnScope N25 P25 (defScope st25) := ⟨rfl, rfl, rfl, by decide +kernel, rfl, by decide +kernel, by decide +kernel⟩
theorem ck25 : chkS T c25 (defScope st25) N25 (defBody st25) = true := by decide +kernel
theorem ok25 : DefOk T f25 N25 P25 st25 := ⟨rfl, rfl, sc25, ck25⟩
theorem sc26 : FnScope N26 P26 (defScope st26) := ⟨rfl, rfl, rfl, by decide +kernel, rfl, by decide +kernel, by decide +kernel⟩
theorem ck26 : chkS T c26 (defScope st26) N26 (defBody st26) = true := by decide +kernel
theorem ok26 : DefOk T f26 N26 P26 st26 := ⟨rfl, rfl, sc26, ck26⟩
theorem sc27 : FnScope N27 P27 (defScope st27) := ⟨rfl, rfl, rfl, by decide +kernel, rfl, by decide +kernel, by decide +kernel⟩
theorem ck27 : chkS T c27 (defScope st27) N27 (defBody st27) = true := by decide +kernel
theorem ok27 : DefOk T f27 N27 P27 st27 := ⟨rfl, rfl, sc27, ck27⟩
theorem sc28 : FnScope N28 P28 (defScope st28) := ⟨rfl, rfl, rfl, by decide +kernel, rfl, by decide +kernel, by decide +kernel⟩
theorem ck28 : chkS T c28 (defScope st28) N28 (defBody st28) = true := by decide +kernel
theorem ok28 : DefOk T f28 N28 P28 st28 := ⟨rfl, rfl, sc28, ck28⟩
theorem sc29 : FnScope N29 P29 (defScope st29) := ⟨rfl, rfl, rfl, by decide +kernel, rfl, by decide +kernel, by decide +kernel⟩
theorem ck29 : chkS T c29 (defScope st29) N29 (defBody st29) = true := by decide +kernel
theorem ok29 : DefOk T f29 N29 P29 st29 := ⟨rfl, rfl, sc29, ck29⟩
theorem sc30 : FnScope N30 P30 (defScope st30) := ⟨rfl, rfl, rfl, by decide +kernel, rfl, by decide +kernel, by decide +kernel⟩
theorem ck30 : chkS T c30 (defScope st30) N30 (defBody st30) = true := by decide +kernel
theorem ok30 : DefOk T f30 N30 P30 st30 := ⟨rfl, rfl, sc30, ck30⟩
theorem sc31 : FnScope N31 P31 (defScope st31) := ⟨rfl, rfl, rfl, by decide +kernel, rfl, by decide +kernel, by decide +kernel⟩
theorem ck31 : chkS T c31 (defScope st31) N31 (defBody st31) = true := by decide +kernel
theorem ok31 : DefOk T f31 N31 P31 st31 := ⟨rfl, rfl, sc31, ck31⟩
theorem sc32 : FnScope N32 P32 (defScope st32) := ⟨rfl, rfl, rfl, by decide +kernel, rfl, by decide +kernel, by decide +kernel⟩
theorem ck32 : chkS T c32 (defScope st32) N32 (defBody st32) = true := by decide +kernel
theorem ok32 : DefOk T f32 N32 P32 st32 := ⟨rfl, rfl, sc32, ck32⟩
theorem sc33 : FnScope N33 P33 (defScope st33) := ⟨rfl, rfl, rfl, by decide +kernel, rfl, by decide +kernel, by decide +kernel⟩
theorem ck33 : chkS T c33 (defScope st33) N33 (defBody st33) = true := by decide +kernel
theorem ok33 : DefOk T f33 N33 P33 st33 := ⟨rfl, rfl, sc33, ck33⟩
theorem sc34 : FnScope N34 P34 (defScope st34) := ⟨rfl, rfl, rfl, by decide +kernel, rfl, by decide +kernel, by decide +kernel⟩
theorem ck34 : chkS T c34 (defScope st34) N34 (defBody st34) = true := by decide +kernel
theorem ok34 : DefOk T f34 N34 P34 st34 := ⟨rfl, rfl, sc34, ck34⟩
theorem sc35 : FnScope N35 P35 (defScope st35) := ⟨rfl, rfl, rfl, by decide +kernel, rfl, by decide +kernel, by decide +kernel⟩
theorem ck35 : chkS T c35 (defScope st35) N35 (defBody st35) = true := by decide +kernel
theorem ok35 : DefOk T f35 N35 P35 st35 := ⟨rfl, rfl, sc35, ck35⟩
theorem sc36 : FnScope N36 P36 (defScope st36) := ⟨rfl, rfl, rfl, by decide +kernel, rfl, by decide +kernel, by decide +kernel⟩
theorem ck36 : chkS T c36 (defScope st36) N36 (defBody st36) = true := by decide +kernel
theorem ok36 : DefOk T f36 N36 P36 st36 := ⟨rfl, rfl, sc36, ck36⟩
theorem sc37 : FnScope N37 P37 (defScope st37) := ⟨rfl, rfl, rfl, by decide +kernel, rfl, by decide +kernel, by decide +kernel⟩
theorem ck37 : chkS T c37 (defScope st37) N37 (defBody st37) = true := by decide +kernel
theorem ok37 : DefOk T f37 N37 P37 st37 := ⟨rfl, rfl, sc37, ck37⟩
theorem sc38 : FnScope N38 P38 (defScope st38) := ⟨rfl, rfl, rfl, by decide +kernel, rfl, by decide +kernel, by decide +kernel⟩
theorem ck38 : chkS T c38 (defScope st38) N38 (defBody st38) = true := by decide +kernel
theorem ok38 : DefOk T f38 N38 P38 st38 := ⟨rfl, rfl, sc38, ck38⟩
theorem sc39 : FnScope N39 P39 (defScope st39) := ⟨rfl, rfl, rfl, by decide +kernel, rfl, by decide +kernel, by decide +kernel⟩
theorem ck39 : chkS T c39 (defScope st39) N39 (defBody st39) = true := by decide +kernel
theorem ok39 : DefOk T f39 N39 P39 st39 := ⟨rfl, rfl, sc39, ck39⟩
theorem sc40 : FnScope N40 P40 (defScope st40) := ⟨rfl, rfl, rfl, by decide +kernel, rfl, by decide +kernel, by decide +kernel⟩
theorem ck40 : chkS T c40 (defScope st40) N40 (defBody st40) = true := by decide +kernel
theorem ok40 : DefOk T f40 N40 P40 st40 := ⟨rfl, rfl, sc40, ck40⟩
theorem sc41 : FnScope N41 P41 (defScope st41) := ⟨rfl, rfl, rfl, by decide +kernel, rfl, by decide +kernel, by decide +kernel⟩
theorem ck41 : chkS T c41 (defScope st41) N41 (defBody st41) = true := by decide +kernel
theorem ok41 : DefOk T f41 N41 P41 st41 := ⟨rfl, rfl, sc41, ck41⟩
theorem sc42 : FnScope N42 P42 (defScope st42) := ⟨rfl, rfl, rfl, by decide +kernel, rfl, by decide +kernel, by decide +kernel⟩
theorem ck42 : chkS T c42 (defScope st42) N42 (defBody st42) = true := by decide +kernel
theorem ok42 : DefOk T f42 N42 P42 st42 := ⟨rfl, rfl, sc42, ck42⟩
theorem sc43 : FnScope N43 P43 (defScope st43) := ⟨rfl, rfl, rfl, by decide +kernel, rfl, by decide +kernel, by decide +kernel⟩
theorem ck43 : chkS T c43 (defScope st43) N43 (defBody st43) = true := by decide +kernel
theorem ok43 : DefOk T f43 N43 P43 st43 := ⟨rfl, rfl, sc43, ck43⟩
theorem sc44 : FnScope N44 P44 (defScope st44) := ⟨rfl, rfl, rfl, by decide +kernel, rfl, by decide +kernel, by decide +kernel⟩
theorem ck44 : chkS T c44 (defScope st44) N44 (defBody st44) = true := by decide +kernel
theorem ok44 : DefOk T f44 N44 P44 st44 := ⟨rfl, rfl, sc44, ck44⟩
theorem sc45 : FnScope N45 P45 (defScope st45) := ⟨rfl, rfl, rfl, by decide +kernel, rfl, by decide +kernel, by decide +kernel⟩
theorem ck45 : chkS T c45 (defScope st45) N45 (defBody st45) = true := by decide +kernel
theorem ok45 : DefOk T f45 N45 P45 st45 := ⟨rfl, rfl, sc45, ck45⟩
theorem sc46 : FnScope N46 P46 (defScope st46) := ⟨rfl, rfl, rfl, by decide +kernel, rfl, by decide +kernel, by decide +kernel⟩
theorem ck46 : chkS T c46 (defScope st46) N46 (defBody st46) = true := by decide +kernel
theorem ok46 : DefOk T f46 N46 P46 st46 := ⟨rfl, rfl, sc46, ck46⟩
theorem sc47 : FnScope N47 P47 (defScope st47) := ⟨rfl, rfl, rfl, by decide +kernel, rfl, by decide +kernel, by decide +kernel⟩
theorem ck47 : chkS T c47 (defScope st47) N47 (defBody st47) = true := by decide +kernel
theorem ok47 : DefOk T f47 N47 P47 st47 := ⟨rfl, rfl, sc47, ck47⟩
theorem sc48 : FnScope N48 P48 (defScope st48) := ⟨rfl, rfl, rfl, by decide +kernel, rfl, by decide +kernel, by decide +kernel⟩
theorem ck48 : chkS T c48 (defScope st48) N48 (defBody st48) = true := by decide +kernel
theorem ok48 : DefOk T f48 N48 P48 st48 := ⟨rfl, rfl, sc48, ck48⟩
theorem sc49 : FnScope N49 P49 (defScope st49) := ⟨rfl, rfl, rfl, by decide +kernel, rfl, by decide +kernel, by decide +kernel⟩
theorem ck49 : chkS T c49 (defScope st49) N49 (defBody st49) = true := by decide +kernel
theorem ok49 : DefOk T f49 N49 P49 st49 := ⟨rfl, rfl, sc49, ck49⟩
theorem sc50 : FnScope N50 P50 (defScope st50) := ⟨rfl, rfl, rfl, by decide +kernel, rfl, by decide +kernel, by decide +kernel⟩
theorem ck50 : chkS T c50 (defScope st50) N50 (defBody st50) = true := by decide +kernel
theorem ok50 : DefOk T f50 N50 P50 st50 := ⟨rfl, rfl, sc50, ck50⟩
theorem sc51 : FnScope N51 P51 (defScope st51) := ⟨rfl, rfl, rfl, by decide +kernel, rfl, by decide +kernel, by decide +kernel⟩
theorem ck51 : chkS T c51 (defScope st51) N51 (defBody st51) = true := by decide +kernel
theorem ok51 : DefOk T f51 N51 P51 st51 := ⟨rfl, rfl, sc51, ck51⟩
theorem sc52 : FnScope N52 P52 (defScope st52) := ⟨rfl, rfl, rfl, by decide +kernel, rfl, by decide +kernel, by decide +kernel⟩
theorem ck52 : chkS T c52 (defScope st52) N52 (defBody st52) = true := by decide +kernel
theorem ok52 : DefOk T f52 N52 P52 st52 := ⟨rfl, rfl, sc52, ck52⟩
theorem sc53 : FnScope N53 P53 (defScope st53) := ⟨rfl, rfl, rfl, by decide +kernel, rfl, by decide +kernel, by decide +kernel⟩
theorem ck53 : chkS T c53 (defScope st53) N53 (defBody st53) = true := by decide +kernel
theorem ok53 : DefOk T f53 N53 P53 st53 := ⟨rfl, rfl, sc53, ck53⟩
theorem sc54 : FnScope N54 P54 (defScope st54) := ⟨rfl, rfl, rfl, by decide +kernel, rfl, by decide +kernel, by decide +kernel⟩
theorem ck54 : chkS T c54 (defScope st54) N54 (defBody st54) = true := by decide +kernel
theorem ok54 : DefOk T f54 N54 P54 st54 := ⟨rfl, rfl, sc54, ck54⟩
theorem sc55 : FnScope N55 P55 (defScope st55) := ⟨rfl, rfl, rfl, by decide +kernel, rfl, by decide +kernel, by decide +kernel⟩
theorem ck55 : chkS T c55 (defScope st55) N55 (defBody st55) = true := by decide +kernel
theorem ok55 : DefOk T f55 N55 P55 st55 := ⟨rfl, rfl, sc55, ck55⟩
theorem sc56 : FnScope N56 P56 (defScope st56) := ⟨rfl, rfl, rfl, by decide +kernel, rfl, by decide +kernel, by decide +kernel⟩
theorem ck56 : chkS T c56 (defScope st56) N56 (defBody st56) = true := by decide +kernel
theorem ok56 : DefOk T f56 N56 P56 st56 := ⟨rfl, rfl, sc56, ck56⟩
theorem sc57 : FnScope N57 P57 (defScope st57) := ⟨rfl, rfl, rfl, by decide +kernel, rfl, by decide +kernel, by decide +kernel⟩
theorem ck57 : chkS T c57 (defScope st57) N57 (defBody st57) = true := by decide +kernel
theorem ok57 : DefOk T f57 N57 P57 st57 := ⟨rfl, rfl, sc57, ck57⟩
theorem sc58 : FnScope N58 P58 (defScope st58) := ⟨rfl, rfl, rfl, by decide +kernel, rfl, by decide +kernel, by decide +kernel⟩
theorem ck58 : chkS T c58 (defScope st58) N58 (defBody st58) = true := by decide +kernel
theorem ok58 : DefOk T f58 N58 P58 st58 := ⟨rfl, rfl, sc58, ck58⟩
theorem sc59 : FnScope N59 P59 (defScope st59) := ⟨rfl, rfl, rfl, by decide +kernel, rfl, by decide +kernel, by decide +kernel⟩
theorem ck59 : chkS T c59 (defScope st59) N59 (defBody st59) = true := by decide +kernel
theorem ok59 : DefOk T f59 N59 P59 st59 := ⟨rfl, rfl, sc59, ck59⟩
theorem sc60 : FnScope N60 P60 (defScope st60) := ⟨rfl, rfl, rfl, by decide +kernel, rfl, by decide +kernel, by decide +kernel⟩
theorem ck60 : chkS T c60 (defScope st60) N60 (defBody st60) = true := by decide +kernel
theorem ok60 : DefOk T f60 N60 P60 st60 := ⟨rfl, rfl, sc60, ck60⟩
theorem sc61 : FnScope N61 P61 (defScope st61) := ⟨rfl, rfl, rfl, by decide +kernel, rfl, by decide +kernel, by decide +kernel⟩
theorem ck61 : chkS T c61 (defScope st61) N61 (defBody st61) = true := by decide +kernel
theorem ok61 : DefOk T f61 N61 P61 st61 := ⟨rfl, rfl, sc61, ck61⟩
theorem sc62 : FnScope N62 P62 (defScope st62) := ⟨rfl, rfl, rfl, by decide +kernel, rfl, by decide +kernel, by decide +kernel⟩
theorem ck62 : chkS T c62 (defScope st62) N62 (defBody st62) = true := by decide +kernel
theorem ok62 : DefOk T f62 N62 P62 st62 := ⟨rfl, rfl, sc62, ck62⟩
theorem sc63 : FnScope N63 P63 (defScope st63) := ⟨rfl, rfl, rfl, by decide +kernel, rfl, by decide +kernel, by decide +kernel⟩
theorem ck63 : chkS T c63 (defScope st63) N63 (defBody st63) = true := by decide +kernel
theorem ok63 : DefOk T f63 N63 P63 st63 := ⟨rfl, rfl, sc63, ck63⟩
theorem sc64 : FnScope N64 P64 (defScope st64) := ⟨rfl, rfl, rfl, by decide +kernel, rfl, by decide +kernel, by decide +kernel⟩
theorem ck64 : chkS T c64 (defScope st64) N64 (defBody st64) = true := by decide +kernel
theorem ok64 : DefOk T f64 N64 P64 st64 := ⟨rfl, rfl, sc64, ck64⟩
theorem sc65 : FnScope N65 P65 (defScope st65) := ⟨rfl, rfl, rfl, by decide +kernel, rfl, by decide +kernel, by decide +kernel⟩
theorem ck65 : chkS T c65 (defScope st65) N65 (defBody st65) = true := by decide +kernel
theorem ok65 : DefOk T f65 N65 P65 st65 := ⟨rfl, rfl, sc65, ck65⟩
theorem sc66 : FnScope N66 P66 (defScope st66) := ⟨rfl, rfl, rfl, by decide +kernel, rfl, by decide +kernel, by decide +kernel⟩
theorem ck66 : chkS T c66 (defScope st66) N66 (defBody st66) = true := by decide +kernel
theorem ok66 : DefOk T f66 N66 P66 st66 := ⟨rfl, rfl, sc66, ck66⟩
theorem sc67 : FnScope N67 P67 (defScope st67) := ⟨rfl, rfl, rfl, by decide +kernel, rfl, by decide +kernel, by decide +kernel⟩
theorem ck67 : chkS T c67 (defScope st67) N67 (defBody st67) = true := by decide +kernel
theorem ok67 : DefOk T f67 N67 P67 st67 := ⟨rfl, rfl, sc67, ck67⟩
theorem sc68 : FnScope N68 P68 (defScope st68) := ⟨rfl, rfl, rfl, by decide +kernel, rfl, by decide +kernel, by decide +kernel⟩
theorem ck68 : chkS T c68 (defScope st68) N68 (defBody st68) = true := by decide +kernel
theorem ok68 : DefOk T f68 N68 P68 st68 := ⟨rfl, rfl, sc68, ck68⟩
theorem sc69 : FnScope N69 P69 (defScope st69) := ⟨rfl, rfl, rfl, by decide +kernel, rfl, by decide +kernel, by decide +kernel⟩
theorem ck69 : chkS T c69 (defScope st69) N69 (defBody st69) = true := by decide +kernel
theorem ok69 : DefOk T f69 N69 P69 st69 := ⟨rfl, rfl, sc69, ck69⟩
theorem sc70 : FnScope N70 P70 (defScope st70) := ⟨rfl, rfl, rfl, by decide +kernel, rfl, by decide +kernel, by decide +kernel⟩
theorem ck70 : chkS T c70 (defScope st70) N70 (defBody st70) = true := by decide +kernel
theorem ok70 : DefOk T f70 N70 P70 st70 := ⟨rfl, rfl, sc70, ck70⟩
theorem sc71 : FnScope N71 P71 (defScope st71) := ⟨rfl, rfl, rfl, by decide +kernel, rfl, by decide +kernel, by decide +kernel⟩
theorem ck71 : chkS T c71 (defScope st71) N71 (defBody st71) = true := by decide +kernel
theorem ok71 : DefOk T f71 N71 P71 st71 := ⟨rfl, rfl, sc71, ck71⟩
theorem sc72 : FnScope N72 P72 (defScope st72) := ⟨rfl, rfl, rfl, by decide +kernel, rfl, by decide +kernel, by decide +kernel⟩
theorem ck72 : chkS T c72 (defScope st72) N72 (defBody st72) = true := by decide +kernel
theorem ok72 : DefOk T f72 N72 P72 st72 := ⟨rfl, rfl, sc72, ck72⟩
theorem sc73 : FnScope N73 P73 (defScope st73) := ⟨rfl, rfl, rfl, by decide +kernel, rfl, by decide +kernel, by decide +kernel⟩
theorem ck73 : chkS T c73 (defScope st73) N73 (defBody st73) = true := by decide +kernel
theorem ok73 : DefOk T f73 N73 P73 st73 := ⟨rfl, rfl, sc73, ck73⟩
theorem sc74 : FnScope N74 P74 (defScope st74) := ⟨rfl, rfl, rfl, by decide +kernel, rfl, by decide +kernel, by decide +kernel⟩
theorem ck74 : chkS T c74 (defScope st74) N74 (defBody st74) = true := by decide +kernel
theorem ok74 : DefOk T f74 N74 P74 st74 := ⟨rfl, rfl, sc74, ck74⟩
theorem sc75 : FnScope N75 P75 (defScope st75) := ⟨rfl, rfl, rfl, by decide +kernel, rfl, by decide +kernel, by decide +kernel⟩
theorem ck75 : chkS T c75 (defScope st75) N75 (defBody st75) = true := by decide +kernel
theorem ok75 : DefOk T f75 N75 P75 st75 := ⟨rfl, rfl, sc75, ck75⟩
theorem sc76 : FnScope N76 P76 (defScope st76) := ⟨rfl, rfl, rfl, by decide +kernel, rfl, by decide +kernel, by decide +kernel⟩
theorem ck76 : chkS T c76 (defScope st76) N76 (defBody st76) = true := by decide +kernel
theorem ok76 : DefOk T f76 N76 P76 st76 := ⟨rfl, rfl, sc76, ck76⟩
theorem sc77 : FnScope N77 P77 (defScope st77) := ⟨rfl, rfl, rfl, by decide +kernel, rfl, by decide +kernel, by decide +kernel⟩
theorem ck77 : chkS T c77 (defScope st77) N77 (defBody st77) = true := by decide +kernel
theorem ok77 : DefOk T f77 N77 P77 st77 := ⟨rfl, rfl, sc77, ck77⟩
end K23

namespace K23
open PySem PySem.Spec PyProof.Rows L2 EV HQ NT
def lf : Nat := 10 ^ 1000
theorem lf_big : 10 ^ 100 ≤ lf := by decide +kernel
def slots : List (Nat × List Nat) := [(4722384897934469788257, [72058072783019873, 72058072783019874, 22300893362960104240665737060543834854878836, 79228688900059679973351581043]), (281476158420338, [20282544358415273851079157248609, 79228688900059664593393577837, 20282544358415274979234140480883]), (72057939270202483, [79228688900059664593393577837, 20282544358415274979234140480883]), (72057947860265327, [79228688900059664593393577837, 4722397857907991670640]), (72057956517178739, [79228688900059664593393577837, 4722397857907991670640])]
def I : PIx := { is_whole := 0, is_integer := 1, require_integer := 2, common_of := 3, ratio_of := 5, is_ratio_or_integer := 6, told_ratio := 7, is_number := 8, require_number := 9, factors_of := 10, power_rest := 11, residue_sign_of := 12, parted_by := 13, raw_product := 14, raw_mate := 15, raw_norm := 16, sign_by_two := 17, sign_by_prime := 18, sign_of := 19, places_of := 20, lowest := 21, parts_told := 22, four_made := 23, require_algebra := 24, require_same_algebra := 29, gBEYOND := 0, gMAX_NUMBER := 1, gREAL := 2, gMANY_ENTRIES := 3, cs := [4722384897934469788257, 281476158420338, 72057939270202483, 72057947860265327, 72057956517178739], tb := fun f => slots.filter fun p => p.2.contains f }
def J : BIx := { pair := 41, drawn := 40, times := 39 }
theorem ic : I.Cl := ⟨by decide, by decide, by decide, by decide, by decide, by rfl, by rfl, by rfl, by rfl, by rfl, by rfl, by rfl, by rfl, by rfl, by rfl, by rfl, by rfl⟩
theorem a_whole : At Fs lf 1 (PWhole I.is_whole) := ok_whole ⟨rfl, by decide⟩
theorem a_integer : At Fs lf 2 (PInteger I.is_integer) := ok_integer a_whole ⟨rfl, by decide⟩
theorem a_reqInt : At Fs lf 3 (PReqInt I.require_integer) := ok_reqInt a_integer ⟨rfl, by decide⟩
theorem a_number : At Fs lf 2 (PNumber I.is_number) := ok_number a_whole ⟨rfl, by decide⟩
theorem a_reqNum : At Fs lf 3 (PReqNum I.require_number) := ok_reqNum a_number ⟨rfl, by decide⟩
theorem a_common : At Fs lf 1 (PCommon I.common_of) := ok_common lf_big ⟨rfl, by decide⟩
theorem a_terms : At Fs lf 1 PTerms := ok_terms ic ⟨_, rfl, by decide, rfl, by decide⟩
theorem a_ratio : At Fs lf 2 PRatio := ok_ratio a_common ic ⟨_, rfl, by decide, rfl, by decide⟩
theorem a_ratio2 : At Fs lf 4 PRatio2 := ok_ratio2 a_common a_reqInt ic ⟨_, rfl, by decide, rfl, by decide⟩
theorem a_ratioOf : At Fs lf 3 (PRatioOf I.ratio_of) := ok_ratioOf a_terms a_ratio ⟨rfl, by decide⟩
theorem a_isRat : At Fs lf 3 (PIsRat I.is_ratio_or_integer) := ok_isRat a_integer ic ⟨rfl, by decide⟩
theorem a_told : At Fs lf 4 (PTold I.told_ratio) := ok_told a_integer a_ratioOf ic ⟨rfl, by decide⟩
theorem a_radd : At Fs lf 5 (POp mAdd (· + ·)) := ok_add a_isRat a_told a_ratioOf ⟨_, rfl, by decide, rfl, by decide⟩
theorem a_rsub : At Fs lf 5 (POp mSub (· - ·)) := ok_sub a_isRat a_told a_ratioOf ⟨_, rfl, by decide, rfl, by decide⟩
theorem a_rmul : At Fs lf 5 (POp mMul (· * ·)) := ok_mul a_isRat a_told a_ratioOf ⟨_, rfl, by decide, rfl, by decide⟩
theorem a_req : At Fs lf 2 PEqR := ok_eqR a_whole ic ⟨_, rfl, by decide, rfl, by decide⟩
theorem a_low : At Fs lf 2 (PLowest I.lowest) := ok_lowest a_common ⟨rfl, by decide⟩
theorem a_parts : At Fs lf 3 PParts := ok_parts a_low ic ic.eP ⟨_, rfl, by decide, rfl, by decide⟩
theorem a_partsTold : At Fs lf 4 (PPartsTold I.parts_told) := ok_partsTold a_parts a_integer ic ⟨rfl, by decide⟩
theorem a_reqAlg : At Fs lf 1 (PReqAlg I.require_algebra) := ok_reqAlg ic ⟨rfl, by decide⟩
theorem a_four : At Fs lf 5 PFour := ok_four a_reqAlg a_partsTold ic ⟨_, rfl, by decide, rfl, by decide⟩
theorem a_made : At Fs lf 6 (PMade I.four_made) := ok_made a_parts a_four ⟨rfl, by decide⟩
theorem a_eqA : At Fs lf 1 PEqA := ok_eqA ic ⟨_, rfl, by decide, rfl, by decide⟩
theorem a_same : At Fs lf 2 (PSame I.require_same_algebra) := ok_same a_eqA ⟨rfl, by decide⟩
theorem a_eqF : At Fs lf 2 PEqF := ok_eqF a_eqA ic ⟨_, rfl, by decide, rfl, by decide⟩
theorem a_prod : At Fs lf 1 (PProd I.raw_product) := ok_prod ⟨rfl, by decide⟩
theorem a_rmate : At Fs lf 1 (PMate I.raw_mate) := ok_mate ⟨rfl, by decide⟩
theorem a_rnorm : At Fs lf 1 (PNorm I.raw_norm) := ok_norm ⟨rfl, by decide⟩
theorem a_mulF : At Fs lf 7 PMulF := ok_mulF a_same a_prod a_made ic ⟨_, rfl, by decide, rfl, by decide⟩
theorem a_addF : At Fs lf 7 PAddF := ok_addF a_same a_made ic ⟨_, rfl, by decide, rfl, by decide⟩
theorem a_negF : At Fs lf 7 PNegF := ok_negF a_made ⟨_, rfl, by decide, rfl, by decide⟩
theorem a_subF : At Fs lf 8 PSubF := ok_subF a_same a_addF a_negF ic ⟨_, rfl, by decide, rfl, by decide⟩
theorem a_mateF : At Fs lf 7 PMateF := ok_mateF a_rmate a_made ⟨_, rfl, by decide, rfl, by decide⟩
theorem a_nrmF : At Fs lf 4 PNrmF := ok_nrmF a_rnorm a_ratioOf ⟨_, rfl, by decide, rfl, by decide⟩
theorem a_invF : At Fs lf 7 PInvF := ok_invF a_rnorm a_rmate a_made ⟨_, rfl, by decide, rfl, by decide⟩
theorem a_topR : At Fs lf 1 PTopR := ok_topR (I := I) ⟨_, rfl, by decide, rfl, by decide⟩
theorem a_botR : At Fs lf 1 PBotR := ok_botR (I := I) ⟨_, rfl, by decide, rfl, by decide⟩
theorem a_sclF : At Fs lf 7 PSclF := ok_sclF a_told a_topR a_botR a_made ⟨_, rfl, by decide, rfl, by decide⟩
theorem a_facs : At Fs lf 1 (PFacs I.factors_of) := ok_facs lf_big ⟨rfl, by decide⟩
theorem a_part : At Fs lf 1 (PPart I.parted_by) := ok_part lf_big ⟨rfl, by decide⟩
theorem a_pow : At Fs lf 1 (PPow I.power_rest) := ok_pow lf_big ⟨rfl, by decide⟩
theorem a_rsg : At Fs lf 2 (PRsg I.residue_sign_of) := ok_rsg a_pow ⟨rfl, by decide⟩
theorem a_sg2 : At Fs lf 1 (PSg2 I.sign_by_two) := ok_sg2 ⟨rfl, by decide⟩
theorem a_sgp : At Fs lf 3 (PSgp I.sign_by_prime) := ok_sgp a_part a_rsg a_sg2 ⟨rfl, by decide⟩
theorem a_sgn : At Fs lf 4 (PSgn I.sign_of) := ok_sgn a_sgp ⟨rfl, by decide⟩
theorem a_places : At Fs lf 5 (PPlaces I.places_of) := ok_places a_facs a_sgn ⟨rfl, by decide⟩
theorem a_alg : At Fs lf 6 PAlg := ok_alg a_reqNum a_places ic ⟨_, rfl, by decide, rfl, by decide⟩
theorem a_basis : At Fs lf 7 PBasis := ok_basis a_made ⟨_, rfl, by decide, rfl, by decide⟩
end K23

namespace K23
open PySem PySem.Spec PyProof.Rows L2 EV HQ NT
def Jj : JIx := { jug := 36, pour := 37, of_ := 38 }
theorem a_pour : At Fs lf 1 (PPour Jj.pour) := ok_pour ⟨rfl, by decide⟩
theorem a_jug : At Fs lf 1 (PJug Jj.jug) := ok_jug ⟨rfl, by decide⟩
theorem a_of : At Fs lf 2 (POf Jj.of_) := ok_of a_pour ⟨rfl, by decide⟩
theorem eqOp_lstI (ns ms : List Int) (R : Sto) : eqOp (.lst (ns.map D.int)) (.lst (ms.map D.int)) R = some (decide (ns = ms)) := by
  simp [eqOp, derefs, toP, toPs_ints, SeqAt.shaped, PyData.canLay0, lay_ints, PyData.eqv, eqv_ints, PyData.depth]
  have := depth_ints ns
  have := depth_ints ms
  omega
/-- a list that is not empty -/
theorem eqOp_ln (d : D) (ds : List D) (R : Sto) : eqOp (.lst (d :: ds)) (.lst []) R = some false := by
  have e : eqLen (.lst (d :: ds)) (.lst []) R = some false := rfl
  have h1 : toP (derefs R (.lst (d :: ds))) = (toPs (d :: ds)).map PyData.list := rfl
  have h2 : toP (derefs R (.lst [])) = some (.list []) := rfl
  unfold eqOp
  rw [h1, h2]
  cases h : toPs (d :: ds) with
  | none => exact e
  | some ps =>
    cases ps with
    | nil =>
      unfold toPs at h
      split at h
      · cases h
      · cases h
    | cons p ps =>
      show (if (SeqAt.shaped (.list (p :: ps)) && SeqAt.shaped (.list [])) = true then some (PyData.eqv (.list (p :: ps)) (.list [])) else eqLen (.lst (d :: ds)) (.lst []) R) = _
      split
      · rfl
      · exact e
theorem ne_ln (d : D) (ds : List D) (R : Sto) : cmpop .NotEq (.lst (d :: ds)) (.lst []) R = some true := by
  show (eqOp (.lst (d :: ds)) (.lst []) R).map (fun b => !b) = _
  rw [eqOp_ln]
  rfl
theorem ne_l0 (R : Sto) : cmpop .NotEq (.lst []) (.lst []) R = some false := rfl
@[simp] theorem tg_four (i j k l : Nat) (a b c d : D) (σ : En) : setTg [i, j, k, l] (.tup [a, b, c, d]) σ = some ((((σ.set i (some a)).set j (some b)).set k (some c)).set l (some d)) := rfl
/-! ### what is read of things -/
theorem p_sgn0 (n : Nat) (i : Int) (R : Sto) : EV.run Fs lf (n + 1) 4 [.int i] R = .ok (.val (.int ((if decide (i > 0) = true then 1 else 0) - (if decide (i < 0) = true then 1 else 0)))) R := by
  rw [run_at n 4 _ _ f4 (by decide) rfl]
  simp [f4, c4]
theorem p_sign (n : Nat) (q : Rat) (R : Sto) : EV.run Fs lf (n + 1 + 1) (2 * 281476912998254 + 1) [ratioD q] R = .ok (.val (.int ((if decide (q.num > 0) = true then 1 else 0) - (if decide (q.num < 0) = true then 1 else 0)))) R := by
  have h : HasP Fs 72057947860265327 281476912998254 f53 := ⟨_, rfl, by decide, rfl, by decide⟩
  have hr2 : EV.run Fs lf (n + 1 + 1) (2 * 281476912998254 + 1) [ratioD q] R = _ := run_p h (cls_ratio _ _)
  rw [hr2]
  simp [f53, c53, p_sgn0]
theorem p_a (n : Nat) (A : Al) (R : Sto) : EV.run Fs lf (n + 1) (2 * 16777313 + 1) [algD A] R = .ok (.val (.int A.a)) R := by
  have h : HasP Fs 4722384897934469788257 16777313 f60 := ⟨_, rfl, by decide, rfl, by decide⟩
  have hr2 : EV.run Fs lf (n + 1) (2 * 16777313 + 1) [algD A] R = _ := run_p h (cls_alg _ _)
  rw [hr2]
  simp [f60, c60]
theorem p_b (n : Nat) (A : Al) (R : Sto) : EV.run Fs lf (n + 1) (2 * 16777314 + 1) [algD A] R = .ok (.val (.int A.b)) R := by
  have h : HasP Fs 4722384897934469788257 16777314 f61 := ⟨_, rfl, by decide, rfl, by decide⟩
  have hr2 : EV.run Fs lf (n + 1) (2 * 16777314 + 1) [algD A] R = _ := run_p h (cls_alg _ _)
  rw [hr2]
  simp [f61, c61]
theorem p_alg (n : Nat) (A : Al) (v : H) (R : Sto) : EV.run Fs lf (n + 1) (2 * 4722393905133724529249 + 1) [fourD A v] R = .ok (.val (algD A)) R := by
  have h : HasP Fs 281476158420338 4722393905133724529249 f66 := ⟨_, rfl, by decide, rfl, by decide⟩
  have hr2 : EV.run Fs lf (n + 1) (2 * 4722393905133724529249 + 1) [fourD A v] R = _ := run_p h (cls_four _ _ _)
  rw [hr2]
  simp [f66, c66]
theorem p_ent (n : Nat) (A : Al) (v : H) (R : Sto) : EV.run Fs lf (n + 1) (2 * 4722395033288707761523 + 1) [fourD A v] R = .ok (.val (entD (rep v))) R := by
  have h : HasP Fs 281476158420338 4722395033288707761523 f67 := ⟨_, rfl, by decide, rfl, by decide⟩
  have hr2 : EV.run Fs lf (n + 1) (2 * 4722395033288707761523 + 1) [fourD A v] R = _ := run_p h (cls_four _ _ _)
  rw [hr2]
  simp [f67, c67]
theorem p_bot (n : Nat) (A : Al) (v : H) (R : Sto) : EV.run Fs lf (n + 1) (2 * 18446852304544231277 + 1) [fourD A v] R = .ok (.val (.int (rep v).b)) R := by
  have h : HasP Fs 281476158420338 18446852304544231277 f68 := ⟨_, rfl, by decide, rfl, by decide⟩
  have hr2 : EV.run Fs lf (n + 1) (2 * 18446852304544231277 + 1) [fourD A v] R = _ := run_p h (cls_four _ _ _)
  rw [hr2]
  simp [f68, c68]
/-! ### the judges' parts -/
def tD (a b : Int) (p q : E5) : D := .tup [.int (t0 a b p q), .int (t1 a b p q), .int (t2 a b p q), .int (t3 a b p q)]
theorem times (n : Nat) (a b : Int) (p q : E5) (R : Sto) (k m : Nat) [BI a 30] [BI b 30] [BE p k] [BE q m] (hk : k ≤ 3000) (hm : m ≤ 3000) : EV.run Fs lf (n + 1) 39 [.int a, .int b, entD p, entD q] R = .ok (.val (tD a b p q)) R := by
  rw [run_at n 39 _ _ f39 (by decide) rfl]
  haveI : BE p 3000 := BE.up (n := k) inferInstance hk
  haveI : BE q 3000 := BE.up (n := m) inferInstance hm
  simp only [f39, c39]
  simp (config := { decide := true }) [mulOk_bd, entD, tD, t0, t1, t2, t3]
theorem isint (n : Nat) (A : Al) (v : H) (k : Int) (R : Sto) : EV.run Fs lf (n + 1) 32 [fourD A v, .int k] R = .ok (.val (.bl (decide (v = intH k)))) R := by
  rw [run_at n 32 _ _ f32 (by decide) rfl]
  rw [← is_int v k]
  simp only [f32, c32]
  have e : ∀ R, cmpop .Eq (entD (rep v)) (.tup [.int k, .int 0, .int 0, .int 0]) R = some (decide ((rep v).e0 = k ∧ (rep v).e1 = 0 ∧ (rep v).e2 = 0 ∧ (rep v).e3 = 0)) := fun R => by
    refine (eqOp_tupI [(rep v).e0, (rep v).e1, (rep v).e2, (rep v).e3] [k, 0, 0, 0] R).trans ?_
    simp
  by_cases h : (rep v).b = 1 <;> simp [h, e]
theorem squares (n : Nat) (A : Al) (v : H) (k : Int) (R : Sto) [OkA A] [BH v 1300] [BI k 60] : EV.run Fs lf (n + 1 + 1) 42 [algD A, fourD A v, .int k] R = .ok (.val (.bl (decide (mulA A v v = intH k)))) R := by
  rw [run_at (n + 1) 42 _ _ f42 (by decide) rfl]
  rw [← sq_iff A.a A.b k v]
  haveI : BE (rep v) 1300 := BH.h
  have ht := fun R => times n A.a A.b (rep v) (rep v) R 1300 1300 (by decide) (by decide)
  simp only [f42, c42]
  have e : ∀ R, cmpop .Eq (tD A.a A.b (rep v) (rep v)) (.tup [.int (k * (rep v).b * (rep v).b), .int 0, .int 0, .int 0]) R = some (decide (t0 A.a A.b (rep v) (rep v) = k * (rep v).b * (rep v).b ∧ t1 A.a A.b (rep v) (rep v) = 0 ∧ t2 A.a A.b (rep v) (rep v) = 0 ∧ t3 A.a A.b (rep v) (rep v) = 0)) := fun R => by
    refine (eqOp_tupI [t0 A.a A.b (rep v) (rep v), t1 A.a A.b (rep v) (rep v), t2 A.a A.b (rep v) (rep v), t3 A.a A.b (rep v) (rep v)] [k * (rep v).b * (rep v).b, 0, 0, 0] R).trans ?_
    simp
  have pa := p_a n
  have pb := p_b n
  have pe := p_ent n
  have po := p_bot n
  simp only [Nat.reduceMul, Nat.reduceAdd] at pa pb pe po
  have up1 : up (tD A.a A.b (rep v) (rep v)) = tD A.a A.b (rep v) (rep v) := rfl
  have cx : ∀ cf y R, cmpX cf .Eq (tD A.a A.b (rep v) (rep v)) y R = liftO (cmpY .Eq (tD A.a A.b (rep v) (rep v)) y R) R fun b => .val (.bl b) := fun cf y R => rfl
  simp (config := { decide := true }) [pa, pb, pe, po, ht, e, mulOk_bd, cx]
theorem doturn (n : Nat) (A : Al) (v u : H) (R : Sto) [OkA A] [BH v 1300] [BH u 1300] : EV.run Fs lf (n + 1 + 1) 43 [algD A, fourD A v, fourD A u] R = .ok (.val (.bl (decide (mulA A v u = negH (mulA A u v))))) R := by
  rw [run_at (n + 1) 43 _ _ f43 (by decide) rfl]
  rw [← turn_iff A.a A.b v u]
  haveI : BE (rep v) 1300 := BH.h
  haveI : BE (rep u) 1300 := BH.h
  have h1 := fun R => times n A.a A.b (rep v) (rep u) R 1300 1300 (by decide) (by decide)
  have h2 := fun R => times n A.a A.b (rep u) (rep v) R 1300 1300 (by decide) (by decide)
  have e : ∀ R, cmpop .Eq (.lst [.int (t0 A.a A.b (rep v) (rep u)), .int (t1 A.a A.b (rep v) (rep u)), .int (t2 A.a A.b (rep v) (rep u)), .int (t3 A.a A.b (rep v) (rep u))]) (.lst [.int (0 - t0 A.a A.b (rep u) (rep v)), .int (0 - t1 A.a A.b (rep u) (rep v)), .int (0 - t2 A.a A.b (rep u) (rep v)), .int (0 - t3 A.a A.b (rep u) (rep v))]) R = some (decide (t0 A.a A.b (rep v) (rep u) = 0 - t0 A.a A.b (rep u) (rep v) ∧ t1 A.a A.b (rep v) (rep u) = 0 - t1 A.a A.b (rep u) (rep v) ∧ t2 A.a A.b (rep v) (rep u) = 0 - t2 A.a A.b (rep u) (rep v) ∧ t3 A.a A.b (rep v) (rep u) = 0 - t3 A.a A.b (rep u) (rep v))) := fun R => by
    refine (eqOp_lstI [t0 A.a A.b (rep v) (rep u), t1 A.a A.b (rep v) (rep u), t2 A.a A.b (rep v) (rep u), t3 A.a A.b (rep v) (rep u)] [0 - t0 A.a A.b (rep u) (rep v), 0 - t1 A.a A.b (rep u) (rep v), 0 - t2 A.a A.b (rep u) (rep v), 0 - t3 A.a A.b (rep u) (rep v)] R).trans ?_
    simp
  have pa := p_a n
  have pb := p_b n
  have pe := p_ent n
  simp only [Nat.reduceMul, Nat.reduceAdd] at pa pb pe
  simp only [tD] at h1 h2
  simp only [f43, c43]
  simp only [Int.zero_sub] at e
  simp (config := { decide := true }) [pa, pb, pe, h1, h2, e, compV, compF]
/-! ### the two judges -/
def El (A S : Al) (e : D) : Prop := (∃ v, BH v 1300 ∧ e = fourD A v) ∨ (∃ v, e = fourD S v) ∨ e = .non ∨ (∃ t, e = entD t)
theorem fo_A (n : Nat) (A : Al) (v : H) (R : Sto) : EV.run Fs lf (n + 1 + 1) 26 [algD A, fourD A v] R = .ok (.val (.bl true)) R := by
  rw [run_at (n + 1) 26 _ _ f26 (by decide) rfl]
  have he := a_eqA (n + 1) (by omega)
  simp (config := { decide := true }) [f26, c26, he]
theorem fo_S (n : Nat) (A S : Al) (v : H) (R : Sto) (h : ¬ (S.a = A.a ∧ S.b = A.b)) : EV.run Fs lf (n + 1 + 1) 26 [algD A, fourD S v] R = .ok (.val (.bl false)) R := by
  rw [run_at (n + 1) 26 _ _ f26 (by decide) rfl]
  have he := a_eqA (n + 1) (by omega)
  have hd : decide (S.a = A.a ∧ S.b = A.b) = false := decide_eq_false h
  simp (config := { decide := true }) [-not_and, f26, c26, he, hd, h]
@[simp] theorem isiY_non (k : Nat) (cs : List Nat) (R : Sto) : isiY k cs .non R = .ok (.val (.bl false)) R := rfl
@[simp] theorem isiY_ent (k : Nat) (cs : List Nat) (t : E5) (R : Sto) : isiY k cs (entD t) R = .ok (.val (.bl false)) R := rfl
theorem fo_N (n : Nat) (A : Al) (R : Sto) : EV.run Fs lf (n + 1 + 1) 26 [algD A, .non] R = .ok (.val (.bl false)) R := by
  rw [run_at (n + 1) 26 _ _ f26 (by decide) rfl]
  simp (config := { decide := true }) [f26, c26]
theorem fo_E (n : Nat) (A : Al) (t : E5) (R : Sto) : EV.run Fs lf (n + 1 + 1) 26 [algD A, entD t] R = .ok (.val (.bl false)) R := by
  rw [run_at (n + 1) 26 _ _ f26 (by decide) rfl]
  simp (config := { decide := true }) [f26, c26]
/-- the sizes that are let -/
def SmB (A : Al) : Prop := -10000 ≤ A.a ∧ A.a ≤ 10000 ∧ -10000 ≤ A.b ∧ A.b ≤ 10000
theorem sizes (n : Nat) (A B : Al) (R : Sto) (hA : SmB A) (hB : SmB B) : EV.run Fs lf (n + 1) 30 [.tup [algD A, algD B], .int 10000] R = .ok (.val .non) R := by
  obtain ⟨h1, h2, h3, h4⟩ := hA
  obtain ⟨g1, g2, g3, g4⟩ := hB
  rw [run_at n 30 _ _ f30 (by decide) rfl]
  simp only [f30, c30]
  have k1 : ¬ (if (if A.b < 0 then -A.b else A.b) > (if A.a < 0 then -A.a else A.a) then (if A.b < 0 then -A.b else A.b) else (if A.a < 0 then -A.a else A.a)) > 10000 := by
    split <;> split <;> omega
  have k2 : ¬ (if (if B.b < 0 then -B.b else B.b) > (if B.a < 0 then -B.a else B.a) then (if B.b < 0 then -B.b else B.b) else (if B.a < 0 then -B.a else B.a)) > 10000 := by
    split <;> split <;> omega
  simp (config := { decide := true }) [forV, k1, k2]
theorem two (n : Nat) (A B : Al) (R : Sto) (hA : SmB A) (hB : SmB B) : EV.run Fs lf (n + 1 + 1) 31 [algD A, algD B, .int 10000] R = .ok (.val .non) R := by
  have hs := fun R => sizes n A B R hA hB
  have ha := a_reqAlg (n + 1) (by omega)
  have ha' : ∀ (A : Al) (R : Sto), EV.run Fs lf (n + 1) 24 [algD A] R = .ok (.val .non) R := ha
  rw [run_at (n + 1) 31 _ _ f31 (by decide) rfl]
  simp only [f31, c31]
  simp (config := { decide := true }) [hs, ha']
@[simp] theorem isiX_non (t : Ty) (R : Sto) : isiX t .non R = .ok (.val (.bl (Ty.isi .non t))) R := rfl
@[simp] theorem isiX_lst (t : Ty) (ds : List D) (R : Sto) : isiX t (.lst ds) R = .ok (.val (.bl (Ty.isi .list t))) R := rfl
@[simp] theorem isiX_dct (t : Ty) (ks : List Key) (ds : List D) (R : Sto) : isiX t (.dct ks ds) R = .ok (.val (.bl (Ty.isi .dict t))) R := rfl
@[simp] theorem t6 : Ty.isi .non .tuple = false := rfl
@[simp] theorem t7 : Ty.isi .int .tuple = false := rfl
@[simp] theorem t8 : Ty.isi .list .tuple = false := rfl
@[simp] theorem t9 : Ty.isi .dict .tuple = false := rfl
@[simp] theorem t10 : Ty.isi .str .tuple = false := rfl
@[simp] theorem up_str (t : Str) : up (.str t) = .str t := rfl
@[simp] theorem up_dct (ks : List Key) (ds : List D) : up (.dct ks ds) = .dct ks ds := rfl
@[simp] theorem isiX_str' (t : Ty) (x : Str) (R : Sto) : isiX t (.str x) R = .ok (.val (.bl (Ty.isi .str t))) R := rfl
/-- what both judges say of two fours of the algebra -/
def gd (A B : Al) (v u : H) : Bool := decide (mulA A v v = intH B.a) && (decide (mulA A u u = intH B.b) && decide (mulA A v u = negH (mulA A u v)))
def ElK (A S : Al) (e : D) : Prop := (∃ v, e = fourD S v) ∨ e = .non ∨ (∃ t, e = entD t)
/-- values that are no pairs of fours of the algebra -/
def NoP (A S : Al) (d : D) : Prop := (∃ es, d = .tup es ∧ es.length ≠ 2) ∨ (∃ e1 e2, d = .tup [e1, e2] ∧ El A S e1 ∧ El A S e2 ∧ (ElK A S e1 ∨ ElK A S e2)) ∨ (∃ es, d = .lst es) ∨ d = .non ∨ (∃ i, d = .int i) ∨ (∃ t, d = .str t) ∨ (∃ ks ds, d = .dct ks ds)
theorem im_yes (n : Nat) (hn : 8 ≤ n) (A B : Al) (v u : H) (R : Sto) [OkA A] [BH v 1300] [BH u 1300] (hA : SmB A) (hB : SmB B) : EV.run Fs lf (n + 1 + 1 + 1) 33 [algD B, algD A, .tup [fourD A v, fourD A u]] R = .ok (.val (.bl (gd A B v u))) R := by
  rw [run_at (n + 1 + 1) 33 _ _ f33 (by decide) rfl]
  have h1 := fun R => two n B A R hB hA
  have h2 := fun v R => fo_A n A v R
  have hmul := a_mulF (n + 1 + 1) (by omega)
  have hneg := a_negF (n + 1 + 1) (by omega)
  have heq := a_eqF (n + 1 + 1) (by omega)
  have hi := fun v k R => isint (n + 1) A v k R
  have allt : ∀ R, bltop .all [.lst [.bl true, .bl true]] R = .ok (.val (.bl true)) R := fun R => rfl
  simp only [f33, c33]
  by_cases q1 : mulH A.a A.b v v = intH B.a <;> by_cases q2 : mulH A.a A.b u u = intH B.b <;>
    simp (config := { decide := true }) [h1, h2, hmul, hneg, heq, hi, mulA, gd, q1, q2, compV, compF, allt]
theorem im_no (n : Nat) (hn : 8 ≤ n) (A B S : Al) (d : D) (R : Sto) (hA : SmB A) (hB : SmB B) (hS : ¬ (S.a = A.a ∧ S.b = A.b)) (hd : NoP A S d) : EV.run Fs lf (n + 1 + 1 + 1) 33 [algD B, algD A, d] R = .ok (.val (.bl false)) R := by
  rw [run_at (n + 1 + 1) 33 _ _ f33 (by decide) rfl]
  have h1 := fun R => two n B A R hB hA
  have hA4 := fun v R => fo_A n A v R
  have hS4 := fun v R => fo_S n A S v R hS
  have hN4 := fun R => fo_N n A R
  have hE4 := fun t R => fo_E n A t R
  have a2 : ∀ (x y : Bool) R, bltop .all [.lst [.bl x, .bl y]] R = .ok (.val (.bl (x && y))) R := fun x y R => by
    show (Out.ok (Rv.val (.bl ([x, y].all id))) R : Out Rv) = _
    simp
  simp only [f33, c33]
  rcases hd with ⟨es, rfl, hl⟩ | ⟨e1, e2, rfl, g1, g2, g⟩ | ⟨es, rfl⟩ | rfl | ⟨i, rfl⟩ | ⟨t, rfl⟩ | ⟨ks, ds, rfl⟩
  · have hl' : ¬ (es.length : Int) = 2 := by omega
    simp (config := { decide := true }) [h1, hl']
  · have key : ∃ x y : Bool, (x && y) = false ∧ (∀ R, EV.run Fs lf (n + 1 + 1) 26 [algD A, e1] R = .ok (.val (.bl x)) R) ∧ (∀ R, EV.run Fs lf (n + 1 + 1) 26 [algD A, e2] R = .ok (.val (.bl y)) R) ∧ up e1 = e1 ∧ up e2 = e2 := by
      have one : ∀ e, El A S e → ∃ x : Bool, (∀ R, EV.run Fs lf (n + 1 + 1) 26 [algD A, e] R = .ok (.val (.bl x)) R) ∧ up e = e := fun e h => by
        rcases h with ⟨v, _, rfl⟩ | ⟨v, rfl⟩ | rfl | ⟨t, rfl⟩
        · exact ⟨true, hA4 v, rfl⟩
        · exact ⟨false, hS4 v, rfl⟩
        · exact ⟨false, hN4, rfl⟩
        · exact ⟨false, hE4 t, rfl⟩
      have no : ∀ e, ElK A S e → (∀ R, EV.run Fs lf (n + 1 + 1) 26 [algD A, e] R = .ok (.val (.bl false)) R) := fun e h => by
        rcases h with ⟨v, rfl⟩ | rfl | ⟨t, rfl⟩
        · exact hS4 v
        · exact hN4
        · exact hE4 t
      obtain ⟨x, hx, ux⟩ := one e1 g1
      obtain ⟨y, hy, uy⟩ := one e2 g2
      rcases g with g | g
      · exact ⟨false, y, rfl, no e1 g, hy, ux, uy⟩
      · exact ⟨x, false, by simp, hx, no e2 g, ux, uy⟩
    obtain ⟨x, y, hxy, hx, hy, ux, uy⟩ := key
    simp (config := { decide := true }) [h1, hx, hy, compV, compF, a2, hxy, ux, uy]
  all_goals simp (config := { decide := true }) [h1]
theorem own_yes (n : Nat) (hn : 8 ≤ n) (A B : Al) (v u : H) (R : Sto) [OkA A] [OkA B] [BH v 1300] [BH u 1300] : EV.run Fs lf (n + 1 + 1 + 1) 44 [algD B, algD A, .tup [fourD A v, fourD A u]] R = .ok (.val (.bl (gd A B v u))) R := by
  rw [run_at (n + 1 + 1) 44 _ _ f44 (by decide) rfl]
  have heq := a_eqA (n + 1 + 1) (by omega)
  have pg := fun v R => p_alg (n + 1) A v R
  have pa := fun R => p_a (n + 1) B R
  have pb := fun R => p_b (n + 1) B R
  haveI : BI B.a 60 := BI.up (n := 30) inferInstance (by decide)
  haveI : BI B.b 60 := BI.up (n := 30) inferInstance (by decide)
  have s1 := fun R => squares n A v B.a R
  have s2 := fun R => squares n A u B.b R
  have s3 := fun R => doturn n A v u R
  simp only [Nat.reduceMul, Nat.reduceAdd] at pg pa pb
  simp only [f44, c44]
  by_cases q1 : mulH A.a A.b v v = intH B.a <;> by_cases q2 : mulH A.a A.b u u = intH B.b <;>
    simp (config := { decide := true }) [heq, pg, pa, pb, s1, s2, s3, mulA, gd, q1, q2, compV, compF, ne_l0]
@[simp] theorem byv_ent (t : E5) (R : Sto) : byv (entD t) R = some (entD t, R) := rfl
@[simp] theorem byv_four (A : Al) (v : H) (R : Sto) : byv (fourD A v) R = some (fourD A v, R) := rfl
theorem own_no (n : Nat) (hn : 8 ≤ n) (A B S : Al) (d : D) (R : Sto) (hS : ¬ (S.a = A.a ∧ S.b = A.b)) (hd : NoP A S d) : EV.run Fs lf (n + 1 + 1 + 1) 44 [algD B, algD A, d] R = .ok (.val (.bl false)) R := by
  rw [run_at (n + 1 + 1) 44 _ _ f44 (by decide) rfl]
  have heq := a_eqA (n + 1 + 1) (by omega)
  have pg := fun A v R => p_alg (n + 1) A v R
  have hde : decide (S.a = A.a ∧ S.b = A.b) = false := decide_eq_false hS
  have heqS : ∀ R, EV.run Fs lf (n + 1 + 1) (2 * mEq) [algD S, algD A] R = .ok (.val (.bl false)) R := fun R => by rw [heq, hde]
  have heqA : ∀ R, EV.run Fs lf (n + 1 + 1) (2 * mEq) [algD A, algD A] R = .ok (.val (.bl true)) R := fun R => by rw [heq]; simp
  simp only [Nat.reduceMul, Nat.reduceAdd] at pg
  simp only [f44, c44]
  rcases hd with ⟨es, rfl, hl⟩ | ⟨e1, e2, rfl, g1, g2, g⟩ | ⟨es, rfl⟩ | rfl | ⟨i, rfl⟩ | ⟨t, rfl⟩ | ⟨ks, ds, rfl⟩
  · have hl' : ¬ (es.length : Int) = 2 := by omega
    simp (config := { decide := true }) [hl']
  · have g' : (∃ v, e1 = fourD A v) → (∃ v, e2 = fourD A v) → False := fun ⟨v, h1⟩ ⟨u, h2⟩ => by
      have na : ∀ w, ¬ ElK A S (fourD A w) := fun w h => by
        rcases h with ⟨z, h⟩ | h | ⟨t, h⟩
        · unfold fourD algD at h
          injection h with _ _ h
          injection h with h _
          injection h with _ _ h
          injection h with ha h
          injection h with hb h
          injection ha with ha
          injection hb with hb
          exact hS ⟨ha.symm, hb.symm⟩
        · cases h
        · cases h
      subst h1
      subst h2
      rcases g with g | g
      · exact na _ g
      · exact na _ g
    clear g
    rcases g1 with ⟨v, _, rfl⟩ | ⟨v, rfl⟩ | rfl | ⟨t, rfl⟩ <;> rcases g2 with ⟨u, _, rfl⟩ | ⟨u, rfl⟩ | rfl | ⟨t', rfl⟩
    · exact absurd ⟨_, rfl⟩ fun h => g' h ⟨_, rfl⟩
    all_goals simp (config := { decide := true }) [pg, heqS, heqA, compV, compF, ne_l0, ne_ln]
  all_goals simp (config := { decide := true })
/-! ### draws -/
theorem drawn (n : Nat) (hn : 3 ≤ n) (j p : Nat) (o : O) (c mo : Int) (R : Sto) (hg : sget R j p = some o) (hb : Bj o c) (hc : c ≤ 500000) (m1 : 1 ≤ mo) (m2 : mo ≤ 100) : ∃ (v : Int) (o' : O), EV.run Fs lf (n + 1) 40 [.ref j p, .int mo] R = .ok (.val (.int v)) (sset R j p o') ∧ v ≠ 0 ∧ -100 ≤ v ∧ v ≤ 100 ∧ Bj o' (c + 2) := by
  obtain ⟨v, o1, e1, v0, v1, b1⟩ := a_pour n (by omega) (j + 1) p o c mo ([] :: R) hg hb (by omega) m1 (by omega)
  obtain ⟨w, o2, e2, w0, w1, b2⟩ := a_pour n (by omega) (j + 1) p o1 (c + 1) 2 ([] :: sset R j p o1) (sget_push hg o1) b1 (by omega) (by omega) (by omega)
  rw [sset_push] at e2
  simp only [sset1] at e1
  have e1' : EV.run Fs lf n 37 [.ref (j + 1) p, .int mo] ([] :: R) = .ok (.val (.int v)) ([] :: sset R j p o1) := e1
  have e2' : EV.run Fs lf n 37 [.ref (j + 1) p, .int 2] ([] :: sset R j p o1) = .ok (.val (.int w)) ([] :: sset R j p o2) := e2
  rw [run_at n 40 _ _ f40 (by decide) rfl]
  simp only [f40, c40]
  by_cases hw : w = 0
  · exact ⟨1 + v, o2, by simp [e1', e2', hw], by omega, by omega, by omega, b2.up (by omega)⟩
  · exact ⟨-(1 + v), o2, by simp [e1', e2', hw], by omega, by omega, by omega, b2.up (by omega)⟩
theorem pair (n : Nat) (hn : 5 ≤ n) (j p : Nat) (o : O) (c : Int) (R : Sto) (hg : sget R j p = some o) (hb : Bj o c) (hc : c ≤ 400000) : ∃ (a b : Int) (o' : O), EV.run Fs lf (n + 1) 41 [.ref j p] R = .ok (.val (.tup [.int a, .int b])) (sset R j p o') ∧ a ≠ 0 ∧ -100 ≤ a ∧ a ≤ 100 ∧ b ≠ 0 ∧ -100 ≤ b ∧ b ≤ 100 ∧ Bj o' (c + 5) := by
  obtain ⟨m, rfl⟩ : ∃ m, n = m + 1 := ⟨n - 1, by omega⟩
  obtain ⟨d, hd, o1, e1, b1⟩ := a_of (m + 1) (by omega) (j + 1) p o c ([3, 7, 12, 12, 30, 30, 100].map D.int) ([] :: R) hg hb (by omega) (by decide) (by decide) (int_ret _)
  obtain ⟨s, hs, rfl⟩ := List.mem_map.mp hd
  have sb : 1 ≤ s ∧ s ≤ 100 := by
    simp only [List.mem_cons, List.not_mem_nil, or_false] at hs
    omega
  obtain ⟨a, o2, e2, a0, a1, a2, b2⟩ := drawn m (by omega) (j + 1) p o1 (c + 1) s ([] :: sset R j p o1) (sget_push hg o1) b1 (by omega) sb.1 sb.2
  obtain ⟨b, o3, e3, h0, h1, h2, b3⟩ := drawn m (by omega) (j + 1) p o2 (c + 1 + 2) s ([] :: sset R j p o2) (sget_push hg o2) b2 (by omega) sb.1 sb.2
  rw [sset_push] at e2 e3
  simp only [List.map, sset1] at e1
  have e1' : EV.run Fs lf (m + 1) 38 [.ref (j + 1) p, .lst [.int 3, .int 7, .int 12, .int 12, .int 30, .int 30, .int 100]] ([] :: R) = .ok (.val (.int s)) ([] :: sset R j p o1) := e1
  refine ⟨a, b, o3, ?_, a0, a1, a2, h0, h1, h2, b3.up (by omega)⟩
  rw [run_at (m + 1) 41 _ _ f41 (by decide) rfl]
  simp only [f41, c41]
  simp [e1', e2, e3]
/-! ### fours led -/
theorem req4 (n : Nat) (A : Al) (v u : H) (R : Sto) : EV.run Fs lf (n + 1 + 1 + 1 + 1) 28 [fourD A v, fourD A u] R = .ok (.val .non) R := by
  have h1 : ∀ R, EV.run Fs lf (n + 1 + 1 + 1) 25 [fourD A v] R = .ok (.val .non) R := fun R => by
    rw [run_at (n + 1 + 1) 25 _ _ f25 (by decide) rfl]
    simp (config := { decide := true }) [f25, c25]
  have h2 : ∀ R, EV.run Fs lf (n + 1 + 1 + 1) 27 [algD A, fourD A u] R = .ok (.val .non) R := fun R => by
    rw [run_at (n + 1 + 1) 27 _ _ f27 (by decide) rfl]
    have := fun R => fo_A n A u R
    simp (config := { decide := true }) [f27, c27, this]
  rw [run_at (n + 1 + 1 + 1) 28 _ _ f28 (by decide) rfl]
  simp (config := { decide := true }) [f28, c28, h1, h2]
theorem hasinv (n : Nat) (A : Al) (v : H) (R : Sto) [OkA A] [BH v 42] (h : nrmA A v ≠ 0) : EV.run Fs lf (n + 1 + 1) 34 [fourD A v] R = .ok (.val (.bl true)) R := by
  rw [run_at (n + 1) 34 _ _ f34 (by decide) rfl]
  haveI : BE (rep v) 42 := BH.h
  have hn := fun R => a_rnorm (n + 1) (by omega) A.a A.b (rep v) R inferInstance inferInstance (BE.up (n := 42) BH.h (by decide))
  have hn' : ∀ R, EV.run Fs lf (n + 1) 16 [.int A.a, .int A.b, entD (rep v)] R = .ok (.val (.int (pn A.a A.b (rep v)))) R := hn
  have hz : ¬ pn A.a A.b (rep v) = 0 := fun q => h ((pn_zero A.a A.b v).mp q)
  simp only [f34, c34]
  simp (config := { decide := true }) [hn', hz]
theorem turnd (n : Nat) (hn : 12 ≤ n) (A : Al) (v u : H) (R : Sto) [OkA A] [BH v 42] [BH u 42] (h : nrmA A v ≠ 0) : EV.run Fs lf (n + 1) 35 [fourD A v, fourD A u] R = .ok (.new (fourO A (cj A.a A.b v u))) R := by
  obtain ⟨m, rfl⟩ : ∃ m, n = m + 1 + 1 + 1 + 1 := ⟨n - 4, by omega⟩
  rw [run_at (m + 1 + 1 + 1 + 1) 35 _ _ f35 (by decide) rfl]
  have h1 := fun R => req4 m A v u R
  have h2 := fun R => hasinv (m + 1 + 1) A v R h
  have hmul := a_mulF (m + 1 + 1 + 1 + 1) (by omega)
  have hinv := fun R => a_invF (m + 1 + 1 + 1 + 1) (by omega) A v R 42 h (by decide)
  haveI := BH.inv (a := A.a) (b := A.b) (v := v) (n := 42) h
  simp only [Nat.reduceMul] at hinv
  simp only [f35, c35]
  simp (config := { decide := true }) [h1, h2, hmul, hinv, mulA, cj]
abbrev cB45 : S := (.seq (.asg 3 (.new 281476158420338 (.cons (.var 1) (.cons (.blt .tuple (.cons (.comp (.bin .Sub (.call 37 (.cons (.var 0) (.cons (.lit (.int 9)) .nil))) (.lit (.int 4))) [4] (.rng1 (.lit (.int 4))) (.lit (.bl true))) .nil)) (.cons (.bin .Add (.lit (.int 1)) (.call 37 (.cons (.var 0) (.cons (.lit (.int 3)) .nil)))) .nil))) []))
      (.seq (.ifS (.cmp .NotEq (.prp (.prp (.var 3) 281476829508205) 281476912998254) (.lit (.int 0)))
        (.seq (.ret (.var 3))
        .nop)
        .nop)
      .nop))
theorem sgn_ne (q : Rat) : ((if decide (q.num > 0) = true then (1 : Int) else 0) - (if decide (q.num < 0) = true then 1 else 0) = 0) ↔ q = 0 := by
  constructor
  · intro h
    have : q.num = 0 := by
      by_cases h1 : q.num > 0 <;> by_cases h2 : q.num < 0 <;> simp [h1, h2] at h <;> omega
    exact Rat.num_eq_zero.mp this
  · rintro rfl
    rfl
theorem turn45 (n : Nat) (hn : 12 ≤ n) (A : Al) (hA : OkA A) (j p : Nat) (o o0 : O) (c : Int) (R : Sto) (y2 y3 : Option D) (hg : sget R j p = some o0) (hb : Bj o c) (hc : c ≤ 500000) : ∃ (v : H) (o' : O), BH v 42 ∧ Bj o' (c + 5) ∧
    (nrmA A v ≠ 0 → ex (EV.run Fs lf n) lf cB45 [some (.ref (j + 1) p), some (algD A), y2, y3, none] ([] :: sset R j p o) = .rt (.val (fourD A v)) ([] :: sset R j p o')) ∧
    (nrmA A v = 0 → ex (EV.run Fs lf n) lf cB45 [some (.ref (j + 1) p), some (algD A), y2, y3, none] ([] :: sset R j p o) = .nx [some (.ref (j + 1) p), some (algD A), y2, some (fourD A v), none] ([] :: sset R j p o')) := by
  obtain ⟨m, rfl⟩ : ∃ m, n = m + 1 + 1 := ⟨n - 2, by omega⟩
  obtain ⟨v0, o1, e0, a0, b0, w0⟩ := a_pour (m + 1 + 1) (by omega) (j + 1) p o c 9 ([] :: sset R j p o) (sget_push hg o) hb (by omega) (by decide) (by decide)
  obtain ⟨v1, o2, e1, a1, b1, w1⟩ := a_pour (m + 1 + 1) (by omega) (j + 1) p o1 (c + 1) 9 ([] :: sset R j p o1) (sget_push hg o1) w0 (by omega) (by decide) (by decide)
  obtain ⟨v2, o3, e2, a2, b2, w2⟩ := a_pour (m + 1 + 1) (by omega) (j + 1) p o2 (c + 1 + 1) 9 ([] :: sset R j p o2) (sget_push hg o2) w1 (by omega) (by decide) (by decide)
  obtain ⟨v3, o4, e3, a3, b3, w3⟩ := a_pour (m + 1 + 1) (by omega) (j + 1) p o3 (c + 1 + 1 + 1) 9 ([] :: sset R j p o3) (sget_push hg o3) w2 (by omega) (by decide) (by decide)
  obtain ⟨v4, o5, e4, a4, b4, w4⟩ := a_pour (m + 1 + 1) (by omega) (j + 1) p o4 (c + 1 + 1 + 1 + 1) 3 ([] :: sset R j p o4) (sget_push hg o4) w3 (by omega) (by decide) (by decide)
  rw [sset_push] at e0 e1 e2 e3 e4
  have p42 : (2 : Nat) ^ 42 = 4398046511104 := by decide
  have z4 : 1 + v4 ≠ 0 := by omega
  haveI bh : BH (ofE (1 + v4) (v0 - 4) (v1 - 4) (v2 - 4) (v3 - 4)) 42 := .of z4 ⟨by rw [p42]; omega⟩ ⟨by rw [p42]; omega⟩ ⟨by rw [p42]; omega⟩ ⟨by rw [p42]; omega⟩ ⟨by rw [p42]; omega⟩
  have f1 := fun R => (a_four (m + 1 + 1) (by omega)).2 A (1 + v4) (v0 - 4) (v1 - 4) (v2 - 4) (v3 - 4) R z4 (by unfold beyond; omega) (by unfold beyond; omega) (by unfold beyond; omega) (by unfold beyond; omega) (by unfold beyond; omega) (by unfold beyond; omega) (by unfold beyond; omega) (by unfold beyond; omega) (by unfold beyond; omega) (by unfold beyond; omega)
  generalize ofE (1 + v4) (v0 - 4) (v1 - 4) (v2 - 4) (v3 - 4) = v at *
  have e0' : EV.run Fs lf (m + 1 + 1) 37 [.ref (j + 1) p, .int 9] ([] :: sset R j p o) = .ok (.val (.int v0)) ([] :: sset R j p o1) := e0
  have e1' : EV.run Fs lf (m + 1 + 1) 37 [.ref (j + 1) p, .int 9] ([] :: sset R j p o1) = .ok (.val (.int v1)) ([] :: sset R j p o2) := e1
  have e2' : EV.run Fs lf (m + 1 + 1) 37 [.ref (j + 1) p, .int 9] ([] :: sset R j p o2) = .ok (.val (.int v2)) ([] :: sset R j p o3) := e2
  have e3' : EV.run Fs lf (m + 1 + 1) 37 [.ref (j + 1) p, .int 9] ([] :: sset R j p o3) = .ok (.val (.int v3)) ([] :: sset R j p o4) := e3
  have e4' : EV.run Fs lf (m + 1 + 1) 37 [.ref (j + 1) p, .int 3] ([] :: sset R j p o4) = .ok (.val (.int v4)) ([] :: sset R j p o5) := e4
  have hnrm := fun R => a_nrmF (m + 1 + 1) (by omega) A v R 42 (by decide)
  have hs := fun R => p_sign m (nrmA A v) R
  simp only [PNrmF, Nat.reduceMul, Nat.reduceAdd] at hnrm hs
  have r4 : (List.map (fun (k : Nat) => D.int (k : Int)) (List.range 4)) = [.int 0, .int 1, .int 2, .int 3] := rfl
  have r0 : rngOk 0 4 = true := by decide
  have sn := sgn_ne (nrmA A v)
  generalize (if decide ((nrmA A v).num > 0) = true then (1 : Int) else 0) - (if decide ((nrmA A v).num < 0) = true then 1 else 0) = sg at *
  refine ⟨v, o5, bh, w4.up (by omega), fun h => ?_, fun h => ?_⟩
  · have sg0 : ¬ sg = 0 := fun q => h (sn.mp q)
    simp (config := { decide := true }) [compV, compF, r4, r0, e0', e1', e2', e3', e4', f1, hnrm, hs, sg0]
  · have sg0 : sg = 0 := sn.mpr h
    simp (config := { decide := true }) [compV, compF, r4, r0, e0', e1', e2', e3', e4', f1, hnrm, hs, sg0]
theorem loop45 (n : Nat) (hn : 12 ≤ n) (A : Al) (hA : OkA A) (j p : Nat) (o0 : O) (R : Sto) (hg : sget R j p = some o0) : ∀ (l : List D) (o : O) (c : Int) (y2 y3 : Option D), Bj o c → c + 5 * l.length ≤ 500000 →
    ∃ (o' : O), Bj o' (c + 5 * l.length) ∧ ((∃ v, BH v 42 ∧ nrmA A v ≠ 0 ∧ forV (setTg [2]) (ex (EV.run Fs lf n) lf cB45) l [some (.ref (j + 1) p), some (algD A), y2, y3, none] ([] :: sset R j p o) = .rt (.val (fourD A v)) ([] :: sset R j p o')) ∨
      ∃ z2 z3, forV (setTg [2]) (ex (EV.run Fs lf n) lf cB45) l [some (.ref (j + 1) p), some (algD A), y2, y3, none] ([] :: sset R j p o) = .nx [some (.ref (j + 1) p), some (algD A), z2, z3, none] ([] :: sset R j p o')) := by
  intro l
  induction l with
  | nil => intro o c y2 y3 hb _; exact ⟨o, hb.up (by simp), .inr ⟨y2, y3, rfl⟩⟩
  | cons d l ih =>
    intro o c y2 y3 hb hc
    rw [List.length_cons] at hc ⊢
    obtain ⟨v, o1, bv, b1, h1, h2⟩ := turn45 n hn A hA j p o o0 c R (some d) y3 hg hb (by omega)
    by_cases hv : nrmA A v = 0
    · obtain ⟨o2, b2, r⟩ := ih o1 (c + 5) (some d) (some (fourD A v)) b1 (by omega)
      refine ⟨o2, b2.up (by omega), ?_⟩
      rcases r with ⟨u, bu, hu, e⟩ | ⟨z2, z3, e⟩
      · exact .inl ⟨u, bu, hu, (forV_nx (tg_one _ _ _) (h2 hv)).trans e⟩
      · exact .inr ⟨z2, z3, (forV_nx (tg_one _ _ _) (h2 hv)).trans e⟩
    · refine ⟨o1, b1.up (by omega), .inl ⟨v, bv, hv, ?_⟩⟩
      unfold forV
      rw [tg_one]
      dsimp only
      rw [show ([some (.ref (j + 1) p), some (algD A), y2, y3, none] : En).set 2 (some d) = [some (.ref (j + 1) p), some (algD A), some d, y3, none] from rfl, h1 hv]
theorem sset_same {R : Sto} {j i : Nat} {o : O} (h : sget R j i = some o) : sset R j i o = R := by
  unfold sget at h
  unfold sset
  have hi := (List.getElem?_eq_some_iff.mp h)
  have e1 : (R.getD j []).set i o = R.getD j [] := by
    obtain ⟨h1, h2⟩ := hi
    rw [← h2]
    exact List.set_getElem_self h1
  rw [e1]
  have hj : j < R.length := by
    by_cases hj : j < R.length
    · exact hj
    · rw [List.getD_eq_getElem?_getD, List.getElem?_eq_none (Nat.le_of_not_lt hj)] at h
      simp at h
  have e2 : R.getD j [] = R[j] := by
    rw [List.getD_eq_getElem?_getD, List.getElem?_eq_getElem hj]
    rfl
  rw [e2]
  exact List.set_getElem_self hj
theorem one_nrm (A : Al) : nrmA A (ofE 1 1 0 0 0) ≠ 0 := by
  rw [ofE_int]
  have h1 : ((1 : Int) : Rat) = 1 := rfl
  simp only [nrmA, nrmH, intH, h1]
  grind
theorem four45 (n : Nat) (hn : 12 ≤ n) (A : Al) (hA : OkA A) (j p : Nat) (o : O) (c : Int) (R : Sto) (hg : sget R j p = some o) (hb : Bj o c) (hc : c ≤ 400000) : ∃ (v : H) (o' : O), BH v 42 ∧ nrmA A v ≠ 0 ∧ Bj o' (c + 45) ∧
    ((EV.run Fs lf (n + 1) 45 [.ref j p, algD A] R = .ok (.val (fourD A v)) (sset R j p o')) ∨ (EV.run Fs lf (n + 1) 45 [.ref j p, algD A] R = .ok (.new (fourO A v)) (sset R j p o'))) := by
  have r9 : rngOk 0 9 = true := by decide
  obtain ⟨o1, b1, r⟩ := loop45 n hn A hA j p o R hg ((List.range 9).map fun (k : Nat) => .int (k : Int)) o c none none hb (by simp; omega)
  have hs : sset R j p o = R := sset_same hg
  rw [hs] at r
  rw [run_at n 45 _ _ f45 (by decide) rfl]
  have hl : ((List.range 9).map fun (k : Nat) => D.int (k : Int)).length = 9 := rfl
  rw [hl] at b1
  have q : ∀ x y : Option D, ex (EV.run Fs lf n) lf (.forS [2] (.rng1 (.lit (.int 9))) cB45) [some (.ref (j + 1) p), some (algD A), none, none, none] ([] :: R) = forV (setTg [2]) (ex (EV.run Fs lf n) lf cB45) ((List.range 9).map fun (k : Nat) => .int (k : Int)) [some (.ref (j + 1) p), some (algD A), none, none, none] ([] :: R) := fun x y => by
    rw [ex_forS, ev_rng1, ev_lit, bindV_val]
    simp only [ik_rng1, itOf_two, r9, if_true, forI_vals]
    congr 1
  rcases r with ⟨v, bv, hv, e⟩ | ⟨z2, z3, e⟩
  · refine ⟨v, o1, bv, hv, b1.up (by omega), .inl ?_⟩
    show finR (ex (EV.run Fs lf n) lf (.seq (.forS [2] _ cB45) _) [some (.ref (j + 1) p), some (algD A), none, none, none] ([] :: R)) = _
    rw [ex_seq, q none none, e]
    rfl
  · haveI bh : BH (ofE 1 1 0 0 0) 42 := .of (by decide) ⟨by decide +kernel⟩ ⟨by decide +kernel⟩ ⟨by decide +kernel⟩ ⟨by decide +kernel⟩ ⟨by decide +kernel⟩
    have f1 := fun R => (a_four n (by omega)).2 A 1 1 0 0 0 R (by decide) (by decide) (by decide) (by decide) (by decide) (by decide) (by decide) (by decide) (by decide) (by decide) (by decide)
    refine ⟨ofE 1 1 0 0 0, o1, bh, one_nrm A, b1.up (by omega), .inr ?_⟩
    show finR (ex (EV.run Fs lf n) lf (.seq (.forS [2] _ cB45) _) [some (.ref (j + 1) p), some (algD A), none, none, none] ([] :: R)) = _
    rw [ex_seq, q none none, e]
    simp (config := { decide := true }) [f1]
/-! ### values near -/
def Vd (A S : Al) (d : D) : Prop := (∃ v u, BH v 1300 ∧ BH u 1300 ∧ d = .tup [fourD A v, fourD A u]) ∨ NoP A S d
def nearL (A S : Al) (x y : H) : List D :=
  ([.tup [fourD A x, fourD A y], .tup [fourD A y, fourD A x], .tup [fourD A (negH x), fourD A y], .tup [fourD A x, fourD A (negH y)], .tup [fourD A (mulA A x y), fourD A y],
    .tup [fourD A x, fourD A (mulA A x y)], .tup [fourD A x, fourD A x], .tup [fourD A x, fourD A y, fourD A x], .tup [fourD A x], .lst [fourD A x, fourD A y], .non, .int 0, .str "xy", .tup []] ++
   [.tup [fourD A (sclH (Rat.divInt 2 1) x), fourD A y], .tup [fourD A x, fourD A (sclH (Rat.divInt 1 2) y)], .tup [fourD A (sclH (Rat.divInt 2 1) x), fourD A (sclH (Rat.divInt 1 2) y)], .tup [fourD A (mateH x), fourD A (mateH y)],
    .tup [fourD A x, fourD A (addH y (ofE 1 1 0 0 0))], .tup [fourD A x, .non], .tup [entD (rep x), entD (rep y)]]) ++
  [.tup [fourD S (ofE 1 0 1 0 0), fourD S (ofE 1 0 1 0 0)], .tup [fourD A x, fourD S (ofE 1 0 1 0 0)], .tup [fourD S (ofE 1 0 1 0 0), fourD A y], .tup [fourD A x, fourD A (mulA A (mulA A x y) x)],
    .tup [fourD A (mulA A (mulA A x y) x), fourD A y], .tup [fourD A (mulA A (mulA A y x) y), fourD A x], .dct [.inl (rep x).b] [fourD A y]]
theorem near_ok {A S : Al} {x y : H} [OkA A] [hx : BH x 356] [hy : BH y 356] : ∀ d ∈ nearL A S x y, Vd A S d ∧ ∀ R, byv d R = some (d, R) ∧ retv [] R (.val d) = .ok (.val d) R := by
  have pr : ∀ v u, BH v 1300 → BH u 1300 → Vd A S (.tup [fourD A v, fourD A u]) ∧ ∀ R, byv (.tup [fourD A v, fourD A u]) R = some (.tup [fourD A v, fourD A u], R) ∧ retv [] R (.val (.tup [fourD A v, fourD A u])) = .ok (.val (.tup [fourD A v, fourD A u])) R := fun v u h1 h2 => ⟨.inl ⟨v, u, h1, h2, rfl⟩, fun R => ⟨rfl, rfl⟩⟩
  have q2 : BH (mulA A (mulA A x y) x) 1300 := BH.up (n := 1194) inferInstance (by decide)
  have q1 : BH (mulA A x y) 1300 := BH.up (n := 775) inferInstance (by decide)
  have q3 : BH (mulA A (mulA A y x) y) 1300 := BH.up (n := 1194) inferInstance (by decide)
  haveI b2 : BR (Rat.divInt 2 1) 4 := ⟨by decide +kernel, by decide +kernel⟩
  haveI b12 : BR (Rat.divInt 1 2) 4 := ⟨by decide +kernel, by decide +kernel⟩
  haveI bo : BH (ofE 1 1 0 0 0) 42 := .of (by decide) ⟨by decide +kernel⟩ ⟨by decide +kernel⟩ ⟨by decide +kernel⟩ ⟨by decide +kernel⟩ ⟨by decide +kernel⟩
  have q4 : BH (sclH (Rat.divInt 2 1) x) 1300 := BH.up (n := 360) inferInstance (by decide)
  have q5 : BH (sclH (Rat.divInt 1 2) y) 1300 := BH.up (n := 360) inferInstance (by decide)
  have q6 : BH (negH x) 1300 := BH.up (n := 356) inferInstance (by decide)
  have q7 : BH (negH y) 1300 := BH.up (n := 356) inferInstance (by decide)
  have q8 : BH (mateH x) 1300 := BH.up (n := 356) inferInstance (by decide)
  have q9 : BH (mateH y) 1300 := BH.up (n := 356) inferInstance (by decide)
  have q10 : BH (addH y (ofE 1 1 0 0 0)) 1300 := BH.up (n := 399) inferInstance (by decide)
  have x1 : BH x 1300 := hx.up (by decide)
  have y1 : BH y 1300 := hy.up (by decide)
  have eA : ∀ v, BH v 1300 → El A S (fourD A v) := fun v h => .inl ⟨v, h, rfl⟩
  have eS : ∀ v, El A S (fourD S v) := fun v => .inr (.inl ⟨v, rfl⟩)
  have kS : ∀ v, ElK A S (fourD S v) := fun v => .inl ⟨v, rfl⟩
  intro d hd
  simp only [nearL, List.cons_append, List.nil_append, List.mem_cons, List.not_mem_nil, or_false] at hd
  rcases hd with rfl | rfl | rfl | rfl | rfl | rfl | rfl | rfl | rfl | rfl | rfl | rfl | rfl | rfl | rfl | rfl | rfl | rfl | rfl | rfl | rfl | rfl | rfl | rfl | rfl | rfl | rfl | rfl
  · exact pr _ _ x1 y1
  · exact pr _ _ y1 x1
  · exact pr _ _ q6 y1
  · exact pr _ _ x1 q7
  · exact pr _ _ q1 y1
  · exact pr _ _ x1 q1
  · exact pr _ _ x1 x1
  · exact ⟨.inr (.inl ⟨_, rfl, by simp⟩), fun R => ⟨rfl, rfl⟩⟩
  · exact ⟨.inr (.inl ⟨_, rfl, by simp⟩), fun R => ⟨rfl, rfl⟩⟩
  · exact ⟨.inr (.inr (.inr (.inl ⟨_, rfl⟩))), fun R => ⟨rfl, rfl⟩⟩
  · exact ⟨.inr (.inr (.inr (.inr (.inl rfl)))), fun R => ⟨rfl, rfl⟩⟩
  · exact ⟨.inr (.inr (.inr (.inr (.inr (.inl ⟨_, rfl⟩))))), fun R => ⟨rfl, rfl⟩⟩
  · exact ⟨.inr (.inr (.inr (.inr (.inr (.inr (.inl ⟨_, rfl⟩)))))), fun R => ⟨rfl, rfl⟩⟩
  · exact ⟨.inr (.inl ⟨_, rfl, by simp⟩), fun R => ⟨rfl, rfl⟩⟩
  · exact pr _ _ q4 y1
  · exact pr _ _ x1 q5
  · exact pr _ _ q4 q5
  · exact pr _ _ q8 q9
  · exact pr _ _ x1 q10
  · exact ⟨.inr (.inr (.inl ⟨_, _, rfl, eA _ x1, .inr (.inr (.inl rfl)), .inr (.inr (.inl rfl))⟩)), fun R => ⟨rfl, rfl⟩⟩
  · exact ⟨.inr (.inr (.inl ⟨_, _, rfl, .inr (.inr (.inr ⟨_, rfl⟩)), .inr (.inr (.inr ⟨_, rfl⟩)), .inl (.inr (.inr ⟨_, rfl⟩))⟩)), fun R => ⟨rfl, rfl⟩⟩
  · exact ⟨.inr (.inr (.inl ⟨_, _, rfl, eS _, eS _, .inl (kS _)⟩)), fun R => ⟨rfl, rfl⟩⟩
  · exact ⟨.inr (.inr (.inl ⟨_, _, rfl, eA _ x1, eS _, .inr (kS _)⟩)), fun R => ⟨rfl, rfl⟩⟩
  · exact ⟨.inr (.inr (.inl ⟨_, _, rfl, eS _, eA _ y1, .inl (kS _)⟩)), fun R => ⟨rfl, rfl⟩⟩
  · exact pr _ _ x1 q2
  · exact pr _ _ q2 y1
  · exact pr _ _ q3 x1
  · exact ⟨.inr (.inr (.inr (.inr (.inr (.inr (.inr ⟨_, _, rfl⟩)))))), fun R => ⟨rfl, rfl⟩⟩
@[simp] theorem keyD_int (i : Int) : keyD (.int i) = some (.inl i) := rfl
@[simp] theorem nrf_four (A : Al) (v : H) : nrf (fourD A v) = true := rfl
@[simp] theorem fz_dct (ks : List Key) (ds : List D) : fzO (.dct ks ds) = .dct ks ds := rfl
@[simp] theorem byvL_dct (ks : List Key) (es ds : List D) (R : Sto) : byvL (.dct ks es :: ds) R = (match byvL ds R with | some (fs, R2) => some (.dct ks es :: fs, R2) | none => none) := rfl
@[simp] theorem byvL_str (t : Str) (ds : List D) (R : Sto) : byvL (.str t :: ds) R = (match byvL ds R with | some (fs, R2) => some (.str t :: fs, R2) | none => none) := rfl
theorem byvL_all : ∀ (ds : List D) (R : Sto), (∀ d ∈ ds, ∀ R, byv d R = some (d, R)) → byvL ds R = some (ds, R)
  | [], R, _ => rfl
  | d :: ds, R, h => by
    have h1 := h d List.mem_cons_self R
    have h2 := byvL_all ds R fun e he => h e (List.mem_cons_of_mem _ he)
    unfold byvL
    rw [h1]
    dsimp only
    rw [h2]
theorem add_l (a b : List D) (R : Sto) (h : a.length + b.length ≤ 100000) : binop .Add (.lst a) (.lst b) R = .ok (.new (.lst (a ++ b))) R := by
  show (match asL R (.lst a), asL R (.lst b) with | some as, some bs => if as.length + bs.length ≤ 100000 then (Out.ok (Rv.new (.lst (as ++ bs))) R : Out Rv) else .bad | _, _ => .bad) = _
  exact if_pos h
abbrev eE46 : C := .call 38 (.cons (.var 0) (.cons (.var 5) .nil))
theorem draws46 (n : Nat) (hn : 3 ≤ n) (j p : Nat) (o0 : O) (R : Sto) (hg : sget R j p = some o0) (L : List D) (hL : 1 ≤ L.length) (hL2 : L.length ≤ 1000) (ok : ∀ d ∈ L, ∀ R, byv d R = some (d, R) ∧ retv [] R (.val d) = .ok (.val d) R) (y1 y2 y3 y4 y6 y7 y8 : Option D) :
    ∀ (l : List D) (o : O) (c : Int) (acc : List D), Bj o c → c + l.length ≤ 500000 → acc.length + l.length ≤ 1000 → (∀ d ∈ acc, d ∈ L) → ∃ (ds : List D) (o' : O), compV (compF (ev (EV.run Fs lf n) lf (.lit (.bl true))) (ev (EV.run Fs lf n) lf eE46) [9] [some (.ref (j + 1) p), y1, y2, y3, y4, some (.lst L), y6, y7, y8, none]) l ([] :: sset R j p o) acc = .ok (.new (.lst ds)) ([] :: sset R j p o') ∧ (∀ d ∈ ds, d ∈ L) ∧ ds.length ≤ 1000 ∧ Bj o' (c + l.length) := by
  intro l
  induction l with
  | nil => intro o c acc hb _ h3 h4; exact ⟨acc.reverse, o, rfl, fun d hd => h4 d (List.mem_reverse.mp hd), by simpa using h3, hb.up (by simp)⟩
  | cons x l ih =>
    intro o c acc hb hc h3 h4
    rw [List.length_cons] at hc h3
    obtain ⟨d, hd, o1, e1, b1⟩ := a_of n (by omega) (j + 1) p o c L ([] :: sset R j p o) (sget_push hg o) hb (by omega) hL hL2 (fun d hd R => (ok d hd R).2)
    rw [sset_push] at e1
    obtain ⟨ds, o2, e2, m2, l2, b2⟩ := ih o1 (c + 1) (d :: acc) b1 (by omega) (by simp; omega) (fun e he => by
      rcases List.mem_cons.mp he with rfl | he
      · exact hd
      · exact h4 e he)
    refine ⟨ds, o2, ?_, m2, l2, b2.up (by rw [List.length_cons]; omega)⟩
    have e1' : EV.run Fs lf n 38 [.ref (j + 1) p, .lst L] ([] :: sset R j p o) = .ok (.val d) ([] :: sset R j p o1) := e1
    refine (compV_some ?_ (by omega)).trans e2
    have hb2 := (ok d hd ([] :: sset R j p o1)).1
    simp [compF, e1', hb2]
theorem near46 (n : Nat) (hn : 12 ≤ n) (A S : Al) (x y : H) (hA : OkA A) (hS : OkA S) (hx : BH x 356) (hy : BH y 356) (j p : Nat) (o : O) (c : Int) (R : Sto) (hg : sget R j p = some o) (hb : Bj o c) (hc : c ≤ 400000) :
    ∃ (ds : List D) (o' : O), EV.run Fs lf (n + 1) 46 [.ref j p, algD A, algD S, fourD A x, fourD A y] R = .ok (.new (.lst ds)) (sset R j p o') ∧ (∀ d ∈ ds, Vd A S d) ∧ ds.length ≤ 1001 ∧ Bj o' (c + 10) := by
  have nk := near_ok (A := A) (S := S) (x := x) (y := y)
  have hlen : (nearL A S x y).length = 28 := rfl
  obtain ⟨ds, o1, e1, m1, l1, b1⟩ := draws46 n (by omega) j p o R hg (nearL A S x y) (by rw [hlen]; decide) (by rw [hlen]; decide) (fun d hd => (nk d hd).2) (some (algD A)) (some (algD S)) (some (fourD A x)) (some (fourD A y)) (some (fourD A (sclH (Rat.divInt 2 1) x))) (some (fourD A (sclH (Rat.divInt 1 2) y))) (some (fourD S (ofE 1 0 1 0 0)))
    ((List.range 10).map fun (k : Nat) => .int (k : Int)) o c [] hb (by simp; omega) (by simp) (by simp)
  rw [sset_same hg] at e1
  have r10 : rngOk 0 10 = true := by decide
  haveI b2 : BR (Rat.divInt 2 1) 4 := ⟨by decide +kernel, by decide +kernel⟩
  haveI b12 : BR (Rat.divInt 1 2) 4 := ⟨by decide +kernel, by decide +kernel⟩
  haveI bo : BH (ofE 1 1 0 0 0) 42 := .of (by decide) ⟨by decide +kernel⟩ ⟨by decide +kernel⟩ ⟨by decide +kernel⟩ ⟨by decide +kernel⟩ ⟨by decide +kernel⟩
  have hmul := a_mulF n (by omega)
  have hneg := a_negF n (by omega)
  have hadd := a_addF n (by omega)
  have hmate := a_mateF n (by omega)
  have hscl := a_sclF n (by omega)
  have hr2 := fun R => a_ratio2 n (by omega) 2 1 R (by decide) (by decide) (by decide) (by decide) (by decide)
  have hr12 := fun R => a_ratio2 n (by omega) 1 2 R (by decide) (by decide) (by decide) (by decide) (by decide)
  have f1 := fun R => (a_four n (by omega)).2 A 1 1 0 0 0 R (by decide) (by decide) (by decide) (by decide) (by decide) (by decide) (by decide) (by decide) (by decide) (by decide) (by decide)
  have f2 := fun R => (a_four n (by omega)).2 S 1 0 1 0 0 R (by decide) (by decide) (by decide) (by decide) (by decide) (by decide) (by decide) (by decide) (by decide) (by decide) (by decide)
  obtain ⟨m, rfl⟩ : ∃ m, n = m + 1 := ⟨n - 1, by omega⟩
  have pe := p_ent m
  have po := p_bot m
  simp only [PMateF, PSclF, Nat.reduceMul, Nat.reduceAdd] at hmate hscl pe po
  rw [run_at (m + 1) 46 _ _ f46 (by decide) rfl]
  refine ⟨ds ++ [.tup [fourD A x, fourD A y]], o1, ?_, fun d hd => ?_, by simp; omega, b1.up (by simp)⟩
  · have c1 : ∀ (y6 y7 y8 : Option D), ev (EV.run Fs lf (m + 1)) lf (.comp eE46 [9] (.rng1 (.lit (.int 10))) (.lit (.bl true))) [some (.ref (j + 1) p), some (algD A), some (algD S), some (fourD A x), some (fourD A y), some (.lst (nearL A S x y)), some (fourD A (sclH (Rat.divInt 2 1) x)), some (fourD A (sclH (Rat.divInt 1 2) y)), some (fourD S (ofE 1 0 1 0 0)), none] ([] :: R) = .ok (.new (.lst ds)) ([] :: sset R j p o1) := fun _ _ _ => by
      rw [ev_comp, ev_rng1, ev_lit, bindV_val]
      simp only [ik_rng1, itOf_two, r10, if_true, compI_vals]
      refine Eq.trans ?_ e1
      congr 1
    have c2 := c1 none none none
    simp only [nearL, List.cons_append, List.nil_append] at c2
    have ad2 := add_l ds [.tup [fourD A x, fourD A y]] ([] :: sset R j p o1) (by simp; omega)
    simp only [f46, c46]
    simp (config := { decide := true }) [-ev_comp, hmul, hneg, hadd, hmate, hscl, hr2, hr12, f1, f2, pe, po, mulA, add_l, c2, ad2]
  · rcases List.mem_append.mp hd with h | h
    · exact (nk d (m1 d h)).1
    · rw [List.mem_singleton.mp h]
      exact (nk _ (by simp [nearL])).1
end K23

namespace K23
open PySem PySem.Spec PyProof.Rows L2 EV HQ NT
theorem judges (n : Nat) (hn : 8 ≤ n) (A B S : Al) (d : D) (hA : OkA A) (hB : OkA B) (sA : SmB A) (sB : SmB B) (hS : ¬ (S.a = A.a ∧ S.b = A.b)) (hd : Vd A S d) : ∃ b : Bool, (∀ R, EV.run Fs lf (n + 1 + 1 + 1) 33 [algD B, algD A, d] R = .ok (.val (.bl b)) R) ∧ (∀ R, EV.run Fs lf (n + 1 + 1 + 1) 44 [algD B, algD A, d] R = .ok (.val (.bl b)) R) ∧ up d = d := by
  rcases hd with ⟨v, u, bv, bu, rfl⟩ | hd
  · exact ⟨gd A B v u, fun R => im_yes n hn A B v u R sA sB, fun R => own_yes n hn A B v u R, rfl⟩
  · refine ⟨false, fun R => im_no n hn A B S d R sA sB hS hd, fun R => own_no n hn A B S d R hS hd, ?_⟩
    rcases hd with ⟨es, rfl, hl⟩ | ⟨e1, e2, rfl, g1, g2, g⟩ | ⟨es, rfl⟩ | rfl | ⟨i, rfl⟩ | ⟨t, rfl⟩ | ⟨ks, ds, rfl⟩ <;> rfl
theorem ne_s1 (R : Sto) : cmpop .NotEq (.str "True") (.str "True") R = some false := by
  show (eqOp (.str "True") (.str "True") R).map (fun b => !b) = _
  have : eqOp (.str "True") (.str "True") R = eqOp (.str "True") (.str "True") [] := rfl
  rw [this]
  decide +kernel
theorem ne_s0 (R : Sto) : cmpop .NotEq (.str "False") (.str "False") R = some false := by
  show (eqOp (.str "False") (.str "False") R).map (fun b => !b) = _
  have : eqOp (.str "False") (.str "False") R = eqOp (.str "False") (.str "False") [] := rfl
  rw [this]
  decide +kernel
abbrev cB47 : S := (.seq (.asg 11 (.call 38 (.cons (.var 0) (.cons (.var 9) .nil))))
      (.seq (.ifS (.cmp .NotEq (.blt .repr1 (.cons (.call 33 (.cons (.var 11) (.cons (.var 3) (.cons (.var 10) .nil)))) .nil)) (.blt .repr1 (.cons (.call 44 (.cons (.var 11) (.cons (.var 3) (.cons (.var 10) .nil)))) .nil)))
        (.seq (.ret (.lit (.bl false)))
        .nop)
        .nop)
      .nop))
abbrev E47 (r : D) (a b : Int) (A S : Al) (ld bs X Y Ls : D) (y10 y11 : Option D) : En := [some r, some (.int a), some (.int b), some (algD A), some (algD S), some ld, some bs, some X, some Y, some Ls, y10, y11]
theorem turn47 (n : Nat) (hn : 14 ≤ n) (A S : Al) (hA : OkA A) (sA : SmB A) (hS : ¬ (S.a = A.a ∧ S.b = A.b)) (Bs : List Al) (hBs : ∀ B ∈ Bs, OkA B ∧ SmB B) (h1 : 1 ≤ Bs.length) (h2 : Bs.length ≤ 1000) (a b : Int) (ld bs X Y d : D) (hd : Vd A S d) (j p : Nat) (o o0 : O) (c : Int) (R : Sto) (y11 : Option D) (hg : sget R j p = some o0) (hb : Bj o c) (hc : c ≤ 500000) :
    ∃ (z11 : Option D) (o' : O), Bj o' (c + 1) ∧ ex (EV.run Fs lf n) lf cB47 (E47 (.ref (j + 1) p) a b A S ld bs X Y (.lst (Bs.map algD)) (some d) y11) ([] :: sset R j p o) = .nx (E47 (.ref (j + 1) p) a b A S ld bs X Y (.lst (Bs.map algD)) (some d) z11) ([] :: sset R j p o') := by
  obtain ⟨m, rfl⟩ : ∃ m, n = m + 1 + 1 + 1 := ⟨n - 3, by omega⟩
  obtain ⟨e, he, o1, e1, b1⟩ := a_of (m + 1 + 1 + 1) (by omega) (j + 1) p o c (Bs.map algD) ([] :: sset R j p o) (sget_push hg o) hb (by omega) (by simpa using h1) (by simpa using h2) (fun d hd R => by
    obtain ⟨B, _, rfl⟩ := List.mem_map.mp hd
    rfl)
  rw [sset_push] at e1
  obtain ⟨B, hB, rfl⟩ := List.mem_map.mp he
  obtain ⟨q, j1, j2, ud⟩ := judges m (by omega) A B S d hA (hBs B hB).1 sA (hBs B hB).2 hS hd
  have e1' : EV.run Fs lf (m + 1 + 1 + 1) 38 [.ref (j + 1) p, .lst (Bs.map algD)] ([] :: sset R j p o) = .ok (.val (algD B)) ([] :: sset R j p o1) := e1
  refine ⟨some (algD B), o1, b1, ?_⟩
  cases q <;> simp [e1', j1, j2, ud, ne_s1, ne_s0]
theorem loop47 (n : Nat) (hn : 14 ≤ n) (A S : Al) (hA : OkA A) (sA : SmB A) (hS : ¬ (S.a = A.a ∧ S.b = A.b)) (Bs : List Al) (hBs : ∀ B ∈ Bs, OkA B ∧ SmB B) (h1 : 1 ≤ Bs.length) (h2 : Bs.length ≤ 1000) (a b : Int) (ld bs X Y : D) (j p : Nat) (o0 : O) (R : Sto) (hg : sget R j p = some o0) :
    ∀ (l : List D) (o : O) (c : Int) (y10 y11 : Option D), (∀ d ∈ l, Vd A S d) → Bj o c → c + l.length ≤ 500000 →
    ∃ (z10 z11 : Option D) (o' : O), Bj o' (c + l.length) ∧ forV (setTg [10]) (ex (EV.run Fs lf n) lf cB47) l (E47 (.ref (j + 1) p) a b A S ld bs X Y (.lst (Bs.map algD)) y10 y11) ([] :: sset R j p o) = .nx (E47 (.ref (j + 1) p) a b A S ld bs X Y (.lst (Bs.map algD)) z10 z11) ([] :: sset R j p o') := by
  intro l
  induction l with
  | nil => intro o c y10 y11 _ hb _; exact ⟨y10, y11, o, hb.up (by simp), rfl⟩
  | cons d l ih =>
    intro o c y10 y11 hv hb hc
    rw [List.length_cons] at hc
    obtain ⟨z11, o1, b1, e1⟩ := turn47 n hn A S hA sA hS Bs hBs h1 h2 a b ld bs X Y d (hv d List.mem_cons_self) j p o o0 c R y11 hg hb (by omega)
    obtain ⟨w10, w11, o2, b2, e2⟩ := ih o1 (c + 1) (some d) z11 (fun e he => hv e (List.mem_cons_of_mem _ he)) b1 (by omega)
    exact ⟨w10, w11, o2, b2.up (by rw [List.length_cons]; omega), (forV_nx (tg_one _ _ _) e1).trans e2⟩
theorem bi : BH iH 42 := ⟨by
  have : rep iH = ⟨1, 0, 1, 0, 0⟩ := by decide +kernel
  rw [this]
  exact ⟨by decide, by decide, by decide, by decide, by decide⟩⟩
theorem bj : BH jH 42 := ⟨by
  have : rep jH = ⟨1, 0, 0, 1, 0⟩ := by decide +kernel
  rw [this]
  exact ⟨by decide, by decide, by decide, by decide, by decide⟩⟩
theorem bk : BH kH 42 := ⟨by
  have : rep kH = ⟨1, 0, 0, 0, 1⟩ := by decide +kernel
  rw [this]
  exact ⟨by decide, by decide, by decide, by decide, by decide⟩⟩
theorem bone : BH oneH 42 := ⟨by
  have : rep oneH = ⟨1, 1, 0, 0, 0⟩ := by decide +kernel
  rw [this]
  exact ⟨by decide, by decide, by decide, by decide, by decide⟩⟩
theorem bcj {A : Al} [OkA A] {v u : H} [BH v 42] [BH u 42] (h : nrmA A v ≠ 0) : BH (cj A.a A.b v u) 356 := by
  haveI := BH.inv (a := A.a) (b := A.b) (v := v) (n := 42) h
  unfold cj
  exact inferInstance
theorem right47 (n : Nat) (hn : 20 ≤ n) (j p : Nat) (o : O) (c : Int) (R : Sto) (hg : sget R j p = some o) (hb : Bj o c) (hc : c ≤ 100000) : ∃ o', EV.run Fs lf (n + 1) 47 [.ref j p] R = .ok (.val (.bl true)) (sset R j p o') ∧ ∃ c', Bj o' c' := by
  obtain ⟨m, rfl⟩ : ∃ m, n = m + 1 + 1 + 1 := ⟨n - 3, by omega⟩
  obtain ⟨a, b, o1, e1, a0, a1, a2, b0, b1, b2, w1⟩ := pair (m + 1 + 1) (by omega) (j + 1) p o c ([] :: R) hg hb (by omega)
  have nn : (m + 1 + 1 + 1) = (m + 1 + 1) + 1 := rfl
  have ab1 : (a * b).natAbs ≤ 100 * 100 := by rw [Int.natAbs_mul]; exact Nat.mul_le_mul (by omega) (by omega)
  have ab0 : a * b ≠ 0 := Int.mul_ne_zero a0 b0
  obtain ⟨A, Aa, Ab, _, eA⟩ := a_alg (m + 1 + 1 + 1) (by omega) a b a0 b0 (by omega) (by omega) (by omega) (by omega)
  obtain ⟨s, hs, hs0, hs1, hs2, hsb⟩ : ∃ s : Int, s = (if b ≠ -1 then b + 1 else 5) ∧ s ≠ 0 ∧ -101 ≤ s ∧ s ≤ 101 ∧ s ≠ b := ⟨_, rfl, by split <;> omega, by split <;> omega, by split <;> omega, by split <;> omega⟩
  obtain ⟨S, Sa, Sb, _, eS⟩ := a_alg (m + 1 + 1 + 1) (by omega) a s a0 hs0 (by omega) (by omega) (by omega) (by omega)
  obtain ⟨B1, B1a, B1b, _, eB1⟩ := a_alg (m + 1 + 1 + 1) (by omega) b a b0 a0 (by omega) (by omega) (by omega) (by omega)
  obtain ⟨B2, B2a, B2b, _, eB2⟩ := a_alg (m + 1 + 1 + 1) (by omega) a (0 - a * b) a0 (by omega) (by omega) (by omega) (by omega) (by omega)
  obtain ⟨B3, B3a, B3b, _, eB3⟩ := a_alg (m + 1 + 1 + 1) (by omega) (4 * a) b (by omega) b0 (by omega) (by omega) (by omega) (by omega)
  obtain ⟨B4, B4a, B4b, _, eB4⟩ := a_alg (m + 1 + 1 + 1) (by omega) b (0 - a * b) b0 (by omega) (by omega) (by omega) (by omega) (by omega)
  have mk : ∀ (B : Al) (x y : Int), B.a = x → B.b = y → x ≠ 0 → y ≠ 0 → -10000 ≤ x → x ≤ 10000 → -10000 ≤ y → y ≤ 10000 → OkA B ∧ SmB B := fun B x y h1 h2 h3 h4 h5 h6 h7 h8 => by
    subst h1
    subst h2
    exact ⟨⟨h3, h4, by omega, by omega, by omega, by omega⟩, ⟨h5, h6, h7, h8⟩⟩
  have kA := mk A _ _ Aa Ab a0 b0 (by omega) (by omega) (by omega) (by omega)
  have kS := mk S _ _ Sa Sb a0 hs0 (by omega) (by omega) (by omega) (by omega)
  have k1 := mk B1 _ _ B1a B1b b0 a0 (by omega) (by omega) (by omega) (by omega)
  have k2 := mk B2 _ _ B2a B2b a0 (by omega) (by omega) (by omega) (by omega) (by omega)
  have k3 := mk B3 _ _ B3a B3b (by omega) b0 (by omega) (by omega) (by omega) (by omega)
  have k4 := mk B4 _ _ B4a B4b b0 (by omega) (by omega) (by omega) (by omega) (by omega)
  have hSA : ¬ (S.a = A.a ∧ S.b = A.b) := fun h => hsb (by rw [← Sb, ← Ab]; exact h.2)
  haveI oA := kA.1
  haveI oS := kS.1
  obtain ⟨v, o2, bv, hv, w2, e2⟩ := four45 (m + 1 + 1) (by omega) A kA.1 (j + 1) p o1 (c + 5) ([] :: sset R j p o1) (sget_push hg o1) w1 (by omega)
  haveI := bi
  haveI := bj
  have t1 := fun R => turnd (m + 1 + 1) (by omega) A v iH R hv
  have t2 := fun R => turnd (m + 1 + 1) (by omega) A v jH R hv
  have bx : BH (cj A.a A.b v iH) 356 := bcj hv
  have by_ : BH (cj A.a A.b v jH) 356 := bcj hv
  have i1 := im1 A.a A.b v hv
  have i2 := im2 A.a A.b v hv
  have i3 := im3 A.a A.b v hv
  have i4 := im4 A.a A.b v hv
  have i5 := im5 A.a A.b v hv
  obtain ⟨ds, o3, e3, vd, hl, w3⟩ := near46 (m + 1 + 1) (by omega) A S (cj A.a A.b v iH) (cj A.a A.b v jH) kA.1 kS.1 bx by_ (j + 1) p o2 (c + 5 + 45) ([] :: sset R j p o2) (sget_push hg o2) w2 (by omega)
  rw [sset_push] at e2 e3
  simp only [sset1] at e1
  generalize cj A.a A.b v iH = x at *
  generalize cj A.a A.b v jH = y at *
  have hbas := a_basis (m + 1 + 1 + 1) (by omega)
  simp only [PBasis, Nat.reduceMul, Nat.reduceAdd] at hbas
  have m1 : mulOk a b = true := mulOk_of (n := 20) (m := 20) (by omega) (by omega) (by decide)
  have m2 : mulOk 4 a = true := mulOk_of (n := 20) (m := 20) (by decide) (by omega) (by decide)
  obtain ⟨z10, z11, o4, w4, e4⟩ := loop47 (m + 1 + 1 + 1) (by omega) A S kA.1 kA.2 hSA [A, B1, B2, B3, B4, S] (by
      intro B hB
      simp only [List.mem_cons, List.not_mem_nil, or_false] at hB
      rcases hB with rfl | rfl | rfl | rfl | rfl | rfl
      · exact kA
      · exact k1
      · exact k2
      · exact k3
      · exact k4
      · exact kS) (by simp) (by simp) a b (fourD A v) (.tup [fourD A oneH, fourD A iH, fourD A jH, fourD A kH]) (fourD A x) (fourD A y) j p o R hg ds o3 (c + 5 + 45 + 10) none none vd w3 (by omega)
  simp only [List.map] at e4
  have g1 : gd A A x y = true := by
    simp only [gd, mulA, i1, i2, i3]
    simp
  have g2 : gd A B2 x (mulA A x y) = true := by
    rw [Aa, Ab] at i1 i4 i5
    simp only [gd, mulA, B2a, B2b, Aa, Ab, i1, i4, i5]
    simp
  have xy1 : BH (mulA A x y) 1300 := BH.up (n := 775) inferInstance (by decide)
  have x1 : BH x 1300 := bx.up (by decide)
  have y1 : BH y 1300 := by_.up (by decide)
  have q1 := fun R => @im_yes m (by omega) A A x y R oA x1 y1 kA.2 kA.2
  have q2 := fun R => @im_yes m (by omega) A B2 x (mulA A x y) R oA x1 xy1 kA.2 k2.2
  rw [g1] at q1
  rw [g2] at q2
  have hmul := a_mulF (m + 1 + 1 + 1) (by omega)
  refine ⟨o4, ?_, _, w4⟩
  rw [run_at (m + 1 + 1 + 1) 47 _ _ f47 (by decide) rfl]
  have s0 : ∀ K : EV.S, ex (EV.run Fs lf (m + 1 + 1 + 1)) lf (.seq (.unp [1, 2] (.call 41 (.cons (.var 0) .nil)))
    (.seq (.par2 3 4 none none (.new 4722384897934469788257 (.cons (.var 1) (.cons (.var 2) .nil)) []) (.new 4722384897934469788257 (.cons (.var 1) (.cons (.ife (.cmp .NotEq (.var 2) (.neg (.lit (.int 1)))) (.bin .Add (.var 2) (.lit (.int 1))) (.lit (.int 5))) .nil)) []))
    (.seq (.par2 5 6 none none (.call 45 (.cons (.var 0) (.cons (.var 3) .nil))) (.mth (.var 3) 72058016579676531 .nil))
    (.seq (.par2 7 8 none none (.call 35 (.cons (.var 5) (.cons (.sub (.var 6) (.lit (.int 1))) .nil))) (.call 35 (.cons (.var 5) (.cons (.sub (.var 6) (.lit (.int 2))) .nil))))
    (.seq (.asg 9 (.lst (.cons (.var 3) (.cons (.new 4722384897934469788257 (.cons (.var 2) (.cons (.var 1) .nil)) []) (.cons (.new 4722384897934469788257 (.cons (.var 1) (.cons (.bin .Sub (.lit (.int 0)) (.bin .Mult (.var 1) (.var 2))) .nil)) []) (.cons (.new 4722384897934469788257 (.cons (.bin .Mult (.lit (.int 4)) (.var 1)) (.cons (.var 2) .nil)) []) (.cons (.new 4722384897934469788257 (.cons (.var 2) (.cons (.bin .Sub (.lit (.int 0)) (.bin .Mult (.var 1) (.var 2))) .nil)) []) (.cons (.var 4) .nil)))))))) K)))))
      [some (.ref (j + 1) p), none, none, none, none, none, none, none, none, none, none, none] ([] :: R) = ex (EV.run Fs lf (m + 1 + 1 + 1)) lf K (E47 (.ref (j + 1) p) a b A S (fourD A v) (.tup [fourD A oneH, fourD A iH, fourD A jH, fourD A kH]) (fourD A x) (fourD A y) (.lst [algD A, algD B1, algD B2, algD B3, algD B4, algD S]) none none) ([] :: sset R j p o2) := fun K => by
    have z0 : 0 - a * b = -(a * b) := by omega
    rw [z0] at eB2 eB4
    have ie : ∀ (σ : En) R, σ[2]? = some (some (.int b)) → ev (EV.run Fs lf (m + 1 + 1 + 1)) lf (.ife (.cmp .NotEq (.var 2) (.neg (.lit (.int 1)))) (.bin .Add (.var 2) (.lit (.int 1))) (.lit (.int 5))) σ R = .ok (.val (.int s)) R := fun σ R h => by
      by_cases hb1 : b = -1
      · rw [hs, if_neg (by simp [hb1])]
        simp [h, hb1]
      · rw [hs, if_pos hb1]
        simp [h, hb1]
    rcases e2 with e2 | e2 <;> simp (config := { decide := true }) [-ev_ife, e1, eA, eS, ie, e2, hbas, t1, t2, eB1, eB2, eB3, eB4, m1, m2]
  show finR (ex (EV.run Fs lf (m + 1 + 1 + 1)) lf (.seq (.unp [1, 2] _) (.seq (.par2 3 4 none none _ _) (.seq (.par2 5 6 none none _ _) (.seq (.par2 7 8 none none _ _) (.seq (.asg 9 _) (.seq (.forS [10] _ cB47) _)))))) [some (.ref (j + 1) p), none, none, none, none, none, none, none, none, none, none, none] ([] :: R)) = _
  rw [s0, ex_seq]
  have sf : ex (EV.run Fs lf (m + 1 + 1 + 1)) lf (.forS [10] (.call 46 (.cons (.var 0) (.cons (.var 3) (.cons (.var 4) (.cons (.var 7) (.cons (.var 8) .nil)))))) cB47) (E47 (.ref (j + 1) p) a b A S (fourD A v) (.tup [fourD A oneH, fourD A iH, fourD A jH, fourD A kH]) (fourD A x) (fourD A y) (.lst [algD A, algD B1, algD B2, algD B3, algD B4, algD S]) none none) ([] :: sset R j p o2) = .nx (E47 (.ref (j + 1) p) a b A S (fourD A v) (.tup [fourD A oneH, fourD A iH, fourD A jH, fourD A kH]) (fourD A x) (fourD A y) (.lst [algD A, algD B1, algD B2, algD B3, algD B4, algD S]) z10 z11) ([] :: sset R j p o4) := by
    have q : ev (EV.run Fs lf (m + 1 + 1 + 1)) lf (.call 46 (.cons (.var 0) (.cons (.var 3) (.cons (.var 4) (.cons (.var 7) (.cons (.var 8) .nil)))))) (E47 (.ref (j + 1) p) a b A S (fourD A v) (.tup [fourD A oneH, fourD A iH, fourD A jH, fourD A kH]) (fourD A x) (fourD A y) (.lst [algD A, algD B1, algD B2, algD B3, algD B4, algD S]) none none) ([] :: sset R j p o2) = .ok (.new (.lst ds)) ([] :: sset R j p o3) := by
      simp [e3]
    rw [ex_forS, q]
    exact e4
  have z0 : 0 - a * b = -(a * b) := by omega
  rw [z0] at eB2
  rw [sf]
  simp (config := { decide := true }) [q1, q2, eB2, m1, hmul, mulA]
abbrev cB48 : EV.S := (.seq (.ifS (.notE (.callB 47 (.call 36 (.cons (.var 0) (.cons (.var 1) .nil)))))
        (.seq (.ret (.lit (.bl false)))
        .nop)
        .nop)
      .nop)
theorem turn48 (ns : List Int) (hl : ns.length ≤ 63) (i : Nat) (hi : i < 3) : ex (EV.run Fs lf 29) lf cB48 [some (.scr (ns.map D.int)), some (.int (i : Int)), none, none, none, none, none] [[]] = .nx [some (.scr (ns.map D.int)), some (.int (i : Int)), none, none, none, none, none] [[]] := by
  obtain ⟨o, _, e1, b1⟩ := a_jug 29 (by decide) ns i [[]] hi hl
  obtain ⟨o', e2, _⟩ := right47 28 (by decide) 0 0 o 0 [[o], []] rfl b1 (by decide)
  have e1' : EV.run Fs lf 29 36 [.scr (ns.map D.int), .int (i : Int)] [[]] = .ok (.new o) [[]] := e1
  have e3 : callBV (EV.run Fs lf 29) 47 o [[]] = .ok (.val (.bl true)) [[]] := callBV_ok (own := [o']) e2 rfl
  simp [e1', e3]
theorem loop48 (ns : List Int) (hl : ns.length ≤ 63) : ∀ (l : List Nat) (y1 : Option D), (∀ i ∈ l, i < 3) →
    ∃ z1, forV (setTg [1]) (ex (EV.run Fs lf 29) lf cB48) (l.map fun (i : Nat) => .int (0 + (i : Int))) [some (.scr (ns.map D.int)), y1, none, none, none, none, none] [[]] = .nx [some (.scr (ns.map D.int)), z1, none, none, none, none, none] [[]] := by
  intro l
  induction l with
  | nil => intro y1 _; exact ⟨y1, rfl⟩
  | cons i l ih =>
    intro y1 h
    have e := turn48 ns hl i (h i List.mem_cons_self)
    obtain ⟨w1, e2⟩ := ih (some (.int (i : Int))) (fun j hj => h j (List.mem_cons_of_mem _ hj))
    refine ⟨w1, ?_⟩
    rw [List.map_cons, Int.zero_add, forV_nx (tg_one _ _ _) e]
    exact e2
theorem main (ns : List Int) (h : ns.length ≤ 63) : ∃ R', EV.run Fs lf 30 48 [.scr (ns.map D.int)] [] = .ok (.val (.bl true)) R' := by
  obtain ⟨cnt, hcnt, hc⟩ : ∃ cnt : Int, cnt = (if (if (ns.length : Int) < 3 then (ns.length : Int) else 3) > 1 then (if (ns.length : Int) < 3 then (ns.length : Int) else 3) else 1) ∧ 1 ≤ cnt ∧ cnt ≤ 3 := ⟨_, rfl, by split <;> split at * <;> omega, by split <;> split at * <;> omega⟩
  obtain ⟨z1, e⟩ := loop48 ns h (List.range (cnt - 0).toNat) none (fun i hi => by have := List.mem_range.mp hi; omega)
  have hr : rngOk 0 cnt = true := decide_eq_true (by omega)
  have s1 : ex (EV.run Fs lf 29) lf (.forS [1] (.rng1 (.blt .max2 (.cons (.lit (.int 1)) (.cons (.blt .min2 (.cons (.lit (.int 3)) (.cons (.blt .len (.cons (.var 0) .nil)) .nil))) .nil)))) cB48) [some (.scr (ns.map D.int)), none, none, none, none, none, none] [[]] = .nx [some (.scr (ns.map D.int)), z1, none, none, none, none, none] [[]] := by
    have q : ev (EV.run Fs lf 29) lf (.rng1 (.blt .max2 (.cons (.lit (.int 1)) (.cons (.blt .min2 (.cons (.lit (.int 3)) (.cons (.blt .len (.cons (.var 0) .nil)) .nil))) .nil)))) [some (.scr (ns.map D.int)), none, none, none, none, none, none] [[]] = .ok (.many [.int 0, .int cnt]) [[]] := by
      simp only [ev_rng1, ev_blt, ev_cons, ev_lit, ev_var, ev_nil, List.getElem?_cons_zero, bindV_val, bindA_many, bltX_scr, bltX_two, blt_len_scr, blt_min, blt_max, List.length_map]
      rw [hcnt]
    rw [ex_forS, q]
    simp only [ik_rng1, itOf_two, hr, if_true, forI_vals]
    exact e
  obtain ⟨C, Ca, Cb, _, eC⟩ := a_alg 29 (by decide) 1 1 (by decide) (by decide) (by decide) (by decide) (by decide) (by decide)
  obtain ⟨B, Ba, Bb, _, eB⟩ := a_alg 29 (by decide) 1 (-1) (by decide) (by decide) (by decide) (by decide) (by decide) (by decide)
  haveI oC : OkA C := ⟨by rw [Ca]; decide, by rw [Cb]; decide, by rw [Ca]; decide, by rw [Ca]; decide, by rw [Cb]; decide, by rw [Cb]; decide⟩
  have sC : SmB C := ⟨by rw [Ca]; decide, by rw [Ca]; decide, by rw [Cb]; decide, by rw [Cb]; decide⟩
  have sB : SmB B := ⟨by rw [Ba]; decide, by rw [Ba]; decide, by rw [Bb]; decide, by rw [Bb]; decide⟩
  haveI j1 : BH (negH jH) 1300 := BH.up (n := 42) (by haveI := bj; exact inferInstance) (by decide)
  haveI i1 : BH iH 1300 := bi.up (by decide)
  haveI k1 : BH kH 1300 := bk.up (by decide)
  haveI u1 : BH oneH 1300 := bone.up (by decide)
  have q1 := fun R => im_yes 26 (by decide) C B iH kH R sC sB
  have q2 := fun R => im_yes 26 (by decide) C C iH oneH R sC sC
  have q3 := fun R => im_yes 26 (by decide) C C (negH jH) iH R sC sC
  have g1 : gd C B iH kH = true := by
    simp only [gd, mulA, Ca, Cb, Ba, Bb]
    decide +kernel
  have g2 : gd C C iH oneH = false := by
    simp only [gd, mulA, Ca, Cb]
    decide +kernel
  have g3 : gd C C (negH jH) iH = true := by
    simp only [gd, mulA, Ca, Cb]
    decide +kernel
  rw [g1] at q1
  rw [g2] at q2
  rw [g3] at q3
  have hneg := a_negF 29 (by decide)
  have hbas := a_basis 29 (by decide)
  simp only [PBasis, Nat.reduceMul, Nat.reduceAdd] at hbas
  simp only [Nat.reduceAdd] at q1 q2 q3
  haveI := bj
  refine ⟨[], ?_⟩
  rw [run_at 29 48 _ _ f48 (by decide) rfl]
  refine (if_pos rfl).trans ?_
  show finR (ex (EV.run Fs lf 29) lf (.seq (.forS [1] _ cB48) _) [some (.scr (ns.map D.int)), none, none, none, none, none, none] [[]]) = _
  rw [ex_seq, s1]
  simp (config := { decide := true }) [eC, eB, q1, q2, q3, hneg, hbas]
end K23

namespace K23
open PySem PySem.Spec PyProof.Rows L2 EV

def zf : Zf := { locs := [(.glo ("is_whole" : Str)), (.glo ("is_integer" : Str)), (.glo ("require_integer" : Str)), (.glo ("common_of" : Str)), (.glo ("sign_of_integer" : Str)), (.glo ("ratio_of" : Str)), (.glo ("is_ratio_or_integer" : Str)), (.glo ("told_ratio" : Str)), (.glo ("is_number" : Str)), (.glo ("require_number" : Str)), (.glo ("factors_of" : Str)), (.glo ("power_rest" : Str)), (.glo ("residue_sign_of" : Str)), (.glo ("parted_by" : Str)), (.glo ("raw_product" : Str)), (.glo ("raw_mate" : Str)), (.glo ("raw_norm" : Str)), (.glo ("sign_by_two" : Str)), (.glo ("sign_by_prime" : Str)), (.glo ("sign_of" : Str)), (.glo ("places_of" : Str)), (.glo ("lowest" : Str)), (.glo ("parts_told" : Str)), (.glo ("four_made" : Str)), (.glo ("require_algebra" : Str)), (.glo ("require_four" : Str)), (.glo ("is_four_of" : Str)), (.glo ("require_four_of" : Str)), (.glo ("require_two_fours" : Str)), (.glo ("require_same_algebra" : Str)), (.glo ("require_sizes" : Str)), (.glo ("require_two" : Str)), (.glo ("is_integer_four" : Str)), (.glo ("is_images" : Str)), (.glo ("has_inverse" : Str)), (.glo ("turned" : Str)), (.glo ("_law_jug" : Str)), (.glo ("_law_pour" : Str)), (.glo ("_law_of" : Str)), (.glo ("_law_times" : Str)), (.glo ("_law_drawn" : Str)), (.glo ("_law_pair" : Str)), (.glo ("_law_squares_to" : Str)), (.glo ("_law_do_turn" : Str)), (.glo ("_law_are_images" : Str)), (.glo ("_law_four" : Str)), (.glo ("_law_near" : Str)), (.glo ("_law_right" : Str)), (.glo ("law" : Str)), (.met ("Terms" : Str) ("__init__" : Str)), (.met ("Ratio" : Str) ("__init__" : Str)), (.pro ("Ratio" : Str) ("top" : Str)), (.pro ("Ratio" : Str) ("bottom" : Str)), (.pro ("Ratio" : Str) ("sign" : Str)), (.met ("Ratio" : Str) ("__add__" : Str)), (.met ("Ratio" : Str) ("__sub__" : Str)), (.met ("Ratio" : Str) ("__mul__" : Str)), (.met ("Ratio" : Str) ("__neg__" : Str)), (.met ("Ratio" : Str) ("__eq__" : Str)), (.met ("Algebra" : Str) ("__init__" : Str)), (.pro ("Algebra" : Str) ("a" : Str)), (.pro ("Algebra" : Str) ("b" : Str)), (.met ("Algebra" : Str) ("basis" : Str)), (.met ("Algebra" : Str) ("__eq__" : Str)), (.met ("Parts" : Str) ("__init__" : Str)), (.met ("Four" : Str) ("__init__" : Str)), (.pro ("Four" : Str) ("algebra" : Str)), (.pro ("Four" : Str) ("entries" : Str)), (.pro ("Four" : Str) ("bottom" : Str)), (.pro ("Four" : Str) ("norm" : Str)), (.met ("Four" : Str) ("mate" : Str)), (.met ("Four" : Str) ("inverse" : Str)), (.met ("Four" : Str) ("scaled" : Str)), (.met ("Four" : Str) ("__add__" : Str)), (.met ("Four" : Str) ("__sub__" : Str)), (.met ("Four" : Str) ("__mul__" : Str)), (.met ("Four" : Str) ("__neg__" : Str)), (.met ("Four" : Str) ("__eq__" : Str))], free := T.bnm, cvs := [(("BEYOND" : Str), 1000000000000000000000000000000000000000000000000000000000000), (("MAX_NUMBER" : Str), 1000000000), (("REAL" : Str), 0), (("MANY_ENTRIES" : Str), 4), (("MAX_SIDE" : Str), 10000)], cls := [("Algebra" : Str), ("Four" : Str), ("Parts" : Str), ("Ratio" : Str), ("Terms" : Str)], slo := [(("Algebra" : Str), ("own_a" : Str), 0), (("Algebra" : Str), ("own_b" : Str), 1), (("Algebra" : Str), ("own_discriminant" : Str), 2), (("Algebra" : Str), ("own_places" : Str), 3), (("Four" : Str), ("own_algebra" : Str), 0), (("Four" : Str), ("own_bottom" : Str), 1), (("Four" : Str), ("own_entries" : Str), 2), (("Parts" : Str), ("own_bottom" : Str), 0), (("Parts" : Str), ("own_entries" : Str), 1), (("Ratio" : Str), ("own_bottom" : Str), 0), (("Ratio" : Str), ("own_top" : Str), 1), (("Terms" : Str), ("own_bottom" : Str), 0), (("Terms" : Str), ("own_top" : Str), 1)] }
def dA0 : He5.DefA := defZ (.glo ("is_whole" : Str)) ("is_whole" : Str) ("is_whole" : Str) st0 []
def dA1 : He5.DefA := defZ (.glo ("is_integer" : Str)) ("is_integer" : Str) ("is_integer" : Str) st1 []
def dA2 : He5.DefA := defZ (.glo ("require_integer" : Str)) ("require_integer" : Str) ("require_integer" : Str) st2 []
def dA3 : He5.DefA := defZ (.glo ("common_of" : Str)) ("common_of" : Str) ("common_of" : Str) st3 []
def dA4 : He5.DefA := defZ (.glo ("sign_of_integer" : Str)) ("sign_of_integer" : Str) ("sign_of_integer" : Str) st4 []
def dA5 : He5.DefA := defZ (.glo ("ratio_of" : Str)) ("ratio_of" : Str) ("ratio_of" : Str) st5 []
def dA6 : He5.DefA := defZ (.glo ("is_ratio_or_integer" : Str)) ("is_ratio_or_integer" : Str) ("is_ratio_or_integer" : Str) st6 []
def dA7 : He5.DefA := defZ (.glo ("told_ratio" : Str)) ("told_ratio" : Str) ("told_ratio" : Str) st7 []
def dA8 : He5.DefA := defZ (.glo ("is_number" : Str)) ("is_number" : Str) ("is_number" : Str) st8 []
def dA9 : He5.DefA := defZ (.glo ("require_number" : Str)) ("require_number" : Str) ("require_number" : Str) st9 []
def dA10 : He5.DefA := defZ (.glo ("factors_of" : Str)) ("factors_of" : Str) ("factors_of" : Str) st10 []
def dA11 : He5.DefA := defZ (.glo ("power_rest" : Str)) ("power_rest" : Str) ("power_rest" : Str) st11 []
def dA12 : He5.DefA := defZ (.glo ("residue_sign_of" : Str)) ("residue_sign_of" : Str) ("residue_sign_of" : Str) st12 []
def dA13 : He5.DefA := defZ (.glo ("parted_by" : Str)) ("parted_by" : Str) ("parted_by" : Str) st13 []
def dA14 : He5.DefA := defZ (.glo ("raw_product" : Str)) ("raw_product" : Str) ("raw_product" : Str) st14 []
def dA15 : He5.DefA := defZ (.glo ("raw_mate" : Str)) ("raw_mate" : Str) ("raw_mate" : Str) st15 []
def dA16 : He5.DefA := defZ (.glo ("raw_norm" : Str)) ("raw_norm" : Str) ("raw_norm" : Str) st16 []
def dA17 : He5.DefA := defZ (.glo ("sign_by_two" : Str)) ("sign_by_two" : Str) ("sign_by_two" : Str) st17 []
def dA18 : He5.DefA := defZ (.glo ("sign_by_prime" : Str)) ("sign_by_prime" : Str) ("sign_by_prime" : Str) st18 []
def dA19 : He5.DefA := defZ (.glo ("sign_of" : Str)) ("sign_of" : Str) ("sign_of" : Str) st19 []
def dA20 : He5.DefA := defZ (.glo ("places_of" : Str)) ("places_of" : Str) ("places_of" : Str) st20 []
def dA21 : He5.DefA := defZ (.glo ("lowest" : Str)) ("lowest" : Str) ("lowest" : Str) st21 []
def dA22 : He5.DefA := defZ (.glo ("parts_told" : Str)) ("parts_told" : Str) ("parts_told" : Str) st22 []
def dA23 : He5.DefA := defZ (.glo ("four_made" : Str)) ("four_made" : Str) ("four_made" : Str) st23 [(.int 1)]
def dA24 : He5.DefA := defZ (.glo ("require_algebra" : Str)) ("require_algebra" : Str) ("require_algebra" : Str) st24 []
def dA25 : He5.DefA := defZ (.glo ("require_four" : Str)) ("require_four" : Str) ("require_four" : Str) st25 []
def dA26 : He5.DefA := defZ (.glo ("is_four_of" : Str)) ("is_four_of" : Str) ("is_four_of" : Str) st26 []
def dA27 : He5.DefA := defZ (.glo ("require_four_of" : Str)) ("require_four_of" : Str) ("require_four_of" : Str) st27 []
def dA28 : He5.DefA := defZ (.glo ("require_two_fours" : Str)) ("require_two_fours" : Str) ("require_two_fours" : Str) st28 []
def dA29 : He5.DefA := defZ (.glo ("require_same_algebra" : Str)) ("require_same_algebra" : Str) ("require_same_algebra" : Str) st29 []
def dA30 : He5.DefA := defZ (.glo ("require_sizes" : Str)) ("require_sizes" : Str) ("require_sizes" : Str) st30 []
def dA31 : He5.DefA := defZ (.glo ("require_two" : Str)) ("require_two" : Str) ("require_two" : Str) st31 []
def dA32 : He5.DefA := defZ (.glo ("is_integer_four" : Str)) ("is_integer_four" : Str) ("is_integer_four" : Str) st32 []
def dA33 : He5.DefA := defZ (.glo ("is_images" : Str)) ("is_images" : Str) ("is_images" : Str) st33 []
def dA34 : He5.DefA := defZ (.glo ("has_inverse" : Str)) ("has_inverse" : Str) ("has_inverse" : Str) st34 []
def dA35 : He5.DefA := defZ (.glo ("turned" : Str)) ("turned" : Str) ("turned" : Str) st35 []
def dA36 : He5.DefA := defZ (.glo ("_law_jug" : Str)) ("_law_jug" : Str) ("_law_jug" : Str) st36 []
def dA37 : He5.DefA := defZ (.glo ("_law_pour" : Str)) ("_law_pour" : Str) ("_law_pour" : Str) st37 []
def dA38 : He5.DefA := defZ (.glo ("_law_of" : Str)) ("_law_of" : Str) ("_law_of" : Str) st38 []
def dA39 : He5.DefA := defZ (.glo ("_law_times" : Str)) ("_law_times" : Str) ("_law_times" : Str) st39 []
def dA40 : He5.DefA := defZ (.glo ("_law_drawn" : Str)) ("_law_drawn" : Str) ("_law_drawn" : Str) st40 []
def dA41 : He5.DefA := defZ (.glo ("_law_pair" : Str)) ("_law_pair" : Str) ("_law_pair" : Str) st41 []
def dA42 : He5.DefA := defZ (.glo ("_law_squares_to" : Str)) ("_law_squares_to" : Str) ("_law_squares_to" : Str) st42 []
def dA43 : He5.DefA := defZ (.glo ("_law_do_turn" : Str)) ("_law_do_turn" : Str) ("_law_do_turn" : Str) st43 []
def dA44 : He5.DefA := defZ (.glo ("_law_are_images" : Str)) ("_law_are_images" : Str) ("_law_are_images" : Str) st44 []
def dA45 : He5.DefA := defZ (.glo ("_law_four" : Str)) ("_law_four" : Str) ("_law_four" : Str) st45 []
def dA46 : He5.DefA := defZ (.glo ("_law_near" : Str)) ("_law_near" : Str) ("_law_near" : Str) st46 []
def dA47 : He5.DefA := defZ (.glo ("_law_right" : Str)) ("_law_right" : Str) ("_law_right" : Str) st47 []
def dA48 : He5.DefA := defZ (.glo ("law" : Str)) ("law" : Str) ("law" : Str) st48 []
def dA49 : He5.DefA := defZ (.met ("Terms" : Str) ("__init__" : Str)) ("__init__" : Str) ("Terms.__init__" : Str) st49 []
def dA50 : He5.DefA := defZ (.met ("Ratio" : Str) ("__init__" : Str)) ("__init__" : Str) ("Ratio.__init__" : Str) st50 [(.int 1)]
def dA51 : He5.DefA := defZ (.pro ("Ratio" : Str) ("top" : Str)) ("top" : Str) ("Ratio.top" : Str) st51 []
def dA52 : He5.DefA := defZ (.pro ("Ratio" : Str) ("bottom" : Str)) ("bottom" : Str) ("Ratio.bottom" : Str) st52 []
def dA53 : He5.DefA := defZ (.pro ("Ratio" : Str) ("sign" : Str)) ("sign" : Str) ("Ratio.sign" : Str) st53 []
def dA54 : He5.DefA := defZ (.met ("Ratio" : Str) ("__add__" : Str)) ("__add__" : Str) ("Ratio.__add__" : Str) st54 []
def dA55 : He5.DefA := defZ (.met ("Ratio" : Str) ("__sub__" : Str)) ("__sub__" : Str) ("Ratio.__sub__" : Str) st55 []
def dA56 : He5.DefA := defZ (.met ("Ratio" : Str) ("__mul__" : Str)) ("__mul__" : Str) ("Ratio.__mul__" : Str) st56 []
def dA57 : He5.DefA := defZ (.met ("Ratio" : Str) ("__neg__" : Str)) ("__neg__" : Str) ("Ratio.__neg__" : Str) st57 []
def dA58 : He5.DefA := defZ (.met ("Ratio" : Str) ("__eq__" : Str)) ("__eq__" : Str) ("Ratio.__eq__" : Str) st58 []
def dA59 : He5.DefA := defZ (.met ("Algebra" : Str) ("__init__" : Str)) ("__init__" : Str) ("Algebra.__init__" : Str) st59 []
def dA60 : He5.DefA := defZ (.pro ("Algebra" : Str) ("a" : Str)) ("a" : Str) ("Algebra.a" : Str) st60 []
def dA61 : He5.DefA := defZ (.pro ("Algebra" : Str) ("b" : Str)) ("b" : Str) ("Algebra.b" : Str) st61 []
def dA62 : He5.DefA := defZ (.met ("Algebra" : Str) ("basis" : Str)) ("basis" : Str) ("Algebra.basis" : Str) st62 []
def dA63 : He5.DefA := defZ (.met ("Algebra" : Str) ("__eq__" : Str)) ("__eq__" : Str) ("Algebra.__eq__" : Str) st63 []
def dA64 : He5.DefA := defZ (.met ("Parts" : Str) ("__init__" : Str)) ("__init__" : Str) ("Parts.__init__" : Str) st64 []
def dA65 : He5.DefA := defZ (.met ("Four" : Str) ("__init__" : Str)) ("__init__" : Str) ("Four.__init__" : Str) st65 [(.int 1)]
def dA66 : He5.DefA := defZ (.pro ("Four" : Str) ("algebra" : Str)) ("algebra" : Str) ("Four.algebra" : Str) st66 []
def dA67 : He5.DefA := defZ (.pro ("Four" : Str) ("entries" : Str)) ("entries" : Str) ("Four.entries" : Str) st67 []
def dA68 : He5.DefA := defZ (.pro ("Four" : Str) ("bottom" : Str)) ("bottom" : Str) ("Four.bottom" : Str) st68 []
def dA69 : He5.DefA := defZ (.pro ("Four" : Str) ("norm" : Str)) ("norm" : Str) ("Four.norm" : Str) st69 []
def dA70 : He5.DefA := defZ (.met ("Four" : Str) ("mate" : Str)) ("mate" : Str) ("Four.mate" : Str) st70 []
def dA71 : He5.DefA := defZ (.met ("Four" : Str) ("inverse" : Str)) ("inverse" : Str) ("Four.inverse" : Str) st71 []
def dA72 : He5.DefA := defZ (.met ("Four" : Str) ("scaled" : Str)) ("scaled" : Str) ("Four.scaled" : Str) st72 []
def dA73 : He5.DefA := defZ (.met ("Four" : Str) ("__add__" : Str)) ("__add__" : Str) ("Four.__add__" : Str) st73 []
def dA74 : He5.DefA := defZ (.met ("Four" : Str) ("__sub__" : Str)) ("__sub__" : Str) ("Four.__sub__" : Str) st74 []
def dA75 : He5.DefA := defZ (.met ("Four" : Str) ("__mul__" : Str)) ("__mul__" : Str) ("Four.__mul__" : Str) st75 []
def dA76 : He5.DefA := defZ (.met ("Four" : Str) ("__neg__" : Str)) ("__neg__" : Str) ("Four.__neg__" : Str) st76 []
def dA77 : He5.DefA := defZ (.met ("Four" : Str) ("__eq__" : Str)) ("__eq__" : Str) ("Four.__eq__" : Str) st77 []
def fnZ : List He5.DefA := [dA0, dA1, dA2, dA3, dA4, dA5, dA6, dA7, dA8, dA9, dA10, dA11, dA12, dA13, dA14, dA15, dA16, dA17, dA18, dA19, dA20, dA21, dA22, dA23, dA24, dA25, dA26, dA27, dA28, dA29, dA30, dA31, dA32, dA33, dA34, dA35, dA36, dA37, dA38, dA39, dA40, dA41, dA42, dA43, dA44, dA45, dA46, dA47, dA48, dA49, dA50, dA51, dA52, dA53, dA54, dA55, dA56, dA57, dA58, dA59, dA60, dA61, dA62, dA63, dA64, dA65, dA66, dA67, dA68, dA69, dA70, dA71, dA72, dA73, dA74, dA75, dA76, dA77]
abbrev Sz (K : Frg) : Prop := SaysZ zf.ok fnZ K
theorem df0 {K : Frg} (c : Sz K) : DefAt K T Fs (· = 0) (Loc.at_ (.glo ("is_whole" : Str)) K) [] := by
  obtain ⟨fd, F⟩ := c.def_ 0 (d := dA0) rfl
  exact ⟨_, _, st0, fd, P0, N0, f0, [], [], fun i h => by subst h; rfl, FunZ.of (x := ("is_whole" : Str)) (qual := ("is_whole" : Str)) (st := st0) F, FunD.bindsX (x := ("is_whole" : Str)) (qual := ("is_whole" : Str)) (st := st0) (ps := P0) F (fun _ _ _ _ _ _ us hl => match us, hl with | [_], _ => rfl), .nil, .nil, ok0⟩
theorem df1 {K : Frg} (c : Sz K) : DefAt K T Fs (· = 1) (Loc.at_ (.glo ("is_integer" : Str)) K) [] := by
  obtain ⟨fd, F⟩ := c.def_ 1 (d := dA1) rfl
  exact ⟨_, _, st1, fd, P1, N1, f1, [], [], fun i h => by subst h; rfl, FunZ.of (x := ("is_integer" : Str)) (qual := ("is_integer" : Str)) (st := st1) F, FunD.bindsX (x := ("is_integer" : Str)) (qual := ("is_integer" : Str)) (st := st1) (ps := P1) F (fun _ _ _ _ _ _ us hl => match us, hl with | [_], _ => rfl), .nil, .nil, ok1⟩
theorem df2 {K : Frg} (c : Sz K) : DefAt K T Fs (· = 2) (Loc.at_ (.glo ("require_integer" : Str)) K) [] := by
  obtain ⟨fd, F⟩ := c.def_ 2 (d := dA2) rfl
  exact ⟨_, _, st2, fd, P2, N2, f2, [], [], fun i h => by subst h; rfl, FunZ.of (x := ("require_integer" : Str)) (qual := ("require_integer" : Str)) (st := st2) F, FunD.bindsX (x := ("require_integer" : Str)) (qual := ("require_integer" : Str)) (st := st2) (ps := P2) F (fun _ _ _ _ _ _ us hl => match us, hl with | [_], _ => rfl), .nil, .nil, ok2⟩
theorem df3 {K : Frg} (c : Sz K) : DefAt K T Fs (· = 3) (Loc.at_ (.glo ("common_of" : Str)) K) [] := by
  obtain ⟨fd, F⟩ := c.def_ 3 (d := dA3) rfl
  exact ⟨_, _, st3, fd, P3, N3, f3, [], [], fun i h => by subst h; rfl, FunZ.of (x := ("common_of" : Str)) (qual := ("common_of" : Str)) (st := st3) F, FunD.bindsX (x := ("common_of" : Str)) (qual := ("common_of" : Str)) (st := st3) (ps := P3) F (fun _ _ _ _ _ _ us hl => match us, hl with | [_, _], _ => rfl), .nil, .nil, ok3⟩
theorem df4 {K : Frg} (c : Sz K) : DefAt K T Fs (· = 4) (Loc.at_ (.glo ("sign_of_integer" : Str)) K) [] := by
  obtain ⟨fd, F⟩ := c.def_ 4 (d := dA4) rfl
  exact ⟨_, _, st4, fd, P4, N4, f4, [], [], fun i h => by subst h; rfl, FunZ.of (x := ("sign_of_integer" : Str)) (qual := ("sign_of_integer" : Str)) (st := st4) F, FunD.bindsX (x := ("sign_of_integer" : Str)) (qual := ("sign_of_integer" : Str)) (st := st4) (ps := P4) F (fun _ _ _ _ _ _ us hl => match us, hl with | [_], _ => rfl), .nil, .nil, ok4⟩
theorem df5 {K : Frg} (c : Sz K) : DefAt K T Fs (· = 5) (Loc.at_ (.glo ("ratio_of" : Str)) K) [] := by
  obtain ⟨fd, F⟩ := c.def_ 5 (d := dA5) rfl
  exact ⟨_, _, st5, fd, P5, N5, f5, [], [], fun i h => by subst h; rfl, FunZ.of (x := ("ratio_of" : Str)) (qual := ("ratio_of" : Str)) (st := st5) F, FunD.bindsX (x := ("ratio_of" : Str)) (qual := ("ratio_of" : Str)) (st := st5) (ps := P5) F (fun _ _ _ _ _ _ us hl => match us, hl with | [_, _], _ => rfl), .nil, .nil, ok5⟩
theorem df6 {K : Frg} (c : Sz K) : DefAt K T Fs (· = 6) (Loc.at_ (.glo ("is_ratio_or_integer" : Str)) K) [] := by
  obtain ⟨fd, F⟩ := c.def_ 6 (d := dA6) rfl
  exact ⟨_, _, st6, fd, P6, N6, f6, [], [], fun i h => by subst h; rfl, FunZ.of (x := ("is_ratio_or_integer" : Str)) (qual := ("is_ratio_or_integer" : Str)) (st := st6) F, FunD.bindsX (x := ("is_ratio_or_integer" : Str)) (qual := ("is_ratio_or_integer" : Str)) (st := st6) (ps := P6) F (fun _ _ _ _ _ _ us hl => match us, hl with | [_], _ => rfl), .nil, .nil, ok6⟩
theorem df7 {K : Frg} (c : Sz K) : DefAt K T Fs (· = 7) (Loc.at_ (.glo ("told_ratio" : Str)) K) [] := by
  obtain ⟨fd, F⟩ := c.def_ 7 (d := dA7) rfl
  exact ⟨_, _, st7, fd, P7, N7, f7, [], [], fun i h => by subst h; rfl, FunZ.of (x := ("told_ratio" : Str)) (qual := ("told_ratio" : Str)) (st := st7) F, FunD.bindsX (x := ("told_ratio" : Str)) (qual := ("told_ratio" : Str)) (st := st7) (ps := P7) F (fun _ _ _ _ _ _ us hl => match us, hl with | [_], _ => rfl), .nil, .nil, ok7⟩
theorem df8 {K : Frg} (c : Sz K) : DefAt K T Fs (· = 8) (Loc.at_ (.glo ("is_number" : Str)) K) [] := by
  obtain ⟨fd, F⟩ := c.def_ 8 (d := dA8) rfl
  exact ⟨_, _, st8, fd, P8, N8, f8, [], [], fun i h => by subst h; rfl, FunZ.of (x := ("is_number" : Str)) (qual := ("is_number" : Str)) (st := st8) F, FunD.bindsX (x := ("is_number" : Str)) (qual := ("is_number" : Str)) (st := st8) (ps := P8) F (fun _ _ _ _ _ _ us hl => match us, hl with | [_], _ => rfl), .nil, .nil, ok8⟩
theorem df9 {K : Frg} (c : Sz K) : DefAt K T Fs (· = 9) (Loc.at_ (.glo ("require_number" : Str)) K) [] := by
  obtain ⟨fd, F⟩ := c.def_ 9 (d := dA9) rfl
  exact ⟨_, _, st9, fd, P9, N9, f9, [], [], fun i h => by subst h; rfl, FunZ.of (x := ("require_number" : Str)) (qual := ("require_number" : Str)) (st := st9) F, FunD.bindsX (x := ("require_number" : Str)) (qual := ("require_number" : Str)) (st := st9) (ps := P9) F (fun _ _ _ _ _ _ us hl => match us, hl with | [_], _ => rfl), .nil, .nil, ok9⟩
theorem df10 {K : Frg} (c : Sz K) : DefAt K T Fs (· = 10) (Loc.at_ (.glo ("factors_of" : Str)) K) [] := by
  obtain ⟨fd, F⟩ := c.def_ 10 (d := dA10) rfl
  exact ⟨_, _, st10, fd, P10, N10, f10, [], [], fun i h => by subst h; rfl, FunZ.of (x := ("factors_of" : Str)) (qual := ("factors_of" : Str)) (st := st10) F, FunD.bindsX (x := ("factors_of" : Str)) (qual := ("factors_of" : Str)) (st := st10) (ps := P10) F (fun _ _ _ _ _ _ us hl => match us, hl with | [_], _ => rfl), .nil, .nil, ok10⟩
theorem df11 {K : Frg} (c : Sz K) : DefAt K T Fs (· = 11) (Loc.at_ (.glo ("power_rest" : Str)) K) [] := by
  obtain ⟨fd, F⟩ := c.def_ 11 (d := dA11) rfl
  exact ⟨_, _, st11, fd, P11, N11, f11, [], [], fun i h => by subst h; rfl, FunZ.of (x := ("power_rest" : Str)) (qual := ("power_rest" : Str)) (st := st11) F, FunD.bindsX (x := ("power_rest" : Str)) (qual := ("power_rest" : Str)) (st := st11) (ps := P11) F (fun _ _ _ _ _ _ us hl => match us, hl with | [_, _, _], _ => rfl), .nil, .nil, ok11⟩
theorem df12 {K : Frg} (c : Sz K) : DefAt K T Fs (· = 12) (Loc.at_ (.glo ("residue_sign_of" : Str)) K) [] := by
  obtain ⟨fd, F⟩ := c.def_ 12 (d := dA12) rfl
  exact ⟨_, _, st12, fd, P12, N12, f12, [], [], fun i h => by subst h; rfl, FunZ.of (x := ("residue_sign_of" : Str)) (qual := ("residue_sign_of" : Str)) (st := st12) F, FunD.bindsX (x := ("residue_sign_of" : Str)) (qual := ("residue_sign_of" : Str)) (st := st12) (ps := P12) F (fun _ _ _ _ _ _ us hl => match us, hl with | [_, _], _ => rfl), .nil, .nil, ok12⟩
theorem df13 {K : Frg} (c : Sz K) : DefAt K T Fs (· = 13) (Loc.at_ (.glo ("parted_by" : Str)) K) [] := by
  obtain ⟨fd, F⟩ := c.def_ 13 (d := dA13) rfl
  exact ⟨_, _, st13, fd, P13, N13, f13, [], [], fun i h => by subst h; rfl, FunZ.of (x := ("parted_by" : Str)) (qual := ("parted_by" : Str)) (st := st13) F, FunD.bindsX (x := ("parted_by" : Str)) (qual := ("parted_by" : Str)) (st := st13) (ps := P13) F (fun _ _ _ _ _ _ us hl => match us, hl with | [_, _], _ => rfl), .nil, .nil, ok13⟩
theorem df14 {K : Frg} (c : Sz K) : DefAt K T Fs (· = 14) (Loc.at_ (.glo ("raw_product" : Str)) K) [] := by
  obtain ⟨fd, F⟩ := c.def_ 14 (d := dA14) rfl
  exact ⟨_, _, st14, fd, P14, N14, f14, [], [], fun i h => by subst h; rfl, FunZ.of (x := ("raw_product" : Str)) (qual := ("raw_product" : Str)) (st := st14) F, FunD.bindsX (x := ("raw_product" : Str)) (qual := ("raw_product" : Str)) (st := st14) (ps := P14) F (fun _ _ _ _ _ _ us hl => match us, hl with | [_, _, _, _], _ => rfl), .nil, .nil, ok14⟩
theorem df15 {K : Frg} (c : Sz K) : DefAt K T Fs (· = 15) (Loc.at_ (.glo ("raw_mate" : Str)) K) [] := by
  obtain ⟨fd, F⟩ := c.def_ 15 (d := dA15) rfl
  exact ⟨_, _, st15, fd, P15, N15, f15, [], [], fun i h => by subst h; rfl, FunZ.of (x := ("raw_mate" : Str)) (qual := ("raw_mate" : Str)) (st := st15) F, FunD.bindsX (x := ("raw_mate" : Str)) (qual := ("raw_mate" : Str)) (st := st15) (ps := P15) F (fun _ _ _ _ _ _ us hl => match us, hl with | [_], _ => rfl), .nil, .nil, ok15⟩
theorem df16 {K : Frg} (c : Sz K) : DefAt K T Fs (· = 16) (Loc.at_ (.glo ("raw_norm" : Str)) K) [] := by
  obtain ⟨fd, F⟩ := c.def_ 16 (d := dA16) rfl
  exact ⟨_, _, st16, fd, P16, N16, f16, [], [], fun i h => by subst h; rfl, FunZ.of (x := ("raw_norm" : Str)) (qual := ("raw_norm" : Str)) (st := st16) F, FunD.bindsX (x := ("raw_norm" : Str)) (qual := ("raw_norm" : Str)) (st := st16) (ps := P16) F (fun _ _ _ _ _ _ us hl => match us, hl with | [_, _, _], _ => rfl), .nil, .nil, ok16⟩
theorem df17 {K : Frg} (c : Sz K) : DefAt K T Fs (· = 17) (Loc.at_ (.glo ("sign_by_two" : Str)) K) [] := by
  obtain ⟨fd, F⟩ := c.def_ 17 (d := dA17) rfl
  exact ⟨_, _, st17, fd, P17, N17, f17, [], [], fun i h => by subst h; rfl, FunZ.of (x := ("sign_by_two" : Str)) (qual := ("sign_by_two" : Str)) (st := st17) F, FunD.bindsX (x := ("sign_by_two" : Str)) (qual := ("sign_by_two" : Str)) (st := st17) (ps := P17) F (fun _ _ _ _ _ _ us hl => match us, hl with | [_, _, _, _], _ => rfl), .nil, .nil, ok17⟩
theorem df18 {K : Frg} (c : Sz K) : DefAt K T Fs (· = 18) (Loc.at_ (.glo ("sign_by_prime" : Str)) K) [] := by
  obtain ⟨fd, F⟩ := c.def_ 18 (d := dA18) rfl
  exact ⟨_, _, st18, fd, P18, N18, f18, [], [], fun i h => by subst h; rfl, FunZ.of (x := ("sign_by_prime" : Str)) (qual := ("sign_by_prime" : Str)) (st := st18) F, FunD.bindsX (x := ("sign_by_prime" : Str)) (qual := ("sign_by_prime" : Str)) (st := st18) (ps := P18) F (fun _ _ _ _ _ _ us hl => match us, hl with | [_, _, _], _ => rfl), .nil, .nil, ok18⟩
theorem df19 {K : Frg} (c : Sz K) : DefAt K T Fs (· = 19) (Loc.at_ (.glo ("sign_of" : Str)) K) [] := by
  obtain ⟨fd, F⟩ := c.def_ 19 (d := dA19) rfl
  exact ⟨_, _, st19, fd, P19, N19, f19, [], [], fun i h => by subst h; rfl, FunZ.of (x := ("sign_of" : Str)) (qual := ("sign_of" : Str)) (st := st19) F, FunD.bindsX (x := ("sign_of" : Str)) (qual := ("sign_of" : Str)) (st := st19) (ps := P19) F (fun _ _ _ _ _ _ us hl => match us, hl with | [_, _, _], _ => rfl), .nil, .nil, ok19⟩
theorem df20 {K : Frg} (c : Sz K) : DefAt K T Fs (· = 20) (Loc.at_ (.glo ("places_of" : Str)) K) [] := by
  obtain ⟨fd, F⟩ := c.def_ 20 (d := dA20) rfl
  exact ⟨_, _, st20, fd, P20, N20, f20, [], [], fun i h => by subst h; rfl, FunZ.of (x := ("places_of" : Str)) (qual := ("places_of" : Str)) (st := st20) F, FunD.bindsX (x := ("places_of" : Str)) (qual := ("places_of" : Str)) (st := st20) (ps := P20) F (fun _ _ _ _ _ _ us hl => match us, hl with | [_, _], _ => rfl), .nil, .nil, ok20⟩
theorem df21 {K : Frg} (c : Sz K) : DefAt K T Fs (· = 21) (Loc.at_ (.glo ("lowest" : Str)) K) [] := by
  obtain ⟨fd, F⟩ := c.def_ 21 (d := dA21) rfl
  exact ⟨_, _, st21, fd, P21, N21, f21, [], [], fun i h => by subst h; rfl, FunZ.of (x := ("lowest" : Str)) (qual := ("lowest" : Str)) (st := st21) F, FunD.bindsX (x := ("lowest" : Str)) (qual := ("lowest" : Str)) (st := st21) (ps := P21) F (fun _ _ _ _ _ _ us hl => match us, hl with | [_, _], _ => rfl), .nil, .nil, ok21⟩
theorem df22 {K : Frg} (c : Sz K) : DefAt K T Fs (· = 22) (Loc.at_ (.glo ("parts_told" : Str)) K) [] := by
  obtain ⟨fd, F⟩ := c.def_ 22 (d := dA22) rfl
  exact ⟨_, _, st22, fd, P22, N22, f22, [], [], fun i h => by subst h; rfl, FunZ.of (x := ("parts_told" : Str)) (qual := ("parts_told" : Str)) (st := st22) F, FunD.bindsX (x := ("parts_told" : Str)) (qual := ("parts_told" : Str)) (st := st22) (ps := P22) F (fun _ _ _ _ _ _ us hl => match us, hl with | [_, _], _ => rfl), .nil, .nil, ok22⟩
theorem df23 {K : Frg} (c : Sz K) : DefAt K T Fs (· = 23) (Loc.at_ (.glo ("four_made" : Str)) K) [] := by
  obtain ⟨fd, F⟩ := c.def_ 23 (d := dA23) rfl
  obtain ⟨ds, hv, hb⟩ := FunD.binds1 (dvs := [(.int 1)]) (ps := P23) F 3 1 (fun z => nomatch z) rfl (fun _ _ _ _ _ _ _ us its hu hi => match us, its, hu, hi with | [_, _, _], [_], _, _ => ⟨_, rfl, rfl⟩)
  cases hv
  exact ⟨_, _, st23, fd, P23, N23, f23, [], [], fun i h => by subst h; rfl, .of F, hb, .nil, .nil, ok23⟩
theorem df24 {K : Frg} (c : Sz K) : DefAt K T Fs (· = 24) (Loc.at_ (.glo ("require_algebra" : Str)) K) [] := by
  obtain ⟨fd, F⟩ := c.def_ 24 (d := dA24) rfl
  exact ⟨_, _, st24, fd, P24, N24, f24, [], [], fun i h => by subst h; rfl, FunZ.of (x := ("require_algebra" : Str)) (qual := ("require_algebra" : Str)) (st := st24) F, FunD.bindsX (x := ("require_algebra" : Str)) (qual := ("require_algebra" : Str)) (st := st24) (ps := P24) F (fun _ _ _ _ _ _ us hl => match us, hl with | [_], _ => rfl), .nil, .nil, ok24⟩
theorem df25 {K : Frg} (c : Sz K) : DefAt K T Fs (· = 25) (Loc.at_ (.glo ("require_four" : Str)) K) [] := by
  obtain ⟨fd, F⟩ := c.def_ 25 (d := dA25) rfl
  exact ⟨_, _, st25, fd, P25, N25, f25, [], [], fun i h => by subst h; rfl, FunZ.of (x := ("require_four" : Str)) (qual := ("require_four" : Str)) (st := st25) F, FunD.bindsX (x := ("require_four" : Str)) (qual := ("require_four" : Str)) (st := st25) (ps := P25) F (fun _ _ _ _ _ _ us hl => match us, hl with | [_], _ => rfl), .nil, .nil, ok25⟩
theorem df26 {K : Frg} (c : Sz K) : DefAt K T Fs (· = 26) (Loc.at_ (.glo ("is_four_of" : Str)) K) [] := by
  obtain ⟨fd, F⟩ := c.def_ 26 (d := dA26) rfl
  exact ⟨_, _, st26, fd, P26, N26, f26, [], [], fun i h => by subst h; rfl, FunZ.of (x := ("is_four_of" : Str)) (qual := ("is_four_of" : Str)) (st := st26) F, FunD.bindsX (x := ("is_four_of" : Str)) (qual := ("is_four_of" : Str)) (st := st26) (ps := P26) F (fun _ _ _ _ _ _ us hl => match us, hl with | [_, _], _ => rfl), .nil, .nil, ok26⟩
theorem df27 {K : Frg} (c : Sz K) : DefAt K T Fs (· = 27) (Loc.at_ (.glo ("require_four_of" : Str)) K) [] := by
  obtain ⟨fd, F⟩ := c.def_ 27 (d := dA27) rfl
  exact ⟨_, _, st27, fd, P27, N27, f27, [], [], fun i h => by subst h; rfl, FunZ.of (x := ("require_four_of" : Str)) (qual := ("require_four_of" : Str)) (st := st27) F, FunD.bindsX (x := ("require_four_of" : Str)) (qual := ("require_four_of" : Str)) (st := st27) (ps := P27) F (fun _ _ _ _ _ _ us hl => match us, hl with | [_, _], _ => rfl), .nil, .nil, ok27⟩
theorem df28 {K : Frg} (c : Sz K) : DefAt K T Fs (· = 28) (Loc.at_ (.glo ("require_two_fours" : Str)) K) [] := by
  obtain ⟨fd, F⟩ := c.def_ 28 (d := dA28) rfl
  exact ⟨_, _, st28, fd, P28, N28, f28, [], [], fun i h => by subst h; rfl, FunZ.of (x := ("require_two_fours" : Str)) (qual := ("require_two_fours" : Str)) (st := st28) F, FunD.bindsX (x := ("require_two_fours" : Str)) (qual := ("require_two_fours" : Str)) (st := st28) (ps := P28) F (fun _ _ _ _ _ _ us hl => match us, hl with | [_, _], _ => rfl), .nil, .nil, ok28⟩
theorem df29 {K : Frg} (c : Sz K) : DefAt K T Fs (· = 29) (Loc.at_ (.glo ("require_same_algebra" : Str)) K) [] := by
  obtain ⟨fd, F⟩ := c.def_ 29 (d := dA29) rfl
  exact ⟨_, _, st29, fd, P29, N29, f29, [], [], fun i h => by subst h; rfl, FunZ.of (x := ("require_same_algebra" : Str)) (qual := ("require_same_algebra" : Str)) (st := st29) F, FunD.bindsX (x := ("require_same_algebra" : Str)) (qual := ("require_same_algebra" : Str)) (st := st29) (ps := P29) F (fun _ _ _ _ _ _ us hl => match us, hl with | [_, _], _ => rfl), .nil, .nil, ok29⟩
theorem df30 {K : Frg} (c : Sz K) : DefAt K T Fs (· = 30) (Loc.at_ (.glo ("require_sizes" : Str)) K) [] := by
  obtain ⟨fd, F⟩ := c.def_ 30 (d := dA30) rfl
  exact ⟨_, _, st30, fd, P30, N30, f30, [], [], fun i h => by subst h; rfl, FunZ.of (x := ("require_sizes" : Str)) (qual := ("require_sizes" : Str)) (st := st30) F, FunD.bindsX (x := ("require_sizes" : Str)) (qual := ("require_sizes" : Str)) (st := st30) (ps := P30) F (fun _ _ _ _ _ _ us hl => match us, hl with | [_, _], _ => rfl), .nil, .nil, ok30⟩
theorem df31 {K : Frg} (c : Sz K) : DefAt K T Fs (· = 31) (Loc.at_ (.glo ("require_two" : Str)) K) [] := by
  obtain ⟨fd, F⟩ := c.def_ 31 (d := dA31) rfl
  exact ⟨_, _, st31, fd, P31, N31, f31, [], [], fun i h => by subst h; rfl, FunZ.of (x := ("require_two" : Str)) (qual := ("require_two" : Str)) (st := st31) F, FunD.bindsX (x := ("require_two" : Str)) (qual := ("require_two" : Str)) (st := st31) (ps := P31) F (fun _ _ _ _ _ _ us hl => match us, hl with | [_, _, _], _ => rfl), .nil, .nil, ok31⟩
theorem df32 {K : Frg} (c : Sz K) : DefAt K T Fs (· = 32) (Loc.at_ (.glo ("is_integer_four" : Str)) K) [] := by
  obtain ⟨fd, F⟩ := c.def_ 32 (d := dA32) rfl
  exact ⟨_, _, st32, fd, P32, N32, f32, [], [], fun i h => by subst h; rfl, FunZ.of (x := ("is_integer_four" : Str)) (qual := ("is_integer_four" : Str)) (st := st32) F, FunD.bindsX (x := ("is_integer_four" : Str)) (qual := ("is_integer_four" : Str)) (st := st32) (ps := P32) F (fun _ _ _ _ _ _ us hl => match us, hl with | [_, _], _ => rfl), .nil, .nil, ok32⟩
theorem df33 {K : Frg} (c : Sz K) : DefAt K T Fs (· = 33) (Loc.at_ (.glo ("is_images" : Str)) K) [] := by
  obtain ⟨fd, F⟩ := c.def_ 33 (d := dA33) rfl
  exact ⟨_, _, st33, fd, P33, N33, f33, [], [], fun i h => by subst h; rfl, FunZ.of (x := ("is_images" : Str)) (qual := ("is_images" : Str)) (st := st33) F, FunD.bindsX (x := ("is_images" : Str)) (qual := ("is_images" : Str)) (st := st33) (ps := P33) F (fun _ _ _ _ _ _ us hl => match us, hl with | [_, _, _], _ => rfl), .nil, .nil, ok33⟩
theorem df34 {K : Frg} (c : Sz K) : DefAt K T Fs (· = 34) (Loc.at_ (.glo ("has_inverse" : Str)) K) [] := by
  obtain ⟨fd, F⟩ := c.def_ 34 (d := dA34) rfl
  exact ⟨_, _, st34, fd, P34, N34, f34, [], [], fun i h => by subst h; rfl, FunZ.of (x := ("has_inverse" : Str)) (qual := ("has_inverse" : Str)) (st := st34) F, FunD.bindsX (x := ("has_inverse" : Str)) (qual := ("has_inverse" : Str)) (st := st34) (ps := P34) F (fun _ _ _ _ _ _ us hl => match us, hl with | [_], _ => rfl), .nil, .nil, ok34⟩
theorem df35 {K : Frg} (c : Sz K) : DefAt K T Fs (· = 35) (Loc.at_ (.glo ("turned" : Str)) K) [] := by
  obtain ⟨fd, F⟩ := c.def_ 35 (d := dA35) rfl
  exact ⟨_, _, st35, fd, P35, N35, f35, [], [], fun i h => by subst h; rfl, FunZ.of (x := ("turned" : Str)) (qual := ("turned" : Str)) (st := st35) F, FunD.bindsX (x := ("turned" : Str)) (qual := ("turned" : Str)) (st := st35) (ps := P35) F (fun _ _ _ _ _ _ us hl => match us, hl with | [_, _], _ => rfl), .nil, .nil, ok35⟩
theorem df36 {K : Frg} (c : Sz K) : DefAt K T Fs (· = 36) (Loc.at_ (.glo ("_law_jug" : Str)) K) [] := by
  obtain ⟨fd, F⟩ := c.def_ 36 (d := dA36) rfl
  exact ⟨_, _, st36, fd, P36, N36, f36, [], [], fun i h => by subst h; rfl, FunZ.of (x := ("_law_jug" : Str)) (qual := ("_law_jug" : Str)) (st := st36) F, FunD.bindsX (x := ("_law_jug" : Str)) (qual := ("_law_jug" : Str)) (st := st36) (ps := P36) F (fun _ _ _ _ _ _ us hl => match us, hl with | [_, _], _ => rfl), .nil, .nil, ok36⟩
theorem df37 {K : Frg} (c : Sz K) : DefAt K T Fs (· = 37) (Loc.at_ (.glo ("_law_pour" : Str)) K) [] := by
  obtain ⟨fd, F⟩ := c.def_ 37 (d := dA37) rfl
  exact ⟨_, _, st37, fd, P37, N37, f37, [], [], fun i h => by subst h; rfl, FunZ.of (x := ("_law_pour" : Str)) (qual := ("_law_pour" : Str)) (st := st37) F, FunD.bindsX (x := ("_law_pour" : Str)) (qual := ("_law_pour" : Str)) (st := st37) (ps := P37) F (fun _ _ _ _ _ _ us hl => match us, hl with | [_, _], _ => rfl), .nil, .nil, ok37⟩
theorem df38 {K : Frg} (c : Sz K) : DefAt K T Fs (· = 38) (Loc.at_ (.glo ("_law_of" : Str)) K) [] := by
  obtain ⟨fd, F⟩ := c.def_ 38 (d := dA38) rfl
  exact ⟨_, _, st38, fd, P38, N38, f38, [], [], fun i h => by subst h; rfl, FunZ.of (x := ("_law_of" : Str)) (qual := ("_law_of" : Str)) (st := st38) F, FunD.bindsX (x := ("_law_of" : Str)) (qual := ("_law_of" : Str)) (st := st38) (ps := P38) F (fun _ _ _ _ _ _ us hl => match us, hl with | [_, _], _ => rfl), .nil, .nil, ok38⟩
theorem df39 {K : Frg} (c : Sz K) : DefAt K T Fs (· = 39) (Loc.at_ (.glo ("_law_times" : Str)) K) [] := by
  obtain ⟨fd, F⟩ := c.def_ 39 (d := dA39) rfl
  exact ⟨_, _, st39, fd, P39, N39, f39, [], [], fun i h => by subst h; rfl, FunZ.of (x := ("_law_times" : Str)) (qual := ("_law_times" : Str)) (st := st39) F, FunD.bindsX (x := ("_law_times" : Str)) (qual := ("_law_times" : Str)) (st := st39) (ps := P39) F (fun _ _ _ _ _ _ us hl => match us, hl with | [_, _, _, _], _ => rfl), .nil, .nil, ok39⟩
theorem df40 {K : Frg} (c : Sz K) : DefAt K T Fs (· = 40) (Loc.at_ (.glo ("_law_drawn" : Str)) K) [] := by
  obtain ⟨fd, F⟩ := c.def_ 40 (d := dA40) rfl
  exact ⟨_, _, st40, fd, P40, N40, f40, [], [], fun i h => by subst h; rfl, FunZ.of (x := ("_law_drawn" : Str)) (qual := ("_law_drawn" : Str)) (st := st40) F, FunD.bindsX (x := ("_law_drawn" : Str)) (qual := ("_law_drawn" : Str)) (st := st40) (ps := P40) F (fun _ _ _ _ _ _ us hl => match us, hl with | [_, _], _ => rfl), .nil, .nil, ok40⟩
theorem df41 {K : Frg} (c : Sz K) : DefAt K T Fs (· = 41) (Loc.at_ (.glo ("_law_pair" : Str)) K) [] := by
  obtain ⟨fd, F⟩ := c.def_ 41 (d := dA41) rfl
  exact ⟨_, _, st41, fd, P41, N41, f41, [], [], fun i h => by subst h; rfl, FunZ.of (x := ("_law_pair" : Str)) (qual := ("_law_pair" : Str)) (st := st41) F, FunD.bindsX (x := ("_law_pair" : Str)) (qual := ("_law_pair" : Str)) (st := st41) (ps := P41) F (fun _ _ _ _ _ _ us hl => match us, hl with | [_], _ => rfl), .nil, .nil, ok41⟩
theorem df42 {K : Frg} (c : Sz K) : DefAt K T Fs (· = 42) (Loc.at_ (.glo ("_law_squares_to" : Str)) K) [] := by
  obtain ⟨fd, F⟩ := c.def_ 42 (d := dA42) rfl
  exact ⟨_, _, st42, fd, P42, N42, f42, [], [], fun i h => by subst h; rfl, FunZ.of (x := ("_law_squares_to" : Str)) (qual := ("_law_squares_to" : Str)) (st := st42) F, FunD.bindsX (x := ("_law_squares_to" : Str)) (qual := ("_law_squares_to" : Str)) (st := st42) (ps := P42) F (fun _ _ _ _ _ _ us hl => match us, hl with | [_, _, _], _ => rfl), .nil, .nil, ok42⟩
theorem df43 {K : Frg} (c : Sz K) : DefAt K T Fs (· = 43) (Loc.at_ (.glo ("_law_do_turn" : Str)) K) [] := by
  obtain ⟨fd, F⟩ := c.def_ 43 (d := dA43) rfl
  exact ⟨_, _, st43, fd, P43, N43, f43, [], [], fun i h => by subst h; rfl, FunZ.of (x := ("_law_do_turn" : Str)) (qual := ("_law_do_turn" : Str)) (st := st43) F, FunD.bindsX (x := ("_law_do_turn" : Str)) (qual := ("_law_do_turn" : Str)) (st := st43) (ps := P43) F (fun _ _ _ _ _ _ us hl => match us, hl with | [_, _, _], _ => rfl), .nil, .nil, ok43⟩
theorem df44 {K : Frg} (c : Sz K) : DefAt K T Fs (· = 44) (Loc.at_ (.glo ("_law_are_images" : Str)) K) [] := by
  obtain ⟨fd, F⟩ := c.def_ 44 (d := dA44) rfl
  exact ⟨_, _, st44, fd, P44, N44, f44, [], [], fun i h => by subst h; rfl, FunZ.of (x := ("_law_are_images" : Str)) (qual := ("_law_are_images" : Str)) (st := st44) F, FunD.bindsX (x := ("_law_are_images" : Str)) (qual := ("_law_are_images" : Str)) (st := st44) (ps := P44) F (fun _ _ _ _ _ _ us hl => match us, hl with | [_, _, _], _ => rfl), .nil, .nil, ok44⟩
theorem df45 {K : Frg} (c : Sz K) : DefAt K T Fs (· = 45) (Loc.at_ (.glo ("_law_four" : Str)) K) [] := by
  obtain ⟨fd, F⟩ := c.def_ 45 (d := dA45) rfl
  exact ⟨_, _, st45, fd, P45, N45, f45, [], [], fun i h => by subst h; rfl, FunZ.of (x := ("_law_four" : Str)) (qual := ("_law_four" : Str)) (st := st45) F, FunD.bindsX (x := ("_law_four" : Str)) (qual := ("_law_four" : Str)) (st := st45) (ps := P45) F (fun _ _ _ _ _ _ us hl => match us, hl with | [_, _], _ => rfl), .nil, .nil, ok45⟩
theorem df46 {K : Frg} (c : Sz K) : DefAt K T Fs (· = 46) (Loc.at_ (.glo ("_law_near" : Str)) K) [] := by
  obtain ⟨fd, F⟩ := c.def_ 46 (d := dA46) rfl
  exact ⟨_, _, st46, fd, P46, N46, f46, [], [], fun i h => by subst h; rfl, FunZ.of (x := ("_law_near" : Str)) (qual := ("_law_near" : Str)) (st := st46) F, FunD.bindsX (x := ("_law_near" : Str)) (qual := ("_law_near" : Str)) (st := st46) (ps := P46) F (fun _ _ _ _ _ _ us hl => match us, hl with | [_, _, _, _, _], _ => rfl), .nil, .nil, ok46⟩
theorem df47 {K : Frg} (c : Sz K) : DefAt K T Fs (· = 47) (Loc.at_ (.glo ("_law_right" : Str)) K) [] := by
  obtain ⟨fd, F⟩ := c.def_ 47 (d := dA47) rfl
  exact ⟨_, _, st47, fd, P47, N47, f47, [], [], fun i h => by subst h; rfl, FunZ.of (x := ("_law_right" : Str)) (qual := ("_law_right" : Str)) (st := st47) F, FunD.bindsX (x := ("_law_right" : Str)) (qual := ("_law_right" : Str)) (st := st47) (ps := P47) F (fun _ _ _ _ _ _ us hl => match us, hl with | [_], _ => rfl), .nil, .nil, ok47⟩
theorem df48 {K : Frg} (c : Sz K) : DefAt K T Fs (· = 48) (Loc.at_ (.glo ("law" : Str)) K) [] := by
  obtain ⟨fd, F⟩ := c.def_ 48 (d := dA48) rfl
  exact ⟨_, _, st48, fd, P48, N48, f48, [], [], fun i h => by subst h; rfl, FunZ.of (x := ("law" : Str)) (qual := ("law" : Str)) (st := st48) F, FunD.bindsX (x := ("law" : Str)) (qual := ("law" : Str)) (st := st48) (ps := P48) F (fun _ _ _ _ _ _ us hl => match us, hl with | [_], _ => rfl), .nil, .nil, ok48⟩
theorem df49 {K : Frg} (c : Sz K) : DefAt K T Fs (· = 49) (Loc.at_ (.met ("Terms" : Str) ("__init__" : Str)) K) [] := by
  obtain ⟨fd, F⟩ := c.def_ 49 (d := dA49) rfl
  exact ⟨_, _, st49, fd, P49, N49, f49, [], [], fun i h => by subst h; rfl, FunZ.of (x := ("__init__" : Str)) (qual := ("Terms.__init__" : Str)) (st := st49) F, FunD.bindsX (x := ("__init__" : Str)) (qual := ("Terms.__init__" : Str)) (st := st49) (ps := P49) F (fun _ _ _ _ _ _ us hl => match us, hl with | [_, _, _], _ => rfl), .nil, .nil, ok49⟩
theorem df50 {K : Frg} (c : Sz K) : DefAt K T Fs (· = 50) (Loc.at_ (.met ("Ratio" : Str) ("__init__" : Str)) K) [] := by
  obtain ⟨fd, F⟩ := c.def_ 50 (d := dA50) rfl
  obtain ⟨ds, hv, hb⟩ := FunD.binds1 (dvs := [(.int 1)]) (ps := P50) F 3 1 (fun z => nomatch z) rfl (fun _ _ _ _ _ _ _ us its hu hi => match us, its, hu, hi with | [_, _, _], [_], _, _ => ⟨_, rfl, rfl⟩)
  cases hv
  exact ⟨_, _, st50, fd, P50, N50, f50, [], [], fun i h => by subst h; rfl, .of F, hb, .nil, .nil, ok50⟩
theorem df51 {K : Frg} (c : Sz K) : DefAt K T Fs (· = 51) (Loc.at_ (.pro ("Ratio" : Str) ("top" : Str)) K) [] := by
  obtain ⟨fd, F⟩ := c.def_ 51 (d := dA51) rfl
  exact ⟨_, _, st51, fd, P51, N51, f51, [], [], fun i h => by subst h; rfl, FunZ.of (x := ("top" : Str)) (qual := ("Ratio.top" : Str)) (st := st51) F, FunD.bindsX (x := ("top" : Str)) (qual := ("Ratio.top" : Str)) (st := st51) (ps := P51) F (fun _ _ _ _ _ _ us hl => match us, hl with | [_], _ => rfl), .nil, .nil, ok51⟩
theorem df52 {K : Frg} (c : Sz K) : DefAt K T Fs (· = 52) (Loc.at_ (.pro ("Ratio" : Str) ("bottom" : Str)) K) [] := by
  obtain ⟨fd, F⟩ := c.def_ 52 (d := dA52) rfl
  exact ⟨_, _, st52, fd, P52, N52, f52, [], [], fun i h => by subst h; rfl, FunZ.of (x := ("bottom" : Str)) (qual := ("Ratio.bottom" : Str)) (st := st52) F, FunD.bindsX (x := ("bottom" : Str)) (qual := ("Ratio.bottom" : Str)) (st := st52) (ps := P52) F (fun _ _ _ _ _ _ us hl => match us, hl with | [_], _ => rfl), .nil, .nil, ok52⟩
theorem df53 {K : Frg} (c : Sz K) : DefAt K T Fs (· = 53) (Loc.at_ (.pro ("Ratio" : Str) ("sign" : Str)) K) [] := by
  obtain ⟨fd, F⟩ := c.def_ 53 (d := dA53) rfl
  exact ⟨_, _, st53, fd, P53, N53, f53, [], [], fun i h => by subst h; rfl, FunZ.of (x := ("sign" : Str)) (qual := ("Ratio.sign" : Str)) (st := st53) F, FunD.bindsX (x := ("sign" : Str)) (qual := ("Ratio.sign" : Str)) (st := st53) (ps := P53) F (fun _ _ _ _ _ _ us hl => match us, hl with | [_], _ => rfl), .nil, .nil, ok53⟩
theorem df54 {K : Frg} (c : Sz K) : DefAt K T Fs (· = 54) (Loc.at_ (.met ("Ratio" : Str) ("__add__" : Str)) K) [] := by
  obtain ⟨fd, F⟩ := c.def_ 54 (d := dA54) rfl
  exact ⟨_, _, st54, fd, P54, N54, f54, [], [], fun i h => by subst h; rfl, FunZ.of (x := ("__add__" : Str)) (qual := ("Ratio.__add__" : Str)) (st := st54) F, FunD.bindsX (x := ("__add__" : Str)) (qual := ("Ratio.__add__" : Str)) (st := st54) (ps := P54) F (fun _ _ _ _ _ _ us hl => match us, hl with | [_, _], _ => rfl), .nil, .nil, ok54⟩
theorem df55 {K : Frg} (c : Sz K) : DefAt K T Fs (· = 55) (Loc.at_ (.met ("Ratio" : Str) ("__sub__" : Str)) K) [] := by
  obtain ⟨fd, F⟩ := c.def_ 55 (d := dA55) rfl
  exact ⟨_, _, st55, fd, P55, N55, f55, [], [], fun i h => by subst h; rfl, FunZ.of (x := ("__sub__" : Str)) (qual := ("Ratio.__sub__" : Str)) (st := st55) F, FunD.bindsX (x := ("__sub__" : Str)) (qual := ("Ratio.__sub__" : Str)) (st := st55) (ps := P55) F (fun _ _ _ _ _ _ us hl => match us, hl with | [_, _], _ => rfl), .nil, .nil, ok55⟩
theorem df56 {K : Frg} (c : Sz K) : DefAt K T Fs (· = 56) (Loc.at_ (.met ("Ratio" : Str) ("__mul__" : Str)) K) [] := by
  obtain ⟨fd, F⟩ := c.def_ 56 (d := dA56) rfl
  exact ⟨_, _, st56, fd, P56, N56, f56, [], [], fun i h => by subst h; rfl, FunZ.of (x := ("__mul__" : Str)) (qual := ("Ratio.__mul__" : Str)) (st := st56) F, FunD.bindsX (x := ("__mul__" : Str)) (qual := ("Ratio.__mul__" : Str)) (st := st56) (ps := P56) F (fun _ _ _ _ _ _ us hl => match us, hl with | [_, _], _ => rfl), .nil, .nil, ok56⟩
theorem df57 {K : Frg} (c : Sz K) : DefAt K T Fs (· = 57) (Loc.at_ (.met ("Ratio" : Str) ("__neg__" : Str)) K) [] := by
  obtain ⟨fd, F⟩ := c.def_ 57 (d := dA57) rfl
  exact ⟨_, _, st57, fd, P57, N57, f57, [], [], fun i h => by subst h; rfl, FunZ.of (x := ("__neg__" : Str)) (qual := ("Ratio.__neg__" : Str)) (st := st57) F, FunD.bindsX (x := ("__neg__" : Str)) (qual := ("Ratio.__neg__" : Str)) (st := st57) (ps := P57) F (fun _ _ _ _ _ _ us hl => match us, hl with | [_], _ => rfl), .nil, .nil, ok57⟩
theorem df58 {K : Frg} (c : Sz K) : DefAt K T Fs (· = 58) (Loc.at_ (.met ("Ratio" : Str) ("__eq__" : Str)) K) [] := by
  obtain ⟨fd, F⟩ := c.def_ 58 (d := dA58) rfl
  exact ⟨_, _, st58, fd, P58, N58, f58, [], [], fun i h => by subst h; rfl, FunZ.of (x := ("__eq__" : Str)) (qual := ("Ratio.__eq__" : Str)) (st := st58) F, FunD.bindsX (x := ("__eq__" : Str)) (qual := ("Ratio.__eq__" : Str)) (st := st58) (ps := P58) F (fun _ _ _ _ _ _ us hl => match us, hl with | [_, _], _ => rfl), .nil, .nil, ok58⟩
theorem df59 {K : Frg} (c : Sz K) : DefAt K T Fs (· = 59) (Loc.at_ (.met ("Algebra" : Str) ("__init__" : Str)) K) [] := by
  obtain ⟨fd, F⟩ := c.def_ 59 (d := dA59) rfl
  exact ⟨_, _, st59, fd, P59, N59, f59, [], [], fun i h => by subst h; rfl, FunZ.of (x := ("__init__" : Str)) (qual := ("Algebra.__init__" : Str)) (st := st59) F, FunD.bindsX (x := ("__init__" : Str)) (qual := ("Algebra.__init__" : Str)) (st := st59) (ps := P59) F (fun _ _ _ _ _ _ us hl => match us, hl with | [_, _, _], _ => rfl), .nil, .nil, ok59⟩
theorem df60 {K : Frg} (c : Sz K) : DefAt K T Fs (· = 60) (Loc.at_ (.pro ("Algebra" : Str) ("a" : Str)) K) [] := by
  obtain ⟨fd, F⟩ := c.def_ 60 (d := dA60) rfl
  exact ⟨_, _, st60, fd, P60, N60, f60, [], [], fun i h => by subst h; rfl, FunZ.of (x := ("a" : Str)) (qual := ("Algebra.a" : Str)) (st := st60) F, FunD.bindsX (x := ("a" : Str)) (qual := ("Algebra.a" : Str)) (st := st60) (ps := P60) F (fun _ _ _ _ _ _ us hl => match us, hl with | [_], _ => rfl), .nil, .nil, ok60⟩
theorem df61 {K : Frg} (c : Sz K) : DefAt K T Fs (· = 61) (Loc.at_ (.pro ("Algebra" : Str) ("b" : Str)) K) [] := by
  obtain ⟨fd, F⟩ := c.def_ 61 (d := dA61) rfl
  exact ⟨_, _, st61, fd, P61, N61, f61, [], [], fun i h => by subst h; rfl, FunZ.of (x := ("b" : Str)) (qual := ("Algebra.b" : Str)) (st := st61) F, FunD.bindsX (x := ("b" : Str)) (qual := ("Algebra.b" : Str)) (st := st61) (ps := P61) F (fun _ _ _ _ _ _ us hl => match us, hl with | [_], _ => rfl), .nil, .nil, ok61⟩
theorem df62 {K : Frg} (c : Sz K) : DefAt K T Fs (· = 62) (Loc.at_ (.met ("Algebra" : Str) ("basis" : Str)) K) [] := by
  obtain ⟨fd, F⟩ := c.def_ 62 (d := dA62) rfl
  exact ⟨_, _, st62, fd, P62, N62, f62, [], [], fun i h => by subst h; rfl, FunZ.of (x := ("basis" : Str)) (qual := ("Algebra.basis" : Str)) (st := st62) F, FunD.bindsX (x := ("basis" : Str)) (qual := ("Algebra.basis" : Str)) (st := st62) (ps := P62) F (fun _ _ _ _ _ _ us hl => match us, hl with | [_], _ => rfl), .nil, .nil, ok62⟩
theorem df63 {K : Frg} (c : Sz K) : DefAt K T Fs (· = 63) (Loc.at_ (.met ("Algebra" : Str) ("__eq__" : Str)) K) [] := by
  obtain ⟨fd, F⟩ := c.def_ 63 (d := dA63) rfl
  exact ⟨_, _, st63, fd, P63, N63, f63, [], [], fun i h => by subst h; rfl, FunZ.of (x := ("__eq__" : Str)) (qual := ("Algebra.__eq__" : Str)) (st := st63) F, FunD.bindsX (x := ("__eq__" : Str)) (qual := ("Algebra.__eq__" : Str)) (st := st63) (ps := P63) F (fun _ _ _ _ _ _ us hl => match us, hl with | [_, _], _ => rfl), .nil, .nil, ok63⟩
theorem df64 {K : Frg} (c : Sz K) : DefAt K T Fs (· = 64) (Loc.at_ (.met ("Parts" : Str) ("__init__" : Str)) K) [] := by
  obtain ⟨fd, F⟩ := c.def_ 64 (d := dA64) rfl
  exact ⟨_, _, st64, fd, P64, N64, f64, [], [], fun i h => by subst h; rfl, FunZ.of (x := ("__init__" : Str)) (qual := ("Parts.__init__" : Str)) (st := st64) F, FunD.bindsX (x := ("__init__" : Str)) (qual := ("Parts.__init__" : Str)) (st := st64) (ps := P64) F (fun _ _ _ _ _ _ us hl => match us, hl with | [_, _, _], _ => rfl), .nil, .nil, ok64⟩
theorem df65 {K : Frg} (c : Sz K) : DefAt K T Fs (· = 65) (Loc.at_ (.met ("Four" : Str) ("__init__" : Str)) K) [] := by
  obtain ⟨fd, F⟩ := c.def_ 65 (d := dA65) rfl
  obtain ⟨ds, hv, hb⟩ := FunD.binds1 (dvs := [(.int 1)]) (ps := P65) F 4 1 (fun z => nomatch z) rfl (fun _ _ _ _ _ _ _ us its hu hi => match us, its, hu, hi with | [_, _, _, _], [_], _, _ => ⟨_, rfl, rfl⟩)
  cases hv
  exact ⟨_, _, st65, fd, P65, N65, f65, [], [], fun i h => by subst h; rfl, .of F, hb, .nil, .nil, ok65⟩
theorem df66 {K : Frg} (c : Sz K) : DefAt K T Fs (· = 66) (Loc.at_ (.pro ("Four" : Str) ("algebra" : Str)) K) [] := by
  obtain ⟨fd, F⟩ := c.def_ 66 (d := dA66) rfl
  exact ⟨_, _, st66, fd, P66, N66, f66, [], [], fun i h => by subst h; rfl, FunZ.of (x := ("algebra" : Str)) (qual := ("Four.algebra" : Str)) (st := st66) F, FunD.bindsX (x := ("algebra" : Str)) (qual := ("Four.algebra" : Str)) (st := st66) (ps := P66) F (fun _ _ _ _ _ _ us hl => match us, hl with | [_], _ => rfl), .nil, .nil, ok66⟩
theorem df67 {K : Frg} (c : Sz K) : DefAt K T Fs (· = 67) (Loc.at_ (.pro ("Four" : Str) ("entries" : Str)) K) [] := by
  obtain ⟨fd, F⟩ := c.def_ 67 (d := dA67) rfl
  exact ⟨_, _, st67, fd, P67, N67, f67, [], [], fun i h => by subst h; rfl, FunZ.of (x := ("entries" : Str)) (qual := ("Four.entries" : Str)) (st := st67) F, FunD.bindsX (x := ("entries" : Str)) (qual := ("Four.entries" : Str)) (st := st67) (ps := P67) F (fun _ _ _ _ _ _ us hl => match us, hl with | [_], _ => rfl), .nil, .nil, ok67⟩
theorem df68 {K : Frg} (c : Sz K) : DefAt K T Fs (· = 68) (Loc.at_ (.pro ("Four" : Str) ("bottom" : Str)) K) [] := by
  obtain ⟨fd, F⟩ := c.def_ 68 (d := dA68) rfl
  exact ⟨_, _, st68, fd, P68, N68, f68, [], [], fun i h => by subst h; rfl, FunZ.of (x := ("bottom" : Str)) (qual := ("Four.bottom" : Str)) (st := st68) F, FunD.bindsX (x := ("bottom" : Str)) (qual := ("Four.bottom" : Str)) (st := st68) (ps := P68) F (fun _ _ _ _ _ _ us hl => match us, hl with | [_], _ => rfl), .nil, .nil, ok68⟩
theorem df69 {K : Frg} (c : Sz K) : DefAt K T Fs (· = 69) (Loc.at_ (.pro ("Four" : Str) ("norm" : Str)) K) [] := by
  obtain ⟨fd, F⟩ := c.def_ 69 (d := dA69) rfl
  exact ⟨_, _, st69, fd, P69, N69, f69, [], [], fun i h => by subst h; rfl, FunZ.of (x := ("norm" : Str)) (qual := ("Four.norm" : Str)) (st := st69) F, FunD.bindsX (x := ("norm" : Str)) (qual := ("Four.norm" : Str)) (st := st69) (ps := P69) F (fun _ _ _ _ _ _ us hl => match us, hl with | [_], _ => rfl), .nil, .nil, ok69⟩
theorem df70 {K : Frg} (c : Sz K) : DefAt K T Fs (· = 70) (Loc.at_ (.met ("Four" : Str) ("mate" : Str)) K) [] := by
  obtain ⟨fd, F⟩ := c.def_ 70 (d := dA70) rfl
  exact ⟨_, _, st70, fd, P70, N70, f70, [], [], fun i h => by subst h; rfl, FunZ.of (x := ("mate" : Str)) (qual := ("Four.mate" : Str)) (st := st70) F, FunD.bindsX (x := ("mate" : Str)) (qual := ("Four.mate" : Str)) (st := st70) (ps := P70) F (fun _ _ _ _ _ _ us hl => match us, hl with | [_], _ => rfl), .nil, .nil, ok70⟩
theorem df71 {K : Frg} (c : Sz K) : DefAt K T Fs (· = 71) (Loc.at_ (.met ("Four" : Str) ("inverse" : Str)) K) [] := by
  obtain ⟨fd, F⟩ := c.def_ 71 (d := dA71) rfl
  exact ⟨_, _, st71, fd, P71, N71, f71, [], [], fun i h => by subst h; rfl, FunZ.of (x := ("inverse" : Str)) (qual := ("Four.inverse" : Str)) (st := st71) F, FunD.bindsX (x := ("inverse" : Str)) (qual := ("Four.inverse" : Str)) (st := st71) (ps := P71) F (fun _ _ _ _ _ _ us hl => match us, hl with | [_], _ => rfl), .nil, .nil, ok71⟩
theorem df72 {K : Frg} (c : Sz K) : DefAt K T Fs (· = 72) (Loc.at_ (.met ("Four" : Str) ("scaled" : Str)) K) [] := by
  obtain ⟨fd, F⟩ := c.def_ 72 (d := dA72) rfl
  exact ⟨_, _, st72, fd, P72, N72, f72, [], [], fun i h => by subst h; rfl, FunZ.of (x := ("scaled" : Str)) (qual := ("Four.scaled" : Str)) (st := st72) F, FunD.bindsX (x := ("scaled" : Str)) (qual := ("Four.scaled" : Str)) (st := st72) (ps := P72) F (fun _ _ _ _ _ _ us hl => match us, hl with | [_, _], _ => rfl), .nil, .nil, ok72⟩
theorem df73 {K : Frg} (c : Sz K) : DefAt K T Fs (· = 73) (Loc.at_ (.met ("Four" : Str) ("__add__" : Str)) K) [] := by
  obtain ⟨fd, F⟩ := c.def_ 73 (d := dA73) rfl
  exact ⟨_, _, st73, fd, P73, N73, f73, [], [], fun i h => by subst h; rfl, FunZ.of (x := ("__add__" : Str)) (qual := ("Four.__add__" : Str)) (st := st73) F, FunD.bindsX (x := ("__add__" : Str)) (qual := ("Four.__add__" : Str)) (st := st73) (ps := P73) F (fun _ _ _ _ _ _ us hl => match us, hl with | [_, _], _ => rfl), .nil, .nil, ok73⟩
theorem df74 {K : Frg} (c : Sz K) : DefAt K T Fs (· = 74) (Loc.at_ (.met ("Four" : Str) ("__sub__" : Str)) K) [] := by
  obtain ⟨fd, F⟩ := c.def_ 74 (d := dA74) rfl
  exact ⟨_, _, st74, fd, P74, N74, f74, [], [], fun i h => by subst h; rfl, FunZ.of (x := ("__sub__" : Str)) (qual := ("Four.__sub__" : Str)) (st := st74) F, FunD.bindsX (x := ("__sub__" : Str)) (qual := ("Four.__sub__" : Str)) (st := st74) (ps := P74) F (fun _ _ _ _ _ _ us hl => match us, hl with | [_, _], _ => rfl), .nil, .nil, ok74⟩
theorem df75 {K : Frg} (c : Sz K) : DefAt K T Fs (· = 75) (Loc.at_ (.met ("Four" : Str) ("__mul__" : Str)) K) [] := by
  obtain ⟨fd, F⟩ := c.def_ 75 (d := dA75) rfl
  exact ⟨_, _, st75, fd, P75, N75, f75, [], [], fun i h => by subst h; rfl, FunZ.of (x := ("__mul__" : Str)) (qual := ("Four.__mul__" : Str)) (st := st75) F, FunD.bindsX (x := ("__mul__" : Str)) (qual := ("Four.__mul__" : Str)) (st := st75) (ps := P75) F (fun _ _ _ _ _ _ us hl => match us, hl with | [_, _], _ => rfl), .nil, .nil, ok75⟩
theorem df76 {K : Frg} (c : Sz K) : DefAt K T Fs (· = 76) (Loc.at_ (.met ("Four" : Str) ("__neg__" : Str)) K) [] := by
  obtain ⟨fd, F⟩ := c.def_ 76 (d := dA76) rfl
  exact ⟨_, _, st76, fd, P76, N76, f76, [], [], fun i h => by subst h; rfl, FunZ.of (x := ("__neg__" : Str)) (qual := ("Four.__neg__" : Str)) (st := st76) F, FunD.bindsX (x := ("__neg__" : Str)) (qual := ("Four.__neg__" : Str)) (st := st76) (ps := P76) F (fun _ _ _ _ _ _ us hl => match us, hl with | [_], _ => rfl), .nil, .nil, ok76⟩
theorem df77 {K : Frg} (c : Sz K) : DefAt K T Fs (· = 77) (Loc.at_ (.met ("Four" : Str) ("__eq__" : Str)) K) [] := by
  obtain ⟨fd, F⟩ := c.def_ 77 (d := dA77) rfl
  exact ⟨_, _, st77, fd, P77, N77, f77, [], [], fun i h => by subst h; rfl, FunZ.of (x := ("__eq__" : Str)) (qual := ("Four.__eq__" : Str)) (st := st77) F, FunD.bindsX (x := ("__eq__" : Str)) (qual := ("Four.__eq__" : Str)) (st := st77) (ps := P77) F (fun _ _ _ _ _ _ us hl => match us, hl with | [_, _], _ => rfl), .nil, .nil, ok77⟩
theorem dd0 {K : Frg} (c : Sz K) : DefAt K T Fs (· = 23) (Loc.at_ (.glo ("four_made" : Str)) K) [(.int 1)] := by
  obtain ⟨fd, F⟩ := c.def_ 23 (d := dA23) rfl
  obtain ⟨ds, hv, hb⟩ := FunD.binds1 (dvs := [(.int 1)]) (ps := P23) F 2 0 (fun z => nomatch z) rfl (fun _ _ _ _ _ _ _ us its hu hi => match us, its, hu, hi with | [_, _], [_], _, _ => ⟨_, rfl, rfl⟩)
  exact ⟨_, _, st23, fd, P23, N23, f23, _, _, fun i h => by subst h; rfl, .of F, hb, hv, (.cons (.int _) .nil), ok23⟩
theorem mm0 {K : Frg} (c : Sz K) : DefAt K T Fs (fun g => (72057947860265327, mInit, g) ∈ T.mts) (Loc.at_ (.met ("Ratio" : Str) ("__init__" : Str)) K) [] := by
  obtain ⟨x, qual, st, fd, ps, N, d, ds, dvs, h0, h⟩ := df50 c
  exact ⟨x, qual, st, fd, ps, N, d, ds, dvs, fun i hi => h0 i (by simpa [T, mts, mInit] using hi), h⟩
theorem mm1 {K : Frg} (c : Sz K) : DefAt K T Fs (fun g => (72057956517178739, mInit, g) ∈ T.mts) (Loc.at_ (.met ("Terms" : Str) ("__init__" : Str)) K) [] := by
  obtain ⟨x, qual, st, fd, ps, N, d, ds, dvs, h0, h⟩ := df49 c
  exact ⟨x, qual, st, fd, ps, N, d, ds, dvs, fun i hi => h0 i (by simpa [T, mts, mInit] using hi), h⟩
theorem mm2 {K : Frg} (c : Sz K) : DefAt K T Fs (fun g => (72057939270202483, mInit, g) ∈ T.mts) (Loc.at_ (.met ("Parts" : Str) ("__init__" : Str)) K) [] := by
  obtain ⟨x, qual, st, fd, ps, N, d, ds, dvs, h0, h⟩ := df64 c
  exact ⟨x, qual, st, fd, ps, N, d, ds, dvs, fun i hi => h0 i (by simpa [T, mts, mInit] using hi), h⟩
theorem mm3 {K : Frg} (c : Sz K) : DefAt K T Fs (fun g => (281476158420338, mInit, g) ∈ T.mts) (Loc.at_ (.met ("Four" : Str) ("__init__" : Str)) K) [(.int 1)] := by
  obtain ⟨fd, F⟩ := c.def_ 65 (d := dA65) rfl
  obtain ⟨ds, hv, hb⟩ := FunD.binds1 (dvs := [(.int 1)]) (ps := P65) F 3 0 (fun z => nomatch z) rfl (fun _ _ _ _ _ _ _ us its hu hi => match us, its, hu, hi with | [_, _, _], [_], _, _ => ⟨_, rfl, rfl⟩)
  exact ⟨_, _, st65, fd, P65, N65, f65, _, _, fun i hi => (show i = 65 by simpa [T, mts, mInit] using hi) ▸ rfl, .of F, hb, hv, (.cons (.int _) .nil), ok65⟩
theorem mm4 {K : Frg} (c : Sz K) : DefAt K T Fs (fun g => (281476158420338, mInit, g) ∈ T.mts) (Loc.at_ (.met ("Four" : Str) ("__init__" : Str)) K) [] := by
  obtain ⟨x, qual, st, fd, ps, N, d, ds, dvs, h0, h⟩ := df65 c
  exact ⟨x, qual, st, fd, ps, N, d, ds, dvs, fun i hi => h0 i (by simpa [T, mts, mInit] using hi), h⟩
theorem mm5 {K : Frg} (c : Sz K) : DefAt K T Fs (fun g => (72057947860265327, mInit, g) ∈ T.mts) (Loc.at_ (.met ("Ratio" : Str) ("__init__" : Str)) K) [(.int 1)] := by
  obtain ⟨fd, F⟩ := c.def_ 50 (d := dA50) rfl
  obtain ⟨ds, hv, hb⟩ := FunD.binds1 (dvs := [(.int 1)]) (ps := P50) F 2 0 (fun z => nomatch z) rfl (fun _ _ _ _ _ _ _ us its hu hi => match us, its, hu, hi with | [_, _], [_], _, _ => ⟨_, rfl, rfl⟩)
  exact ⟨_, _, st50, fd, P50, N50, f50, _, _, fun i hi => (show i = 50 by simpa [T, mts, mInit] using hi) ▸ rfl, .of F, hb, hv, (.cons (.int _) .nil), ok50⟩
theorem mm6 {K : Frg} (c : Sz K) : DefAt K T Fs (fun g => (4722384897934469788257, mInit, g) ∈ T.mts) (Loc.at_ (.met ("Algebra" : Str) ("__init__" : Str)) K) [] := by
  obtain ⟨x, qual, st, fd, ps, N, d, ds, dvs, h0, h⟩ := df59 c
  exact ⟨x, qual, st, fd, ps, N, d, ds, dvs, fun i hi => h0 i (by simpa [T, mts, mInit] using hi), h⟩
theorem nm_Algebra : nmN 4722384897934469788257 = ("Algebra" : Str) := by decide +kernel
theorem nm_Four : nmN 281476158420338 = ("Four" : Str) := by decide +kernel
theorem nm_Parts : nmN 72057939270202483 = ("Parts" : Str) := by decide +kernel
theorem nm_Ratio : nmN 72057947860265327 = ("Ratio" : Str) := by decide +kernel
theorem nm_Terms : nmN 72057956517178739 = ("Terms" : Str) := by decide +kernel
theorem nm___add__ : nmN 4722393327864333492063 = ("__add__" : Str) := by decide +kernel
theorem nm___eq__ : nmN 18446848937038012255 = ("__eq__" : Str) := by decide +kernel
theorem nm___init__ : nmN 1208932691942108501925727 = ("__init__" : Str) := by decide +kernel
theorem nm___mul__ : nmN 4722393327916158836575 = ("__mul__" : Str) := by decide +kernel
theorem nm___neg__ : nmN 4722393327920185040735 = ("__neg__" : Str) := by decide +kernel
theorem nm___sub__ : nmN 4722393327941927984991 = ("__sub__" : Str) := by decide +kernel
theorem nm_a : nmN 16777313 = ("a" : Str) := by decide +kernel
theorem nm_algebra : nmN 4722393905133724529249 = ("algebra" : Str) := by decide +kernel
theorem nm_b : nmN 16777314 = ("b" : Str) := by decide +kernel
theorem nm_basis : nmN 72058016579676531 = ("basis" : Str) := by decide +kernel
theorem nm_bottom : nmN 18446852304544231277 = ("bottom" : Str) := by decide +kernel
theorem nm_entries : nmN 4722395033288707761523 = ("entries" : Str) := by decide +kernel
theorem nm_inverse : nmN 4722396159196987028325 = ("inverse" : Str) := by decide +kernel
theorem nm_mate : nmN 281476811813989 = ("mate" : Str) := by decide +kernel
theorem nm_norm : nmN 281476829508205 = ("norm" : Str) := by decide +kernel
theorem nm_own_a : nmN 72058072783019873 = ("own_a" : Str) := by decide +kernel
theorem nm_own_algebra : nmN 20282544358415273851079157248609 = ("own_algebra" : Str) := by decide +kernel
theorem nm_own_b : nmN 72058072783019874 = ("own_b" : Str) := by decide +kernel
theorem nm_own_bottom : nmN 79228688900059664593393577837 = ("own_bottom" : Str) := by decide +kernel
theorem nm_own_discriminant : nmN 22300893362960104240665737060543834854878836 = ("own_discriminant" : Str) := by decide +kernel
theorem nm_own_entries : nmN 20282544358415274979234140480883 = ("own_entries" : Str) := by decide +kernel
theorem nm_own_places : nmN 79228688900059679973351581043 = ("own_places" : Str) := by decide +kernel
theorem nm_own_top : nmN 4722397857907991670640 = ("own_top" : Str) := by decide +kernel
theorem nm_scaled : nmN 18446870944383001956 = ("scaled" : Str) := by decide +kernel
theorem nm_sign : nmN 281476912998254 = ("sign" : Str) := by decide +kernel
theorem nm_top : nmN 1099519258480 = ("top" : Str) := by decide +kernel
theorem cl_Algebra {K : Frg} (c : Sz K) : ClsA K 4722384897934469788257 (He.ga K ("Algebra" : Str)) ∧ PySem.W.makesIn K (He.ga K ("Algebra" : Str)) = true ∧ PySem.W.keepIn K (He.ga K ("Algebra" : Str) |> Value.ref) = true := clsZ_ok nm_Algebra (Zf.cl c.fact 0)
theorem cl_Four {K : Frg} (c : Sz K) : ClsA K 281476158420338 (He.ga K ("Four" : Str)) ∧ PySem.W.makesIn K (He.ga K ("Four" : Str)) = true ∧ PySem.W.keepIn K (He.ga K ("Four" : Str) |> Value.ref) = true := clsZ_ok nm_Four (Zf.cl c.fact 1)
theorem cl_Parts {K : Frg} (c : Sz K) : ClsA K 72057939270202483 (He.ga K ("Parts" : Str)) ∧ PySem.W.makesIn K (He.ga K ("Parts" : Str)) = true ∧ PySem.W.keepIn K (He.ga K ("Parts" : Str) |> Value.ref) = true := clsZ_ok nm_Parts (Zf.cl c.fact 2)
theorem cl_Ratio {K : Frg} (c : Sz K) : ClsA K 72057947860265327 (He.ga K ("Ratio" : Str)) ∧ PySem.W.makesIn K (He.ga K ("Ratio" : Str)) = true ∧ PySem.W.keepIn K (He.ga K ("Ratio" : Str) |> Value.ref) = true := clsZ_ok nm_Ratio (Zf.cl c.fact 3)
theorem cl_Terms {K : Frg} (c : Sz K) : ClsA K 72057956517178739 (He.ga K ("Terms" : Str)) ∧ PySem.W.makesIn K (He.ga K ("Terms" : Str)) = true ∧ PySem.W.keepIn K (He.ga K ("Terms" : Str) |> Value.ref) = true := clsZ_ok nm_Terms (Zf.cl c.fact 4)
theorem tab {K : Frg} {h : Heap} {mg : Str → Option Value} (X : K.In h) (G : h.Ns mainGlobals mg) (c : Sz K) : TabOk K mg T Fs where
  fn := fun i x h => match i, h with
    | 0, h => by cases h; exact ⟨_, glo_of X G (Zf.loc c.fact 0), df0 c⟩
    | 1, h => by cases h; exact ⟨_, glo_of X G (Zf.loc c.fact 1), df1 c⟩
    | 2, h => by cases h; exact ⟨_, glo_of X G (Zf.loc c.fact 2), df2 c⟩
    | 3, h => by cases h; exact ⟨_, glo_of X G (Zf.loc c.fact 3), df3 c⟩
    | 4, h => by cases h; exact ⟨_, glo_of X G (Zf.loc c.fact 4), df4 c⟩
    | 5, h => by cases h; exact ⟨_, glo_of X G (Zf.loc c.fact 5), df5 c⟩
    | 6, h => by cases h; exact ⟨_, glo_of X G (Zf.loc c.fact 6), df6 c⟩
    | 7, h => by cases h; exact ⟨_, glo_of X G (Zf.loc c.fact 7), df7 c⟩
    | 8, h => by cases h; exact ⟨_, glo_of X G (Zf.loc c.fact 8), df8 c⟩
    | 9, h => by cases h; exact ⟨_, glo_of X G (Zf.loc c.fact 9), df9 c⟩
    | 10, h => by cases h; exact ⟨_, glo_of X G (Zf.loc c.fact 10), df10 c⟩
    | 11, h => by cases h; exact ⟨_, glo_of X G (Zf.loc c.fact 11), df11 c⟩
    | 12, h => by cases h; exact ⟨_, glo_of X G (Zf.loc c.fact 12), df12 c⟩
    | 13, h => by cases h; exact ⟨_, glo_of X G (Zf.loc c.fact 13), df13 c⟩
    | 14, h => by cases h; exact ⟨_, glo_of X G (Zf.loc c.fact 14), df14 c⟩
    | 15, h => by cases h; exact ⟨_, glo_of X G (Zf.loc c.fact 15), df15 c⟩
    | 16, h => by cases h; exact ⟨_, glo_of X G (Zf.loc c.fact 16), df16 c⟩
    | 17, h => by cases h; exact ⟨_, glo_of X G (Zf.loc c.fact 17), df17 c⟩
    | 18, h => by cases h; exact ⟨_, glo_of X G (Zf.loc c.fact 18), df18 c⟩
    | 19, h => by cases h; exact ⟨_, glo_of X G (Zf.loc c.fact 19), df19 c⟩
    | 20, h => by cases h; exact ⟨_, glo_of X G (Zf.loc c.fact 20), df20 c⟩
    | 21, h => by cases h; exact ⟨_, glo_of X G (Zf.loc c.fact 21), df21 c⟩
    | 22, h => by cases h; exact ⟨_, glo_of X G (Zf.loc c.fact 22), df22 c⟩
    | 23, h => by cases h; exact ⟨_, glo_of X G (Zf.loc c.fact 23), df23 c⟩
    | 24, h => by cases h; exact ⟨_, glo_of X G (Zf.loc c.fact 24), df24 c⟩
    | 25, h => by cases h; exact ⟨_, glo_of X G (Zf.loc c.fact 25), df25 c⟩
    | 26, h => by cases h; exact ⟨_, glo_of X G (Zf.loc c.fact 26), df26 c⟩
    | 27, h => by cases h; exact ⟨_, glo_of X G (Zf.loc c.fact 27), df27 c⟩
    | 28, h => by cases h; exact ⟨_, glo_of X G (Zf.loc c.fact 28), df28 c⟩
    | 29, h => by cases h; exact ⟨_, glo_of X G (Zf.loc c.fact 29), df29 c⟩
    | 30, h => by cases h; exact ⟨_, glo_of X G (Zf.loc c.fact 30), df30 c⟩
    | 31, h => by cases h; exact ⟨_, glo_of X G (Zf.loc c.fact 31), df31 c⟩
    | 32, h => by cases h; exact ⟨_, glo_of X G (Zf.loc c.fact 32), df32 c⟩
    | 33, h => by cases h; exact ⟨_, glo_of X G (Zf.loc c.fact 33), df33 c⟩
    | 34, h => by cases h; exact ⟨_, glo_of X G (Zf.loc c.fact 34), df34 c⟩
    | 35, h => by cases h; exact ⟨_, glo_of X G (Zf.loc c.fact 35), df35 c⟩
    | 36, h => by cases h; exact ⟨_, glo_of X G (Zf.loc c.fact 36), df36 c⟩
    | 37, h => by cases h; exact ⟨_, glo_of X G (Zf.loc c.fact 37), df37 c⟩
    | 38, h => by cases h; exact ⟨_, glo_of X G (Zf.loc c.fact 38), df38 c⟩
    | 39, h => by cases h; exact ⟨_, glo_of X G (Zf.loc c.fact 39), df39 c⟩
    | 40, h => by cases h; exact ⟨_, glo_of X G (Zf.loc c.fact 40), df40 c⟩
    | 41, h => by cases h; exact ⟨_, glo_of X G (Zf.loc c.fact 41), df41 c⟩
    | 42, h => by cases h; exact ⟨_, glo_of X G (Zf.loc c.fact 42), df42 c⟩
    | 43, h => by cases h; exact ⟨_, glo_of X G (Zf.loc c.fact 43), df43 c⟩
    | 44, h => by cases h; exact ⟨_, glo_of X G (Zf.loc c.fact 44), df44 c⟩
    | 45, h => by cases h; exact ⟨_, glo_of X G (Zf.loc c.fact 45), df45 c⟩
    | 46, h => by cases h; exact ⟨_, glo_of X G (Zf.loc c.fact 46), df46 c⟩
    | 47, h => by cases h; exact ⟨_, glo_of X G (Zf.loc c.fact 47), df47 c⟩
    | 48, h => by cases h; exact ⟨_, glo_of X G (Zf.loc c.fact 48), df48 c⟩
    | i + 49, h => by simp [T] at h
  gl := fun i x d h h2 => match i, h, h2 with
    | 0, h, h2 => by cases h; cases h2; exact (Zf.int_ c.fact X G 0).elim fun t ht => ⟨_, .int _, ht, ⟨t, rfl⟩, .int _⟩
    | 1, h, h2 => by cases h; cases h2; exact (Zf.int_ c.fact X G 1).elim fun t ht => ⟨_, .int _, ht, ⟨t, rfl⟩, .int _⟩
    | 2, h, h2 => by cases h; cases h2; exact (Zf.int_ c.fact X G 2).elim fun t ht => ⟨_, .int _, ht, ⟨t, rfl⟩, .int _⟩
    | 3, h, h2 => by cases h; cases h2; exact (Zf.int_ c.fact X G 3).elim fun t ht => ⟨_, .int _, ht, ⟨t, rfl⟩, .int _⟩
    | 4, h, h2 => by cases h; cases h2; exact (Zf.int_ c.fact X G 4).elim fun t ht => ⟨_, .int _, ht, ⟨t, rfl⟩, .int _⟩
    | i + 5, h, h2 => by simp [T] at h
  bl := fun x hx => Zf.fr c.fact X G hx
  hl := by decide
  mt := rfl
  pt := rfl
  df := fun f x dv hx hv => by
    simp only [T, memDfl, Bool.or_eq_true, Bool.and_eq_true, beq_iff_eq, Bool.false_eq_true, or_false] at hv
    rcases hv with ⟨rfl, hv⟩
    · cases eqDs_ok hv; cases hx; exact ⟨_, glo_of X G (Zf.loc c.fact 23), dd0 c⟩
  cl := fun k hk => by
    simp only [T, List.mem_cons, List.not_mem_nil, or_false] at hk
    rcases hk with rfl | rfl | rfl | rfl | rfl
    · exact ⟨_, (cl_Algebra c).1, PySem.W.mg_of X G (cl_Algebra c).1.ns⟩
    · exact ⟨_, (cl_Four c).1, PySem.W.mg_of X G (cl_Four c).1.ns⟩
    · exact ⟨_, (cl_Parts c).1, PySem.W.mg_of X G (cl_Parts c).1.ns⟩
    · exact ⟨_, (cl_Ratio c).1, PySem.W.mg_of X G (cl_Ratio c).1.ns⟩
    · exact ⟨_, (cl_Terms c).1, PySem.W.mg_of X G (cl_Terms c).1.ns⟩
  me := fun k m g hg C hC => by
    simp only [T, mts, List.mem_cons, Prod.mk.injEq, List.not_mem_nil, or_false] at hg
    rcases hg with ⟨rfl, rfl, rfl⟩ | ⟨rfl, rfl, rfl⟩ | ⟨rfl, rfl, rfl⟩ | ⟨rfl, rfl, rfl⟩ | ⟨rfl, rfl, rfl⟩ | ⟨rfl, rfl, rfl⟩ | ⟨rfl, rfl, rfl⟩ | ⟨rfl, rfl, rfl⟩ | ⟨rfl, rfl, rfl⟩ | ⟨rfl, rfl, rfl⟩ | ⟨rfl, rfl, rfl⟩ | ⟨rfl, rfl, rfl⟩ | ⟨rfl, rfl, rfl⟩ | ⟨rfl, rfl, rfl⟩ | ⟨rfl, rfl, rfl⟩ | ⟨rfl, rfl, rfl⟩ | ⟨rfl, rfl, rfl⟩ | ⟨rfl, rfl, rfl⟩ | ⟨rfl, rfl, rfl⟩ | ⟨rfl, rfl, rfl⟩
    · cases ClsA.one (cl_Terms c).1 hC; exact ⟨_, by rw [nm___init__]; exact met_of (Zf.loc c.fact 49), df49 c⟩
    · cases ClsA.one (cl_Ratio c).1 hC; exact ⟨_, by rw [nm___init__]; exact met_of (Zf.loc c.fact 50), df50 c⟩
    · cases ClsA.one (cl_Ratio c).1 hC; exact ⟨_, by rw [nm___add__]; exact met_of (Zf.loc c.fact 54), df54 c⟩
    · cases ClsA.one (cl_Ratio c).1 hC; exact ⟨_, by rw [nm___sub__]; exact met_of (Zf.loc c.fact 55), df55 c⟩
    · cases ClsA.one (cl_Ratio c).1 hC; exact ⟨_, by rw [nm___mul__]; exact met_of (Zf.loc c.fact 56), df56 c⟩
    · cases ClsA.one (cl_Ratio c).1 hC; exact ⟨_, by rw [nm___neg__]; exact met_of (Zf.loc c.fact 57), df57 c⟩
    · cases ClsA.one (cl_Ratio c).1 hC; exact ⟨_, by rw [nm___eq__]; exact met_of (Zf.loc c.fact 58), df58 c⟩
    · cases ClsA.one (cl_Algebra c).1 hC; exact ⟨_, by rw [nm___init__]; exact met_of (Zf.loc c.fact 59), df59 c⟩
    · cases ClsA.one (cl_Algebra c).1 hC; exact ⟨_, by rw [nm_basis]; exact met_of (Zf.loc c.fact 62), df62 c⟩
    · cases ClsA.one (cl_Algebra c).1 hC; exact ⟨_, by rw [nm___eq__]; exact met_of (Zf.loc c.fact 63), df63 c⟩
    · cases ClsA.one (cl_Parts c).1 hC; exact ⟨_, by rw [nm___init__]; exact met_of (Zf.loc c.fact 64), df64 c⟩
    · cases ClsA.one (cl_Four c).1 hC; exact ⟨_, by rw [nm___init__]; exact met_of (Zf.loc c.fact 65), df65 c⟩
    · cases ClsA.one (cl_Four c).1 hC; exact ⟨_, by rw [nm_mate]; exact met_of (Zf.loc c.fact 70), df70 c⟩
    · cases ClsA.one (cl_Four c).1 hC; exact ⟨_, by rw [nm_inverse]; exact met_of (Zf.loc c.fact 71), df71 c⟩
    · cases ClsA.one (cl_Four c).1 hC; exact ⟨_, by rw [nm_scaled]; exact met_of (Zf.loc c.fact 72), df72 c⟩
    · cases ClsA.one (cl_Four c).1 hC; exact ⟨_, by rw [nm___add__]; exact met_of (Zf.loc c.fact 73), df73 c⟩
    · cases ClsA.one (cl_Four c).1 hC; exact ⟨_, by rw [nm___sub__]; exact met_of (Zf.loc c.fact 74), df74 c⟩
    · cases ClsA.one (cl_Four c).1 hC; exact ⟨_, by rw [nm___mul__]; exact met_of (Zf.loc c.fact 75), df75 c⟩
    · cases ClsA.one (cl_Four c).1 hC; exact ⟨_, by rw [nm___neg__]; exact met_of (Zf.loc c.fact 76), df76 c⟩
    · cases ClsA.one (cl_Four c).1 hC; exact ⟨_, by rw [nm___eq__]; exact met_of (Zf.loc c.fact 77), df77 c⟩
  pr := fun k m g hg C hC => by
    simp only [T, prs, List.mem_cons, Prod.mk.injEq, List.not_mem_nil, or_false] at hg
    rcases hg with ⟨rfl, rfl, rfl⟩ | ⟨rfl, rfl, rfl⟩ | ⟨rfl, rfl, rfl⟩ | ⟨rfl, rfl, rfl⟩ | ⟨rfl, rfl, rfl⟩ | ⟨rfl, rfl, rfl⟩ | ⟨rfl, rfl, rfl⟩ | ⟨rfl, rfl, rfl⟩ | ⟨rfl, rfl, rfl⟩
    · cases ClsA.one (cl_Ratio c).1 hC; obtain ⟨p, rest, h1, h2, h3, h4⟩ := pro_of (Zf.loc c.fact 51); exact ⟨p, _, rest, by rw [nm_top]; exact h1, h2, h3, h4, df51 c⟩
    · cases ClsA.one (cl_Ratio c).1 hC; obtain ⟨p, rest, h1, h2, h3, h4⟩ := pro_of (Zf.loc c.fact 52); exact ⟨p, _, rest, by rw [nm_bottom]; exact h1, h2, h3, h4, df52 c⟩
    · cases ClsA.one (cl_Ratio c).1 hC; obtain ⟨p, rest, h1, h2, h3, h4⟩ := pro_of (Zf.loc c.fact 53); exact ⟨p, _, rest, by rw [nm_sign]; exact h1, h2, h3, h4, df53 c⟩
    · cases ClsA.one (cl_Algebra c).1 hC; obtain ⟨p, rest, h1, h2, h3, h4⟩ := pro_of (Zf.loc c.fact 60); exact ⟨p, _, rest, by rw [nm_a]; exact h1, h2, h3, h4, df60 c⟩
    · cases ClsA.one (cl_Algebra c).1 hC; obtain ⟨p, rest, h1, h2, h3, h4⟩ := pro_of (Zf.loc c.fact 61); exact ⟨p, _, rest, by rw [nm_b]; exact h1, h2, h3, h4, df61 c⟩
    · cases ClsA.one (cl_Four c).1 hC; obtain ⟨p, rest, h1, h2, h3, h4⟩ := pro_of (Zf.loc c.fact 66); exact ⟨p, _, rest, by rw [nm_algebra]; exact h1, h2, h3, h4, df66 c⟩
    · cases ClsA.one (cl_Four c).1 hC; obtain ⟨p, rest, h1, h2, h3, h4⟩ := pro_of (Zf.loc c.fact 67); exact ⟨p, _, rest, by rw [nm_entries]; exact h1, h2, h3, h4, df67 c⟩
    · cases ClsA.one (cl_Four c).1 hC; obtain ⟨p, rest, h1, h2, h3, h4⟩ := pro_of (Zf.loc c.fact 68); exact ⟨p, _, rest, by rw [nm_bottom]; exact h1, h2, h3, h4, df68 c⟩
    · cases ClsA.one (cl_Four c).1 hC; obtain ⟨p, rest, h1, h2, h3, h4⟩ := pro_of (Zf.loc c.fact 69); exact ⟨p, _, rest, by rw [nm_norm]; exact h1, h2, h3, h4, df69 c⟩
  ma := fun k dv hv => by
    simp only [T, memDfl, Bool.or_eq_true, Bool.and_eq_true, beq_iff_eq, Bool.false_eq_true, or_false] at hv
    rcases hv with ⟨rfl, hv⟩ | ⟨rfl, hv⟩ | ⟨rfl, hv⟩ | ⟨rfl, hv⟩ | ⟨rfl, hv⟩ | ⟨rfl, hv⟩ | ⟨rfl, hv⟩
    · cases eqDs_ok hv; exact ⟨_, _, (cl_Ratio c).1, PySem.W.mg_of X G (cl_Ratio c).1.ns, ⟨(cl_Ratio c).2.1, (met_of (Zf.loc c.fact 50)).at_, (met_of (Zf.loc c.fact 50)).fn, (cl_Ratio c).2.2⟩, mm0 c⟩
    · cases eqDs_ok hv; exact ⟨_, _, (cl_Terms c).1, PySem.W.mg_of X G (cl_Terms c).1.ns, ⟨(cl_Terms c).2.1, (met_of (Zf.loc c.fact 49)).at_, (met_of (Zf.loc c.fact 49)).fn, (cl_Terms c).2.2⟩, mm1 c⟩
    · cases eqDs_ok hv; exact ⟨_, _, (cl_Parts c).1, PySem.W.mg_of X G (cl_Parts c).1.ns, ⟨(cl_Parts c).2.1, (met_of (Zf.loc c.fact 64)).at_, (met_of (Zf.loc c.fact 64)).fn, (cl_Parts c).2.2⟩, mm2 c⟩
    · cases eqDs_ok hv; exact ⟨_, _, (cl_Four c).1, PySem.W.mg_of X G (cl_Four c).1.ns, ⟨(cl_Four c).2.1, (met_of (Zf.loc c.fact 65)).at_, (met_of (Zf.loc c.fact 65)).fn, (cl_Four c).2.2⟩, mm3 c⟩
    · cases eqDs_ok hv; exact ⟨_, _, (cl_Four c).1, PySem.W.mg_of X G (cl_Four c).1.ns, ⟨(cl_Four c).2.1, (met_of (Zf.loc c.fact 65)).at_, (met_of (Zf.loc c.fact 65)).fn, (cl_Four c).2.2⟩, mm4 c⟩
    · cases eqDs_ok hv; exact ⟨_, _, (cl_Ratio c).1, PySem.W.mg_of X G (cl_Ratio c).1.ns, ⟨(cl_Ratio c).2.1, (met_of (Zf.loc c.fact 50)).at_, (met_of (Zf.loc c.fact 50)).fn, (cl_Ratio c).2.2⟩, mm5 c⟩
    · cases eqDs_ok hv; exact ⟨_, _, (cl_Algebra c).1, PySem.W.mg_of X G (cl_Algebra c).1.ns, ⟨(cl_Algebra c).2.1, (met_of (Zf.loc c.fact 59)).at_, (met_of (Zf.loc c.fact 59)).fn, (cl_Algebra c).2.2⟩, mm6 c⟩
  sl := fun k fs hk C hC i f hf => by
    simp only [T, List.mem_cons, Prod.mk.injEq, List.not_mem_nil, or_false] at hk
    rcases hk with ⟨rfl, rfl⟩ | ⟨rfl, rfl⟩ | ⟨rfl, rfl⟩ | ⟨rfl, rfl⟩ | ⟨rfl, rfl⟩
    · cases ClsA.one (cl_Algebra c).1 hC
      match i, hf with
      | 0, hf => cases hf; rw [nm_own_a]; exact ⟨_, sloZ_ok (Zf.sl c.fact 0)⟩
      | 1, hf => cases hf; rw [nm_own_b]; exact ⟨_, sloZ_ok (Zf.sl c.fact 1)⟩
      | 2, hf => cases hf; rw [nm_own_discriminant]; exact ⟨_, sloZ_ok (Zf.sl c.fact 2)⟩
      | 3, hf => cases hf; rw [nm_own_places]; exact ⟨_, sloZ_ok (Zf.sl c.fact 3)⟩
      | i + 4, hf => simp at hf
    · cases ClsA.one (cl_Four c).1 hC
      match i, hf with
      | 0, hf => cases hf; rw [nm_own_algebra]; exact ⟨_, sloZ_ok (Zf.sl c.fact 4)⟩
      | 1, hf => cases hf; rw [nm_own_bottom]; exact ⟨_, sloZ_ok (Zf.sl c.fact 5)⟩
      | 2, hf => cases hf; rw [nm_own_entries]; exact ⟨_, sloZ_ok (Zf.sl c.fact 6)⟩
      | i + 3, hf => simp at hf
    · cases ClsA.one (cl_Parts c).1 hC
      match i, hf with
      | 0, hf => cases hf; rw [nm_own_bottom]; exact ⟨_, sloZ_ok (Zf.sl c.fact 7)⟩
      | 1, hf => cases hf; rw [nm_own_entries]; exact ⟨_, sloZ_ok (Zf.sl c.fact 8)⟩
      | i + 2, hf => simp at hf
    · cases ClsA.one (cl_Ratio c).1 hC
      match i, hf with
      | 0, hf => cases hf; rw [nm_own_bottom]; exact ⟨_, sloZ_ok (Zf.sl c.fact 9)⟩
      | 1, hf => cases hf; rw [nm_own_top]; exact ⟨_, sloZ_ok (Zf.sl c.fact 10)⟩
      | i + 2, hf => simp at hf
    · cases ClsA.one (cl_Terms c).1 hC
      match i, hf with
      | 0, hf => cases hf; rw [nm_own_bottom]; exact ⟨_, sloZ_ok (Zf.sl c.fact 11)⟩
      | 1, hf => cases hf; rw [nm_own_top]; exact ⟨_, sloZ_ok (Zf.sl c.fact 12)⟩
      | i + 2, hf => simp at hf
def lo0 : List Str := ["_wall", "__name__", "FourError", "InvalidRatio", "InvalidAlgebra", "InvalidFour", "InvalidOperation", "ParseError", "InvalidNumber", "TooMany", "Refused", "BEYOND", "FIGURES", "is_whole", "is_integer", "require_integer", "common_of", "are_figures", "Terms", "Ratio", "sign_of_integer", "ratio_of", "ratio_text", "is_ratio_or_integer", "told_ratio", "MAX_NUMBER", "is_number", "require_number", "factors_of", "power_rest"]
def lo1 : List Str := ["residue_sign_of", "parted_by", "raw_product", "raw_mate", "raw_norm", "REAL", "sign_by_two", "sign_by_prime", "sign_of", "places_of", "MAX_POWER", "MANY_ENTRIES", "LETTERS", "NORM", "lowest", "text_of", "text_over", "Algebra", "Parts", "parts_told", "Four", "four_made", "require_algebra", "require_four", "is_four_of", "require_four_of", "require_two_fours", "require_same_algebra", "MAX_SIDE", "require_sizes"]
def lo2 : List Str := ["require_two", "is_integer_four", "is_images", "has_inverse", "turned", "_law_jug", "_law_pour", "_law_of", "_law_times", "_law_drawn", "_law_pair", "_law_squares_to", "_law_do_turn", "_law_are_images", "_law_four", "_law_near", "_law_right"]
def loose : List Str := lo0 ++ lo1 ++ lo2
abbrev R : PySem.W.OpenRow := PySem.W.OpenLaw.row PySem.Challenge.rw_signfours_k23_images_judged
def adr : List Addr := [3, 6, 4, 21, 31, 44, 56, 68, 80, 101, 122, 144, 166, 176, 183, 190, 197, 202, 221, 342, 353, 360, 367, 374, 381, 388, 395, 402, 409, 416, 423, 430, 437, 444, 451, 458, 465, 470, 471, 476, 483, 490, 576, 601, 610, 747, 760, 767, 774, 781, 788, 795, 802, 809, 816, 823, 828, 835, 842, 849, 856, 863, 870, 877, 884, 891, 896, 901, 906, 911, 918, 925, 0, 20, 30, 43, 55, 67, 79, 100, 121, 143, 165, 175, 182, 189, 196, 201, 220, 341, 352, 359, 366, 373, 380, 387, 394, 401, 408, 415, 422, 429, 436, 443, 450, 457, 464, 469, 475, 482, 489, 575, 600, 609, 746, 759, 753, 766, 773, 780, 787, 794, 801, 808, 815, 822, 827, 834, 841, 848, 855, 862, 869, 876, 883, 890, 895, 900, 905, 910, 917, 924, 15, 16, 17, 18, 19, 29, 32, 42, 54, 66, 78, 98, 99, 119, 120, 123, 141, 142, 145, 163, 164, 167, 170, 171, 172, 173, 174, 177, 178, 179, 180, 181, 184, 185, 186, 187, 188, 191, 192, 193, 194, 195, 198, 199, 200, 210, 217, 218, 222, 223, 233, 241, 250, 259, 267, 275, 282, 289, 296, 303, 310, 317, 324, 331, 338, 339, 343, 344, 347, 348, 349, 350, 351, 354, 355, 356, 357, 358, 361, 362, 363, 364, 365, 368, 369, 370, 371, 372, 375, 376, 377, 378, 379, 382, 383, 384, 385, 386, 389, 390, 391, 392, 393, 396, 397, 398, 399, 400, 403, 404, 405, 406, 407, 410, 411, 412, 413, 414, 417, 418, 419, 420, 421, 424, 425, 426, 427, 428, 431, 432, 433, 434, 435, 438, 439, 440, 441, 442, 445, 446, 447, 448, 449, 452, 453, 454, 455, 456, 459, 460, 461, 462, 463, 466, 467, 468, 472, 473, 474, 477, 478, 479, 480, 481, 484, 485, 486, 487, 488, 498, 505, 513, 521, 529, 537, 545, 553, 558, 565, 572, 573, 577, 578, 579, 580, 590, 597, 598, 602, 603, 606, 607, 608, 618, 626, 634, 642, 650, 658, 666, 674, 681, 686, 693, 698, 703, 710, 717, 722, 729, 736, 743, 744, 748, 749, 750, 754, 755, 756, 757, 758, 761, 762, 763, 764, 765, 768, 769, 770, 771, 772, 775, 776, 777, 778, 779, 782, 783, 784, 785, 786, 789, 790, 791, 792, 793, 796, 797, 798, 799, 800, 803, 804, 805, 806, 807, 810, 811, 812, 813, 814, 817, 818, 819, 820, 821, 824, 825, 826, 829, 830, 831, 832, 833, 836, 837, 838, 839, 840, 843, 844, 845, 846, 847, 850, 851, 852, 853, 854, 857, 858, 859, 860, 861, 864, 865, 866, 867, 868, 871, 872, 873, 874, 875, 878, 879, 880, 881, 882, 885, 886, 887, 888, 889, 892, 893, 894, 897, 898, 899, 902, 903, 904, 907, 908, 909, 912, 913, 914, 915, 916, 919, 920, 921, 922, 923, 97, 86, 118, 107, 140, 129, 162, 151, 216, 240, 234, 248, 249, 258, 266, 274, 281, 288, 295, 302, 309, 316, 323, 330, 337, 504, 512, 520, 528, 536, 544, 552, 557, 564, 571, 596, 625, 619, 633, 641, 649, 657, 665, 673, 680, 685, 692, 697, 702, 709, 716, 721, 728, 735, 742, 92, 93, 94, 95, 96, 113, 114, 115, 116, 117, 135, 136, 137, 138, 139, 157, 158, 159, 160, 161, 211, 212, 213, 214, 215, 235, 236, 237, 238, 239, 247, 251, 257, 265, 273, 276, 277, 278, 279, 280, 283, 284, 285, 286, 287, 290, 291, 292, 293, 294, 297, 298, 299, 300, 301, 304, 305, 306, 307, 308, 311, 312, 313, 314, 315, 318, 319, 320, 321, 322, 325, 326, 327, 328, 329, 332, 333, 334, 335, 336, 499, 500, 501, 502, 503, 511, 519, 527, 535, 543, 551, 554, 555, 556, 559, 560, 561, 562, 563, 566, 567, 568, 569, 570, 591, 592, 593, 594, 595, 620, 621, 622, 623, 624, 632, 640, 648, 656, 664, 672, 675, 676, 677, 678, 679, 682, 683, 684, 687, 688, 689, 690, 691, 694, 695, 696, 699, 700, 701, 704, 705, 706, 707, 708, 711, 712, 713, 714, 715, 718, 719, 720, 723, 724, 725, 726, 727, 730, 731, 732, 733, 734, 737, 738, 739, 740, 741, 242, 243, 244, 245, 246, 252, 253, 254, 255, 256, 260, 261, 262, 263, 264, 268, 269, 270, 271, 272, 506, 507, 508, 509, 510, 514, 515, 516, 517, 518, 522, 523, 524, 525, 526, 530, 531, 532, 533, 534, 538, 539, 540, 541, 542, 546, 547, 548, 549, 550, 627, 628, 629, 630, 631, 635, 636, 637, 638, 639, 643, 644, 645, 646, 647, 651, 652, 653, 654, 655, 659, 660, 661, 662, 663, 667, 668, 669, 670, 671, 2]
abbrev hk : PySem.W.Hook := hookL adr zf.ok fnZ
def ob (s : PySem.W.SharedT) : He.AlD := obsL adr zf.ok fnZ (HandSHeadRun.getT s)
theorem ob_eq (s : PySem.W.SharedT) : ob s = hk.obs s.abs := obsL_eq (HandSHeadRun.getT_eq s)
theorem headrun (w : World) : HandSHeadRun.RunEq R (PySem.W.view R.prog [85]) hk ob 30000 loose w := by
  intro os
  kernel_rfl
theorem facts {P : Program} {w : World} {K : Frg} {h : Heap} {mg : Str → Option Value} {f : Addr} (X : K.In h) (G : h.Ns mainGlobals mg) (hfa : mg ("law" : Str) = some (.ref f)) (c : Sz K) :
    ∃ fd : FuncData, (∀ (s : Shared) (v : Value), BindsTo s fd ⟨[v], []⟩ [("_law_script", v)]) ∧ ∀ base : Heap, K.In base → base.Ns mainGlobals mg → FnOk P w K mg base CX0 (4 * 30) f fd ["_law_script"] (spC K (run Fs lf 30) 48) := by
  have t := tab X G c
  obtain ⟨fd, F⟩ := c.def_ 48 (d := dA48) rfl
  have e := hfa.symm.trans (glo_of X G (Zf.loc c.fact 48))
  cases e
  have b := FunD.bindsA (ps := ["_law_script"]) F fun _ _ _ _ _ _ us hl => match us, hl with | [_], _ => rfl
  exact ⟨fd, fun s v => b s [v] rfl, fun base _ _ => fn_step (n := 29) (.of F) ok48 rfl t.hl (t.facts 29)⟩
end K23
open PySem PySem.W PySem.Calls PyProof.Rows
set_option maxRecDepth 100000 in
set_option maxHeartbeats 0 in
theorem PySem.Challenge.cw_signfours_k23_images_judged_holds : PySem.Challenge.rw_signfours_k23_images_judged.Holds := by
  w_on; o_law
  refine HandSHeadRun.head_any (r := OpenLaw.row PySem.Challenge.rw_signfours_k23_images_judged) (q := view (OpenLaw.row PySem.Challenge.rw_signfours_k23_images_judged).prog [85]) (H := K23.hk) (ob := K23.ob) (M := 30000) (loose := K23.loose) (d := HandSHeadRun.topDef (OpenLaw.row PySem.Challenge.rw_signfours_k23_images_judged).prog 85) (kwd := []) K23.ob_eq
    (by kernel_rfl) (fun s => by kernel_rfl) K23.headrun (by kernel_rfl) (by kernel_rfl) (by kernel_rfl) (by rfl) (by first | assumption | decide +kernel) (by decide +kernel) ⟨rfl, rfl, rfl, rfl, rfl, by decide +kernel⟩ ?hw ?hc
  case hw => w_witness2
  case hc =>
    refine L2.walk_ofE (l := PySem.Challenge.rw_signfours_k23_images_judged) (n := 63) (k := 4 * 30) (x := "_law_script") (CX := L2.CX0) rfl (by decide) (by kernel_rfl) ⟨rfl, by decide, by decide⟩ ?F (fun _ _ _ _ z => z)
    intro w mg fa h Y G hmg0
    obtain ⟨K, KX, c⟩ := Y
    have hmg : mg ("law" : PySem.Str) = some (.ref fa) := by
      have e : (HandSHeadRun.topDef (OpenLaw.row PySem.Challenge.rw_signfours_k23_images_judged).prog 85).name = ("law" : PySem.Str) := by kernel_rfl
      rw [← e]
      exact hmg0
    obtain ⟨fd, hb, hF⟩ := K23.facts (P := (PySem.Challenge.rw_signfours_k23_images_judged).prog) (w := w) KX G hmg c
    exact ⟨K, fd, EV.spC K (EV.run K23.Fs K23.lf 30) 48, KX, hb, fun H a ns hl _ hS => (K23.main ns hl).elim fun R' h => EV.law_sp h hS, hF⟩


