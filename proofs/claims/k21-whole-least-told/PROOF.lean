import PyProof.Rows.All
import HandS.ForMost
import HandS.ForExc
import HandS.IsInst
import HandS.Style
import HandS.CallLocal
import HandS.Defaults
import HandS.FStr
import HandS.TupAny
import HandS.Conv
import HandS.ExcIs
import HandS.RaiseMore
import HandS.SetFor
import HandS.Walk
import HandS.Zip
import HandS.TryOnly
import HandS.TupLe
import KE.DataMinMax
import KE.KUnpackStar
import KE.KDictZip
import HandS.ListItems
import HandS.Iter
import HandS.Words
import HandS.Ends
import HandS.HeadEnd
import HandS.HeadHook1
import HandS.HeadHook2
import HandS.Head0
import HandS.Head1
import HandS.Head2
import PySem.Challenge.RW_toldnames_k21_whole_least_told
set_option Elab.async false
set_option linter.all false
set_option maxRecDepth 100000
set_option maxHeartbeats 2000000
/-! E1: values, objects, results of a small evaluator, and how they stand in the layer's heap. -/
namespace Ev
open PySem PySem.Spec PyProof.Rows L2

/-- a value: data, a tracked object, a def, a caught exception -/
inductive W where
  | d (x : PyData)
  | r (i : Nat)
  | fn (f : Str)
  | ex (c : Str)
/-- a tracked object -/
inductive AO where
  | lst (xs : List W)
  | dic (kvs : List (PyData × W))
  | ins (c : Str) (fs : List (Str × W))
  | tup (xs : List W)
  | dead
  | rod (kvs : List (PyData × W))
abbrev AH := List AO
inductive R (α : Type) where
  | ok (a : α) (h : AH)
  | ex (c : Str) (h : AH)
  | no
abbrev M (α : Type) := AH → R α
abbrev EnvW := List (Option W)
abbrev ME := EnvW → M W
inductive Fl where
  | nx (e : EnvW)
  | rt (w : W)
  | bk (e : EnvW)
  | ct (e : EnvW)
abbrev MS := EnvW → M Fl
def mno {α : Type} : M α := fun _ => .no
def mpure {α : Type} (a : α) : M α := fun h => .ok a h
def mbind {α β : Type} (m : M α) (f : α → M β) : M β := fun h => match m h with
  | .ok a h' => f a h'
  | .ex c h' => .ex c h'
  | .no => .no
def mraise {α : Type} (c : Str) : M α := fun h => .ex c h
def mget (i : Nat) : M AO := fun h => match h[i]? with
  | some o => .ok o h
  | none => .no
def mset (i : Nat) (o : AO) : M Unit := fun h => .ok () (h.set i o)
def mnew (o : AO) : M Nat := fun h => .ok h.length (h ++ [o])

/-! ### what is fixed: the written part, the defs' and classes' places -/
abbrev FId := Str × Str
/-- a def of the module -/
abbrev pl (f : Str) : FId := (Str.empty, f)
structure GA where
  K : PySem.W.Frag
  fa : FId → Option Addr
  ca : Str → Option Addr
  xa : Str → Option Addr

/-- a state: the abstract heap, the tracked objects' places, the objects -/
structure Cf where
  H : Hp
  μ : List Addr
  ah : AH
def Cf.live (c : Cf) (a : Addr) : Prop := ∃ i : Nat, c.μ[i]? = some a

/-- a tuple of the module's own -/
def TK (K : PySem.W.Frag) (a : Addr) (xs : List V) : Prop := ∃ (o : Obj) (its : Array Value) (n : Nat), K.lookup a = some o ∧ o.cls = .type "tuple" ∧ o.data = .seq its n ∧ its.size ≤ sizeLine ∧ Vals xs its.toList
def keyD : Key → PyData
  | .inl i => .int i
  | .inr x => .str x
mutual
/-- data at a value -/
inductive Rp (K : PySem.W.Frag) (c : Cf) : V → PyData → Prop
  | non : Rp K c .non .none
  | bl (b : Bool) : Rp K c (.bl b) (.bool b)
  | int (i : Int) : Rp K c (.int i) (.int i)
  | str (x : Str) : Rp K c (.str x) (.str x)
  | lst {a : Addr} {xs : List V} {ds : List PyData} : ¬ c.live a → Rd c.H a (.lst xs) → RpL K c xs ds → Rp K c (.ref a) (.list ds)
  | tup {a : Addr} {xs : List V} {ds : List PyData} : ¬ c.live a → Rd c.H a (.tup xs) → RpL K c xs ds → Rp K c (.ref a) (.tuple ds)
  | tupK {a : Addr} {xs : List V} {ds : List PyData} : TK K a xs → RpL K c xs ds → Rp K c (.ref a) (.tuple ds)
  | dic {a : Addr} {xs : List (Key × V)} {ds : List (PyData × PyData)} : ¬ c.live a → Rd c.H a (.dK xs) → RpD K c xs ds → Rp K c (.ref a) (.dict ds)
inductive RpL (K : PySem.W.Frag) (c : Cf) : List V → List PyData → Prop
  | nil : RpL K c [] []
  | cons {v : V} {vs : List V} {d : PyData} {ds : List PyData} : Rp K c v d → RpL K c vs ds → RpL K c (v :: vs) (d :: ds)
inductive RpD (K : PySem.W.Frag) (c : Cf) : List (Key × V) → List (PyData × PyData) → Prop
  | nil : RpD K c [] []
  | cons {k : Key} {v : V} {vs : List (Key × V)} {d : PyData} {ds : List (PyData × PyData)} : Rp K c v d → RpD K c vs ds → RpD K c ((k, v) :: vs) ((keyD k, d) :: ds)
end
/-- an exception object of the class C at a -/
def ExO (a C : Addr) : Heap → Prop := fun h => ∃ oe vs, h.get? a = some oe ∧ oe.cls = .ref C ∧ oe.dict = none ∧ oe.data = .fields vs
/-- a value -/
def RW (G : GA) (c : Cf) (v : V) : W → Prop
  | .d x => Rp G.K c v x
  | .r i => ∃ a, v = .ref a ∧ c.μ[i]? = some a
  | .fn f => ∃ a, v = .ref a ∧ G.fa (pl f) = some a
  | .ex k => ∃ a C, v = .ref a ∧ G.xa k = some C ∧ ¬ c.live a ∧ c.H a = some (.ext (ExO a C))
abbrev RWL (G : GA) (c : Cf) : List V → List W → Prop := Paired (RW G c)
/-- an object -/
def OR (G : GA) (c : Cf) (a : Addr) : AO → Prop
  | .lst ws => ∃ xs, c.H a = some (.lst xs) ∧ RWL G c xs ws
  | .dic kvs => ∃ xs, c.H a = some (.dK xs) ∧ Paired (fun (p : Key × V) (q : PyData × W) => q.1 = keyD p.1 ∧ RW G c p.2 q.2) xs kvs
  | .ins k fs => ∃ C dx xs, c.H a = some (.ins C dx xs) ∧ G.ca k = some C ∧ Paired (fun (p : Str × V) (q : Str × W) => p.1 = q.1 ∧ RW G c p.2 q.2) xs fs
  | .tup ws => ∃ xs, c.H a = some (.tup xs) ∧ RWL G c xs ws
  | .dead => ∃ o, c.H a = some o
  | .rod kvs => ∃ xs od, c.H a = some (.frz od (.dK xs)) ∧ Paired (fun (p : Key × V) (q : PyData × W) => q.1 = keyD p.1 ∧ RW G c p.2 q.2) xs kvs
structure Cf.ok (G : GA) (c : Cf) : Prop where
  len : c.μ.length = c.ah.length
  nd : c.μ.Nodup
  obj : ∀ (i : Nat) (a : Addr) (o : AO), c.μ[i]? = some a → c.ah[i]? = some o → OR G c a o

/-- what stays from state to state: the objects' places, what is not tracked, what is locked -/
structure Cf.ext (c c' : Cf) : Prop where
  pre : ∀ (i : Nat) (a : Addr), c.μ[i]? = some a → c'.μ[i]? = some a
  keep : ∀ (a : Addr) (o : HO), c.H a = some o → ¬ c.live a → c'.H a = some o ∧ ¬ c'.live a
  dead : ∀ (i : Nat) (a : Addr) (o : HO), c.μ[i]? = some a → c.ah[i]? = some .dead → c.H a = some o → c'.H a = some o ∧ c'.ah[i]? = some .dead
  rod : ∀ (i : Nat) (a : Addr) (kvs : List (PyData × W)) (o : HO), c.μ[i]? = some a → c.ah[i]? = some (.rod kvs) → c.H a = some o → c'.H a = some o ∧ c'.ah[i]? = some (.rod kvs)
theorem Cf.ext.rd {c c' : Cf} (e : c.ext c') {a : Addr} {u : HO} (h : Rd c.H a u) (l : ¬ c.live a) : Rd c'.H a u ∧ ¬ c'.live a := by
  rcases h with h | ⟨o, h⟩
  · exact ⟨.inl (e.keep a _ h l).1, (e.keep a _ h l).2⟩
  · exact ⟨.inr ⟨o, (e.keep a _ h l).1⟩, (e.keep a _ h l).2⟩
theorem Cf.ext.refl (c : Cf) : c.ext c := ⟨fun _ _ h => h, fun _ _ h l => ⟨h, l⟩, fun _ _ _ _ h1 h2 => ⟨h2, h1⟩, fun _ _ _ _ _ h1 h2 => ⟨h2, h1⟩⟩
theorem Cf.ext.trans {c c1 c2 : Cf} (a : c.ext c1) (b : c1.ext c2) : c.ext c2 :=
  ⟨fun i x h => b.pre i x (a.pre i x h), fun x u h l => by
    obtain ⟨h1, l1⟩ := a.keep x u h l
    exact b.keep x u h1 l1, fun i x o h1 h2 h3 => by
    obtain ⟨h4, h5⟩ := a.dead i x o h1 h2 h3
    exact b.dead i x o (a.pre i x h1) h5 h4, fun i x kvs o h1 h2 h3 => by
    obtain ⟨h4, h5⟩ := a.rod i x kvs o h1 h2 h3
    exact b.rod i x kvs o (a.pre i x h1) h5 h4⟩
mutual
theorem Rp.mono {K : PySem.W.Frag} {c c' : Cf} (e : c.ext c') : ∀ {d : PyData} {v : V}, Rp K c v d → Rp K c' v d
  | _, _, .non => .non
  | _, _, .bl b => .bl b
  | _, _, .int i => .int i
  | _, _, .str x => .str x
  | _, _, .lst l h r => .lst (e.rd h l).2 (e.rd h l).1 (RpL.mono e r)
  | _, _, .tup l h r => .tup (e.rd h l).2 (e.rd h l).1 (RpL.mono e r)
  | _, _, .tupK h r => .tupK h (RpL.mono e r)
  | _, _, .dic l h r => .dic (e.rd h l).2 (e.rd h l).1 (RpD.mono e r)
theorem RpL.mono {K : PySem.W.Frag} {c c' : Cf} (e : c.ext c') : ∀ {ds : List PyData} {vs : List V}, RpL K c vs ds → RpL K c' vs ds
  | _, _, .nil => .nil
  | _, _, .cons h r => .cons (Rp.mono e h) (RpL.mono e r)
theorem RpD.mono {K : PySem.W.Frag} {c c' : Cf} (e : c.ext c') : ∀ {ds : List (PyData × PyData)} {vs : List (Key × V)}, RpD K c vs ds → RpD K c' vs ds
  | _, _, .nil => .nil
  | _, _, .cons h r => .cons (Rp.mono e h) (RpD.mono e r)
end
theorem RW.mono {G : GA} {c c' : Cf} (e : c.ext c') {v : V} : ∀ {w : W}, RW G c v w → RW G c' v w
  | .d _, h => Rp.mono e h
  | .r _, ⟨a, h1, h2⟩ => ⟨a, h1, e.pre _ _ h2⟩
  | .fn _, h => h
  | .ex _, ⟨a, C, h1, h2, h3, h4⟩ => ⟨a, C, h1, h2, (e.keep a _ h4 h3).2, (e.keep a _ h4 h3).1⟩
theorem RWL.mono {G : GA} {c c' : Cf} (e : c.ext c') {vs : List V} {ws : List W} (h : RWL G c vs ws) : RWL G c' vs ws := L2.Paired.mapP h fun _ _ r => RW.mono e r

/-! ### what is wanted of a result -/
def Po {α : Type} (G : GA) (r : R α) (c : Cf) (F : α → Cf → Prop) (E : Str → Cf → Prop) : Prop := match r with
  | .ok a h => ∀ c', c.ext c' → c'.ok G → c'.ah = h → F a c'
  | .ex k h => ∀ c', c.ext c' → c'.ok G → c'.ah = h → E k c'
  | .no => False
theorem Po.mono {α : Type} {G : GA} {r : R α} {c : Cf} {F F' : α → Cf → Prop} {E E' : Str → Cf → Prop} (h : Po G r c F E) (hF : ∀ a c', c.ext c' → c'.ok G → F a c' → F' a c') (hE : ∀ k c', c.ext c' → c'.ok G → E k c' → E' k c') : Po G r c F' E' := by
  cases r with
  | ok a h' => exact fun c' e o q => hF a c' e o (h c' e o q)
  | ex k h' => exact fun c' e o q => hE k c' e o (h c' e o q)
  | no => exact h
theorem Po.bind {α β : Type} {G : GA} {m : M α} {f : α → M β} {c : Cf} {F : β → Cf → Prop} {E : Str → Cf → Prop} (h : Po G (mbind m f c.ah) c F E) : Po G (m c.ah) c (fun a c1 => Po G (f a c1.ah) c1 F E) E := by
  unfold mbind at h
  cases q : m c.ah with
  | ok a h' =>
    rw [q] at h
    intro c1 e1 o1 q1
    subst q1
    exact Po.later e1 h
  | ex k h' =>
    rw [q] at h
    exact h
  | no =>
    rw [q] at h
    exact h
where
  Po.later {α : Type} {G : GA} {r : R α} {c c1 : Cf} {F : α → Cf → Prop} {E : Str → Cf → Prop} (e : c.ext c1) (h : Po G r c F E) : Po G r c1 F E := by
    cases r with
    | ok a h' => exact fun c' e' o q => h c' (e.trans e') o q
    | ex k h' => exact fun c' e' o q => h c' (e.trans e') o q
    | no => exact h

/-! ### states made of states -/
theorem OR.mono {G : GA} {c c' : Cf} (e : c.ext c') {a : Addr} (h : c'.H a = c.H a) : ∀ {o : AO}, OR G c a o → OR G c' a o
  | .lst _, ⟨xs, h1, r⟩ => ⟨xs, h.trans h1, RWL.mono e r⟩
  | .dic _, ⟨xs, h1, r⟩ => ⟨xs, h.trans h1, L2.Paired.mapP r fun _ _ q => ⟨q.1, RW.mono e q.2⟩⟩
  | .ins _ _, ⟨C, dx, xs, h1, h2, r⟩ => ⟨C, dx, xs, h.trans h1, h2, L2.Paired.mapP r fun _ _ q => ⟨q.1, RW.mono e q.2⟩⟩
  | .tup _, ⟨xs, h1, r⟩ => ⟨xs, h.trans h1, RWL.mono e r⟩
  | .dead, ⟨o, h1⟩ => ⟨o, h.trans h1⟩
  | .rod _, ⟨xs, od, h1, r⟩ => ⟨xs, od, h.trans h1, L2.Paired.mapP r fun _ _ q => ⟨q.1, RW.mono e q.2⟩⟩
theorem OR.there {G : GA} {c : Cf} {a : Addr} : ∀ {o : AO}, OR G c a o → ∃ u, c.H a = some u
  | .lst _, ⟨xs, h1, _⟩ => ⟨_, h1⟩
  | .dic _, ⟨xs, h1, _⟩ => ⟨_, h1⟩
  | .ins _ _, ⟨C, dx, xs, h1, _⟩ => ⟨_, h1⟩
  | .tup _, ⟨xs, h1, _⟩ => ⟨_, h1⟩
  | .dead, ⟨o, h1⟩ => ⟨_, h1⟩
  | .rod _, ⟨xs, od, h1, _⟩ => ⟨_, h1⟩
theorem Cf.ok.there {G : GA} {c : Cf} (k : c.ok G) {i : Nat} {a : Addr} (h : c.μ[i]? = some a) : ∃ u, c.H a = some u := by
  obtain ⟨hl, _⟩ := List.getElem?_eq_some_iff.mp h
  have hl2 : i < c.ah.length := by rw [← k.len]; exact hl
  exact (k.obj i a _ h (List.getElem?_eq_getElem hl2)).there
theorem Cf.ok.at {G : GA} {c : Cf} (k : c.ok G) {i : Nat} {o : AO} (h : c.ah[i]? = some o) : ∃ a, c.μ[i]? = some a ∧ OR G c a o := by
  obtain ⟨hl, _⟩ := List.getElem?_eq_some_iff.mp h
  have hl2 : i < c.μ.length := by rw [k.len]; exact hl
  exact ⟨_, List.getElem?_eq_getElem hl2, k.obj i _ o (List.getElem?_eq_getElem hl2) h⟩
theorem Cf.ok.inj {G : GA} {c : Cf} (k : c.ok G) {i j : Nat} {a : Addr} (h : c.μ[i]? = some a) (h' : c.μ[j]? = some a) : i = j := by
  obtain ⟨h1, e1⟩ := List.getElem?_eq_some_iff.mp h
  obtain ⟨h2, e2⟩ := List.getElem?_eq_some_iff.mp h'
  exact (List.getElem_inj k.nd).mp (e1.trans e2.symm)
/-- an untracked new object -/
def Cf.lay (c : Cf) (p : Addr) (o : HO) : Cf := { c with H := upd c.H p o }
theorem Cf.lay_ext {c : Cf} {p : Addr} {o : HO} (hp : c.H p = none) : c.ext (c.lay p o) :=
  ⟨fun _ _ h => h, fun a u h l => ⟨by show upd c.H p o a = some u; rw [upd_ne (ne_of_none h hp)]; exact h, l⟩, fun i a u _ h2 h3 => ⟨by show upd c.H p o a = some u; rw [upd_ne (ne_of_none h3 hp)]; exact h3, h2⟩, fun i a kvs u _ h2 h3 => ⟨by show upd c.H p o a = some u; rw [upd_ne (ne_of_none h3 hp)]; exact h3, h2⟩⟩
theorem Cf.lay_ok {G : GA} {c : Cf} {p : Addr} {o : HO} (k : c.ok G) (hp : c.H p = none) : (c.lay p o).ok G :=
  ⟨k.len, k.nd, fun i a u h1 h2 => by
    obtain ⟨v, hv⟩ := k.there h1
    exact (k.obj i a u h1 h2).mono (Cf.lay_ext hp) (by show upd c.H p o a = c.H a; rw [upd_ne (ne_of_none hv hp)])⟩
theorem Cf.lay_live {G : GA} {c : Cf} {p : Addr} {o : HO} (k : c.ok G) (hp : c.H p = none) : ¬ (c.lay p o).live p := fun ⟨i, h1⟩ => by
  obtain ⟨v, hv⟩ := k.there (show c.μ[i]? = some p from h1)
  rw [hp] at hv; cases hv
/-- a tracked new object -/
def Cf.new (c : Cf) (p : Addr) (o : HO) (ao : AO) : Cf := ⟨upd c.H p o, c.μ ++ [p], c.ah ++ [ao]⟩
theorem Cf.new_ext {G : GA} {c : Cf} {p : Addr} {o : HO} {ao : AO} (k : c.ok G) (hp : c.H p = none) : c.ext (c.new p o ao) :=
  ⟨fun i a h => by
    show (c.μ ++ [p])[i]? = some a
    rw [List.getElem?_append_left (List.getElem?_eq_some_iff.mp h).1]; exact h,
   fun a u h l => ⟨by show upd c.H p o a = some u; rw [upd_ne (ne_of_none h hp)]; exact h, fun ⟨i, h1⟩ => by
    have h1' : (c.μ ++ [p])[i]? = some a := h1
    by_cases hi : i < c.μ.length
    · rw [List.getElem?_append_left hi] at h1'
      exact l ⟨i, h1'⟩
    · rw [List.getElem?_append_right (Nat.le_of_not_lt hi)] at h1'
      have e : p = a := by
        cases q : i - c.μ.length with
        | zero => rw [q] at h1'; simpa using h1'
        | succ n => rw [q] at h1'; simp at h1'
      rw [← e, hp] at h; cases h⟩,
   fun i a u h1 h2 h3 => ⟨by show upd c.H p o a = some u; rw [upd_ne (ne_of_none h3 hp)]; exact h3, by
    show (c.ah ++ [ao])[i]? = some .dead
    rw [List.getElem?_append_left (List.getElem?_eq_some_iff.mp h2).1]; exact h2⟩,
   fun i a kvs u h1 h2 h3 => ⟨by show upd c.H p o a = some u; rw [upd_ne (ne_of_none h3 hp)]; exact h3, by
    show (c.ah ++ [ao])[i]? = some (.rod kvs)
    rw [List.getElem?_append_left (List.getElem?_eq_some_iff.mp h2).1]; exact h2⟩⟩
theorem Cf.new_ok {G : GA} {c : Cf} {p : Addr} {o : HO} {ao : AO} (k : c.ok G) (hp : c.H p = none) (hn : OR G (c.new p o ao) p ao) : (c.new p o ao).ok G := by
  have ex := Cf.new_ext (o := o) (ao := ao) k hp
  refine ⟨by show (c.μ ++ [p]).length = (c.ah ++ [ao]).length; simp [k.len], ?_, fun i a u h1 h2 => ?_⟩
  · show (c.μ ++ [p]).Nodup
    rw [List.nodup_append]
    refine ⟨k.nd, by simp, fun a ha b hb => ?_⟩
    have e : b = p := by simpa using hb
    subst e
    obtain ⟨i, h⟩ := List.getElem?_of_mem ha
    obtain ⟨v, hv⟩ := k.there h
    exact ne_of_none hv hp
  · have h1' : (c.μ ++ [p])[i]? = some a := h1
    have h2' : (c.ah ++ [ao])[i]? = some u := h2
    by_cases hi : i < c.μ.length
    · rw [List.getElem?_append_left hi] at h1'
      rw [List.getElem?_append_left (by rw [← k.len]; exact hi)] at h2'
      obtain ⟨v, hv⟩ := k.there h1'
      exact (k.obj i a u h1' h2').mono ex (by show upd c.H p o a = c.H a; rw [upd_ne (ne_of_none hv hp)])
    · have hi2 : i = c.μ.length := by
        have : i < (c.μ ++ [p]).length := (List.getElem?_eq_some_iff.mp h1').1
        simp at this; omega
      subst hi2
      have e : p = a := by simpa using h1'
      rw [k.len] at h2'
      have e2 : ao = u := by simpa using h2'
      rw [← e, ← e2]; exact hn
/-- a tracked object changed -/
def Cf.put (c : Cf) (i : Nat) (a : Addr) (o : HO) (ao : AO) : Cf := ⟨upd c.H a o, c.μ, c.ah.set i ao⟩
theorem Cf.put_ext {G : GA} {c : Cf} {i : Nat} {a : Addr} {o : HO} {ao old : AO} (k : c.ok G) (h : c.μ[i]? = some a) (ho : c.ah[i]? = some old) (hd : old ≠ .dead) (hr : ∀ kvs, old ≠ .rod kvs := by intro kvs e; cases e) : c.ext (c.put i a o ao) :=
  ⟨fun _ _ h => h, fun b u hb l => by
    have ne : b ≠ a := fun e => l (e ▸ ⟨i, h⟩)
    exact ⟨by show upd c.H a o b = some u; rw [upd_ne ne]; exact hb, l⟩, fun j b u h1 h2 h3 => by
    have hj : i ≠ j := fun e => hd (by rw [← e, ho] at h2; exact Option.some.inj h2)
    have ne : b ≠ a := fun e => hj (k.inj h (e ▸ h1))
    exact ⟨by show upd c.H a o b = some u; rw [upd_ne ne]; exact h3, by show (c.ah.set i ao)[j]? = some .dead; rw [List.getElem?_set_ne hj]; exact h2⟩, fun j b kvs u h1 h2 h3 => by
    have hj : i ≠ j := fun e => hr kvs (by rw [← e, ho] at h2; exact Option.some.inj h2)
    have ne : b ≠ a := fun e => hj (k.inj h (e ▸ h1))
    exact ⟨by show upd c.H a o b = some u; rw [upd_ne ne]; exact h3, by show (c.ah.set i ao)[j]? = some (.rod kvs); rw [List.getElem?_set_ne hj]; exact h2⟩⟩
theorem Cf.put_ok {G : GA} {c : Cf} {i : Nat} {a : Addr} {o : HO} {ao old : AO} (k : c.ok G) (h : c.μ[i]? = some a) (ho : c.ah[i]? = some old) (hd : old ≠ .dead) (hn : OR G (c.put i a o ao) a ao) (hr : ∀ kvs, old ≠ .rod kvs := by intro kvs e; cases e) : (c.put i a o ao).ok G := by
  refine ⟨by show c.μ.length = (c.ah.set i ao).length; rw [List.length_set]; exact k.len, k.nd, fun j b u h1 h2 => ?_⟩
  have h1' : c.μ[j]? = some b := h1
  have h2' : (c.ah.set i ao)[j]? = some u := h2
  by_cases hj : i = j
  · subst hj
    rw [h] at h1'; cases h1'
    have hl : i < c.ah.length := (List.getElem?_eq_some_iff.mp ho).1
    rw [List.getElem?_set_self hl] at h2'
    cases h2'
    exact hn
  · rw [List.getElem?_set_ne hj] at h2'
    have ne : b ≠ a := fun e => hj (k.inj h (e ▸ h1'))
    exact (k.obj j b u h1' h2').mono (Cf.put_ext k h ho hd hr) (by show upd c.H a o b = c.H b; rw [upd_ne ne])
/-- states that differ in the objects alone: values are the same -/
theorem Rp.same {K : PySem.W.Frag} {c c' : Cf} (hH : c'.H = c.H) (hm : c'.μ = c.μ) {d : PyData} {v : V} (h : Rp K c v d) : Rp K c' v d := by
  obtain ⟨H, μ, ah⟩ := c
  obtain ⟨H', μ', ah'⟩ := c'
  simp only at hH hm
  subst hH hm
  exact Rp.same' h
where
  Rp.same' {K : PySem.W.Frag} {H : Hp} {μ : List Addr} {ah ah' : AH} : ∀ {d : PyData} {v : V}, Rp K ⟨H, μ, ah⟩ v d → Rp K ⟨H, μ, ah'⟩ v d
    | _, _, .non => .non
    | _, _, .bl b => .bl b
    | _, _, .int i => .int i
    | _, _, .str x => .str x
    | _, _, .lst l h r => .lst l h (RpL.same' r)
    | _, _, .tup l h r => .tup l h (RpL.same' r)
    | _, _, .tupK h r => .tupK h (RpL.same' r)
    | _, _, .dic l h r => .dic l h (RpD.same' r)
  RpL.same' {K : PySem.W.Frag} {H : Hp} {μ : List Addr} {ah ah' : AH} : ∀ {d : List PyData} {v : List V}, RpL K ⟨H, μ, ah⟩ v d → RpL K ⟨H, μ, ah'⟩ v d
    | _, _, .nil => .nil
    | _, _, .cons h r => .cons (Rp.same' h) (RpL.same' r)
  RpD.same' {K : PySem.W.Frag} {H : Hp} {μ : List Addr} {ah ah' : AH} : ∀ {d : List (PyData × PyData)} {v : List (Key × V)}, RpD K ⟨H, μ, ah⟩ v d → RpD K ⟨H, μ, ah'⟩ v d
    | _, _, .nil => .nil
    | _, _, .cons h r => .cons (Rp.same' h) (RpD.same' r)
theorem RW.same {G : GA} {c c' : Cf} (hH : c'.H = c.H) (hm : c'.μ = c.μ) {v : V} : ∀ {w : W}, RW G c v w → RW G c' v w
  | .d _, h => Rp.same hH hm h
  | .r _, ⟨a, h1, h2⟩ => ⟨a, h1, by rw [hm]; exact h2⟩
  | .fn _, h => h
  | .ex _, ⟨a, C, h1, h2, h3, h4⟩ => ⟨a, C, h1, h2, fun ⟨i, q⟩ => h3 ⟨i, by rw [← hm]; exact q⟩, by rw [hH]; exact h4⟩
theorem OR.same {G : GA} {c c' : Cf} (hH : c'.H = c.H) (hm : c'.μ = c.μ) {a : Addr} : ∀ {o : AO}, OR G c a o → OR G c' a o
  | .lst _, ⟨xs, h1, r⟩ => ⟨xs, by rw [hH]; exact h1, L2.Paired.mapP r fun _ _ q => RW.same hH hm q⟩
  | .dic _, ⟨xs, h1, r⟩ => ⟨xs, by rw [hH]; exact h1, L2.Paired.mapP r fun _ _ q => ⟨q.1, RW.same hH hm q.2⟩⟩
  | .ins _ _, ⟨C, dx, xs, h1, h2, r⟩ => ⟨C, dx, xs, by rw [hH]; exact h1, h2, L2.Paired.mapP r fun _ _ q => ⟨q.1, RW.same hH hm q.2⟩⟩
  | .tup _, ⟨xs, h1, r⟩ => ⟨xs, by rw [hH]; exact h1, L2.Paired.mapP r fun _ _ q => RW.same hH hm q⟩
  | .dead, ⟨o, h1⟩ => ⟨o, by rw [hH]; exact h1⟩
  | .rod _, ⟨xs, od, h1, r⟩ => ⟨xs, od, by rw [hH]; exact h1, L2.Paired.mapP r fun _ _ q => ⟨q.1, RW.same hH hm q.2⟩⟩
/-- an object locked, and unlocked -/
def Cf.obj (c : Cf) (i : Nat) (ao : AO) : Cf := { c with ah := c.ah.set i ao }
theorem Cf.lock_ok {G : GA} {c : Cf} {i : Nat} (k : c.ok G) : (c.obj i .dead).ok G := by
  refine ⟨by show c.μ.length = (c.ah.set i .dead).length; rw [List.length_set]; exact k.len, k.nd, fun j b u h1 h2 => ?_⟩
  have h1' : c.μ[j]? = some b := h1
  have h2' : (c.ah.set i .dead)[j]? = some u := h2
  by_cases hj : i = j
  · subst hj
    have hl : i < c.ah.length := by
      have := (List.getElem?_eq_some_iff.mp h2').1
      rwa [List.length_set] at this
    rw [List.getElem?_set_self hl] at h2'
    cases h2'
    exact k.there h1'
  · rw [List.getElem?_set_ne hj] at h2'
    exact OR.same (c := c) (c' := c.obj i .dead) rfl rfl (k.obj j b u h1' h2')
theorem Cf.unlock {G : GA} {c c3 : Cf} {i : Nat} {ao : AO} {a : Addr} {o : HO} (k : c.ok G) (hi : c.μ[i]? = some a) (ho : c.ah[i]? = some ao) (hd : ao ≠ .dead) (hr : ∀ kvs, ao ≠ .rod kvs) (hH : c.H a = some o) (hor : ∀ c', c'.H a = some o → c.ext c' → OR G c' a ao) (ex : (c.obj i .dead).ext c3) (k3 : c3.ok G) :
    c.ext (c3.obj i ao) ∧ (c3.obj i ao).ok G := by
  have hl : i < c.ah.length := (List.getElem?_eq_some_iff.mp ho).1
  have hd3 := ex.dead i a o hi (by show (c.ah.set i .dead)[i]? = some .dead; exact List.getElem?_set_self hl) hH
  have exu : c.ext (c3.obj i ao) := by
    refine ⟨fun j b h => ex.pre j b h, fun b u h l => ex.keep b u h l, fun j b u h1 h2 h3 => ?_, fun j b kvs u h1 h2 h3 => by
      have hj : i ≠ j := fun e => hr kvs (by rw [← e, ho] at h2; exact Option.some.inj h2)
      obtain ⟨h4, h5⟩ := ex.rod j b kvs u h1 (by show (c.ah.set i .dead)[j]? = some (.rod kvs); rw [List.getElem?_set_ne hj]; exact h2) h3
      exact ⟨h4, by show (c3.ah.set i ao)[j]? = some (.rod kvs); rw [List.getElem?_set_ne hj]; exact h5⟩⟩
    have hj : i ≠ j := fun e => hd (by rw [← e, ho] at h2; exact Option.some.inj h2)
    obtain ⟨h4, h5⟩ := ex.dead j b u h1 (by show (c.ah.set i .dead)[j]? = some .dead; rw [List.getElem?_set_ne hj]; exact h2) h3
    exact ⟨h4, by show (c3.ah.set i ao)[j]? = some .dead; rw [List.getElem?_set_ne hj]; exact h5⟩
  refine ⟨exu, ⟨by show c3.μ.length = (c3.ah.set i ao).length; rw [List.length_set]; exact k3.len, k3.nd, fun j b u h1 h2 => ?_⟩⟩
  have h1' : c3.μ[j]? = some b := h1
  have h2' : (c3.ah.set i ao)[j]? = some u := h2
  by_cases hj : i = j
  · subst hj
    rw [ex.pre i a hi] at h1'; cases h1'
    rw [List.getElem?_set_self (List.getElem?_eq_some_iff.mp hd3.2).1] at h2'
    cases h2'
    exact hor _ hd3.1 exu
  · rw [List.getElem?_set_ne hj] at h2'
    exact OR.same (c := c3) (c' := c3.obj i ao) rfl rfl (k3.obj j b u h1' h2')
end Ev
set_option Elab.async false
set_option linter.all false
set_option maxRecDepth 100000
set_option maxHeartbeats 2000000
/-! E2: what soundness says; the context. -/
namespace Ev
open PySem PySem.Spec PyProof.Rows L2

structure Sc where
  N : List Str
  scope : Scope
  own : Str → Bool
structure Tb where
  defs : List Str
  clss : List Str
  excs : List Str
  cons : List (Str × PyData)
  free : List Str
  flds : List Str
  meths : List FId
  sups : List (Str × List Str)
  xt : List Str
  dfls : List (FId × Nat × List PyData) := []
  kwds : List (FId × Nat × List Str) := []
  nopos : List FId := []
  dnames : List Str := []
def Tb.catches (T : Tb) (c x : Str) : Bool := match T.sups.lookup c with
  | some l => l.contains x
  | none => false

def EnvR (G : GA) (c : Cf) (env : EnvW) (σ : L2.St) : Prop := env.length = σ.length ∧ ∀ (i : Nat) (w : W), env[i]? = some (some w) → ∃ v, σ[i]? = some (some v) ∧ RW G c v w
theorem EnvR.mono {G : GA} {c c' : Cf} {env : EnvW} {σ : L2.St} (e : c.ext c') (h : EnvR G c env σ) : EnvR G c' env σ :=
  ⟨h.1, fun i w q => let ⟨v, h1, h2⟩ := h.2 i w q; ⟨v, h1, RW.mono e h2⟩⟩
theorem EnvR.set {G : GA} {c : Cf} {env : EnvW} {σ : L2.St} (h : EnvR G c env σ) {i : Nat} {v : V} {w : W} (r : RW G c v w) : EnvR G c (env.set i (some w)) (σ.set i (some v)) := by
  refine ⟨by simp [h.1], fun j u q => ?_⟩
  by_cases hj : i = j
  · subst hj
    by_cases hl : i < env.length
    · rw [List.getElem?_set_self hl] at q
      cases q
      exact ⟨v, List.getElem?_set_self (by rw [← h.1]; exact hl), r⟩
    · rw [List.getElem?_eq_none (by simpa using hl)] at q; cases q
  · rw [List.getElem?_set_ne hj] at q ⊢
    exact h.2 j u q
theorem EnvR.unset {G : GA} {c : Cf} {env : EnvW} {σ : L2.St} (h : EnvR G c env σ) {i : Nat} {s : Option V} : EnvR G c (env.set i none) (σ.set i s) := by
  refine ⟨by simp [h.1], fun j u q => ?_⟩
  by_cases hj : i = j
  · subst hj
    by_cases hl : i < env.length
    · rw [List.getElem?_set_self hl] at q
      cases q
    · rw [List.getElem?_eq_none (by simpa using hl)] at q; cases q
  · rw [List.getElem?_set_ne hj] at q ⊢
    exact h.2 j u q

/-- an exception of the class called e -/
def WEx (G : GA) (Wx : WX) (e : Str) (σ : L2.St) (H : Hp) : Prop := ∀ C, G.xa e = some C → Wx (.ref C) none σ H
def tE (G : GA) (Wx : WX) (m : ME) : TE := fun σ H Q => ∃ c env, c.H = H ∧ c.ok G ∧ EnvR G c env σ ∧ Po G (m env c.ah) c (fun w c' => ∀ v, RW G c' v w → Q v c'.H) (fun e c' => WEx G Wx e σ c'.H)
def tT (G : GA) (Wx : WX) (m : EnvW → M Bool) : TT := fun σ H Q => ∃ c env, c.H = H ∧ c.ok G ∧ EnvR G c env σ ∧ Po G (m env c.ah) c (fun b c' => Q b c'.H) (fun e c' => WEx G Wx e σ c'.H)
def tA (G : GA) (Wx : WX) (m : EnvW → M (List W)) : TA := fun σ H Q => ∃ c env, c.H = H ∧ c.ok G ∧ EnvR G c env σ ∧ Po G (m env c.ah) c (fun ws c' => ∀ vs, RWL G c' vs ws → Q vs c'.H) (fun e c' => WEx G Wx e σ c'.H)
def FlP (G : GA) (D : Ends) (fl : Fl) (c' : Cf) : Prop := match fl with
  | .nx env' => ∀ σ', EnvR G c' env' σ' → D.nx σ' c'.H
  | .rt w => ∀ v, RW G c' v w → D.rt v c'.H
  | .bk env' => ∀ σ', EnvR G c' env' σ' → D.bk σ' c'.H
  | .ct env' => ∀ σ', EnvR G c' env' σ' → D.ct σ' c'.H
def tS (G : GA) (Ex : XK) (m : MS) : TS := fun D σ H => ∃ c env, c.H = H ∧ c.ok G ∧ EnvR G c env σ ∧ Po G (m env c.ah) c (FlP G D) (fun e c' => ∀ C, G.xa e = some C → Ex (.ref C) none c'.H)

/-- a def's promise by its result -/
def spM (G : GA) (m : List W → M W) (n : Nat) : Sp := fun vs H Q E => vs.length = n ∧ ∃ c ws, c.H = H ∧ c.ok G ∧ RWL G c vs ws ∧ Po G (m ws c.ah) c (fun w c' => ∀ v, RW G c' v w → Q v c'.H) (fun e c' => ∀ C, G.xa e = some C → E (.ref C) none c'.H)

/-- how a def's parameters are bound: all written, the last ones lacking, the last ones by their names -/
structure BindsD (T : Tb) (G : GA) (K : PySem.W.Frag) (f : FId) (fd : FuncData) (ps : List Str) : Prop where
  pos : T.nopos.contains f = false → Binds K fd ps []
  dfl : ∀ n ds, T.dfls.lookup f = some (n, ds) → ps.length = n + ds.length ∧ ∃ dvs us, Vals dvs us ∧ (∀ c, RpL G.K c dvs ds) ∧ Binds K fd ps us
  kwd : ∀ n ks, T.kwds.lookup f = some (n, ks) → ps.length = n + ks.length ∧ KBn K fd ps n ks (fun us ws => us ++ ws) (fun vs zs => vs ++ zs)
/-- what the top has left, for a context -/
structure Top (T : Tb) (G : GA) (CM : FId → List W → M W) (k : Nat) (X : Cx) : Prop where
  fn : ∀ f a, G.fa f = some a → ∃ fd ps, FnOk X.prog X.w X.K X.mg X.base (CX X.prog X.w) (2 * k) a fd ps (spM G (CM f) ps.length) ∧ BindsD T G X.K f fd ps ∧ PySem.W.keepIn X.K (.ref a) = true ∧ ∀ ws h, ws.length ≠ ps.length → CM f ws h = .no
  def_ : ∀ f, f ∈ T.defs → ∃ a, G.fa (pl f) = some a ∧ X.mg f = some (.ref a)
  con : ∀ x d, T.cons.lookup x = some d → ∃ u v, X.mg x = some u ∧ RelV v u ∧ ∀ c, Rp G.K c v d
  free : ∀ x, x ∈ T.free → X.mg x = none
  exc : ∀ x, x ∈ T.excs → ∃ Ca, G.xa x = some Ca ∧ X.mg x = some (.ref Ca) ∧ PySem.W.excIn X.K Ca [.type "LookupError", .type "Exception", .type "BaseException", .type "object"] "LookupError.__new__" = true ∧ PySem.W.keepIn X.K (.ref Ca) = true ∧ Raises X (.ref Ca)
  cls : ∀ x, x ∈ T.clss → ∃ Ca fi, G.ca x = some Ca ∧ X.mg x = some (.ref Ca) ∧ Mk X.K Ca fi ∧ G.fa (x, "__init__") = some fi
  own : ∀ x Ca, G.ca x = some Ca → Cls X.K Ca ∧ ∀ f, f ∈ T.flds → NoAttr X.K Ca f
  meth : ∀ x m, (x, m) ∈ T.meths → ∃ Ca a, G.ca x = some Ca ∧ G.fa (x, m) = some a ∧ Meth X.K Ca m a
  isx : ∀ x, x ∈ T.xt → ∃ v u, (X.mg x = some u ∨ (X.mg x = none ∧ bootBuiltins x = some u)) ∧ ClsV v u ∧ RelV v u ∧ ∀ c C, G.xa c = some C → ExcC X.K C ∧ PySem.W.kitOne X.K (.ref C) u = some (T.catches c x)
  catch_ : ∀ c C x Ca, G.xa c = some C → G.xa x = some Ca → x ∈ T.excs → ∃ b, PySem.W.exmOne X.K (.ref C) (.ref Ca) = some b ∧ b = T.catches c x
structure Fits (T : Tb) (G : GA) (CM : FId → List W → M W) (k : Nat) (X : Cx) (sc : Sc) (Wx : WX) : Prop where
  N : X.N = sc.N
  nd : sc.N.Nodup
  scope : X.env.scope = sc.scope
  K : X.K = G.K
  own : ∀ x, sc.own x = true → X.fn x = true
  calm : X.calm = true
  room : Room (2 * k + 1) X.A
  takes : Takes X Wx
  top : Top T G CM k X

section
variable (T : Tb) (G : GA) (CM : FId → List W → M W) (k : Nat) (sc : Sc)
def SE (e : Expr) (m : ME) : Prop := ∀ X Wx, Fits T G CM k X sc Wx → PE X e (tE G Wx m)
def ST (e : Expr) (m : EnvW → M Bool) : Prop := ∀ X Wx, Fits T G CM k X sc Wx → PT X e (tT G Wx m)
def SA (es : List Expr) (m : EnvW → M (List W)) : Prop := ∀ X Wx, Fits T G CM k X sc Wx → PA X es (tA G Wx m)
/-- statements: exceptions whatever the slots, in a frame of a def -/
def SS (st : Stmt) (m : MS) : Prop := ∀ X Ex, Fits T G CM k X sc (fun cls d _ H => Ex cls d H) → PassesOwn (model X.prog X.w) X.A X.env X.xe → X.stack = X.env :: X.outer → (X.env.frame = some X.env.locals ∧ X.ex = []) → PS X st (tS G Ex m)
def SSs (sts : List Stmt) (m : MS) : Prop := ∀ X Ex, Fits T G CM k X sc (fun cls d _ H => Ex cls d H) → PassesOwn (model X.prog X.w) X.A X.env X.xe → X.stack = X.env :: X.outer → (X.env.frame = some X.env.locals ∧ X.ex = []) → PSs X sts (tS G Ex m)
end

theorem PE.imp {X : Cx} {e : Expr} {t t' : TE} (h : PE X e t) (i : ∀ σ H Q, t' σ H Q → t σ H Q) : PE X e t' := ⟨fun p s σ H Q I q => h.run p s σ H Q I (i _ _ _ q)⟩
theorem PT.imp {X : Cx} {e : Expr} {t t' : TT} (h : PT X e t) (i : ∀ σ H Q, t' σ H Q → t σ H Q) : PT X e t' := ⟨fun p s σ H Q I q => h.run p s σ H Q I (i _ _ _ q)⟩
theorem PA.imp {X : Cx} {e : List Expr} {t t' : TA} (h : PA X e t) (i : ∀ σ H Q, t' σ H Q → t σ H Q) : PA X e t' := ⟨fun pos p s σ H Q I q => h.run pos p s σ H Q I (i _ _ _ q)⟩
theorem PS.imp {X : Cx} {e : Stmt} {t t' : TS} (h : PS X e t) (i : ∀ D σ H, t' D σ H → t D σ H) : PS X e t' := ⟨fun p s σ H D I q => h.run p s σ H D I (i _ _ _ q)⟩
theorem PSs.imp {X : Cx} {e : List Stmt} {t t' : TS} (h : PSs X e t) (i : ∀ D σ H, t' D σ H → t D σ H) : PSs X e t' := ⟨fun p s σ H D I q => h.run p s σ H D I (i _ _ _ q)⟩

/-! ### the state behind a part -/
section
variable {G : GA} {Wx : WX} {σ : L2.St}
/-- the reading of a part in the midst: m then f -/
theorem tE.step {m : ME} {c : Cf} {env : EnvW} {β : Type} {f : W → M β} {F : β → Cf → Prop} {Q : VK} (k : c.ok G) (r : EnvR G c env σ)
    (h : Po G (mbind (m env) f c.ah) c F (fun e c' => WEx G Wx e σ c'.H))
    (n : ∀ w c1 v, c.ext c1 → c1.ok G → EnvR G c1 env σ → RW G c1 v w → Po G (f w c1.ah) c1 F (fun e c' => WEx G Wx e σ c'.H) → Q v c1.H) : tE G Wx m σ c.H Q :=
  ⟨c, env, rfl, k, r, Po.mono (Po.bind h) (fun w c1 e o q v rv => n w c1 v e o (r.mono e) rv q) fun _ _ _ _ q => q⟩
theorem tT.step {m : EnvW → M Bool} {c : Cf} {env : EnvW} {β : Type} {f : Bool → M β} {F : β → Cf → Prop} {Q : Bool → Hp → Prop} (k : c.ok G) (r : EnvR G c env σ)
    (h : Po G (mbind (m env) f c.ah) c F (fun e c' => WEx G Wx e σ c'.H))
    (n : ∀ w c1, c.ext c1 → c1.ok G → EnvR G c1 env σ → Po G (f w c1.ah) c1 F (fun e c' => WEx G Wx e σ c'.H) → Q w c1.H) : tT G Wx m σ c.H Q :=
  ⟨c, env, rfl, k, r, Po.mono (Po.bind h) (fun w c1 e o q => n w c1 e o (r.mono e) q) fun _ _ _ _ q => q⟩
theorem tA.step {m : EnvW → M (List W)} {c : Cf} {env : EnvW} {β : Type} {f : List W → M β} {F : β → Cf → Prop} {Q : List V → Hp → Prop} (k : c.ok G) (r : EnvR G c env σ)
    (h : Po G (mbind (m env) f c.ah) c F (fun e c' => WEx G Wx e σ c'.H))
    (n : ∀ w c1 v, c.ext c1 → c1.ok G → EnvR G c1 env σ → RWL G c1 v w → Po G (f w c1.ah) c1 F (fun e c' => WEx G Wx e σ c'.H) → Q v c1.H) : tA G Wx m σ c.H Q :=
  ⟨c, env, rfl, k, r, Po.mono (Po.bind h) (fun w c1 e o q v rv => n w c1 v e o (r.mono e) rv q) fun _ _ _ _ q => q⟩
end
/-- a result that stays where it is -/
theorem Po.here {α : Type} {G : GA} {a : α} {c : Cf} {F : α → Cf → Prop} {E : Str → Cf → Prop} (h : Po G (.ok a c.ah) c F E) (k : c.ok G) : F a c := h c (Cf.ext.refl c) k rfl
theorem Po.at {α : Type} {G : GA} {a : α} {c c' : Cf} {F : α → Cf → Prop} {E : Str → Cf → Prop} (h : Po G (.ok a c'.ah) c F E) (e : c.ext c') (k : c'.ok G) : F a c' := h c' e k rfl

/-! ### names, constants -/
def slot (sc : Sc) (x : Str) : Option Nat := if x == ("__debug__" : Str) || x == ("__classdict__" : Str) then none else match sc.scope.names.lookup x with
  | some .local => sc.N.idxOf? x
  | some .cell => sc.N.idxOf? x
  | some .free => sc.N.idxOf? x
  | _ => none
def isGlob (sc : Sc) (x : Str) : Bool := !(x == ("__debug__" : Str)) && !(x == ("__name__" : Str)) && match sc.scope.names.lookup x with
  | some .globalImplicit => true
  | _ => false
def mVar (i : Nat) : ME := fun env h => match env[i]? with
  | some (some w) => .ok w h
  | _ => .no
def mC (w : W) : ME := fun _ h => .ok w h
def evName (T : Tb) (sc : Sc) (x : Str) : ME := match slot sc x with
  | some i => mVar i
  | none => if isGlob sc x then (match T.cons.lookup x with
    | some d => mC (.d d)
    | none => if T.defs.contains x then mC (.fn x) else fun _ => mno) else fun _ => mno
theorem slot_ok {sc : Sc} {x : Str} {i : Nat} (h : slot sc x = some i) : sc.N[i]? = some x ∧ Vis sc.scope x ∧ (x == ("__debug__" : Str)) = false ∧ (x == ("__classdict__" : Str)) = false := by
  unfold slot at h
  split at h
  · cases h
  · rename_i hd
    have hd' : (x == ("__debug__" : Str)) = false ∧ (x == ("__classdict__" : Str)) = false := by
      simpa [Bool.or_eq_false_iff] using hd
    have fin : ∀ {i}, sc.N.idxOf? x = some i → sc.N[i]? = some x := fun {i} q => by
      unfold List.idxOf? at q
      obtain ⟨hl, h1, _⟩ := List.findIdx?_eq_some_iff_getElem.mp q
      rw [List.getElem?_eq_getElem hl]
      exact congrArg some (by simpa using h1)
    split at h
    · rename_i hk; exact ⟨fin h, .inl hk, hd'⟩
    · rename_i hk; exact ⟨fin h, .inr (.inl hk), hd'⟩
    · rename_i hk; exact ⟨fin h, .inr (.inr hk), hd'⟩
    · cases h
theorem glob_ok {sc : Sc} {x : Str} (h : isGlob sc x = true) : sc.scope.names.lookup x = some .globalImplicit ∧ (x == ("__debug__" : Str)) = false ∧ x ≠ "__name__" := by
  unfold isGlob at h
  simp only [Bool.and_eq_true, Bool.not_eq_true'] at h
  obtain ⟨⟨h1, h2⟩, h3⟩ := h
  refine ⟨?_, h1, fun e => ?_⟩
  · split at h3
    · assumption
    · cases h3
  · rw [e] at h2
    simp at h2
section
variable {T : Tb} {G : GA} {CM : FId → List W → M W} {k : Nat} {sc : Sc}
theorem se_no {e : Expr} : SE T G CM k sc e (fun _ => mno) := fun X Wx F => ⟨fun p s σ H Q I h => by
  obtain ⟨c, env, _, _, _, h⟩ := h
  exact h.elim⟩
theorem se_var {x : Str} {pos : Pos} {i : Nat} (h : slot sc x = some i) : SE T G CM k sc (.Name x pos) (mVar i) := fun X Wx F => by
  obtain ⟨h1, h2, h3, h4⟩ := slot_ok h
  refine PE.imp (pe_var (X := X) (i := i) (pos := pos) (by rw [F.N]; exact h1) (by rw [F.scope]; exact h2) h3 h4) fun σ H Q q => ?_
  obtain ⟨c, env, rfl, ok, r, q⟩ := q
  unfold mVar at q
  split at q
  · rename_i w hw
    obtain ⟨v, hv, rv⟩ := r.2 i w hw
    exact ⟨v, hv, q.here ok v rv⟩
  · exact q.elim
theorem Fits.gl {X : Cx} {Wx : WX} (F : Fits T G CM k X sc Wx) {x : Str} (h : isGlob sc x = true) : Gl X x := by
  show X.env.scope.names.lookup x = some .globalImplicit
  rw [F.scope]; exact (glob_ok h).1
theorem se_name {x : Str} {pos : Pos} : SE T G CM k sc (.Name x pos) (evName T sc x) := by
  unfold evName
  split
  · rename_i i h; exact se_var h
  · split
    · rename_i hg
      split
      · rename_i d hd
        intro X Wx F
        obtain ⟨u, v, h1, h2, h3⟩ := F.top.con x d hd
        refine PE.imp (pe_glob (X := X) (pos := pos) (F.gl hg) h1 h2 (glob_ok hg).2.1) fun σ H Q q => ?_
        obtain ⟨c, env, rfl, ok, r, q⟩ := q
        exact Po.here (a := W.d d) q ok v (h3 c)
      · split
        · rename_i hc
          intro X Wx F
          obtain ⟨a, h1, h2⟩ := F.top.def_ x (by simpa using hc)
          refine PE.imp (pe_glob (X := X) (v := .ref a) (pos := pos) (F.gl hg) h2 rfl (glob_ok hg).2.1) fun σ H Q q => ?_
          obtain ⟨c, env, rfl, ok, r, q⟩ := q
          exact Po.here (a := W.fn x) q ok _ ⟨a, rfl, h1⟩
        · exact se_no
    · exact se_no
def evConst : Const → ME
  | .int i => mC (.d (.int i))
  | .str x => mC (.d (.str x))
  | .bool b => mC (.d (.bool b))
  | .none => mC (.d .none)
  | _ => fun _ => mno
theorem se_const {x : Const} {j : Nat} {pos : Pos} : SE T G CM k sc (.Constant x j pos) (evConst x) := by
  cases x with
  | int i => exact fun X Wx F => PE.imp pe_int fun σ H Q ⟨c, env, e, ok, r, q⟩ => by subst e; exact Po.here (a := W.d (.int i)) q ok _ (.int i)
  | str i => exact fun X Wx F => PE.imp pe_str fun σ H Q ⟨c, env, e, ok, r, q⟩ => by subst e; exact Po.here (a := W.d (.str i)) q ok _ (.str i)
  | bool i => exact fun X Wx F => PE.imp pe_bl fun σ H Q ⟨c, env, e, ok, r, q⟩ => by subst e; exact Po.here (a := W.d (.bool i)) q ok _ (.bl i)
  | none => exact fun X Wx F => PE.imp pe_non fun σ H Q ⟨c, env, e, ok, r, q⟩ => by subst e; exact Po.here (a := W.d .none) q ok _ .non
  | _ => exact se_no
end
end Ev
set_option Elab.async false
set_option linter.all false
set_option maxRecDepth 100000
set_option maxHeartbeats 2000000
/-! E3: operators, comparisons, and, or, not, if. -/
namespace Ev
open PySem PySem.Spec PyProof.Rows L2

def VQ (G : GA) (Q : VK) : W → Cf → Prop := fun w c' => ∀ v, RW G c' v w → Q v c'.H
def Op2 (G : GA) (f : W → W → M W) (r : R2) : Prop := ∀ (c : Cf) (x y : V) (a b : W) (Q : VK) (E : Str → Cf → Prop), c.ok G → RW G c x a → RW G c y b → Po G (f a b c.ah) c (VQ G Q) E → r x y c.H Q
def Op1 (G : GA) (f : W → M W) (r : V → Hp → VK → Prop) : Prop := ∀ (c : Cf) (x : V) (a : W) (Q : VK) (E : Str → Cf → Prop), c.ok G → RW G c x a → Po G (f a c.ah) c (VQ G Q) E → r x c.H Q
def wI (i : Int) : W := .d (.int i)
def wB (b : Bool) : W := .d (.bool b)
def wS (x : Str) : W := .d (.str x)

section
variable {G : GA} {c : Cf}
theorem rInt {v : V} {i : Int} (h : RW G c v (wI i)) : v = .int i := by cases (show Rp G.K c v (.int i) from h); rfl
theorem rBool {v : V} {i : Bool} (h : RW G c v (wB i)) : v = .bl i := by cases (show Rp G.K c v (.bool i) from h); rfl
theorem rStr {v : V} {i : Str} (h : RW G c v (wS i)) : v = .str i := by cases (show Rp G.K c v (.str i) from h); rfl
theorem rNon {v : V} (h : RW G c v (.d .none)) : v = .non := by cases (show Rp G.K c v .none from h); rfl
theorem rTup {v : V} {ds : List PyData} (h : RW G c v (.d (.tuple ds))) : ∃ a xs, v = .ref a ∧ SqT G.K c.H a xs ∧ RpL G.K c xs ds := by
  cases (show Rp G.K c v (.tuple ds) from h) with
  | tup l1 h1 r1 => exact ⟨_, _, rfl, .inl h1, r1⟩
  | tupK h1 r1 => exact ⟨_, _, rfl, .inr h1, r1⟩
theorem rLst {v : V} {ds : List PyData} (h : RW G c v (.d (.list ds))) : ∃ a xs, v = .ref a ∧ SqL G.K c.H a xs ∧ RpL G.K c xs ds := by
  cases (show Rp G.K c v (.list ds) from h) with
  | lst l1 h1 r1 => exact ⟨_, _, rfl, .inl h1, r1⟩
theorem rRef {v : V} {i : Nat} {o : AO} (k : c.ok G) (h : RW G c v (.r i)) (ho : c.ah[i]? = some o) : ∃ a, v = .ref a ∧ c.μ[i]? = some a ∧ OR G c a o := by
  obtain ⟨a, h1, h2⟩ := h
  exact ⟨a, h1, h2, k.obj i a o h2 ho⟩
theorem RpL.length {K : PySem.W.Frag} : ∀ {xs : List V} {ds : List PyData}, RpL K c xs ds → xs.length = ds.length
  | _, _, .nil => rfl
  | _, _, .cons _ r => by simp [RpL.length r]
theorem RpL.append {K : PySem.W.Frag} : ∀ {xs ys : List V} {ds es : List PyData}, RpL K c xs ds → RpL K c ys es → RpL K c (xs ++ ys) (ds ++ es)
  | _, _, _, _, .nil, s => s
  | _, _, _, _, .cons h r, s => .cons h (RpL.append r s)
theorem RpL.take {K : PySem.W.Frag} : ∀ {xs : List V} {ds : List PyData} (n : Nat), RpL K c xs ds → RpL K c (xs.take n) (ds.take n)
  | _, _, 0, _ => .nil
  | _, _, _ + 1, .nil => .nil
  | _, _, n + 1, .cons h r => .cons h (RpL.take n r)
theorem RpL.drop {K : PySem.W.Frag} : ∀ {xs : List V} {ds : List PyData} (n : Nat), RpL K c xs ds → RpL K c (xs.drop n) (ds.drop n)
  | _, _, 0, r => r
  | _, _, _ + 1, .nil => .nil
  | _, _, n + 1, .cons _ r => RpL.drop n r
theorem RpL.get {K : PySem.W.Frag} : ∀ {xs : List V} {ds : List PyData} {i : Nat} {d : PyData}, RpL K c xs ds → ds[i]? = some d → ∃ v, xs[i]? = some v ∧ Rp K c v d
  | _, _, _, _, .nil, e => by simp at e
  | _, _, 0, _, .cons h _, e => by simp at e; subst e; exact ⟨_, rfl, h⟩
  | _, _, i + 1, d, .cons _ t, e => by
    obtain ⟨v, h1, h2⟩ := RpL.get (i := i) (d := d) t (by simpa using e)
    exact ⟨v, by simpa using h1, h2⟩
theorem RWL.get : ∀ {xs : List V} {ws : List W} {i : Nat} {w : W}, RWL G c xs ws → ws[i]? = some w → ∃ v, xs[i]? = some v ∧ RW G c v w
  | _, _, _, _, .nil, e => by simp at e
  | _, _, 0, _, .cons h _, e => by simp at e; subst e; exact ⟨_, rfl, h⟩
  | _, _, i + 1, d, .cons _ t, e => by
    obtain ⟨v, h1, h2⟩ := RWL.get (i := i) (w := d) t (by simpa using e)
    exact ⟨v, by simpa using h1, h2⟩
theorem RWL.append : ∀ {xs ys : List V} {ds es : List W}, RWL G c xs ds → RWL G c ys es → RWL G c (xs ++ ys) (ds ++ es)
  | _, _, _, _, .nil, s => s
  | _, _, _, _, .cons h r, s => .cons h (RWL.append r s)
/-- a new list, tracked -/
theorem new_list {xs : List V} {ws : List W} {p : Addr} {Q : VK} {E : Str → Cf → Prop} (k : c.ok G) (r : RWL G c xs ws) (hp : c.H p = none) (h : Po G (.ok (W.r c.ah.length) (c.ah ++ [.lst ws])) c (VQ G Q) E) : Q (.ref p) (upd c.H p (.lst xs)) := by
  have ex := Cf.new_ext (o := .lst xs) (ao := .lst ws) k hp
  have ok : (c.new p (.lst xs) (.lst ws)).ok G := Cf.new_ok k hp ⟨xs, upd_same, RWL.mono ex r⟩
  refine Po.at (c' := c.new p (.lst xs) (.lst ws)) h ex ok (.ref p) ⟨p, rfl, ?_⟩
  show (c.μ ++ [p])[c.ah.length]? = some p
  rw [← k.len]; simp
/-- a new tuple that holds objects, tracked -/
theorem new_tupW {xs : List V} {ws : List W} {p : Addr} {Q : VK} {E : Str → Cf → Prop} (k : c.ok G) (r : RWL G c xs ws) (hp : c.H p = none) (h : Po G (.ok (W.r c.ah.length) (c.ah ++ [.tup ws])) c (VQ G Q) E) : Q (.ref p) (upd c.H p (.tup xs)) := by
  have ex := Cf.new_ext (o := .tup xs) (ao := .tup ws) k hp
  have ok : (c.new p (.tup xs) (.tup ws)).ok G := Cf.new_ok k hp ⟨xs, upd_same, RWL.mono ex r⟩
  refine Po.at (c' := c.new p (.tup xs) (.tup ws)) h ex ok (.ref p) ⟨p, rfl, ?_⟩
  show (c.μ ++ [p])[c.ah.length]? = some p
  rw [← k.len]; simp
/-- a new tuple -/
theorem new_tup {xs : List V} {ds : List PyData} {p : Addr} {Q : VK} {E : Str → Cf → Prop} (k : c.ok G) (r : RpL G.K c xs ds) (hp : c.H p = none) (h : Po G (.ok (W.d (.tuple ds)) c.ah) c (VQ G Q) E) : Q (.ref p) (upd c.H p (.tup xs)) := by
  have ex := Cf.lay_ext (o := .tup xs) hp
  exact Po.at (c' := c.lay p (.tup xs)) h ex (Cf.lay_ok k hp) (.ref p) (.tup (Cf.lay_live k hp) (.inl upd_same) (RpL.mono ex r))
end

/-! ### binary operators -/
def bAdd (a b : W) : M W := fun h => match a, b with
  | .d (.int i), .d (.int j) => .ok (wI (i + j)) h
  | .d (.str x), .d (.str y) => if x.length + y.length ≤ sizeLine then .ok (wS (x ++ y)) h else .no
  | .d (.tuple x), .d (.tuple y) => if x.length + y.length ≤ sizeLine then .ok (.d (.tuple (x ++ y))) h else .no
  | .r i, .r j => (match h[i]?, h[j]? with
    | some (.lst x), some (.lst y) => if x.length + y.length ≤ sizeLine then .ok (.r h.length) (h ++ [.lst (x ++ y)]) else .no
    | _, _ => .no)
  | .r i, .d (.list y) => (match h[i]? with
    | some (.lst x) => if x.length + y.length ≤ sizeLine then .ok (.r h.length) (h ++ [.lst (x ++ y.map .d)]) else .no
    | _ => .no)
  | .d (.list x), .r j => (match h[j]? with
    | some (.lst y) => if x.length + y.length ≤ sizeLine then .ok (.r h.length) (h ++ [.lst (x.map .d ++ y)]) else .no
    | _ => .no)
  | .d (.list x), .d (.list y) => if x.length + y.length ≤ sizeLine then .ok (.r h.length) (h ++ [.lst (x.map .d ++ y.map .d)]) else .no
  | _, _ => .no
def bSub (a b : W) : M W := fun h => match a, b with
  | .d (.int i), .d (.int j) => .ok (wI (i - j)) h
  | _, _ => .no
def small64 (i : Int) : Bool := decide (i.natAbs < 18446744073709551616)
theorem small64_ok {i : Int} (h : small64 i = true) : -(2 ^ 64) < i ∧ i < 2 ^ 64 := by
  have h := of_decide_eq_true h
  omega
def small63 (j : Int) : Bool := decide (j.natAbs < 9223372036854775808)
theorem small63_ok {i : Int} (h : small63 i = true) : -(2 ^ 63) ≤ i ∧ i < 2 ^ 63 := by
  have h := of_decide_eq_true h
  omega
def bMul (a b : W) : M W := fun h => match a, b with
  | .d (.int i), .d (.int j) => if small64 i || small64 j then .ok (wI (i * j)) h else .no
  | .r i, .d (.int j) => (match h[i]? with
    | some (.lst x) => if small63 j && decide (x.length * j.toNat ≤ sizeLine) then .ok (.r h.length) (h ++ [.lst (List.replicate j.toNat x).flatten]) else .no
    | _ => .no)
  | _, _ => .no
def bDiv (a b : W) : M W := fun h => match a, b with
  | .d (.int i), .d (.int j) => if decide (0 < j) && decide (j < 1073741824) then .ok (wI (i / j)) h else .no
  | _, _ => .no
def bMod (a b : W) : M W := fun h => match a, b with
  | .d (.int i), .d (.int j) => if 0 < j then .ok (wI (i % j)) h else .no
  | _, _ => .no
def bPow (a b : W) : M W := fun h => match a, b with
  | .d (.int i), .d (.int j) => if (decide (0 ≤ j) && decide (j ≤ 1000000)) && decide (i.natAbs < 2 ^ 64) then .ok (wI (i ^ j.toNat)) h else .no
  | _, _ => .no
def bop : Operator → W → W → M W
  | .Add => bAdd
  | .Sub => bSub
  | .Mult => bMul
  | .FloorDiv => bDiv
  | .Mod => bMod
  | .Pow => bPow
  | _ => fun _ _ => mno

def rCatS : V → V → Hp → VK → Prop := fun x y H Q => ∃ l b xs zs, x = .ref l ∧ y = .ref b ∧ Rd H l (.lst xs) ∧ Rd H b (.lst zs) ∧ xs.length + zs.length ≤ sizeLine ∧ ∀ p, H p = none → Q (.ref p) (upd H p (.lst (xs ++ zs)))
theorem op_catS {X : Cx} : OpR X (binaryOp .Add) rCatS := by
  intro pins s σ H x y v u Q I rx ry h
  obtain ⟨l, b, xs, zs, rfl, rfl, h1, h2, hz, q⟩ := h
  cases rx
  cases ry
  obtain ⟨z, its, n, r, e1⟩ := h1.ok I.hok
  obtain ⟨z2, its2, n2, r2, f1⟩ := h2.ok I.hok
  have l1 := Vals.length r
  have l2 := Vals.length r2
  refine P.add_list e1 f1 ?_ (by simp; omega)
  have ea : its.toArray ++ its2.toArray = (its ++ its2).toArray := by simp
  rw [ea]
  exact ⟨.ref s.heap.objs.size, upd H s.heap.objs.size (.lst (xs ++ zs)), Inv.lnew I (Vals.append r r2) (by rw [List.length_append]; exact hz), rfl, q _ (Inv.fresh I)⟩
theorem rLstR {G : GA} {c : Cf} {v : V} {ds : List PyData} (h : RW G c v (.d (.list ds))) : ∃ a xs, v = .ref a ∧ Rd c.H a (.lst xs) ∧ RpL G.K c xs ds := by
  cases (show Rp G.K c v (.list ds) from h) with
  | lst l1 h1 r1 => exact ⟨_, _, rfl, h1, r1⟩
theorem rpl_rwl0 {G : GA} {c : Cf} : ∀ {xs : List V} {ds : List PyData}, RpL G.K c xs ds → RWL G c xs (ds.map W.d)
  | _, _, .nil => .nil
  | _, _, .cons h r => .cons h (rpl_rwl0 r)
section
variable {X : Cx} {G : GA} (hK : X.K = G.K)
include hK
theorem add_ok : ∃ r, OpR X (binaryOp .Add) r ∧ Op2 G bAdd r := by
  refine ⟨_, (op_add.or (op_add_str.or (op_catA.or op_catS))), fun c x y a b Q E k rx ry h => ?_⟩
  unfold bAdd at h
  split at h
  · rename_i i j
    rw [rInt rx, rInt ry]
    exact .inl ⟨i, j, rfl, rfl, h.here k _ (.int _)⟩
  · rename_i i j
    rw [rStr rx, rStr ry]
    split at h
    · rename_i hz
      exact .inr (.inl ⟨i, j, rfl, rfl, hz, h.here k _ (.str _)⟩)
    · exact h.elim
  · rename_i i j
    split at h
    · rename_i hz
      obtain ⟨p, xs, rfl, h1, r1⟩ := rTup rx
      obtain ⟨q, ys, rfl, h2, r2⟩ := rTup ry
      refine .inr (.inr (.inl ⟨p, q, xs, ys, rfl, rfl, by rw [hK]; exact h1, by rw [hK]; exact h2, by rw [r1.length, r2.length]; exact hz, fun e => ?_, fun _ e => ?_, fun _ _ p hp => ?_⟩))
      · subst e
        cases r1
        exact h.here k _ ry
      · subst e
        cases r2
        rw [List.append_nil] at h
        exact h.here k _ rx
      · exact new_tup k (r1.append r2) hp h
    · exact h.elim
  · rename_i i j
    split at h
    · rename_i xs ys e1 e2
      obtain ⟨p, rfl, h1, us, hu, r1⟩ := rRef k rx e1
      obtain ⟨q, rfl, h2, vs, hv, r2⟩ := rRef k ry e2
      split at h
      · rename_i hz
        exact .inr (.inr (.inr ⟨p, q, us, vs, rfl, rfl, .inl hu, .inl hv, by rw [Paired.length r1, Paired.length r2]; exact hz, fun l hl => new_list k (RWL.append r1 r2) hl h⟩))
      · exact h.elim
    · exact h.elim
  · rename_i i y
    split at h
    · rename_i xs e1
      obtain ⟨p, rfl, h1, us, hu, r1⟩ := rRef k rx e1
      obtain ⟨q, vs, rfl, hv, r2⟩ := rLstR ry
      split at h
      · rename_i hz
        exact .inr (.inr (.inr ⟨p, q, us, vs, rfl, rfl, .inl hu, hv, by rw [Paired.length r1, r2.length]; exact hz, fun l hl => new_list k (RWL.append r1 (rpl_rwl0 r2)) hl h⟩))
      · exact h.elim
    · exact h.elim
  · rename_i x j
    split at h
    · rename_i ys e2
      obtain ⟨p, us, rfl, hu, r1⟩ := rLstR rx
      obtain ⟨q, rfl, h2, vs, hv, r2⟩ := rRef k ry e2
      split at h
      · rename_i hz
        exact .inr (.inr (.inr ⟨p, q, us, vs, rfl, rfl, hu, .inl hv, by rw [r1.length, Paired.length r2]; exact hz, fun l hl => new_list k (RWL.append (rpl_rwl0 r1) r2) hl h⟩))
      · exact h.elim
    · exact h.elim
  · rename_i x y
    obtain ⟨p, us, rfl, hu, r1⟩ := rLstR rx
    obtain ⟨q, vs, rfl, hv, r2⟩ := rLstR ry
    split at h
    · rename_i hz
      exact .inr (.inr (.inr ⟨p, q, us, vs, rfl, rfl, hu, hv, by rw [r1.length, r2.length]; exact hz, fun l hl => new_list k (RWL.append (rpl_rwl0 r1) (rpl_rwl0 r2)) hl h⟩))
    · exact h.elim
  · exact h.elim
theorem sub_ok : ∃ r, OpR X (binaryOp .Sub) r ∧ Op2 G bSub r := by
  refine ⟨_, op_sub, fun c x y a b Q E k rx ry h => ?_⟩
  unfold bSub at h
  split at h
  · rename_i i j
    rw [rInt rx, rInt ry]
    exact ⟨i, j, rfl, rfl, h.here k _ (.int _)⟩
  · exact h.elim
theorem RWL.rep {c : Cf} {xs : List V} {ws : List W} (h : RWL G c xs ws) : ∀ n : Nat, RWL G c (List.replicate n xs).flatten (List.replicate n ws).flatten
  | 0 => .nil
  | n + 1 => by
    rw [List.replicate_succ, List.replicate_succ, List.flatten_cons, List.flatten_cons]
    exact RWL.append h (RWL.rep h n)
theorem mul_ok : ∃ r, OpR X (binaryOp .Mult) r ∧ Op2 G bMul r := by
  refine ⟨_, op_mul.or op_rep, fun c x y a b Q E k rx ry h => ?_⟩
  unfold bMul at h
  split at h
  · rename_i i j
    rw [rInt rx, rInt ry]
    split at h
    · rename_i hz
      refine .inl ⟨i, j, rfl, rfl, ?_, h.here k _ (.int _)⟩
      rcases Bool.or_eq_true_iff.mp hz with q | q
      · exact .inl (small64_ok q)
      · exact .inr (small64_ok q)
    · exact h.elim
  · rename_i i j
    split at h
    · rename_i xs e1
      obtain ⟨p, rfl, h1, us, hu, r1⟩ := rRef k rx e1
      rw [rInt ry]
      split at h
      · rename_i hz
        obtain ⟨hz1, hz2⟩ := Bool.and_eq_true_iff.mp hz
        exact .inr ⟨p, j, us, rfl, rfl, hu, (small63_ok hz1).1, (small63_ok hz1).2, by rw [Paired.length r1]; exact of_decide_eq_true hz2, fun l hl => new_list k (RWL.rep hK r1 _) hl h⟩
      · exact h.elim
    · exact h.elim
  · exact h.elim
theorem div_ok : ∃ r, OpR X (binaryOp .FloorDiv) r ∧ Op2 G bDiv r := by
  refine ⟨_, op_fdiv, fun c x y a b Q E k rx ry h => ?_⟩
  unfold bDiv at h
  split at h
  · rename_i i j
    rw [rInt rx, rInt ry]
    split at h
    · rename_i hz
      simp only [Bool.and_eq_true, decide_eq_true_eq] at hz
      exact ⟨i, j, rfl, rfl, hz, h.here k _ (.int _)⟩
    · exact h.elim
  · exact h.elim
theorem mod_ok : ∃ r, OpR X (binaryOp .Mod) r ∧ Op2 G bMod r := by
  refine ⟨_, op_mod, fun c x y a b Q E k rx ry h => ?_⟩
  unfold bMod at h
  split at h
  · rename_i i j
    rw [rInt rx, rInt ry]
    split at h
    · rename_i hz
      exact ⟨i, j, rfl, rfl, hz, h.here k _ (.int _)⟩
    · exact h.elim
  · exact h.elim
theorem pow_ok : ∃ r, OpR X (binaryOp .Pow) r ∧ Op2 G bPow r := by
  refine ⟨_, op_pow, fun c x y a b Q E k rx ry h => ?_⟩
  unfold bPow at h
  split at h
  · rename_i i j
    rw [rInt rx, rInt ry]
    split at h
    · rename_i hz
      simp only [Bool.and_eq_true, decide_eq_true_eq] at hz
      exact ⟨i, j, rfl, rfl, ⟨hz.1.1, hz.1.2, hz.2⟩, h.here k _ (.int _)⟩
    · exact h.elim
  · exact h.elim
theorem bop_ok (op : Operator) : ∃ r, OpR X (binaryOp op) r ∧ Op2 G (bop op) r := by
  cases op with
  | Add => exact add_ok hK
  | Sub => exact sub_ok hK
  | Mult => exact mul_ok hK
  | FloorDiv => exact div_ok hK
  | Mod => exact mod_ok hK
  | Pow => exact pow_ok hK
  | _ => exact ⟨fun _ _ _ _ => False, fun _ _ _ _ _ _ _ _ _ _ _ _ z => z.elim, fun _ _ _ _ _ _ _ _ _ _ z => z.elim⟩
end
def eBin (op : Operator) (a b : ME) : ME := fun env => mbind (a env) fun x => mbind (b env) fun y => bop op x y
section
variable {T : Tb} {G : GA} {CM : FId → List W → M W} {k : Nat} {sc : Sc} {a b e : Expr} {ma mb mc : ME} {pos : Pos}
theorem se_bin {op : Operator} (ha : SE T G CM k sc a ma) (hb : SE T G CM k sc b mb) : SE T G CM k sc (.BinOp a op b pos) (eBin op ma mb) := fun X Wx F => by
  obtain ⟨r, h1, h2⟩ := bop_ok (X := X) (G := G) F.K op
  refine PE.imp (pe_op h1 (ha X Wx F) (hb X Wx F)) fun σ H Q ⟨c, env, e, ok, re, q⟩ => ?_
  subst e
  refine tE.step ok re q fun w c1 v e1 ok1 re1 rv q1 => tE.step ok1 re1 q1 fun w2 c2 v2 e2 ok2 re2 rv2 q2 => ?_
  exact h2 c2 v v2 w w2 Q _ ok2 (RW.mono e2 rv) rv2 q2
end
end Ev
set_option Elab.async false
set_option linter.all false
set_option maxRecDepth 100000
set_option maxHeartbeats 2000000
/-! E3d: dicts, read. -/
namespace Ev
open PySem PySem.Spec PyProof.Rows L2

/-! ### dicts of data -/
def keyOf : PyData → Option Key
  | .int i => some (.inl i)
  | .str x => some (.inr x)
  | _ => none
def keyIsD (k : Key) : PyData → Bool
  | .int i => decide (k = .inl i)
  | .str x => decide (k = .inr x)
  | _ => false
def lookD {α : Type} (k : Key) : List (PyData × α) → Option α
  | [] => none
  | (d, x) :: r => if keyIsD k d then some x else lookD k r
theorem keyIsD_ok (k j : Key) : keyIsD k (keyD j) = decide (j = k) := by
  cases j with
  | inl i => exact decide_eq_decide.mpr eq_comm
  | inr i => exact decide_eq_decide.mpr eq_comm
def ORel {α : Type} (P : V → α → Prop) : Option V → Option α → Prop
  | some v, some a => P v a
  | none, none => True
  | _, _ => False
theorem RpD.look {K : PySem.W.Frag} {c : Cf} {k : Key} : ∀ {xs : List (Key × V)} {ds : List (PyData × PyData)}, RpD K c xs ds → ORel (Rp K c) (valV xs k) (lookD k ds)
  | _, _, .nil => trivial
  | (j, v) :: xs, (_, d) :: ds, .cons h r => by
    have ih := RpD.look (k := k) r
    unfold lookD
    rw [keyIsD_ok]
    by_cases e : j = k
    · rw [decide_eq_true e, if_pos rfl, valV_pos e]
      exact h
    · rw [decide_eq_false e, if_neg Bool.false_ne_true, valV_neg e]
      exact ih
theorem pd_look {G : GA} {c : Cf} {k : Key} : ∀ {xs : List (Key × V)} {ds : List (PyData × W)}, Paired (fun (p : Key × V) (q : PyData × W) => q.1 = keyD p.1 ∧ RW G c p.2 q.2) xs ds → ORel (RW G c) (valV xs k) (lookD k ds)
  | _, _, .nil => trivial
  | (j, v) :: xs, (d0, d) :: ds, .cons h r => by
    have ih := pd_look (k := k) r
    obtain ⟨h1, h2⟩ := h
    have h1' : d0 = keyD j := h1
    subst h1'
    unfold lookD
    rw [keyIsD_ok]
    by_cases e : j = k
    · rw [decide_eq_true e, if_pos rfl, valV_pos e]
      exact h2
    · rw [decide_eq_false e, if_neg Bool.false_ne_true, valV_neg e]
      exact ih
theorem rKey {G : GA} {c : Cf} {v : V} {d : PyData} {k : Key} (h : RW G c v (.d d)) (hk : keyOf d = some k) : v = kV k := by
  cases d with
  | int i => cases hk; exact rInt h
  | str i => cases hk; exact rStr h
  | _ => cases hk
/-- what a value that is a dict holds at a key -/
def dictAt (h : AH) (w : W) (k : Key) : Option (Option W) := match w with
  | .d (.dict ds) => some ((lookD k ds).map .d)
  | .r i => (match h[i]? with
    | some (.dic ds) => some (lookD k ds)
    | some (.rod ds) => some (lookD k ds)
    | _ => none)
  | _ => none
theorem dictAt_ok {G : GA} {c : Cf} {w : W} {k : Key} {r : Option W} {v : V} (ok : c.ok G) (h : dictAt c.ah w k = some r) (rv : RW G c v w) : ∃ a o, v = .ref a ∧ DGet c.H a (kV k) o ∧ ORel (RW G c) o r := by
  cases w with
  | d x =>
    cases x with
    | dict ds =>
      cases h
      cases (show Rp G.K c v (.dict ds) from rv) with
      | dic l1 h1 r1 =>
        rename_i a xs
        refine ⟨a, valV xs k, rfl, .inl ⟨xs, k, h1, rfl, rfl⟩, ?_⟩
        have q := r1.look (k := k)
        cases e : lookD k ds with
        | none =>
          rw [e] at q
          cases e2 : valV xs k with
          | none => trivial
          | some v => rw [e2] at q; exact q.elim
        | some d =>
          rw [e] at q
          cases e2 : valV xs k with
          | none => rw [e2] at q; exact q.elim
          | some v => rw [e2] at q; exact q
    | _ => cases h
  | r i =>
    simp only [dictAt] at h
    split at h
    · rename_i ds e
      cases h
      obtain ⟨a, rfl, h1, xs, hx, rx⟩ := rRef ok rv e
      exact ⟨a, valV xs k, rfl, .inl ⟨xs, k, .inl hx, rfl, rfl⟩, pd_look (k := k) rx⟩
    · rename_i ds e
      cases h
      obtain ⟨a, rfl, h1, xs, od, hx, rx⟩ := rRef ok rv e
      exact ⟨a, valV xs k, rfl, .inl ⟨xs, k, .inr ⟨od, hx⟩, rfl, rfl⟩, pd_look (k := k) rx⟩
    · cases h
  | fn f => cases h
  | ex f => cases h
theorem dictAt_some {G : GA} {c : Cf} {w : W} {k : Key} {r : W} {v : V} (ok : c.ok G) (h : dictAt c.ah w k = some (some r)) (rv : RW G c v w) : ∃ a v', v = .ref a ∧ DGet c.H a (kV k) (some v') ∧ RW G c v' r := by
  obtain ⟨a, o, h1, h2, h3⟩ := dictAt_ok ok h rv
  cases o with
  | none => exact h3.elim
  | some v' => exact ⟨a, v', h1, h2, h3⟩
end Ev
set_option Elab.async false
set_option linter.all false
set_option maxRecDepth 100000
set_option maxHeartbeats 2000000
/-! E4: comparisons, and, or, not, if. -/
namespace Ev
open PySem PySem.Spec PyProof.Rows L2

def allD : List W → Option (List PyData)
  | [] => some []
  | .d x :: r => (allD r).map (x :: ·)
  | _ => none
def peek (h : AH) : W → Option PyData
  | .d x => some x
  | .r i => (match h[i]? with
    | some (.lst ws) => (allD ws).map .list
    | _ => none)
  | _ => none
mutual
theorem Rp.dp {K : PySem.W.Frag} {c : Cf} : ∀ {d : PyData} {v : V}, Rp K c v d → d.canLay0 = true → Dp K c.H v d
  | _, _, .non, _ => .non
  | _, _, .bl b, _ => .bl b
  | _, _, .int i, _ => .int i
  | _, _, .str x, _ => .str x
  | .list ds, _, .lst _ h r, k => .lst (.inl h) (RpL.dp r (by simpa [PyData.canLay0] using k))
  | .tuple ds, _, .tup _ h r, k => .tup (.inl h) (RpL.dp r (by simpa [PyData.canLay0] using k))
  | .tuple ds, _, .tupK h r, k => .tup (.inr h) (RpL.dp r (by simpa [PyData.canLay0] using k))
  | .dict _, _, .dic _ _ _, k => by simp [PyData.canLay0] at k
theorem RpL.dp {K : PySem.W.Frag} {c : Cf} : ∀ {ds : List PyData} {vs : List V}, RpL K c vs ds → PyData.canLayAll0 ds = true → DpAll K c.H vs ds
  | _, _, .nil, _ => .nil
  | d :: ds, _, .cons h r, k => by
    have k' : d.canLay0 = true ∧ PyData.canLayAll0 ds = true := by simpa [PyData.canLayAll0] using k
    exact .cons (Rp.dp h k'.1) (RpL.dp r k'.2)
end
section
variable {G : GA} {c : Cf}
theorem allD_ok : ∀ {ws : List W} {ds : List PyData} {xs : List V}, allD ws = some ds → RWL G c xs ws → RpL G.K c xs ds
  | [], ds, xs, h, r => by
    cases h
    cases r
    exact .nil
  | .d x :: ws, ds, xs, h, r => by
    cases r with
    | cons r1 r2 =>
      unfold allD at h
      cases q : allD ws with
      | none => rw [q] at h; cases h
      | some es =>
        rw [q] at h
        cases h
        exact .cons r1 (allD_ok q r2)
  | .r _ :: _, _, _, h, _ => by cases h
  | .fn _ :: _, _, _, h, _ => by cases h
  | .ex _ :: _, _, _, h, _ => by cases h
/-- the data at a value, by what the layer reads -/
theorem peek_dp {w : W} {d : PyData} {v : V} (k : c.ok G) (r : RW G c v w) (h : peek c.ah w = some d) (hl : d.canLay0 = true) : Dp G.K c.H v d := by
  cases w with
  | d x =>
    cases h
    exact Rp.dp r hl
  | r i =>
    simp only [peek] at h
    split at h
    · rename_i ws e
      obtain ⟨a, rfl, h1, xs, hx, rx⟩ := rRef k r e
      cases q : allD ws with
      | none => rw [q] at h; cases h
      | some ds =>
        rw [q] at h
        cases h
        exact .lst (.inl (.inl hx)) (RpL.dp (allD_ok q rx) (by simpa [PyData.canLay0] using hl))
    · cases h
  | fn f => cases h
  | ex f => cases h
end

/-! ### comparisons -/
def cEq (neg : Bool) (a b : W) : M W := fun h => match peek h a, peek h b with
  | some x, some y => if SeqAt.shaped x && SeqAt.shaped y then .ok (wB (if neg then !PyData.eqv x y else PyData.eqv x y)) h else .no
  | _, _ => .no
def cInt (p : Int → Int → Bool) (a b : W) : M W := fun h => match a, b with
  | .d (.int i), .d (.int j) => .ok (wB (p i j)) h
  | _, _ => .no
def cLe (a b : W) : M W := fun h => match a, b with
  | .d (.int i), .d (.int j) => .ok (wB (decide (i ≤ j))) h
  | .d (.str i), .d (.str j) => .ok (wB (!decide (j.cps.toList < i.cps.toList))) h
  | _, _ => .no
def flatD : PyData → Bool
  | .none | .bool _ | .int _ | .str _ => true
  | _ => false
def seqD : PyData → Option (List PyData)
  | .list ds => some ds
  | .tuple ds => some ds
  | _ => none
def inStr (x z : Str) : Bool := match x.cps.toList with
  | [c] => decide (c ∈ z.cps.toList)
  | _ => !(Builtin.Str.occurrences z x 0 z.length 1).isEmpty
def cIn (neg : Bool) (a b : W) : M W := fun h => match a, b with
  | .d (.str x), .d (.str z) => .ok (wB (if neg then !inStr x z else inStr x z)) h
  | .d x, b => (match (peek h b).bind seqD with
    | some ds => if flatD x && ds.all flatD then .ok (wB (if neg then !ds.any fun y => PyData.eqv y x else ds.any fun y => PyData.eqv y x)) h else .no
    | none => (match (keyOf x).bind (dictAt h b) with
      | some o => .ok (wB (if neg then !o.isSome else o.isSome)) h
      | none => .no))
  | _, _ => .no
def cIs (neg : Bool) (a b : W) : M W := fun h => match a, b with
  | .d (.bool x), .d (.bool y) => .ok (wB (if neg then !decide (x = y) else decide (x = y))) h
  | .d .none, .d .none => .ok (wB (!neg)) h
  | .d .none, .d (.bool _) => .ok (wB neg) h
  | _, .d .none => .ok (wB neg) h
  | _, _ => .no
def cmp : CmpOp → W → W → M W
  | .Eq => cEq false
  | .NotEq => cEq true
  | .Lt => cInt fun i j => decide (i < j)
  | .LtE => cLe
  | .Gt => cInt fun i j => decide (j < i)
  | .GtE => cInt fun i j => decide (j ≤ i)
  | .In => cIn false
  | .NotIn => cIn true
  | .Is => cIs false
  | .IsNot => cIs true

section
variable {X : Cx} {G : GA} (hK : X.K = G.K)
theorem int_ok {f : Value → Value → Sem Value} {p : Int → Int → Bool} (h : OpR X f (rI0 fun i j => .bl (p i j))) : ∃ r, OpR X f r ∧ Op2 G (cInt p) r := by
  refine ⟨_, h, fun c x y a b Q E k rx ry h => ?_⟩
  unfold cInt at h
  split at h
  · rename_i i j
    rw [rInt rx, rInt ry]
    exact ⟨i, j, rfl, rfl, h.here k _ (.bl _)⟩
  · exact h.elim
theorem le_ok : ∃ r, OpR X (compareOp .LtE) r ∧ Op2 G cLe r := by
  refine ⟨_, op_le.or op_le_str, fun c x y a b Q E k rx ry h => ?_⟩
  unfold cLe at h
  split at h
  · rename_i i j
    rw [rInt rx, rInt ry]
    exact .inl ⟨i, j, rfl, rfl, h.here k _ (.bl _)⟩
  · rename_i i j
    rw [rStr rx, rStr ry]
    exact .inr ⟨i, j, rfl, rfl, h.here k _ (.bl _)⟩
  · exact h.elim
include hK in
theorem eq_ok (hu : X.A.units + 64 < cLine) : (∃ r, OpR X (compareOp .Eq) r ∧ Op2 G (cEq false) r) ∧ ∃ r, OpR X (compareOp .NotEq) r ∧ Op2 G (cEq true) r := by
  refine ⟨⟨_, op_eqD hu, fun c x y a b Q E k rx ry h => ?_⟩, ⟨_, op_neD hu, fun c x y a b Q E k rx ry h => ?_⟩⟩
  all_goals
    unfold cEq at h
    split at h
    · rename_i d e h1 h2
      split at h
      · rename_i hs
        obtain ⟨hs1, hs2⟩ := Bool.and_eq_true_iff.mp hs
        refine ⟨d, e, ?_, ?_, hs1, hs2, h.here k _ (.bl _)⟩
        · rw [hK]; exact peek_dp k rx h1 (SeqAt.canLay_of_shaped hs1)
        · rw [hK]; exact peek_dp k ry h2 (SeqAt.canLay_of_shaped hs2)
      · exact h.elim
    · exact h.elim
/-- flat data stand as flat values -/
theorem flat_rp {K : PySem.W.Frag} {c : Cf} {v : V} {d : PyData} (h : Rp K c v d) (f : flatD d = true) : flatV v = true := by
  cases h <;> first | rfl | cases f
theorem flat_eq {K : PySem.W.Frag} {c : Cf} {v u : V} {d e : PyData} (h : Rp K c v d) (h' : Rp K c u e) (f : flatD d = true) (f' : flatD e = true) : eqV v u = PyData.eqv d e := by
  cases h <;> first | (cases f; done) | (cases h' <;> first | (cases f'; done) | rfl | simp [eqV, PyData.eqv])
theorem flat_any {K : PySem.W.Frag} {c : Cf} {u : V} {e : PyData} (h' : Rp K c u e) (f' : flatD e = true) : ∀ {xs : List V} {ds : List PyData}, RpL K c xs ds → ds.all flatD = true → xs.all flatV = true ∧ inV u xs = ds.any fun y => PyData.eqv y e
  | _, _, .nil, _ => ⟨rfl, rfl⟩
  | _, _, .cons h r, f => by
    rw [List.all_cons, Bool.and_eq_true] at f
    obtain ⟨i1, i2⟩ := flat_any h' f' r f.2
    refine ⟨by rw [List.all_cons, flat_rp h f.1, i1]; rfl, ?_⟩
    show (eqV _ u || inV u _) = _
    rw [i2, flat_eq h h' f.1 f', List.any_cons]
theorem peek_seq {c : Cf} {w : W} {ds : List PyData} {v : V} (k : c.ok G) (r : RW G c v w) (h : (peek c.ah w).bind seqD = some ds) : ∃ p xs, v = .ref p ∧ (SqL G.K c.H p xs ∨ SqT G.K c.H p xs) ∧ RpL G.K c xs ds := by
  cases w with
  | d x =>
    cases x with
    | list es =>
      cases h
      obtain ⟨p, xs, h1, h2, h3⟩ := rLst r
      exact ⟨p, xs, h1, .inl h2, h3⟩
    | tuple es =>
      cases h
      obtain ⟨p, xs, h1, h2, h3⟩ := rTup r
      exact ⟨p, xs, h1, .inr h2, h3⟩
    | _ => cases h
  | r i =>
    simp only [peek] at h
    split at h
    · rename_i ws e
      obtain ⟨a, rfl, h1, xs, hx, rx⟩ := rRef k r e
      cases q : allD ws with
      | none => rw [q] at h; cases h
      | some es =>
        rw [q] at h
        cases h
        exact ⟨a, xs, rfl, .inl (.inl (.inl hx)), allD_ok q rx⟩
    · cases h
  | fn f => cases h
  | ex f => cases h
theorem inStr_sign {x z : Str} {c : Nat} (h : x.cps.toList = [c]) : x = ⟨#[c]⟩ := by
  obtain ⟨a⟩ := x
  congr 1
  exact Array.toList_inj.mp (by simpa using h)
theorem inStr_cases (x z : Str) : (∃ c, x = ⟨#[c]⟩ ∧ inStr x z = decide (c ∈ z.cps.toList)) ∨ inStr x z = !(Builtin.Str.occurrences z x 0 z.length 1).isEmpty := by
  unfold inStr
  split
  · rename_i c hc
    exact .inl ⟨c, inStr_sign (z := z) hc, rfl⟩
  · exact .inr rfl
theorem op_dIn (hu : X.A.units + 1 < cLine) : OpR X (compareOp .In) (fun x y H Q => ∃ a o, y = .ref a ∧ DGet H a x o ∧ Q (.bl o.isSome) H) := by
  intro pins s σ H x y v u Q I rx ry ⟨a, o, ey, g, q⟩
  subst ey
  cases (show u = Value.ref a from ry)
  exact d_in hu I g rx fun s' I' => ⟨.bl o.isSome, H, I', rfl, q⟩
theorem op_dNotIn (hu : X.A.units + 1 < cLine) : OpR X (compareOp .NotIn) (fun x y H Q => ∃ a o, y = .ref a ∧ DGet H a x o ∧ Q (.bl (!o.isSome)) H) := by
  intro pins s σ H x y v u Q I rx ry ⟨a, o, ey, g, q⟩
  subst ey
  cases (show u = Value.ref a from ry)
  exact d_notIn hu I g rx fun s' I' => ⟨.bl (!o.isSome), H, I', rfl, q⟩
theorem orel_some {α : Type} {P : V → α → Prop} {o : Option V} {r : Option α} (h : ORel P o r) : o.isSome = r.isSome := by
  cases o <;> cases r <;> first | rfl | exact h.elim
theorem bindK {x : PyData} {h : AH} {b : W} {o : Option W} (e : (keyOf x).bind (dictAt h b) = some o) : ∃ k, keyOf x = some k ∧ dictAt h b k = some o := by
  cases q : keyOf x with
  | none => rw [q] at e; cases e
  | some k => rw [q] at e; exact ⟨k, rfl, e⟩
include hK in
theorem in_ok (hu : X.A.units + 64 < cLine) : (∃ r, OpR X (compareOp .In) r ∧ Op2 G (cIn false) r) ∧ ∃ r, OpR X (compareOp .NotIn) r ∧ Op2 G (cIn true) r := by
  refine ⟨⟨_, op_in_sign.or (op_in_str.or (op_in_seq.or (op_dIn (by omega)))), fun c x y a b Q E k rx ry h => ?_⟩, ⟨_, op_notIn_sign.or (op_notin_str.or (op_notIn_seq.or (op_dNotIn (by omega)))), fun c x y a b Q E k rx ry h => ?_⟩⟩
  all_goals
    unfold cIn at h
    split at h
    · rename_i s z
      rw [rStr rx, rStr ry]
      have hq := h.here k _ (.bl _)
      rcases inStr_cases s z with ⟨ch, e1, e2⟩ | e2
      · subst e1
        rw [e2] at hq
        exact .inl ⟨ch, z, rfl, rfl, hq⟩
      · rw [e2] at hq
        exact .inr (.inl ⟨s, z, rfl, rfl, hq⟩)
    · rename_i d b' _
      split at h
      · rename_i ds hds
        split at h
        · rename_i hf
          obtain ⟨f1, f2⟩ := Bool.and_eq_true_iff.mp hf
          obtain ⟨p, xs, rfl, hq, r⟩ := peek_seq k ry hds
          obtain ⟨g1, g2⟩ := flat_any rx f1 r f2
          refine .inr (.inr (.inl ⟨p, xs, rfl, by rw [hK]; exact hq, flat_rp rx f1, g1, ?_⟩))
          rw [g2]
          exact h.here k _ (.bl _)
        · exact h.elim
      · split at h
        · rename_i o ho
          obtain ⟨kk, hk1, hk2⟩ := bindK ho
          obtain ⟨p, o', rfl, hg, hr⟩ := dictAt_ok k hk2 ry
          rw [rKey rx hk1]
          refine .inr (.inr (.inr ⟨p, o', rfl, hg, ?_⟩))
          rw [orel_some hr]
          exact h.here k _ (.bl _)
        · exact h.elim
    · exact h.elim
theorem not_non {c : Cf} {v : V} {w : W} (h : RW G c v w) (hn : w ≠ .d .none) : decide (v = .non) = false := by
  refine decide_eq_false fun e => ?_
  subst e
  cases w with
  | d x =>
    cases (show Rp G.K c .non x from h)
    exact hn rfl
  | r i => obtain ⟨a, e, _⟩ := h; cases e
  | fn f => obtain ⟨a, e, _⟩ := h; cases e
  | ex f => obtain ⟨a, C, e, _⟩ := h; cases e
theorem op_isNB : OpR X (compareOp .Is) (fun x y H Q => ∃ b : Bool, x = .non ∧ y = .bl b ∧ Q (.bl false) H) := by
  intro pins s σ H x y v u Q I rx ry ⟨b, ex, ey, q⟩
  subst ex ey
  cases (show v = Value.none from rx)
  cases (show u = Value.bool b from ry)
  exact wpAny_is_other rfl (fun z => nomatch z) ⟨.bl false, H, I, rfl, q⟩
theorem op_notNB : OpR X (compareOp .IsNot) (fun x y H Q => ∃ b : Bool, x = .non ∧ y = .bl b ∧ Q (.bl true) H) := by
  intro pins s σ H x y v u Q I rx ry ⟨b, ex, ey, q⟩
  subst ex ey
  cases (show v = Value.none from rx)
  cases (show u = Value.bool b from ry)
  exact wpAny_isNot_other rfl (fun z => nomatch z) ⟨.bl true, H, I, rfl, q⟩
theorem is_ok : (∃ r, OpR X (compareOp .Is) r ∧ Op2 G (cIs false) r) ∧ ∃ r, OpR X (compareOp .IsNot) r ∧ Op2 G (cIs true) r := by
  refine ⟨⟨_, op_isBl.or (op_isN.or op_isNB), fun c x y a b Q E k rx ry h => ?_⟩, ⟨_, op_notBl.or (op_notN.or op_notNB), fun c x y a b Q E k rx ry h => ?_⟩⟩
  all_goals
    unfold cIs at h
    split at h
    · rename_i i j
      rw [rBool rx, rBool ry]
      exact .inl ⟨i, j, rfl, rfl, h.here k _ (.bl _)⟩
    · rw [rNon rx, rNon ry]
      exact .inr (.inl ⟨rfl, h.here k _ (.bl _)⟩)
    · rw [rNon rx, rBool ry]
      exact .inr (.inr ⟨_, rfl, rfl, h.here k _ (.bl _)⟩)
    · rename_i hn1
      rw [rNon ry]
      refine .inr (.inl ⟨rfl, ?_⟩)
      rw [not_non rx (by intro e; exact hn1 e)]
      exact h.here k _ (.bl _)
    · exact h.elim
include hK in
theorem cmp_ok (hu : X.A.units + 64 < cLine) (op : CmpOp) : ∃ r, OpR X (compareOp op) r ∧ Op2 G (cmp op) r := by
  cases op with
  | Eq => exact (eq_ok hK hu).1
  | NotEq => exact (eq_ok hK hu).2
  | Lt => exact int_ok op_lt
  | LtE => exact le_ok
  | Gt => exact int_ok op_gt
  | GtE => exact int_ok op_ge
  | In => exact (in_ok hK hu).1
  | NotIn => exact (in_ok hK hu).2
  | Is => exact is_ok.1
  | IsNot => exact is_ok.2
end
end Ev
set_option Elab.async false
set_option linter.all false
set_option maxRecDepth 100000
set_option maxHeartbeats 2000000
/-! E5: expressions of parts: comparisons, and, or, not, if, displays, subscripts. -/
namespace Ev
open PySem PySem.Spec PyProof.Rows L2

def noSet : Expr → Bool
  | .Set .. => false
  | _ => true
theorem noSet_ok {b : Expr} (h : noSet b = true) (op : CmpOp) : behindInMarks op b = false := by
  cases b <;> first | rfl | cases h
def eCmp (op : CmpOp) (a b : ME) : ME := fun env => mbind (a env) fun x => mbind (b env) fun y => cmp op x y
def asB (w : W) : M Bool := match w with
  | .d (.bool b) => mpure b
  | _ => mno
def eCmp2 (op op' : CmpOp) (a b c : ME) : ME := fun env => mbind (a env) fun x => mbind (b env) fun y => mbind (cmp op x y) fun z => mbind (asB z) fun t => if t then mbind (c env) fun w => cmp op' y w else mpure (wB false)
def tst (m : ME) : EnvW → M Bool := fun env => mbind (m env) asB
def eAnd (a : ME) (r : ME) : ME := fun env => mbind (tst a env) fun t => if t then r env else mpure (wB false)
def eOr (a : ME) (r : ME) : ME := fun env => mbind (tst a env) fun t => if t then mpure (wB true) else r env
def eNot (a : ME) : ME := fun env => mbind (tst a env) fun t => mpure (wB (!t))
def eNeg (a : ME) : ME := fun env => mbind (a env) fun x => match x with
  | .d (.int i) => mpure (wI (-i))
  | _ => mno
def eIf (t : EnvW → M Bool) (a b : ME) : ME := fun env => mbind (t env) fun c => if c then a env else b env
def tAndM (a r : EnvW → M Bool) : EnvW → M Bool := fun env => mbind (a env) fun t => if t then r env else mpure false
def tOrM (a r : EnvW → M Bool) : EnvW → M Bool := fun env => mbind (a env) fun t => if t then mpure true else r env
def tNotM (a : EnvW → M Bool) : EnvW → M Bool := fun env => mbind (a env) fun t => mpure (!t)

section
variable {T : Tb} {G : GA} {CM : FId → List W → M W} {k : Nat} {sc : Sc} {a b c e : Expr} {ma mb mc : ME} {pos : Pos}
theorem asB_po {w : W} {c1 : Cf} {β : Type} {f : Bool → M β} {F : β → Cf → Prop} {E : Str → Cf → Prop} {v : V} (ok : c1.ok G) (r : RW G c1 v w) (h : Po G (mbind (asB w) f c1.ah) c1 F E) : ∃ t, v = .bl t ∧ Po G (f t c1.ah) c1 F E := by
  unfold asB at h
  split at h
  · rename_i b
    exact ⟨b, rBool r, Po.here (a := b) (Po.bind h) ok⟩
  · exact h.elim
theorem se_cmp {op : CmpOp} (ha : SE T G CM k sc a ma) (hb : SE T G CM k sc b mb) (hn : noSet b = true) : SE T G CM k sc (.Compare a [op] [b] pos) (eCmp op ma mb) := fun X Wx F => by
  obtain ⟨r, h1, h2⟩ := cmp_ok (X := X) (G := G) F.K F.room.units op
  refine PE.imp (pe_cmpR h1 (ha X Wx F) (hb X Wx F) (noSet_ok hn op)) fun σ H Q ⟨c, env, e, ok, re, q⟩ => ?_
  subst e
  refine tE.step ok re q fun w c1 v e1 ok1 re1 rv q1 => tE.step ok1 re1 q1 fun w2 c2 v2 e2 ok2 re2 rv2 q2 => ?_
  exact h2 c2 v v2 w w2 Q _ ok2 (RW.mono e2 rv) rv2 q2
theorem se_cmp2 {op op' : CmpOp} (ha : SE T G CM k sc a ma) (hb : SE T G CM k sc b mb) (hc : SE T G CM k sc c mc) (hn : noSet c = true) : SE T G CM k sc (.Compare a [op, op'] [b, c] pos) (eCmp2 op op' ma mb mc) := fun X Wx F => by
  obtain ⟨r, h1, h2⟩ := cmp_ok (X := X) (G := G) F.K F.room.units op
  obtain ⟨r', h1', h2'⟩ := cmp_ok (X := X) (G := G) F.K F.room.units op'
  refine PE.imp (pe_chain h1 h1' (ha X Wx F) (hb X Wx F) (hc X Wx F) (by show behindInMarks op' c = false; exact noSet_ok hn op')) fun σ H Q ⟨c, env, e, ok, re, q⟩ => ?_
  subst e
  refine tE.step ok re q fun w c1 v e1 ok1 re1 rv q1 => tE.step ok1 re1 q1 fun w2 c2 v2 e2 ok2 re2 rv2 q2 => ?_
  refine h2 c2 v v2 w w2 _ _ ok2 (RW.mono e2 rv) rv2 (Po.mono (Po.bind q2) (fun z c3 e3 ok3 q3 v3 rv3 => ?_) fun _ _ _ _ q => q)
  obtain ⟨t, rfl, q4⟩ := asB_po ok3 rv3 q3
  refine ⟨t, rfl, ?_⟩
  cases t with
  | true =>
    refine iteT (tE.step ok3 (re2.mono e3) q4 fun w4 c4 v4 e4 ok4 re4 rv4 q5 => ?_)
    exact h2' c4 v2 v4 w2 w4 Q _ ok4 (RW.mono e4 (RW.mono e3 rv2)) rv4 q5
  | false => exact iteF (Po.here (a := wB false) q4 ok3 _ (.bl false))
/-- the value of a part as a bool -/
theorem tB_of {X : Cx} {Wx : WX} {σ : L2.St} {m : ME} {c : Cf} {env : EnvW} {β : Type} {f : Bool → M β} {F : β → Cf → Prop} {R : V → Hp → Prop} (ok : c.ok G) (re : EnvR G c env σ)
    (q : Po G (mbind (tst m env) f c.ah) c F (fun e c' => WEx G Wx e σ c'.H))
    (n : ∀ t c1, c.ext c1 → c1.ok G → EnvR G c1 env σ → Po G (f t c1.ah) c1 F (fun e c' => WEx G Wx e σ c'.H) → R (.bl t) c1.H) : tE G Wx m σ c.H R := by
  refine ⟨c, env, rfl, ok, re, ?_⟩
  have q1 := Po.bind q
  unfold tst at q1
  refine Po.mono (Po.bind q1) (fun w c1 e1 ok1 q2 v rv => ?_) fun _ _ _ _ q => q
  unfold asB at q2
  split at q2
  · rename_i b
    rw [rBool rv]
    exact n b c1 e1 ok1 (re.mono e1) (Po.here (a := b) q2 ok1)
  · exact q2.elim
theorem se_one {op : BoolOp} (ha : SE T G CM k sc a ma) : SE T G CM k sc (.BoolOp op [a] pos) ma := fun X Wx F => pe_one (ha X Wx F)
theorem se_and {rest : List Expr} (ha : SE T G CM k sc a ma) (hb : SE T G CM k sc (.BoolOp .And (b :: rest) pos) mb) : SE T G CM k sc (.BoolOp .And (a :: b :: rest) pos) (eAnd ma mb) := fun X Wx F => by
  refine PE.imp (pe_and (ha X Wx F) (hb X Wx F)) fun σ H Q ⟨c, env, e, ok, re, q⟩ => ?_
  subst e
  refine tB_of (X := X) (R := fun x H1 => ∃ c, x = .bl c ∧ if c = true then tE G Wx mb σ H1 Q else Q (.bl false) H1) ok re q fun t c1 e1 ok1 re1 q1 => ⟨t, rfl, ?_⟩
  cases t with
  | true => exact ⟨c1, env, rfl, ok1, re1, q1⟩
  | false => exact Po.here (a := wB false) q1 ok1 _ (.bl false)
theorem se_or {rest : List Expr} (ha : SE T G CM k sc a ma) (hb : SE T G CM k sc (.BoolOp .Or (b :: rest) pos) mb) : SE T G CM k sc (.BoolOp .Or (a :: b :: rest) pos) (eOr ma mb) := fun X Wx F => by
  refine PE.imp (pe_or (ha X Wx F) (hb X Wx F)) fun σ H Q ⟨c, env, e, ok, re, q⟩ => ?_
  subst e
  refine tB_of (X := X) (R := fun x H1 => ∃ c, x = .bl c ∧ if c = true then Q (.bl true) H1 else tE G Wx mb σ H1 Q) ok re q fun t c1 e1 ok1 re1 q1 => ⟨t, rfl, ?_⟩
  cases t with
  | true => exact Po.here (a := wB true) q1 ok1 _ (.bl true)
  | false => exact ⟨c1, env, rfl, ok1, re1, q1⟩
theorem se_not (ha : SE T G CM k sc a ma) : SE T G CM k sc (.UnaryOp .Not a pos) (eNot ma) := fun X Wx F => by
  refine PE.imp (pe_not (ha X Wx F)) fun σ H Q ⟨c, env, e, ok, re, q⟩ => ?_
  subst e
  exact tB_of (X := X) (R := fun x H1 => ∃ c, x = .bl c ∧ Q (.bl (!c)) H1) ok re q fun t c1 e1 ok1 re1 q1 => ⟨t, rfl, Po.here (a := wB (!t)) q1 ok1 _ (.bl _)⟩
theorem se_neg (ha : SE T G CM k sc a ma) : SE T G CM k sc (.UnaryOp .USub a pos) (eNeg ma) := fun X Wx F => by
  refine PE.imp (pe_un un_neg (ha X Wx F)) fun σ H Q ⟨c, env, e, ok, re, q⟩ => ?_
  subst e
  refine tE.step ok re q fun w c1 v e1 ok1 re1 rv q1 => ?_
  split at q1
  · rename_i i
    exact ⟨i, rInt rv, Po.here (a := wI (-i)) q1 ok1 _ (.int _)⟩
  · exact q1.elim
theorem se_if {mt : EnvW → M Bool} (ht : ST T G CM k sc c mt) (ha : SE T G CM k sc a ma) (hb : SE T G CM k sc b mb) : SE T G CM k sc (.IfExp c a b pos) (eIf mt ma mb) := fun X Wx F => by
  refine PE.imp (pe_ifExp (ht X Wx F) (ha X Wx F) (hb X Wx F)) fun σ H Q ⟨c, env, e, ok, re, q⟩ => ?_
  subst e
  refine tT.step ok re q fun t c1 e1 ok1 re1 q1 => ?_
  cases t with
  | true => exact ⟨c1, env, rfl, ok1, re1, q1⟩
  | false => exact ⟨c1, env, rfl, ok1, re1, q1⟩

/-! ### tests -/
theorem st_no : ST T G CM k sc e (fun _ => mno) := fun X Wx F => ⟨fun p s σ H Q I ⟨c, env, _, _, _, h⟩ => h.elim⟩
theorem tst_imp {X : Cx} {Wx : WX} {m : ME} {σ : L2.St} {H : Hp} {Q : Bool → Hp → Prop} (h : tT G Wx (tst m) σ H Q) : tE G Wx m σ H fun x H1 => ∃ c, x = .bl c ∧ Q c H1 := by
  obtain ⟨c, env, e, ok, re, q⟩ := h
  subst e
  refine ⟨c, env, rfl, ok, re, Po.mono (Po.bind q) (fun w c1 e1 ok1 q2 v rv => ?_) fun _ _ _ _ q => q⟩
  unfold asB at q2
  split at q2
  · rename_i b
    exact ⟨b, rBool rv, Po.here (a := b) q2 ok1⟩
  · exact q2.elim
theorem st_val (h : SE T G CM k sc e ma) (he : ∀ env whole, isTrue e env whole = (do let v ← whole; standAt e.pos; holding [v] (truthy v))) : ST T G CM k sc e (tst ma) := fun X Wx F =>
  PT.imp (pt_val (h X Wx F) (he _)) fun σ H Q q => tst_imp (X := X) q
theorem st_cmp {op : CmpOp} (ha : SE T G CM k sc a ma) (hb : SE T G CM k sc b mb) (hn : noSet b = true) : ST T G CM k sc (.Compare a [op] [b] pos) (tst (eCmp op ma mb)) := fun X Wx F => by
  obtain ⟨r, h1, h2⟩ := cmp_ok (X := X) (G := G) F.K F.room.units op
  refine PT.imp (pt_cmpR h1 (ha X Wx F) (hb X Wx F) (noSet_ok hn op)) fun σ H Q q0 => ?_
  obtain ⟨c, env, e, ok, re, q⟩ := tst_imp (X := X) q0
  subst e
  show tE G Wx ma σ c.H fun x H1 => tE G Wx mb σ H1 fun y H2 => r x y H2 fun z H3 => ∃ k, z = .bl k ∧ Q k H3
  refine tE.step ok re q fun w c1 v e1 ok1 re1 rv q1 => tE.step ok1 re1 q1 fun w2 c2 v2 e2 ok2 re2 rv2 q2 => ?_
  exact h2 c2 v v2 w w2 _ _ ok2 (RW.mono e2 rv) rv2 q2
theorem st_cmp2 {op op' : CmpOp} (ha : SE T G CM k sc a ma) (hb : SE T G CM k sc b mb) (hc : SE T G CM k sc c mc) (hn : noSet c = true) : ST T G CM k sc (.Compare a [op, op'] [b, c] pos) (tst (eCmp2 op op' ma mb mc)) := fun X Wx F => by
  obtain ⟨r, h1, h2⟩ := cmp_ok (X := X) (G := G) F.K F.room.units op
  obtain ⟨r', h1', h2'⟩ := cmp_ok (X := X) (G := G) F.K F.room.units op'
  refine PT.imp (pt_chain h1 h1' (ha X Wx F) (hb X Wx F) (hc X Wx F) (by show behindInMarks op' c = false; exact noSet_ok hn op')) fun σ H Q q0 => ?_
  obtain ⟨c, env, e, ok, re, q⟩ := tst_imp (X := X) q0
  subst e
  show tE G Wx ma σ c.H fun x H1 => tE G Wx mb σ H1 fun y H2 => r x y H2 fun z H3 => ∃ k, z = .bl k ∧ (if k = true then tE G Wx mc σ H3 fun w' H4 => r' y w' H4 (fun x H' => ∃ k, x = .bl k ∧ Q k H') else ∃ k, V.bl false = .bl k ∧ Q k H3)
  refine tE.step ok re q fun w c1 v e1 ok1 re1 rv q1 => tE.step ok1 re1 q1 fun w2 c2 v2 e2 ok2 re2 rv2 q2 => ?_
  refine h2 c2 v v2 w w2 _ _ ok2 (RW.mono e2 rv) rv2 (Po.mono (Po.bind q2) (fun z c3 e3 ok3 q3 v3 rv3 => ?_) fun _ _ _ _ q => q)
  obtain ⟨t, rfl, q4⟩ := asB_po ok3 rv3 q3
  refine ⟨t, rfl, ?_⟩
  cases t with
  | true =>
    refine iteT (tE.step ok3 (re2.mono e3) q4 fun w4 c4 v4 e4 ok4 re4 rv4 q5 => ?_)
    exact h2' c4 v2 v4 w2 w4 _ _ ok4 (RW.mono e4 (RW.mono e3 rv2)) rv4 q5
  | false => exact iteF (Po.here (a := wB false) q4 ok3 _ (.bl false))
def SW (T : Tb) (G : GA) (CM : FId → List W → M W) (k : Nat) (sc : Sc) (e : Expr) (m : EnvW → M Bool) : Prop := ∀ X Wx, Fits T G CM k X sc Wx → PW X e (tT G Wx m)
theorem PW.imp {X : Cx} {e : Expr} {t t' : TT} (h : PW X e t) (i : ∀ σ H Q, t' σ H Q → t σ H Q) : PW X e t' := ⟨fun wh p s σ H Q I q => h.run wh p s σ H Q I (i _ _ _ q)⟩
variable {mt mu : EnvW → M Bool} {rest : List Expr}
theorem sw_and1 (ha : ST T G CM k sc a mt) : SW T G CM k sc (.BoolOp .And [a] pos) mt := fun X Wx F => pw_and1 (ha X Wx F)
theorem sw_or1 (ha : ST T G CM k sc a mt) : SW T G CM k sc (.BoolOp .Or [a] pos) mt := fun X Wx F => pw_or1 (ha X Wx F)
theorem sw_and (ha : ST T G CM k sc a mt) (hb : SW T G CM k sc (.BoolOp .And (b :: rest) pos) mu) : SW T G CM k sc (.BoolOp .And (a :: b :: rest) pos) (tAndM mt mu) := fun X Wx F => by
  refine PW.imp (pw_and (ha X Wx F) (hb X Wx F)) fun σ H Q ⟨c, env, e, ok, re, q⟩ => ?_
  subst e
  refine tT.step ok re q fun t c1 e1 ok1 re1 q1 => ?_
  cases t with
  | true => exact ⟨c1, env, rfl, ok1, re1, q1⟩
  | false => exact Po.here (a := false) q1 ok1
theorem sw_or (ha : ST T G CM k sc a mt) (hb : SW T G CM k sc (.BoolOp .Or (b :: rest) pos) mu) : SW T G CM k sc (.BoolOp .Or (a :: b :: rest) pos) (tOrM mt mu) := fun X Wx F => by
  refine PW.imp (pw_or (ha X Wx F) (hb X Wx F)) fun σ H Q ⟨c, env, e, ok, re, q⟩ => ?_
  subst e
  refine tT.step ok re q fun t c1 e1 ok1 re1 q1 => ?_
  cases t with
  | true => exact Po.here (a := true) q1 ok1
  | false => exact ⟨c1, env, rfl, ok1, re1, q1⟩
theorem st_w (h : SW T G CM k sc e mt) : ST T G CM k sc e mt := fun X Wx F => (h X Wx F).pt
theorem st_not (ha : ST T G CM k sc a mt) : ST T G CM k sc (.UnaryOp .Not a pos) (tNotM mt) := fun X Wx F => by
  refine PT.imp (pt_not (ha X Wx F)) fun σ H Q ⟨c, env, e, ok, re, q⟩ => ?_
  subst e
  exact tT.step ok re q fun t c1 e1 ok1 re1 q1 => Po.here (a := !t) q1 ok1

/-! ### argument lists, displays -/
def noStar : Expr → Bool
  | .Starred .. => false
  | _ => true
theorem noStar_each {e : Expr} (h : noStar e = true) (es : List Expr) (env : Env) : starEach (e :: es) env = (false, eval e env) :: starEach es env := by
  cases e <;> first | rfl | cases h
theorem noStar_any {es : List Expr} (h : es.all noStar = true) (pos : Pos) (env : Env) : (backTo pos (starEach es env)).any (·.1) = false := by
  induction es with
  | nil => rfl
  | cons e es ih =>
    rw [List.all_cons, Bool.and_eq_true] at h
    rw [noStar_each h.1]
    show (false || (backTo pos (starEach es env)).any (·.1)) = false
    rw [ih h.2]; rfl
def aNil : EnvW → M (List W) := fun _ => mpure []
def aCons (a : ME) (r : EnvW → M (List W)) : EnvW → M (List W) := fun env => mbind (a env) fun x => mbind (r env) fun xs => mpure (x :: xs)
def aList : List ME → EnvW → M (List W)
  | [] => aNil
  | m :: ms => aCons m (aList ms)
theorem sa_nil : SA T G CM k sc [] aNil := fun X Wx F => PA.imp pa_nil fun σ H Q ⟨c, env, e, ok, re, q⟩ => by
  subst e
  exact Po.here (a := ([] : List W)) q ok [] .nil
theorem sa_cons {es : List Expr} {mr : EnvW → M (List W)} (ha : SE T G CM k sc a ma) (hr : SA T G CM k sc es mr) (hn : noStar a = true) : SA T G CM k sc (a :: es) (aCons ma mr) := fun X Wx F => by
  refine PA.imp (pa_cons (ha X Wx F) (hr X Wx F) (noStar_each hn es X.env)) fun σ H Q ⟨c, env, e, ok, re, q⟩ => ?_
  subst e
  refine tE.step ok re q fun w c1 v e1 ok1 re1 rv q1 => tA.step ok1 re1 q1 fun ws c2 vs e2 ok2 re2 rvs q2 => ?_
  exact Po.here (a := w :: ws) q2 ok2 _ (.cons (RW.mono e2 rv) rvs)
theorem sa_list {P : Expr → ME} (hP : ∀ e, SE T G CM k sc e (P e)) : ∀ {es : List Expr}, es.all noStar = true → SA T G CM k sc es (aList (es.map P))
  | [], _ => sa_nil
  | e :: es, h => by
    rw [List.all_cons, Bool.and_eq_true] at h
    exact sa_cons (hP e) (sa_list hP h.2) h.1
def eTup (a : EnvW → M (List W)) : ME := fun env => mbind (a env) fun ws => match allD ws with
  | some ds => if ds.length ≤ sizeLine then mpure (.d (.tuple ds)) else mno
  | none => if ws.length ≤ sizeLine then fun h => .ok (.r h.length) (h ++ [.tup ws]) else mno
def eLst (a : EnvW → M (List W)) : ME := fun env => mbind (a env) fun ws => if ws.length ≤ sizeLine then fun h => .ok (.r h.length) (h ++ [.lst ws]) else mno
theorem se_tup {es : List Expr} {mr : EnvW → M (List W)} {x1 : Nat} (hr : SA T G CM k sc es mr) : SE T G CM k sc (.Tuple es x1 pos) (eTup mr) := fun X Wx F => by
  refine PE.imp (pe_tup (hr X Wx F)) fun σ H Q ⟨c, env, e, ok, re, q⟩ => ?_
  subst e
  refine tA.step ok re q fun ws c1 vs e1 ok1 re1 rvs q1 => ?_
  cases hd : allD ws with
  | none =>
    simp only [hd] at q1
    by_cases hz : ws.length ≤ sizeLine
    · rw [if_pos hz] at q1
      exact ⟨by rw [Paired.length rvs]; exact hz, fun p hp => new_tupW ok1 rvs hp q1⟩
    · rw [if_neg hz] at q1
      exact q1.elim
  | some ds =>
    simp only [hd] at q1
    by_cases hz : ds.length ≤ sizeLine
    · rw [if_pos hz] at q1
      have r := allD_ok hd rvs
      exact ⟨by rw [r.length]; exact hz, fun p hp => new_tup ok1 r hp q1⟩
    · rw [if_neg hz] at q1
      exact q1.elim
theorem se_lst {es : List Expr} {mr : EnvW → M (List W)} (hr : SA T G CM k sc es mr) : SE T G CM k sc (.List es pos) (eLst mr) := fun X Wx F => by
  refine PE.imp (pe_lst (hr X Wx F)) fun σ H Q ⟨c, env, e, ok, re, q⟩ => ?_
  subst e
  refine tA.step ok re q fun ws c1 vs e1 ok1 re1 rvs q1 => ?_
  split at q1
  · rename_i hz
    exact ⟨by rw [Paired.length rvs]; exact hz, fun p hp => new_list ok1 rvs hp q1⟩
  · exact q1.elim
end
end Ev
set_option Elab.async false
set_option linter.all false
set_option maxRecDepth 100000
set_option maxHeartbeats 2000000
/-! E6: subscripts, slices, f-strings, built-in functions. -/
namespace Ev
open PySem PySem.Spec PyProof.Rows L2

/-! ### subscripts -/
def plainIx : Expr → Bool
  | .Slice .. => false
  | _ => true
theorem plainIx_ok {b : Expr} (h : plainIx b = true) : PlainIx b := fun o i => by
  cases b <;> first | rfl | cases h
def ixM (o i : W) : M W := fun h => match o, i with
  | .d (.str z), .d (.int n) => (match atI z.cps.toList n with
    | some c => if z.length ≤ sizeLine then .ok (wS ⟨#[c]⟩) h else .no
    | none => .no)
  | .d (.tuple ds), .d (.int n) => (match atI ds n with
    | some d => .ok (.d d) h
    | none => .no)
  | .d (.list ds), .d (.int n) => (match atI ds n with
    | some d => .ok (.d d) h
    | none => .no)
  | .r j, .d (.int n) => (match h[j]? with
    | some (.lst ws) => (match atI ws n with
      | some d => .ok d h
      | none => .no)
    | some (.dic ws) => (match lookD (.inl n) ws with
      | some d => .ok d h
      | none => .no)
    | some (.rod ws) => (match lookD (.inl n) ws with
      | some d => .ok d h
      | none => .no)
    | _ => .no)
  | o, .d key => (match (keyOf key).bind (dictAt h o) with
    | some (some d) => .ok d h
    | _ => .no)
  | _, _ => .no
theorem atI_len {α β : Type} {xs : List α} {ys : List β} (h : xs.length = ys.length) (i : Int) : atI xs i = (ixN ys.length i).bind fun j => xs[j]? := by
  unfold atI; rw [h]
theorem atI_rel {α : Type} {P : V → α → Prop} {xs : List V} {ds : List α} {i : Int} {d : α} (hl : xs.length = ds.length) (hg : ∀ (j : Nat) (d : α), ds[j]? = some d → ∃ v, xs[j]? = some v ∧ P v d) (h : atI ds i = some d) : ∃ v, atI xs i = some v ∧ P v d := by
  unfold atI at h
  cases q : ixN ds.length i with
  | none => rw [q] at h; cases h
  | some j =>
    rw [q] at h
    obtain ⟨v, h1, h2⟩ := hg j d h
    exact ⟨v, by unfold atI; rw [hl, q]; exact h1, h2⟩
theorem ix_dict {X : Cx} (hu : X.A.units + 1 < cLine) : IxR X (fun x y H Q => ∃ a v, x = .ref a ∧ DGet H a y (some v) ∧ Q v H) := by
  intro value slice pins s σ H x y v u Q I rx ry q hs
  obtain ⟨a, v', rfl, g, q⟩ := q
  cases rx
  exact tail_any (dict_typeIs I g) PySem.F.slot_dict_getitem.lookup (d_getItem hu I g ry fun w' s3 I3 rw' => ⟨v', H, I3, rw', q⟩) hs
theorem ixM_ok {X : Cx} {G : GA} (hK : X.K = G.K) (hu : X.A.units + 1 < cLine) : ∃ r, IxR X r ∧ Op2 G ixM r := by
  refine ⟨_, ix_seq.or (ix_dict hu), fun c x y a b Q E k rx ry h => ?_⟩
  unfold ixM at h
  split at h
  · rename_i z n
    rw [rStr rx, rInt ry]
    split at h
    · rename_i ch hc
      split at h
      · rename_i hz
        exact .inl (.inr (.inr ⟨z, n, ch, rfl, rfl, hz, hc, h.here k _ (.str _)⟩))
      · exact h.elim
    · exact h.elim
  · rename_i ds n
    rw [rInt ry]
    obtain ⟨p, xs, rfl, h1, r1⟩ := rTup rx
    split at h
    · rename_i d hd
      obtain ⟨v, hv, rv⟩ := atI_rel (P := Rp G.K c) r1.length (fun j d q => r1.get q) hd
      exact .inl (.inr (.inl ⟨p, xs, n, v, rfl, rfl, by rw [hK]; exact h1, hv, h.here k _ rv⟩))
    · exact h.elim
  · rename_i ds n
    rw [rInt ry]
    obtain ⟨p, xs, rfl, h1, r1⟩ := rLst rx
    split at h
    · rename_i d hd
      obtain ⟨v, hv, rv⟩ := atI_rel (P := Rp G.K c) r1.length (fun j d q => r1.get q) hd
      exact .inl (.inl ⟨p, xs, n, v, rfl, rfl, by rw [hK]; exact h1, hv, h.here k _ rv⟩)
    · exact h.elim
  · rename_i j n
    rw [rInt ry]
    split at h
    · rename_i ws e
      obtain ⟨p, rfl, h1, xs, hx, r1⟩ := rRef k rx e
      split at h
      · rename_i d hd
        obtain ⟨v, hv, rv⟩ := atI_rel (P := RW G c) (Paired.length r1) (fun j d q => RWL.get r1 q) hd
        exact .inl (.inl ⟨p, xs, n, v, rfl, rfl, .inl (.inl hx), hv, h.here k _ rv⟩)
      · exact h.elim
    · rename_i ws e
      split at h
      · rename_i d hd
        have hd' : dictAt c.ah (.r j) (.inl n) = some (some d) := by
          simp only [dictAt, e, hd]
        obtain ⟨p, v, rfl, g, rv⟩ := dictAt_some k hd' rx
        exact .inr ⟨p, v, rfl, g, h.here k _ rv⟩
      · exact h.elim
    · rename_i ws e
      split at h
      · rename_i d hd
        have hd' : dictAt c.ah (.r j) (.inl n) = some (some d) := by
          simp only [dictAt, e, hd]
        obtain ⟨p, v, rfl, g, rv⟩ := dictAt_some k hd' rx
        exact .inr ⟨p, v, rfl, g, h.here k _ rv⟩
      · exact h.elim
    · exact h.elim
  · rename_i key _ _ _ _
    split at h
    · rename_i d hd
      cases hk : keyOf key with
      | none => rw [hk] at hd; cases hd
      | some kk =>
        rw [hk] at hd
        obtain ⟨p, v, rfl, g, rv⟩ := dictAt_some k hd rx
        rw [rKey ry hk]
        exact .inr ⟨p, v, rfl, g, h.here k _ rv⟩
    · exact h.elim
  · exact h.elim
def eIx (a b : ME) : ME := fun env => mbind (a env) fun x => mbind (b env) fun y => ixM x y

/-! ### slices -/
def cutL {α : Type} (xs : List α) (lo hi : Option Int) : List α := (xs.drop (HT.sIx xs.length 0 lo)).take (HT.sIx xs.length xs.length hi - HT.sIx xs.length 0 lo)
theorem cutL_rp {K : PySem.W.Frag} {c : Cf} {xs : List V} {ds : List PyData} (h : RpL K c xs ds) (lo hi : Option Int) : RpL K c (cutV xs lo hi) (cutL ds lo hi) := by
  unfold cutV cutL
  rw [h.length]
  exact (h.drop _).take _
theorem Paired.dropP {α β : Type} {P : α → β → Prop} : ∀ {xs : List α} {ys : List β} (n : Nat), Paired P xs ys → Paired P (xs.drop n) (ys.drop n)
  | _, _, 0, r => r
  | _, _, _ + 1, .nil => .nil
  | _, _, n + 1, .cons _ r => Paired.dropP n r
theorem Paired.takeP {α β : Type} {P : α → β → Prop} : ∀ {xs : List α} {ys : List β} (n : Nat), Paired P xs ys → Paired P (xs.take n) (ys.take n)
  | _, _, 0, _ => .nil
  | _, _, _ + 1, .nil => .nil
  | _, _, n + 1, .cons h r => .cons h (Paired.takeP n r)
theorem cutL_rw {G : GA} {c : Cf} {xs : List V} {ws : List W} (h : RWL G c xs ws) (lo hi : Option Int) : RWL G c (cutV xs lo hi) (cutL ws lo hi) := by
  unfold cutV cutL
  rw [Paired.length h]
  exact Paired.takeP _ (Paired.dropP _ h)
theorem rpl_rwl {G : GA} {c : Cf} : ∀ {xs : List V} {ds : List PyData}, RpL G.K c xs ds → RWL G c xs (ds.map W.d)
  | _, _, .nil => .nil
  | _, _, .cons h r => .cons h (rpl_rwl r)
def slM (o : W) (lo hi : Option Int) : M W := fun h => match o with
  | .d (.str z) => if z.length ≤ sizeLine then .ok (wS (cutS z lo hi)) h else .no
  | .d (.tuple ds) => .ok (.d (.tuple (cutL ds lo hi))) h
  | .d (.list ds) => .ok (.r h.length) (h ++ [.lst ((cutL ds lo hi).map .d)])
  | .r j => (match h[j]? with
    | some (.lst ws) => .ok (.r h.length) (h ++ [.lst (cutL ws lo hi)])
    | _ => .no)
  | _ => .no
def SlS (G : GA) (r : V → Option Int → Option Int → Hp → VK → Prop) : Prop := ∀ (c : Cf) (x : V) (a : W) (lo hi : Option Int) (Q : VK) (E : Str → Cf → Prop), c.ok G → RW G c x a → Po G (slM a lo hi c.ah) c (VQ G Q) E → r x lo hi c.H Q
theorem slM_ok {X : Cx} {G : GA} (hK : X.K = G.K) : ∃ r, SlR X r ∧ SlS G r := by
  refine ⟨_, sl_str.or (sl_tupA.or sl_list), fun c x a lo hi Q E k rx h => ?_⟩
  unfold slM at h
  split at h
  · rename_i z
    rw [rStr rx]
    split at h
    · rename_i hz
      exact .inl ⟨z, rfl, hz, h.here k _ (.str _)⟩
    · exact h.elim
  · rename_i ds
    obtain ⟨p, xs, rfl, h1, r1⟩ := rTup rx
    refine .inr (.inl ⟨p, xs, rfl, by rw [hK]; exact h1, fun hw => ?_, fun _ q hq => new_tup k (cutL_rp r1 lo hi) hq h⟩)
    have e : cutL ds lo hi = ds := by
      unfold cutL
      rw [← r1.length, hw.1, hw.2, List.drop_zero, Nat.sub_zero, r1.length, List.take_length]
    rw [e] at h
    exact h.here k _ rx
  · rename_i ds
    obtain ⟨p, xs, rfl, h1, r1⟩ := rLst rx
    refine .inr (.inr ⟨p, xs, rfl, by rw [hK]; exact h1, fun q hq => new_list k (rpl_rwl (cutL_rp r1 lo hi)) hq h⟩)
  · rename_i j
    split at h
    · rename_i ws e
      obtain ⟨p, rfl, h1, xs, hx, r1⟩ := rRef k rx e
      exact .inr (.inr ⟨p, xs, rfl, .inl (.inl hx), fun q hq => new_list k (cutL_rw r1 lo hi) hq h⟩)
    · exact h.elim
  · exact h.elim
def pNo : EnvW → M (Option Int) := fun _ => mpure none
def asI (w : W) : M Int := match w with
  | .d (.int i) => mpure i
  | _ => mno
def pSome (a : ME) : EnvW → M (Option Int) := fun env => mbind (a env) fun x => mbind (asI x) fun i => mpure (some i)
def eSl (a : ME) (lo hi : EnvW → M (Option Int)) : ME := fun env => mbind (a env) fun x => mbind (lo env) fun l => mbind (hi env) fun u => slM x l u
def tO (G : GA) (Wx : WX) (m : EnvW → M (Option Int)) : TO := fun σ H Q => ∃ c env, c.H = H ∧ c.ok G ∧ EnvR G c env σ ∧ Po G (m env c.ah) c (fun b c' => Q b c'.H) (fun e c' => WEx G Wx e σ c'.H)
theorem PO.imp {X : Cx} {e : Option Expr} {t t' : TO} (h : PO X e t) (i : ∀ σ H Q, t' σ H Q → t σ H Q) : PO X e t' := ⟨fun p s σ H Q I q => h.run p s σ H Q I (i _ _ _ q)⟩
theorem asI_po {G : GA} {w : W} {c1 : Cf} {β : Type} {f : Int → M β} {F : β → Cf → Prop} {E : Str → Cf → Prop} {v : V} (ok : c1.ok G) (r : RW G c1 v w) (h : Po G (mbind (asI w) f c1.ah) c1 F E) : ∃ t, v = .int t ∧ Po G (f t c1.ah) c1 F E := by
  unfold asI at h
  split at h
  · rename_i b
    exact ⟨b, rInt r, Po.here (a := b) (Po.bind h) ok⟩
  · exact h.elim
section
variable {T : Tb} {G : GA} {CM : FId → List W → M W} {k : Nat} {sc : Sc} {a b c e : Expr} {ma mb mc : ME} {pos p2 : Pos}
theorem se_ix (ha : SE T G CM k sc a ma) (hb : SE T G CM k sc b mb) (hp : plainIx b = true) : SE T G CM k sc (.Subscript a b pos) (eIx ma mb) := fun X Wx F => by
  obtain ⟨r, h1, h2⟩ := ixM_ok (X := X) (G := G) F.K (hu_of F.room)
  refine PE.imp (pe_ix h1 (ha X Wx F) (hb X Wx F) (plainIx_ok hp)) fun σ H Q ⟨c, env, e, ok, re, q⟩ => ?_
  subst e
  refine tE.step ok re q fun w c1 v e1 ok1 re1 rv q1 => tE.step ok1 re1 q1 fun w2 c2 v2 e2 ok2 re2 rv2 q2 => ?_
  exact h2 c2 v v2 w w2 Q _ ok2 (RW.mono e2 rv) rv2 q2
def SO (T : Tb) (G : GA) (CM : FId → List W → M W) (k : Nat) (sc : Sc) (e : Option Expr) (m : EnvW → M (Option Int)) : Prop := ∀ X Wx, Fits T G CM k X sc Wx → PO X e (tO G Wx m)
theorem so_none : SO T G CM k sc none pNo := fun X Wx F => PO.imp po_none fun σ H Q ⟨c, env, e, ok, re, q⟩ => by
  subst e
  exact Po.here (a := none) q ok
theorem so_some (ha : SE T G CM k sc a ma) : SO T G CM k sc (some a) (pSome ma) := fun X Wx F => PO.imp (po_some (ha X Wx F)) fun σ H Q ⟨c, env, e, ok, re, q⟩ => by
  subst e
  refine tE.step ok re q fun w c1 v e1 ok1 re1 rv q1 => ?_
  obtain ⟨i, hi, q2⟩ := asI_po ok1 rv q1
  exact ⟨i, hi, Po.here (a := some i) q2 ok1⟩
theorem tO.step {Wx : WX} {σ : L2.St} {m : EnvW → M (Option Int)} {c : Cf} {env : EnvW} {β : Type} {f : Option Int → M β} {F : β → Cf → Prop} {Q : Option Int → Hp → Prop} (k : c.ok G) (r : EnvR G c env σ)
    (h : Po G (mbind (m env) f c.ah) c F (fun e c' => WEx G Wx e σ c'.H))
    (n : ∀ w c1, c.ext c1 → c1.ok G → EnvR G c1 env σ → Po G (f w c1.ah) c1 F (fun e c' => WEx G Wx e σ c'.H) → Q w c1.H) : tO G Wx m σ c.H Q :=
  ⟨c, env, rfl, k, r, Po.mono (Po.bind h) (fun w c1 e o q => n w c1 e o (r.mono e) q) fun _ _ _ _ q => q⟩
theorem se_slice {lo hi : Option Expr} {ml mh : EnvW → M (Option Int)} (ha : SE T G CM k sc a ma) (hl : SO T G CM k sc lo ml) (hh : SO T G CM k sc hi mh) : SE T G CM k sc (.Subscript a (.Slice lo hi none p2) pos) (eSl ma ml mh) := fun X Wx F => by
  obtain ⟨r, h1, h2⟩ := slM_ok (X := X) (G := G) F.K
  refine PE.imp (pe_slice h1 (ha X Wx F) (hl X Wx F) (hh X Wx F)) fun σ H Q ⟨c, env, e, ok, re, q⟩ => ?_
  subst e
  refine tE.step ok re q fun w c1 v e1 ok1 re1 rv q1 => tO.step ok1 re1 q1 fun l c2 e2 ok2 re2 q2 => tO.step ok2 re2 q2 fun u c3 e3 ok3 re3 q3 => ?_
  exact h2 c3 v w l u Q _ ok3 (RW.mono e3 (RW.mono e2 rv)) q3

/-! ### f-strings -/
def fmtM (w : W) : M W := fun h => match w with
  | .d (.str y) => if y.length ≤ sizeLine then .ok (wS y) h else .no
  | .d (.int i) => if i.natAbs.log2 < 1920 then .ok (wS (toString i)) h else .no
  | _ => .no
def eFmt (a : ME) : ME := fun env => mbind (a env) fmtM
theorem se_fmt (ha : SE T G CM k sc a ma) : SE T G CM k sc (.FormattedValue a (-1) none pos) (eFmt ma) := fun X Wx F => by
  refine PE.imp (pe_fmt (ha X Wx F)) fun σ H Q ⟨c, env, e, ok, re, q⟩ => ?_
  subst e
  refine tE.step ok re q fun w c1 v e1 ok1 re1 rv q1 => ?_
  unfold fmtM at q1
  split at q1
  · rename_i y
    split at q1
    · rename_i hz
      exact .inl ⟨y, rStr rv, hz, q1.here ok1 _ (.str _)⟩
    · exact q1.elim
  · rename_i i
    split at q1
    · rename_i hz
      exact .inr ⟨i, rInt rv, hz, q1.here ok1 _ (.str _)⟩
    · exact q1.elim
  · exact q1.elim
def asS (w : W) : M Str := match w with
  | .d (.str i) => mpure i
  | _ => mno
def joinM : List ME → Str → EnvW → M W
  | [], acc, _ => mpure (wS acc)
  | m :: ms, acc, env => mbind (m env) fun w => mbind (asS w) fun y => if (acc ++ y).length ≤ sizeLine then joinM ms (acc ++ y) env else mno
theorem asS_po {w : W} {c1 : Cf} {β : Type} {f : Str → M β} {F : β → Cf → Prop} {E : Str → Cf → Prop} {v : V} (ok : c1.ok G) (r : RW G c1 v w) (h : Po G (mbind (asS w) f c1.ah) c1 F E) : ∃ t, v = .str t ∧ Po G (f t c1.ah) c1 F E := by
  unfold asS at h
  split at h
  · rename_i b
    exact ⟨b, rStr r, Po.here (a := b) (Po.bind h) ok⟩
  · exact h.elim
theorem tJs_ok {Wx : WX} {σ : L2.St} : ∀ (ms : List ME) (acc : Str) (c : Cf) (env : EnvW) (Q : VK), c.ok G → EnvR G c env σ → Po G (joinM ms acc env c.ah) c (VQ G Q) (fun e c' => WEx G Wx e σ c'.H) → tJs (ms.map (tE G Wx)) acc σ c.H fun out H1 => Q (.str out) H1
  | [], acc, c, env, Q, ok, re, q => Po.here (a := wS acc) q ok _ (.str _)
  | m :: ms, acc, c, env, Q, ok, re, q => by
    refine tE.step ok re q fun w c1 v e1 ok1 re1 rv q1 => ?_
    obtain ⟨y, hy, q2⟩ := asS_po ok1 rv q1
    by_cases hz : (acc ++ y).length ≤ sizeLine
    · rw [if_pos hz] at q2
      exact ⟨y, hy, hz, tJs_ok ms (acc ++ y) c1 env Q ok1 re1 q2⟩
    · rw [if_neg hz] at q2
      exact q2.elim
theorem pj_of {P : Expr → ME} {X : Cx} {Wx : WX} (hP : ∀ e, SE T G CM k sc e (P e)) (F : Fits T G CM k X sc Wx) : ∀ es : List Expr, PJ X es ((es.map P).map (tE G Wx))
  | [] => .nil
  | e :: es => .cons (hP e X Wx F) (pj_of hP F es)
theorem se_join {P : Expr → ME} (hP : ∀ e, SE T G CM k sc e (P e)) {v1 v2 : Expr} {rest : List Expr} : SE T G CM k sc (.JoinedStr (v1 :: v2 :: rest) pos) (joinM ((v1 :: v2 :: rest).map P) Str.empty) := fun X Wx F => by
  refine PE.imp (pe_joined (pj_of hP F (v1 :: v2 :: rest))) fun σ H Q ⟨c, env, e, ok, re, q⟩ => ?_
  subst e
  exact tJs_ok _ _ c env Q ok re q
end
end Ev
set_option Elab.async false
set_option linter.all false
set_option maxRecDepth 100000
set_option maxHeartbeats 2000000
/-! E7: built-in functions, isinstance, calls of defs. -/
namespace Ev
open PySem PySem.Spec PyProof.Rows L2

def CallS (G : GA) (f : List W → M W) (r : List V → Hp → VK → Prop) : Prop := ∀ (c : Cf) (xs : List V) (ws : List W) (Q : VK) (E : Str → Cf → Prop), c.ok G → RWL G c xs ws → Po G (f ws c.ah) c (VQ G Q) E → r xs c.H Q
theorem rwl1 {G : GA} {c : Cf} {xs : List V} {w : W} (h : RWL G c xs [w]) : ∃ v, xs = [v] ∧ RW G c v w := by
  cases h with
  | cons h1 h2 => cases h2; exact ⟨_, rfl, h1⟩
theorem rwl2 {G : GA} {c : Cf} {xs : List V} {w w' : W} (h : RWL G c xs [w, w']) : ∃ v v', xs = [v, v'] ∧ RW G c v w ∧ RW G c v' w' := by
  cases h with
  | cons h1 h2 =>
    obtain ⟨v, rfl, h3⟩ := rwl1 h2
    exact ⟨_, _, rfl, h1, h3⟩
def fLen (ws : List W) : M W := fun h => match ws with
  | [.d (.str z)] => if z.length ≤ sizeLine then .ok (wI z.length) h else .no
  | [.d (.tuple ds)] => .ok (wI ds.length) h
  | [.d (.list ds)] => .ok (wI ds.length) h
  | [.d (.dict ds)] => .ok (wI ds.length) h
  | [.r i] => (match h[i]? with
    | some (.lst xs) => .ok (wI xs.length) h
    | some (.dic xs) => .ok (wI xs.length) h
    | _ => .no)
  | _ => .no
theorem RpD.length {K : PySem.W.Frag} {c : Cf} : ∀ {xs : List (Key × V)} {ds : List (PyData × PyData)}, RpD K c xs ds → xs.length = ds.length
  | _, _, .nil => rfl
  | _, _, .cons _ r => by simp [RpD.length r]
theorem call_lenDk {X : Cx} : CallR X (.builtin "len") (fun xs H Q => ∃ a kvs, xs = [.ref a] ∧ Rd H a (.dK kvs) ∧ Q (.int kvs.length) H) := by
  intro pins s σ H xs us Q I r h
  obtain ⟨a, kvs, rfl, h1, q⟩ := h
  rw [Vals.ref1 r]
  exact d_len I h1 fun t s' I' => ⟨.int kvs.length, H, I', ⟨t, rfl⟩, q⟩
theorem len_ok {X : Cx} {G : GA} (hK : X.K = G.K) : ∃ r, CallR X (.builtin "len") r ∧ CallS G fLen r := by
  refine ⟨_, call_len_str.or (call_len_seq.or call_lenDk), fun c xs ws Q E k rx h => ?_⟩
  unfold fLen at h
  split at h
  · rename_i z
    obtain ⟨v, rfl, r1⟩ := rwl1 rx
    rw [rStr r1]
    split at h
    · rename_i hz
      exact .inl ⟨z, rfl, hz, h.here k _ (.int _)⟩
    · exact h.elim
  · rename_i ds
    obtain ⟨v, rfl, r1⟩ := rwl1 rx
    obtain ⟨p, xs, rfl, h1, r2⟩ := rTup r1
    exact .inr (.inl ⟨p, xs, rfl, .inr (by rw [hK]; exact h1), by rw [r2.length]; exact h.here k _ (.int _)⟩)
  · rename_i ds
    obtain ⟨v, rfl, r1⟩ := rwl1 rx
    obtain ⟨p, xs, rfl, h1, r2⟩ := rLst r1
    exact .inr (.inl ⟨p, xs, rfl, .inl (by rw [hK]; exact h1), by rw [r2.length]; exact h.here k _ (.int _)⟩)
  · rename_i ds
    obtain ⟨v, rfl, r1⟩ := rwl1 rx
    cases (show Rp G.K c v (.dict ds) from r1) with
    | dic l1 h1 r2 => exact .inr (.inr ⟨_, _, rfl, h1, by rw [r2.length]; exact h.here k _ (.int _)⟩)
  · rename_i i
    obtain ⟨v, rfl, r1⟩ := rwl1 rx
    split at h
    · rename_i ws e
      obtain ⟨p, rfl, h1, xs, hx, r2⟩ := rRef k r1 e
      exact .inr (.inl ⟨p, xs, rfl, .inl (.inl (.inl hx)), by rw [Paired.length r2]; exact h.here k _ (.int _)⟩)
    · rename_i ws e
      obtain ⟨p, rfl, h1, xs, hx, r2⟩ := rRef k r1 e
      exact .inr (.inr ⟨p, xs, rfl, .inl hx, by rw [Paired.length r2]; exact h.here k _ (.int _)⟩)
    · exact h.elim
  · exact h.elim
/-- a list's items as bools, ints, texts -/
def boolsD : List PyData → Option (List Bool)
  | [] => some []
  | .bool b :: r => (boolsD r).map (b :: ·)
  | _ => none
def intsD : List PyData → Option (List Int)
  | [] => some []
  | .int b :: r => (intsD r).map (b :: ·)
  | _ => none
def strsD : List PyData → Option (List Str)
  | [] => some []
  | .str b :: r => (strsD r).map (b :: ·)
  | _ => none
theorem boolsD_ok {K : PySem.W.Frag} {c : Cf} : ∀ {ds : List PyData} {bs : List Bool} {xs : List V}, boolsD ds = some bs → RpL K c xs ds → xs = bs.map V.bl
  | [], bs, xs, h, r => by cases h; cases r; rfl
  | .bool b :: ds, bs, xs, h, r => by
    unfold boolsD at h
    cases r with
    | cons r1 r2 =>
      cases q : boolsD ds with
      | none => rw [q] at h; cases h
      | some es =>
        rw [q] at h; cases h
        rw [boolsD_ok q r2]
        cases r1
        rfl
  | .none :: _, _, _, h, _ => by cases h
  | .int _ :: _, _, _, h, _ => by cases h
  | .str _ :: _, _, _, h, _ => by cases h
  | .list _ :: _, _, _, h, _ => by cases h
  | .tuple _ :: _, _, _, h, _ => by cases h
  | .dict _ :: _, _, _, h, _ => by cases h
theorem intsD_ok {K : PySem.W.Frag} {c : Cf} : ∀ {ds : List PyData} {bs : List Int} {xs : List V}, intsD ds = some bs → RpL K c xs ds → xs = bs.map V.int
  | [], bs, xs, h, r => by cases h; cases r; rfl
  | .int b :: ds, bs, xs, h, r => by
    unfold intsD at h
    cases r with
    | cons r1 r2 =>
      cases q : intsD ds with
      | none => rw [q] at h; cases h
      | some es =>
        rw [q] at h; cases h
        rw [intsD_ok q r2]
        cases r1
        rfl
  | .none :: _, _, _, h, _ => by cases h
  | .bool _ :: _, _, _, h, _ => by cases h
  | .str _ :: _, _, _, h, _ => by cases h
  | .list _ :: _, _, _, h, _ => by cases h
  | .tuple _ :: _, _, _, h, _ => by cases h
  | .dict _ :: _, _, _, h, _ => by cases h
theorem strsD_ok {K : PySem.W.Frag} {c : Cf} : ∀ {ds : List PyData} {bs : List Str} {xs : List V}, strsD ds = some bs → RpL K c xs ds → xs = bs.map V.str
  | [], bs, xs, h, r => by cases h; cases r; rfl
  | .str b :: ds, bs, xs, h, r => by
    unfold strsD at h
    cases r with
    | cons r1 r2 =>
      cases q : strsD ds with
      | none => rw [q] at h; cases h
      | some es =>
        rw [q] at h; cases h
        rw [strsD_ok q r2]
        cases r1
        rfl
  | .none :: _, _, _, h, _ => by cases h
  | .bool _ :: _, _, _, h, _ => by cases h
  | .int _ :: _, _, _, h, _ => by cases h
  | .list _ :: _, _, _, h, _ => by cases h
  | .tuple _ :: _, _, _, h, _ => by cases h
  | .dict _ :: _, _, _, h, _ => by cases h
/-- a value that is a list of data -/
def listD (h : AH) (w : W) : Option (List PyData) := match peek h w with
  | some (.list ds) => some ds
  | _ => none
theorem listD_ok {G : GA} {c : Cf} {w : W} {ds : List PyData} {v : V} (k : c.ok G) (r : RW G c v w) (h : listD c.ah w = some ds) : ∃ p xs, v = .ref p ∧ SqL G.K c.H p xs ∧ RpL G.K c xs ds := by
  unfold listD at h
  split at h
  · rename_i es e
    cases h
    cases w with
    | d x => cases e; exact rLst r
    | r i =>
      simp only [peek] at e
      split at e
      · rename_i ws e2
        obtain ⟨a, rfl, h1, xs, hx, rx⟩ := rRef k r e2
        cases q : allD ws with
        | none => rw [q] at e; cases e
        | some fs =>
          rw [q] at e
          cases e
          exact ⟨a, xs, rfl, .inl (.inl hx), allD_ok q rx⟩
      · cases e
    | fn f => cases e
    | ex f => cases e
  · cases h
def fAll (ws : List W) : M W := fun h => match ws with
  | [w] => (match (listD h w).bind boolsD with
    | some bs => .ok (wB (bs.all id)) h
    | none => .no)
  | _ => .no
def fAny (ws : List W) : M W := fun h => match ws with
  | [w] => (match (listD h w).bind boolsD with
    | some bs => .ok (wB (bs.any id)) h
    | none => .no)
  | _ => .no
def fSum (ws : List W) : M W := fun h => match ws with
  | [w] => (match (listD h w).bind intsD with
    | some bs => .ok (wI bs.sum) h
    | none => .no)
  | _ => .no
theorem bind_some_ok {α β : Type} {o : Option α} {f : α → Option β} {b : β} (h : o.bind f = some b) : ∃ a, o = some a ∧ f a = some b := by
  cases o with
  | none => cases h
  | some a => exact ⟨a, rfl, h⟩
theorem all_ok {X : Cx} {G : GA} (hK : X.K = G.K) (hc : X.calm = true) : ∃ r, CallR X (.builtin "all") r ∧ CallS G fAll r := by
  refine ⟨_, cr_all hc, fun c xs ws Q E k rx h => ?_⟩
  unfold fAll at h
  split at h
  · rename_i w
    obtain ⟨v, rfl, r1⟩ := rwl1 rx
    split at h
    · rename_i bs e
      obtain ⟨ds, e1, e2⟩ := bind_some_ok e
      obtain ⟨p, ys, rfl, h1, r2⟩ := listD_ok k r1 e1
      rw [boolsD_ok e2 r2] at h1
      exact ⟨p, bs, rfl, by rw [hK]; exact h1, h.here k _ (.bl _)⟩
    · exact h.elim
  · exact h.elim
theorem any_ok {X : Cx} {G : GA} (hK : X.K = G.K) (hc : X.calm = true) : ∃ r, CallR X (.builtin "any") r ∧ CallS G fAny r := by
  refine ⟨_, cr_any hc, fun c xs ws Q E k rx h => ?_⟩
  unfold fAny at h
  split at h
  · rename_i w
    obtain ⟨v, rfl, r1⟩ := rwl1 rx
    split at h
    · rename_i bs e
      obtain ⟨ds, e1, e2⟩ := bind_some_ok e
      obtain ⟨p, ys, rfl, h1, r2⟩ := listD_ok k r1 e1
      rw [boolsD_ok e2 r2] at h1
      exact ⟨p, bs, rfl, by rw [hK]; exact h1, h.here k _ (.bl _)⟩
    · exact h.elim
  · exact h.elim
theorem sum_ok {X : Cx} {G : GA} (hK : X.K = G.K) (hc : X.calm = true) : ∃ r, CallR X (.builtin "sum") r ∧ CallS G fSum r := by
  refine ⟨_, cr_sum hc, fun c xs ws Q E k rx h => ?_⟩
  unfold fSum at h
  split at h
  · rename_i w
    obtain ⟨v, rfl, r1⟩ := rwl1 rx
    split at h
    · rename_i bs e
      obtain ⟨ds, e1, e2⟩ := bind_some_ok e
      obtain ⟨p, ys, rfl, h1, r2⟩ := listD_ok k r1 e1
      rw [intsD_ok e2 r2] at h1
      exact ⟨p, bs, rfl, by rw [hK]; exact h1, h.here k _ (.int _)⟩
    · exact h.elim
  · exact h.elim
def fTuple (ws : List W) : M W := fun h => match ws with
  | [.d (.tuple ds)] => .ok (.d (.tuple ds)) h
  | [w] => (match listD h w with
    | some ds => .ok (.d (.tuple ds)) h
    | none => .no)
  | _ => .no
theorem tuple_ok {X : Cx} {G : GA} (hK : X.K = G.K) : ∃ r, CallR X (.type "tuple") r ∧ CallS G fTuple r := by
  refine ⟨_, call_tuple_of, fun c xs ws Q E k rx h => ?_⟩
  unfold fTuple at h
  split at h
  · rename_i ds
    obtain ⟨v, rfl, r1⟩ := rwl1 rx
    obtain ⟨p, ys, rfl, h1, r2⟩ := rTup r1
    exact ⟨p, ys, rfl, .inr ⟨by rw [hK]; exact h1, h.here k _ r1⟩⟩
  · rename_i w _
    obtain ⟨v, rfl, r1⟩ := rwl1 rx
    split at h
    · rename_i ds e
      obtain ⟨p, ys, rfl, h1, r2⟩ := listD_ok k r1 e
      exact ⟨p, ys, rfl, .inl ⟨by rw [hK]; exact h1, fun l hl => new_tup k r2 hl h⟩⟩
    · exact h.elim
  · exact h.elim
def fList (ws : List W) : M W := fun h => match ws with
  | [.d (.tuple ds)] => .ok (.r h.length) (h ++ [.lst (ds.map .d)])
  | [.d (.list ds)] => .ok (.r h.length) (h ++ [.lst (ds.map .d)])
  | [.r i] => (match h[i]? with
    | some (.lst xs) => .ok (.r h.length) (h ++ [.lst xs])
    | _ => .no)
  | _ => .no
theorem list_ok {X : Cx} {G : GA} (hK : X.K = G.K) : ∃ r, CallR X (.type "list") r ∧ CallS G fList r := by
  refine ⟨_, call_list_of, fun c xs ws Q E k rx h => ?_⟩
  unfold fList at h
  split at h
  · rename_i ds
    obtain ⟨v, rfl, r1⟩ := rwl1 rx
    obtain ⟨p, ys, rfl, h1, r2⟩ := rTup r1
    exact ⟨p, ys, rfl, .inr (by rw [hK]; exact h1), fun l hl => new_list k (rpl_rwl r2) hl h⟩
  · rename_i ds
    obtain ⟨v, rfl, r1⟩ := rwl1 rx
    obtain ⟨p, ys, rfl, h1, r2⟩ := rLst r1
    exact ⟨p, ys, rfl, .inl (by rw [hK]; exact h1), fun l hl => new_list k (rpl_rwl r2) hl h⟩
  · rename_i i
    obtain ⟨v, rfl, r1⟩ := rwl1 rx
    split at h
    · rename_i ws e
      obtain ⟨p, rfl, h1, xs, hx, r2⟩ := rRef k r1 e
      exact ⟨p, xs, rfl, .inl (.inl (.inl hx)), fun l hl => new_list k r2 hl h⟩
    · exact h.elim
  · exact h.elim
def fStr (ws : List W) : M W := fun h => match ws with
  | [.d (.int i)] => if i.natAbs.log2 < 1920 then .ok (wS (toString i)) h else .no
  | [.d (.str i)] => .ok (wS i) h
  | _ => .no
theorem str_ok {X : Cx} {G : GA} : ∃ r, CallR X (.type "str") r ∧ CallS G fStr r := by
  refine ⟨_, call_str_int.or SkE.call_str_str, fun c xs ws Q E k rx h => ?_⟩
  unfold fStr at h
  split at h
  · rename_i i
    obtain ⟨v, rfl, r1⟩ := rwl1 rx
    rw [rInt r1]
    split at h
    · rename_i hz
      exact .inl ⟨i, rfl, hz, h.here k _ (.str _)⟩
    · exact h.elim
  · rename_i i
    obtain ⟨v, rfl, r1⟩ := rwl1 rx
    rw [rStr r1]
    exact .inr ⟨i, rfl, h.here k _ (.str _)⟩
  · exact h.elim
def fInt (ws : List W) : M W := fun h => match ws with
  | [.d (.str x)] => (match PySem.intText? x with
    | some n => if x.length ≤ 640 then .ok (wI n) h else .no
    | none => .no)
  | _ => .no
theorem intt_ok {X : Cx} {G : GA} : ∃ r, CallR X (.type "int") r ∧ CallS G fInt r := by
  refine ⟨_, call_int_str, fun c xs ws Q E k rx h => ?_⟩
  unfold fInt at h
  split at h
  · rename_i x
    obtain ⟨v, rfl, r1⟩ := rwl1 rx
    rw [rStr r1]
    split at h
    · rename_i n e
      split at h
      · rename_i hz
        exact ⟨x, n, rfl, e, hz, h.here k _ (.int _)⟩
      · exact h.elim
    · exact h.elim
  · exact h.elim
/-- built-in functions by their names -/
def bfun (x : Str) : Option (List W → M W) :=
  if x == "len" then some fLen else if x == "all" then some fAll else if x == "any" then some fAny else if x == "sum" then some fSum else none
def btyp (x : Str) : Option (List W → M W) :=
  if x == "tuple" then some fTuple else if x == "list" then some fList else if x == "str" then some fStr else if x == "int" then some fInt else none
theorem bfun_ok {X : Cx} {G : GA} (hK : X.K = G.K) (hc : X.calm = true) {x : Str} {f : List W → M W} (h : bfun x = some f) : ∃ id r, bootBuiltins x = some (.builtin id) ∧ CallR X (.builtin id) r ∧ CallS G f r := by
  unfold bfun at h
  split at h
  · rename_i e; cases h; rw [eq_of_beq e]
    obtain ⟨r, h1, h2⟩ := len_ok (X := X) hK; exact ⟨_, r, PySem.boot_len, h1, h2⟩
  · split at h
    · rename_i e; cases h; rw [eq_of_beq e]
      obtain ⟨r, h1, h2⟩ := all_ok (X := X) hK hc; exact ⟨_, r, boot_all, h1, h2⟩
    · split at h
      · rename_i e; cases h; rw [eq_of_beq e]
        obtain ⟨r, h1, h2⟩ := any_ok (X := X) hK hc; exact ⟨_, r, boot_any, h1, h2⟩
      · split at h
        · rename_i e; cases h; rw [eq_of_beq e]
          obtain ⟨r, h1, h2⟩ := sum_ok (X := X) hK hc; exact ⟨_, r, boot_sum, h1, h2⟩
        · cases h
theorem btyp_ok {X : Cx} {G : GA} (hK : X.K = G.K) {x : Str} {f : List W → M W} (h : btyp x = some f) : ∃ id r, bootBuiltins x = some (.type id) ∧ CallR X (.type id) r ∧ CallS G f r := by
  unfold btyp at h
  split at h
  · rename_i e; cases h; rw [eq_of_beq e]
    obtain ⟨r, h1, h2⟩ := tuple_ok (X := X) hK; exact ⟨_, r, PyProof.Rows.boot_tuple, h1, h2⟩
  · split at h
    · rename_i e; cases h; rw [eq_of_beq e]
      obtain ⟨r, h1, h2⟩ := list_ok (X := X) hK; exact ⟨_, r, PyProof.Rows.boot_list, h1, h2⟩
    · split at h
      · rename_i e; cases h; rw [eq_of_beq e]
        obtain ⟨r, h1, h2⟩ := str_ok (X := X) (G := G); exact ⟨_, r, PyProof.Rows.boot_str, h1, h2⟩
      · split at h
        · rename_i e; cases h; rw [eq_of_beq e]
          obtain ⟨r, h1, h2⟩ := intt_ok (X := X) (G := G); exact ⟨_, r, PyProof.Rows.boot_int, h1, h2⟩
        · cases h
def eFun (f : List W → M W) (a : EnvW → M (List W)) : ME := fun env => mbind (a env) f
section
variable {T : Tb} {G : GA} {CM : FId → List W → M W} {k : Nat} {sc : Sc} {a b e : Expr} {es : List Expr} {mr : EnvW → M (List W)} {ma : ME} {pos p : Pos} {x : Str} {f : List W → M W}
theorem se_bfun (hg : isGlob sc x = true) (hf : x ∈ T.free) (hb : bfun x = some f) (ha : SA T G CM k sc (e :: es) mr) (hs : (e :: es).all noStar = true) : SE T G CM k sc (.Call (.Name x p) (e :: es) [] pos) (eFun f mr) := fun X Wx F => by
  obtain ⟨id, r, h1, h2, h3⟩ := bfun_ok (X := X) F.K F.calm hb
  rw [List.all_cons, Bool.and_eq_true] at hs
  refine PE.imp (pe_callB h2 (F.gl hg) (F.top.free x hf) h1 (ha X Wx F) (glob_ok hg).2.2 (glob_ok hg).2.1 (noStar_each hs.1 es X.env) (noStar_any hs.2 pos X.env)) fun σ H Q ⟨c, env, e, ok, re, q⟩ => ?_
  subst e
  refine tA.step ok re q fun ws c1 vs e1 ok1 re1 rvs q1 => ?_
  exact h3 c1 vs ws Q _ ok1 rvs q1
theorem se_btyp (hg : isGlob sc x = true) (hf : x ∈ T.free) (hb : btyp x = some f) (ha : SA T G CM k sc (e :: es) mr) (hs : (e :: es).all noStar = true) : SE T G CM k sc (.Call (.Name x p) (e :: es) [] pos) (eFun f mr) := fun X Wx F => by
  obtain ⟨id, r, h1, h2, h3⟩ := btyp_ok (X := X) F.K hb
  rw [List.all_cons, Bool.and_eq_true] at hs
  refine PE.imp (pe_callTy h2 (F.gl hg) (F.top.free x hf) h1 (ha X Wx F) (glob_ok hg).2.2 (glob_ok hg).2.1 (noStar_each hs.1 es X.env) (noStar_any hs.2 pos X.env)) fun σ H Q ⟨c, env, e, ok, re, q⟩ => ?_
  subst e
  refine tA.step ok re q fun ws c1 vs e1 ok1 re1 rvs q1 => ?_
  exact h3 c1 vs ws Q _ ok1 rvs q1
end

/-! ### isinstance(x, T), T a built-in type -/
def tyName (h : AH) : W → Option String
  | .d .none => some "NoneType"
  | .d (.bool _) => some "bool"
  | .d (.int _) => some "int"
  | .d (.str _) => some "str"
  | .d (.list _) => some "list"
  | .d (.tuple _) => some "tuple"
  | .d (.dict _) => some "dict"
  | .r i => (match h[i]? with
    | some (.lst _) => some "list"
    | some (.dic _) => some "dict"
    | _ => none)
  | _ => none
def tyTest : Str → Option String := fun x => if x == "int" then some "int" else if x == "bool" then some "bool" else if x == "str" then some "str" else if x == "tuple" then some "tuple" else if x == "list" then some "list" else if x == "dict" then some "dict" else none
def isSub (a b : String) : Bool := a == b || (a == "bool" && b == "int")
theorem isSub_ok : ∀ a ∈ ["NoneType", "bool", "int", "str", "list", "tuple", "dict"], ∀ b ∈ ["int", "bool", "str", "tuple", "list", "dict"], kitB a b = some (isSub a b) := by decide +kernel
theorem tyName_mem {h : AH} {w : W} {t : String} (e : tyName h w = some t) : t ∈ ["NoneType", "bool", "int", "str", "list", "tuple", "dict"] := by
  unfold tyName at e
  split at e <;> first | (cases e; decide) | (split at e <;> first | (cases e; decide) | cases e) | cases e
theorem tyTest_ok {x : Str} {t : String} (e : tyTest x = some t) : t ∈ ["int", "bool", "str", "tuple", "list", "dict"] ∧ bootBuiltins x = some (.type t) := by
  unfold tyTest at e
  repeat (split at e; (rename_i q; cases e; rw [eq_of_beq q]; exact ⟨by decide, by decide +kernel⟩))
  cases e
theorem tyName_ok {G : GA} {c : Cf} {w : W} {t : String} {v : V} (k : c.ok G) (e : tyName c.ah w = some t) (r : RW G c v w) : TyX G.K c.H v (.type t) := by
  cases w with
  | d x =>
    cases x with
    | none => cases e; rw [rNon r]; exact .base .non
    | bool b => cases e; rw [rBool r]; exact .base (.bl b)
    | int b => cases e; rw [rInt r]; exact .base (.int b)
    | str b => cases e; rw [rStr r]; exact .base (.str b)
    | list b =>
      cases e
      cases (show Rp G.K c v (.list b) from r) with
      | lst l1 h1 r1 =>
        rcases h1 with h1 | ⟨o, h1⟩
        · exact .base (.lst h1)
        · exact .base (.frz h1)
    | tuple b =>
      cases e
      cases (show Rp G.K c v (.tuple b) from r) with
      | tup l1 h1 r1 =>
        rcases h1 with h1 | ⟨o, h1⟩
        · exact .base (.tup h1)
        · exact .fTuple h1
      | tupK h1 r1 =>
        obtain ⟨o, its, n, h2, h3, _⟩ := h1
        exact .kTuple h2 h3
    | dict b =>
      cases e
      cases (show Rp G.K c v (.dict b) from r) with
      | dic l1 h1 r1 =>
        rcases h1 with h1 | ⟨o, h1⟩
        · exact .base (.dK h1)
        · exact .fDict h1
  | r i =>
    simp only [tyName] at e
    split at e
    · rename_i ws e2
      cases e
      obtain ⟨a, rfl, h1, xs, hx, rx⟩ := rRef k r e2
      exact .base (.lst hx)
    · rename_i ws e2
      cases e
      obtain ⟨a, rfl, h1, xs, hx, rx⟩ := rRef k r e2
      exact .base (.dK hx)
    · cases e
  | fn f => cases e
  | ex f => cases e
def isiM (t : String) (w : W) : M W := fun h => match tyName h w with
  | some a => .ok (wB (isSub a t)) h
  | none => .no
def eIsi (a : ME) (t : String) : ME := fun env => mbind (a env) (isiM t)
section
variable {T : Tb} {G : GA} {CM : FId → List W → M W} {k : Nat} {sc : Sc} {a : Expr} {ma : ME} {pos p p2 : Pos} {x : Str} {t : String}
theorem se_isi (hg : isGlob sc "isinstance" = true) (hf : ("isinstance" : Str) ∈ T.free) (hg2 : isGlob sc x = true) (hf2 : x ∈ T.free) (ht : tyTest x = some t) (ha : SE T G CM k sc a ma) (hs : noStar a = true) : SE T G CM k sc (.Call (.Name "isinstance" p) [a, .Name x p2] [] pos) (eIsi ma t) := fun X Wx F => by
  have hA : PA X [a, .Name x p2] (tCons (tE G Wx ma) (tCons (tC (.ty t)) tNil)) := pa_cons (ha X Wx F) (pa_cons (pe_bltn (F.gl hg2) (F.top.free x hf2) (tyTest_ok ht).2 rfl (glob_ok hg2).2.2 (glob_ok hg2).2.1) pa_nil) (noStar_each hs _ _)
  refine PE.imp (pe_callB call_isi (F.gl hg) (F.top.free _ hf) boot_isinstance hA (glob_ok hg).2.2 (glob_ok hg).2.1 (noStar_each hs _ _)) fun σ H Q ⟨c, env, e, ok, re, q⟩ => ?_
  subst e
  refine tE.step ok re q fun w c1 v e1 ok1 re1 rv q1 => ?_
  unfold isiM at q1
  split at q1
  · rename_i a' e2
    exact ⟨v, .ty t, .type a', .type t, isSub a' t, rfl, .ty t, by rw [F.K]; exact tyName_ok ok1 e2 rv, kit_ty (isSub_ok _ (tyName_mem e2) _ (tyTest_ok ht).1), q1.here ok1 _ (.bl _)⟩
  · exact q1.elim
end
end Ev
set_option Elab.async false
set_option linter.all false
set_option maxRecDepth 100000
set_option maxHeartbeats 2000000
/-! E8: calls of defs, of methods, attributes, new objects, methods of built-in objects. -/
namespace Ev
open PySem PySem.Spec PyProof.Rows L2

section
variable {T : Tb} {G : GA} {CM : FId → List W → M W} {k : Nat} {sc : Sc} {a b e o : Expr} {es : List Expr} {mr : EnvW → M (List W)} {ma mo : ME} {pos p apos : Pos} {x f m : Str}
/-- a def is called with values -/
theorem call_sem {X : Cx} {Wx : WX} (F : Fits T G CM k X sc Wx) {f : FId} {fa : Addr} (hf : G.fa f = some fa) (hnp : T.nopos.contains f = false) {pins : List (Addr × Obj)} {s : Shared} {σ : L2.St} {c : Cf} {vs : List V} {ws : List W} {us : List Value} {Q : VK} (I : Inv X pins σ c.H s) (ok : c.ok G)
    (rv : RWL G c vs ws) (ru : Vals vs us) (q : Po G (CM f ws c.ah) c (VQ G Q) (fun e c' => WEx G Wx e σ c'.H)) : wpAny (model X.prog X.w) X.A (call (.ref fa) us) (EP X pins σ Q) X.xe s := by
  obtain ⟨fd, ps, hF, hb, hk, hno⟩ := F.top.fn f fa hf
  have hl : ws.length = ps.length := Classical.byContradiction fun hn => by
    rw [hno ws c.ah hn] at q
    exact q.elim
  exact run_fnS (E := WE Wx) hF (F.room.mono (Nat.le_succ _)) (hb.pos hnp) (passAt F.takes σ) I ru ⟨by rw [Paired.length rv]; exact hl, c, ws, rfl, ok, rv, q⟩
def eCall (CM : FId → List W → M W) (f : FId) (a : EnvW → M (List W)) : ME := fun env => mbind (a env) (CM f)
theorem se_call (hg : isGlob sc f = true) (hd : f ∈ T.defs) (hnp : T.nopos.contains (pl f) = false) (ha : SA T G CM k sc (e :: es) mr) (hs : (e :: es).all noStar = true) : SE T G CM k sc (.Call (.Name f p) (e :: es) [] pos) (eCall CM (pl f) mr) := fun X Wx F => by
  obtain ⟨fa, h1, h2⟩ := F.top.def_ f hd
  obtain ⟨fd, ps, hF, hb, hk, hno⟩ := F.top.fn (pl f) fa h1
  rw [List.all_cons, Bool.and_eq_true] at hs
  refine ⟨fun pins s σ H Q I ⟨c, env, e0, ok, re, q⟩ => ?_⟩
  subst e0
  refine wpAny_Call_Name_kw (ld_glob I (F.gl hg) h2 ?_ (glob_ok hg).2.1)
  refine PySem.W.callWith_K (h₀ := X.base) I.ok.mod.kin hk (thn ((ha X Wx F).run pos pins s σ c.H (fun vs H1 => ∃ c1 ws, c1.H = H1 ∧ c1.ok G ∧ RWL G c1 vs ws ∧ Po G (CM (pl f) ws c1.ah) c1 (VQ G Q) (fun e c' => WEx G Wx e σ c'.H)) I (tA.step ok re q fun ws c1 vs e1 ok1 re1 rvs q1 => ⟨c1, ws, rfl, ok1, rvs, q1⟩)) fun us s1 ⟨vs, H1, I1, r, c1, ws, e1, ok1, rvs, q1⟩ => ?_) (noStar_each hs.1 es X.env) (noStar_any hs.2 pos X.env)
  subst e1
  exact ⟨I1.kIn, call_sem F h1 hnp I1 ok1 rvs r q1⟩
/-- a local name that holds a def -/
def eCallV (T : Tb) (CM : FId → List W → M W) (i : Nat) (a : EnvW → M (List W)) : ME := fun env => mbind (mVar i env) fun w => match w with
  | .fn f => if T.nopos.contains (pl f) then mno else mbind (a env) (CM (pl f))
  | _ => mno
theorem se_callV {i : Nat} (hx : slot sc x = some i) (ha : SA T G CM k sc (e :: es) mr) (hs : (e :: es).all noStar = true) : SE T G CM k sc (.Call (.Name x p) (e :: es) [] pos) (eCallV T CM i mr) := fun X Wx F => by
  rw [List.all_cons, Bool.and_eq_true] at hs
  refine ⟨fun pins s σ H Q I ⟨c, env, e0, ok, re, q⟩ => ?_⟩
  subst e0
  have hv := (se_var (T := T) (G := G) (CM := CM) (k := k) (pos := p) hx X Wx F).run pins s σ c.H (fun v H1 => ∃ c1 f fa, c1.H = H1 ∧ c1.ok G ∧ EnvR G c1 env σ ∧ v = .ref fa ∧ G.fa (pl f) = some fa ∧ T.nopos.contains (pl f) = false ∧ Po G (mbind (mr env) (CM (pl f)) c1.ah) c1 (VQ G Q) (fun e c' => WEx G Wx e σ c'.H)) I (tE.step ok re q fun w c1 v e1 ok1 re1 rv q1 => by
    split at q1
    · rename_i f
      obtain ⟨fa, h1, h2⟩ := rv
      by_cases hnp : T.nopos.contains (pl f) = true
      · rw [if_pos hnp] at q1; exact q1.elim
      · rw [if_neg hnp] at q1
        exact ⟨c1, f, fa, rfl, ok1, re1, h1, h2, by simpa using hnp, q1⟩
    · exact q1.elim)
  refine wpAny_Call_Name_kw (thn hv fun u s1 ⟨v, H1, I1, r1, c1, f, fa, e1, ok1, re1, ev, hf, hnp, q1⟩ => ?_)
  subst e1 ev
  cases r1
  obtain ⟨fd, ps, hF, hb, hk, hno⟩ := F.top.fn (pl f) fa hf
  refine PySem.W.callWith_K (h₀ := X.base) I.ok.mod.kin hk (thn ((ha X Wx F).run pos pins s1 σ c1.H (fun vs H1 => ∃ c1 ws, c1.H = H1 ∧ c1.ok G ∧ RWL G c1 vs ws ∧ Po G (CM (pl f) ws c1.ah) c1 (VQ G Q) (fun e c' => WEx G Wx e σ c'.H)) I1 (tA.step ok1 re1 q1 fun ws c1 vs e1 ok1 re1 rvs q1 => ⟨c1, ws, rfl, ok1, rvs, q1⟩)) fun us s2 ⟨vs, H1, I2, r, c2, ws, e2, ok2, rvs, q2⟩ => ?_) (noStar_each hs.1 es X.env) (noStar_any hs.2 pos X.env)
  subst e2
  exact ⟨I2.kIn, call_sem F hf hnp I2 ok2 rvs r q2⟩

/-! ### attributes -/
def okBase : Expr → Bool
  | .Call (.Name _ _) [] [] _ => false
  | _ => true
theorem okBase_ok {o : Expr} (h : okBase o = true) (m : Str) (env : Env) : attributeBase o m env (eval o env) = eval o env := by
  unfold attributeBase
  split
  · cases h
  · rfl
def fldM (f : Str) (w : W) : M W := fun h => match w with
  | .r i => (match h[i]? with
    | some (.ins c fs) => (match fs.lookup f with
      | some v => .ok v h
      | none => .no)
    | _ => .no)
  | _ => .no
def eFld (a : ME) (f : Str) : ME := fun env => mbind (a env) (fldM f)
theorem fs_look {c : Cf} {f : Str} : ∀ {xs : List (Str × V)} {fs : List (Str × W)}, Paired (fun (p : Str × V) (q : Str × W) => p.1 = q.1 ∧ RW G c p.2 q.2) xs fs → ORel (RW G c) (xs.lookup f) (fs.lookup f)
  | _, _, .nil => trivial
  | (g, v) :: xs, (g', w) :: fs, .cons h r => by
    obtain ⟨h1, h2⟩ := h
    have h1' : g = g' := h1
    subst h1'
    rw [List.lookup_cons, List.lookup_cons]
    cases q : f == g with
    | true => exact h2
    | false => exact fs_look r
theorem se_fld (hb : okBase o = true) (hf : f ∈ T.flds) (ho : SE T G CM k sc o mo) : SE T G CM k sc (.Attribute o f pos) (eFld mo f) := fun X Wx F => by
  refine PE.imp (pe_fld (ho X Wx F) (okBase_ok hb f X.env)) fun σ H Q ⟨c, env, e, ok, re, q⟩ => ?_
  subst e
  refine tE.step ok re q fun w c1 v e1 ok1 re1 rv q1 => ?_
  unfold fldM at q1
  split at q1
  · rename_i i
    split at q1
    · rename_i cn fs e2
      split at q1
      · rename_i w2 e3
        obtain ⟨p, rfl, h1, C, dx, xs, hx, hC, r2⟩ := rRef ok1 rv e2
        have q2 := fs_look (f := f) r2
        rw [e3] at q2
        cases e4 : xs.lookup f with
        | none => rw [e4] at q2; exact q2.elim
        | some v2 =>
          rw [e4] at q2
          obtain ⟨hc, hn⟩ := F.top.own cn C hC
          exact ⟨p, C, dx, xs, v2, rfl, hx, hc, hn f hf, e4, q1.here ok1 _ q2⟩
      · exact q1.elim
    · exact q1.elim
  · exact q1.elim

/-! ### own methods -/
theorem all_star : ∀ {es : List Expr}, es.all noStar = true → ∀ (pos : Pos) (env : Env), (backTo pos (starEach es env)).all (fun x => !x.1) = true
  | [], _, _, _ => rfl
  | e :: es, h, pos, env => by
    rw [List.all_cons, Bool.and_eq_true] at h
    rw [noStar_each h.1]
    show (true && (backTo pos (starEach es env)).all (fun x => !x.1)) = true
    rw [all_star h.2]; rfl
theorem few_ok (h : es.all noStar = true) (hl : es.length < 30) (pos : Pos) (env : Env) : ((backTo pos (starEach es env)).all (fun x => !x.1) && (backToKw pos (keywordEach [] env)).all (fun x => x.1.isSome) && decide (es.length + ([] : List Keyword).length + (if ([] : List Keyword).isEmpty then 0 else 1) < 30)) = true := by
  rw [all_star h]
  show (true && decide (es.length + 0 + 0 < 30)) = true
  simp [hl]
theorem own_call {M : Model} {A : Around} {E : Value → Shared → Prop} {s : Shared} {env : Env} {Q : Value → Shared → Prop} (hb : okBase o = true) (h1 : es.all noStar = true) (hl : es.length < 30) (hline : (apos.endLine == pos.line) = true)
    (h : wpAny M A (eval o env) (fun ov s₁ => ∀ pl, wpAny M A (getMethod ov m pl) (fun fx s₂ => wpAny M A (callWith pos fx.1 fx.2 (backTo pos (starEach es env)) (backToKw pos (keywordEach [] env))) Q E s₂) E s₁) E s) :
    wpAny M A (eval (.Call (.Attribute o m apos) es [] pos) env) Q E s := by
  rw [arm_eval_Call, okBase_ok hb]
  refine wpAny_bind (wpAny_mono h (fun ov s₁ h₁ => wpAny_bind (wpAny_standAt ?_)) fun _ _ e => e)
  have hform : methodCallForm (es.length + ([] : List Keyword).length) (backTo pos (starEach es env)) (backToKw pos (keywordEach [] env)) = true := few_ok h1 hl pos env
  have hpos : methodCallPos true o env apos pos = pure pos := by unfold methodCallPos; simp [hline]
  unfold methodCall
  rw [hform]
  unfold calleeOf
  rw [if_pos rfl]
  exact wpAny_bind (wpAny_holding (wpAny_mono (h₁ _) (fun fx s₂ h₂ => wpAny_bind (wpAny_of_eq hpos h₂)) fun _ _ e => e))
/-- o.m(..) of an own class -/
def methM (T : Tb) (CM : FId → List W → M W) (m : Str) (o : W) (a : M (List W)) : M W := fun h => match o with
  | .r i => (match h[i]? with
    | some (.ins c fs) => (match fs.lookup m with
      | none => if T.meths.contains (c, m) && !T.nopos.contains (c, m) then mbind a (fun ws => CM (c, m) (.r i :: ws)) h else .no
      | some _ => .no)
    | _ => .no)
  | _ => .no
def eMeth (T : Tb) (CM : FId → List W → M W) (m : Str) (o : ME) (a : EnvW → M (List W)) : ME := fun env => mbind (o env) fun w => methM T CM m w (a env)
theorem meth_at {X : Cx} {Wx : WX} (F : Fits T G CM k X sc Wx) {σ : L2.St} {c : Cf} {v : V} {w : W} {env : EnvW} {Q : VK} (ok : c.ok G) (rv : RW G c v w) (q : Po G (methM T CM m w (mr env) c.ah) c (VQ G Q) (fun e c' => WEx G Wx e σ c'.H)) :
    ∃ i p C dx xs cn fa, w = .r i ∧ v = .ref p ∧ c.H p = some (.ins C dx xs) ∧ Cls X.K C ∧ xs.lookup m = none ∧ G.fa (cn, m) = some fa ∧ Meth X.K C m fa ∧ T.nopos.contains (cn, m) = false ∧ Po G (mbind (mr env) (fun ws => CM (cn, m) (.r i :: ws)) c.ah) c (VQ G Q) (fun e c' => WEx G Wx e σ c'.H) := by
  unfold methM at q
  split at q
  · rename_i i
    split at q
    · rename_i cn fs e2
      split at q
      · rename_i e3
        obtain ⟨p, rfl, h1, C, dx, xs, hx, hC, r2⟩ := rRef ok rv e2
        have q2 := fs_look (f := m) r2
        rw [e3] at q2
        cases e4 : xs.lookup m with
        | some v2 => rw [e4] at q2; exact q2.elim
        | none =>
          split at q
          · rename_i hm
            obtain ⟨hm, hnp⟩ := Bool.and_eq_true_iff.mp hm
            obtain ⟨Ca, fa, h2, hfa, hM⟩ := F.top.meth cn m (by simpa using hm)
            rw [hC] at h2; cases h2
            exact ⟨i, p, C, dx, xs, cn, fa, rfl, rfl, hx, (F.top.own cn C hC).1, e4, hfa, hM, (Bool.not_eq_true' _).mp hnp, q⟩
          · exact q.elim
      · exact q.elim
    · exact q.elim
  · exact q.elim
theorem se_meth0 (hb : okBase o = true) (hline : (apos.endLine == pos.line) = true) (ho : SE T G CM k sc o mo) : SE T G CM k sc (.Call (.Attribute o m apos) [] [] pos) (eMeth T CM m mo aNil) := fun X Wx F => by
  refine ⟨fun pins s σ H Q I ⟨c, env, e0, ok, re, q⟩ => ?_⟩
  subst e0
  refine own_call (es := []) hb rfl (by decide) hline ?_
  refine thn ((ho X Wx F).run pins s σ c.H (fun v H1 => ∃ c1 w, c1.H = H1 ∧ c1.ok G ∧ EnvR G c1 env σ ∧ RW G c1 v w ∧ Po G (methM T CM m w (aNil env) c1.ah) c1 (VQ G Q) (fun e c' => WEx G Wx e σ c'.H)) I (tE.step ok re q fun w c1 v e1 ok1 re1 rv q1 => ⟨c1, w, rfl, ok1, re1, rv, q1⟩)) fun u s1 ⟨v, H1, I1, r1, c1, w, e1, ok1, re1, rv, q1⟩ => fun pl => ?_
  subst e1
  obtain ⟨i, p, C, dx, xs, cn, fa, rfl, rfl, hx, hC, hl2, hfa, hM, hnp, q2⟩ := meth_at F ok1 rv q1
  cases r1
  refine getmeth_ok I1 hx hC hM hl2 ?_
  refine PySem.W.callWith_K0 (first := [.ref p]) I1.kIn hM.kp ?_
  exact call_sem F hfa hnp I1 ok1 (vs := [.ref p]) (ws := [.r i]) (.cons rv .nil) (.cons rfl .nil) q2
theorem se_meth (hb : okBase o = true) (hline : (apos.endLine == pos.line) = true) (ho : SE T G CM k sc o mo) (ha : SA T G CM k sc (e :: es) mr) (hs : (e :: es).all noStar = true) (hl : (e :: es).length < 30) : SE T G CM k sc (.Call (.Attribute o m apos) (e :: es) [] pos) (eMeth T CM m mo mr) := fun X Wx F => by
  refine ⟨fun pins s σ H Q I ⟨c, env, e0, ok, re, q⟩ => ?_⟩
  subst e0
  refine own_call hb hs hl hline ?_
  refine thn ((ho X Wx F).run pins s σ c.H (fun v H1 => ∃ c1 w, c1.H = H1 ∧ c1.ok G ∧ EnvR G c1 env σ ∧ RW G c1 v w ∧ Po G (methM T CM m w (mr env) c1.ah) c1 (VQ G Q) (fun e c' => WEx G Wx e σ c'.H)) I (tE.step ok re q fun w c1 v e1 ok1 re1 rv q1 => ⟨c1, w, rfl, ok1, re1, rv, q1⟩)) fun u s1 ⟨v, H1, I1, r1, c1, w, e1, ok1, re1, rv, q1⟩ => fun pl => ?_
  subst e1
  obtain ⟨i, p, C, dx, xs, cn, fa, rfl, rfl, hx, hC, hl2, hfa, hM, hnp, q2⟩ := meth_at F ok1 rv q1
  cases r1
  refine getmeth_ok I1 hx hC hM hl2 ?_
  rw [List.all_cons, Bool.and_eq_true] at hs
  refine PySem.W.callWith_K (first := [.ref p]) (h₀ := X.base) I.ok.mod.kin hM.kp (thn ((ha X Wx F).run pos pins s1 σ c1.H (fun vs H1 => ∃ c1 ws, c1.H = H1 ∧ c1.ok G ∧ RWL G c1 vs ws ∧ RW G c1 (.ref p) (.r i) ∧ Po G (CM (cn, m) (.r i :: ws) c1.ah) c1 (VQ G Q) (fun e c' => WEx G Wx e σ c'.H)) I1 (tA.step ok1 re1 q2 fun ws c2 vs e2 ok2 re2 rvs q3 => ⟨c2, ws, rfl, ok2, rvs, RW.mono e2 rv, q3⟩)) fun us s2 ⟨vs, H1, I2, r, c2, ws, e2, ok2, rvs, rp, q3⟩ => ?_) (noStar_each hs.1 es X.env) (noStar_any hs.2 pos X.env)
  subst e2
  exact ⟨I2.kIn, call_sem F hfa hnp I2 ok2 (.cons rp rvs) (.cons rfl r) q3⟩

/-! ### new objects -/
theorem run_makeS {X : Cx} {CX : CXT} {kk : Nat} {f C : Addr} {fd : FuncData} {ps : List Str} {sp : Sp} {E : XK} {pins : List (Addr × Obj)} {σ : L2.St} {H : Hp} {s : Shared} {Q : VK} {us : List Value} {vs : List V} (M : Mk X.K C f) (F : FnOk X.prog X.w X.K X.mg X.base CX kk f fd ps sp) (hr : Room (kk + 1) X.A) {ds : List Value} {dvs : List V} (hb : Binds X.K fd ps ds) (hd : Vals dvs ds)
    (hx : PassesAt CX X σ E) (I : Inv X pins σ H s) (r : Vals vs us)
    (h : ∀ x dx, H x = none → H dx = none → dx ≠ x → sp (.ref x :: (vs ++ dvs)) (upd (upd H dx (.own x)) x (.ins C dx [])) (fun v H2 => v = .non ∧ Q (.ref x) H2) E) :
    wpAny (model X.prog X.w) X.A (call (.ref C) us) (EP X pins σ Q) X.xe s := by
  have hq := h (s.heap.objs.size + 1) s.heap.objs.size (I.hok.fresh (Nat.le_succ _)) (I.hok.fresh (Nat.le_refl _)) (Nat.ne_of_lt (Nat.lt_succ_self _))
  have I2 := Inv.made (C := C) I
  have r2 : Vals (V.ref (s.heap.objs.size + 1) :: (vs ++ dvs)) (Value.ref (s.heap.objs.size + 1) :: (us ++ ds)) := .cons rfl (r.append hd)
  have hl : (Value.ref (s.heap.objs.size + 1) :: (us ++ ds)).length = ps.length := by
    have e := r2.length
    rw [F.len _ _ _ _ hq] at e
    exact e.symm
  have b := hb { s with heap := (s.heap.push PySem.W.emptyDict).push (PySem.W.instObj C s.heap.objs.size) } (Value.ref (s.heap.objs.size + 1) :: us) I2.kIn (by rw [List.cons_append]; exact hl)
  rw [List.cons_append] at b
  refine wpAny_call (make_map (f := f) I.kIn M.makes M.init (beq_iff_eq.mp M.fn) (codeAny_mono (F.run _ X.stack _ _ ⟨Value.ref (s.heap.objs.size + 1) :: us, []⟩ (Value.ref (s.heap.objs.size + 1) :: (us ++ ds)) _ _ E (hr.make C us [])
    (I2.env0.make C us []) b r2 hq) fun r s' hq' => ?_))
  cases r with
  | error e => exact hx pins _ _ e s' I2 hq'
  | ok fl =>
    cases fl with
    | ret u =>
      obtain ⟨v, H', I3, rv, ev, q3⟩ := I2.after hq'
      subst ev
      exact ⟨rv, ⟨V.ref (s.heap.objs.size + 1), H', I3, rfl, q3⟩⟩
    | next => exact False.elim hq'
    | brk => exact False.elim hq'
    | cont => exact False.elim hq'

/-- the defaults behind the written values -/
def dflOf (T : Tb) (f : FId) (n : Nat) : List W := match T.dfls.lookup f with
  | some (m, ds) => if n = m then ds.map .d else []
  | none => []
def dflOk (T : Tb) (f : FId) (n : Nat) : Bool := match T.dfls.lookup f with
  | some (m, _) => decide (n = m) || !T.nopos.contains f
  | none => !T.nopos.contains f
theorem rpl_w {c : Cf} : ∀ {dvs : List V} {ds : List PyData}, RpL G.K c dvs ds → RWL G c dvs (ds.map .d)
  | _, _, .nil => .nil
  | _, _, .cons h r => .cons h (rpl_w r)
theorem dfl_at {X : Cx} {f : FId} {fd : FuncData} {ps : List Str} {n : Nat} (B : BindsD T G X.K f fd ps) (h : dflOk T f n = true) : ∃ dvs us, Vals dvs us ∧ (∀ c, RWL G c dvs (dflOf T f n)) ∧ Binds X.K fd ps us := by
  unfold dflOk at h
  unfold dflOf
  split at h
  · rename_i m ds e
    by_cases q : n = m
    · simp only [if_pos q]
      obtain ⟨_, dvs, us, h1, h2, h3⟩ := B.dfl m ds e
      exact ⟨dvs, us, h1, fun c => rpl_w (h2 c), h3⟩
    · rw [decide_eq_false q, Bool.false_or] at h
      simp only [if_neg q]
      exact ⟨[], [], .nil, fun c => .nil, B.pos (by simpa using h)⟩
  · rename_i e
    exact ⟨[], [], .nil, fun c => .nil, B.pos (by simpa using h)⟩
/-- C(..): a new instance without attributes, then __init__ -/
def eNew (CM : FId → List W → M W) (x : Str) (ds : List W) (a : EnvW → M (List W)) : ME := fun env => mbind (a env) fun ws => fun h => match CM (x, "__init__") (.r h.length :: (ws ++ ds)) (h ++ [.ins x []]) with
  | .ok (.d .none) h' => .ok (.r h.length) h'
  | .ex c h' => .ex c h'
  | _ => .no
theorem new_sem {nn : Nat} {X : Cx} {Wx : WX} (F : Fits T G CM k X sc Wx) {Ca fi : Addr} (hCa : G.ca x = some Ca) (hM : Mk X.K Ca fi) (hfi : G.fa (x, "__init__") = some fi) {pins : List (Addr × Obj)} {s : Shared} {σ : L2.St} {c : Cf} {vs : List V} {ws : List W} {us : List Value} {Q : VK} (I : Inv X pins σ c.H s) (ok : c.ok G)
    (rv : RWL G c vs ws) (ru : Vals vs us) (hdf : dflOk T (x, "__init__") nn = true) (q : Po G (match CM (x, "__init__") (.r c.ah.length :: (ws ++ dflOf T (x, "__init__") nn)) (c.ah ++ [.ins x []]) with
      | .ok (.d .none) h' => R.ok (W.r c.ah.length) h'
      | .ex c h' => .ex c h'
      | _ => .no) c (VQ G Q) (fun e c' => WEx G Wx e σ c'.H)) : wpAny (model X.prog X.w) X.A (call (.ref Ca) us) (EP X pins σ Q) X.xe s := by
  obtain ⟨fd, ps, hF, hb, hk, hno⟩ := F.top.fn (x, "__init__") fi hfi
  have hl : (W.r c.ah.length :: (ws ++ dflOf T (x, "__init__") nn)).length = ps.length := Classical.byContradiction fun hn => by
    rw [hno _ _ hn] at q
    exact q.elim
  obtain ⟨dvs, dus, d1, d2, d3⟩ := dfl_at hb hdf
  refine run_makeS (E := WE Wx σ) hM hF F.room d3 d1 (passAt F.takes σ) I ru fun p dx hp hdx hne => ?_
  have hdx1 : c.H dx = none := hdx
  have ok1 := Cf.lay_ok (o := .own p) ok hdx1
  have ex1 := Cf.lay_ext (c := c) (o := .own p) hdx1
  have hp1 : (c.lay dx (.own p)).H p = none := by show upd c.H dx (.own p) p = none; rw [upd_ne (Ne.symm hne)]; exact hp
  have ex2 := Cf.new_ext (o := .ins Ca dx []) (ao := .ins x []) ok1 hp1
  have ok2 : ((c.lay dx (.own p)).new p (.ins Ca dx []) (.ins x [])).ok G := Cf.new_ok ok1 hp1 ⟨Ca, dx, [], upd_same, hCa, .nil⟩
  have rp : RW G ((c.lay dx (.own p)).new p (.ins Ca dx []) (.ins x [])) (.ref p) (.r c.ah.length) := ⟨p, rfl, by show (c.μ ++ [p])[c.ah.length]? = some p; rw [← ok.len]; simp⟩
  have ex := ex1.trans ex2
  have rall : RWL G c (vs ++ dvs) (ws ++ dflOf T (x, "__init__") nn) := RWL.append rv (d2 c)
  refine ⟨by rw [List.length_cons, Paired.length rall]; exact hl, _, W.r c.ah.length :: (ws ++ dflOf T (x, "__init__") nn), rfl, ok2, .cons rp (RWL.mono ex rall), ?_⟩
  show Po G (CM (x, "__init__") (.r c.ah.length :: (ws ++ dflOf T (x, "__init__") nn)) (c.ah ++ [.ins x []])) ((c.lay dx (.own p)).new p (.ins Ca dx []) (.ins x [])) _ _
  split at q
  · rename_i h' e
    rw [e]
    intro c3 ex3 ok3 e3 v hv
    refine ⟨rNon hv, q c3 (ex.trans ex3) ok3 e3 _ (RW.mono ex3 rp)⟩
  · rename_i cx h' e
    rw [e]
    exact fun c3 ex3 ok3 e3 => q c3 (ex.trans ex3) ok3 e3
  · exact q.elim
theorem se_new {nn : Nat} (hdf : dflOk T (x, "__init__") nn = true) (hg : isGlob sc x = true) (hx : x ∈ T.clss) (ha : SA T G CM k sc (e :: es) mr) (hs : (e :: es).all noStar = true) : SE T G CM k sc (.Call (.Name x p) (e :: es) [] pos) (eNew CM x (dflOf T (x, "__init__") nn) mr) := fun X Wx F => by
  obtain ⟨Ca, fi, h1, h2, h3, h4⟩ := F.top.cls x hx
  rw [List.all_cons, Bool.and_eq_true] at hs
  refine ⟨fun pins s σ H Q I ⟨c, env, e0, ok, re, q⟩ => ?_⟩
  subst e0
  refine wpAny_Call_Name_kw (ld_glob I (F.gl hg) h2 ?_ (glob_ok hg).2.1)
  refine PySem.W.callWith_K (h₀ := X.base) I.ok.mod.kin h3.kp (thn ((ha X Wx F).run pos pins s σ c.H (fun vs H1 => ∃ c1 ws, c1.H = H1 ∧ c1.ok G ∧ RWL G c1 vs ws ∧ Po G (match CM (x, "__init__") (.r c1.ah.length :: (ws ++ dflOf T (x, "__init__") nn)) (c1.ah ++ [.ins x []]) with
      | .ok (.d .none) h' => R.ok (W.r c1.ah.length) h'
      | .ex c h' => .ex c h'
      | _ => .no) c1 (VQ G Q) (fun e c' => WEx G Wx e σ c'.H)) I (tA.step ok re q fun ws c1 vs e1 ok1 re1 rvs q1 => ⟨c1, ws, rfl, ok1, rvs, q1⟩)) fun us s1 ⟨vs, H1, I1, r, c1, ws, e1, ok1, rvs, q1⟩ => ?_) (noStar_each hs.1 es X.env) (noStar_any hs.2 pos X.env)
  subst e1
  exact ⟨I1.kIn, new_sem F h1 h3 h4 I1 ok1 rvs r hdf q1⟩
theorem se_new0 {nn : Nat} (hdf : dflOk T (x, "__init__") nn = true) (hg : isGlob sc x = true) (hx : x ∈ T.clss) : SE T G CM k sc (.Call (.Name x p) [] [] pos) (eNew CM x (dflOf T (x, "__init__") nn) aNil) := fun X Wx F => by
  obtain ⟨Ca, fi, h1, h2, h3, h4⟩ := F.top.cls x hx
  refine ⟨fun pins s σ H Q I ⟨c, env, e0, ok, re, q⟩ => ?_⟩
  subst e0
  refine wpAny_Call_Name_kw (ld_glob I (F.gl hg) h2 ?_ (glob_ok hg).2.1)
  exact PySem.W.callWith_K0 I.kIn h3.kp (new_sem (ws := []) F h1 h3 h4 I ok .nil .nil hdf q)
end
end Ev
set_option Elab.async false
set_option linter.all false
set_option maxRecDepth 100000
set_option maxHeartbeats 2000000
/-! E9: methods of built-in objects. -/
namespace Ev
open PySem PySem.Spec PyProof.Rows L2

def MtS (G : GA) (f : W → List W → M W) (r : V → List V → Hp → VK → Prop) : Prop := ∀ (c : Cf) (x : V) (xs : List V) (w : W) (ws : List W) (Q : VK) (E : Str → Cf → Prop), c.ok G → RW G c x w → RWL G c xs ws → Po G (f w ws c.ah) c (VQ G Q) E → r x xs c.H Q
/-- a tracked list is changed -/
theorem put_list {G : GA} {c : Cf} {i : Nat} {a : Addr} {old ws : List W} {us : List V} (k : c.ok G) (h : c.μ[i]? = some a) (ho : c.ah[i]? = some (.lst old)) (r : RWL G c us ws) : c.ext (c.put i a (.lst us) (.lst ws)) ∧ (c.put i a (.lst us) (.lst ws)).ok G := by
  have ex := Cf.put_ext (o := .lst us) (ao := .lst ws) k h ho (by intro e; cases e)
  exact ⟨ex, Cf.put_ok k h ho (by intro e; cases e) ⟨us, upd_same, RWL.mono ex r⟩⟩
def appM (w : W) (ws : List W) : M W := fun h => match w, ws with
  | .r i, [y] => (match h[i]? with
    | some (.lst xs) => if xs.length < sizeLine then .ok (.d .none) (h.set i (.lst (xs ++ [y]))) else .no
    | _ => .no)
  | _, _ => .no
theorem app_ok {X : Cx} {G : GA} : ∃ r, MtR X "list.append" r ∧ MtS G appM r := by
  refine ⟨_, mt_append, fun c x xs w ws Q E k rx rs h => ?_⟩
  unfold appM at h
  split at h
  · rename_i i y
    split at h
    · rename_i us e
      obtain ⟨p, rfl, h1, vs, hv, rv⟩ := rRef k rx e
      obtain ⟨v, rfl, ry⟩ := rwl1 rs
      split at h
      · rename_i hz
        obtain ⟨ex, ok⟩ := put_list k h1 e (RWL.append rv (.cons ry .nil))
        exact ⟨p, vs, v, rfl, rfl, hv, by rw [Paired.length rv]; exact hz, h _ ex ok rfl _ .non⟩
      · exact h.elim
    · exact h.elim
  · exact h.elim
def insM (w : W) (ws : List W) : M W := fun h => match w, ws with
  | .r i, [.d (.int n), y] => (match h[i]? with
    | some (.lst xs) => if xs.length < sizeLine ∧ 0 ≤ n ∧ n < 2 ^ 63 then .ok (.d .none) (h.set i (.lst (xs.take n.toNat ++ [y] ++ xs.drop n.toNat))) else .no
    | _ => .no)
  | _, _ => .no
theorem ins_ok {X : Cx} {G : GA} : ∃ r, MtR X "list.insert" r ∧ MtS G insM r := by
  refine ⟨_, mt_insert, fun c x xs w ws Q E k rx rs h => ?_⟩
  unfold insM at h
  split at h
  · rename_i i n y
    split at h
    · rename_i us e
      obtain ⟨p, rfl, h1, vs, hv, rv⟩ := rRef k rx e
      obtain ⟨v, v', rfl, ry, ry'⟩ := rwl2 rs
      split at h
      · rename_i hz
        obtain ⟨ex, ok⟩ := put_list k h1 e (RWL.append (RWL.append (Paired.takeP n.toNat rv) (.cons ry' .nil)) (Paired.dropP n.toNat rv))
        rw [rInt ry]
        exact ⟨p, vs, n, v', rfl, rfl, hv, by rw [Paired.length rv]; exact hz.1, hz.2.1, hz.2.2, h _ ex ok rfl _ .non⟩
      · exact h.elim
    · exact h.elim
  · exact h.elim
def popM (w : W) (ws : List W) : M W := fun h => match w, ws with
  | .r i, [] => (match h[i]? with
    | some (.lst xs) => (match xs[xs.length - 1]? with
      | some y => .ok y (h.set i (.lst xs.dropLast))
      | none => .no)
    | _ => .no)
  | _, _ => .no
theorem dropLast_rwl {G : GA} {c : Cf} {us : List V} {ws : List W} (r : RWL G c us ws) : RWL G c us.dropLast ws.dropLast := by
  rw [List.dropLast_eq_take, List.dropLast_eq_take, Paired.length r]
  exact Paired.takeP _ r
theorem pop_ok {X : Cx} {G : GA} : ∃ r, MtR X "list.pop" r ∧ MtS G popM r := by
  refine ⟨_, mt_pop, fun c x xs w ws Q E k rx rs h => ?_⟩
  unfold popM at h
  split at h
  · rename_i i
    split at h
    · rename_i us e
      obtain ⟨p, rfl, h1, vs, hv, rv⟩ := rRef k rx e
      cases rs
      split at h
      · rename_i y hy
        obtain ⟨v, hv2, ry⟩ := RWL.get rv hy
        obtain ⟨ex, ok⟩ := put_list k h1 e (dropLast_rwl rv)
        exact ⟨p, vs, v, rfl, rfl, hv, by rw [Paired.length rv]; exact hv2, h _ ex ok rfl _ (RW.mono ex ry)⟩
      · exact h.elim
    · exact h.elim
  · exact h.elim
/-- list.index, list.count of flat data -/
def idxD (x : PyData) : List PyData → Nat → Option Nat
  | [], _ => none
  | y :: r, n => if PyData.eqv y x then some n else idxD x r (n + 1)
def idxM (w : W) (ws : List W) : M W := fun h => match ws with
  | [.d x] => (match listD h w with
    | some ds => if flatD x && ds.all flatD then (match idxD x ds 0 with
      | some n => .ok (wI n) h
      | none => .no) else .no
    | none => .no)
  | _ => .no
theorem idxD_ok {K : PySem.W.Frag} {c : Cf} {u : V} {x : PyData} (hx : Rp K c u x) (fx : flatD x = true) : ∀ {ds : List PyData} {xs : List V} {n j : Nat}, RpL K c xs ds → ds.all flatD = true → idxD x ds n = some j → n ≤ j ∧ (∃ z, xs[j - n]? = some z ∧ eqV z u = true) ∧ ∀ (m : Nat) (z : V), m < j - n → xs[m]? = some z → eqV z u = false
  | [], _, _, _, .nil, _, h => by cases h
  | y :: ds, v :: xs, n, j, .cons hy r, f, h => by
    rw [List.all_cons, Bool.and_eq_true] at f
    unfold idxD at h
    have e := flat_eq hy hx f.1 fx
    split at h
    · rename_i ht
      cases h
      refine ⟨Nat.le_refl _, ⟨v, by simp, by rw [e]; exact ht⟩, fun m z hm => by omega⟩
    · rename_i hf
      obtain ⟨h1, ⟨z, h2, h3⟩, h4⟩ := idxD_ok hx fx r f.2 h
      refine ⟨by omega, ⟨z, ?_, h3⟩, fun m z hm hz => ?_⟩
      · rw [show j - n = (j - (n + 1)) + 1 by omega, List.getElem?_cons_succ]; exact h2
      · cases m with
        | zero =>
          simp at hz
          subst hz
          rw [e]
          simpa using hf
        | succ m => exact h4 m z (by omega) (by simpa using hz)
theorem idx_ok {X : Cx} {G : GA} (hK : X.K = G.K) : ∃ r, MtR X "list.index" r ∧ MtS G idxM r := by
  refine ⟨_, mt_index, fun c x xs w ws Q E k rx rs h => ?_⟩
  unfold idxM at h
  split at h
  · rename_i y
    obtain ⟨v, rfl, ry⟩ := rwl1 rs
    split at h
    · rename_i ds e
      obtain ⟨p, ys, rfl, h1, r2⟩ := listD_ok k rx e
      split at h
      · rename_i hf
        obtain ⟨f1, f2⟩ := Bool.and_eq_true_iff.mp hf
        split at h
        · rename_i n hn
          obtain ⟨_, ⟨z, h2, h3⟩, h4⟩ := idxD_ok ry f1 r2 f2 hn
          rw [Nat.sub_zero] at h2 h4
          exact ⟨p, ys, v, n, z, rfl, rfl, by rw [hK]; exact h1, flat_rp ry f1, (flat_any ry f1 r2 f2).1, h2, h3, h4, h.here k _ (.int _)⟩
        · exact h.elim
      · exact h.elim
    · exact h.elim
  · exact h.elim
theorem countP_V {K : PySem.W.Frag} {c : Cf} {u : V} {x : PyData} (hx : Rp K c u x) (fx : flatD x = true) : ∀ {ds : List PyData} {xs : List V} {us : List Value}, RpL K c xs ds → ds.all flatD = true → Vals xs us → us.countP (eqU u) = ds.countP fun y => PyData.eqv y x
  | [], _, _, .nil, _, .nil => rfl
  | y :: ds, v :: xs, w :: us, .cons hy r, f, .cons rv t => by
    rw [List.all_cons, Bool.and_eq_true] at f
    rw [List.countP_cons, List.countP_cons, countP_V hx fx r f.2 t, eqU_of rv (flat_rp hy f.1), flat_eq hy hx f.1 fx]
def rCntF (K : PySem.W.Frag) : V → List V → Hp → VK → Prop := fun x xs H Q => ∃ (a : Addr) (ys : List V) (y : V), x = V.ref a ∧ xs = [y] ∧ SqL K H a ys ∧ flatV y = true ∧ ys.all flatV = true ∧ ∀ n : Nat, (∀ us, Vals ys us → us.countP (eqU y) = n) → Q (.int n) H
theorem mt_countF {X : Cx} : MtR X "list.count" (rCntF X.K) := by
  intro pins s σ H x xs v us Q I rx rxs h
  obtain ⟨a, ys, y, rfl, rfl, hs, fy, fys, q⟩ := h
  cases rx
  obtain ⟨uy, rfl, ry⟩ := rxs.one
  obtain ⟨its, rv, ⟨⟨cls, dd, data, sl⟩, n, ho, hc, hdn, hd⟩, hlen⟩ := I.list hs
  simp only at hc hd
  subst hc hd
  refine call_meets PySem.F.slot_list_count ⟨_, ho, rfl⟩ PySem.F.entry_list_count (PySem.F.args_list_count_2 _ _)
    (SeqAt.list_countAt a its.toArray n dd sl uy (eqU y)) ⟨ho, fun u' hu' => mem_eqAt ry fy rv fys u' (by simpa using hu'), ?_⟩
  refine ⟨.int (its.countP (eqU y) : Nat), H, I.tok _, ⟨s.toks, rfl⟩, q _ fun us hu => ?_⟩
  clear q
  have : ∀ {ys : List V} {us ws : List Value}, Vals ys us → Vals ys ws → ys.all flatV = true → us.countP (eqU y) = ws.countP (eqU y) := by
    intro ys us ws h1
    induction h1 generalizing ws with
    | nil => intro h2 _; cases h2; rfl
    | cons r t ih =>
      intro h2 f
      cases h2 with
      | cons r2 t2 =>
        rw [List.all_cons, Bool.and_eq_true] at f
        rw [List.countP_cons, List.countP_cons, ih t2 f.2, eqU_of r f.1, eqU_of r2 f.1]
  exact this hu rv fys
def cntM (w : W) (ws : List W) : M W := fun h => match ws with
  | [.d x] => (match listD h w with
    | some ds => if flatD x && ds.all flatD then .ok (wI (ds.countP fun y => PyData.eqv y x)) h else .no
    | none => .no)
  | _ => .no
theorem cnt_ok {X : Cx} {G : GA} (hK : X.K = G.K) : ∃ r, MtR X "list.count" r ∧ MtS G cntM r := by
  refine ⟨_, mt_countF, fun c x xs w ws Q E k rx rs h => ?_⟩
  unfold cntM at h
  split at h
  · rename_i y
    obtain ⟨v, rfl, ry⟩ := rwl1 rs
    split at h
    · rename_i ds e
      obtain ⟨p, ys, rfl, h1, r2⟩ := listD_ok k rx e
      split at h
      · rename_i hf
        obtain ⟨f1, f2⟩ := Bool.and_eq_true_iff.mp hf
        refine ⟨p, ys, v, rfl, rfl, by rw [hK]; exact h1, flat_rp ry f1, (flat_any ry f1 r2 f2).1, fun n hn => ?_⟩
        have q := h.here k _ (.int _)
        by_cases hu : ∃ us, Vals ys us
        · obtain ⟨us, hu⟩ := hu
          rw [← hn us hu, countP_V ry f1 r2 f2 hu]
          exact q
        · exact (hu (vals_ex r2 f2)).elim
      · exact h.elim
    · exact h.elim
  · exact h.elim
where
  vals_ex {K : PySem.W.Frag} {c : Cf} : ∀ {ys : List V} {ds : List PyData}, RpL K c ys ds → ds.all flatD = true → ∃ us, Vals ys us
    | _, _, .nil, _ => ⟨[], .nil⟩
    | _, _, .cons h r, f => by
      rw [List.all_cons, Bool.and_eq_true] at f
      obtain ⟨us, hu⟩ := vals_ex r f.2
      cases h with
      | non => exact ⟨_ :: us, .cons rfl hu⟩
      | bl b => exact ⟨_ :: us, .cons rfl hu⟩
      | int i => exact ⟨Value.int i 0 :: us, .cons ⟨_, rfl⟩ hu⟩
      | str i => exact ⟨Value.str i 0 :: us, .cons ⟨_, rfl⟩ hu⟩
      | lst _ _ _ => cases f.1
      | tup _ _ _ => cases f.1
      | tupK _ _ => cases f.1
      | dic _ _ _ => cases f.1
/-- sep.join(texts) -/
def sjoinM (w : W) (ws : List W) : M W := fun h => match w, ws with
  | .d (.str a), [y] => (match ((peek h y).bind seqD).bind strsD with
    | some ys => if (ys.map (·.length)).sum + ys.length * a.length ≤ 16777216 then .ok (wS (Txt.join a ys)) h else .no
    | none => .no)
  | _, _ => .no
theorem sjoin_ok {X : Cx} {G : GA} (hK : X.K = G.K) : ∃ r, MtR X "str.join" r ∧ MtS G sjoinM r := by
  refine ⟨_, mt_join, fun c x xs w ws Q E k rx rs h => ?_⟩
  unfold sjoinM at h
  split at h
  · rename_i a y
    obtain ⟨v, rfl, ry⟩ := rwl1 rs
    rw [rStr rx]
    split at h
    · rename_i ys e
      obtain ⟨ds, e1, e2⟩ := bind_some_ok e
      obtain ⟨p, us, rfl, hq, r⟩ := peek_seq k ry e1
      rw [strsD_ok e2 r] at hq
      split at h
      · rename_i hz
        exact ⟨a, p, ys, rfl, rfl, by rw [hK]; exact hq, hz, h.here k _ (.str _)⟩
      · exact h.elim
    · exact h.elim
  · exact h.elim

/-! ### the calls -/
inductive BT | list | str
def BT.chk (h : AH) : BT → W → Bool
  | .list, .d (.list _) => true
  | .list, .r i => (match h[i]? with
    | some (.lst _) => true
    | _ => false)
  | .str, .d (.str _) => true
  | _, _ => false
def BT.name : BT → String
  | .list => "list"
  | .str => "str"
theorem BT.ty {X : Cx} {G : GA} (hK : X.K = G.K) {c : Cf} {t : BT} {w : W} {v : V} (k : c.ok G) (r : RW G c v w) (h : t.chk c.ah w = true) : tyV X.K t.name v c.H := by
  cases t with
  | list =>
    cases w with
    | d x =>
      cases x with
      | list ds =>
        obtain ⟨p, xs, rfl, h1, _⟩ := rLst r
        exact .inl ⟨rfl, xs, by rw [hK]; exact h1⟩
      | _ => cases h
    | r i =>
      simp only [BT.chk] at h
      split at h
      · rename_i ws e
        obtain ⟨p, rfl, h1, xs, hx, _⟩ := rRef k r e
        exact .inl ⟨rfl, xs, .inl (.inl hx)⟩
      · cases h
    | fn f => cases h
    | ex f => cases h
  | str =>
    cases w with
    | d x =>
      cases x with
      | str ds => rw [rStr r]; exact rfl
      | _ => cases h
    | _ => cases h
/-- a method by its name and how many arguments it has -/
def bmeth (m : Str) (n : Nat) : Option (BT × (W → List W → M W)) :=
  if m == "append" && n == 1 then some (.list, appM) else if m == "pop" && n == 0 then some (.list, popM) else if m == "index" && n == 1 then some (.list, idxM) else if m == "count" && n == 1 then some (.list, cntM) else if m == "join" && n == 1 then some (.str, sjoinM) else if m == "insert" && n == 2 then some (.list, insM) else none
theorem bmeth_ok {X : Cx} {G : GA} (hK : X.K = G.K) {m : Str} {n : Nat} {t : BT} {f : W → List W → M W} (h : bmeth m n = some (t, f)) : ∃ id r, PlainAttrs t.name ∧ Slot t.name m id ∧ typeOf (.builtin id) = pure (.type "method_descriptor") ∧ MtR X id r ∧ MtS G f r := by
  unfold bmeth at h
  split at h
  · rename_i e; cases h; rw [eq_of_beq (Bool.and_eq_true_iff.mp e).1]
    obtain ⟨r, h1, h2⟩ := app_ok (X := X) (G := G); exact ⟨_, r, PySem.F.plainAttrs_list, PySem.F.slot_list_append, PySem.F.type_list_append, h1, h2⟩
  · split at h
    · rename_i e; cases h; rw [eq_of_beq (Bool.and_eq_true_iff.mp e).1]
      obtain ⟨r, h1, h2⟩ := pop_ok (X := X) (G := G); exact ⟨_, r, PySem.F.plainAttrs_list, PySem.F.slot_list_pop, PySem.F.type_list_pop, h1, h2⟩
    · split at h
      · rename_i e; cases h; rw [eq_of_beq (Bool.and_eq_true_iff.mp e).1]
        obtain ⟨r, h1, h2⟩ := idx_ok (X := X) hK; exact ⟨_, r, PySem.F.plainAttrs_list, PySem.F.slot_list_index, PySem.F.type_list_index, h1, h2⟩
      · split at h
        · rename_i e; cases h; rw [eq_of_beq (Bool.and_eq_true_iff.mp e).1]
          obtain ⟨r, h1, h2⟩ := cnt_ok (X := X) hK; exact ⟨_, r, PySem.F.plainAttrs_list, PySem.F.slot_list_count, PySem.F.type_list_count, h1, h2⟩
        · split at h
          · rename_i e; cases h; rw [eq_of_beq (Bool.and_eq_true_iff.mp e).1]
            obtain ⟨r, h1, h2⟩ := sjoin_ok (X := X) hK; exact ⟨_, r, PySem.F.plainAttrs_str, PySem.F.slot_str_join, PySem.F.type_str_join, h1, h2⟩
          · split at h
            · rename_i e; cases h; rw [eq_of_beq (Bool.and_eq_true_iff.mp e).1]
              obtain ⟨r, h1, h2⟩ := ins_ok (X := X) (G := G); exact ⟨_, r, PySem.F.plainAttrs_list, PySem.F.slot_list_insert, PySem.F.type_list_insert, h1, h2⟩
            · cases h
def eBM (t : BT) (f : W → List W → M W) (o : ME) (a : EnvW → M (List W)) : ME := fun env => mbind (o env) fun w => fun h => if t.chk h w then mbind (a env) (f w) h else .no
section
variable {T : Tb} {G : GA} {CM : FId → List W → M W} {k : Nat} {sc : Sc} {e o : Expr} {es : List Expr} {mr : EnvW → M (List W)} {mo : ME} {pos apos : Pos} {m : Str} {t : BT} {f : W → List W → M W}
theorem se_bm0 (hm : bmeth m 0 = some (t, f)) (hb : okBase o = true) (hline : (apos.endLine == pos.line) = true) (ho : SE T G CM k sc o mo) : SE T G CM k sc (.Call (.Attribute o m apos) [] [] pos) (eBM t f mo aNil) := fun X Wx F => by
  obtain ⟨id, r, h1, h2, h3, h4, h5⟩ := bmeth_ok (X := X) F.K hm
  refine PE.imp (pe_bm0 h1 h2 h3 h4 (ho X Wx F) (okBase_ok hb m X.env) hline) fun σ H Q ⟨c, env, e, ok, re, q⟩ => ?_
  subst e
  refine tE.step ok re q fun w c1 v e1 ok1 re1 rv q1 => ?_
  by_cases hc : t.chk c1.ah w = true
  · rw [if_pos hc] at q1
    exact ⟨t.ty F.K ok1 rv hc, h5 c1 v [] w [] Q _ ok1 rv .nil q1⟩
  · rw [if_neg hc] at q1
    exact q1.elim
theorem se_bm (hm : bmeth m (e :: es).length = some (t, f)) (hb : okBase o = true) (hline : (apos.endLine == pos.line) = true) (ho : SE T G CM k sc o mo) (ha : SA T G CM k sc (e :: es) mr) (hs : (e :: es).all noStar = true) (hl : (e :: es).length < 30) : SE T G CM k sc (.Call (.Attribute o m apos) (e :: es) [] pos) (eBM t f mo mr) := fun X Wx F => by
  obtain ⟨id, r, h1, h2, h3, h4, h5⟩ := bmeth_ok (X := X) F.K hm
  have hs' := hs
  rw [List.all_cons, Bool.and_eq_true] at hs'
  refine PE.imp (pe_bm h1 h2 h3 h4 (ho X Wx F) (ha X Wx F) (okBase_ok hb m X.env) (few_ok hs hl pos X.env) hline (noStar_each hs'.1 es X.env) (noStar_any hs'.2 pos X.env)) fun σ H Q ⟨c, env, e, ok, re, q⟩ => ?_
  subst e
  refine tE.step ok re q fun w c1 v e1 ok1 re1 rv q1 => ?_
  by_cases hc : t.chk c1.ah w = true
  · rw [if_pos hc] at q1
    refine ⟨t.ty F.K ok1 rv hc, tA.step ok1 re1 q1 fun ws c2 vs e2 ok2 re2 rvs q2 => ?_⟩
    exact h5 c2 v vs w ws Q _ ok2 (RW.mono e2 rv) rvs q2
  · rw [if_neg hc] at q1
    exact q1.elim
end
end Ev
set_option Elab.async false
set_option linter.all false
set_option maxRecDepth 100000
set_option maxHeartbeats 2000000
/-! E10: statements. -/
namespace Ev
open PySem PySem.Spec PyProof.Rows L2

def sNil : MS := fun env => mpure (.nx env)
def sSeq (a b : MS) : MS := fun env => mbind (a env) fun fl => match fl with
  | .nx env' => b env'
  | fl => mpure fl
def sExpr (a : ME) : MS := fun env => mbind (a env) fun _ => mpure (.nx env)
def sRet (a : ME) : MS := fun env => mbind (a env) fun w => mpure (.rt w)
def sRetN : MS := fun _ => mpure (.rt (.d .none))
def sBreak : MS := fun env => mpure (.bk env)
def sCont : MS := fun env => mpure (.ct env)
def sIf (t : EnvW → M Bool) (a b : MS) : MS := fun env => mbind (t env) fun c => if c then a env else b env
def sSet (i : Nat) (a : ME) : MS := fun env => mbind (a env) fun w => mpure (.nx (env.set i (some w)))
def sRaise (c : Str) : MS := fun _ => mraise c
def wloop (t : EnvW → M Bool) (b : MS) : Nat → MS
  | 0 => fun _ => mno
  | n + 1 => fun env => mbind (t env) fun c => if c then mbind (b env) fun fl => match fl with
      | .nx e => wloop t b n e
      | .ct e => wloop t b n e
      | .bk e => mpure (.nx e)
      | .rt w => mpure (.rt w)
    else mpure (.nx env)
/-- a turn more changes nothing -/
theorem wloop_mono {t : EnvW → M Bool} {b : MS} : ∀ {n : Nat} {env : EnvW} {h : AH} {r : R Fl}, wloop t b n env h = r → r ≠ .no → wloop t b (n + 1) env h = r
  | 0, env, h, r, e, hr => absurd e.symm hr
  | n + 1, env, h, r, e, hr => by
    unfold wloop mbind at e ⊢
    cases q : t env h with
    | no => rw [q] at e; exact e
    | ex c h' => rw [q] at e; exact e
    | ok c h' =>
      rw [q] at e
      simp only at e ⊢
      cases c with
      | false => exact e
      | true =>
        simp only [if_true] at e ⊢
        cases q2 : b env h' with
        | no => rw [q2] at e; exact e
        | ex c h2 => rw [q2] at e; exact e
        | ok fl h2 =>
          rw [q2] at e
          simp only at e ⊢
          cases fl with
          | nx e2 => exact wloop_mono e hr
          | ct e2 => exact wloop_mono e hr
          | bk e2 => exact e
          | rt w => exact e
theorem wloop_up {t : EnvW → M Bool} {b : MS} {n m : Nat} {env : EnvW} {h : AH} {r : R Fl} (e : wloop t b n env h = r) (hr : r ≠ .no) (hm : n ≤ m) : wloop t b m env h = r := by
  obtain ⟨k, rfl⟩ : ∃ k, m = n + k := ⟨m - n, by omega⟩
  induction k with
  | zero => exact e
  | succ k ih => exact wloop_mono (ih (by omega)) hr
open Classical in
noncomputable def wAny (t : EnvW → M Bool) (b : MS) : MS := fun env h => if hx : ∃ n, wloop t b n env h ≠ .no then wloop t b (Classical.choose hx) env h else .no
noncomputable def sWhile (t : EnvW → M Bool) (b : MS) : MS := fun env h => match wloop t b 1000000 env h with
  | .no => wAny t b env h
  | r => r
theorem sWhile_some {t : EnvW → M Bool} {b : MS} {env : EnvW} {h : AH} : sWhile t b env h = .no ∨ ∃ n, sWhile t b env h = wloop t b n env h := by
  unfold sWhile
  split
  · unfold wAny
    split
    · exact .inr ⟨_, rfl⟩
    · exact .inl rfl
  · exact .inr ⟨_, rfl⟩
theorem sWhile_of {t : EnvW → M Bool} {b : MS} {env : EnvW} {h : AH} {n : Nat} {r : R Fl} (e : wloop t b n env h = r) (hr : r ≠ .no) : sWhile t b env h = r := by
  have one : ∀ m, wloop t b m env h ≠ .no → wloop t b m env h = r := fun m hm => by
    rcases Nat.le_total n m with q | q
    · exact wloop_up e hr q
    · exact (wloop_up rfl hm q).symm.trans e
  unfold sWhile
  split
  · rename_i q
    unfold wAny
    have hx : ∃ n, wloop t b n env h ≠ .no := ⟨n, by rw [e]; exact hr⟩
    rw [dif_pos hx]
    exact one _ (Classical.choose_spec hx)
  · rename_i q
    exact one _ q

section
variable {T : Tb} {G : GA} {CM : FId → List W → M W} {k : Nat} {sc : Sc} {e : Expr} {st : Stmt} {rest : List Stmt} {ma : ME} {ms mr : MS} {mt : EnvW → M Bool} {pos p p2 : Pos}
theorem ss_no : SS T G CM k sc st (fun _ => mno) := fun X Ex F hp hs hf => ⟨fun p s σ H D I ⟨c, env, _, _, _, h⟩ => h.elim⟩
theorem sss_nil : SSs T G CM k sc [] sNil := fun X Ex F hp hs hf => PSs.imp pss_nil fun D σ H ⟨c, env, e, ok, re, q⟩ => by
  subst e
  exact Po.here (a := Fl.nx env) q ok σ re
theorem sss_cons (h1 : SS T G CM k sc st ms) (h2 : SSs T G CM k sc rest mr) : SSs T G CM k sc (st :: rest) (sSeq ms mr) := fun X Ex F hp hs hf => by
  refine PSs.imp (pss_cons (h1 X Ex F hp hs hf) (h2 X Ex F hp hs hf)) fun D σ H ⟨c, env, e, ok, re, q⟩ => ?_
  subst e
  refine ⟨c, env, rfl, ok, re, Po.mono (Po.bind q) (fun fl c1 e1 ok1 q1 => ?_) fun _ _ _ _ q => q⟩
  cases fl with
  | nx env' => exact fun σ' re' => ⟨c1, env', rfl, ok1, re', q1⟩
  | rt w => exact fun v rv => Po.here (a := Fl.rt w) q1 ok1 v rv
  | bk w => exact fun v rv => Po.here (a := Fl.bk w) q1 ok1 v rv
  | ct w => exact fun v rv => Po.here (a := Fl.ct w) q1 ok1 v rv
theorem sss_one (h1 : SS T G CM k sc st ms) : SSs T G CM k sc [st] ms := fun X Ex F hp hs hf => pss_one (h1 X Ex F hp hs hf)
/-- the block of statements; the last without the empty one behind it -/
def sBlock : List MS → MS
  | [] => sNil
  | [m] => m
  | m :: ms => sSeq m (sBlock ms)
theorem sss_list {P : Stmt → MS} (hP : ∀ s, SS T G CM k sc s (P s)) : ∀ sts : List Stmt, SSs T G CM k sc sts (sBlock (sts.map P))
  | [] => sss_nil
  | [s] => sss_one (hP s)
  | s :: s2 :: r => sss_cons (hP s) (sss_list hP (s2 :: r))
def noComp : Expr → Bool
  | .ListComp .. => false
  | .SetComp .. => false
  | .DictComp .. => false
  | _ => true
theorem noComp_ok (h : noComp e = true) (t : Option Expr) (l : Nat) (env : Env) : swapsWith e t l env = pure false := by
  cases e <;> first | rfl | cases h
theorem ss_expr (he : SE T G CM k sc e ma) (hn : noComp e = true) : SS T G CM k sc (.Expr e pos) (sExpr ma) := fun X Ex F hp hs hf => by
  refine PS.imp (ps_expr (he X _ F) (noComp_ok hn _ _ _)) fun D σ H ⟨c, env, e, ok, re, q⟩ => ?_
  subst e
  exact tE.step ok re q fun w c1 v e1 ok1 re1 rv q1 => Po.here (a := Fl.nx env) q1 ok1 σ re1
theorem ss_ret (he : SE T G CM k sc e ma) : SS T G CM k sc (.Return (some e) pos) (sRet ma) := fun X Ex F hp hs hf => by
  refine PS.imp (ps_ret (he X _ F)) fun D σ H ⟨c, env, e, ok, re, q⟩ => ?_
  subst e
  exact tE.step ok re q fun w c1 v e1 ok1 re1 rv q1 => Po.here (a := Fl.rt w) q1 ok1 v rv
theorem ss_retN : SS T G CM k sc (.Return none pos) sRetN := fun X Ex F hp hs hf => PS.imp ps_retN fun D σ H ⟨c, env, e, ok, re, q⟩ => by
  subst e
  exact Po.here (a := Fl.rt (.d .none)) q ok _ .non
theorem ss_pass : SS T G CM k sc (.Pass pos) sNil := fun X Ex F hp hs hf => PS.imp ps_pass fun D σ H ⟨c, env, e, ok, re, q⟩ => by
  subst e
  exact Po.here (a := Fl.nx env) q ok σ re
theorem ss_break : SS T G CM k sc (.Break pos) sBreak := fun X Ex F hp hs hf => PS.imp ps_break fun D σ H ⟨c, env, e, ok, re, q⟩ => by
  subst e
  exact Po.here (a := Fl.bk env) q ok σ re
theorem ss_cont : SS T G CM k sc (.Continue pos) sCont := fun X Ex F hp hs hf => PS.imp ps_continue fun D σ H ⟨c, env, e, ok, re, q⟩ => by
  subst e
  exact Po.here (a := Fl.ct env) q ok σ re
theorem ss_if {a b : List Stmt} (ht : ST T G CM k sc e mt) (ha : SSs T G CM k sc a ms) (hb : SSs T G CM k sc b mr) : SS T G CM k sc (.If e a b pos) (sIf mt ms mr) := fun X Ex F hp hs hf => by
  refine PS.imp (ps_if (ht X _ F) (ha X Ex F hp hs hf) (hb X Ex F hp hs hf)) fun D σ H ⟨c, env, e, ok, re, q⟩ => ?_
  subst e
  refine tT.step ok re q fun t c1 e1 ok1 re1 q1 => ?_
  cases t with
  | true => exact ⟨c1, env, rfl, ok1, re1, q1⟩
  | false => exact ⟨c1, env, rfl, ok1, re1, q1⟩
/-- where a name may be stored -/
def slotS (sc : Sc) (x : Str) : Option Nat := match sc.scope.names.lookup x with
  | some .local => sc.N.idxOf? x
  | some .cell => if sc.own x then sc.N.idxOf? x else none
  | _ => none
theorem idx_at {N : List Str} {x : Str} {i : Nat} (q : N.idxOf? x = some i) : N[i]? = some x := by
  unfold List.idxOf? at q
  obtain ⟨hl, h1, _⟩ := List.findIdx?_eq_some_iff_getElem.mp q
  rw [List.getElem?_eq_getElem hl]
  exact congrArg some (by simpa using h1)
theorem slotS_ok {x : Str} {i : Nat} {X : Cx} {Wx : WX} (F : Fits T G CM k X sc Wx) (h : slotS sc x = some i) : X.N[i]? = some x ∧ Loc X.env.scope x ∧ (X.fn x = true ∨ X.env.scope.names.lookup x = some .local) := by
  unfold slotS at h
  rw [F.N, F.scope]
  split at h
  · rename_i hk; exact ⟨idx_at h, .inl hk, .inr hk⟩
  · rename_i hk
    split at h
    · rename_i ho; exact ⟨idx_at h, .inr hk, .inl (F.own x ho)⟩
    · cases h
  · cases h
theorem Fits.ndN {X : Cx} {Wx : WX} (F : Fits T G CM k X sc Wx) : X.N.Nodup := by rw [F.N]; exact F.nd
theorem ss_set {x : Str} {i : Nat} (hx : slotS sc x = some i) (he : SE T G CM k sc e ma) (hn : noComp e = true) : SS T G CM k sc (.Assign [.Name x p] e pos) (sSet i ma) := fun X Ex F hp hs hf => by
  obtain ⟨h1, h2, h3⟩ := slotS_ok F hx
  refine PS.imp (ps_set F.ndN h1 h2 (he X _ F) (noComp_ok hn _ _ _) h3) fun D σ H ⟨c, env, e, ok, re, q⟩ => ?_
  subst e
  exact tE.step ok re q fun w c1 v e1 ok1 re1 rv q1 => Po.here (a := Fl.nx (env.set i (some w))) q1 ok1 _ (re1.set rv)
theorem ss_raise {x m : Str} {j : Nat} (hg : isGlob sc x = true) (hx : x ∈ T.excs) : SS T G CM k sc (.Raise (some (.Call (.Name x p) [.Constant (.str m) j p2] [] pos)) none pos) (sRaise x) := fun X Ex F hp hs hf => by
  obtain ⟨Ca, h1, h2, h3, h4, h5⟩ := F.top.exc x hx
  refine PS.imp (ps_raise F.calm F.takes (pmk_own PySem.F.excBase_LookupError h3 h2 h4 h5 (F.gl hg) (glob_ok hg).2.1)) fun D σ H ⟨c, env, e, ok, re, q⟩ => ?_
  subst e
  exact q c (Cf.ext.refl c) ok rfl Ca h1
theorem ss_raise' {x m : Str} {j : Nat} {pos' : Pos} (hg : isGlob sc x = true) (hx : x ∈ T.excs) : SS T G CM k sc (.Raise (some (.Call (.Name x p) [.Constant (.str m) j p2] [] pos)) none pos') (sRaise x) := fun X Ex F hp hs hf => by
  obtain ⟨Ca, h1, h2, h3, h4, h5⟩ := F.top.exc x hx
  refine PS.imp (ps_raise F.calm F.takes (pmk_own PySem.F.excBase_LookupError h3 h2 h4 h5 (F.gl hg) (glob_ok hg).2.1)) fun D σ H ⟨c, env, e, ok, re, q⟩ => ?_
  subst e
  exact q c (Cf.ext.refl c) ok rfl Ca h1
theorem ss_while {body : List Stmt} (ht : ST T G CM k sc e mt) (hb : SSs T G CM k sc body ms) : SS T G CM k sc (.While e body [] pos) (sWhile mt ms) := fun X Ex F hp hs hf => by
  refine PS.imp (ps_while hp (ht X _ F) (hb X Ex F hp hs hf)) fun D σ H ⟨c, env, e, ok, re, q⟩ => ?_
  subst e
  rcases sWhile_some (t := mt) (b := ms) (env := env) (h := c.ah) with z | ⟨N, z⟩
  · rw [z] at q; exact q.elim
  rw [z] at q
  refine ⟨fun m σ H => ∃ c env, c.H = H ∧ c.ok G ∧ EnvR G c env σ ∧ Po G (wloop mt ms m env c.ah) c (FlP G D) (fun e c' => ∀ C, G.xa e = some C → Ex (.ref C) none c'.H), ⟨N, c, env, rfl, ok, re, q⟩, ?_⟩
  rintro m σ H ⟨c, env, rfl, ok, re, q⟩
  cases m with
  | zero => exact q.elim
  | succ n =>
    refine tT.step ok re q fun t c1 e1 ok1 re1 q1 => ?_
    cases t with
    | false => exact iteF (Po.here (a := Fl.nx env) q1 ok1 σ re1)
    | true =>
      refine iteT ⟨_, fun σ' H' h => ⟨n, Nat.lt_succ_self n, h⟩, c1, env, rfl, ok1, re1, Po.mono (Po.bind q1) (fun fl c2 e2 ok2 q2 => ?_) fun _ _ _ _ q => q⟩
      cases fl with
      | nx env' => exact fun σ' re' => ⟨c2, env', rfl, ok2, re', q2⟩
      | ct env' => exact fun σ' re' => ⟨c2, env', rfl, ok2, re', q2⟩
      | bk env' => exact fun σ' re' => Po.here (a := Fl.nx env') q2 ok2 σ' re'
      | rt w => exact fun v rv => Po.here (a := Fl.rt w) q2 ok2 v rv
end
end Ev
set_option Elab.async false
set_option linter.all false
set_option maxRecDepth 100000
set_option maxHeartbeats 2000000
/-! E11: targets, what is walked, for, list comprehensions. -/
namespace Ev
open PySem PySem.Spec PyProof.Rows L2

/-! ### targets -/
inductive Tg where
  | n (i : Nat)
  | t (is : List Nat)
def setAll : EnvW → List Nat → List PyData → EnvW
  | env, i :: is, d :: ds => setAll (env.set i (some (.d d))) is ds
  | env, _, _ => env
def setAllV : L2.St → List Nat → List V → L2.St
  | σ, i :: is, x :: xs => setAllV (σ.set i (some x)) is xs
  | σ, _, _ => σ
def tgM : Tg → W → EnvW → Option EnvW
  | .n i, w, env => some (env.set i (some w))
  | .t is, .d (.tuple ds), env => if ds.length = is.length then some (setAll env is ds) else none
  | _, _, _ => none
def nameSlot (sc : Sc) : Expr → Option Nat
  | .Name x _ => slotS sc x
  | _ => none
def nameSlots (sc : Sc) : List Expr → Option (List Nat)
  | [] => some []
  | e :: es => match nameSlot sc e, nameSlots sc es with
    | some i, some is => some (i :: is)
    | _, _ => none
def tgOf (sc : Sc) : Expr → Option Tg
  | .Name x _ => (slotS sc x).map .n
  | .Tuple es _ _ => (nameSlots sc es).map .t
  | _ => none
def gNames : List Nat → TGs
  | [] => gNil
  | i :: is => gCons (gName i) (gNames is)
def gTg (K : PySem.W.Frag) : Tg → TG
  | .n i => gName i
  | .t is => gTup K is.length (gNames is)
section
variable {T : Tb} {G : GA} {CM : FId → List W → M W} {k : Nat} {sc : Sc} {X : Cx} {Wx : WX}
theorem pg_slot (F : Fits T G CM k X sc Wx) {x : Str} {i : Nat} {pos : Pos} (h : slotS sc x = some i) : PG X (.Name x pos) (gName i) := by
  obtain ⟨h1, h2, h3⟩ := slotS_ok F h
  exact pg_name F.ndN h1 h2 h3
theorem nameSlots_ok (F : Fits T G CM k X sc Wx) : ∀ {es : List Expr} {is : List Nat}, nameSlots sc es = some is → PGs X es (gNames is) ∧ (assignEach es X.env).length = is.length ∧ (assignEach es X.env).findIdx? (·.1) = none
  | [], is, h => by
    cases h
    exact ⟨pgs_nil, rfl, rfl⟩
  | e :: es, is, h => by
    unfold nameSlots at h
    split at h
    · rename_i i js h1 h2
      cases h
      obtain ⟨p1, p2, p3⟩ := nameSlots_ok F h2
      cases e with
      | Name x p =>
        refine ⟨pgs_cons (pg_slot F h1) p1, by show (assignEach es X.env).length + 1 = js.length + 1; rw [p2], ?_⟩
        show List.findIdx? (·.1) ((false, assign (.Name x p) X.env) :: assignEach es X.env) = none
        rw [List.findIdx?_cons, p3]
        rfl
      | _ => cases h1
    · cases h
theorem pg_tg (F : Fits T G CM k X sc Wx) {tg : Expr} {t : Tg} (h : tgOf sc tg = some t) : PG X tg (gTg X.K t) := by
  cases tg with
  | Name x p =>
    cases q : slotS sc x with
    | none => simp only [tgOf, q] at h; cases h
    | some i =>
      simp only [tgOf, q] at h
      cases h
      exact pg_slot F q
  | Tuple es kk p =>
    cases q : nameSlots sc es with
    | none => simp only [tgOf, q] at h; cases h
    | some is =>
      simp only [tgOf, q] at h
      cases h
      obtain ⟨p1, p2, p3⟩ := nameSlots_ok F q
      exact pg_tup F.calm p1 p2 p3
  | _ => cases h
end
def Tg.slots : Tg → List Nat
  | .n i => [i]
  | .t is => is
theorem wipe_set {σ : L2.St} {i : Nat} {x : Option V} : ∀ {vs : List Nat}, i ∈ vs → wipe (σ.set i x) vs = wipe σ vs
  | [], h => by cases h
  | v :: vs, h => by
    unfold wipe
    by_cases hv : i ∈ vs
    · rw [wipe_set hv]
    · have e : i = v := by
        rcases List.mem_cons.mp h with e | e
        · exact e
        · exact absurd e hv
      subst e
      have : ∀ (vs : List Nat) (σ : L2.St), i ∉ vs → wipe (σ.set i x) vs = (wipe σ vs).set i x := by
        intro vs
        induction vs with
        | nil => intro σ _; rfl
        | cons v vs ih =>
          intro σ hn
          rw [List.mem_cons, not_or] at hn
          unfold wipe
          rw [ih σ hn.2, List.set_comm _ _ hn.1]
      rw [this vs σ hv, List.set_set]
section
variable {G : GA} {c : Cf}
theorem gNames_ok {env : EnvW} : ∀ {is : List Nat} {ds : List PyData} {xs : List V} {env : EnvW} {σ : L2.St} {Q : L2.St → Hp → Prop} {vs : List Nat}, ds.length = is.length → RpL G.K c xs ds → EnvR G c env σ → (∀ i ∈ is, i ∈ vs) →
    (∀ σ2, EnvR G c (setAll env is ds) σ2 → wipe σ2 vs = wipe σ vs → Q σ2 c.H) → gNames is xs σ c.H Q
  | [], ds, xs, env, σ, Q, vs, hl, r, re, hv, q => by
    cases ds with
    | nil => cases r; exact ⟨rfl, q σ re rfl⟩
    | cons d ds => simp at hl
  | i :: is, ds, xs, env, σ, Q, vs, hl, r, re, hv, q => by
    cases ds with
    | nil => simp at hl
    | cons d ds =>
      cases r with
      | cons r1 r2 =>
        refine ⟨_, _, rfl, ?_⟩
        refine gNames_ok (env := env.set i (some (.d d))) (vs := vs) (by simpa using hl) r2 (re.set (w := .d d) r1) (fun j hj => hv j (List.mem_cons_of_mem _ hj)) fun σ2 re2 hw => q σ2 re2 ?_
        rw [hw, wipe_set (hv i List.mem_cons_self)]
theorem gTg_ok {K : PySem.W.Frag} (hK : K = G.K) {t : Tg} {v : V} {w : W} {env env2 : EnvW} {σ : L2.St} {Q : L2.St → Hp → Prop} {vs : List Nat} (h : tgM t w env = some env2) (re : EnvR G c env σ) (rv : RW G c v w) (hv : ∀ i ∈ t.slots, i ∈ vs)
    (q : ∀ σ2, EnvR G c env2 σ2 → wipe σ2 vs = wipe σ vs → Q σ2 c.H) : gTg K t v σ c.H Q := by
  cases t with
  | n i =>
    cases h
    exact q _ (re.set rv) (wipe_set (hv i (by simp [Tg.slots])))
  | t is =>
    cases w with
    | d x =>
      cases x with
      | tuple ds =>
        simp only [tgM] at h
        split at h
        · rename_i hl
          cases h
          obtain ⟨a, xs, rfl, h1, r1⟩ := rTup rv
          exact ⟨a, xs, rfl, by rw [hK]; exact h1, by rw [r1.length]; exact hl, gNames_ok (env := env) hl r1 re hv q⟩
        · cases h
      | _ => cases h
    | _ => cases h
end

/-! ### what is walked -/
structure IterOk (G : GA) (J : It) (ws : List W) (c1 : Cf) : Prop where
  go : ∀ i c2, i < ws.length → c1.ext c2 → c2.ok G → J.go i c2.H
  stop : ∀ c2, c1.ext c2 → c2.ok G → J.stop ws.length c2.H
  yld : ∀ i c2 x H', i < ws.length → c1.ext c2 → c2.ok G → J.yld i c2.H x H' → ∃ c3 w, c2.ext c3 ∧ c3.ok G ∧ c3.H = H' ∧ c3.ah = c2.ah ∧ ws[i]? = some w ∧ RW G c3 x w
/-- the items, and the tracked list that is walked -/
abbrev Src := List W × Option Nat
def lockC (p : Src) (c : Cf) : Cf := match p.2 with
  | none => c
  | some i => c.obj i .dead
def unlockC (p : Src) (c : Cf) : Cf := match p.2 with
  | none => c
  | some i => c.obj i (.lst p.1)
def over {α : Type} (p : Src) (f : List W → M α) : M α := match p.2 with
  | none => f p.1
  | some i => fun h => match f p.1 (h.set i .dead) with
    | .ok a h' => .ok a (h'.set i (.lst p.1))
    | .ex c h' => .ex c (h'.set i (.lst p.1))
    | .no => .no
/-- the list that is walked is the tracked one -/
def SrcOk (G : GA) (p : Src) (c : Cf) : Prop := ∀ i, p.2 = some i → ∃ a xs, c.μ[i]? = some a ∧ c.ah[i]? = some (.lst p.1) ∧ c.H a = some (.lst xs) ∧ RWL G c xs p.1
theorem over_po {α : Type} {G : GA} {p : Src} {f : List W → M α} {c : Cf} {F : α → Cf → Prop} {E : Str → Cf → Prop} (ok : c.ok G) (hs : SrcOk G p c) (h : Po G (over p f c.ah) c F E) : Po G (f p.1 (lockC p c).ah) (lockC p c) (fun a c3 => F a (unlockC p c3)) (fun e c3 => E e (unlockC p c3)) := by
  obtain ⟨ws, l⟩ := p
  cases l with
  | none => exact h
  | some i =>
    obtain ⟨a, xs, h1, h2, h3, h4⟩ := hs i rfl
    have un : ∀ c3 : Cf, (c.obj i .dead).ext c3 → c3.ok G → c.ext (c3.obj i (.lst ws)) ∧ (c3.obj i (.lst ws)).ok G := fun c3 ex k3 =>
      Cf.unlock ok h1 h2 (by intro e; cases e) (by intro kvs e; cases e) h3 (fun c' hc ex' => ⟨xs, hc, RWL.mono ex' h4⟩) ex k3
    show Po G (f ws (c.ah.set i .dead)) (c.obj i .dead) _ _
    have h' : Po G (match f ws (c.ah.set i .dead) with
      | .ok a h' => R.ok a (h'.set i (.lst ws))
      | .ex c h' => .ex c (h'.set i (.lst ws))
      | .no => .no) c F E := h
    cases q : f ws (c.ah.set i .dead) with
    | ok a h'' =>
      rw [q] at h'
      intro c3 ex3 ok3 e3
      obtain ⟨u1, u2⟩ := un c3 ex3 ok3
      exact h' _ u1 u2 (by show c3.ah.set i (.lst ws) = _; rw [e3])
    | ex e h'' =>
      rw [q] at h'
      intro c3 ex3 ok3 e3
      obtain ⟨u1, u2⟩ := un c3 ex3 ok3
      exact h' _ u1 u2 (by show c3.ah.set i (.lst ws) = _; rw [e3])
    | no =>
      rw [q] at h'
      exact h'
theorem lockC_H {p : Src} {c : Cf} : (lockC p c).H = c.H := by unfold lockC; split <;> rfl
theorem lockC_mu {p : Src} {c : Cf} : (lockC p c).μ = c.μ := by unfold lockC; split <;> rfl
theorem unlockC_H {p : Src} {c : Cf} : (unlockC p c).H = c.H := by unfold unlockC; split <;> rfl
theorem unlockC_mu {p : Src} {c : Cf} : (unlockC p c).μ = c.μ := by unfold unlockC; split <;> rfl
theorem lockC_len {p : Src} {c : Cf} : (lockC p c).ah.length = c.ah.length := by
  unfold lockC; split
  · rfl
  · show (List.set _ _ _).length = _; rw [List.length_set]
theorem lockC_ok {G : GA} {p : Src} {c : Cf} (k : c.ok G) : (lockC p c).ok G := by
  unfold lockC; split
  · exact k
  · exact Cf.lock_ok k
theorem EnvR.same {G : GA} {c c' : Cf} (hH : c'.H = c.H) (hm : c'.μ = c.μ) {env : EnvW} {σ : L2.St} (h : EnvR G c env σ) : EnvR G c' env σ :=
  ⟨h.1, fun i w q => let ⟨v, h1, h2⟩ := h.2 i w q; ⟨v, h1, RW.same hH hm h2⟩⟩
def tI (G : GA) (Wx : WX) (m : EnvW → M Src) : TI := fun σ H R => ∃ c env, c.H = H ∧ c.ok G ∧ EnvR G c env σ ∧ Po G (m env c.ah) c (fun p c1 => SrcOk G p c1 → ∀ J, IterOk G J p.1 (lockC p c1) → R J c1.H) (fun e c' => WEx G Wx e σ c'.H)
def SI (T : Tb) (G : GA) (CM : FId → List W → M W) (k : Nat) (sc : Sc) (tg e : Expr) (m : EnvW → M Src) : Prop := ∀ X Wx, Fits T G CM k X sc Wx → PI X tg e (tI G Wx m)
theorem PI.imp {X : Cx} {tg e : Expr} {t t' : TI} (h : PI X tg e t) (i : ∀ σ H Q, t' σ H Q → t σ H Q) : PI X tg e t' := ⟨fun p s σ H Q I q => h.run p s σ H Q I (i _ _ _ q)⟩

/-! ### for -/
def floop (t : Tg) (b : MS) : List W → MS
  | [] => fun env => mpure (.nx env)
  | w :: ws => fun env => match tgM t w env with
    | none => mno
    | some env1 => mbind (b env1) fun fl => match fl with
      | .nx e => floop t b ws e
      | .ct e => floop t b ws e
      | .bk e => mpure (.nx e)
      | .rt w => mpure (.rt w)
def sFor (t : Tg) (mi : EnvW → M Src) (b : MS) : MS := fun env => mbind (mi env) fun p => over p fun ws => floop t b ws env
def noSetE : Expr → Bool
  | .Set .. => false
  | _ => true
theorem noSetE_ok {e : Expr} (h : noSetE e = true) (env : Env) : ∀ x, foldedSetIterable e env x = pure x := fun x => by
  cases e <;> first | rfl | cases h
section
variable {T : Tb} {G : GA} {CM : FId → List W → M W} {k : Nat} {sc : Sc} {tg e : Expr} {body : List Stmt} {t : Tg} {mi : EnvW → M Src} {ms : MS} {pos : Pos}
theorem ss_for (ht : tgOf sc tg = some t) (hi : SI T G CM k sc tg e mi) (hb : SSs T G CM k sc body ms) (hn : noSetE e = true) : SS T G CM k sc (.For tg e body [] pos) (sFor t mi ms) := fun X Ex F hp hs hf => by
  refine PS.imp (ps_for hp F.calm (hi X _ F) (pg_tg F ht) (hb X Ex F hp hs hf) (noSetE_ok hn _)) fun D σ H ⟨c, env, e, ok, re, q⟩ => ?_
  subst e
  refine ⟨c, env, rfl, ok, re, Po.mono (Po.bind q) (fun p c1 e1 ok1 q1 hsrc J hJ => ?_) fun _ _ _ _ q => q⟩
  have q2 := over_po ok1 hsrc q1
  have okL := lockC_ok (p := p) ok1
  refine ⟨fun i m σ H => m = p.1.length - i ∧ i ≤ p.1.length ∧ ∃ c2 env2, c2.H = H ∧ c2.ok G ∧ (lockC p c1).ext c2 ∧ EnvR G c2 env2 σ ∧ Po G (floop t ms (p.1.drop i) env2 c2.ah) c2 (fun a c3 => FlP G D a (unlockC p c3)) (fun e c3 => ∀ C, G.xa e = some C → Ex (.ref C) none (unlockC p c3).H),
    ⟨p.1.length, by simp, Nat.zero_le _, lockC p c1, env, lockC_H, okL, Cf.ext.refl _, (re.mono e1).same lockC_H lockC_mu, q2⟩, ?_⟩
  rintro i m σ1 H1 ⟨rfl, hi1, c2, env2, rfl, ok2, ex2, re2, q3⟩
  by_cases hlt : i < p.1.length
  · refine .inr ⟨hJ.go i c2 hlt ex2 ok2, fun σ' H' => ∃ c3 env3, c3.H = H' ∧ c3.ok G ∧ (lockC p c1).ext c3 ∧ EnvR G c3 env3 σ' ∧ Po G (floop t ms (p.1.drop (i + 1)) env3 c3.ah) c3 (fun a c3 => FlP G D a (unlockC p c3)) (fun e c3 => ∀ C, G.xa e = some C → Ex (.ref C) none (unlockC p c3).H),
      fun σ' H' h => ⟨p.1.length - (i + 1), by omega, rfl, hlt, h⟩, fun x H' hy => ?_⟩
    obtain ⟨c3, w, ex3, ok3, rfl, eah, hw, rw3⟩ := hJ.yld i c2 x H' hlt ex2 ok2 hy
    rw [List.drop_eq_getElem_cons hlt] at q3
    have hw2 : p.1[i] = w := by
      rw [List.getElem?_eq_getElem hlt] at hw
      exact Option.some.inj hw
    rw [hw2] at q3
    have q4 : Po G (floop t ms (w :: p.1.drop (i + 1)) env2 c3.ah) c3 (fun a c3 => FlP G D a (unlockC p c3)) (fun e c3 => ∀ C, G.xa e = some C → Ex (.ref C) none (unlockC p c3).H) := by
      rw [eah]
      exact Po.bind.Po.later ex3 q3
    cases hm : tgM t w env2 with
    | none =>
      simp only [floop, hm] at q4
      exact q4.elim
    | some env3 =>
      simp only [floop, hm] at q4
      refine gTg_ok (c := c3) F.K (vs := t.slots) hm (re2.mono ex3) rw3 (fun _ h => h) fun σ2 re4 _ => ?_
      refine ⟨c3, env3, rfl, ok3, re4, Po.mono (Po.bind q4) (fun fl c4 e4 ok4 q5 => ?_) fun e' c4 e4 ok4 q5 C hC => by rw [← unlockC_H (p := p)]; exact q5 C hC⟩
      have ex4 := (ex2.trans ex3).trans e4
      cases fl with
      | nx env' => exact fun σ' re' => ⟨c4, env', rfl, ok4, ex4, re', q5⟩
      | ct env' => exact fun σ' re' => ⟨c4, env', rfl, ok4, ex4, re', q5⟩
      | bk env' =>
        intro σ' re'
        have q6 := Po.here (a := Fl.nx env') q5 ok4 σ' (re'.same unlockC_H unlockC_mu)
        rw [unlockC_H] at q6
        exact q6
      | rt w =>
        intro v rv
        have q6 := Po.here (a := Fl.rt w) q5 ok4 v (RW.same unlockC_H unlockC_mu rv)
        rw [unlockC_H] at q6
        exact q6
  · have e : i = p.1.length := by omega
    subst e
    refine .inl ⟨hJ.stop c2 ex2 ok2, ?_⟩
    rw [List.drop_length] at q3
    have q6 := Po.here (a := Fl.nx env2) q3 ok2 σ1 (re2.same unlockC_H unlockC_mu)
    rw [unlockC_H] at q6
    exact q6

/-! ### list comprehensions -/
def noEx {α : Type} (m : M α) : M α := fun h => match m h with
  | .ok a h' => .ok a h'
  | _ => .no
theorem noEx_po {α : Type} {m : M α} {c : Cf} {F : α → Cf → Prop} {E E0 : Str → Cf → Prop} (h : Po G (noEx m c.ah) c F E) : Po G (m c.ah) c F E0 := by
  unfold noEx at h
  cases q : m c.ah with
  | ok a h' => rw [q] at h; exact h
  | ex e h' => rw [q] at h; exact h.elim
  | no => rw [q] at h; exact h
def pushM (i : Nat) (y : W) : M Unit := fun h => match h[i]? with
  | some (.lst xs) => if xs.length < sizeLine then .ok () (h.set i (.lst (xs ++ [y]))) else .no
  | _ => .no
def cLoop (id : Nat) (t : Tg) (tt : EnvW → M Bool) (el : ME) : List W → EnvW → M Unit
  | [], _ => mpure ()
  | w :: ws, env => match tgM t w env with
    | none => mno
    | some e1 => mbind (noEx (tt e1)) fun b => if b then mbind (noEx (el e1)) fun y => mbind (pushM id y) fun _ => cLoop id t tt el ws env else cLoop id t tt el ws env
def wipeW (env : EnvW) : List Nat → EnvW
  | [] => env
  | v :: vs => (wipeW env vs).set v none
theorem EnvR.wipe {c : Cf} {env : EnvW} {σ : L2.St} (h : EnvR G c env σ) : ∀ vs : List Nat, EnvR G c (wipeW env vs) (L2.wipe σ vs)
  | [] => h
  | v :: vs => (EnvR.wipe h vs).unset
def eLC (t : Tg) (mi : EnvW → M Src) (tt : EnvW → M Bool) (el : ME) : ME := fun env => mbind (mi env) fun p => over p fun ws => fun h => mbind (cLoop h.length t tt el ws (wipeW env t.slots)) (fun _ => mpure (.r h.length)) (h ++ [.lst []])
/-- the names of the block -/
def ownOf (sc : Sc) : Expr → Option (List (Str × Nat))
  | .Name x _ => (sc.N.idxOf? x).map fun i => [(x, i)]
  | .Tuple es _ _ => go es
  | _ => none
where
  go : List Expr → Option (List (Str × Nat))
    | [] => some []
    | .Name x _ :: es => match sc.N.idxOf? x, go es with
      | some i, some r => some ((x, i) :: r)
      | _, _ => none
    | _ => none
def blkSc (sc : Sc) (scope : Scope) : Sc := ⟨sc.N, relS scope sc.scope, fun x => scope.names.lookup x == some .cell⟩
def tTrue : EnvW → M Bool := fun _ => mpure true
theorem Fits.blk {X : Cx} {Wx : WX} (F : Fits T G CM k X sc Wx) (scope : Scope) (s : Shared) (H : Hp) (C : Addr) (cl : List (Str × Addr)) (fp : List Addr) : Fits T G CM k (X.blk s H scope (compEnvC scope cl C X.env) fp) (blkSc sc scope) (fun _ _ _ _ => False) := by
  refine ⟨F.N, F.nd, ?_, F.K, fun x h => h, F.calm, F.room, fun u s' ⟨_, _, _, _, _, _, _, _, _, _, _, _, _, _, _, _, w⟩ => w.elim, ?_⟩
  · show relS scope X.env.scope = relS scope sc.scope
    rw [F.scope]
  · exact ⟨F.top.fn, F.top.def_, F.top.con, F.top.free, fun x hx => F.top.exc x hx, F.top.cls, F.top.own, F.top.meth, F.top.isx, F.top.catch_⟩
def ST0 (T : Tb) (G : GA) (CM : FId → List W → M W) (k : Nat) (sc : Sc) (ifs : List Expr) (m : EnvW → M Bool) : Prop := ∀ X Wx, Fits T G CM k X sc Wx → PTs X ifs (tT G Wx m)
theorem PTs.imp {X : Cx} {e : List Expr} {t t' : TT} (h : PTs X e t) (i : ∀ σ H Q, t' σ H Q → t σ H Q) : PTs X e t' := ⟨fun p s σ H Q I q => h.run p s σ H Q I (i _ _ _ q)⟩
theorem st0_nil : ST0 T G CM k sc [] tTrue := fun X Wx F => PTs.imp pts_nil fun σ H Q ⟨c, env, e, ok, re, q⟩ => by
  subst e
  exact Po.here (a := true) q ok
theorem st0_one {mt : EnvW → M Bool} (h : ST T G CM k sc e mt) : ST0 T G CM k sc [e] mt := fun X Wx F => pts_one (h X Wx F)
/-- the reading of a comprehension -/
theorem lc_read {mt : EnvW → M Bool} {me : ME} {Wx : WX} {σ : L2.St} {H : Hp} {Q : VK} {K : PySem.W.Frag} (hK : K = G.K) (h : tE G Wx (eLC t mi mt me) σ H Q) : tLc (tI G Wx mi) (gTg K t) (tT G (fun _ _ _ _ => False) mt) (tE G (fun _ _ _ _ => False) me) t.slots σ H Q := by
  obtain ⟨c, env, e, ok, re, q⟩ := h
  subst e
  refine ⟨c, env, rfl, ok, re, Po.mono (Po.bind q) (fun p c1 e1 ok1 q1 hsrc J hJ D hD => ?_) fun _ _ _ _ q => q⟩
  have q2 := over_po ok1 hsrc q1
  have okL := lockC_ok (p := p) ok1
  have hDL : (lockC p c1).H D = none := by rw [lockC_H]; exact hD
  have exD := Cf.new_ext (o := .lst []) (ao := .lst []) okL hDL
  have okD : ((lockC p c1).new D (.lst []) (.lst [])).ok G := Cf.new_ok okL hDL ⟨[], upd_same, .nil⟩
  have q3 := Po.bind (c := (lockC p c1).new D (.lst []) (.lst [])) (Po.bind.Po.later exD q2)
  have rD : ∀ c3 : Cf, ((lockC p c1).new D (.lst []) (.lst [])).ext c3 → c3.μ[(lockC p c1).ah.length]? = some D := fun c3 ex => ex.pre _ _ (by show ((lockC p c1).μ ++ [D])[(lockC p c1).ah.length]? = some D; rw [← okL.len]; simp)
  have re0 : EnvR G ((lockC p c1).new D (.lst []) (.lst [])) (wipeW env t.slots) (L2.wipe σ t.slots) := (((re.mono e1).same lockC_H lockC_mu).mono exD).wipe _
  refine ⟨fun i m H => m = p.1.length - i ∧ i ≤ p.1.length ∧ ∃ c2, c2.H = H ∧ c2.ok G ∧ ((lockC p c1).new D (.lst []) (.lst [])).ext c2 ∧ Po G (cLoop (lockC p c1).ah.length t mt me (p.1.drop i) (wipeW env t.slots) c2.ah) c2 (fun _ c3 => VQ G Q (.r (lockC p c1).ah.length) (unlockC p c3)) (fun _ _ => True),
    ⟨p.1.length, by simp, Nat.zero_le _, (lockC p c1).new D (.lst []) (.lst []), by show upd (lockC p c1).H D _ = _; rw [lockC_H], okD, Cf.ext.refl _, Po.mono q3 (fun _ c3 e3 ok3 q4 => Po.here (a := W.r (lockC p c1).ah.length) (F := fun a c3 => VQ G Q a (unlockC p c3)) q4 ok3) fun _ _ _ _ _ => trivial⟩, ?_⟩
  rintro i m H1 ⟨rfl, hi1, c2, rfl, ok2, ex2, q4⟩
  by_cases hlt : i < p.1.length
  · refine .inr ⟨hJ.go i c2 hlt (exD.trans ex2) ok2, fun H' => ∃ c3, c3.H = H' ∧ c3.ok G ∧ ((lockC p c1).new D (.lst []) (.lst [])).ext c3 ∧ Po G (cLoop (lockC p c1).ah.length t mt me (p.1.drop (i + 1)) (wipeW env t.slots) c3.ah) c3 (fun _ c3 => VQ G Q (.r (lockC p c1).ah.length) (unlockC p c3)) (fun _ _ => True),
      fun H' h => ⟨p.1.length - (i + 1), by omega, rfl, hlt, h⟩, fun x H' hy => ?_⟩
    obtain ⟨c3, w, ex3, ok3, rfl, eah, hw, rw3⟩ := hJ.yld i c2 x H' hlt (exD.trans ex2) ok2 hy
    rw [List.drop_eq_getElem_cons hlt] at q4
    have hw2 : p.1[i] = w := by
      rw [List.getElem?_eq_getElem hlt] at hw
      exact Option.some.inj hw
    rw [hw2] at q4
    have q5 : Po G (cLoop (lockC p c1).ah.length t mt me (w :: p.1.drop (i + 1)) (wipeW env t.slots) c3.ah) c3 (fun _ c3 => VQ G Q (.r (lockC p c1).ah.length) (unlockC p c3)) (fun _ _ => True) := by
      rw [eah]
      exact Po.bind.Po.later ex3 q4
    cases hm : tgM t w (wipeW env t.slots) with
    | none =>
      simp only [cLoop, hm] at q5
      exact q5.elim
    | some env3 =>
      simp only [cLoop, hm] at q5
      refine gTg_ok (c := c3) hK (vs := t.slots) hm ((re0.mono ex2).mono ex3) rw3 (fun _ h => h) fun σ2 re4 hwp => ⟨by rw [hwp]; exact wipe_wipe _ _, ?_⟩
      refine ⟨c3, env3, rfl, ok3, re4, Po.mono (noEx_po (Po.bind q5)) (fun b c4 e4 ok4 q6 => ?_) fun _ _ _ _ q => q⟩
      have ex4 := (ex2.trans ex3).trans e4
      cases b with
      | false => exact iteF ⟨c4, rfl, ok4, ex4, q6⟩
      | true =>
        refine iteT ⟨c4, env3, rfl, ok4, re4.mono e4, Po.mono (noEx_po (Po.bind q6)) (fun y c5 e5 ok5 q7 v rv => ?_) fun _ _ _ _ q => q⟩
        have ex5 := ex4.trans e5
        have q8 := Po.bind q7
        unfold pushM at q8
        split at q8
        · rename_i xs hx
          have hd := rD c5 ex5
          obtain ⟨us, hu, ru⟩ := ok5.obj _ D _ hd hx
          split at q8
          · rename_i hz
            obtain ⟨exP, okP⟩ := put_list ok5 hd hx (RWL.append ru (.cons rv .nil))
            exact ⟨us, hu, by rw [Paired.length ru]; exact hz, _, rfl, okP, ex5.trans exP, q8 _ exP okP rfl⟩
          · exact q8.elim
        · exact q8.elim
  · have e : i = p.1.length := by omega
    subst e
    refine .inl ⟨hJ.stop c2 (exD.trans ex2) ok2, ?_⟩
    rw [List.drop_length] at q4
    have q6 := Po.here (a := ()) q4 ok2 (.ref D) ⟨D, rfl, by rw [unlockC_mu]; exact rD c2 ex2⟩
    rw [unlockC_H] at q6
    exact q6
where
  wipe_wipe (σ : L2.St) (vs : List Nat) : L2.wipe (L2.wipe σ vs) vs = L2.wipe σ vs := by
    have h : ∀ (us : List Nat) (τ : L2.St), (∀ u ∈ us, ∀ x, τ[u]? = some x → x = none) → L2.wipe τ us = τ := by
      intro us
      induction us with
      | nil => intro τ _; rfl
      | cons u us ih =>
        intro τ ht
        unfold L2.wipe
        rw [ih τ fun u' hu' => ht u' (List.mem_cons_of_mem _ hu')]
        by_cases hl : u < τ.length
        · have := ht u List.mem_cons_self _ (List.getElem?_eq_getElem hl)
          rw [← this, List.set_getElem_self]
        · exact List.set_eq_of_length_le (by omega)
    refine h vs _ fun u hu x hx => ?_
    cases x with
    | none => rfl
    | some v => exact absurd hu (wipe_some hx).2
end
end Ev
set_option Elab.async false
set_option linter.all false
set_option maxRecDepth 100000
set_option maxHeartbeats 2000000
/-! E12: comprehensions as expressions, sources. -/
namespace Ev
open PySem PySem.Spec PyProof.Rows L2

def lcT (sc : Sc) (scope : Scope) (tg : Expr) : Option Tg := match ownOf sc tg, tgOf (blkSc sc scope) tg with
  | some own, some t => if blkC sc.N sc.scope scope own && decide (own.map (·.2) = t.slots) then some t else none
  | _, _ => none
theorem lcT_ok {sc : Sc} {scope : Scope} {tg : Expr} {t : Tg} (h : lcT sc scope tg = some t) : ∃ own, BlkOk sc.N sc.scope scope own ∧ own.map (·.2) = t.slots ∧ tgOf (blkSc sc scope) tg = some t := by
  unfold lcT at h
  split at h
  · rename_i own t' h1 h2
    split at h
    · rename_i hc
      cases h
      obtain ⟨c1, c2⟩ := Bool.and_eq_true_iff.mp hc
      exact ⟨own, blkOk_by c1, of_decide_eq_true c2, h2⟩
    · cases h
  · cases h
section
variable {T : Tb} {G : GA} {CM : FId → List W → M W} {k : Nat} {sc : Sc} {tg it e elt : Expr} {ifs : List Expr} {scope : Scope} {t : Tg} {mi : EnvW → M Src} {mt : EnvW → M Bool} {me : ME} {pos py spos : Pos}
theorem se_lc (ht : lcT sc scope tg = some t) (hi : SI T G CM k sc tg it mi) (hn : noSetE it = true) (hif : ST0 T G CM k (blkSc sc scope) ifs mt) (he : SE T G CM k (blkSc sc scope) elt me) : SE T G CM k sc (.ListComp elt [⟨tg, it, ifs, 0⟩] scope pos) (eLC t mi mt me) := fun X Wx F => by
  obtain ⟨own, h1, h2, h3⟩ := lcT_ok ht
  have hb : BlkOk X.N X.env.scope scope own := by rw [F.N, F.scope]; exact h1
  refine PE.imp (pe_lc (g := gTg X.K t) F.calm F.ndN (hi X Wx F) hb (fun s H C cl fp => pg_tg (F.blk scope s H C cl fp) h3) (fun s H C cl fp => hif _ _ (F.blk scope s H C cl fp)) (fun s H C cl fp => he _ _ (F.blk scope s H C cl fp)) (noSetE_ok hn _)) fun σ H Q q => ?_
  rw [h2]
  exact lc_read F.K q
/-- name = [..], on one line -/
theorem ss_setLc {y : Str} {i : Nat} (hy : sc.scope.names.lookup y = some .local) (hi2 : sc.N.idxOf? y = some i) (hk : sc.scope.kind = .function) (hl : (py.line == pos.line) = true) (hany : (scope.names.any fun (n, k) => n == y && (k == .local || k == .cell)) = false)
    (ht : lcT sc scope tg = some t) (hi : SI T G CM k sc tg it mi) (hn : noSetE it = true) (hif : ST0 T G CM k (blkSc sc scope) ifs mt) (he : SE T G CM k (blkSc sc scope) elt me) : SS T G CM k sc (.Assign [.Name y py] (.ListComp elt [⟨tg, it, ifs, 0⟩] scope pos) spos) (sSet i (eLC t mi mt me)) := fun X Ex F hp hs hf => by
  obtain ⟨own, h1, h2, h3⟩ := lcT_ok ht
  have hb : BlkOk X.N X.env.scope scope own := by rw [F.N, F.scope]; exact h1
  have hyX : X.env.scope.names.lookup y = some .local := by rw [F.scope]; exact hy
  refine PS.imp (ps_setLc (g := gTg X.K t) (i := i) F.calm F.ndN (by rw [F.N]; exact idx_at hi2) hyX (sw_true (by rw [F.scope]; exact hk) hyX hl hany) (hi X _ F) hb (fun s H C cl fp => pg_tg (F.blk scope s H C cl fp) h3) (fun s H C cl fp => hif _ _ (F.blk scope s H C cl fp)) (fun s H C cl fp => he _ _ (F.blk scope s H C cl fp)) (noSetE_ok hn _)) fun D σ H ⟨c, env, e, ok, re, q⟩ => ?_
  subst e
  rw [h2]
  refine lc_read F.K (tE.step ok re q fun w c1 v e1 ok1 re1 rv q1 => ?_)
  exact Po.here (a := Fl.nx (env.set i (some w))) q1 ok1 _ (re1.set rv)

/-! ### sources -/
def srcM (w : W) : M Src := fun h => match w with
  | .d (.tuple ds) => .ok (ds.map .d, none) h
  | .d (.list ds) => .ok (ds.map .d, none) h
  | .d (.str z) => .ok (z.cps.toList.map fun c => wS ⟨#[c]⟩, none) h
  | .r i => (match h[i]? with
    | some (.lst ws) => .ok (ws, some i) h
    | _ => .no)
  | _ => .no
def iVal (a : ME) : EnvW → M Src := fun env => mbind (a env) srcM
def iAny (K : PySem.W.Frag) (tl : TE) : TI := fun σ H R => tl σ H fun x H1 => (∃ a, x = .ref a ∧ (∃ xs, SqL K H1 a xs) ∧ R (Itl K a) H1) ∨ (∃ a, x = .ref a ∧ (∃ xs, SqT K H1 a xs) ∧ R (Itt K a) H1) ∨ ∃ z, x = .str z ∧ R (Its z) H1
theorem pi_any {X : Cx} {l : Expr} {tl : TE} (hl : PE X l tl) : PI X tg l (iAny X.K tl) := by
  refine ⟨fun pins s σ H R I h => ?_⟩
  refine thn (hl.run pins s σ H _ I h) fun v s1 ⟨x, H1, I1, r1, q1⟩ => ?_
  rcases q1 with ⟨a, e, ⟨xs, hq⟩, q⟩ | ⟨a, e, ⟨xs, hq⟩, q⟩ | ⟨z, e, q⟩
  · subst e
    cases r1
    obtain ⟨its, rv, p, hz⟩ := I1.list hq
    refine wpAny_pyIter_list p.isList ?_
    exact pi_one (tk := s1.toks) I1 _ (turn_list a _) ⟨_, Heap.get?_push_size _ rfl, rfl, rfl⟩ q
  · subst e
    cases r1
    obtain ⟨its, rv, p, hz⟩ := I1.tuple hq
    refine wpAny_pyIter_tuple (show s1.heap.IsTuple a its.toArray from p) ?_
    exact pi_one (tk := s1.toks) I1 _ (turn_tuple a _) ⟨_, Heap.get?_push_size _ rfl, rfl, rfl⟩ q
  · subst e
    obtain ⟨t, rfl⟩ := r1
    cases ha : z.cps.all (· < 128)
    · exact wpAny_pyIter_wide ha (pi_one (tk := s1.toks) I1 _ (turn_str _ z t "str_iterator" (.inr rfl)) ⟨_, Heap.get?_push_size _ rfl, rfl, rfl⟩ q)
    · exact wpAny_pyIter_ascii ha (pi_one (tk := s1.toks) I1 _ (turn_str _ z t "str_ascii_iterator" (.inl rfl)) ⟨_, Heap.get?_push_size _ rfl, rfl, rfl⟩ q)
theorem RpL.mapd {c : Cf} {xs : List V} {ds : List PyData} (h : RpL G.K c xs ds) {i : Nat} (hi : i < (ds.map W.d).length) : ∃ v d, xs[i]? = some v ∧ ds[i]? = some d ∧ Rp G.K c v d ∧ (ds.map W.d)[i]? = some (W.d d) := by
  have hi2 : i < ds.length := by simpa using hi
  obtain ⟨v, h1, h2⟩ := h.get (List.getElem?_eq_getElem hi2)
  exact ⟨v, ds[i], h1, List.getElem?_eq_getElem hi2, h2, by simp [hi2]⟩
theorem iter_tup {K : PySem.W.Frag} (hK : K = G.K) {c : Cf} {a : Addr} {xs : List V} {ds : List PyData} (hs : ∀ c2, c.ext c2 → SqT K c2.H a xs) (r : RpL G.K c xs ds) : IterOk G (Itt K a) (ds.map W.d) c where
  go := fun i c2 hi ex _ => by
    obtain ⟨v, d, h1, _⟩ := r.mapd hi
    exact ⟨xs, v, hs c2 ex, h1⟩
  stop := fun c2 ex _ => ⟨xs, hs c2 ex, by rw [List.length_map, r.length]; exact Nat.le_refl _⟩
  yld := fun i c2 x H' hi ex ok2 y => by
    obtain ⟨e, y⟩ := y
    subst e
    obtain ⟨v, d, h1, h2, h3, h4⟩ := r.mapd hi
    have := y xs (hs c2 ex)
    rw [h1] at this
    cases this
    exact ⟨c2, _, Cf.ext.refl c2, ok2, rfl, rfl, h4, Rp.mono ex h3⟩
theorem iter_lst {K : PySem.W.Frag} (hK : K = G.K) {c : Cf} {a : Addr} {xs : List V} {ds : List PyData} (hs : ∀ c2, c.ext c2 → SqL K c2.H a xs) (r : RpL G.K c xs ds) : IterOk G (Itl K a) (ds.map W.d) c where
  go := fun i c2 hi ex _ => by
    obtain ⟨v, d, h1, _⟩ := r.mapd hi
    exact ⟨xs, v, hs c2 ex, h1⟩
  stop := fun c2 ex _ => ⟨xs, hs c2 ex, by rw [List.length_map, r.length]; exact Nat.le_refl _⟩
  yld := fun i c2 x H' hi ex ok2 y => by
    obtain ⟨e, y⟩ := y
    subst e
    obtain ⟨v, d, h1, h2, h3, h4⟩ := r.mapd hi
    have := y xs (hs c2 ex)
    rw [h1] at this
    cases this
    exact ⟨c2, _, Cf.ext.refl c2, ok2, rfl, rfl, h4, Rp.mono ex h3⟩
theorem iter_lstW {K : PySem.W.Frag} {c : Cf} {a : Addr} {xs : List V} {ws : List W} (hs : ∀ c2, c.ext c2 → SqL K c2.H a xs) (r : RWL G c xs ws) : IterOk G (Itl K a) ws c where
  go := fun i c2 hi ex _ => by
    obtain ⟨v, h1, _⟩ := RWL.get r (List.getElem?_eq_getElem hi)
    exact ⟨xs, v, hs c2 ex, h1⟩
  stop := fun c2 ex _ => ⟨xs, hs c2 ex, by rw [Paired.length r]; exact Nat.le_refl _⟩
  yld := fun i c2 x H' hi ex ok2 y => by
    obtain ⟨e, y⟩ := y
    subst e
    obtain ⟨v, h1, h2⟩ := RWL.get r (List.getElem?_eq_getElem hi)
    have := y xs (hs c2 ex)
    rw [h1] at this
    cases this
    exact ⟨c2, _, Cf.ext.refl c2, ok2, rfl, rfl, List.getElem?_eq_getElem hi, RW.mono ex h2⟩
theorem iter_str {c : Cf} (z : Str) : IterOk G (Its z) (z.cps.toList.map fun c => wS ⟨#[c]⟩) c where
  go := fun i c2 hi _ _ => by show i < z.cps.size; simpa using hi
  stop := fun c2 _ _ => by show z.cps.size ≤ _; simp
  yld := fun i c2 x H' hi _ ok2 y => by
    obtain ⟨e, ch, h1, h2⟩ := y
    subst e h2
    exact ⟨c2, wS ⟨#[ch]⟩, Cf.ext.refl c2, ok2, rfl, rfl, by simp [h1], .str _⟩
theorem tup_stays {c : Cf} {v : V} {ds : List PyData} (h : RW G c v (.d (.tuple ds))) : ∃ a xs, v = .ref a ∧ RpL G.K c xs ds ∧ ∀ c2, c.ext c2 → SqT G.K c2.H a xs := by
  cases (show Rp G.K c v (.tuple ds) from h) with
  | tup l1 h1 r1 => exact ⟨_, _, rfl, r1, fun c2 ex => .inl (ex.rd h1 l1).1⟩
  | tupK h1 r1 => exact ⟨_, _, rfl, r1, fun c2 ex => .inr h1⟩
theorem lst_stays {c : Cf} {v : V} {ds : List PyData} (h : RW G c v (.d (.list ds))) : ∃ a xs, v = .ref a ∧ RpL G.K c xs ds ∧ ∀ c2, c.ext c2 → SqL G.K c2.H a xs := by
  cases (show Rp G.K c v (.list ds) from h) with
  | lst l1 h1 r1 => exact ⟨_, _, rfl, r1, fun c2 ex => .inl (ex.rd h1 l1).1⟩
theorem si_val (he : SE T G CM k sc e me) : SI T G CM k sc tg e (iVal me) := fun X Wx F => by
  refine PI.imp (pi_any (he X Wx F)) fun σ H R ⟨c, env, e0, ok, re, q⟩ => ?_
  subst e0
  refine tE.step ok re q fun w c1 v e1 ok1 re1 rv q1 => ?_
  unfold srcM at q1
  split at q1
  · rename_i ds
    obtain ⟨a, xs, rfl, r1, hs⟩ := tup_stays rv
    refine .inr (.inl ⟨a, rfl, ⟨xs, by rw [F.K]; exact hs c1 (Cf.ext.refl _)⟩, ?_⟩)
    rw [F.K]
    exact q1.here ok1 (fun i h => by cases h) _ (iter_tup rfl hs r1)
  · rename_i ds
    obtain ⟨a, xs, rfl, r1, hs⟩ := lst_stays rv
    refine .inl ⟨a, rfl, ⟨xs, by rw [F.K]; exact hs c1 (Cf.ext.refl _)⟩, ?_⟩
    rw [F.K]
    exact q1.here ok1 (fun i h => by cases h) _ (iter_lst rfl hs r1)
  · rename_i z
    exact .inr (.inr ⟨z, rStr rv, q1.here ok1 (fun i h => by cases h) _ (iter_str z)⟩)
  · rename_i i
    split at q1
    · rename_i ws ew
      obtain ⟨a, rfl, h1, xs, hx, rx⟩ := rRef ok1 rv ew
      refine .inl ⟨a, rfl, ⟨xs, .inl (.inl hx)⟩, ?_⟩
      refine q1.here ok1 (fun j h => ?_) _ (iter_lstW (c := lockC (ws, some i) c1) (xs := xs) (fun c2 ex => ?_) (L2.Paired.mapP rx fun _ _ q => RW.same lockC_H lockC_mu q))
      · cases h
        exact ⟨a, xs, h1, ew, hx, rx⟩
      · have := ex.dead i a (.lst xs) (by rw [lockC_mu]; exact h1) (by show (c1.ah.set i .dead)[i]? = _; exact List.getElem?_set_self (List.getElem?_eq_some_iff.mp ew).1) (by rw [lockC_H]; exact hx)
        exact .inl (.inl this.1)
    · exact q1.elim
  · exact q1.elim
/-! range -/
def rangeL (lo : Int) (n : Nat) : List W := (List.range n).map fun (i : Nat) => wI (lo + (i : Int))
theorem iter_range {c : Cf} (lo : Int) (n : Nat) : IterOk G (Itr lo n) (rangeL lo n) c where
  go := fun i c2 hi _ _ => by show i < n; simpa [rangeL] using hi
  stop := fun c2 _ _ => by show n ≤ _; simp [rangeL]
  yld := fun i c2 x H' hi _ ok2 y => by
    obtain ⟨e, h2⟩ := y
    subst e h2
    have hi' : i < n := by simpa [rangeL] using hi
    exact ⟨c2, wI (lo + i), Cf.ext.refl c2, ok2, rfl, rfl, by simp [rangeL, hi'], .int _⟩
def small62 (j : Int) : Bool := decide (j.natAbs < 4611686018427387904)
theorem small62_ok {i : Int} (h : small62 i = true) : -(2 ^ 62) ≤ i ∧ i < 2 ^ 62 := by
  have h := of_decide_eq_true h
  omega
def rng1 (ws : List W) : M Src := fun h => match ws with
  | [.d (.int j)] => if small62 j then .ok (rangeL 0 j.toNat, none) h else .no
  | _ => .no
def rng2 (ws : List W) : M Src := fun h => match ws with
  | [.d (.int i), .d (.int j)] => if small62 i && small62 j then .ok (rangeL i (j - i).toNat, none) h else .no
  | _ => .no
def iFun (f : List W → M Src) (a : EnvW → M (List W)) : EnvW → M Src := fun env => mbind (a env) f
theorem si_range1 {a : Expr} {p : Pos} {mr : EnvW → M (List W)} (hg : isGlob sc "range" = true) (hf : ("range" : Str) ∈ T.free) (ha : SA T G CM k sc [a] mr) (hs : noStar a = true) : SI T G CM k sc tg (.Call (.Name "range" p) [a] [] pos) (iFun rng1 mr) := fun X Wx F => by
  refine PI.imp (pi_range1 (F.gl hg) (F.top.free _ hf) (ha X Wx F) (noStar_each hs [] X.env)) fun σ H R ⟨c, env, e0, ok, re, q⟩ => ?_
  subst e0
  refine tA.step ok re q fun ws c1 vs e1 ok1 re1 rvs q1 => ?_
  unfold rng1 at q1
  split at q1
  · rename_i j
    obtain ⟨v, rfl, r1⟩ := rwl1 rvs
    rw [rInt r1]
    split at q1
    · rename_i hz
      exact ⟨j, rfl, (small62_ok hz).1, (small62_ok hz).2, q1.here ok1 (fun i h => by cases h) _ (iter_range 0 _)⟩
    · exact q1.elim
  · exact q1.elim
theorem si_range2 {a b : Expr} {p : Pos} {mr : EnvW → M (List W)} (hg : isGlob sc "range" = true) (hf : ("range" : Str) ∈ T.free) (ha : SA T G CM k sc [a, b] mr) (hs : noStar a = true) (hs2 : noStar b = true) : SI T G CM k sc tg (.Call (.Name "range" p) [a, b] [] pos) (iFun rng2 mr) := fun X Wx F => by
  refine PI.imp (pi_range2 (F.gl hg) (F.top.free _ hf) (ha X Wx F) (by rw [noStar_each hs, noStar_each hs2]; rfl) (noStar_each hs2 [] X.env)) fun σ H R ⟨c, env, e0, ok, re, q⟩ => ?_
  subst e0
  refine tA.step ok re q fun ws c1 vs e1 ok1 re1 rvs q1 => ?_
  unfold rng2 at q1
  split at q1
  · rename_i i j
    obtain ⟨v, v', rfl, r1, r2⟩ := rwl2 rvs
    rw [rInt r1, rInt r2]
    split at q1
    · rename_i hz
      obtain ⟨hz1, hz2⟩ := Bool.and_eq_true_iff.mp hz
      exact ⟨i, j, rfl, ⟨(small62_ok hz1).1, (small62_ok hz1).2, (small62_ok hz2).1, (small62_ok hz2).2⟩, q1.here ok1 (fun i h => by cases h) _ (iter_range _ _)⟩
    · exact q1.elim
  · exact q1.elim
/-! zip of two tuples, of two lists -/
def zipD (xs ys : List PyData) : List W := List.zipWith (fun x y => W.d (.tuple [x, y])) xs ys
def zipM (ws : List W) : M Src := fun h => match ws with
  | [.d (.tuple xs), .d (.tuple ys)] => .ok (zipD xs ys, none) h
  | [.d (.list xs), .d (.list ys)] => .ok (zipD xs ys, none) h
  | _ => .no
theorem new_pair {c2 : Cf} {x y : V} {dx dy : PyData} {Tp : Addr} (ok2 : c2.ok G) (hT : c2.H Tp = none) (rx : Rp G.K c2 x dx) (ry : Rp G.K c2 y dy) : ∃ c3, c2.ext c3 ∧ c3.ok G ∧ c3.H = upd c2.H Tp (.tup [x, y]) ∧ c3.ah = c2.ah ∧ RW G c3 (.ref Tp) (.d (.tuple [dx, dy])) := by
  have ex := Cf.lay_ext (c := c2) (o := .tup [x, y]) hT
  exact ⟨c2.lay Tp (.tup [x, y]), ex, Cf.lay_ok ok2 hT, rfl, rfl, .tup (Cf.lay_live ok2 hT) (.inl upd_same) (.cons (Rp.mono ex rx) (.cons (Rp.mono ex ry) .nil))⟩
theorem zipD_at {xs ys : List V} {ds es : List PyData} {c : Cf} (r1 : RpL G.K c xs ds) (r2 : RpL G.K c ys es) {i : Nat} (hi : i < (zipD ds es).length) : ∃ x y dx dy, xs[i]? = some x ∧ ys[i]? = some y ∧ Rp G.K c x dx ∧ Rp G.K c y dy ∧ (zipD ds es)[i]? = some (.d (.tuple [dx, dy])) := by
  have hl : i < min ds.length es.length := by simpa [zipD] using hi
  have h1 : i < ds.length := by omega
  have h2 : i < es.length := by omega
  obtain ⟨x, a1, a2⟩ := r1.get (List.getElem?_eq_getElem h1)
  obtain ⟨y, b1, b2⟩ := r2.get (List.getElem?_eq_getElem h2)
  exact ⟨x, y, _, _, a1, b1, a2, b2, by simp [zipD, List.getElem?_zipWith, h1, h2]⟩
theorem iter_zipT {c : Cf} {a b : Addr} {xs ys : List V} {ds es : List PyData} (hs1 : ∀ c2, c.ext c2 → SqT G.K c2.H a xs) (hs2 : ∀ c2, c.ext c2 → SqT G.K c2.H b ys) (r1 : RpL G.K c xs ds) (r2 : RpL G.K c ys es) : IterOk G (RZ.ItzT G.K a b) (zipD ds es) c where
  go := fun i c2 hi ex _ => by
    obtain ⟨x, y, dx, dy, h1, h2, _⟩ := zipD_at r1 r2 hi
    exact ⟨xs, ys, x, y, hs1 c2 ex, hs2 c2 ex, h1, h2⟩
  stop := fun c2 ex _ => ⟨xs, ys, hs1 c2 ex, hs2 c2 ex, by rw [r1.length, r2.length]; simp [zipD]; omega⟩
  yld := fun i c2 x H' hi ex ok2 y => by
    obtain ⟨Tp, x', y', h1, h2, h3, h4, h5⟩ := y
    obtain ⟨x2, y2, dx, dy, a1, a2, a3, a4, a5⟩ := zipD_at r1 r2 hi
    have e1 := h4 xs (hs1 c2 ex)
    have e2 := h5 ys (hs2 c2 ex)
    rw [a1] at e1; rw [a2] at e2
    cases e1; cases e2
    subst h1
    obtain ⟨c3, q1, q2, q3, q4, q5⟩ := new_pair ok2 h2 (Rp.mono ex a3) (Rp.mono ex a4)
    exact ⟨c3, _, q1, q2, by rw [q3, h3], q4, a5, q5⟩
theorem iter_zipL {c : Cf} {a b : Addr} {xs ys : List V} {ds es : List PyData} (hs1 : ∀ c2, c.ext c2 → SqL G.K c2.H a xs) (hs2 : ∀ c2, c.ext c2 → SqL G.K c2.H b ys) (r1 : RpL G.K c xs ds) (r2 : RpL G.K c ys es) : IterOk G (Itz G.K a b) (zipD ds es) c where
  go := fun i c2 hi ex _ => by
    obtain ⟨x, y, dx, dy, h1, h2, _⟩ := zipD_at r1 r2 hi
    exact ⟨xs, ys, x, y, hs1 c2 ex, hs2 c2 ex, h1, h2⟩
  stop := fun c2 ex _ => ⟨xs, ys, hs1 c2 ex, hs2 c2 ex, by rw [r1.length, r2.length]; simp [zipD]; omega⟩
  yld := fun i c2 x H' hi ex ok2 y => by
    obtain ⟨Tp, x', y', h1, h2, h3, h4, h5⟩ := y
    obtain ⟨x2, y2, dx, dy, a1, a2, a3, a4, a5⟩ := zipD_at r1 r2 hi
    have e1 := h4 xs (hs1 c2 ex)
    have e2 := h5 ys (hs2 c2 ex)
    rw [a1] at e1; rw [a2] at e2
    cases e1; cases e2
    subst h1
    obtain ⟨c3, q1, q2, q3, q4, q5⟩ := new_pair ok2 h2 (Rp.mono ex a3) (Rp.mono ex a4)
    exact ⟨c3, _, q1, q2, by rw [q3, h3], q4, a5, q5⟩
theorem si_zip {a b : Expr} {elts : List Expr} {kk : Nat} {tpos p : Pos} {mr : EnvW → M (List W)} (hg : isGlob sc "zip" = true) (hf : ("zip" : Str) ∈ T.free) (ha : SA T G CM k sc [a, b] mr) (hs : noStar a = true) (hs2 : noStar b = true) : SI T G CM k sc (.Tuple elts kk tpos) (.Call (.Name "zip" p) [a, b] [] pos) (iFun zipM mr) := fun X Wx F => by
  refine PI.imp (RZ.pi_zipA (F.gl hg) (F.top.free _ hf) (ha X Wx F) (noStar_each hs _ X.env) (noStar_any (es := [b]) (by simp [hs2]) pos X.env)) fun σ H R ⟨c, env, e0, ok, re, q⟩ => ?_
  subst e0
  refine tA.step ok re q fun ws c1 vs e1 ok1 re1 rvs q1 => ?_
  unfold zipM at q1
  split at q1
  · rename_i ds es
    obtain ⟨v, v', rfl, r1, r2⟩ := rwl2 rvs
    obtain ⟨p1, xs, rfl, u1, s1⟩ := tup_stays r1
    obtain ⟨p2, ys, rfl, u2, s2⟩ := tup_stays r2
    refine ⟨p1, p2, xs, ys, rfl, .inr ⟨by rw [F.K]; exact s1 c1 (Cf.ext.refl _), by rw [F.K]; exact s2 c1 (Cf.ext.refl _), ?_⟩⟩
    rw [F.K]
    exact q1.here ok1 (fun i h => by cases h) _ (iter_zipT s1 s2 u1 u2)
  · rename_i ds es
    obtain ⟨v, v', rfl, r1, r2⟩ := rwl2 rvs
    obtain ⟨p1, xs, rfl, u1, s1⟩ := lst_stays r1
    obtain ⟨p2, ys, rfl, u2, s2⟩ := lst_stays r2
    refine ⟨p1, p2, xs, ys, rfl, .inl ⟨by rw [F.K]; exact s1 c1 (Cf.ext.refl _), by rw [F.K]; exact s2 c1 (Cf.ext.refl _), ?_⟩⟩
    rw [F.K]
    exact q1.here ok1 (fun i h => by cases h) _ (iter_zipL s1 s2 u1 u2)
  · exact q1.elim
end
end Ev
set_option Elab.async false
set_option linter.all false
set_option maxRecDepth 100000
set_option maxHeartbeats 2000000
/-! E13: stores to attributes and places, several names, op=; lists that are data. -/
namespace Ev
open PySem PySem.Spec PyProof.Rows L2

section
variable {T : Tb} {G : GA} {CM : FId → List W → M W} {k : Nat} {sc : Sc} {a b e o i : Expr} {es : List Expr} {mr : EnvW → M (List W)} {ma mb mo mi : ME} {pos p p2 : Pos} {f x : Str}
/-! ### a list display that is data (it stands within another display, or is compared) -/
def eLstD (a : EnvW → M (List W)) : ME := fun env => mbind (a env) fun ws => match allD ws with
  | some ds => if ds.length ≤ sizeLine then mpure (.d (.list ds)) else mno
  | none => mno
theorem se_lstD (hr : SA T G CM k sc es mr) : SE T G CM k sc (.List es pos) (eLstD mr) := fun X Wx F => by
  refine PE.imp (pe_lst (hr X Wx F)) fun σ H Q ⟨c, env, e, ok, re, q⟩ => ?_
  subst e
  refine tA.step ok re q fun ws c1 vs e1 ok1 re1 rvs q1 => ?_
  cases hd : allD ws with
  | none =>
    simp only [hd] at q1
    exact q1.elim
  | some ds =>
    simp only [hd] at q1
    by_cases hz : ds.length ≤ sizeLine
    · rw [if_pos hz] at q1
      have r := allD_ok hd rvs
      refine ⟨by rw [r.length]; exact hz, fun p hp => ?_⟩
      have ex := Cf.lay_ext (o := .lst vs) hp
      exact Po.at (c' := c1.lay p (.lst vs)) q1 ex (Cf.lay_ok ok1 hp) (.ref p) (.lst (Cf.lay_live ok1 hp) (.inl upd_same) (RpL.mono ex r))
    · rw [if_neg hz] at q1
      exact q1.elim

/-! ### o.f = e -/
def putW (f : Str) (v : W) : List (Str × W) → List (Str × W)
  | [] => [(f, v)]
  | (g, x) :: r => if g = f then (g, v) :: r else (g, x) :: putW f v r
theorem putF_rel {c : Cf} {f : Str} {v : V} {w : W} (rv : RW G c v w) : ∀ {xs : List (Str × V)} {fs : List (Str × W)}, Paired (fun (p : Str × V) (q : Str × W) => p.1 = q.1 ∧ RW G c p.2 q.2) xs fs → Paired (fun (p : Str × V) (q : Str × W) => p.1 = q.1 ∧ RW G c p.2 q.2) (putF f v xs) (putW f w fs)
  | _, _, .nil => .cons ⟨rfl, rv⟩ .nil
  | (g, x) :: xs, (g', y) :: fs, .cons h r => by
    obtain ⟨h1, h2⟩ := h
    have h1' : g = g' := h1
    subst h1'
    show Paired _ (if g = f then (g, v) :: xs else (g, x) :: putF f v xs) (if g = f then (g, w) :: fs else (g, y) :: putW f w fs)
    by_cases e : g = f
    · rw [if_pos e, if_pos e]; exact .cons ⟨rfl, rv⟩ r
    · rw [if_neg e, if_neg e]; exact .cons ⟨rfl, h2⟩ (putF_rel rv r)
def setFldM (f : Str) (o v : W) : M Unit := fun h => match o with
  | .r i => (match h[i]? with
    | some (.ins c fs) => if fs.length < 1000 then .ok () (h.set i (.ins c (putW f v fs))) else .no
    | _ => .no)
  | _ => .no
def sFldW (f : Str) (o v : ME) : MS := fun env => mbind (v env) fun y => mbind (o env) fun x => mbind (setFldM f x y) fun _ => mpure (.nx env)
theorem swA (v o : Expr) (f : Str) (p : Pos) (l : Nat) (env : Env) : swapsWith v (some (.Attribute o f p)) l env = pure false := by
  unfold swapsWith
  split
  · rfl
  · rfl
theorem swT (v : Expr) (es : List Expr) (kk : Nat) (p : Pos) (l : Nat) (env : Env) : swapsWith v (some (.Tuple es kk p)) l env = pure false := by
  unfold swapsWith
  split
  · rfl
  · rfl
theorem swS (v o i : Expr) (p : Pos) (l : Nat) (env : Env) : swapsWith v (some (.Subscript o i p)) l env = pure false := by
  unfold swapsWith
  split
  · rfl
  · rfl
theorem put_ins {c : Cf} {i : Nat} {a C dx : Addr} {cn : Str} {old fs : List (Str × W)} {xs : List (Str × V)} (k : c.ok G) (h : c.μ[i]? = some a) (ho : c.ah[i]? = some (.ins cn old)) (hC : G.ca cn = some C) (r : Paired (fun (p : Str × V) (q : Str × W) => p.1 = q.1 ∧ RW G c p.2 q.2) xs fs) : c.ext (c.put i a (.ins C dx xs) (.ins cn fs)) ∧ (c.put i a (.ins C dx xs) (.ins cn fs)).ok G := by
  have ex := Cf.put_ext (o := .ins C dx xs) (ao := .ins cn fs) k h ho (by intro e; cases e)
  exact ⟨ex, Cf.put_ok k h ho (by intro e; cases e) ⟨C, dx, xs, upd_same, hC, L2.Paired.mapP r fun _ _ q => ⟨q.1, RW.mono ex q.2⟩⟩⟩
theorem setFld_at {X : Cx} {Wx : WX} (F : Fits T G CM k X sc Wx) (hf : f ∈ T.flds) {c : Cf} {v vo : V} {w wo : W} {β : Type} {g : Unit → M β} {FF : β → Cf → Prop} {E : Str → Cf → Prop} (ok : c.ok G) (rv : RW G c v w) (ro : RW G c vo wo) (q : Po G (mbind (setFldM f wo w) g c.ah) c FF E) :
    ∃ a C dx fs, vo = .ref a ∧ c.H a = some (.ins C dx fs) ∧ Cls X.K C ∧ NoAttr X.K C f ∧ fs.length < 1000 ∧ ∃ c', c.ext c' ∧ c'.ok G ∧ c'.H = upd c.H a (.ins C dx (putF f v fs)) ∧ Po G (g () c'.ah) c' FF E := by
  have q0 := Po.bind q
  unfold setFldM at q0
  split at q0
  · rename_i i
    split at q0
    · rename_i cn fs e2
      split at q0
      · rename_i hz
        obtain ⟨p, rfl, h1, C, dx, xs, hx, hC, r2⟩ := rRef ok ro e2
        obtain ⟨hc, hn⟩ := F.top.own cn C hC
        obtain ⟨ex, okP⟩ := put_ins (dx := dx) ok h1 e2 hC (putF_rel (f := f) rv r2)
        exact ⟨p, C, dx, xs, rfl, hx, hc, hn f hf, by rw [Paired.length r2]; exact hz, _, ex, okP, rfl, q0 _ ex okP rfl⟩
      · exact q0.elim
    · exact q0.elim
  · exact q0.elim
theorem ss_fld (hf : f ∈ T.flds) (ho : SE T G CM k sc o mo) (he : SE T G CM k sc e ma) : SS T G CM k sc (.Assign [.Attribute o f p] e pos) (sFldW f mo ma) := fun X Ex F hp hs hfr => by
  refine PS.imp (ps_fld (ho X _ F) (he X _ F) (swA _ _ _ _ _ _)) fun D σ H ⟨c, env, e, ok, re, q⟩ => ?_
  subst e
  refine tE.step ok re q fun w c1 v e1 ok1 re1 rv q1 => tE.step ok1 re1 q1 fun w2 c2 v2 e2 ok2 re2 rv2 q2 => ?_
  obtain ⟨a, C, dx, fs, h1, h2, h3, h4, h5, c', ex, okc, hH, q3⟩ := setFld_at F hf ok2 (RW.mono e2 rv) rv2 q2
  refine ⟨a, C, dx, fs, h1, h2, h3, h4, h5, ?_⟩
  rw [← hH]
  exact Po.here (a := Fl.nx env) q3 okc σ (re2.mono ex)

/-! ### o[i] = e -/
def putDW (k : Key) (w : W) (ds : List (PyData × W)) : List (PyData × W) :=
  if ds.any fun p => keyIsD k p.1 then ds.map fun p => if keyIsD k p.1 then (p.1, w) else p else ds ++ [(keyD k, w)]
abbrev PDW (G : GA) (c : Cf) : List (Key × V) → List (PyData × W) → Prop := Paired (fun (p : Key × V) (q : PyData × W) => q.1 = keyD p.1 ∧ RW G c p.2 q.2)
theorem pdw_any {c : Cf} {k : Key} : ∀ {xs : List (Key × V)} {ds : List (PyData × W)}, PDW G c xs ds → (ds.any fun p => keyIsD k p.1) = xs.any fun kv => decide (kv.1 = k)
  | _, _, .nil => rfl
  | (j, x) :: xs, (d, w) :: ds, .cons h r => by
    have h1 : d = keyD j := h.1
    subst h1
    rw [List.any_cons, List.any_cons, pdw_any r, keyIsD_ok]
theorem pdw_map {c : Cf} {k : Key} {v : V} {w : W} (rv : RW G c v w) : ∀ {xs : List (Key × V)} {ds : List (PyData × W)}, PDW G c xs ds → PDW G c (xs.map fun kv => if kv.1 = k then (kv.1, v) else kv) (ds.map fun p => if keyIsD k p.1 then (p.1, w) else p)
  | _, _, .nil => .nil
  | (j, x) :: xs, (d, w') :: ds, .cons h r => by
    obtain ⟨h1, h2⟩ := h
    have h1' : d = keyD j := h1
    subst h1'
    rw [List.map_cons, List.map_cons]
    refine .cons ?_ (pdw_map rv r)
    show (if keyIsD k (keyD j) = true then (keyD j, w) else (keyD j, w')).1 = keyD (if j = k then (j, v) else (j, x)).1 ∧ _
    rw [keyIsD_ok]
    by_cases e : j = k
    · rw [decide_eq_true e, if_pos rfl, if_pos e]; exact ⟨rfl, rv⟩
    · rw [decide_eq_false e, if_neg Bool.false_ne_true, if_neg e]; exact ⟨rfl, h2⟩
theorem paired_snoc {α β : Type} {P : α → β → Prop} {x : α} {y : β} (h : P x y) : ∀ {xs : List α} {ys : List β}, Paired P xs ys → Paired P (xs ++ [x]) (ys ++ [y])
  | _, _, .nil => .cons h .nil
  | _, _, .cons a r => .cons a (paired_snoc h r)
theorem pdw_put {c : Cf} {k : Key} {v : V} {w : W} (rv : RW G c v w) {xs : List (Key × V)} {ds : List (PyData × W)} (r : PDW G c xs ds) : PDW G c (putK xs k v) (putDW k w ds) := by
  unfold putK putDW
  rw [pdw_any r]
  by_cases e : (xs.any fun kv => decide (kv.1 = k)) = true
  · rw [if_pos e, if_pos e]; exact pdw_map rv r
  · rw [if_neg e, if_neg e]; exact paired_snoc (P := fun (p : Key × V) (q : PyData × W) => q.1 = keyD p.1 ∧ RW G c p.2 q.2) ⟨rfl, rv⟩ r
theorem put_dic {c : Cf} {i : Nat} {a : Addr} {old ws : List (PyData × W)} {us : List (Key × V)} (k : c.ok G) (h : c.μ[i]? = some a) (ho : c.ah[i]? = some (.dic old)) (r : PDW G c us ws) : c.ext (c.put i a (.dK us) (.dic ws)) ∧ (c.put i a (.dK us) (.dic ws)).ok G := by
  have ex := Cf.put_ext (o := .dK us) (ao := .dic ws) k h ho (by intro e; cases e)
  exact ⟨ex, Cf.put_ok k h ho (by intro e; cases e) ⟨us, upd_same, L2.Paired.mapP r fun _ _ q => ⟨q.1, RW.mono ex q.2⟩⟩⟩
def setIxM (o i v : W) : M Unit := fun h => match o with
  | .r j => (match h[j]?, i with
    | some (.lst ws), .d (.int n) => (match ixN ws.length n with
      | some m => .ok () (h.set j (.lst (ws.set m v)))
      | none => .no)
    | some (.dic ws), .d key => (match keyOf key with
      | some kk => if ws.length < sizeLine then .ok () (h.set j (.dic (putDW kk v ws))) else .no
      | none => .no)
    | _, _ => .no)
  | _ => .no
theorem paired_set {α β : Type} {P : α → β → Prop} {x : α} {y : β} (h : P x y) : ∀ {xs : List α} {ys : List β} (n : Nat), Paired P xs ys → Paired P (xs.set n x) (ys.set n y)
  | _, _, _, .nil => .nil
  | _, _, 0, .cons _ r => .cons h r
  | _, _, n + 1, .cons a r => .cons a (paired_set h n r)
theorem set_dict {X : Cx} (hu : X.A.units + 1 < cLine) : PSet X (fun o i v H Q => ∃ p H', o = .ref p ∧ DPut H p i v H' ∧ Q H') := by
  intro pins s σ H o i v ov iv u Q I r1 r2 r3 h
  obtain ⟨p, H', rfl, g, q⟩ := h
  cases r1
  exact d_setItem hu I g r2 r3 fun s' I' => ⟨H', I', q⟩
theorem PSet.or {X : Cx} {t t' : TSet} (h : PSet X t) (h' : PSet X t') : PSet X (fun o i v H Q => t o i v H Q ∨ t' o i v H Q) := by
  intro pins s σ H o i v ov iv u Q I r1 r2 r3 q
  rcases q with q | q
  · exact h pins s σ H o i v ov iv u Q I r1 r2 r3 q
  · exact h' pins s σ H o i v ov iv u Q I r1 r2 r3 q
def sIxW (o i v : ME) : MS := fun env => mbind (v env) fun y => mbind (o env) fun x => mbind (i env) fun z => mbind (setIxM x z y) fun _ => mpure (.nx env)
theorem swSole (t v : Expr) (l : Nat) (env : Env) : swapsWithSole [t] v l env = swapsWith v (some t) l env := rfl
theorem ss_ix (hpi : plainIx i = true) (ho : SE T G CM k sc o mo) (hi : SE T G CM k sc i mi) (he : SE T G CM k sc e ma) : SS T G CM k sc (.Assign [.Subscript o i p] e pos) (sIxW mo mi ma) := fun X Ex F hp hs hfr => by
  have hne : ∀ env : Env, swappedStores [.Subscript o i p] e env = pure none := fun env => by cases e <;> rfl
  refine PS.imp (ps_asg (he X _ F) (pg_sub (ho X _ F) (hi X _ F) (Ev.PSet.or set_list (set_dict (hu_of F.room))) (fun v => by cases i <;> first | rfl | cases hpi)) (by rw [swSole]; exact swS _ _ _ _ _ _) (hne _)) fun D σ H ⟨c, env, e, ok, re, q⟩ => ?_
  subst e
  refine tE.step ok re q fun w c1 v e1 ok1 re1 rv q1 => tE.step ok1 re1 q1 fun w2 c2 v2 e2 ok2 re2 rv2 q2 => tE.step ok2 re2 q2 fun w3 c3 v3 e3 ok3 re3 rv3 q3 => ?_
  have q4 := Po.bind q3
  have rv' := RW.mono e3 (RW.mono e2 rv)
  have rv2' := RW.mono e3 rv2
  unfold setIxM at q4
  split at q4
  · rename_i j
    split at q4
    · rename_i ws n ew
      obtain ⟨a, rfl, h1, xs, hx, r2⟩ := rRef ok3 rv2' ew
      split at q4
      · rename_i m hm
        obtain ⟨exP, okP⟩ := put_list ok3 h1 ew (paired_set (P := RW G c3) rv' m r2)
        refine .inl ⟨a, xs, n, m, rfl, rInt rv3, hx, by rw [Paired.length r2]; exact hm, ?_⟩
        exact Po.here (a := Fl.nx env) (q4 _ exP okP rfl) okP σ (re3.mono exP)
      · exact q4.elim
    · rename_i ws key ew
      obtain ⟨a, rfl, h1, xs, hx, r2⟩ := rRef ok3 rv2' ew
      split at q4
      · rename_i kk hk
        split at q4
        · rename_i hz
          obtain ⟨exP, okP⟩ := put_dic ok3 h1 ew (pdw_put (k := kk) rv' r2)
          rw [rKey rv3 hk]
          refine .inr ⟨a, _, rfl, DPut.k hx (by rw [Paired.length r2]; exact hz), ?_⟩
          exact Po.here (a := Fl.nx env) (q4 _ exP okP rfl) okP σ (re3.mono exP)
        · exact q4.elim
      · exact q4.elim
    · exact q4.elim
  · exact q4.elim

/-! ### a, b = e -/
def setAllW : EnvW → List Nat → List W → EnvW
  | env, i :: is, d :: ds => setAllW (env.set i (some d)) is ds
  | env, _, _ => env
theorem gNamesW_ok {c : Cf} : ∀ {is : List Nat} {ws : List W} {xs : List V} {env : EnvW} {σ : L2.St} {Q : L2.St → Hp → Prop}, ws.length = is.length → RWL G c xs ws → EnvR G c env σ →
    (∀ σ2, EnvR G c (setAllW env is ws) σ2 → Q σ2 c.H) → gNames is xs σ c.H Q
  | [], ws, xs, env, σ, Q, hl, r, re, q => by
    cases ws with
    | nil => cases r; exact ⟨rfl, q σ re⟩
    | cons d ds => simp at hl
  | i :: is, ws, xs, env, σ, Q, hl, r, re, q => by
    cases ws with
    | nil => simp at hl
    | cons d ds =>
      cases r with
      | cons r1 r2 =>
        refine ⟨_, _, rfl, ?_⟩
        exact gNamesW_ok (env := env.set i (some d)) (by simpa using hl) r2 (re.set r1) q
/-- the names behind the target: of data, of a tuple or a list that holds objects -/
def tgH (t : Tg) (w : W) (env : EnvW) (h : AH) : Option EnvW := match t, w with
  | .t is, .r i => (match h[i]? with
    | some (.tup ws) => if ws.length = is.length then some (setAllW env is ws) else none
    | some (.lst ws) => if ws.length = is.length then some (setAllW env is ws) else none
    | _ => none)
  | t, w => tgM t w env
def kTg (t : Tg) (env : EnvW) (w : W) : M Fl := fun h => match tgH t w env h with
  | some e => .ok (.nx e) h
  | none => .no
def sTgW (t : Tg) (v : ME) : MS := fun env => mbind (v env) (kTg t env)
def noTup : Expr → Bool
  | .Tuple .. => false
  | _ => true
theorem pg_or {X : Cx} {tg : Expr} {g g' : TG} (h : PG X tg g) (h' : PG X tg g') : PG X tg (fun v σ H Q => g v σ H Q ∨ g' v σ H Q) := ⟨fun pins s σ H v u Q I r q => by
  rcases q with q | q
  · exact h.run pins s σ H v u Q I r q
  · exact h'.run pins s σ H v u Q I r q⟩
/-- a target of names takes a list, too -/
def gTgL (K : PySem.W.Frag) : Tg → TG
  | .n i => gName i
  | .t is => gLst K is.length (gNames is)
theorem pg_tgL {X : Cx} {Wx : WX} (F : Fits T G CM k X sc Wx) {tg : Expr} {t : Tg} (h : tgOf sc tg = some t) : PG X tg (gTgL X.K t) := by
  cases tg with
  | Name x p =>
    cases q : slotS sc x with
    | none => simp only [tgOf, q] at h; cases h
    | some i =>
      simp only [tgOf, q] at h
      cases h
      exact pg_slot F q
  | Tuple es kk p =>
    cases q : nameSlots sc es with
    | none => simp only [tgOf, q] at h; cases h
    | some is =>
      simp only [tgOf, q] at h
      cases h
      obtain ⟨p1, p2, p3⟩ := nameSlots_ok F q
      exact pg_lst F.calm p1 p2 p3
  | _ => cases h
theorem ss_tup {tes : List Expr} {kk : Nat} {t : Tg} (ht : tgOf sc (.Tuple tes kk p) = some t) (he : SE T G CM k sc e ma) (hn : noTup e = true) : SS T G CM k sc (.Assign [.Tuple tes kk p] e pos) (sTgW t ma) := fun X Ex F hp hs hfr => by
  have hne : ∀ env : Env, swappedStores [.Tuple tes kk p] e env = pure none := fun env => by
    cases e <;> first | rfl | cases hn
  refine PS.imp (ps_asg (he X _ F) (pg_or (pg_tg F ht) (pg_tgL F ht)) (by rw [swSole]; exact swT _ _ _ _ _ _) (hne _)) fun D σ H ⟨c, env, e, ok, re, q⟩ => ?_
  subst e
  refine tE.step ok re q fun w c1 v e1 ok1 re1 rv q1 => ?_
  unfold kTg at q1
  cases hm : tgH t w env c1.ah with
  | none =>
    simp only [hm] at q1
    exact q1.elim
  | some env1 =>
    simp only [hm] at q1
    unfold tgH at hm
    split at hm
    · rename_i is
      split at hm
      · rename_i ws hw
        split at hm
        · rename_i hl
          cases hm
          obtain ⟨a, rfl, h1, xs, hx, rx⟩ := rRef ok1 rv hw
          exact .inl ⟨a, xs, rfl, .inl (.inl hx), by rw [Paired.length rx]; exact hl, gNamesW_ok (env := env) hl rx re1 fun σ2 re2 => Po.here (a := Fl.nx (setAllW env _ ws)) q1 ok1 σ2 re2⟩
        · cases hm
      · rename_i ws hw
        split at hm
        · rename_i hl
          cases hm
          obtain ⟨a, rfl, h1, xs, hx, rx⟩ := rRef ok1 rv hw
          exact .inr ⟨a, xs, rfl, .inl (.inl hx), by rw [Paired.length rx]; exact hl, gNamesW_ok (env := env) hl rx re1 fun σ2 re2 => Po.here (a := Fl.nx (setAllW env _ ws)) q1 ok1 σ2 re2⟩
        · cases hm
      · cases hm
    · exact .inl <| gTg_ok (c := c1) F.K (vs := t.slots) hm re1 rv (fun _ h => h) fun σ2 re2 _ => Po.here (a := Fl.nx env1) q1 ok1 σ2 re2
/-- a, b = x, y -/
def sPar (i j : Nat) (a b : ME) : MS := fun env => mbind (a env) fun x => mbind (b env) fun y => mpure (.nx ((env.set i (some x)).set j (some y)))
theorem aCons2 (env : EnvW) : aCons ma (aCons mb aNil) env = mbind (ma env) fun x => mbind (mb env) fun y => mpure [x, y] := by
  funext h
  simp only [aCons, aNil, mbind, mpure]
  cases ma env h with
  | ok w h1 =>
    simp only
    cases mb env h1 <;> rfl
  | ex e h1 => rfl
  | no => rfl
theorem po_two {α β : Type} {m1 m2 : M W} {f : W → W → α} {g : W → W → β} {c : Cf} {F : α → Cf → Prop} {F' : β → Cf → Prop} {E : Str → Cf → Prop} (h : Po G (mbind m1 (fun x => mbind m2 fun y => mpure (f x y)) c.ah) c F E) (hf : ∀ x y c', c.ext c' → c'.ok G → F (f x y) c' → F' (g x y) c') : Po G (mbind m1 (fun x => mbind m2 fun y => mpure (g x y)) c.ah) c F' E := by
  unfold mbind at h ⊢
  cases q1 : m1 c.ah with
  | no => rw [q1] at h; exact h
  | ex e h1 => rw [q1] at h; exact h
  | ok w h1 =>
    rw [q1] at h
    simp only at h ⊢
    cases q2 : m2 h1 with
    | no => rw [q2] at h; exact h
    | ex e h2 => rw [q2] at h; exact h
    | ok w2 h2 =>
      rw [q2] at h
      exact fun c' ex ok e => hf w w2 c' ex ok (h c' ex ok e)
theorem ss_par {x y : Str} {i j : Nat} {px py pt pt2 : Pos} {kt k2 : Nat} (hk : sc.scope.kind = .function) (hx : sc.scope.names.lookup x = some .local) (hy : sc.scope.names.lookup y = some .local) (hi : sc.N.idxOf? x = some i) (hj : sc.N.idxOf? y = some j) (hij : i ≠ j)
    (ha : SE T G CM k sc a ma) (hb : SE T G CM k sc b mb) (hsa : noStar a = true) (hsb : noStar b = true) (hw : ∀ env : Env, env.scope = sc.scope → swappedStores [.Tuple [.Name x px, .Name y py] kt pt] (.Tuple [a, b] k2 pt2) env = pure (some [x, y])) :
    SS T G CM k sc (.Assign [.Tuple [.Name x px, .Name y py] kt pt] (.Tuple [a, b] k2 pt2) pos) (sPar i j ma mb) := fun X Ex F hp hs hfr => by
  have hA : PA X [a, b] (tA G _ (aCons ma (aCons mb aNil))) := sa_cons ha (sa_cons hb sa_nil hsb) hsa X _ F
  refine PS.imp (ps_par (i := i) (j := j) F.calm F.ndN (by rw [F.N]; exact idx_at hi) (by rw [F.N]; exact idx_at hj) hij (by rw [F.scope]; exact hx) (by rw [F.scope]; exact hy) hA (hw X.env F.scope) (by rw [swSole]; exact swT _ _ _ _ _ _)) fun D σ H ⟨c, env, e, ok, re, q⟩ => ?_
  subst e
  refine ⟨c, env, rfl, ok, re, ?_⟩
  rw [aCons2]
  refine po_two q fun w1 w2 c' ex' ok' q2 vs rvs => ?_
  obtain ⟨v, v', rfl, r1, r2⟩ := rwl2 rvs
  exact ⟨v, v', rfl, q2 _ (((re.mono ex').set r1).set r2)⟩

/-! ### x += e -/
def iopM (a b : W) : M W := fun h => match a, b with
  | .d (.int i), .d (.int j) => .ok (wI (i + j)) h
  | .d (.str x), .d (.str y) => if x.length + y.length ≤ sizeLine then .ok (wS (x ++ y)) h else .no
  | _, _ => .no
theorem iop_ok {X : Cx} : ∃ r, OpR X (inplaceOp .Add) r ∧ Op2 G iopM r := by
  refine ⟨_, iop_add.or iop_add_str, fun c x y a b Q E k rx ry h => ?_⟩
  unfold iopM at h
  split at h
  · rename_i i j
    rw [rInt rx, rInt ry]
    exact .inl ⟨i, j, rfl, rfl, h.here k _ (.int _)⟩
  · rename_i i j
    rw [rStr rx, rStr ry]
    split at h
    · rename_i hz
      exact .inr ⟨i, j, rfl, rfl, hz, h.here k _ (.str _)⟩
    · exact h.elim
  · exact h.elim
def sAug (i : Nat) (a : ME) : MS := fun env => mbind (mVar i env) fun x => mbind (a env) fun y => mbind (iopM x y) fun z => mpure (.nx (env.set i (some z)))
theorem ss_aug {i : Nat} (hx : slotS sc x = some i) (he : SE T G CM k sc e ma) : SS T G CM k sc (.AugAssign (.Name x p) .Add e pos) (sAug i ma) := fun X Ex F hp hs hfr => by
  obtain ⟨h1, h2, h3⟩ := slotS_ok F hx
  obtain ⟨r, g1, g2⟩ := iop_ok (X := X) (G := G)
  refine PS.imp (ps_aug (ti := r) F.ndN h1 h2 (he X _ F) g1 h3) fun D σ H ⟨c, env, e, ok, re, q⟩ => ?_
  subst e
  have q1 := Po.bind q
  unfold mVar at q1
  split at q1
  · rename_i w hw
    obtain ⟨v, hv, rv⟩ := re.2 i w hw
    refine ⟨v, hv, tE.step ok re (Po.here (a := w) q1 ok) fun w2 c1 v2 e1 ok1 re1 rv2 q2 => ?_⟩
    refine g2 c1 v v2 w w2 _ _ ok1 (RW.mono e1 rv) rv2 (Po.mono (Po.bind q2) (fun z c3 e3 ok3 q3 v3 rv3 => ?_) fun _ _ _ _ q => q)
    exact Po.here (a := Fl.nx (env.set i (some z))) q3 ok3 _ ((re1.mono e3).set rv3)
  · exact q1.elim
def fldC (f : Str) (w : W) : M (Str × W) := fun h => match w with
  | .r i => (match h[i]? with
    | some (.ins c fs) => (match fs.lookup f with
      | some v => .ok (c, v) h
      | none => .no)
    | _ => .no)
  | _ => .no
def setFldC (cn f : Str) (o v : W) : M Unit := fun h => match o with
  | .r i => (match h[i]? with
    | some (.ins c fs) => if c = cn ∧ fs.length < 1000 then .ok () (h.set i (.ins c (putW f v fs))) else .no
    | _ => .no)
  | _ => .no
def sFldAugW (f : Str) (o v : ME) : MS := fun env => mbind (o env) fun x => mbind (fldC f x) fun cu => mbind (v env) fun y => mbind (iopM cu.2 y) fun z => mbind (setFldC cu.1 f x z) fun _ => mpure (.nx env)
theorem ss_fldaug (hf : f ∈ T.flds) (ho : SE T G CM k sc o mo) (he : SE T G CM k sc e ma) : SS T G CM k sc (.AugAssign (.Attribute o f p) .Add e pos) (sFldAugW f mo ma) := fun X Ex F hp hs hfr => by
  obtain ⟨r, g1, g2⟩ := iop_ok (X := X) (G := G)
  refine PS.imp (ps_fldaug (rd := r) (ho X _ F) (he X _ F) g1) fun D σ H ⟨c, env, e, ok, re, q⟩ => ?_
  subst e
  refine tE.step ok re q fun w c1 v e1 ok1 re1 rv q1 => ?_
  have q2 := Po.bind q1
  unfold fldC at q2
  split at q2
  · rename_i i
    split at q2
    · rename_i cn fs e2
      split at q2
      · rename_i w2 e3
        obtain ⟨a, rfl, h1, C, dx, xs, hx, hC, r2⟩ := rRef ok1 rv e2
        have q3 := fs_look (f := f) r2
        rw [e3] at q3
        cases e4 : xs.lookup f with
        | none => rw [e4] at q3; exact q3.elim
        | some v2 =>
          rw [e4] at q3
          obtain ⟨hc, hn⟩ := F.top.own cn C hC
          refine ⟨a, C, dx, xs, v2, rfl, hx, hc, hn f hf, e4, tE.step ok1 re1 (Po.here (a := (cn, w2)) q2 ok1) fun w3 c3 v3 e5 ok3 re3 rv3 q5 => ?_⟩
          refine g2 c3 v2 v3 w2 w3 _ _ ok3 (RW.mono e5 q3) rv3 (Po.mono (Po.bind q5) (fun z c4 e6 ok4 q6 v4 rv4 => ?_) fun _ _ _ _ q => q)
          have q8 := Po.bind q6
          unfold setFldC at q8
          simp only at q8
          split at q8
          · rename_i cn2 fs2 e9
            split at q8
            · rename_i hz
              obtain ⟨rfl, hz⟩ := hz
              have hi4 := e6.pre i a (e5.pre i a h1)
              obtain ⟨C2, dx2, xs2, hx2, hC2, r4⟩ := ok4.obj i a _ hi4 e9
              rw [hC] at hC2
              cases hC2
              obtain ⟨ex, okP⟩ := put_ins (dx := dx2) ok4 hi4 e9 hC (putF_rel (f := f) rv4 r4)
              exact ⟨dx2, xs2, hx2, by rw [Paired.length r4]; exact hz, Po.here (a := Fl.nx env) (q8 _ ex okP rfl) okP σ ((re3.mono e6).mono ex)⟩
            · exact q8.elim
          · exact q8.elim
      · exact q2.elim
    · exact q2.elim
  · exact q2.elim
end
end Ev
set_option Elab.async false
set_option linter.all false
set_option maxRecDepth 100000
set_option maxHeartbeats 4000000
/-! E14: try .. except X as n whose exception is kept; isinstance of a kept exception. -/
namespace Ev
open PySem PySem.Spec PyProof.Rows L2

/-- an exception's object, pinned, is tracked from here on -/
theorem track {X : Cx} {pins : List (Addr × Obj)} {σ : L2.St} {H : Hp} {s : Shared} {a C : Addr} {oe : Obj} {vs : Array Value} (I : Inv X ((a, oe) :: pins) σ H s) (hc : oe.cls = .ref C) (hd : oe.dict = none) (hv : oe.data = .fields vs)
    (new : X.s_0.heap.get? a = none) (np : ∀ q ∈ X.pn ++ pins, q.1 ≠ a) : Inv X pins σ (upd H a (.ext (ExO a C))) s := by
  obtain ⟨hget, hnone, hloc, hfs, hcell⟩ := I.pin (a, oe) (List.mem_append_right _ List.mem_cons_self)
  have ne : ∀ {b : Addr} {u : HO}, H b = some u → b ≠ a := fun {b u} e z => by
    rw [z] at e
    exact absurd (e.symm.trans hnone) (by simp)
  have kp : ∀ {b : Addr} {u : HO}, H b = some u → upd H a (.ext (ExO a C)) b = some u := fun {b u} e => by rw [upd_ne (ne e)]; exact e
  have B := I.base
  refine ⟨I.ok, I.os, I.bare, ⟨B.keep, B.slot, fun b o h1 h2 h3 => ?_, B.there, fun b xs q => kp (B.tups b xs q), fun b o u q => kp (B.frzs b o u q), fun b ps q => ?_⟩, I.loc, I.cell, ?_, fun y c e => ?_, fun p hp => ?_, fun b u e => ?_, I.len⟩
  · have nb : b ≠ a := fun z => by rw [z, new] at h1; cases h1
    rw [upd_ne nb]
    exact B.free b o h1 h2 h3
  · obtain ⟨m, q1⟩ := B.tbls b ps q
    exact ⟨m, kp q1⟩
  · rw [upd_ne (Ne.symm hloc)]
    exact I.free
  · have nb : c ≠ a := fun z => by
      obtain ⟨w, ob, q1, q2⟩ := I.cell y c e
      rw [z, hget] at q1
      cases q1
      exact hcell w q2
    rw [upd_ne nb]
    exact I.freeC y c e
  · have hp2 : p ∈ X.pn ++ (a, oe) :: pins := by
      rcases List.mem_append.mp hp with z | z
      · exact List.mem_append_left _ z
      · exact List.mem_append_right _ (List.mem_cons_of_mem _ z)
    obtain ⟨g1, g2, g3⟩ := I.pin p hp2
    exact ⟨g1, by rw [upd_ne (np p hp)]; exact g2, g3⟩
  · by_cases z : b = a
    · subst z
      rw [upd_same] at e
      cases e
      refine ⟨⟨oe, vs, hget, hc, hd, hv⟩, ⟨oe, hget⟩, fun h1 h2 ⟨o, w, q1, q2⟩ q3 => ⟨o, w, q3 o q1, q2⟩⟩
    · rw [upd_ne z] at e
      exact (I.hok b u e).stay (fun _ _ _ q => q) (fun _ q => kp q) fun _ _ q => kp q

/-- what the clause wishes of an exception of the body: its object is tracked behind the suite -/
def wKeep (K : PySem.W.Frag) (c : Value) (i : Nat) (ts : Addr → Value → Option Addr → TS) (Wout : WX) (D : Ends) : WX := fun cls d σ H =>
  ∃ b, PySem.W.exmOne K cls c = some b ∧ (b = true → d = none ∧ ∃ C, cls = .ref C ∧ ∀ a, H a = none → ts a cls d ⟨fun σ' H' => D.nx (σ'.set i none) (upd H' a (.ext (ExO a C))), fun _ _ => False, fun _ _ => False, fun _ _ => False⟩ (σ.set i (some (.ref a))) H) ∧ (b = false → Wout cls d σ H)

section
variable {X : Cx} {x n : Str} {c : Value} {i : Nat} {body suite : List Stmt} {b₀ : Stmt} {np pos pos' : Pos} {tb : WX → TS} {ts : Addr → Value → Option Addr → TS} {Wout : WX}
theorem ps_try_keep (stk : X.stack = X.env :: X.outer) (fr : X.env.frame = some X.env.locals) (hex : X.ex = []) (nd : X.N.Nodup) (ni : X.N[i]? = some n) (nl : X.env.kindOf n = some .local) (cn : Names X x c) (tk : Takes X Wout)
    (hB : ∀ (W : WX) (pn : List (Addr × Obj)) (xe : Value → Shared → Prop), Takes (X.tr pn xe) W → PassesOwn (model X.prog X.w) X.A X.env xe → PSs (X.tr pn xe) body (tb W))
    (hS : ∀ (a : Addr) (oe : Obj) (cls : Value) (d : Option Addr) (pn : List (Addr × Obj)), Zc cls d oe → (∃ vs, oe.data = .fields vs) → PSs (X.suite a ((a, oe) :: pn)) (b₀ :: suite) (ts a cls d)) :
    PS X (.Try body [.ExceptHandler (some (.Name x np)) (some n) (b₀ :: suite) pos'] [] [] pos) (fun D σ H => tb (wKeep X.K c i ts Wout D) D σ H) := by
  refine ⟨fun pins s σ H D I0 rd => ?_⟩
  have okX := I0.ok
  have frs0 : X.A.frames = some (X.env :: X.outer) := by rw [okX.frames, stk]
  refine wpAny_Try_except ?_
  have run := (hB (wKeep X.K c i ts Wout D) (X.pn ++ pins) (fun e s₁ => wpAny (model X.prog X.w) X.A (noteFrame e X.env) (fun _ s₂ => wpAny (model X.prog X.w) X.A (setFlight e none) (fun _ s₃ =>
      wpAny (model X.prog X.w) X.A (handleBy e X.env [.ExceptHandler (some (.Name x np)) (some n) (b₀ :: suite) pos']) (SP X pins D) X.xe s₃) X.xe s₂) X.xe s₁)
    (fun u sx air => ?caught) PassesOwn.looking).run [] s σ H D (I0.toTry _) rd
  case caught =>
    obtain ⟨a, B, sI, pp, σ1, H1, cls, d, eu, J1, inB, up, sky, na, eos, gen, b, hb, yes, no⟩ := air
    subst eu
    have J : Inv X pins σ1 H1 sI := J1.ofTry okX
    rw [show (X.tr (X.pn ++ pins) _).stack = X.env :: X.outer from stk] at sky
    show wpAny (model X.prog X.w) X.A (noteFrame (.ref a) X.env) _ _ _
    refine Sky.land Zc.steady frs0 fr sky fun h3 fly up3 => ?_
    have J3 : Inv X pins σ1 H1 { sx with heap := h3 } := J.landed inB fly.1 (up.trans up3) eos gen
    obtain ⟨o3, v3, g3, z3, d3⟩ := fly.there
    have out : a ∉ frs (X.env :: X.outer) := fun hm => by
      obtain ⟨_, o', e', nf⟩ := fly.2.2.1.mem hm
      rw [g3] at e'
      cases e'
      exact nf _ d3
    have aL : a ≠ X.env.locals := fun z => out (List.mem_filterMap.mpr ⟨X.env, List.mem_cons_self, by rw [fr, z]⟩)
    have aF : a ∉ X.fs := fun hm => by
      obtain ⟨e, he, q⟩ := List.mem_filterMap.mp hm
      exact out (List.mem_filterMap.mpr ⟨e, List.mem_cons_of_mem _ he, q⟩)
    -- it is younger than what stood ahead of it
    have anew : sI.heap.get? a = none := by
      cases q : sI.heap.get? a with
      | none => rfl
      | some o =>
        have z := inB a o q (by rw [show (X.tr (X.pn ++ pins) _).stack = X.env :: X.outer from stk]; exact out)
        rw [fly.2.1] at z
        cases z
    have a0 : X.s_0.heap.get? a = none := by
      cases q : X.s_0.heap.get? a with
      | none => rfl
      | some o =>
        have nex : a ∉ X.ex := by rw [hex]; simp
        obtain ⟨o', e'⟩ := J.base.there a o q nex
        rw [anew] at e'
        cases e'
    have apin : ∀ q ∈ X.pn ++ pins, q.1 ≠ a := fun q hq z => by
      have := (J.pin q hq).1
      rw [z, anew] at this
      cases this
    have S3 := J3.suite g3 d3 na aL aF
    refine wpAny_handleBy_cons (codeAny_handlers_test ?_) (by intro q; cases q)
    have ty : PySem.W.Looks (model X.prog X.w) h3 (typeOf (.ref a)) cls := fun A Q E s k q => wpAny_typeOf_ref (k _ _ g3) (by rw [z3.1]; exact q)
    have look := PySem.W.exm_one (M := model X.prog X.w) (J3.kIn) ty hb
    have clause : ∀ {Q : Value → Shared → Prop} {E : Value → Shared → Prop}, Q c { sx with heap := h3 } → wpAny (model X.prog X.w) (X.A.mark (some (.ref a))) (eval (.Name x np) X.env) Q E { sx with heap := h3 } := fun {Q E} q => by
      obtain ⟨k1, k2, k3 | ⟨k3, k4, k5⟩⟩ := cn
      · exact ld_glob (X := X.suite a ((a, o3) :: (X.pn ++ pins))) S3 k1 k3 q k2
      · exact ld_blt (X := X.suite a ((a, o3) :: (X.pn ++ pins))) S3 k1 k3 k4 q k5 k2
    refine clause (look.here ?_)
    cases b with
    | true =>
      obtain ⟨ed, C, ec, yes⟩ := yes rfl
      subst ed ec
      refine codeAny_handlers_suite_as (HandSPX.lands_againZ fly fun h4 fly4 up4 => ?_)
      have J4 : Inv X pins σ1 H1 { sx with heap := h4 } := J.landed inB fly4.1 ((up.trans up3).trans up4) eos gen
      obtain ⟨o4, v4, g4, z4, d4⟩ := fly4.there
      have S4 := J4.suite g4 d4 na aL aF
      refine store_ok (X := X.suite a ((a, o4) :: (X.pn ++ pins))) (v := .ref a) S4 nd ni (.inl nl) rfl (fun s5 S5 => ?_) (.inr nl)
      refine wpAny_mono ((hS a o4 (.ref C) none (X.pn ++ pins) z4 ⟨_, d4⟩).run [] s5 _ H1 _ S5 (yes a na)) (fun fl s6 out6 => ?_) (fun _ _ z => False.elim z)
      cases fl with
      | next =>
        obtain ⟨σ6, H6, S6, q6⟩ := out6
        have P6 : Inv X ((a, o4) :: pins) σ6 H6 s6 := ⟨okX, S6.os, S6.bare, S6.base, S6.loc, S6.cell, S6.free, S6.freeC, fun p hp => S6.pin p (by
          rw [List.append_nil]
          rcases List.mem_append.mp hp with z | z
          · exact List.mem_cons_of_mem _ (List.mem_append_left _ z)
          · rcases List.mem_cons.mp z with z | z
            · rw [z]; exact List.mem_cons_self
            · exact List.mem_cons_of_mem _ (List.mem_append_right _ z)), S6.hok, S6.len⟩
        exact gone_ok P6 nd ni nl fun s7 P7 => ⟨_, _, track P7 z4.1 z4.2 d4 a0 apin, q6⟩
      | brk => obtain ⟨_, _, _, q6⟩ := out6; exact q6.elim
      | cont => obtain ⟨_, _, _, q6⟩ := out6; exact q6.elim
      | ret u => obtain ⟨_, _, _, _, _, q6⟩ := out6; exact q6.elim
    | false =>
      show wpAny _ X.A (handleBy (.ref a) X.env []) _ _ _
      refine wpAny_handleBy_nil ?_
      obtain ⟨k1, k2, k3, oe, vs, Tb, oT, ts', g, z, dd, f1, more⟩ := id fly
      unfold PySem.passOn
      refine wpAny_bind (wpAny_field g dd f1 ?_)
      rw [if_neg (show ¬ ((Value.ref Tb == Value.none) = true) from by simp)]
      have on : wpAny (model X.prog X.w) X.A (setFlight (.ref a) X.env.frame) (fun _ s4 => wpAny (model X.prog X.w) X.A (throw (.ref a) : Sem Flow) (SP X pins D) X.xe s4) X.xe { sx with heap := h3 } := by
        rw [fr]
        refine HandSPX.setFlight_upZ fly fun h4 held up4 => wpAny_throw (tk _ _ ?_)
        exact ⟨a, B, sI, pins, σ1, H1, cls, d, rfl, J, inB, (up.trans up3).trans up4, .inr (.inr (by rw [stk]; exact held)), na, eos, gen, no rfl⟩
      first
        | exact wpAny_bind (wpAny_pure (wpAny_bind on))
        | exact wpAny_bind on
  refine wpAny_mono run (fun fl s1 out1 => ?_) (fun e s1 he => he)
  cases fl with
  | next => obtain ⟨σ', H', J', q⟩ := out1; exact wpAny_execs_nil ⟨σ', H', J'.ofTry okX, q⟩
  | brk => obtain ⟨σ', H', J', q⟩ := out1; exact ⟨σ', H', J'.ofTry okX, q⟩
  | cont => obtain ⟨σ', H', J', q⟩ := out1; exact ⟨σ', H', J'.ofTry okX, q⟩
  | ret u => obtain ⟨v, σ', H', J', r, q⟩ := out1; exact ⟨v, σ', H', J'.ofTry okX, r, q⟩
end

/-! ### found = e, and the exception kept -/
/-- try: found = e  except x as n: kept = n -/
def sTry (cat : Str → Bool) (i j n : Nat) (a : ME) : MS := fun env h => match a env h with
  | .ok w h' => .ok (.nx (env.set i (some w))) h'
  | .ex c h' => if cat c then (if n < env.length then .ok (.nx (((env.set n none).set j (some (.ex c))).set n none)) h' else .no) else .ex c h'
  | .no => .no
section
variable {T : Tb} {G : GA} {CM : FId → List W → M W} {k : Nat} {sc : Sc} {e : Expr} {ma : ME} {pos p1 p2 p3 p4 p5 np pos' : Pos} {x n f g : Str} {i j m : Nat}
theorem Fits.tr {X : Cx} {Wx : WX} (F : Fits T G CM k X sc Wx) {W : WX} {pn : List (Addr × Obj)} {xe : Value → Shared → Prop} (tk : Takes (X.tr pn xe) W) : Fits T G CM k (X.tr pn xe) sc W :=
  ⟨F.N, F.nd, F.scope, F.K, F.own, F.calm, F.room, tk, ⟨F.top.fn, F.top.def_, F.top.con, F.top.free, fun x hx => F.top.exc x hx, F.top.cls, F.top.own, F.top.meth, F.top.isx, F.top.catch_⟩⟩
theorem ss_try (hf : slotS sc f = some i) (hg : slotS sc g = some j) (hn : sc.scope.names.lookup n = some .local) (hn2 : sc.N.idxOf? n = some m) (hnd : (n == ("__debug__" : Str)) = false) (hnc : (n == ("__classdict__" : Str)) = false) (hgl : isGlob sc x = true) (hx : x ∈ T.excs) (he : SE T G CM k sc e ma) (hc : noComp e = true) (hmj : m ≠ j) :
    SS T G CM k sc (.Try [.Assign [.Name f p1] e p2] [.ExceptHandler (some (.Name x np)) (some n) [.Assign [.Name g p3] (.Name n p4) p5] pos'] [] [] pos) (sTry (fun c => T.catches c x) i j m ma) := fun X Ex F hp hs hfr => by
  obtain ⟨Ca, h1, h2, h3, h4, h5⟩ := F.top.exc x hx
  obtain ⟨f1, f2, f3⟩ := slotS_ok F hf
  obtain ⟨g1, g2, g3⟩ := slotS_ok F hg
  have nN : X.N[m]? = some n := by rw [F.N]; exact idx_at hn2
  have nK : X.env.scope.names.lookup n = some .local := by rw [F.scope]; exact hn
  refine PS.imp (ps_try_keep (i := m) (ts := fun _ _ _ => tAsg (tVar m) (gName j)) (tb := fun W => tAsg (tE G W ma) (gName i)) hs hfr.1 hfr.2 F.ndN nN nK ⟨F.gl hgl, (glob_ok hgl).2.1, .inl h2⟩ F.takes
    (fun W pn xe tk _ => pss_one (ps_set (X := X.tr pn xe) F.ndN f1 f2 (he _ W (F.tr tk)) (noComp_ok hc _ _ _) f3))
    (fun a oe cls d pn _ _ => pss_one (ps_set (X := X.suite a ((a, oe) :: pn)) F.ndN g1 g2 (pe_var nN (.inl nK) hnd hnc) rfl g3))) fun D σ H ⟨c, env, e0, ok, re, q⟩ => ?_
  subst e0
  refine ⟨c, env, rfl, ok, re, ?_⟩
  unfold sTry at q
  cases r : ma env c.ah with
  | no => rw [r] at q; exact q.elim
  | ok w h' =>
    rw [r] at q
    exact fun c' ex ok' e' v rv => q c' ex ok' e' _ ((re.mono ex).set rv)
  | ex cc h' =>
    rw [r] at q
    intro c' ex ok' e' C hC
    obtain ⟨b, hb, hb2⟩ := F.top.catch_ cc C x Ca hC h1 hx
    refine ⟨b, by rw [F.K] at hb ⊢; exact hb, fun hbt => ⟨rfl, C, rfl, fun a ha => ?_⟩, fun hbf => ?_⟩
    · subst hbt
      simp only [← hb2, if_true] at q
      by_cases ml0 : m < env.length
      · rw [if_pos ml0] at q
        have ex2 := Cf.lay_ext (c := c') (o := .ext (ExO a C)) ha
        have ok2 := Cf.lay_ok (o := .ext (ExO a C)) ok' ha
        have ml : m < σ.length := by rw [← re.1]; exact ml0
        refine ⟨.ref a, List.getElem?_set_self ml, ?_⟩
        have r2 : RW G (c'.lay a (.ext (ExO a C))) (.ref a) (.ex cc) := ⟨a, C, rfl, hC, Cf.lay_live ok' ha, upd_same⟩
        have re2 := (((re.mono ex).mono ex2).unset (i := m) (s := some (.ref a))).set (i := j) r2
        exact q (c'.lay a (.ext (ExO a C))) (ex.trans ex2) ok2 e' _ (re2.unset (s := none))
      · rw [if_neg ml0] at q
        exact q.elim
    · subst hbf
      simp only [← hb2, Bool.false_eq_true, if_false] at q
      exact q c' ex ok' e' C hC

/-! ### isinstance(kept, X) -/
def isxM (T : Tb) (x : Str) (w : W) : M W := fun h => match w with
  | .ex c => .ok (wB (T.catches c x)) h
  | _ => .no
def eIsx (T : Tb) (a : ME) (x : Str) : ME := fun env => mbind (a env) (isxM T x)
theorem call_isX {X : Cx} : CallR X (.builtin "isinstance") (fun xs H Q => ∃ (a C : Addr) (c : V) (u : Value) (b : Bool), xs = [.ref a, c] ∧ H a = some (.ext (ExO a C)) ∧ ExcC X.K C ∧ ClsV c u ∧ PySem.W.kitOne X.K (.ref C) u = some b ∧ Q (.bl b) H) := by
  intro pins s σ H xs us Q I r h
  obtain ⟨a, C, cv, u, b, rfl, hH, ec, kc, kb, q⟩ := h
  obtain ⟨u1, u2, rfl, r1, r2⟩ := vals2 r
  cases r1
  have e2 := kc.eq r2
  subst e2
  obtain ⟨⟨oe, vs, g1, g2, g3, g4⟩, _⟩ := I.hok a _ hH
  have J : PySem.W.InstAt s.heap a oe C none := by
    obtain ⟨oc, od, oda, osl⟩ := oe
    dsimp only at g2 g3 g4
    subst g2 g3 g4
    exact ⟨g1, rfl, rfl, trivial⟩
  exact PySem.W.kia_one (PySem.W.handS_kitx_exc ec.hg ec.hk ec.hs ec.hd ec.ha ec.hn ec.ht ec.hm) I.kIn J kb (fun z => nomatch z) fun tk => ⟨.bl b, H, I.tok tk, rfl, q⟩
theorem se_isx (hg : isGlob sc "isinstance" = true) (hf : ("isinstance" : Str) ∈ T.free) (hg2 : isGlob sc x = true) (hx : x ∈ T.xt) (ha : SE T G CM k sc e ma) (hs : noStar e = true) : SE T G CM k sc (.Call (.Name "isinstance" pos') [e, .Name x p2] [] pos) (eIsx T ma x) := fun X Wx F => by
  obtain ⟨v, u, hmg, kc, rv, hall⟩ := F.top.isx x hx
  have hN : PE X (.Name x p2) (tC v) := by
    rcases hmg with h | ⟨h, hb⟩
    · exact pe_glob (F.gl hg2) h rv (glob_ok hg2).2.1
    · exact pe_bltn (F.gl hg2) h hb rv (glob_ok hg2).2.2 (glob_ok hg2).2.1
  have hA : PA X [e, .Name x p2] (tCons (tE G Wx ma) (tCons (tC v) tNil)) := pa_cons (ha X Wx F) (pa_cons hN pa_nil) (noStar_each hs _ _)
  refine PE.imp (pe_callB call_isX (F.gl hg) (F.top.free _ hf) boot_isinstance hA (glob_ok hg).2.2 (glob_ok hg).2.1 (noStar_each hs _ _)) fun σ H Q ⟨c, env, e0, ok, re, q⟩ => ?_
  subst e0
  refine tE.step ok re q fun w c1 vv e1 ok1 re1 rvv q1 => ?_
  unfold isxM at q1
  split at q1
  · rename_i cc
    obtain ⟨a, C, rfl, hC, _, hH⟩ := rvv
    obtain ⟨ec, kb⟩ := hall cc C hC
    exact ⟨a, C, v, u, _, rfl, hH, ec, kc, kb, q1.here ok1 _ (.bl _)⟩
  · exact q1.elim
end
end Ev
set_option Elab.async false
set_option linter.all false
set_option maxRecDepth 100000
set_option maxHeartbeats 2000000
/-! E14b: {} -/
namespace Ev
open PySem PySem.Spec PyProof.Rows L2
section
variable {T : Tb} {G : GA} {CM : FId → List W → M W} {k : Nat} {sc : Sc} {c : Cf}
theorem new_dic {p : Addr} {Q : VK} {E : Str → Cf → Prop} (k : c.ok G) (hp : c.H p = none) (h : Po G (.ok (W.r c.ah.length) (c.ah ++ [.dic []])) c (VQ G Q) E) : Q (.ref p) (upd c.H p (.dK [])) := by
  have ex := Cf.new_ext (o := .dK []) (ao := .dic []) k hp
  have ok : (c.new p (.dK []) (.dic [])).ok G := Cf.new_ok k hp ⟨[], upd_same, .nil⟩
  refine Po.at (c' := c.new p (.dK []) (.dic [])) h ex ok (.ref p) ⟨p, rfl, ?_⟩
  show (c.μ ++ [p])[c.ah.length]? = some p
  rw [← k.len]; simp
def eDict0 : ME := fun _ h => .ok (.r h.length) (h ++ [.dic []])
theorem se_dict0 {pos : Pos} : SE T G CM k sc (.Dict [] [] pos) eDict0 := fun X Wx F => by
  refine PE.imp pe_dnewK fun σ H Q ⟨c, env, e, ok, re, q⟩ => ?_
  subst e
  exact fun p hp => new_dic ok hp q
/-! ### d.get(k, x) -/
def isDic (h : AH) : W → Bool
  | .d (.dict _) => true
  | .r i => (match h[i]? with
    | some (.dic _) => true
    | _ => false)
  | _ => false
theorem isDic_ok {c : Cf} {w : W} {v : V} (ok : c.ok G) (h : isDic c.ah w = true) (rv : RW G c v w) : ∃ a, v = .ref a ∧ IsD c.H a := by
  unfold isDic at h
  split at h
  · rename_i ds
    cases (show Rp G.K c v (.dict ds) from rv) with
    | dic l1 h1 r1 => exact ⟨_, rfl, .inl ⟨_, h1⟩⟩
  · split at h
    · rename_i ds e
      obtain ⟨a, rfl, h1, xs, hx, rx⟩ := rRef ok rv e
      exact ⟨a, rfl, .inl ⟨xs, .inl hx⟩⟩
    · cases h
  · cases h
def getM (x y z : W) : M W := fun h => match y with
  | .d key => (match (keyOf key).bind (dictAt h x) with
    | some (some d) => .ok d h
    | some none => .ok z h
    | none => .no)
  | _ => .no
def eGet (a b d : ME) : ME := fun env => mbind (a env) fun x => fun h => if isDic h x then mbind (b env) (fun y => mbind (d env) fun z => getM x y z) h else .no
theorem se_get {o e f : Expr} {apos cpos : Pos} {ma mb_ mf : ME} (hb : okBase o = true) (hline : (apos.endLine == cpos.line) = true) (ho : SE T G CM k sc o ma) (he : SE T G CM k sc e mb_) (hf : SE T G CM k sc f mf) (s1 : noStar e = true) (s2 : noStar f = true) :
    SE T G CM k sc (.Call (.Attribute o "get" apos) [e, f] [] cpos) (eGet ma mb_ mf) := fun X Wx F => by
  have m : M2 X o "get" apos e f cpos := ⟨okBase_ok hb _ _, by rw [noStar_each s1, noStar_each s2]; rfl, hline, by rw [noStar_each s1, noStar_each s2]; rfl⟩
  refine PE.imp (pe_dget2 (hu_of F.room) (ho X Wx F) (he X Wx F) (hf X Wx F) m) fun σ H Q ⟨c, env, e0, ok, re, q⟩ => ?_
  subst e0
  refine tE.step ok re q fun w c1 v e1 ok1 re1 rv q1 => ?_
  split at q1
  · rename_i hd
    obtain ⟨a, rfl, d⟩ := isDic_ok ok1 hd rv
    refine ⟨a, rfl, d, ?_⟩
    refine tE.step ok1 re1 q1 fun w2 c2 v2 e2 ok2 re2 rv2 q2 => ?_
    refine tE.step ok2 re2 q2 fun w3 c3 v3 e3 ok3 re3 rv3 q3 => ?_
    have rv' : RW G c3 (.ref a) w := RW.mono e3 (RW.mono e2 rv)
    have rv2' := RW.mono e3 rv2
    unfold getM at q3
    split at q3
    · rename_i key
      split at q3
      · rename_i dd hk
        obtain ⟨kk, hk1, hk2⟩ := bind_some_ok hk
        obtain ⟨a', o', h1, h2, h3⟩ := dictAt_ok ok3 hk2 rv'
        cases h1
        rw [rKey rv2' hk1]
        refine ⟨o', h2, ?_⟩
        cases o' with
        | none => exact h3.elim
        | some u => exact q3.here ok3 _ h3
      · rename_i hk
        obtain ⟨kk, hk1, hk2⟩ := bind_some_ok hk
        obtain ⟨a', o', h1, h2, h3⟩ := dictAt_ok ok3 hk2 rv'
        cases h1
        rw [rKey rv2' hk1]
        refine ⟨o', h2, ?_⟩
        cases o' with
        | none => exact q3.here ok3 _ rv3
        | some u => exact h3.elim
      · exact q3.elim
    · exact q3.elim
  · exact q1.elim
end
end Ev
set_option Elab.async false
set_option linter.all false
set_option maxRecDepth 100000
set_option maxHeartbeats 4000000
/-! E14h: try: e  except x: name = number. -/
namespace Ev
open PySem PySem.Spec PyProof.Rows L2
def sTryE (cat : Str → Bool) (j : Nat) (v : Int) (a : ME) : MS := fun env h => match a env h with
  | .ok _ h' => .ok (.nx env) h'
  | .ex c h' => if cat c then .ok (.nx (env.set j (some (.d (.int v))))) h' else .ex c h'
  | .no => .no
section
variable {T : Tb} {G : GA} {CM : FId → List W → M W} {k : Nat} {sc : Sc} {e : Expr} {ma : ME} {pos p1 p3 p5 np pos' p6 : Pos} {x g : Str} {j q0 : Nat} {v : Int}
theorem ss_tryE (hg : slotS sc g = some j) (hgl : isGlob sc x = true) (hx : x ∈ T.excs) (he : SE T G CM k sc e ma) (hc : noComp e = true) :
    SS T G CM k sc (.Try [.Expr e p1] [.ExceptHandler (some (.Name x np)) none [.Assign [.Name g p3] (.Constant (.int v) q0 p6) p5] pos'] [] [] pos) (sTryE (fun c => T.catches c x) j v ma) := fun X Ex F hp hs hfr => by
  obtain ⟨Ca, h1, h2, h3, h4, h5⟩ := F.top.exc x hx
  obtain ⟨g1, g2, g3⟩ := slotS_ok F hg
  refine PS.imp (ps_try_only (ts := fun _ _ _ => tAsg (tC (.int v)) (gName j)) (tb := fun W => fun D σ H => tE G W ma σ H fun _ H1 => D.nx σ H1) hs hfr.1 ⟨F.gl hgl, (glob_ok hgl).2.1, .inl h2⟩ F.takes
    (fun W pn xe tk _ => pss_one (ps_expr (X := X.tr pn xe) (he _ W (F.tr tk)) (noComp_ok hc _ _ _)))
    (fun a oe cls d pn _ _ => pss_one (ps_set (X := X.suite a ((a, oe) :: pn)) F.ndN g1 g2 pe_int rfl g3))) fun D σ H ⟨c, env, e0, ok, re, q⟩ => ?_
  subst e0
  refine ⟨c, env, rfl, ok, re, ?_⟩
  unfold sTryE at q
  cases r : ma env c.ah with
  | no => rw [r] at q; exact q.elim
  | ok w h' =>
    rw [r] at q
    exact fun c' ex ok' e' v rv => q c' ex ok' e' _ (re.mono ex)
  | ex cc h' =>
    rw [r] at q
    intro c' ex ok' e' C hC
    obtain ⟨b, hb, hb2⟩ := F.top.catch_ cc C x Ca hC h1 hx
    refine ⟨b, by rw [F.K] at hb ⊢; exact hb, fun hbt a ha => ?_, fun hbf => ?_⟩
    · subst hbt
      simp only [← hb2, if_true] at q
      exact q c' ex ok' e' _ ((re.mono ex).set (w := .d (.int v)) (.int v))
    · subst hbf
      simp only [← hb2, Bool.false_eq_true, if_false] at q
      exact q c' ex ok' e' C hC
end
end Ev
set_option Elab.async false
set_option linter.all false
set_option maxRecDepth 100000
set_option maxHeartbeats 4000000
/-! E14c: min and max of two names, targets with a star. -/
namespace Ev
open PySem PySem.Spec PyProof.Rows L2

/-! ### min, max of two tuples (text, number) with one text -/
theorem tup_si {x : Str} {i : Int} {its : List Value} (r : Vals [.str x, .int i] its) : ∃ t u, its = [Value.str x t, Value.int i u] := by
  cases r with
  | cons h1 r =>
    cases r with
    | cons h2 r =>
      cases r
      obtain ⟨t, rfl⟩ := h1
      obtain ⟨u, rfl⟩ := h2
      exact ⟨t, u, rfl⟩
theorem eq_str_str {A : Around} {s : Shared} {x : Str} {t u : Tok} : SeqAt.EqAt A s (.str x t) (.str x u) true := fun prog w E Q h => wpAny_eqBool_str (by simpa using h)
theorem eq_int_int {A : Around} {s : Shared} {i j : Int} {t u : Tok} : SeqAt.EqAt A s (.int i t) (.int j u) (decide (i = j)) := fun prog w E Q h => wpAny_eqBool_int (by rw [Bool.beq_eq_decide_eq]; exact h)
theorem lt_si {A : Around} {s : Shared} {l b : Addr} {x : Str} {i j : Int} {t u t' u' : Tok} (hl : s.heap.IsTuple l #[.str x t, .int i u]) (hb : s.heap.IsTuple b #[.str x t', .int j u']) (hu : A.units < cLine) : Ob.RcOp .Lt A s (.ref l) (.ref b) (decide (i < j)) := by
  have h := Ob.RcOp.tuples_lt (A := A) (e := fun k => if k = 0 then true else decide (i = j)) (r := fun _ => decide (i < j)) hl hb hu
    (fun k h1 h2 => by
      match k, h1 with
      | 0, _ => exact eq_str_str
      | 1, _ => exact eq_int_int)
    (fun k h1 h2 he => by
      match k, h1 with
      | 0, _ => cases he
      | 1, _ => exact Ob.RcOp.lt_int i j _ _)
  have e : Ob.lexAt (fun k => if k = 0 then true else decide (i = j)) (fun _ => decide (i < j)) (decide ((#[Value.str x t, .int i u] : Array Value).size < (#[Value.str x t', .int j u'] : Array Value).size)) 0 (min (#[Value.str x t, .int i u] : Array Value).size (#[Value.str x t', .int j u'] : Array Value).size) = decide (i < j) := by
    show Ob.lexAt _ _ _ 0 2 = _
    by_cases q : i = j
    · subst q; simp [Ob.lexAt]
    · simp [Ob.lexAt, q]
  rw [e] at h
  exact h
theorem gt_si {A : Around} {s : Shared} {l b : Addr} {x : Str} {i j : Int} {t u t' u' : Tok} (hl : s.heap.IsTuple l #[.str x t, .int i u]) (hb : s.heap.IsTuple b #[.str x t', .int j u']) (hu : A.units < cLine) : Ob.RcOp .Gt A s (.ref l) (.ref b) (decide (j < i)) := by
  have h := Ob.RcOp.tuples_gt (A := A) (e := fun k => if k = 0 then true else decide (i = j)) (r := fun _ => decide (j < i)) hl hb hu
    (fun k h1 h2 => by
      match k, h1 with
      | 0, _ => exact eq_str_str
      | 1, _ => exact eq_int_int)
    (fun k h1 h2 he => by
      match k, h1 with
      | 0, _ => cases he
      | 1, _ => exact Ob.RcOp.gt_int i j _ _)
  have e : Ob.lexAt (fun k => if k = 0 then true else decide (i = j)) (fun _ => decide (j < i)) (decide ((#[Value.str x t, .int i u] : Array Value).size > (#[Value.str x t', .int j u'] : Array Value).size)) 0 (min (#[Value.str x t, .int i u] : Array Value).size (#[Value.str x t', .int j u'] : Array Value).size) = decide (j < i) := by
    show Ob.lexAt _ _ _ 0 2 = _
    by_cases q : i = j
    · subst q; simp [Ob.lexAt]
    · simp [Ob.lexAt, q]
  rw [e] at h
  exact h
section
variable {X : Cx}
/-- what two tuples at a, b hold, by their place -/
def Two (h : Heap) (a b : Addr) (x : Str) (i j : Int) : Prop := (∃ t u, h.IsTuple a #[.str x t, .int i u]) ∧ ∃ t u, h.IsTuple b #[.str x t, .int j u]
theorem IsTuple.kept {h h' : Heap} {a : Addr} {its : Array Value} (p : h.IsTuple a its) (k : ∀ b o, h.get? b = some o → h'.get? b = some o) : h'.IsTuple a its := by
  obtain ⟨o, e, q⟩ := p
  exact ⟨o, k _ _ e, q⟩
theorem cmp_two {op : CmpOp} {prog : Program} {w : World} {A : Around} {h : Heap} {a b : Addr} {x : Str} {i j : Int} (T : Two h a b x i j) (f : Int → Int → Bool)
    (hf : ∀ (s : Shared) (l b : Addr) (i j : Int) (t u t' u' : Tok), s.heap.IsTuple l #[.str x t, .int i u] → s.heap.IsTuple b #[.str x t', .int j u'] → Ob.RcOp op A s (.ref l) (.ref b) (f i j)) :
    CmpIn prog w A op h (fun k v => (#[Value.ref a, Value.ref b] : Array Value)[k]? = some v) (fun k m => f (if k = 0 then i else j) (if m = 0 then i else j)) := fun k m vk vm s Q E hk h1 h2 hq => by
  obtain ⟨⟨t, u, p1⟩, t', u', p2⟩ := T
  have p1 := IsTuple.kept p1 hk
  have p2 := IsTuple.kept p2 hk
  match k, m, h1, h2 with
  | 0, 0, h1, h2 => cases h1; cases h2; exact hf s a a i i _ _ _ _ p1 p1 prog w E Q hq
  | 0, 1, h1, h2 => cases h1; cases h2; exact hf s a b i j _ _ _ _ p1 p2 prog w E Q hq
  | 1, 0, h1, h2 => cases h1; cases h2; exact hf s b a j i _ _ _ _ p2 p1 prog w E Q hq
  | 1, 1, h1, h2 => cases h1; cases h2; exact hf s b b j j _ _ _ _ p2 p2 prog w E Q hq
  | k + 2, _, h1, _ => simp at h1
  | 0, m + 2, _, h2 => simp at h2
  | 1, m + 2, _, h2 => simp at h2
theorem two_of {pins : List (Addr × Obj)} {σ : L2.St} {H : Hp} {s : Shared} {a b : Addr} {x : Str} {i j : Int} (I : Inv X pins σ H s) (h1 : SqT X.K H a [.str x, .int i]) (h2 : SqT X.K H b [.str x, .int j]) : Two s.heap a b x i j := by
  obtain ⟨its, rv, p1, _⟩ := I.tuple h1
  obtain ⟨its', rv', p2, _⟩ := I.tuple h2
  obtain ⟨t, u, rfl⟩ := tup_si rv
  obtain ⟨t', u', rfl⟩ := tup_si rv'
  exact ⟨⟨t, u, p1⟩, t', u', p2⟩
theorem call_min2T (hc : X.calm = true) (hu : X.A.units + 64 < cLine) : CallR X (.builtin "min") (fun vs H Q => ∃ a b x i j, vs = [.ref a, .ref b] ∧ SqT X.K H a [.str x, .int i] ∧ SqT X.K H b [.str x, .int j] ∧ Q (if j < i then .ref b else .ref a) H) := by
  intro pins s σ H xs us Q I r h
  obtain ⟨a, b, x, i, j, rfl, h1, h2, q⟩ := h
  obtain ⟨ua, ub, rfl, ra, rb⟩ := vals2 r
  cases ra; cases rb
  have T := two_of I h1 h2
  have hh := I.ok.hd hc
  have nm : (toString "min" ++ toString ".loop" : String) = "min.loop" := by decide
  refine call_function_tree F.kind_min F.plain_min F.entry_min (F.args_min2 _ _) ?_
  show wpAny _ X.A.in1 (Builtin.Builtins.bindParams "min" ["key", "default"] 0 ⟨[], []⟩ >>= _) _ _ s
  refine wpAny_bind (wpAny_of_eq (a := [none, none]) rfl ?_)
  show wpAny _ X.A.in1 (newTuple [.ref a, .ref b] >>= _) _ _ s
  refine wpAny_bind (wpAny_newObj_type ?_)
  have hT : (s.heap.push { cls := .type "tuple", data := .seq #[.ref a, .ref b] }).IsTuple s.heap.objs.size #[.ref a, .ref b] := ⟨_, Heap.get?_push_size _ rfl, rfl, 0, rfl⟩
  have T2 : Two (s.heap.push { cls := .type "tuple", data := .seq #[.ref a, .ref b] }) a b x i j := by
    obtain ⟨⟨t, u, p1⟩, t', u', p2⟩ := T
    exact ⟨⟨t, u, p1.push _⟩, t', u', p2.push _⟩
  refine wpAny_bind (PySem.W.iter_tupleW (s := { s with heap := s.heap.push { cls := .type "tuple", data := .seq #[.ref a, .ref b] } }) hh hT fun s₂ e W st hfp hw hk => ?_)
  refine wpAny_bind (wpAny_newObj_type ?_)
  have hSf : s₂.heap.objs.size ∉ [(s.heap.push { cls := .type "tuple", data := .seq #[.ref a, .ref b] }).objs.size, s.heap.objs.size] := fun hm => Nat.lt_irrefl _ (hfp _ hm)
  rw [nm]
  refine wpAny_pure ⟨plainId_quiet F.plain_min_loop _, codeAny_min_loop_firstH W _ hw _ (cmp_two T2 (fun i j => decide (i < j)) fun s l b i j t u t' u' p1 p2 => lt_si p1 p2 (by show X.A.units + 1 < _; omega)) s₂.heap.objs.size hSf (fresh_in hk) _ (show 0 < 2 by decide)
    (fun c o eo => Heap.get?_push_of_some _ (hk c o eo)) (W.frame 0 s₂ _ s₂.toks st (Nat.le_refl _) fun c _ o eo => Heap.get?_push_of_some _ eo) (Heap.get?_push_size _ rfl) fun v s' hP hm => ?_⟩
  obtain ⟨h', tk, es, hk'⟩ := PySem.W.moved_old e rfl (Moved.drop_new (tk := s₂.toks) hm (Nat.le_refl _))
  subst es
  have hv : v = Value.ref (if j < i then b else a) := by
    by_cases hji : j < i
    · have e2 : argBest (fun k m => decide ((if k = 0 then i else j) < (if m = 0 then i else j))) ((#[Value.ref a, Value.ref b] : Array Value).size - 1) = 1 := by
        show argBest _ 1 = 1
        simp [argBest, hji]
      rw [e2] at hP
      rw [if_pos hji]
      exact (Option.some.inj hP).symm
    · have e2 : argBest (fun k m => decide ((if k = 0 then i else j) < (if m = 0 then i else j))) ((#[Value.ref a, Value.ref b] : Array Value).size - 1) = 0 := by
        show argBest _ 1 = 0
        simp [argBest, hji]
      rw [e2] at hP
      rw [if_neg hji]
      exact (Option.some.inj hP).symm
  subst hv
  refine ⟨V.ref (if j < i then b else a), H, I.kept (t' := tk) fun c o eo => hk' c o (Heap.get?_push_of_some _ eo), rfl, ?_⟩
  by_cases hji : j < i
  · rw [if_pos hji] at q ⊢; exact q
  · rw [if_neg hji] at q ⊢; exact q
theorem call_max2T (hc : X.calm = true) (hu : X.A.units + 64 < cLine) : CallR X (.builtin "max") (fun vs H Q => ∃ a b x i j, vs = [.ref a, .ref b] ∧ SqT X.K H a [.str x, .int i] ∧ SqT X.K H b [.str x, .int j] ∧ Q (if i < j then .ref b else .ref a) H) := by
  intro pins s σ H xs us Q I r h
  obtain ⟨a, b, x, i, j, rfl, h1, h2, q⟩ := h
  obtain ⟨ua, ub, rfl, ra, rb⟩ := vals2 r
  cases ra; cases rb
  have T := two_of I h1 h2
  have hh := I.ok.hd hc
  have nm : (toString "max" ++ toString ".loop" : String) = "max.loop" := by decide
  refine call_function_tree F.kind_max F.plain_max F.entry_max (F.args_max2 _ _) ?_
  show wpAny _ X.A.in1 (Builtin.Builtins.bindParams "max" ["key", "default"] 0 ⟨[], []⟩ >>= _) _ _ s
  refine wpAny_bind (wpAny_of_eq (a := [none, none]) rfl ?_)
  show wpAny _ X.A.in1 (newTuple [.ref a, .ref b] >>= _) _ _ s
  refine wpAny_bind (wpAny_newObj_type ?_)
  have hT : (s.heap.push { cls := .type "tuple", data := .seq #[.ref a, .ref b] }).IsTuple s.heap.objs.size #[.ref a, .ref b] := ⟨_, Heap.get?_push_size _ rfl, rfl, 0, rfl⟩
  have T2 : Two (s.heap.push { cls := .type "tuple", data := .seq #[.ref a, .ref b] }) a b x i j := by
    obtain ⟨⟨t, u, p1⟩, t', u', p2⟩ := T
    exact ⟨⟨t, u, p1.push _⟩, t', u', p2.push _⟩
  refine wpAny_bind (PySem.W.iter_tupleW (s := { s with heap := s.heap.push { cls := .type "tuple", data := .seq #[.ref a, .ref b] } }) hh hT fun s₂ e W st hfp hw hk => ?_)
  refine wpAny_bind (wpAny_newObj_type ?_)
  have hSf : s₂.heap.objs.size ∉ [(s.heap.push { cls := .type "tuple", data := .seq #[.ref a, .ref b] }).objs.size, s.heap.objs.size] := fun hm => Nat.lt_irrefl _ (hfp _ hm)
  rw [nm]
  refine wpAny_pure ⟨plainId_quiet F.plain_max_loop _, codeAny_max_loop_firstH W _ hw _ (cmp_two T2 (fun i j => decide (j < i)) fun s l b i j t u t' u' p1 p2 => gt_si p1 p2 (by show X.A.units + 1 < _; omega)) s₂.heap.objs.size hSf (fresh_in hk) _ (show 0 < 2 by decide)
    (fun c o eo => Heap.get?_push_of_some _ (hk c o eo)) (W.frame 0 s₂ _ s₂.toks st (Nat.le_refl _) fun c _ o eo => Heap.get?_push_of_some _ eo) (Heap.get?_push_size _ rfl) fun v s' hP hm => ?_⟩
  obtain ⟨h', tk, es, hk'⟩ := PySem.W.moved_old e rfl (Moved.drop_new (tk := s₂.toks) hm (Nat.le_refl _))
  subst es
  have hv : v = Value.ref (if i < j then b else a) := by
    by_cases hji : i < j
    · have e2 : argBest (fun k m => decide ((if m = 0 then i else j) < (if k = 0 then i else j))) ((#[Value.ref a, Value.ref b] : Array Value).size - 1) = 1 := by
        show argBest _ 1 = 1
        simp [argBest, hji]
      rw [e2] at hP
      rw [if_pos hji]
      exact (Option.some.inj hP).symm
    · have e2 : argBest (fun k m => decide ((if m = 0 then i else j) < (if k = 0 then i else j))) ((#[Value.ref a, Value.ref b] : Array Value).size - 1) = 0 := by
        show argBest _ 1 = 0
        simp [argBest, hji]
      rw [e2] at hP
      rw [if_neg hji]
      exact (Option.some.inj hP).symm
  subst hv
  refine ⟨V.ref (if i < j then b else a), H, I.kept (t' := tk) fun c o eo => hk' c o (Heap.get?_push_of_some _ eo), rfl, ?_⟩
  by_cases hji : i < j
  · rw [if_pos hji] at q ⊢; exact q
  · rw [if_neg hji] at q ⊢; exact q
end

/-! ### a list, a tuple taken apart by a target with a star -/
theorem star_list {prog : Program} {w : World} {A : Around} {E : Value → Shared → Prop} {s : Shared} {l : Addr} {items : Array Value} {n i : Nat} {Q : List Value → Shared → Prop} (hl : s.heap.IsList l items) (hh : A.handled = none) (hi : i < n) (hn : n ≤ items.size + 1) (hz : items.size ≤ sizeLine)
    (h : ∀ (h' : Heap) (tk : Nat), (∀ b o, s.heap.get? b = some o → h'.get? b = some o) → Q (items.toList.take i ++ [.ref h'.objs.size] ++ items.toList.drop (items.size + 1 - n + i)) { s with heap := h'.push { cls := .type "list", data := .seq ((items.toList.drop i).take (items.size + 1 - n)).toArray }, toks := tk }) : wpAny (model prog w) A (unpackItems (.ref l) n (some i)) Q E s := by
  obtain ⟨o0, ho0, _⟩ := id hl
  have ll : l < s.heap.objs.size := Heap.lt_size ho0
  have ln : l ≠ s.heap.objs.size := Nat.ne_of_lt ll
  have len : items.toList.length = items.size := Array.length_toList
  unfold unpackItems notIterableAtAll
  refine wpAny_bind (wpAny_bind (wpAny_specialOf hl.typeIs slot_list_iter.lookup (wpAny_pure ?_)))
  simp only [Bool.false_eq_true, if_false]
  refine wpAny_bind (wpAny_holding (wpAny_pyIter_list hl ?_))
  refine wpAny_bind (wpAny_holding (PySem.W.kun_draw ln i 0 _ _ ⟨_, Heap.get?_push_size _ rfl, rfl, rfl⟩ (hl.push _) (by omega) fun g1 it1 sb1 => ?_))
  rw [Nat.zero_add] at it1
  rw [List.drop_zero]
  have l1 : g1.IsList l items := (hl.push _).extBut sb1.extBut ln
  obtain ⟨oi, hoi, _⟩ := id it1
  obtain ⟨ol, hol, _⟩ := id l1
  have e1 : (items.toList.take i).length = i := by rw [List.length_take]; omega
  rw [if_neg (by rw [e1]; omega)]
  refine wpAny_bind (wpAny_holding (PySem.W.kun_collect (s := { s with heap := g1 }) (T := "list_iterator") (.inr (.inr (.inl rfl))) (Walks.list (A := A.in1) hh s.heap.objs.size l ln items) (fun j u st => st.1.typeIs) (k := i) (by omega) ⟨it1, l1⟩ (Heap.lt_size hoi) (Heap.lt_size hol) (fun g2 tk hk => ?_) hz))
  have e2 : (items.toList.drop i).length = items.size - i := by rw [List.length_drop, len]
  have e3 : (items.toList.drop i).length - (n - 1 - i) = items.size + 1 - n := by omega
  show wpAny _ _ (if (items.toList.drop i).length < n - 1 - i then _ else _) _ _ _
  rw [if_neg (by omega)]
  show wpAny _ _ (newList ((items.toList.drop i).take ((items.toList.drop i).length - (n - 1 - i))) >>= fun d => pure (items.toList.take i ++ [d] ++ (items.toList.drop i).drop ((items.toList.drop i).length - (n - 1 - i)))) _ _ _
  rw [e3, List.drop_drop]
  refine wpAny_bind (wpAny_newObj_type (hd := by show ((items.toList.drop i).take (items.size + 1 - n)).toArray.size ≤ sizeLine; rw [List.size_toArray, List.length_take]; omega) (wpAny_pure ?_))
  have := h g2 tk fun b o e => hk b o (Nat.ne_of_lt (Heap.lt_size e)) (sb1.extBut b o (Nat.ne_of_lt (Heap.lt_size e)) (Heap.get?_push_of_some _ e))
  rw [show i + (items.size + 1 - n) = items.size + 1 - n + i from Nat.add_comm _ _]
  exact this
def gStar (K : PySem.W.Frag) (n i : Nat) (t : TGs) : TG := fun v σ H Q => ∃ a xs, v = .ref a ∧ SqL K H a xs ∧ i < n ∧ n ≤ xs.length + 1 ∧ ∀ p, H p = none → t (xs.take i ++ [.ref p] ++ xs.drop (xs.length + 1 - n + i)) σ (upd H p (.lst ((xs.drop i).take (xs.length + 1 - n)))) Q
section
variable {X : Cx} {pos : Pos}
theorem pgs_star {e : Expr} {es : List Expr} {t : TG} {u : TGs} {p : Pos} (h1 : PG X e t) (h2 : PGs X es u) : PGs X (.Starred e p :: es) (gCons t u) := by
  refine ⟨fun pins s σ H vs us Q I r h => ?_⟩
  obtain ⟨v, vr, rfl, h⟩ := h
  cases r with
  | cons r rr =>
    show wpAny _ _ (assignInOrder (assign e X.env :: (assignEach es X.env).map (·.2)) _) _ _ _
    exact assignInOrder_cons (thn (h1.run pins s σ H _ _ _ I r h) fun _ s1 ⟨σ1, H1, I1, q1⟩ => h2.run pins s1 σ1 H1 _ _ Q I1 rr q1)
theorem pg_star {es : List Expr} {k : Nat} {t : TGs} {n i : Nat} (hc : X.calm = true) (h : PGs X es t) (hn : (assignEach es X.env).length = n) (hst : (assignEach es X.env).findIdx? (·.1) = some i) : PG X (.Tuple es k pos) (gStar X.K n i t) := by
  refine ⟨fun pins s σ H v u Q I r hw => ?_⟩
  obtain ⟨a, xs, rfl, hq, hi, hl, hw⟩ := hw
  cases r
  obtain ⟨its, rv, pl, hz⟩ := I.list hq
  have e0 : its.toArray.size = xs.length := by simp [rv.length]
  rw [PyProof.Rows.assign_Tuple]
  refine wpAny_bind (wpAny_standAt ?_)
  unfold unpack
  rw [hn, hst]
  refine wpAny_bind (wpAny_holding (star_list pl.isList (I.ok.hd hc) hi (by omega) (by rw [e0]; exact hz) fun h' tk hk => ?_))
  have I1 : Inv X pins σ H { s with heap := h', toks := tk } := I.kept (t' := tk) hk
  have hp := I1.hok.fresh (Nat.le_refl _)
  have rm : Vals ((xs.drop i).take (xs.length + 1 - n)) ((its.drop i).take (its.length + 1 - n)) := by rw [rv.length]; exact (rv.drop i).take _
  have I2 : Inv X pins σ (upd H h'.objs.size (.lst ((xs.drop i).take (xs.length + 1 - n)))) { s with heap := h'.push { cls := .type "list", data := .seq ((its.drop i).take (its.length + 1 - n)).toArray }, toks := tk } := by
    refine I1.laid (t' := tk) (fun b u e => Heap.get?_push_of_some _ e) (Nat.le_refl _) ?_
    exact ⟨by rw [List.length_take, List.length_drop]; omega, _, 0, rm, Heap.get?_push_size _ rfl⟩
  have := h.run pins _ σ _ _ (its.take i ++ [.ref h'.objs.size] ++ its.drop (its.length + 1 - n + i)) Q I2 (((rv.take i).append (.cons (show RelV (.ref h'.objs.size) (.ref h'.objs.size) from rfl) .nil)).append (by rw [rv.length]; exact rv.drop _)) (hw _ hp)
  simpa using this
end
end Ev
set_option Elab.async false
set_option linter.all false
set_option maxRecDepth 100000
set_option maxHeartbeats 4000000
/-! E14d: list(zip(a, b)) of two tuples. -/
namespace Ev
open PySem PySem.Spec PyProof.Rows L2
section
variable {prog : Program} {w : World} {A : Around} {E : Value → Shared → Prop} {s : Shared}
/-- one turn of a zip of two tuples whose first pair is still held -/
theorem held_item {z TI TO T p1 p2 t1 t2 : Addr} {f : Bool} {oT : Obj} {m1 m2 : Nat} {xs ys : Array Value} {x y : Value} {Q : Value → Shared → Prop} (D : ZipApart z TI TO p1 p2 t1 t2)
    (hz : IsZipHeld s.heap z TI TO T f) (hT : s.heap.get? T = some oT) (hTI : IsPair s.heap TI (.ref p1) (.ref p2)) (i1 : s.heap.IsTupleIter p1 t1 m1) (i2 : s.heap.IsTupleIter p2 t2 m2) (l1 : s.heap.IsTuple t1 xs) (l2 : s.heap.IsTuple t2 ys) (hx : xs[m1]? = some x) (hy : ys[m2]? = some y)
    (hQ : ∀ h' : Heap, IsZipHeld h' z TI TO T true → h'.IsTupleIter p1 t1 (m1 + 1) → h'.IsTupleIter p2 t2 (m2 + 1) → IsPair h' s.heap.objs.size x y → h'.objs.size = s.heap.objs.size + 1 → (∀ c o, c ≠ z → c ≠ p1 → c ≠ p2 → s.heap.get? c = some o → h'.get? c = some o) → Q (.ref s.heap.objs.size) { s with heap := h' }) :
    wpAny (model prog w) A (Builtin.«zip.__next__» ⟨[.ref z], []⟩) (fun fin s' => ∃ v, fin = .done (.ret v) ∧ Q v s') E s := by
  refine wpAny_bind (m := field (.ref z) 2) (wpAny_field hz rfl (x := .bool false) rfl (wpAny_bind (m := field (.ref z) 3) (wpAny_field hz rfl (x := .ref TI) rfl (wpAny_bind (wpAny_seqItems hTI rfl (wpAny_bind (m := Builtin.SmallTypes.ownedTupleIsFree (.ref z)) (wpAny_tupleHeld_zip hz hT fun g1 z1 b1 => ?_)))))))
  simp only [Bool.false_eq_true, if_false]
  refine wpAny_bind ?_
  rw [← Array.forIn_toList]; simp only [List.forIn_cons, List.forIn_nil]
  refine wpAny_bind (wpAny_bind (wpAny_holding (wpAny_bind (m := Builtin.SmallTypes.nextOf (.ref p1)) (RZ.nextOf_tuple_item (s := { s with heap := g1 }) (i1.extBut b1.extBut D.i1z) (l1.extBut b1.extBut D.l1z) hx fun g2 j1 b2 => wpAny_pure (wpAny_pure ?_)))))
  refine wpAny_bind (wpAny_bind (wpAny_holding (wpAny_bind (m := Builtin.SmallTypes.nextOf (.ref p2)) (RZ.nextOf_tuple_item (s := { s with heap := g2 }) ((i2.extBut b1.extBut D.i2z).extBut b2.extBut D.i12.symm) ((l2.extBut b1.extBut D.l2z).extBut b2.extBut D.l2i1) hy fun g3 j2 b3 => wpAny_pure (wpAny_pure (wpAny_pure ?_))))))
  refine wpAny_bind (m := newTuple [x, y]) (wpAny_newTuple (wpAny_pure ⟨_, rfl, ?_⟩))
  have sz : g3.objs.size = s.heap.objs.size := by rw [b3.1, b2.1, b1.1]
  have kp : ∀ c o, c ≠ z → c ≠ p1 → c ≠ p2 → s.heap.get? c = some o → g3.get? c = some o := fun c o n1 n2 n3 e => b3.extBut _ _ n3 (b2.extBut _ _ n2 (b1.extBut _ _ n1 e))
  have pr : IsPair (g3.push { cls := .type "tuple", data := .seq #[x, y] }) g3.objs.size x y := Heap.get?_push_size _ rfl
  have s4 : (g3.push { cls := .type "tuple", data := .seq #[x, y] }).objs.size = g3.objs.size + 1 := Heap.size_push ..
  show Q (.ref g3.objs.size) _
  rw [sz] at pr s4 ⊢
  exact hQ _ (Heap.get?_push_of_some _ (b3.extBut _ _ D.i2z.symm (b2.extBut _ _ D.i1z.symm z1))) ((j1.extBut b3.extBut D.i12).at fun o e => Heap.get?_push_of_some _ e) (j2.at fun o e => Heap.get?_push_of_some _ e) pr s4 fun c o n1 n2 n3 e => Heap.get?_push_of_some _ (kp c o n1 n2 n3 e)
theorem held_end {z TI TO T p1 p2 t1 t2 : Addr} {f : Bool} {oT : Obj} {m1 m2 : Nat} {xs ys : Array Value} {Q : Fin → Shared → Prop} (hh : A.handled = none) (D : ZipApart z TI TO p1 p2 t1 t2)
    (hz : IsZipHeld s.heap z TI TO T f) (hT : s.heap.get? T = some oT) (hTI : IsPair s.heap TI (.ref p1) (.ref p2)) (i1 : s.heap.IsTupleIter p1 t1 m1) (i2 : s.heap.IsTupleIter p2 t2 m2) (l1 : s.heap.IsTuple t1 xs) (l2 : s.heap.IsTuple t2 ys) (hend : xs[m1]? = none ∨ ys[m2]? = none)
    (hE : ∀ (h' : Heap) (e : Addr), (∀ c o, c ≠ z → c ≠ p1 → c ≠ p2 → s.heap.get? c = some o → h'.get? c = some o) → (∃ o, h'.get? e = some o ∧ o.cls = .type "StopIteration") → E (.ref e) { s with heap := h' }) :
    wpAny (model prog w) A (Builtin.«zip.__next__» ⟨[.ref z], []⟩) Q E s := by
  refine wpAny_bind (m := field (.ref z) 2) (wpAny_field hz rfl (x := .bool false) rfl (wpAny_bind (m := field (.ref z) 3) (wpAny_field hz rfl (x := .ref TI) rfl (wpAny_bind (wpAny_seqItems hTI rfl (wpAny_bind (m := Builtin.SmallTypes.ownedTupleIsFree (.ref z)) (wpAny_tupleHeld_zip hz hT fun g1 z1 b1 => ?_)))))))
  simp only [Bool.false_eq_true, if_false]
  refine wpAny_bind ?_
  rw [← Array.forIn_toList]; simp only [List.forIn_cons, List.forIn_nil]
  cases hx : xs[m1]? with
  | none => exact wpAny_bind (wpAny_bind (wpAny_holding (wpAny_bind (m := Builtin.SmallTypes.nextOf (.ref p1)) (RZ.nextOf_tuple_end (s := { s with heap := g1 }) hh (i1.extBut b1.extBut D.i1z) (l1.extBut b1.extBut D.l1z) hx fun g2 e b2 he => hE g2 e (fun c o n1 n2 _ q => b2 _ _ n2 (b1.extBut _ _ n1 q)) he))))
  | some x =>
    have hy : ys[m2]? = none := hend.resolve_left (by rw [hx]; simp)
    refine wpAny_bind (wpAny_bind (wpAny_holding (wpAny_bind (m := Builtin.SmallTypes.nextOf (.ref p1)) (RZ.nextOf_tuple_item (s := { s with heap := g1 }) (i1.extBut b1.extBut D.i1z) (l1.extBut b1.extBut D.l1z) hx fun g2 j1 b2 => wpAny_pure (wpAny_pure ?_)))))
    exact wpAny_bind (wpAny_bind (wpAny_holding (wpAny_bind (m := Builtin.SmallTypes.nextOf (.ref p2)) (RZ.nextOf_tuple_end (s := { s with heap := g2 }) hh ((i2.extBut b1.extBut D.i2z).extBut b2.extBut D.i12.symm) ((l2.extBut b1.extBut D.l2z).extBut b2.extBut D.l2i1) hy fun g3 e b3 he => hE g3 e (fun c o n1 n2 n3 q => b3 _ _ n3 (b2.extBut _ _ n2 (b1.extBut _ _ n1 q))) he))))
/-- a zip amid its walk: at place m; behind the first turn its pair is held -/
def ZipAt (h : Heap) (z TI TO p1 p2 t1 t2 : Addr) (m : Nat) : Prop := IsPair h TI (.ref p1) (.ref p2) ∧ h.IsTupleIter p1 t1 m ∧ h.IsTupleIter p2 t2 m ∧
  ((m = 0 ∧ IsZip h z TI TO .none ∧ IsPair h TO .none .none) ∨ (0 < m ∧ ∃ T oT, h.get? T = some oT ∧ T ≠ z ∧ T ≠ p1 ∧ T ≠ p2 ∧ ∃ f, IsZipHeld h z TI TO T f))
theorem zip_turn {z TI TO p1 p2 t1 t2 : Addr} {m : Nat} {xs ys : Array Value} {x y : Value} {Q : Option Value → Shared → Prop} (D : ZipApart z TI TO p1 p2 t1 t2) (Z : ZipAt s.heap z TI TO p1 p2 t1 t2 m) (l1 : s.heap.IsTuple t1 xs) (l2 : s.heap.IsTuple t2 ys) (hx : xs[m]? = some x) (hy : ys[m]? = some y)
    (hQ : ∀ h' : Heap, ZipAt h' z TI TO p1 p2 t1 t2 (m + 1) → IsPair h' s.heap.objs.size x y → h'.objs.size = s.heap.objs.size + 1 → (∀ c o, c ≠ z → c ≠ TO → c ≠ p1 → c ≠ p2 → s.heap.get? c = some o → h'.get? c = some o) → Q (some (.ref s.heap.objs.size)) { s with heap := h' }) :
    wpAny (model prog w) A (pyNext (.ref z)) Q E s := by
  obtain ⟨hTI, i1, i2, Z⟩ := Z
  obtain ⟨o1, e1, _⟩ := id i1
  obtain ⟨o2, e2, _⟩ := id i2
  rcases Z with ⟨rfl, hz, hTO⟩ | ⟨hm, T, oT, hT, n1, n2, n3, f, hz⟩
  · refine RZ.pyNext_zipT_item D hz hTI hTO i1 i2 l1 l2 hx hy fun h' a1 a2 a3 a4 a5 a6 a7 => ?_
    have sz : s.heap.objs.size ≠ z ∧ s.heap.objs.size ≠ p1 ∧ s.heap.objs.size ≠ p2 := ⟨(Nat.ne_of_lt (Heap.lt_size hz)).symm, (Nat.ne_of_lt (Heap.lt_size e1)).symm, (Nat.ne_of_lt (Heap.lt_size e2)).symm⟩
    exact hQ h' ⟨a7 _ _ D.TIz D.TITO D.TIi1 D.TIi2 hTI, a3, a4, .inr ⟨Nat.succ_pos _, _, _, a5, sz.1, sz.2.1, sz.2.2, false, a1⟩⟩ a5 a6 a7
  · have hTy : s.TypeIs (.ref z) "zip" := ⟨_, hz, rfl⟩
    unfold pyNext
    refine wpAny_bind (wpAny_attempt (wpAny_callSpecial?_slot (name := Str.ofString "__next__") hTy F.slot_zip_next (wpAny_call_entry F.slot_zip_next hTy F.entry_zip_next (held_item D hz hT hTI i1 i2 l1 l2 hx hy fun h' a1 a3 a4 a5 a6 a7 => wpAny_pure ?_) (F.args_zip_next_1 _))))
    exact hQ h' ⟨a7 _ _ D.TIz D.TIi1 D.TIi2 hTI, a3, a4, .inr ⟨Nat.succ_pos _, T, oT, a7 _ _ n1 n2 n3 hT, n1, n2, n3, true, a1⟩⟩ a5 a6 fun c o c1 _ c3 c4 e => a7 c o c1 c3 c4 e
theorem zip_stop {z TI TO p1 p2 t1 t2 : Addr} {m : Nat} {xs ys : Array Value} {Q : Option Value → Shared → Prop} (hh : A.handled = none) (D : ZipApart z TI TO p1 p2 t1 t2) (Z : ZipAt s.heap z TI TO p1 p2 t1 t2 m) (l1 : s.heap.IsTuple t1 xs) (l2 : s.heap.IsTuple t2 ys) (hend : xs[m]? = none ∨ ys[m]? = none)
    (hQ : ∀ h' : Heap, (∀ c o, c ≠ z → c ≠ TO → c ≠ p1 → c ≠ p2 → s.heap.get? c = some o → h'.get? c = some o) → Q none { s with heap := h' }) : wpAny (model prog w) A (pyNext (.ref z)) Q E s := by
  obtain ⟨hTI, i1, i2, Z⟩ := Z
  rcases Z with ⟨rfl, hz, hTO⟩ | ⟨hm, T, oT, hT, n1, n2, n3, f, hz⟩
  · exact RZ.pyNext_zipT_end hh D hz hTI hTO i1 i2 l1 l2 hend hQ
  · have hTy : s.TypeIs (.ref z) "zip" := ⟨_, hz, rfl⟩
    unfold pyNext
    refine wpAny_bind (wpAny_attempt (wpAny_callSpecial?_slot (name := Str.ofString "__next__") hTy F.slot_zip_next (wpAny_call_entry F.slot_zip_next hTy F.entry_zip_next (held_end hh D hz hT hTI i1 i2 l1 l2 hend fun h' e hk he => ?_) (F.args_zip_next_1 _))))
    obtain ⟨o, ho, hc⟩ := he
    exact wpAny_bind (wpAny_isInstance (T := "StopIteration") (b := true) ⟨o, ho, hc⟩ isSubtype_stop (wpAny_pure (hQ _ fun c o c1 _ c3 c4 e => hk c o c1 c3 c4 e)))
end
end Ev
set_option Elab.async false
set_option linter.all false
set_option maxRecDepth 100000
set_option maxHeartbeats 4000000
/-! E14e: list(zip(a, b)), the loop and the call. -/
namespace Ev
open PySem PySem.Spec PyProof.Rows L2
/-- pairs at the addresses as -/
def PairsAt (h : Heap) (B : Nat) (as : List Addr) (xs ys : Array Value) : Prop := ∀ (j : Nat) (a : Addr), as[j]? = some a → B ≤ a ∧ ∃ x y, xs[j]? = some x ∧ ys[j]? = some y ∧ IsPair h a x y
section
variable {prog : Program} {w : World} {A : Around} {R : Result → Shared → Prop} {z TI TO p1 p2 t1 t2 S : Addr} {xs ys : Array Value} {res : Value} {B : Nat}
theorem zip_loop (hh : A.handled = none) (D : ZipApart z TI TO p1 p2 t1 t2) (hS : S ≠ z ∧ S ≠ TO ∧ S ≠ p1 ∧ S ≠ p2 ∧ S ≠ TI ∧ S ≠ t1 ∧ S ≠ t2) (hB : z < B ∧ TO < B ∧ p1 < B ∧ p2 < B ∧ S < B) (hn : min xs.size ys.size ≤ sizeLine) :
    ∀ (k m : Nat) (s : Shared) (as : List Addr) (c : Nat), min xs.size ys.size - m = k → m ≤ min xs.size ys.size → as.length = m → B ≤ s.heap.objs.size → ZipAt s.heap z TI TO p1 p2 t1 t2 m → s.heap.IsTuple t1 xs → s.heap.IsTuple t2 ys → PairsAt s.heap B as xs ys → (as.Nodup ∧ ∀ a ∈ as, a < s.heap.objs.size) →
    s.heap.get? S = some { cls := .type "list", dict := none, data := .seq (as.map Value.ref).toArray c, slots := #[] } →
    (∀ (h' : Heap) (as' : List Addr) (c' : Nat), as'.length = min xs.size ys.size → as'.Nodup → PairsAt h' B as' xs ys → h'.get? S = some { cls := .type "list", dict := none, data := .seq (as'.map Value.ref).toArray c', slots := #[] } →
      (∀ b o, b ≠ S → b ≠ z → b ≠ TO → b ≠ p1 → b ≠ p2 → s.heap.get? b = some o → h'.get? b = some o) → R (.ok (.ret res)) { s with heap := h' }) →
    codeAny (model prog w) A (.builtin "list.extend.loop" ⟨[.ref S, .ref z, res], []⟩) R s := by
  have stay : ∀ {h h' : Heap} {as : List Addr}, (∀ c o, c ≠ z → c ≠ TO → c ≠ p1 → c ≠ p2 → h.get? c = some o → h'.get? c = some o) → PairsAt h B as xs ys → PairsAt h' B as xs ys := fun kp P j a ha => by
    obtain ⟨q1, x, y, q2, q3, q4⟩ := P j a ha
    exact ⟨q1, x, y, q2, q3, kp a _ (Nat.ne_of_gt (Nat.lt_of_lt_of_le hB.1 q1)) (Nat.ne_of_gt (Nat.lt_of_lt_of_le hB.2.1 q1)) (Nat.ne_of_gt (Nat.lt_of_lt_of_le hB.2.2.1 q1)) (Nat.ne_of_gt (Nat.lt_of_lt_of_le hB.2.2.2.1 q1)) q4⟩
  intro k
  induction k with
  | zero =>
    intro m s as c hk hm hl hb Z l1 l2 P nd hL hR
    have e : m = min xs.size ys.size := by omega
    refine codeAny_builtin F.entry_extend_loop ?_
    rw [Around.under_plainId F.plain_extend_loop _]
    have hend : xs[m]? = none ∨ ys[m]? = none := by
      rcases Nat.le_total xs.size ys.size with q | q
      · left; exact Array.getElem?_eq_none (by omega)
      · right; exact Array.getElem?_eq_none (by omega)
    refine wpAny_bind (m := pyNext (.ref z)) (zip_stop (A := A.in1) hh D Z l1 l2 hend fun h' kp => wpAny_pure ?_)
    exact hR h' as c (by omega) nd.1 (stay kp P) (kp S _ hS.1 hS.2.1 hS.2.2.1 hS.2.2.2.1 hL) fun b o n1 n2 n3 n4 n5 q => kp b o n2 n3 n4 n5 q
  | succ k ih =>
    intro m s as c hk hm hl hb Z l1 l2 P nd hL hR
    have m1 : m < xs.size := by omega
    have m2 : m < ys.size := by omega
    refine codeAny_builtin F.entry_extend_loop ?_
    rw [Around.under_plainId F.plain_extend_loop _]
    refine wpAny_bind (m := pyNext (.ref z)) (zip_turn (A := A.in1) D Z l1 l2 (Array.getElem?_eq_getElem m1) (Array.getElem?_eq_getElem m2) fun h' Z' pr sz kp => ?_)
    have hL' := kp S _ hS.1 hS.2.1 hS.2.2.1 hS.2.2.2.1 hL
    have oth : ∀ (f : Obj → Obj) (b : Addr) (o : Obj), b ≠ S → h'.get? b = some o → (h'.update S f).get? b = some o := fun f b o nb q => (Heap.get?_update_other _ _ (Ne.symm nb)).trans q
    refine wpAny_bind (m := updateSeq S (·.push (.ref s.heap.objs.size))) (wpAny_updateSeq hL' rfl (wpAny_pure ⟨plainId_quiet F.plain_extend_loop _, ih (m + 1) _ (as ++ [s.heap.objs.size]) _ (by omega) (by omega) (by simp [hl]) ?_ ?_ ?_ ?_ ?_ ?_ (by rw [List.map_append]; have q := Heap.get?_update_self (Obj.mapSeq (·.push (.ref s.heap.objs.size))) hL' rfl; simpa [Obj.mapSeq] using q) fun h2 as' c' e1 nd2 P2 q2 k2 => ?_⟩) ?_ ?_)
    · show B ≤ (h'.update S _).objs.size
      rw [Heap.size_update, sz]; omega
    · obtain ⟨a1, a2, a3, a4⟩ := Z'
      refine ⟨oth _ _ _ (Ne.symm hS.2.2.2.2.1) a1, a2.at fun o q => oth _ _ _ (Ne.symm hS.2.2.1) q, a3.at fun o q => oth _ _ _ (Ne.symm hS.2.2.2.1) q, ?_⟩
      rcases a4 with ⟨q, _⟩ | ⟨q, T, oT, b1, b2, b3, b4, f, b5⟩
      · omega
      · refine .inr ⟨q, T, ?_⟩
        by_cases hTS : T = S
        · subst hTS
          exact ⟨_, Heap.get?_update_self _ hL' rfl, b2, b3, b4, f, oth _ _ _ (Ne.symm hS.1) b5⟩
        · exact ⟨oT, oth _ _ _ hTS b1, b2, b3, b4, f, oth _ _ _ (Ne.symm hS.1) b5⟩
    · obtain ⟨o, q, q2⟩ := l1
      exact ⟨o, oth _ _ _ (Ne.symm hS.2.2.2.2.2.1) (kp _ _ D.l1z D.l1TO D.l1i1 D.l1i2 q), q2⟩
    · obtain ⟨o, q, q2⟩ := l2
      exact ⟨o, oth _ _ _ (Ne.symm hS.2.2.2.2.2.2) (kp _ _ D.l2z D.l2TO D.l2i1 D.l2i2 q), q2⟩
    · intro j a ha
      by_cases hj : j < as.length
      · rw [List.getElem?_append_left hj] at ha
        obtain ⟨q1, x, y, q2, q3, q4⟩ := stay kp P j a ha
        exact ⟨q1, x, y, q2, q3, oth _ _ _ (Nat.ne_of_gt (Nat.lt_of_lt_of_le hB.2.2.2.2 q1)) q4⟩
      · have hjm : j = m := by
          have := (List.getElem?_eq_some_iff.mp ha).1
          simp at this; omega
        subst hjm
        rw [List.getElem?_append_right (by omega)] at ha
        have ea : s.heap.objs.size = a := by simpa [hl] using ha
        subst ea
        exact ⟨hb, _, _, Array.getElem?_eq_getElem m1, Array.getElem?_eq_getElem m2, oth _ _ _ (Nat.ne_of_gt (Nat.lt_of_lt_of_le hB.2.2.2.2 hb)) pr⟩
    · refine ⟨?_, fun a ha => ?_⟩
      · rw [List.nodup_append]
        exact ⟨nd.1, by simp, fun a ha b hb => by rw [List.mem_singleton.mp hb]; exact Nat.ne_of_lt (nd.2 a ha)⟩
      · show a < (h'.update S _).objs.size
        rw [Heap.size_update, sz]
        rcases List.mem_append.mp ha with q | q
        · exact Nat.lt_succ_of_lt (nd.2 a q)
        · rw [List.mem_singleton.mp q]; exact Nat.lt_succ_self _
    · refine hR h2 as' c' e1 nd2 P2 q2 fun b o n1 n2 n3 n4 n5 q => k2 b o n1 n2 n3 n4 n5 (oth _ _ _ n1 (kp b o n2 n3 n4 n5 q))
    · simp [hl]; omega
    · show ((as.map Value.ref).toArray.push _).size ≤ sizeLine + 1
      simp [hl]; omega
end
/-! ### many new objects -/
theorem Inv.many {X : Cx} {pins : List (Addr × Obj)} {σ : L2.St} {H H' : Hp} {s : Shared} {h' : Heap} {tk : Nat} (I : Inv X pins σ H s) (hk : ∀ b o, s.heap.get? b = some o → h'.get? b = some o) (kp : ∀ b u, H b = some u → H' b = some u)
    (hn : ∀ b, b < s.heap.objs.size → H' b = H b) (hob : ∀ b u, s.heap.objs.size ≤ b → H' b = some u → ObjOk X.prog X.w H' h' b u) : Inv X pins σ H' { s with heap := h', toks := tk } := by
  refine I.call' (ch := []) rfl ⟨fun b o q _ _ _ => hk b o q, fun b o q _ _ _ => ⟨o.slots, hk b o q⟩, fun b o q n _ => ?_, fun b o q _ => ⟨o, hk b o q⟩, fun b xs q => kp b _ q, fun b o u q => kp b _ q, fun b ps q => ⟨#[], by rw [kp b _ q]; simp⟩⟩ (fun b u q => ?_) I.bare fun b z => by simp at z
  · rw [hn b (Heap.lt_size q)]; exact n
  · rcases Nat.lt_or_ge b s.heap.objs.size with hb | hb
    · rw [hn b hb] at q
      exact (I.hok b u q).stay (fun d v _ y => hk d v y) (fun d y => kp d _ y) fun d xs y => kp d _ y
    · exact hob b u hb q
def putP : Hp → List Addr → List (V × V) → Hp
  | H, a :: as, p :: ps => putP (upd H a (.tup [p.1, p.2])) as ps
  | H, _, _ => H
theorem putP_off {b : Addr} : ∀ (as : List Addr) (ps : List (V × V)) (H : Hp), b ∉ as → putP H as ps b = H b
  | [], _, _, _ => rfl
  | _ :: _, [], _, _ => rfl
  | a :: as, p :: ps, H, h => by
    rw [List.mem_cons, not_or] at h
    exact (putP_off as ps _ h.2).trans (upd_ne h.1)
theorem putP_at : ∀ (as : List Addr) (ps : List (V × V)) (H : Hp) (j : Nat) (a : Addr) (p : V × V), as.Nodup → as[j]? = some a → ps[j]? = some p → putP H as ps a = some (.tup [p.1, p.2])
  | [], _, _, _, _, _, _, h, _ => by simp at h
  | _ :: _, [], _, _, _, _, _, _, h => by simp at h
  | a :: as, p :: ps, H, 0, b, q, nd, h1, h2 => by
    cases h1; cases h2
    exact (putP_off as ps _ (List.nodup_cons.mp nd).1).trans upd_same
  | a :: as, p :: ps, H, j + 1, b, q, nd, h1, h2 => putP_at as ps _ j b q (List.nodup_cons.mp nd).2 (by simpa using h1) (by simpa using h2)
end Ev
set_option Elab.async false
set_option linter.all false
set_option maxRecDepth 100000
set_option maxHeartbeats 400000
/-! E14f: list(zip(a, b)) as an expression. -/
namespace Ev
open PySem PySem.Spec PyProof.Rows L2
theorem nolen_zip : typeLookup (.type "zip") "__len__" = pure none := by rw [typeLookup_type, builtinLookup_eq_fast]; kernel_rfl
theorem nohint_zip : typeLookup (.type "zip") "__length_hint__" = pure none := by rw [typeLookup_type, builtinLookup_eq_fast]; kernel_rfl
/-- a new zip, with all that it needs -/
structure Zip0 (h : Heap) (z TI TO p1 p2 t1 t2 : Addr) (xs ys : Array Value) : Prop where
  D : ZipApart z TI TO p1 p2 t1 t2
  hz : IsZip h z TI TO .none
  hTI : IsPair h TI (.ref p1) (.ref p2)
  hTO : IsPair h TO .none .none
  i1 : h.IsTupleIter p1 t1 0
  i2 : h.IsTupleIter p2 t2 0
  l1 : h.IsTuple t1 xs
  l2 : h.IsTuple t2 ys
theorem Zip0.kept {h h' : Heap} {z TI TO p1 p2 t1 t2 : Addr} {xs ys : Array Value} (Z : Zip0 h z TI TO p1 p2 t1 t2 xs ys) (k : ∀ b o, h.get? b = some o → h'.get? b = some o) : Zip0 h' z TI TO p1 p2 t1 t2 xs ys :=
  ⟨Z.D, k _ _ Z.hz, k _ _ Z.hTI, k _ _ Z.hTO, Z.i1.at fun o q => k _ o q, Z.i2.at fun o q => k _ o q, IsTuple.kept Z.l1 k, IsTuple.kept Z.l2 k⟩
theorem Zip0.apart {h : Heap} {z TI TO p1 p2 t1 t2 S : Addr} {xs ys : Array Value} (Z : Zip0 h z TI TO p1 p2 t1 t2 xs ys) (hS : h.objs.size ≤ S) : (S ≠ z ∧ S ≠ TO ∧ S ≠ p1 ∧ S ≠ p2 ∧ S ≠ TI ∧ S ≠ t1 ∧ S ≠ t2) ∧ (z < h.objs.size ∧ TO < h.objs.size ∧ p1 < h.objs.size ∧ p2 < h.objs.size) := by
  obtain ⟨o1, e1, _⟩ := Z.i1
  obtain ⟨o2, e2, _⟩ := Z.i2
  obtain ⟨o3, e3, _⟩ := Z.l1
  obtain ⟨o4, e4, _⟩ := Z.l2
  have lt : ∀ {a : Addr} {o : Obj}, h.get? a = some o → S ≠ a := fun q => Nat.ne_of_gt (Nat.lt_of_lt_of_le (Heap.lt_size q) hS)
  exact ⟨⟨lt Z.hz, lt Z.hTO, lt e1, lt e2, lt Z.hTI, lt e3, lt e4⟩, Heap.lt_size Z.hz, Heap.lt_size Z.hTO, Heap.lt_size e1, Heap.lt_size e2⟩
section
variable {prog : Program} {w : World} {A : Around} {E : Value → Shared → Prop} {s : Shared} {R : Result → Shared → Prop} {z TI TO p1 p2 t1 t2 S : Addr} {xs ys : Array Value} {B c : Nat}
/-- what is left behind the walk -/
def ZipEnd (S z TO p1 p2 : Addr) (B : Nat) (xs ys : Array Value) (s : Shared) (P : Shared → Prop) : Prop := ∀ (h' : Heap) (as : List Addr) (c : Nat), as.length = min xs.size ys.size → as.Nodup → PairsAt h' B as xs ys → h'.get? S = some { cls := .type "list", dict := none, data := .seq (as.map Value.ref).toArray c, slots := #[] } →
      (∀ b o, b ≠ S → b ≠ z → b ≠ TO → b ≠ p1 → b ≠ p2 → s.heap.get? b = some o → h'.get? b = some o) → P { s with heap := h' }
theorem zip_extend (hh : A.handled = none) (Z : Zip0 s.heap z TI TO p1 p2 t1 t2 xs ys) (hSa : S ≠ z ∧ S ≠ TO ∧ S ≠ p1 ∧ S ≠ p2 ∧ S ≠ TI ∧ S ≠ t1 ∧ S ≠ t2) (hB : z < B ∧ TO < B ∧ p1 < B ∧ p2 < B ∧ S < B) (hB2 : B ≤ s.heap.objs.size) (hn : min xs.size ys.size ≤ sizeLine)
    (hS : s.heap.get? S = some { cls := .type "list", data := .seq #[] c }) (hR : ZipEnd S z TO p1 p2 B xs ys s (R (.ok (.ret .none)))) :
    wpAny (model prog w) A.in1 (Builtin.List.listExtendWith (.ref S) (.ref z) .none) (fun fin s' => match fin with | .done f => R (.ok f) s' | .again c' => c'.quiet = true ∧ codeAny (model prog w) A c' R s') (fun e s' => R (.error e) s') s := by
  have ty : s.TypeIs (.ref z) "zip" := ⟨_, Z.hz, rfl⟩
  unfold Builtin.List.listExtendWith
  refine wpAny_bind (wpAny_typeOf ty ?_)
  have ne : Builtin.List.listSameRef (.ref S) (.ref z) = false := by simp [Builtin.List.listSameRef, hSa.1]
  have n2 : (Value.type "zip" == Value.type "list") = false := by decide
  have n3 : (Value.type "zip" == Value.type "tuple") = false := by decide
  simp only [ne, n2, n3, Bool.or_false, Bool.false_eq_true, if_false]
  refine wpAny_bind (wpAny_pyIter_zip Z.hz (wpAny_bind (wpAny_holding ?_)))
  unfold Builtin.List.listLengthHint
  refine wpAny_bind (wpAny_specialOf ty nolen_zip ?_)
  show wpAny _ A.in1 (specialOf (Value.ref z) (Str.ofString "__length_hint__") >>= _) _ _ _
  refine wpAny_bind (wpAny_specialOf ty nohint_zip (wpAny_pure ?_))
  show wpAny _ A.in1 (rule "list.extend.makes-room" >>= fun _ => Builtin.List.listTouch (.ref S) >>= fun _ => again (.builtin "list.extend.loop" ⟨[.ref S, .ref z, .none], []⟩)) _ _ _
  refine wpAny_bind (wpAny_rule (wpAny_bind ?_))
  show wpAny _ A.in1 (updateSeq S (·.push .none) >>= fun _ => updateSeq S (·.pop)) _ _ _
  refine wpAny_bind (wpAny_updateSeq hS rfl ?_)
  have hS3 := Heap.get?_update_self (Obj.mapSeq (·.push Value.none)) hS rfl
  refine wpAny_updateSeq (hz := by seq_fits) hS3 rfl ?_
  have hS4 := Heap.get?_update_self (Obj.mapSeq (·.pop)) hS3 rfl
  have up : ∀ b o, b ≠ S → s.heap.get? b = some o → ((s.heap.update S (Obj.mapSeq (·.push Value.none))).update S (Obj.mapSeq (·.pop))).get? b = some o := fun b o nb q => (Heap.get?_update_other _ _ (Ne.symm nb)).trans ((Heap.get?_update_other _ _ (Ne.symm nb)).trans q)
  obtain ⟨m1, m2, m3, m4, m5, m6, m7⟩ := id hSa
  refine wpAny_pure ⟨plainId_quiet F.plain_extend_loop _, zip_loop (B := B) hh Z.D hSa hB hn _ 0 _ [] _ rfl (Nat.zero_le _) rfl ?_ ⟨up _ _ m5.symm Z.hTI, Z.i1.at fun o q => up _ o m3.symm q, Z.i2.at fun o q => up _ o m4.symm q, .inl ⟨rfl, up _ _ m1.symm Z.hz, up _ _ m2.symm Z.hTO⟩⟩ ?_ ?_ (fun j a h => by simp at h) ⟨List.nodup_nil, fun a h => by simp at h⟩ hS4 fun h' as c e1 nd P q k => hR h' as c e1 nd P q fun b o a1 a2 a3 a4 a5 r => k b o a1 a2 a3 a4 a5 (up b o a1 r)⟩
  · show B ≤ ((s.heap.update S (Obj.mapSeq (·.push Value.none))).update S (Obj.mapSeq (·.pop))).objs.size
    rw [Heap.size_update, Heap.size_update]; exact hB2
  · obtain ⟨o, e, q⟩ := Z.l1; exact ⟨o, up _ _ m6.symm e, q⟩
  · obtain ⟨o, e, q⟩ := Z.l2; exact ⟨o, up _ _ m7.symm e, q⟩
theorem zip_init (hh : A.handled = none) (Z : Zip0 s.heap z TI TO p1 p2 t1 t2 xs ys) (hSa : S ≠ z ∧ S ≠ TO ∧ S ≠ p1 ∧ S ≠ p2 ∧ S ≠ TI ∧ S ≠ t1 ∧ S ≠ t2) (hB : z < B ∧ TO < B ∧ p1 < B ∧ p2 < B ∧ S < B) (hB2 : B ≤ s.heap.objs.size) (hn : min xs.size ys.size ≤ sizeLine)
    (hS : s.heap.get? S = some { cls := .type "list", data := .seq #[] }) (hR : ZipEnd S z TO p1 p2 B xs ys s (R (.ok (.ret .none)))) :
    wpAny (model prog w) A.in1 (Builtin.«list.__init__» ⟨[.ref S, .ref z], []⟩) (fun fin s' => match fin with | .done f => R (.ok f) s' | .again c' => c'.quiet = true ∧ codeAny (model prog w) A c' R s') (fun e s' => R (.error e) s') s := by
  show wpAny _ A.in1 (do
    let old ← Builtin.List.listItems (.ref S)
    Builtin.List.listUpdate (.ref S) (fun _ => #[])
    letGo old.toList.reverse
    Builtin.List.listExtendWith (.ref S) (.ref z) .none) _ _ s
  refine wpAny_bind ?_
  unfold Builtin.List.listItems
  refine wpAny_bind (wpAny_seqItems hS rfl (wpAny_pure ?_))
  show wpAny _ A.in1 (updateSeq S (fun _ => #[]) >>= fun _ => letGo (#[] : Array Value).toList.reverse >>= fun _ => Builtin.List.listExtendWith (.ref S) (.ref z) .none) _ _ s
  refine wpAny_bind (wpAny_updateSeq hS rfl (wpAny_bind (wpAny_letGo ?_)))
  have hS2 := Heap.get?_update_self (Obj.mapSeq (fun _ => (#[] : Array Value))) hS rfl
  have up : ∀ b o, b ≠ S → s.heap.get? b = some o → (s.heap.update S (Obj.mapSeq (fun _ => (#[] : Array Value)))).get? b = some o := fun b o nb q => (Heap.get?_update_other _ _ (Ne.symm nb)).trans q
  obtain ⟨m1, m2, m3, m4, m5, m6, m7⟩ := id hSa
  refine zip_extend (s := { s with heap := s.heap.update S (Obj.mapSeq (fun _ => (#[] : Array Value))) }) hh ⟨Z.D, up _ _ m1.symm Z.hz, up _ _ m5.symm Z.hTI, up _ _ m2.symm Z.hTO, Z.i1.at fun o q => up _ o m3.symm q, Z.i2.at fun o q => up _ o m4.symm q, ?_, ?_⟩ hSa hB ?_ hn hS2 fun h' as c e1 nd P q k => hR h' as c e1 nd P q fun b o a1 a2 a3 a4 a5 r => k b o a1 a2 a3 a4 a5 (up b o a1 r)
  · obtain ⟨o, e, q⟩ := Z.l1; exact ⟨o, up _ _ m6.symm e, q⟩
  · obtain ⟨o, e, q⟩ := Z.l2; exact ⟨o, up _ _ m7.symm e, q⟩
  · show B ≤ (s.heap.update S (Obj.mapSeq (fun _ => (#[] : Array Value)))).objs.size
    rw [Heap.size_update]; exact hB2
theorem call_listZip {Q : Value → Shared → Prop} (hh : A.handled = none) (Z : Zip0 s.heap z TI TO p1 p2 t1 t2 xs ys) (hn : min xs.size ys.size ≤ sizeLine)
    (hQ : ZipEnd s.heap.objs.size z TO p1 p2 (s.heap.objs.size + 1) xs ys { s with heap := s.heap.push { cls := .type "list", data := .seq #[] } } (Q (.ref s.heap.objs.size))) : wpAny (model prog w) A (call (.type "list") [.ref z]) Q E s := by
  refine callType_codes (Q₁ := fun obj u => obj = .ref s.heap.objs.size ∧ u = { s with heap := s.heap.push { cls := .type "list", data := .seq #[] } }) F.called_list (F.typeCall_list_1 _) F.entry_list_init (code_list_new _ ⟨rfl, rfl⟩) fun obj u hu => ?_
  obtain ⟨rfl, rfl⟩ := hu
  have hS : (s.heap.push { cls := .type "list", data := .seq #[] }).get? s.heap.objs.size = some { cls := .type "list", data := .seq #[] } := Heap.get?_push_size _ rfl
  obtain ⟨a1, b1, b2, b3, b4⟩ := Z.apart (Nat.le_refl _)
  refine ⟨⟨_, hS, rfl⟩, F.args_list_init_2 _ _, zip_init (s := { s with heap := s.heap.push { cls := .type "list", data := .seq #[] } }) hh (Z.kept fun b o q => Heap.get?_push_of_some _ q) a1 ⟨Nat.lt_succ_of_lt b1, Nat.lt_succ_of_lt b2, Nat.lt_succ_of_lt b3, Nat.lt_succ_of_lt b4, Nat.lt_succ_self _⟩ (by show _ ≤ (s.heap.push _).objs.size; rw [Heap.size_push]; exact Nat.le_refl _) hn hS fun h' as c e1 nd P q k => ⟨rfl, hQ h' as c e1 nd P q k⟩⟩
end
/-! ### as a rule -/
def rZipL (K : PySem.W.Frag) : List V → Hp → VK → Prop := fun vs H Q => ∃ (a b : Addr) (xs ys : List V), vs = [.ref a, .ref b] ∧ SqT K H a xs ∧ SqT K H b ys ∧
  ∀ (H' : Hp) (p : Addr) (as : List Addr), (∀ b o, H b = some o → H' b = some o) → H p = none → (∀ t ∈ as, H t = none) → p ∉ as → H' p = some (.lst (as.map V.ref)) → as.length = min xs.length ys.length →
    (∀ (j : Nat) (t : Addr), as[j]? = some t → ∃ x y, xs[j]? = some x ∧ ys[j]? = some y ∧ H' t = some (.tup [x, y])) → Q (.ref p) H'
section
variable {X : Cx} {a b : Expr} {t : TA} {p p2 pos pos2 : Pos}
theorem min_get {α : Type} {xs : List α} {j : Nat} (h : j < xs.length) : xs[j]? = some xs[j] := List.getElem?_eq_getElem h
theorem pe_listZip (hc : X.calm = true) (hg : Gl X "list") (hm : X.mg "list" = none) (hg2 : Gl X "zip") (hm2 : X.mg "zip" = none) (ha : PA X [a, b] t) (hs : starEach [a, b] X.env = (false, eval a X.env) :: starEach [b] X.env) (hpl : (backTo pos2 (starEach [b] X.env)).any (·.1) = false) :
    PE X (.Call (.Name "list" p) [.Call (.Name "zip" p2) [a, b] [] pos2] [] pos) (fun σ H Q => t σ H fun vs H1 => rZipL X.K vs H1 Q) := by
  refine ⟨fun pins s σ H Q I h => ?_⟩
  refine Call_ (ld_blt I hg hm PyProof.Rows.boot_list (PyProof.Rows.callWith_type1 (args_cons (Call_ (ld_blt I hg2 hm2 PyProof.Rows.boot_zip (PyProof.Rows.callWith_type1 (thn (ha.run pos2 pins s σ H _ I h) fun us s1 ⟨vs, H1, I1, r1, q1⟩ => ?_) hs hpl))) rfl) rfl rfl))
  obtain ⟨ta, tb, xs, ys, rfl, h1, h2, q⟩ := q1
  obtain ⟨ua, ub, rfl, ra, rb⟩ := vals2 r1
  cases ra; cases rb
  obtain ⟨its, rx, px, zx⟩ := I1.tuple h1
  obtain ⟨jts, ry, py, zy⟩ := I1.tuple h2
  obtain ⟨oa, ea, _⟩ := id px
  obtain ⟨ob, eb, _⟩ := id py
  have la : ta < s1.heap.objs.size := Heap.lt_size ea
  have lb : tb < s1.heap.objs.size := Heap.lt_size eb
  refine RZ.call_zipT (show s1.heap.IsTuple ta its.toArray from px) (show s1.heap.IsTuple tb jts.toArray from py) fun g z1 z2 z3 z4 z5 z6 z7 => args_nil ?_
  have D : ZipApart (s1.heap.objs.size + 4) (s1.heap.objs.size + 2) (s1.heap.objs.size + 3) s1.heap.objs.size (s1.heap.objs.size + 1) ta tb := by
    constructor <;> (intro e; simp only [Addr] at *; omega)
  have Z : Zip0 g (s1.heap.objs.size + 4) (s1.heap.objs.size + 2) (s1.heap.objs.size + 3) s1.heap.objs.size (s1.heap.objs.size + 1) ta tb its.toArray jts.toArray := ⟨D, z1, z2, z3, z4, z5, IsTuple.kept px z7, IsTuple.kept py z7⟩
  have sx : its.toArray.size = xs.length := by rw [List.size_toArray, rx.length]
  have sy : jts.toArray.size = ys.length := by rw [List.size_toArray, ry.length]
  refine call_listZip (s := { s1 with heap := g }) (I1.ok.hd hc) Z (by rw [sx]; exact Nat.le_trans (Nat.min_le_left _ _) zx) fun h' as c el nd P hS k => ?_
  rw [sx, sy] at el
  have low : ∀ t' ∈ as, g.objs.size + 1 ≤ t' := fun t' ht => by
    obtain ⟨j, hj⟩ := List.getElem?_of_mem ht
    exact (P j t' hj).1
  have kk : ∀ b o, s1.heap.get? b = some o → h'.get? b = some o := fun b o e => by
    have hb := Heap.lt_size e
    have ne : ∀ n, s1.heap.objs.size ≤ n → b ≠ n := fun n hn => Nat.ne_of_lt (Nat.lt_of_lt_of_le hb hn)
    exact k b o (ne _ (by show _ ≤ g.objs.size; rw [z6]; exact Nat.le_add_right _ _)) (ne _ (Nat.le_add_right _ _)) (ne _ (Nat.le_add_right _ _)) (ne _ (Nat.le_refl _)) (ne _ (Nat.le_add_right _ _)) (Heap.get?_push_of_some _ (z7 b o e))
  have hpn : g.objs.size ∉ as := fun hm => Nat.lt_irrefl _ (low _ hm)
  have ge : s1.heap.objs.size ≤ g.objs.size := by rw [z6]; omega
  have fr : ∀ t' ∈ as, H1 t' = none := fun t' ht => I1.hok.fresh (Nat.le_trans ge (Nat.le_trans (Nat.le_succ _) (low t' ht)))
  have frp : H1 g.objs.size = none := I1.hok.fresh ge
  let ps := xs.zip ys
  let H' := putP (upd H1 g.objs.size (.lst (as.map V.ref))) as ps
  have off : ∀ b, b ∉ as → b ≠ g.objs.size → H' b = H1 b := fun b n1 n2 => (putP_off as ps _ n1).trans (upd_ne n2)
  have kp : ∀ b u, H1 b = some u → H' b = some u := fun b u e => by
    rw [off b (fun z => by rw [fr b z] at e; cases e) (fun z => by rw [z, frp] at e; cases e)]
    exact e
  have atS : H' g.objs.size = some (.lst (as.map V.ref)) := (putP_off as ps _ hpn).trans upd_same
  have atP : ∀ (j : Nat) (t' : Addr), as[j]? = some t' → ∃ x y, xs[j]? = some x ∧ ys[j]? = some y ∧ H' t' = some (.tup [x, y]) := fun j t' hj => by
    have hl := (List.getElem?_eq_some_iff.mp hj).1
    have h3 : j < xs.length := by omega
    have h4 : j < ys.length := by omega
    refine ⟨xs[j], ys[j], min_get h3, min_get h4, ?_⟩
    exact putP_at as ps _ j t' (xs[j], ys[j]) nd hj (by rw [List.getElem?_zip_eq_some]; exact ⟨min_get h3, min_get h4⟩)
  have hob : ∀ b u, s1.heap.objs.size ≤ b → H' b = some u → ObjOk X.prog X.w H' h' b u := fun b u hb e => by
    by_cases hb2 : b = g.objs.size
    · subst hb2
      rw [atS] at e; cases e
      refine ⟨by rw [List.length_map]; omega, as.map Value.ref, c, refs as, hS⟩
    · by_cases hb3 : b ∈ as
      · obtain ⟨j, hj⟩ := List.getElem?_of_mem hb3
        obtain ⟨x, y, e1, e2, e3⟩ := atP j b hj
        rw [e3] at e; cases e
        obtain ⟨_, u, v, f1, f2, f3⟩ := P j b hj
        obtain ⟨u', g1, g2⟩ := Vals.get rx e1
        obtain ⟨v', g3, g4⟩ := Vals.get ry e2
        have : u = u' := by have := f1; simp at this; rw [g1] at this; exact (Option.some.inj this).symm
        subst this
        have : v = v' := by have := f2; simp at this; rw [g3] at this; exact (Option.some.inj this).symm
        subst this
        exact ⟨by show 2 ≤ sizeLine; decide, [u, v], .cons g2 (.cons g4 .nil), ⟨_, f3, rfl, _, rfl⟩⟩
      · rw [off b hb3 hb2, I1.hok.fresh hb] at e; cases e
  have J : Inv X pins σ H' { s1 with heap := h', toks := s1.toks } := by
    refine Inv.many (s := s1) I1 kk kp (fun b hb => off b (fun z => Nat.lt_irrefl _ (Nat.lt_of_lt_of_le hb (Nat.le_trans ge (Nat.le_trans (Nat.le_succ _) (low b z))))) (Nat.ne_of_lt (Nat.lt_of_lt_of_le hb ge))) (fun b u hb e => ?_)
    exact hob b u hb e
  exact ⟨.ref g.objs.size, H', J, rfl, q H' _ as kp frp fr hpn atS el atP⟩
where
  refs : ∀ as : List Addr, Vals (as.map V.ref) (as.map Value.ref)
    | [] => .nil
    | _ :: as => .cons rfl (refs as)
end
end Ev
set_option Elab.async false
set_option linter.all false
set_option maxRecDepth 100000
set_option maxHeartbeats 4000000
/-! E14g: min, max, len of an own object, list(zip(..)), targets with a star, in the evaluator. -/
namespace Ev
open PySem PySem.Spec PyProof.Rows L2
/-! ### min, max -/
def fMin (ws : List W) : M W := fun h => match ws with
  | [.d (.int i), .d (.int j)] => .ok (wI (if j < i then j else i)) h
  | [.d (.tuple [.str x, .int i]), .d (.tuple [.str y, .int j])] => if x = y then .ok (if j < i then .d (.tuple [.str y, .int j]) else .d (.tuple [.str x, .int i])) h else .no
  | _ => .no
def fMax (ws : List W) : M W := fun h => match ws with
  | [.d (.int i), .d (.int j)] => .ok (wI (if j > i then j else i)) h
  | [.d (.tuple [.str x, .int i]), .d (.tuple [.str y, .int j])] => if x = y then .ok (if i < j then .d (.tuple [.str y, .int j]) else .d (.tuple [.str x, .int i])) h else .no
  | _ => .no
section
variable {X : Cx} {G : GA} (hK : X.K = G.K)
include hK
theorem tup2 {c : Cf} {v : V} {x : Str} {i : Int} (h : RW G c v (.d (.tuple [.str x, .int i]))) : ∃ a, v = .ref a ∧ SqT X.K c.H a [.str x, .int i] := by
  obtain ⟨a, xs, rfl, h1, r⟩ := rTup h
  cases r with
  | cons r1 r =>
    cases r with
    | cons r2 r =>
      cases r
      cases r1; cases r2
      exact ⟨a, rfl, by rw [hK]; exact h1⟩
theorem min_ok (hc : X.calm = true) (hu : X.A.units + 64 < cLine) : ∃ r, CallR X (.builtin "min") r ∧ CallS G fMin r := by
  refine ⟨_, (call_min2 hc).or (call_min2T hc hu), fun c xs ws Q E k rx h => ?_⟩
  unfold fMin at h
  split at h
  · rename_i i j
    obtain ⟨v, v', rfl, r1, r2⟩ := rwl2 rx
    rw [rInt r1, rInt r2]
    exact .inl ⟨i, j, rfl, h.here k _ (.int _)⟩
  · rename_i x i y j
    obtain ⟨v, v', rfl, r1, r2⟩ := rwl2 rx
    split at h
    · rename_i e
      subst e
      obtain ⟨a, rfl, h1⟩ := tup2 hK r1
      obtain ⟨b, rfl, h2⟩ := tup2 hK r2
      refine .inr ⟨a, b, x, i, j, rfl, h1, h2, ?_⟩
      by_cases q : j < i
      · rw [if_pos q] at h ⊢; exact h.here k _ r2
      · rw [if_neg q] at h ⊢; exact h.here k _ r1
    · exact h.elim
  · exact h.elim
theorem max_ok (hc : X.calm = true) (hu : X.A.units + 64 < cLine) : ∃ r, CallR X (.builtin "max") r ∧ CallS G fMax r := by
  refine ⟨_, (call_max2 hc).or (call_max2T hc hu), fun c xs ws Q E k rx h => ?_⟩
  unfold fMax at h
  split at h
  · rename_i i j
    obtain ⟨v, v', rfl, r1, r2⟩ := rwl2 rx
    rw [rInt r1, rInt r2]
    exact .inl ⟨i, j, rfl, h.here k _ (.int _)⟩
  · rename_i x i y j
    obtain ⟨v, v', rfl, r1, r2⟩ := rwl2 rx
    split at h
    · rename_i e
      subst e
      obtain ⟨a, rfl, h1⟩ := tup2 hK r1
      obtain ⟨b, rfl, h2⟩ := tup2 hK r2
      refine .inr ⟨a, b, x, i, j, rfl, h1, h2, ?_⟩
      by_cases q : i < j
      · rw [if_pos q] at h ⊢; exact h.here k _ r2
      · rw [if_neg q] at h ⊢; exact h.here k _ r1
    · exact h.elim
  · exact h.elim
def bfun2 (x : Str) : Option (List W → M W) := if x == "min" then some fMin else if x == "max" then some fMax else none
theorem bfun2_ok (hc : X.calm = true) (hu : X.A.units + 64 < cLine) {x : Str} {f : List W → M W} (h : bfun2 x = some f) : ∃ id r, bootBuiltins x = some (.builtin id) ∧ CallR X (.builtin id) r ∧ CallS G f r := by
  unfold bfun2 at h
  split at h
  · rename_i e; cases h; rw [eq_of_beq e]
    obtain ⟨r, h1, h2⟩ := min_ok (X := X) hK hc hu; exact ⟨_, r, by decide +kernel, h1, h2⟩
  · split at h
    · rename_i e; cases h; rw [eq_of_beq e]
      obtain ⟨r, h1, h2⟩ := max_ok (X := X) hK hc hu; exact ⟨_, r, by decide +kernel, h1, h2⟩
    · cases h
end
section
variable {T : Tb} {G : GA} {CM : FId → List W → M W} {k : Nat} {sc : Sc} {a b e : Expr} {es : List Expr} {mr : EnvW → M (List W)} {ma : ME} {pos p p2 pos2 : Pos} {x : Str} {f : List W → M W}
theorem se_bfun2 (hg : isGlob sc x = true) (hf : x ∈ T.free) (hb : bfun2 x = some f) (ha : SA T G CM k sc (e :: es) mr) (hs : (e :: es).all noStar = true) : SE T G CM k sc (.Call (.Name x p) (e :: es) [] pos) (eFun f mr) := fun X Wx F => by
  obtain ⟨id, r, h1, h2, h3⟩ := bfun2_ok (X := X) F.K F.calm F.room.units hb
  rw [List.all_cons, Bool.and_eq_true] at hs
  refine PE.imp (pe_callB h2 (F.gl hg) (F.top.free x hf) h1 (ha X Wx F) (glob_ok hg).2.2 (glob_ok hg).2.1 (noStar_each hs.1 es X.env) (noStar_any hs.2 pos X.env)) fun σ H Q ⟨c, env, e, ok, re, q⟩ => ?_
  subst e
  exact tA.step ok re q fun ws c1 vs e1 ok1 re1 rvs q1 => h3 c1 vs ws Q _ ok1 rvs q1
/-! ### list(zip(a, b)) -/
def zipL (ws : List W) : M W := fun h => match ws with
  | [.d (.tuple xs), .d (.tuple ys)] => .ok (.r h.length) (h ++ [.lst (zipD xs ys)])
  | _ => .no
theorem Cf.grow_ext {c : Cf} {H' : Hp} (kp : ∀ b o, c.H b = some o → H' b = some o) : c.ext { c with H := H' } := ⟨fun _ _ h => h, fun b o h l => ⟨kp b o h, l⟩, fun i b o h1 h2 h3 => ⟨kp b o h3, h2⟩, fun i b kvs o h1 h2 h3 => ⟨kp b o h3, h2⟩⟩
theorem Cf.grow_ok {c : Cf} {H' : Hp} (k : c.ok G) (kp : ∀ b o, c.H b = some o → H' b = some o) : ({ c with H := H' } : Cf).ok G := ⟨k.len, k.nd, fun i b o h1 h2 => by
  obtain ⟨u, hu⟩ := k.there h1
  exact (k.obj i b o h1 h2).mono (Cf.grow_ext kp) (by show H' b = c.H b; rw [kp b u hu, hu])⟩
theorem zipL_ok {X : Cx} (hK : X.K = G.K) : CallS G zipL (rZipL X.K) := fun c xs ws Q E k rx h => by
  unfold zipL at h
  split at h
  · rename_i ds es
    obtain ⟨v, v', rfl, r1, r2⟩ := rwl2 rx
    obtain ⟨pa, us, rfl, h1, s1⟩ := rTup r1
    obtain ⟨pb, vs, rfl, h2, s2⟩ := rTup r2
    refine ⟨pa, pb, us, vs, rfl, by rw [hK]; exact h1, by rw [hK]; exact h2, fun H' p as kp hp has hpn atS el atP => ?_⟩
    let H0 : Hp := fun b => if b = p then none else H' b
    have kp0 : ∀ b o, c.H b = some o → H0 b = some o := fun b o e => by
      show (if b = p then none else H' b) = some o
      rw [if_neg (fun z => by rw [z, hp] at e; cases e)]; exact kp b o e
    have eH : upd H0 p (.lst (as.map V.ref)) = H' := by
      funext b
      unfold upd
      by_cases hb : b = p
      · rw [if_pos hb, hb, atS]
      · rw [if_neg hb]; show (if b = p then none else H' b) = _; rw [if_neg hb]
    have ok0 := Cf.grow_ok k kp0
    have ex0 := Cf.grow_ext kp0
    have hp0 : ({ c with H := H0 } : Cf).H p = none := if_pos rfl
    have ex1 := Cf.new_ext (o := .lst (as.map V.ref)) (ao := .lst (zipD ds es)) ok0 hp0
    have exA := ex0.trans ex1
    have items : RWL G (({ c with H := H0 } : Cf).new p (.lst (as.map V.ref)) (.lst (zipD ds es))) (as.map V.ref) (zipD ds es) := by
      have hlen : as.length = (zipD ds es).length := by rw [el, s1.length, s2.length]; simp [zipD]
      refine paired_of (by simpa using hlen) fun j x y e1 e2 => ?_
      rw [List.getElem?_map] at e1
      cases ea : as[j]? with
      | none => rw [ea] at e1; cases e1
      | some t =>
        rw [ea] at e1
        cases e1
        obtain ⟨x', y', g1, g2, g3⟩ := atP j t ea
        obtain ⟨x2, y2, dx, dy, f1, f2, f3, f4, f5⟩ := zipD_at s1 s2 (List.getElem?_eq_some_iff.mp e2).1
        rw [g1] at f1; cases f1
        rw [g2] at f2; cases f2
        rw [e2] at f5; cases f5
        have nl : ¬ (({ c with H := H0 } : Cf).new p (.lst (as.map V.ref)) (.lst (zipD ds es))).live t := fun ⟨i, hi⟩ => by
          have hi : (c.μ ++ [p])[i]? = some t := hi
          have hm : t ∈ as := List.mem_of_getElem? ea
          have := List.mem_of_getElem? hi
          rcases List.mem_append.mp this with q | q
          · obtain ⟨i', hi'⟩ := List.getElem?_of_mem q
            obtain ⟨u, hu⟩ := k.there hi'
            rw [has t hm] at hu; cases hu
          · rw [List.mem_singleton.mp q] at hm; exact hpn hm
        exact .tup nl (.inl (by show upd H0 p _ t = _; rw [eH]; exact g3)) (.cons (Rp.mono exA f3) (.cons (Rp.mono exA f4) .nil))
    have ok1 : (({ c with H := H0 } : Cf).new p (.lst (as.map V.ref)) (.lst (zipD ds es))).ok G := Cf.new_ok ok0 hp0 ⟨_, upd_same, items⟩
    have := h _ exA ok1 rfl (.ref p) ⟨p, rfl, by show (c.μ ++ [p])[c.ah.length]? = some p; rw [← k.len]; simp⟩
    rw [show (({ c with H := H0 } : Cf).new p (.lst (as.map V.ref)) (.lst (zipD ds es))).H = H' from eH] at this
    exact this
  · exact h.elim
where
  paired_of {α β : Type} {R : α → β → Prop} : ∀ {xs : List α} {ys : List β}, xs.length = ys.length → (∀ (j : Nat) (x : α) (y : β), xs[j]? = some x → ys[j]? = some y → R x y) → Paired R xs ys
    | [], [], _, _ => .nil
    | [], _ :: _, h, _ => by simp at h
    | _ :: _, [], h, _ => by simp at h
    | x :: xs, y :: ys, h, f => .cons (f 0 x y rfl rfl) (paired_of (by simpa using h) fun j a b h1 h2 => f (j + 1) a b (by simpa using h1) (by simpa using h2))
theorem se_zipL (hg : isGlob sc "list" = true) (hf : ("list" : Str) ∈ T.free) (hg2 : isGlob sc "zip" = true) (hf2 : ("zip" : Str) ∈ T.free) (ha : SA T G CM k sc [a, b] mr) (hs : noStar a = true) (hs2 : noStar b = true) : SE T G CM k sc (.Call (.Name "list" p) [.Call (.Name "zip" p2) [a, b] [] pos2] [] pos) (eFun zipL mr) := fun X Wx F => by
  refine PE.imp (pe_listZip F.calm (F.gl hg) (F.top.free _ hf) (F.gl hg2) (F.top.free _ hf2) (ha X Wx F) (noStar_each hs [b] X.env) (noStar_any (es := [b]) (by simp [hs2]) pos2 X.env)) fun σ H Q ⟨c, env, e, ok, re, q⟩ => ?_
  subst e
  exact tA.step ok re q fun ws c1 vs e1 ok1 re1 rvs q1 => zipL_ok F.K c1 vs ws Q _ ok1 rvs q1
end
end Ev
set_option Elab.async false
set_option linter.all false
set_option maxRecDepth 100000
set_option maxHeartbeats 4000000
/-! E14i: new objects that come to an end: data of them; that a value made anew may be read as data. -/
namespace Ev
open PySem PySem.Spec PyProof.Rows L2
/-- no object of it is a new one -/
def W.clos (n : Nat) : W → Prop
  | .r i => i < n
  | _ => True
def AO.clos (n : Nat) : AO → Prop
  | .lst ws => ∀ w ∈ ws, w.clos n
  | .dic kvs => ∀ p ∈ kvs, p.2.clos n
  | .ins _ fs => ∀ p ∈ fs, p.2.clos n
  | .tup ws => ∀ w ∈ ws, w.clos n
  | .dead => False
  | .rod kvs => ∀ p ∈ kvs, p.2.clos n
def Fine (h0 h1 : AH) : Prop := ∀ (i : Nat) (o : AO), i < h0.length → h1[i]? = some o → h0[i]? = some o ∨ o.clos h0.length
/-! ### that it is decided -/
mutual
def eqD : PyData → PyData → Bool
  | .none, .none => true
  | .bool a, .bool b => decide (a = b)
  | .int a, .int b => decide (a = b)
  | .str a, .str b => decide (a = b)
  | .list a, .list b => eqDs a b
  | .tuple a, .tuple b => eqDs a b
  | .dict a, .dict b => eqKv a b
  | _, _ => false
def eqDs : List PyData → List PyData → Bool
  | [], [] => true
  | a :: r, b :: s => eqD a b && eqDs r s
  | _, _ => false
def eqKv : List (PyData × PyData) → List (PyData × PyData) → Bool
  | [], [] => true
  | (a, c) :: r, (b, d) :: s => (eqD a b && eqD c d) && eqKv r s
  | _, _ => false
end
mutual
theorem eqD_ok : ∀ {a b : PyData}, eqD a b = true → a = b
  | a, b, h => by
    unfold eqD at h
    split at h
    · rfl
    · rw [of_decide_eq_true h]
    · rw [of_decide_eq_true h]
    · rw [of_decide_eq_true h]
    · rw [eqDs_ok h]
    · rw [eqDs_ok h]
    · rw [eqKv_ok h]
    · cases h
theorem eqDs_ok : ∀ {a b : List PyData}, eqDs a b = true → a = b
  | [], [], _ => rfl
  | [], _ :: _, h => by unfold eqDs at h; cases h
  | _ :: _, [], h => by unfold eqDs at h; cases h
  | a :: r, b :: s, h => by
    unfold eqDs at h
    obtain ⟨h1, h2⟩ := Bool.and_eq_true_iff.mp h
    rw [eqD_ok h1, eqDs_ok h2]
theorem eqKv_ok : ∀ {a b : List (PyData × PyData)}, eqKv a b = true → a = b
  | [], [], _ => rfl
  | [], _ :: _, h => by unfold eqKv at h; cases h
  | _ :: _, [], h => by unfold eqKv at h; cases h
  | (a, c) :: r, (b, d) :: s, h => by
    unfold eqKv at h
    obtain ⟨h1, h2⟩ := Bool.and_eq_true_iff.mp h
    obtain ⟨h0, h1⟩ := Bool.and_eq_true_iff.mp h1
    rw [eqD_ok h0, eqD_ok h1, eqKv_ok h2]
end
mutual
theorem eqD_rfl : ∀ a : PyData, eqD a a = true
  | .none => by simp [eqD]
  | .bool a => by simp [eqD]
  | .int a => by simp [eqD]
  | .str a => by simp [eqD]
  | .list a => by simp only [eqD]; exact eqDs_rfl a
  | .tuple a => by simp only [eqD]; exact eqDs_rfl a
  | .dict a => by simp only [eqD]; exact eqKv_rfl a
theorem eqDs_rfl : ∀ a : List PyData, eqDs a a = true
  | [] => by simp [eqDs]
  | a :: r => by simp only [eqDs, eqD_rfl a, eqDs_rfl r, Bool.and_self]
theorem eqKv_rfl : ∀ a : List (PyData × PyData), eqKv a a = true
  | [] => by simp [eqKv]
  | (a, c) :: r => by simp only [eqKv, eqD_rfl a, eqD_rfl c, eqKv_rfl r, Bool.and_self]
end
def eqW : W → W → Bool
  | .d a, .d b => eqD a b
  | .r i, .r j => decide (i = j)
  | .fn a, .fn b => decide (a = b)
  | .ex a, .ex b => decide (a = b)
  | _, _ => false
theorem eqW_ok {a b : W} (h : eqW a b = true) : a = b := by
  unfold eqW at h
  split at h
  · rw [eqD_ok h]
  · rw [of_decide_eq_true h]
  · rw [of_decide_eq_true h]
  · rw [of_decide_eq_true h]
  · cases h
theorem eqW_rfl (a : W) : eqW a a = true := by cases a <;> simp [eqW, eqD_rfl]
def eqL {α : Type} (f : α → α → Bool) : List α → List α → Bool
  | [], [] => true
  | a :: r, b :: s => f a b && eqL f r s
  | _, _ => false
theorem eqL_ok {α : Type} {f : α → α → Bool} (hf : ∀ a b, f a b = true → a = b) : ∀ {a b : List α}, eqL f a b = true → a = b
  | [], [], _ => rfl
  | [], _ :: _, h => by cases h
  | _ :: _, [], h => by cases h
  | a :: r, b :: s, h => by
    obtain ⟨h1, h2⟩ := Bool.and_eq_true_iff.mp (show (f a b && eqL f r s) = true from h)
    rw [hf a b h1, eqL_ok hf h2]
theorem eqL_rfl {α : Type} {f : α → α → Bool} (hf : ∀ a, f a a = true) : ∀ a : List α, eqL f a a = true
  | [] => rfl
  | a :: r => by show (f a a && eqL f r r) = true; rw [hf a, eqL_rfl hf r]; rfl
def eqAO : AO → AO → Bool
  | .lst a, .lst b => eqL eqW a b
  | .dic a, .dic b => eqL (fun p q => eqD p.1 q.1 && eqW p.2 q.2) a b
  | .ins c a, .ins d b => decide (c = d) && eqL (fun p q => decide (p.1 = q.1) && eqW p.2 q.2) a b
  | .tup a, .tup b => eqL eqW a b
  | .dead, .dead => true
  | .rod a, .rod b => eqL (fun p q => eqD p.1 q.1 && eqW p.2 q.2) a b
  | _, _ => false
theorem eqAO_ok {a b : AO} (h : eqAO a b = true) : a = b := by
  unfold eqAO at h
  split at h
  · rw [eqL_ok (fun _ _ => eqW_ok) h]
  · rw [eqL_ok (fun p q h => by
      obtain ⟨h1, h2⟩ := Bool.and_eq_true_iff.mp h
      exact Prod.ext (eqD_ok h1) (eqW_ok h2)) h]
  · obtain ⟨h1, h2⟩ := Bool.and_eq_true_iff.mp h
    rw [of_decide_eq_true h1, eqL_ok (fun p q h => by
      obtain ⟨h1, h2⟩ := Bool.and_eq_true_iff.mp h
      exact Prod.ext (of_decide_eq_true h1) (eqW_ok h2)) h2]
  · rw [eqL_ok (fun _ _ => eqW_ok) h]
  · rfl
  · rw [eqL_ok (fun p q h => by
      obtain ⟨h1, h2⟩ := Bool.and_eq_true_iff.mp h
      exact Prod.ext (eqD_ok h1) (eqW_ok h2)) h]
  · cases h
theorem eqAO_rfl (a : AO) : eqAO a a = true := by
  cases a with
  | lst ws => exact eqL_rfl eqW_rfl ws
  | dic ws => exact eqL_rfl (fun p => by simp [eqD_rfl, eqW_rfl]) ws
  | ins c ws => show (decide (c = c) && _) = true; rw [decide_eq_true rfl, Bool.true_and]; exact eqL_rfl (fun p => by simp [eqW_rfl]) ws
  | tup ws => exact eqL_rfl eqW_rfl ws
  | dead => rfl
  | rod ws => exact eqL_rfl (fun p => by simp [eqD_rfl, eqW_rfl]) ws
def W.closB (n : Nat) : W → Bool
  | .r i => decide (i < n)
  | _ => true
theorem W.closB_iff {n : Nat} {w : W} : w.closB n = true ↔ w.clos n := by cases w <;> simp [W.closB, W.clos]
def AO.closB (n : Nat) : AO → Bool
  | .lst ws => ws.all (W.closB n)
  | .dic kvs => kvs.all fun p => p.2.closB n
  | .ins _ fs => fs.all fun p => p.2.closB n
  | .tup ws => ws.all (W.closB n)
  | .dead => false
  | .rod kvs => kvs.all fun p => p.2.closB n
theorem AO.closB_iff {n : Nat} {o : AO} : o.closB n = true ↔ o.clos n := by
  cases o <;> simp [AO.closB, AO.clos, W.closB_iff]
def fineGo (n : Nat) : AH → AH → Bool
  | o0 :: r0, o1 :: r1 => (eqAO o0 o1 || o1.closB n) && fineGo n r0 r1
  | _, _ => true
theorem fineGo_iff {n : Nat} : ∀ {h0 h1 : AH}, fineGo n h0 h1 = true ↔ ∀ (i : Nat) (o : AO), i < h0.length → h1[i]? = some o → h0[i]? = some o ∨ o.clos n
  | [], h1 => by simp [fineGo]
  | o0 :: r0, [] => by simp [fineGo]
  | o0 :: r0, o1 :: r1 => by
    rw [show fineGo n (o0 :: r0) (o1 :: r1) = ((eqAO o0 o1 || o1.closB n) && fineGo n r0 r1) from rfl, Bool.and_eq_true_iff, fineGo_iff, Bool.or_eq_true_iff, AO.closB_iff]
    constructor
    · intro ⟨h1, h2⟩ i o hi e
      cases i with
      | zero =>
        cases e
        rcases h1 with h1 | h1
        · left; rw [eqAO_ok h1]; rfl
        · exact .inr h1
      | succ i => exact h2 i o (by simpa using hi) (by simpa using e)
    · intro h
      refine ⟨?_, fun i o hi e => by simpa using h (i + 1) o (by simpa using hi) (by simpa using e)⟩
      rcases h 0 o1 (by simp) rfl with q | q
      · left; cases q; exact eqAO_rfl _
      · exact .inr q
def fineB (h0 h1 : AH) : Bool := fineGo h0.length h0 h1
theorem fineB_iff {h0 h1 : AH} : fineB h0 h1 = true ↔ Fine h0 h1 := fineGo_iff
def frzLw (f : W → Option PyData) : List W → Option (List PyData)
  | [] => some []
  | w :: ws => match f w, frzLw f ws with
    | some d, some ds => some (d :: ds)
    | _, _ => none
def frzDw (f : W → Option PyData) : List (PyData × W) → Option (List (PyData × PyData))
  | [] => some []
  | p :: ws => match f p.2, frzDw f ws with
    | some d, some ds => some ((p.1, d) :: ds)
    | _, _ => none
/-- a new list or dict as data -/
def frz (n : Nat) (h : AH) : Nat → W → Option PyData
  | 0, w => (match w with
    | .d x => some x
    | _ => none)
  | k + 1, w => match w with
    | .d x => some x
    | .r i => if n ≤ i then (match h[i]? with
      | some (.lst ws) => (frzLw (frz n h k) ws).map PyData.list
      | some (.dic kvs) => (frzDw (frz n h k) kvs).map PyData.dict
      | _ => none) else none
    | _ => none
abbrev frzL (n : Nat) (h : AH) (k : Nat) := frzLw (frz n h k)
abbrev frzD (n : Nat) (h : AH) (k : Nat) := frzDw (frz n h k)
def frzW (n : Nat) (h : AH) (w : W) : Option W := match w with
  | .r i => if i < n then some (.r i) else (frz n h 4 (.r i)).map W.d
  | w => some w
def outM (h0 : AH) (w : W) (h1 : AH) : R W := if fineB h0 h1 then (match frzW h0.length h1 w with
  | some w' => .ok w' (h1.take h0.length)
  | none => .ok w h1) else .ok w h1
/-! ### the state cut off -/
def Cf.cut (c : Cf) (n : Nat) : Cf := ⟨c.H, c.μ.take n, c.ah.take n⟩
theorem cut_live {c : Cf} {n : Nat} {a : Addr} (h : (c.cut n).live a) : c.live a := by
  obtain ⟨i, h⟩ := h
  have h : (c.μ.take n)[i]? = some a := h
  rw [List.getElem?_take] at h
  split at h
  · exact ⟨i, h⟩
  · cases h
theorem getE_take {α : Type} {l : List α} {n i : Nat} {x : α} : (l.take n)[i]? = some x ↔ i < n ∧ l[i]? = some x := by
  rw [List.getElem?_take]
  split
  · rename_i h; simp [h]
  · rename_i h; simp [h]
mutual
theorem Rp.cut {K : PySem.W.Frag} {c : Cf} {n : Nat} : ∀ {d : PyData} {v : V}, Rp K c v d → Rp K (c.cut n) v d
  | _, _, .non => .non
  | _, _, .bl b => .bl b
  | _, _, .int i => .int i
  | _, _, .str x => .str x
  | _, _, .lst l h r => .lst (fun q => l (cut_live q)) h (RpL.cut r)
  | _, _, .tup l h r => .tup (fun q => l (cut_live q)) h (RpL.cut r)
  | _, _, .tupK h r => .tupK h (RpL.cut r)
  | _, _, .dic l h r => .dic (fun q => l (cut_live q)) h (RpD.cut r)
theorem RpL.cut {K : PySem.W.Frag} {c : Cf} {n : Nat} : ∀ {ds : List PyData} {vs : List V}, RpL K c vs ds → RpL K (c.cut n) vs ds
  | _, _, .nil => .nil
  | _, _, .cons h r => .cons (Rp.cut h) (RpL.cut r)
theorem RpD.cut {K : PySem.W.Frag} {c : Cf} {n : Nat} : ∀ {ds : List (PyData × PyData)} {vs : List (Key × V)}, RpD K c vs ds → RpD K (c.cut n) vs ds
  | _, _, .nil => .nil
  | _, _, .cons h r => .cons (Rp.cut h) (RpD.cut r)
end
theorem RW.cut {G : GA} {c : Cf} {n : Nat} {v : V} : ∀ {w : W}, w.clos n → RW G c v w → RW G (c.cut n) v w
  | .d _, _, h => Rp.cut h
  | .r i, q, ⟨a, h1, h2⟩ => ⟨a, h1, getE_take.mpr ⟨q, h2⟩⟩
  | .fn _, _, h => h
  | .ex _, _, ⟨a, C, h1, h2, h3, h4⟩ => ⟨a, C, h1, h2, fun q => h3 (cut_live q), h4⟩
theorem Paired.cutP {α β : Type} {R R' : α → β → Prop} : ∀ {xs : List α} {ys : List β}, Paired R xs ys → (∀ x y, y ∈ ys → R x y → R' x y) → Paired R' xs ys
  | _, _, .nil, _ => .nil
  | _, _, .cons h r, f => .cons (f _ _ (List.mem_cons_self ..) h) (Paired.cutP r fun x y m => f x y (List.mem_cons_of_mem _ m))
theorem OR.cut {G : GA} {c : Cf} {n : Nat} {a : Addr} : ∀ {o : AO}, o.clos n → OR G c a o → OR G (c.cut n) a o
  | .lst _, q, ⟨xs, h1, r⟩ => ⟨xs, h1, Paired.cutP r fun x y m h => RW.cut (q y m) h⟩
  | .dic _, q, ⟨xs, h1, r⟩ => ⟨xs, h1, Paired.cutP r fun x y m h => ⟨h.1, RW.cut (q y m) h.2⟩⟩
  | .ins _ _, q, ⟨C, dx, xs, h1, h2, r⟩ => ⟨C, dx, xs, h1, h2, Paired.cutP r fun x y m h => ⟨h.1, RW.cut (q y m) h.2⟩⟩
  | .tup _, q, ⟨xs, h1, r⟩ => ⟨xs, h1, Paired.cutP r fun x y m h => RW.cut (q y m) h⟩
  | .dead, q, _ => q.elim
  | .rod _, q, ⟨xs, od, h1, r⟩ => ⟨xs, od, h1, Paired.cutP r fun x y m h => ⟨h.1, RW.cut (q y m) h.2⟩⟩
/-- what a state's object holds is of the state -/
theorem RW.in_ {G : GA} {c : Cf} (k : c.ok G) {v : V} : ∀ {w : W}, RW G c v w → w.clos c.ah.length
  | .d _, _ => trivial
  | .r i, ⟨a, h1, h2⟩ => by
    show i < c.ah.length
    rw [← k.len]; exact (List.getElem?_eq_some_iff.mp h2).1
  | .fn _, _ => trivial
  | .ex _, _ => trivial
theorem Paired.in_ {α β : Type} {R : α → β → Prop} {P : β → Prop} : ∀ {xs : List α} {ys : List β}, Paired R xs ys → (∀ x y, R x y → P y) → ∀ y ∈ ys, P y
  | _, _, .nil, _, y, m => by cases m
  | _, _, .cons h r, f, y, m => by
    cases m with
    | head => exact f _ _ h
    | tail _ m => exact Paired.in_ r f y m
theorem OR.in_ {G : GA} {c : Cf} (k : c.ok G) {a : Addr} : ∀ {o : AO}, OR G c a o → o = .dead ∨ o.clos c.ah.length
  | .lst _, ⟨xs, h1, r⟩ => .inr (Paired.in_ r fun x y h => RW.in_ k h)
  | .dic _, ⟨xs, h1, r⟩ => .inr (Paired.in_ r fun x y h => RW.in_ k h.2)
  | .ins _ _, ⟨C, dx, xs, h1, h2, r⟩ => .inr (Paired.in_ r fun x y h => RW.in_ k h.2)
  | .tup _, ⟨xs, h1, r⟩ => .inr (Paired.in_ r fun x y h => RW.in_ k h)
  | .dead, _ => .inl rfl
  | .rod _, ⟨xs, od, h1, r⟩ => .inr (Paired.in_ r fun x y h => RW.in_ k h.2)
theorem cut_ok {G : GA} {c c1 : Cf} (k : c.ok G) (e : c.ext c1) (k1 : c1.ok G) (f : Fine c.ah c1.ah) : c.ext (c1.cut c.ah.length) ∧ (c1.cut c.ah.length).ok G := by
  refine ⟨⟨fun i a h => ?_, fun a o h l => ?_, fun i a o h1 h2 h3 => ?_, fun i a kvs o h1 h2 h3 => ⟨(e.rod i a kvs o h1 h2 h3).1, getE_take.mpr ⟨(List.getElem?_eq_some_iff.mp h2).1, (e.rod i a kvs o h1 h2 h3).2⟩⟩⟩, ⟨?_, ?_, fun i a o h1 h2 => ?_⟩⟩
  · exact getE_take.mpr ⟨by rw [← k.len]; exact (List.getElem?_eq_some_iff.mp h).1, e.pre i a h⟩
  · exact ⟨(e.keep a o h l).1, fun q => (e.keep a o h l).2 (cut_live q)⟩
  · exact ⟨(e.dead i a o h1 h2 h3).1, getE_take.mpr ⟨(List.getElem?_eq_some_iff.mp h2).1, (e.dead i a o h1 h2 h3).2⟩⟩
  · show (c1.μ.take _).length = (c1.ah.take _).length
    rw [List.length_take, List.length_take, k1.len]
  · exact List.Sublist.nodup (List.take_sublist _ _) k1.nd
  · obtain ⟨hi, h1⟩ := getE_take.mp h1
    obtain ⟨_, h2⟩ := getE_take.mp h2
    have q := k1.obj i a o h1 h2
    rcases f i o hi h2 with h0 | h0
    · obtain ⟨a0, m0, o0⟩ := k.at h0
      rcases OR.in_ k o0 with rfl | hc
      · obtain ⟨u, hu⟩ := q
        exact ⟨u, hu⟩
      · exact OR.cut hc q
    · exact OR.cut h0 q
theorem frzLw_ok {G : GA} {c : Cf} {n : Nat} {f : W → Option PyData} (hf : ∀ (w : W) (d : PyData) (v : V), f w = some d → RW G c v w → Rp G.K (c.cut n) v d) : ∀ (ws : List W) (ds : List PyData) (vs : List V), frzLw f ws = some ds → RWL G c vs ws → RpL G.K (c.cut n) vs ds
  | [], ds, vs, h, r => by
    cases r
    cases h; exact .nil
  | w :: ws, ds, vs, h, r => by
    cases r with
    | cons r1 r2 =>
      unfold frzLw at h
      split at h
      · rename_i d ds' e1 e2
        cases h
        exact .cons (hf w d _ e1 r1) (frzLw_ok hf ws ds' _ e2 r2)
      · cases h
theorem frzDw_ok {G : GA} {c : Cf} {n : Nat} {f : W → Option PyData} (hf : ∀ (w : W) (d : PyData) (v : V), f w = some d → RW G c v w → Rp G.K (c.cut n) v d) : ∀ (ws : List (PyData × W)) (ds : List (PyData × PyData)) (vs : List (Key × V)), frzDw f ws = some ds → Paired (fun (p : Key × V) (q : PyData × W) => q.1 = keyD p.1 ∧ RW G c p.2 q.2) vs ws → RpD G.K (c.cut n) vs ds
  | [], ds, vs, h, r => by
    cases r
    cases h; exact .nil
  | w :: ws, ds, vs, h, r => by
    cases r with
    | @cons x y xs ys r1 r2 =>
      unfold frzDw at h
      split at h
      · rename_i d ds' e1 e2
        cases h
        obtain ⟨kk, v⟩ := x
        rw [show w.1 = keyD kk from r1.1]
        exact .cons (hf w.2 d _ e1 r1.2) (frzDw_ok hf ws ds' _ e2 r2)
      · cases h
theorem frz_ok {G : GA} {c : Cf} (ok : c.ok G) {n : Nat} : ∀ (k : Nat) (w : W) (d : PyData) (v : V), frz n c.ah k w = some d → RW G c v w → Rp G.K (c.cut n) v d
  | 0, w, d, v, h, r => by
    unfold frz at h
    split at h
    · cases h; exact Rp.cut r
    · cases h
  | k + 1, w, d, v, h, r => by
    unfold frz at h
    split at h
    · cases h; exact Rp.cut r
    · rename_i i
      obtain ⟨a, rfl, hm⟩ := r
      split at h
      · rename_i hn
        have nl : ¬ (c.cut n).live a := fun ⟨j, q⟩ => by
          obtain ⟨hj, q⟩ := getE_take.mp q
          have := ok.inj hm q
          omega
        split at h
        · rename_i ws hw
          obtain ⟨xs, h1, r1⟩ := ok.obj i a _ hm hw
          cases q : frzLw (frz n c.ah k) ws with
          | none => rw [q] at h; cases h
          | some ds =>
            rw [q] at h; cases h
            exact .lst nl (.inl h1) (frzLw_ok (frz_ok ok k) ws ds xs q r1)
        · rename_i ws hw
          obtain ⟨xs, h1, r1⟩ := ok.obj i a _ hm hw
          cases q : frzDw (frz n c.ah k) ws with
          | none => rw [q] at h; cases h
          | some ds =>
            rw [q] at h; cases h
            exact .dic nl (.inl h1) (frzDw_ok (frz_ok ok k) ws ds xs q r1)
        · cases h
      · cases h
    · cases h
theorem frzW_ok {G : GA} {c : Cf} (ok : c.ok G) {n : Nat} {w w' : W} {v : V} (h : frzW n c.ah w = some w') (r : RW G c v w) : RW G (c.cut n) v w' := by
  unfold frzW at h
  split at h
  · split at h
    · rename_i hi; cases h; exact RW.cut (w := .r _) hi r
    · rename_i i hi
      cases q : frz n c.ah 4 (.r i) with
      | none => rw [q] at h; cases h
      | some d => rw [q] at h; cases h; exact frz_ok ok 4 _ d v q r
  · cases h
    rename_i hne
    cases w with
    | r i => exact absurd rfl (hne i)
    | d x => exact RW.cut (w := .d x) trivial r
    | fn x => exact RW.cut (w := .fn x) trivial r
    | ex x => exact RW.cut (w := .ex x) trivial r
/-- what is wanted of the call is wanted of its body -/
theorem po_out {G : GA} {c c1 : Cf} {w : W} {v : V} {Q : V → Hp → Prop} {E : Str → Cf → Prop} (k : c.ok G) (e : c.ext c1) (k1 : c1.ok G) (h : Po G (outM c.ah w c1.ah) c (fun w c' => ∀ v, RW G c' v w → Q v c'.H) E) (r : RW G c1 v w) : Q v c1.H := by
  unfold outM at h
  split at h
  · rename_i hf
    split at h
    · rename_i w' hw
      obtain ⟨e2, k2⟩ := cut_ok k e k1 (fineB_iff.mp hf)
      exact h _ e2 k2 rfl v (frzW_ok k1 hw r)
    · exact h c1 e k1 rfl v r
  · exact h c1 e k1 rfl v r

/-! ### a value frozen as soon as it is made -/
def eOut (m : ME) : ME := fun env h => match m env h with
  | .ok w h1 => outM h w h1
  | r => r
theorem se_out {T : Tb} {G : GA} {CM : FId → List W → M W} {k : Nat} {sc : Sc} {e : Expr} {m : ME} (he : SE T G CM k sc e m) : SE T G CM k sc e (eOut m) := fun X Wx F => by
  refine PE.imp (he X Wx F) fun σ H Q ⟨c, env, e, ok, re, q⟩ => ⟨c, env, e, ok, re, ?_⟩
  unfold eOut at q
  cases r : m env c.ah with
  | no => rw [r] at q; exact q
  | ex x h' => rw [r] at q; exact q
  | ok w h1 =>
    rw [r] at q
    intro c1 e1 k1 q1
    subst q1
    exact fun v rv => po_out ok e1 k1 q rv
/-! ### targets with a star -/
def tgAll : List Tg → List W → EnvW → Option EnvW
  | [], [], env => some env
  | t :: ts, w :: ws, env => match tgM t w env with
    | some e => tgAll ts ws e
    | none => none
  | _, _, _ => none
def listW (h : AH) : W → Option (List W)
  | .d (.list ds) => some (ds.map .d)
  | .r i => (match h[i]? with
    | some (.lst ws) => some ws
    | _ => none)
  | _ => none
def sStar (i : Nat) (ts : List Tg) (m : ME) : MS := fun env => mbind (m env) fun w h => match listW h w with
  | some ws => if i < ts.length ∧ ts.length ≤ ws.length + 1 then (match tgAll ts (ws.take i ++ [.r h.length] ++ ws.drop (ws.length + 1 - ts.length + i)) env with
    | some e => .ok (.nx e) (h ++ [.lst ((ws.drop i).take (ws.length + 1 - ts.length))])
    | none => .no) else .no
  | none => .no
def starTgs (sc : Sc) : List Expr → Option (List Tg)
  | [] => some []
  | .Starred (.Name x p) _ :: es => (match slotS sc x, starTgs sc es with
    | some i, some ts => some (.n i :: ts)
    | _, _ => none)
  | e :: es => (match tgOf sc e, starTgs sc es with
    | some t, some ts => some (t :: ts)
    | _, _ => none)
def isStar : Expr → Bool
  | .Starred .. => true
  | _ => false
def gTgs (K : PySem.W.Frag) : List Tg → TGs
  | [] => gNil
  | t :: ts => gCons (gTg K t) (gTgs K ts)
section
variable {T : Tb} {G : GA} {CM : FId → List W → M W} {k : Nat} {sc : Sc} {X : Cx} {Wx : WX}
theorem starTgs_ok (F : Fits T G CM k X sc Wx) : ∀ {es : List Expr} {ts : List Tg}, starTgs sc es = some ts → PGs X es (gTgs X.K ts) ∧ (assignEach es X.env).length = ts.length ∧ (assignEach es X.env).findIdx? (·.1) = es.findIdx? isStar
  | [], ts, h => by
    cases h
    exact ⟨pgs_nil, rfl, rfl⟩
  | e :: es, ts, h => by
    unfold starTgs at h
    split at h
    · rename_i h0; cases h0
    · rename_i x p p2 es' h0
      cases h0
      split at h
      · rename_i i ts' h1 h2
        cases h
        obtain ⟨a1, a2, a3⟩ := starTgs_ok F h2
        refine ⟨pgs_star (pg_slot F h1) a1, by show (assignEach es X.env).length + 1 = ts'.length + 1; rw [a2], ?_⟩
        show List.findIdx? (·.1) ((true, _) :: assignEach es X.env) = _
        rw [List.findIdx?_cons, List.findIdx?_cons]
        rfl
      · cases h
    · rename_i e' es' hne h0
      cases h0
      split at h
      · rename_i t ts' h1 h2
        cases h
        obtain ⟨a1, a2, a3⟩ := starTgs_ok F h2
        have hs : isStar e = false ∧ assignEach (e :: es) X.env = (false, assign e X.env) :: assignEach es X.env := by
          cases e <;> first | exact ⟨rfl, rfl⟩ | (cases h1; done)
        refine ⟨pgs_cons (pg_tg F h1) a1 (by rw [hs.2]; rfl), by rw [hs.2]; show (assignEach es X.env).length + 1 = ts'.length + 1; rw [a2], ?_⟩
        rw [hs.2, List.findIdx?_cons, List.findIdx?_cons, hs.1, a3]

      · cases h
theorem gTgs_ok {K : PySem.W.Frag} (hK : K = G.K) {c : Cf} : ∀ {ts : List Tg} {ws : List W} {vs : List V} {env env2 : EnvW} {σ : L2.St} {Q : L2.St → Hp → Prop}, tgAll ts ws env = some env2 → EnvR G c env σ → RWL G c vs ws → (∀ σ2, EnvR G c env2 σ2 → Q σ2 c.H) → gTgs K ts vs σ c.H Q
  | [], [], _, env, env2, σ, Q, h, re, .nil, q => by
    cases h
    exact ⟨rfl, q σ re⟩
  | [], _ :: _, _, _, _, _, _, h, _, _, _ => by cases h
  | _ :: _, [], _, _, _, _, _, h, _, _, _ => by cases h
  | t :: ts, w :: ws, _, env, env2, σ, Q, h, re, .cons r1 r2, q => by
    unfold tgAll at h
    split at h
    · rename_i e he
      exact ⟨_, _, rfl, gTg_ok (c := c) hK (vs := t.slots) he re r1 (fun _ h => h) fun σ2 re2 _ => gTgs_ok hK h re2 r2 q⟩
    · cases h
theorem listW_ok {c : Cf} {w : W} {ws : List W} {v : V} (ok : c.ok G) (h : listW c.ah w = some ws) (r : RW G c v w) : ∃ a xs, v = .ref a ∧ SqL G.K c.H a xs ∧ RWL G c xs ws := by
  unfold listW at h
  split at h
  · cases h
    obtain ⟨a, xs, rfl, h1, r1⟩ := rLst r
    exact ⟨a, xs, rfl, h1, rpl_rwl r1⟩
  · split at h
    · rename_i ws' e
      cases h
      obtain ⟨a, rfl, h1, xs, hx, rx⟩ := rRef ok r e
      exact ⟨a, xs, rfl, .inl (.inl hx), rx⟩
    · cases h
  · cases h
theorem ss_star {tes : List Expr} {kk i : Nat} {ts : List Tg} {e : Expr} {ma : ME} {p pos : Pos} (ht : starTgs sc tes = some ts) (hi : tes.findIdx? isStar = some i) (he : SE T G CM k sc e ma) (hn : noTup e = true) : SS T G CM k sc (.Assign [.Tuple tes kk p] e pos) (sStar i ts ma) := fun X Ex F hp hs hfr => by
  have hne : ∀ env : Env, swappedStores [.Tuple tes kk p] e env = pure none := fun env => by
    cases e <;> first | rfl | cases hn
  obtain ⟨a1, a2, a3⟩ := starTgs_ok F ht
  refine PS.imp (ps_asg (he X _ F) (pg_star F.calm a1 a2 (a3.trans hi)) (by rw [swSole]; exact swT _ _ _ _ _ _) (hne _)) fun D σ H ⟨c, env, e, ok, re, q⟩ => ?_
  subst e
  refine tE.step ok re q fun w c1 v e1 ok1 re1 rv q1 => ?_
  split at q1
  · rename_i ws hw
    obtain ⟨a, xs, rfl, h1, r1⟩ := listW_ok ok1 hw rv
    have hl : xs.length = ws.length := Paired.length r1
    split at q1
    · rename_i hc
      split at q1
      · rename_i env2 hg
        refine ⟨a, xs, rfl, by rw [F.K]; exact h1, hc.1, by rw [hl]; exact hc.2, fun p hp0 => ?_⟩
        rw [hl]
        have rm : RWL G c1 ((xs.drop i).take (ws.length + 1 - ts.length)) ((ws.drop i).take (ws.length + 1 - ts.length)) := Paired.takeP _ (Paired.dropP _ r1)
        have ex := Cf.new_ext (o := .lst ((xs.drop i).take (ws.length + 1 - ts.length))) (ao := .lst ((ws.drop i).take (ws.length + 1 - ts.length))) ok1 hp0
        have ok2 : (c1.new p (.lst ((xs.drop i).take (ws.length + 1 - ts.length))) (.lst ((ws.drop i).take (ws.length + 1 - ts.length)))).ok G := Cf.new_ok ok1 hp0 ⟨_, upd_same, RWL.mono ex rm⟩
        have rp : RW G (c1.new p (.lst ((xs.drop i).take (ws.length + 1 - ts.length))) (.lst ((ws.drop i).take (ws.length + 1 - ts.length)))) (.ref p) (.r c1.ah.length) := ⟨p, rfl, by show (c1.μ ++ [p])[c1.ah.length]? = some p; rw [← ok1.len]; simp⟩
        refine gTgs_ok (c := c1.new p (.lst ((xs.drop i).take (ws.length + 1 - ts.length))) (.lst ((ws.drop i).take (ws.length + 1 - ts.length)))) F.K hg (re1.mono ex) (RWL.append (RWL.append (RWL.mono ex (Paired.takeP i r1)) (.cons rp .nil)) (RWL.mono ex (Paired.dropP _ r1))) fun σ2 re2 => ?_
        exact q1 _ ex ok2 rfl σ2 re2
      · exact q1.elim
    · exact q1.elim
  · exact q1.elim
/-! ### len of an own object -/
def kLen (T : Tb) (CM : FId → List W → M W) (w : W) : M W := fun h => match w with
  | .r i => (match h[i]? with
    | some (.ins c fs) => if T.meths.contains (c, "__len__") && !T.nopos.contains (c, "__len__") then (match CM (c, "__len__") [.r i] h with
      | .ok (.d (.int n)) h' => if 0 ≤ n ∧ n < 2 ^ 63 then .ok (wI n) h' else .no
      | .ex e h' => .ex e h'
      | _ => .no) else .no
    | _ => fLen [.r i] h)
  | w => fLen [w] h
def eLen (T : Tb) (CM : FId → List W → M W) (a : ME) : ME := fun env => mbind (a env) (kLen T CM)
theorem own_len {pins : List (Addr × Obj)} {σ : L2.St} {H : Hp} {s : Shared} {a C dx f : Addr} {fs : List (Str × V)} {Q : Value → Shared → Prop} (I : Inv X pins σ H s) (e : H a = some (.ins C dx fs)) (hm : Meth X.K C "__len__" f)
    (h : wpAny (model X.prog X.w) X.A.in1 (call (.ref f) [.ref a]) (PySem.W.LenBack Q) X.xe s) : wpAny (model X.prog X.w) X.A (call (.builtin "len") [.ref a]) Q X.xe s := by
  obtain ⟨mA, O, _⟩ := ins_get I.hok e
  obtain ⟨od, J, _⟩ := O.look
  refine Calls.call_function_entry kind_len plain_len entry_len (args_len1 _) ?_
  unfold Builtin.«len»
  refine wpAny_bind (m := oneArg "len" _) (wpAny_pure (wpAny_bind (m := callSpecial? (.ref a) (Str.ofString "__len__")) (PySem.W.special_fn I.kIn J hm.at_ (beq_iff_eq.mp hm.fn) (wpAny_mono h (fun r s' hr => ?_) fun _ _ y => y))))
  cases r <;> first | exact hr.elim | skip
  obtain ⟨⟨h0, h1⟩, hq⟩ := hr
  refine wpAny_bind (wpAny_holding (wpAny_pure (wpAny_bind (wpAny_letGo ?_))))
  rename_i n u
  show wpAny _ _ (if n < 0 then _ else (if n ≥ 2 ^ 63 then _ else _)) _ _ _
  rw [if_neg (by omega), if_neg (by omega)]
  exact wpAny_bind (wpAny_mkInt (wpAny_pure ⟨_, rfl, hq⟩))
/-- the def's call within the built-in function -/
theorem call_in1 {X : Cx} {Wx : WX} (F : Fits T G CM k X sc Wx) {f : FId} {fa : Addr} (hf : G.fa f = some fa) (hnp : T.nopos.contains f = false) {pins : List (Addr × Obj)} {s : Shared} {σ : L2.St} {c : Cf} {vs : List V} {ws : List W} {us : List Value} {Q : VK} (I : Inv X pins σ c.H s) (ok : c.ok G)
    (rv : RWL G c vs ws) (ru : Vals vs us) (q : Po G (CM f ws c.ah) c (VQ G Q) (fun e c' => WEx G Wx e σ c'.H)) : wpAny (model X.prog X.w) X.A.in1 (call (.ref fa) us) (EP X pins σ Q) X.xe s := by
  obtain ⟨fd, ps, hF, hb, hk, hno⟩ := F.top.fn f fa hf
  have hl : ws.length = ps.length := Classical.byContradiction fun hn => by
    rw [hno ws c.ah hn] at q
    exact q.elim
  have hlv : vs.length = ps.length := by rw [Paired.length rv]; exact hl
  have b := hb.pos hnp s us I.kIn (by rw [List.append_nil, ← ru.length]; exact hlv)
  rw [List.append_nil] at b
  refine wpAny_call (codeAny_mono (hF.run X.A.in1 X.stack s c.H ⟨us, []⟩ us vs Q (WE Wx σ) F.room.in1 I.env0.in1 b ru ⟨hlv, c, ws, rfl, ok, rv, q⟩) fun r s' hq => ?_)
  cases r with
  | error e => exact passAt F.takes σ pins c.H s e s' I hq
  | ok fl =>
    cases fl with
    | ret u => exact I.after hq
    | next => exact False.elim hq
    | brk => exact False.elim hq
    | cont => exact False.elim hq
theorem len_sem {X : Cx} {Wx : WX} (F : Fits T G CM k X sc Wx) {pins : List (Addr × Obj)} {s : Shared} {σ : L2.St} {c : Cf} {v : V} {w : W} {u : Value} {Q : VK} (I : Inv X pins σ c.H s) (ok : c.ok G) (rv : RW G c v w) (ru : RelV v u)
    (q : Po G (kLen T CM w c.ah) c (VQ G Q) (fun e c' => WEx G Wx e σ c'.H)) : wpAny (model X.prog X.w) X.A (call (.builtin "len") [u]) (EP X pins σ Q) X.xe s := by
  have plain : Po G (fLen [w] c.ah) c (VQ G Q) (fun e c' => WEx G Wx e σ c'.H) → wpAny (model X.prog X.w) X.A (call (.builtin "len") [u]) (EP X pins σ Q) X.xe s := fun q => by
    obtain ⟨r, h1, h2⟩ := len_ok (X := X) F.K
    exact h1 pins s σ c.H [v] [u] Q I (.cons ru .nil) (h2 c [v] [w] Q _ ok (.cons rv .nil) q)
  unfold kLen at q
  split at q
  · rename_i i
    split at q
    · rename_i cn fs e2
      split at q
      · rename_i hm
        obtain ⟨hm, hnp⟩ := Bool.and_eq_true_iff.mp hm
        obtain ⟨p, rfl, h1, C, dx, xs, hx, hC, r2⟩ := rRef ok rv e2
        obtain ⟨Ca, fa, h2, hfa, hM⟩ := F.top.meth cn "__len__" (by simpa using hm)
        rw [hC] at h2; cases h2
        cases ru
        refine own_len I hx hM (wpAny_mono (call_in1 F hfa ((Bool.not_eq_true' _).mp hnp) I ok (vs := [.ref p]) (ws := [.r i]) (Q := fun v' H' => ∃ n : Int, v' = .int n ∧ (0 ≤ n ∧ n < 2 ^ 63) ∧ Q (.int n) H') (.cons rv .nil) (.cons rfl .nil) ?_) (fun u' s' ⟨v', H', I', r', n, e, hn, q'⟩ => ?_) fun _ _ z => z)
        · split at q
          · rename_i n h' e
            rw [e]
            split at q
            · rename_i hn
              intro c' ex ok' e' v' rv'
              exact ⟨n, rInt rv', hn, q c' ex ok' e' _ (.int n)⟩
            · exact q.elim
          · rename_i ee h' e
            rw [e]
            exact q
          · exact q.elim
        · subst e
          obtain ⟨t, rfl⟩ := r'
          exact ⟨hn, .int n, H', I'.tok _, ⟨_, rfl⟩, q'⟩
      · exact q.elim
    · exact plain q
  · exact plain q
theorem se_len {a : Expr} {ma : ME} {p pos : Pos} (hg : isGlob sc "len" = true) (hf : ("len" : Str) ∈ T.free) (ha : SE T G CM k sc a ma) (hs : noStar a = true) : SE T G CM k sc (.Call (.Name "len" p) [a] [] pos) (eLen T CM ma) := fun X Wx F => by
  refine ⟨fun pins s σ H Q I ⟨c, env, e0, ok, re, q⟩ => ?_⟩
  subst e0
  have hA : PA X [a] (tCons (tE G Wx ma) tNil) := pa_cons (ha X Wx F) pa_nil (noStar_each hs [] X.env)
  refine wpAny_Call_Name_kw (ld_blt I (F.gl hg) (F.top.free _ hf) PySem.boot_len ?_ (glob_ok hg).2.2 (glob_ok hg).2.1)
  refine PyProof.Rows.callWith_builtin1 (thn (hA.run pos pins s σ c.H (fun vs H1 => ∃ c1 v w, vs = [v] ∧ c1.H = H1 ∧ c1.ok G ∧ RW G c1 v w ∧ Po G (kLen T CM w c1.ah) c1 (VQ G Q) (fun e c' => WEx G Wx e σ c'.H)) I (tE.step ok re q fun w c1 v e1 ok1 re1 rv q1 => ⟨c1, v, w, rfl, rfl, ok1, rv, q1⟩)) fun us s1 ⟨vs, H1, I1, r1, c1, v, w, e2, e1, ok1, rv, q1⟩ => ?_) (noStar_each hs [] X.env) rfl
  subst e1 e2
  obtain ⟨u, rfl, ru⟩ := vals1 r1
  exact len_sem F I1 ok1 rv ru q1
end
end Ev
set_option Elab.async false
set_option linter.all false
set_option maxRecDepth 100000
set_option maxHeartbeats 4000000
/-! E14j: try around statements; t[::1], t[::-1], xs[::-1]. -/
namespace Ev
open PySem PySem.Spec PyProof.Rows L2
/-! ### try: statements  except x: name = number (the other names are lost when it is caught) -/
def sTryS (cat : Str → Bool) (j : Nat) (v : Int) (m : MS) : MS := fun env h => match m env h with
  | .ok fl h' => .ok fl h'
  | .ex c h' => if cat c then .ok (.nx ((List.replicate env.length none).set j (some (.d (.int v))))) h' else .ex c h'
  | .no => .no
section
variable {T : Tb} {G : GA} {CM : FId → List W → M W} {k : Nat} {sc : Sc} {body : List Stmt} {ms : MS} {pos p1 p3 p5 np pos' p6 : Pos} {x g : Str} {j q0 : Nat} {v : Int}
theorem pss_len {X : Cx} {sts : List Stmt} {t : TS} {n : Nat} (hn : n = X.N.length) (h : PSs X sts t) : PSs X sts (fun D σ H => σ.length = n → t D σ H) := ⟨fun p s σ H D I q => h.run p s σ H D I (q (by rw [hn]; exact I.len))⟩
theorem envr_blank {c : Cf} {σ : L2.St} {n : Nat} {w : W} {u : V} (hn : n = σ.length) (r : RW G c u w) : EnvR G c ((List.replicate n none).set j (some w)) (σ.set j (some u)) := by
  have h0 : EnvR G c (List.replicate n none) σ := ⟨by simp [hn], fun i w q => by
    rw [List.getElem?_replicate] at q
    split at q <;> simp at q⟩
  exact h0.set r
theorem ss_tryS (hg : slotS sc g = some j) (hgl : isGlob sc x = true) (hx : x ∈ T.excs) (hb : SSs T G CM k sc body ms) :
    SS T G CM k sc (.Try body [.ExceptHandler (some (.Name x np)) none [.Assign [.Name g p3] (.Constant (.int v) q0 p6) p5] pos'] [] [] pos) (sTryS (fun c => T.catches c x) j v ms) := fun X Ex F hp hs hfr => by
  obtain ⟨Ca, h1, h2, h3, h4, h5⟩ := F.top.exc x hx
  obtain ⟨g1, g2, g3⟩ := slotS_ok F hg
  have base := ps_try_only (b₀ := .Assign [.Name g p3] (.Constant (.int v) q0 p6) p5) (suite := []) (np := np) (pos := pos) (pos' := pos') (ts := fun _ _ _ D σ H => σ.length = X.N.length → tAsg (tC (.int v)) (gName j) D σ H) (tb := fun W => tS G (fun cls d H => ∀ σ, W cls d σ H) ms) hs hfr.1 ⟨F.gl hgl, (glob_ok hgl).2.1, .inl h2⟩ F.takes
    (fun W pn xe tk po => hb (X.tr pn xe) (fun cls d H => ∀ σ, W cls d σ H) (F.tr (tk.imp fun cls d σ H q => q σ)) po hs hfr)
    (fun a oe cls d pn _ _ => pss_len rfl (pss_one (ps_set (X := X.suite a ((a, oe) :: pn)) F.ndN g1 g2 pe_int rfl g3)))
  refine ⟨fun pins s σ H D I q => base.run pins s σ H D I ?_⟩
  obtain ⟨c, env, e0, ok, re, q⟩ := q
  subst e0
  refine ⟨c, env, rfl, ok, re, ?_⟩
  have hlen : env.length = X.N.length := re.1.trans I.len
  unfold sTryS at q
  cases r : ms env c.ah with
  | no => rw [r] at q; exact q.elim
  | ok fl h' => rw [r] at q; exact q
  | ex cc h' =>
    rw [r] at q
    intro c' ex ok' e' C hC σ'
    obtain ⟨b, hb, hb2⟩ := F.top.catch_ cc C x Ca hC h1 hx
    refine ⟨b, by rw [F.K] at hb ⊢; exact hb, fun hbt a ha hl => ?_, fun hbf => ?_⟩
    · subst hbt
      simp only [← hb2, if_true] at q
      exact q c' ex ok' e' _ (envr_blank (w := .d (.int v)) (u := .int v) (hlen.trans hl.symm) (.int v))
    · subst hbf
      simp only [← hb2, Bool.false_eq_true, if_false] at q
      exact q c' ex ok' e' C hC
end
/-! ### slices by a step -/
section
open HT
variable {prog : Program} {w : World} {A : Around} {E : Value → Shared → Prop} {s : Shared}
theorem adjust_m1 (n : Nat) : Builtin.Slice.sliceAdjust none none (-1) (n : Int) = ((n : Int) - 1, -1) := by
  unfold Builtin.Slice.sliceAdjust; simp
theorem adjust_p1 (n : Nat) : Builtin.Slice.sliceAdjust none none 1 (n : Int) = (0, (n : Int)) := by
  unfold Builtin.Slice.sliceAdjust; simp
theorem places_m1 (n : Nat) : Builtin.Slice.slicePlaces ((n : Int) - 1) (-1) (-1) = n := by
  unfold Builtin.Slice.slicePlaces
  have h1 : ¬ ((-1 : Int) > 0) := by decide
  simp only [h1, if_false]
  rw [show (- -1 : Int) = 1 from by decide, Int.ediv_one]
  split <;> omega
theorem places_p1 (n : Nat) : Builtin.Slice.slicePlaces 0 (n : Int) 1 = n := by
  have := HT.places_gen 0 n
  simpa using this
theorem sliceApplied_st {sl : Addr} {vl vu vs : Value} {st lo hi : Int} {n m : Nat} {Q : Int × Int × Nat → Shared → Prop} (hs : s.heap.IsSliceOf sl vl vu vs) (pl : IsPart vl none) (pu : IsPart vu none) (ps : IsPart vs (some st)) (h0 : st ≠ 0)
    (ha : Builtin.Slice.sliceAdjust none none st (n : Int) = (lo, hi)) (hp : Builtin.Slice.slicePlaces lo hi st = m) (h : Q (lo, st, m) s) : wpAny (model prog w) A (Builtin.Slice.sliceApplied (.ref sl) (pure (n : Int))) Q E s := by
  obtain ⟨os, hos, hcs, hds⟩ := id hs
  unfold Builtin.Slice.sliceApplied Builtin.Slice.sliceFields
  refine wpAny_bind (wpAny_bind (wpAny_field hos hds (x := vl) rfl (wpAny_bind (wpAny_field hos hds (x := vu) rfl (wpAny_bind (wpAny_field hos hds (x := vs) rfl (wpAny_pure ?_)))))))
  refine wpAny_bind (HT.slicePart_ ps ?_)
  show wpAny _ _ (if (st == 0) = true then _ else _) _ _ s
  rw [if_neg (by simpa using h0)]
  refine wpAny_bind (HT.slicePart_ pl (wpAny_bind (HT.slicePart_ pu (wpAny_bind (wpAny_pure ?_)))))
  show wpAny _ _ (match Builtin.Slice.sliceAdjust none none st (n : Int) with | (lo, hi) => pure (lo, st, Builtin.Slice.slicePlaces lo hi st)) _ _ s
  rw [ha]
  show wpAny _ _ (pure (lo, st, Builtin.Slice.slicePlaces lo hi st)) _ _ s
  rw [hp]
  exact wpAny_pure h
theorem fm_congr {α β : Type} {f g : α → Option β} : ∀ (l : List α), (∀ m ∈ l, f m = g m) → l.filterMap f = l.filterMap g
  | [], _ => rfl
  | a :: l, h => by rw [List.filterMap_cons, List.filterMap_cons, h a (by simp), fm_congr l fun m hm => h m (by simp [hm])]
theorem pick_rev (xs : Array Value) : ((List.range xs.size).filterMap fun (m : Nat) => xs[((xs.size : Int) - 1 + (m : Int) * (-1)).toNat]?).toArray = xs.toList.reverse.toArray := by
  congr 1
  have e : (List.range xs.size).filterMap (fun (m : Nat) => xs[((xs.size : Int) - 1 + (m : Int) * (-1)).toNat]?) = ((List.range xs.size).map fun k => xs.size - 1 - k).filterMap (xs[·]?) := by
    rw [List.filterMap_map]
    refine fm_congr _ fun m hm => ?_
    have := List.mem_range.mp hm
    show xs[((xs.size : Int) - 1 + (m : Int) * (-1)).toNat]? = xs[xs.size - 1 - m]?
    congr 1
    omega
  rw [e, PySem.W.krv_range, List.filterMap_reverse, PySem.W.krv_all]
theorem getItem_tuple_rev {t sl : Addr} {items : Array Value} {vl vu vs : Value} {Q : Value → Shared → Prop} (ht : IsTup s.heap t items) (hs : s.heap.IsSliceOf sl vl vu vs) (pl : IsPart vl none) (pu : IsPart vu none) (ps : IsPart vs (some (-1)))
    (h : Q (.ref s.heap.objs.size) { s with heap := s.heap.push { cls := .type "tuple", data := .seq items.toList.reverse.toArray } })
    (hsz : items.size ≤ sizeLine) : wpAny (model prog w) A (getItem (.ref t) (.ref sl)) Q E s := by
  have htake : sizeOk (.seq items.toList.reverse.toArray) := by
    show items.toList.reverse.toArray.size ≤ sizeLine
    rw [List.size_toArray, List.length_reverse, Array.length_toList]
    exact hsz
  obtain ⟨os, hos, hcs, hds⟩ := id hs
  have hTs : s.TypeIs (.ref sl) "slice" := ⟨os, hos, hcs⟩
  unfold getItem
  try with_reducible refine wpAny_holding ?_
  first | refine wpAny_bind (wpAny_pure ?_) | skip
  refine wpAny_bind (wpAny_sequenceKey ht.typeIs (by decide) ?_)
  refine wpAny_bind (wpAny_callSpecial?_slot (name := Str.ofString "__getitem__") ht.typeIs PyProof.Rows.slot_tuple_getitem
    (wpAny_call_entry PyProof.Rows.slot_tuple_getitem ht.typeIs entry_tuple_getitem ?_ (args_tuple_getitem _ _)))
  show wpAny _ _ (Builtin.Tuple.tupleItemsOf (.ref t) >>= _) _ _ s
  refine wpAny_bind (tupleItemsOf_ ht ?_)
  refine wpAny_bind (wpAny_typeOf hTs ?_)
  rw [if_pos (by decide)]
  refine wpAny_bind (sliceApplied_st hs pl pu ps (by decide) (adjust_m1 _) (places_m1 _) ?_)
  have hno : ¬ (((items.size : Int) - 1 == 0 && (-1 : Int) == 1 && items.size == items.size) = true) := by simp
  show wpAny _ _ (if ((items.size : Int) - 1 == 0 && (-1 : Int) == 1 && items.size == items.size) = true then _ else _) _ _ s
  rw [if_neg hno, pick_rev]
  first
    | exact wpAny_bind (m := Builtin.Tuple.tupleExact _) (wpAny_newObj_type (wpAny_pure ⟨_, rfl, wpAny_pure h⟩) htake)
    | exact wpAny_bind (m := Builtin.Tuple.tupleExact _) (wpAny_newObj_type (wpAny_bind (wpAny_pure (wpAny_pure ⟨_, rfl, wpAny_pure h⟩))) htake)
    | exact wpAny_bind (wpAny_bind (m := Builtin.Tuple.tupleExact _) (wpAny_newObj_type (wpAny_pure (wpAny_pure ⟨_, rfl, wpAny_pure h⟩)) htake))
    | exact wpAny_bind (wpAny_bind (m := Builtin.Tuple.tupleExact _) (wpAny_newObj_type (wpAny_pure ⟨_, rfl, wpAny_pure h⟩) htake))
theorem getItem_tuple_one {t sl : Addr} {items : Array Value} {vl vu vs : Value} {Q : Value → Shared → Prop} (ht : IsTup s.heap t items) (hs : s.heap.IsSliceOf sl vl vu vs) (pl : IsPart vl none) (pu : IsPart vu none) (ps : IsPart vs (some 1))
    (h : Q (.ref t) s) : wpAny (model prog w) A (getItem (.ref t) (.ref sl)) Q E s := by
  obtain ⟨os, hos, hcs, hds⟩ := id hs
  have hTs : s.TypeIs (.ref sl) "slice" := ⟨os, hos, hcs⟩
  unfold getItem
  try with_reducible refine wpAny_holding ?_
  first | refine wpAny_bind (wpAny_pure ?_) | skip
  refine wpAny_bind (wpAny_sequenceKey ht.typeIs (by decide) ?_)
  refine wpAny_bind (wpAny_callSpecial?_slot (name := Str.ofString "__getitem__") ht.typeIs PyProof.Rows.slot_tuple_getitem
    (wpAny_call_entry PyProof.Rows.slot_tuple_getitem ht.typeIs entry_tuple_getitem ?_ (args_tuple_getitem _ _)))
  show wpAny _ _ (Builtin.Tuple.tupleItemsOf (.ref t) >>= _) _ _ s
  refine wpAny_bind (tupleItemsOf_ ht ?_)
  refine wpAny_bind (wpAny_typeOf hTs ?_)
  rw [if_pos (by decide)]
  refine wpAny_bind (sliceApplied_st hs pl pu ps (by decide) (adjust_p1 _) (places_p1 _) ?_)
  show wpAny _ _ (if ((0 : Int) == 0 && (1 : Int) == 1 && items.size == items.size) = true then _ else _) _ _ s
  rw [if_pos (by simp)]
  refine wpAny_bind ?_
  show wpAny _ _ (typeOf (.ref t) >>= fun T => pure (T == .type "tuple")) _ _ s
  refine wpAny_bind (wpAny_typeOf ht.typeIs (wpAny_pure ?_))
  first
    | rw [if_pos (by decide)]
    | simp only [beq_self_eq_true, if_true]
  first
    | exact wpAny_bind (wpAny_rule (wpAny_pure ⟨_, rfl, wpAny_pure h⟩))
    | exact wpAny_bind (wpAny_rule (wpAny_bind (wpAny_pure (wpAny_pure ⟨_, rfl, wpAny_pure h⟩))))
end
def tStep (K : PySem.W.Frag) (te ti : TE) : TE := fun σ H Q => te σ H fun x H1 => ti σ H1 fun y H2 => ∃ n a, y = .int n ∧ x = .ref a ∧ ((∃ xs, SqT K H2 a xs ∧ ((n = 1 ∧ Q (.ref a) H2) ∨ (n = -1 ∧ ∀ p, H2 p = none → Q (.ref p) (upd H2 p (.tup xs.reverse))))) ∨
  (∃ xs, SqL K H2 a xs ∧ n = -1 ∧ ∀ p, H2 p = none → Q (.ref p) (upd H2 p (.lst xs.reverse))))
theorem pe_step {X : Cx} {e i : Expr} {te ti : TE} {p3 pos : Pos} (he : PE X e te) (hi : PE X i ti) : PE X (.Subscript e (.Slice none none (some i) p3) pos) (tStep X.K te ti) := by
  refine ⟨fun pins s σ H Q I h => ?_⟩
  refine Subscript_ (thn (he.run pins s σ H _ I h) fun v s1 ⟨x, H1, I1, r1, q1⟩ => ?_)
  refine wpAny_Slice (thn (po_none.run pins s1 σ H1 (fun o H2 => o = none ∧ H2 = H1) I1 ⟨rfl, rfl⟩) fun vl s2 ⟨l, H2, I2, pl, el, e2⟩ => ?_)
  subst el e2
  refine thn (po_none.run pins s2 σ H2 (fun o H3 => o = none ∧ H3 = H2) I2 ⟨rfl, rfl⟩) fun vu s3 ⟨u, H3, I3, pu, eu, e3⟩ => ?_
  subst eu e3
  refine thn (hi.run pins s3 σ H3 _ I3 q1) fun vs s4 ⟨y, H4, I4, ry, q4⟩ => ?_
  obtain ⟨n, a, rfl, rfl, q⟩ := q4
  obtain ⟨tk, rfl⟩ := ry
  cases r1
  have ps : IsPart (.int n tk) (some n) := .int n tk
  have I5 : Inv X pins σ H4 { s4 with heap := s4.heap.push { cls := .type "slice", data := .fields #[vl, vu, .int n tk] } } := I4.kept (t' := s4.toks) fun b ob q => Heap.get?_push_of_some _ q
  show wpAny (model X.prog X.w) X.A (subscriptTail e (.Slice none none (some i) p3) (.ref a) (.ref s4.heap.objs.size)) (EP X pins σ Q) X.xe { s4 with heap := s4.heap.push { cls := .type "slice", data := .fields #[vl, vu, .int n tk] } }
  rcases q with ⟨xs, hx, q⟩ | ⟨xs, hx, rfl, q⟩
  · obtain ⟨its, r, ht, hz⟩ := I5.tuple hx
    have hlen : its.toArray.size = xs.length := by rw [List.size_toArray]; exact r.length.symm
    refine tail_any (ops := [.ref a, .ref s4.heap.objs.size]) ht.typeIs PyProof.Rows.slot_tuple_getitem.lookup ?_ (by with_unfolding_all rfl)
    rcases q with ⟨rfl, q⟩ | ⟨rfl, q⟩
    · exact getItem_tuple_one ht (Heap.IsSliceOf.new ..) pl pu ps ⟨.ref a, H4, I5, rfl, q⟩
    · refine getItem_tuple_rev ht (Heap.IsSliceOf.new ..) pl pu ps ?_ (by rw [hlen]; exact hz)
      refine ⟨.ref _, _, I5.laid (t' := s4.toks) (o := .tup xs.reverse) (fun b ob q => Heap.get?_push_of_some _ q) (Nat.le_refl _) ?_, rfl, q _ (I5.hok.fresh (Nat.le_refl _))⟩
      exact ⟨by rw [List.length_reverse]; exact hz, _, r.reverse, IsTup.new _ _⟩
  · obtain ⟨its, r, ht, hz⟩ := I5.list hx
    have hlen := r.length
    refine tail_any (ops := [.ref a, .ref s4.heap.objs.size]) ht.isList.typeIs (PySem.slot_list_getitem.lookup) ?_ (by with_unfolding_all rfl)
    refine wpAny_getItem_list_slice ht.isList (Heap.IsSliceOf.new _ vl vu _) pl pu ps (by decide) ?_ (by rw [List.size_toArray]; omega)
    rw [PySem.W.krv_pick]
    refine ⟨.ref _, _, I5.laid (t' := s4.toks) (o := .lst xs.reverse) (fun b ob q => Heap.get?_push_of_some _ q) (Nat.le_refl _) ?_, rfl, q _ (I5.hok.fresh (Nat.le_refl _))⟩
    exact ⟨by rw [List.length_reverse]; exact hz, _, 0, r.reverse, Heap.get?_push_size _ rfl⟩
end Ev
set_option Elab.async false
set_option linter.all false
set_option maxRecDepth 100000
set_option maxHeartbeats 4000000
/-! E14k: slices by a step, dict(pairs), list(d.items()), in the evaluator. -/
namespace Ev
open PySem PySem.Spec PyProof.Rows L2
def stepM (w i : W) : M W := fun h => match w, i with
  | .d (.tuple ds), .d (.int n) => if n = 1 then .ok (.d (.tuple ds)) h else if n = -1 then .ok (.d (.tuple ds.reverse)) h else .no
  | .d (.list ds), .d (.int n) => if n = -1 then .ok (.r h.length) (h ++ [.lst (ds.reverse.map .d)]) else .no
  | .r j, .d (.int n) => (match h[j]? with
    | some (.lst ws) => if n = -1 then .ok (.r h.length) (h ++ [.lst ws.reverse]) else .no
    | _ => .no)
  | _, _ => .no
def eStep (a b : ME) : ME := fun env => mbind (a env) fun x => mbind (b env) (stepM x)
theorem paired_rev {α β : Type} {P : α → β → Prop} : ∀ {xs : List α} {ys : List β}, Paired P xs ys → Paired P xs.reverse ys.reverse
  | _, _, .nil => .nil
  | _, _, .cons h r => by
    rw [List.reverse_cons, List.reverse_cons]
    exact paired_snoc h (paired_rev r)
theorem rpl_paired {K : PySem.W.Frag} {c : Cf} : ∀ {xs : List V} {ds : List PyData}, RpL K c xs ds → Paired (Rp K c) xs ds
  | _, _, .nil => .nil
  | _, _, .cons h r => .cons h (rpl_paired r)
theorem paired_rpl {K : PySem.W.Frag} {c : Cf} : ∀ {xs : List V} {ds : List PyData}, Paired (Rp K c) xs ds → RpL K c xs ds
  | _, _, .nil => .nil
  | _, _, .cons h r => .cons h (paired_rpl r)
section
variable {T : Tb} {G : GA} {CM : FId → List W → M W} {k : Nat} {sc : Sc} {a b e : Expr} {ma mb_ : ME} {pos p2 p3 apos cpos p : Pos}
theorem se_step (ha : SE T G CM k sc a ma) (hb : SE T G CM k sc b mb_) : SE T G CM k sc (.Subscript a (.Slice none none (some b) p3) pos) (eStep ma mb_) := fun X Wx F => by
  refine PE.imp (pe_step (ha X Wx F) (hb X Wx F)) fun σ H Q ⟨c, env, e, ok, re, q⟩ => ?_
  subst e
  refine tE.step ok re q fun w c1 v e1 ok1 re1 rv q1 => tE.step ok1 re1 q1 fun w2 c2 v2 e2 ok2 re2 rv2 q2 => ?_
  have rv' := RW.mono e2 rv
  unfold stepM at q2
  split at q2
  · rename_i ds n
    obtain ⟨pa, xs, rfl, h1, r1⟩ := rTup rv'
    rw [rInt rv2]
    refine ⟨n, pa, rfl, rfl, .inl ⟨xs, by rw [F.K]; exact h1, ?_⟩⟩
    split at q2
    · rename_i hn
      exact .inl ⟨hn, q2.here ok2 _ rv'⟩
    · split at q2
      · rename_i hn
        exact .inr ⟨hn, fun q hq => new_tup ok2 (paired_rpl (paired_rev (rpl_paired r1))) hq q2⟩
      · exact q2.elim
  · rename_i ds n
    obtain ⟨pa, xs, rfl, h1, r1⟩ := rLst rv'
    rw [rInt rv2]
    split at q2
    · rename_i hn
      exact ⟨n, pa, rfl, rfl, .inr ⟨xs, by rw [F.K]; exact h1, hn, fun q hq => new_list ok2 (rpl_rwl (paired_rpl (paired_rev (rpl_paired r1)))) hq q2⟩⟩
    · exact q2.elim
  · rename_i j n
    split at q2
    · rename_i ws ew
      obtain ⟨pa, rfl, h1, xs, hx, r1⟩ := rRef ok2 rv' ew
      rw [rInt rv2]
      split at q2
      · rename_i hn
        exact ⟨n, pa, rfl, rfl, .inr ⟨xs, .inl (.inl hx), hn, fun q hq => new_list ok2 (paired_rev r1) hq q2⟩⟩
      · exact q2.elim
    · exact q2.elim
  · exact q2.elim
end
/-! ### dict(pairs) -/
def pairD : PyData → Option (Key × PyData)
  | .tuple [k, v] => (keyOf k).map fun kk => (kk, v)
  | _ => none
def pairsD : List PyData → Option (List (Key × PyData))
  | [] => some []
  | d :: ds => match pairD d, pairsD ds with
    | some p, some ps => some (p :: ps)
    | _, _ => none
def mergeW (kvs : List (Key × PyData)) : List (PyData × W) := kvs.foldl (fun acc kv => putDW kv.1 (.d kv.2) acc) []
def fDict (ws : List W) : M W := fun h => match ws with
  | [w] => (match (listD h w).bind pairsD with
    | some kvs => .ok (.r h.length) (h ++ [.dic (mergeW kvs)])
    | none => .no)
  | _ => .no
section
variable {T : Tb} {G : GA} {CM : FId → List W → M W} {k : Nat} {sc : Sc} {c : Cf}
theorem new_dicW {p : Addr} {kvs : List (Key × V)} {ds : List (PyData × W)} {Q : VK} {E : Str → Cf → Prop} (k : c.ok G) (hp : c.H p = none) (r : PDW G c kvs ds) (h : Po G (.ok (W.r c.ah.length) (c.ah ++ [.dic ds])) c (VQ G Q) E) : Q (.ref p) (upd c.H p (.dK kvs)) := by
  have ex := Cf.new_ext (o := .dK kvs) (ao := .dic ds) k hp
  have ok : (c.new p (.dK kvs) (.dic ds)).ok G := Cf.new_ok k hp ⟨kvs, upd_same, L2.Paired.mapP r fun _ _ q => ⟨q.1, RW.mono ex q.2⟩⟩
  refine Po.at (c' := c.new p (.dK kvs) (.dic ds)) h ex ok (.ref p) ⟨p, rfl, ?_⟩
  show (c.μ ++ [p])[c.ah.length]? = some p
  rw [← k.len]; simp
theorem pairs_ok : ∀ {ds : List PyData} {kds : List (Key × PyData)} {xs : List V}, pairsD ds = some kds → RpL G.K c xs ds → ∃ (ps : List Addr) (kvs : List (Key × V)), xs = ps.map V.ref ∧ Paired (fun p kv => SqT G.K c.H p [kV kv.1, kv.2]) ps kvs ∧ Paired (fun (p : Key × V) (q : Key × PyData) => p.1 = q.1 ∧ Rp G.K c p.2 q.2) kvs kds
  | [], kds, xs, h, r => by
    cases h
    cases r
    exact ⟨[], [], rfl, .nil, .nil⟩
  | d :: ds, kds, xs, h, r => by
    unfold pairsD at h
    split at h
    · rename_i p ps h1 h2
      cases h
      cases r with
      | cons r1 r2 =>
        obtain ⟨as, kvs, e1, e2, e3⟩ := pairs_ok h2 r2
        unfold pairD at h1
        split at h1
        · rename_i kd v
          cases hk : keyOf kd with
          | none => rw [hk] at h1; cases h1
          | some kk =>
            rw [hk] at h1
            cases h1
            obtain ⟨a, ys, rfl, h3, r3⟩ := rTup (G := G) r1
            cases r3 with
            | cons k1 r4 =>
              cases r4 with
              | cons v1 r5 =>
                cases r5
                rename_i yk yv
                have ek : yk = kV kk := rKey (G := G) (show RW G c yk (.d kd) from k1) hk
                subst ek
                exact ⟨a :: as, (kk, yv) :: kvs, by rw [e1]; rfl, .cons h3 e2, .cons ⟨rfl, v1⟩ e3⟩
        · cases h1
    · cases h
theorem merge_pdw : ∀ {kvs : List (Key × V)} {kds : List (Key × PyData)} {acc : List (Key × V)} {ac : List (PyData × W)}, Paired (fun (p : Key × V) (q : Key × PyData) => p.1 = q.1 ∧ Rp G.K c p.2 q.2) kvs kds → PDW G c acc ac → PDW G c (mergeK acc kvs) (kds.foldl (fun acc kv => putDW kv.1 (.d kv.2) acc) ac)
  | _, _, _, _, .nil, r => r
  | (kk, v) :: kvs, (kk', d) :: kds, acc, ac, .cons h t, r => by
    obtain ⟨h1, h2⟩ := h
    have h1' : kk = kk' := h1
    subst h1'
    show PDW G c (mergeK (putK acc kk v) kvs) (kds.foldl (fun acc kv => putDW kv.1 (.d kv.2) acc) (putDW kk (.d d) ac))
    exact merge_pdw t (pdw_put (w := .d d) h2 r)
theorem dict_ok {X : Cx} (hK : X.K = G.K) (hc : X.calm = true) : ∃ r, CallR X (.type "dict") r ∧ CallS G fDict r := by
  refine ⟨_, call_dictP hc, fun c xs ws Q E k rx h => ?_⟩
  unfold fDict at h
  split at h
  · rename_i w
    obtain ⟨v, rfl, r1⟩ := rwl1 rx
    split at h
    · rename_i kds hk
      obtain ⟨ds, e1, e2⟩ := bind_some_ok hk
      obtain ⟨p, ys, rfl, h1, r2⟩ := listD_ok k r1 e1
      obtain ⟨ps, kvs, rfl, q2, q3⟩ := pairs_ok e2 r2
      exact ⟨p, ps, kvs, rfl, by rw [hK]; exact h1, by rw [hK]; exact q2, fun a ha => new_dicW k ha (merge_pdw q3 .nil) h⟩
    · exact h.elim
  · exact h.elim
end
/-! ### list(d.items()) -/
def rItemsR : V → Hp → VK → Prop := fun x H Q => ∃ (d : Addr) (kvs : List (Key × V)), x = .ref d ∧ Rd H d (.dK kvs) ∧
  ∀ (H' : Hp) (p : Addr) (ts : List Addr), (∀ b o, H b = some o → H' b = some o) → H p = none → (∀ t ∈ ts, H t = none) → p ∉ ts → H' p = some (.lst (ts.map V.ref)) → Paired (fun (t : Addr) (q : Key × V) => H' t = some (.tup [kV q.1, q.2])) ts kvs → Q (.ref p) H'
open LiI in
theorem pe_listItemsR {X : Cx} {e : Expr} {te : TE} {p apos cpos pos : Pos} (hc : X.calm = true) (he : PE X e te) (hg : Gl X "list") (hm : X.mg "list" = none) (hv : bootBuiltins "list" = some (.type "list")) (hbase : attributeBase e "items" X.env (eval e X.env) = eval e X.env) (hline : (apos.endLine == cpos.line) = true) :
    PE X (.Call (.Name "list" p) [.Call (.Attribute e "items" apos) [] [] cpos] [] pos) (fun σ H Q => te σ H fun x H1 => rItemsR x H1 Q) := by
  have hs : starEach [.Call (.Attribute e "items" apos) [] [] cpos] X.env = (false, eval (.Call (.Attribute e "items" apos) [] [] cpos) X.env) :: starEach [] X.env := by rfl
  refine ⟨fun pins s σ H Q I hq => ?_⟩
  refine wpAny_Call_Name_kw (ld_blt I hg hm hv ?_)
  refine PyProof.Rows.callWith_type1 ?_ hs rfl
  rw [hs]
  show wpAny _ _ (spliced ((false, eval (.Call (.Attribute e "items" apos) [] [] cpos) X.env) :: backTo pos (starEach [] X.env))) _ _ s
  refine Calls.spliced_cons ?_
  refine wpAny_Call_method (T := "dict") (id := "dict.items") hbase rfl hline F.plainAttrs_dict F.slot_dict_items F.type_dict_items (thn (he.run pins s σ H _ I hq) fun u s1 ⟨x, H1, I1, rx, d, kvs, ex, hd, q⟩ => ?_)
  subst ex
  obtain rfl : u = Value.ref d := rx
  obtain ⟨hz, hs0, vs, kv, hdo⟩ := hd.ok I1.hok
  obtain ⟨ep, hat⟩ := hdo.dictAt
  have lk : kvs.length = vs.length := Paired.length kv
  have I2 : Inv X pins σ H1 { s1 with heap := s1.heap.push { cls := .type "dict_items", data := .fields #[.ref d] } } := I1.kept (t' := s1.toks) fun b ob q => Heap.get?_push_of_some _ q
  refine ⟨hdo.typeIs, hdo.mapOf.noDict, ?_⟩
  show wpAny _ _ (callWith cpos (.builtin "dict.items") [.ref d] [] []) _ X.xe s1
  refine method_meetsIn F.slot_dict_items F.entry_dict_items rfl (PySem.evalArgs_none ⟨rfl, hdo.typeIs, F.args_dict_items_1 _, _, meets_dict_items (mixKind X.prog X.w) d hs0, ⟨vs, hdo⟩, ?_⟩)
  refine Calls.spliced_nil ?_
  refine PySem.W.kdx_call (knd := mixKind X.prog X.w) (kvs := vs) (ep := ep) (I1.ok.hd hc) ⟨_, Heap.get?_push_size _ rfl, rfl, rfl⟩ (hat.push _) (by omega) fun h' tk acc c as hk hS hl hG hacc => ?_
  obtain ⟨H', k1, k2, k3, k4, k5, k6, J⟩ := items_laid (tk := tk) I2 hz kv hk hS hl hG hacc
  exact ⟨.ref _, H', J, rfl, q H' _ as k1 k2 k3 k4 k5 k6⟩
end Ev
namespace Ev
open PySem PySem.Spec PyProof.Rows L2
def datD : List (PyData × W) → Option (List (PyData × PyData))
  | [] => some []
  | (k, .d v) :: r => (datD r).map ((k, v) :: ·)
  | _ => none
def itemsD (h : AH) (w : W) : Option (List (PyData × PyData)) := match w with
  | .d (.dict ds) => some ds
  | .r i => (match h[i]? with
    | some (.dic kvs) => datD kvs
    | _ => none)
  | _ => none
def itemsM (w : W) : M W := fun h => match itemsD h w with
  | some kvs => .ok (.r h.length) (h ++ [.lst (kvs.map fun kv => .d (.tuple [kv.1, kv.2]))])
  | none => .no
def eItems (a : ME) : ME := fun env => mbind (a env) itemsM
section
variable {T : Tb} {G : GA} {CM : FId → List W → M W} {k : Nat} {sc : Sc} {c : Cf} {e : Expr} {ma : ME} {p pos apos cpos : Pos}
abbrev PRD (G : GA) (c : Cf) : List (Key × V) → List (PyData × PyData) → Prop := Paired (fun (p : Key × V) (q : PyData × PyData) => q.1 = keyD p.1 ∧ Rp G.K c p.2 q.2)
theorem rpd_prd : ∀ {xs : List (Key × V)} {ds : List (PyData × PyData)}, RpD G.K c xs ds → PRD G c xs ds
  | _, _, .nil => .nil
  | _, _, .cons h r => .cons ⟨rfl, h⟩ (rpd_prd r)
theorem dat_prd : ∀ {kvs : List (PyData × W)} {ds : List (PyData × PyData)} {xs : List (Key × V)}, datD kvs = some ds → PDW G c xs kvs → PRD G c xs ds
  | [], ds, xs, h, r => by
    cases h
    cases r
    exact .nil
  | (kd, .d v) :: kvs, ds, xs, h, r => by
    unfold datD at h
    cases q : datD kvs with
    | none => rw [q] at h; cases h
    | some es =>
      rw [q] at h
      cases h
      cases r with
      | cons r1 r2 => exact .cons r1 (dat_prd q r2)
  | (_, .r _) :: _, _, _, h, _ => by cases h
  | (_, .fn _) :: _, _, _, h, _ => by cases h
  | (_, .ex _) :: _, _, _, h, _ => by cases h
theorem itemsD_ok {w : W} {v : V} {ds : List (PyData × PyData)} (ok : c.ok G) (h : itemsD c.ah w = some ds) (rv : RW G c v w) : ∃ a xs, v = .ref a ∧ Rd c.H a (.dK xs) ∧ PRD G c xs ds := by
  cases w with
  | d x =>
    cases x with
    | dict es =>
      cases h
      cases (show Rp G.K c v (.dict _) from rv) with
      | dic l1 h1 r1 => exact ⟨_, _, rfl, h1, rpd_prd r1⟩
    | _ => cases h
  | r i =>
    simp only [itemsD] at h
    split at h
    · rename_i kvs e
      obtain ⟨a, rfl, h1, xs, hx, rx⟩ := rRef ok rv e
      exact ⟨a, xs, rfl, .inl hx, dat_prd h rx⟩
    · cases h
  | fn f => cases h
  | ex f => cases h
theorem rp_key {K : PySem.W.Frag} (kk : Key) : Rp K c (kV kk) (keyD kk) := by
  cases kk with
  | inl i => exact .int i
  | inr i => exact .str i
theorem itemsM_ok {w : W} {v : V} {Q : VK} {E : Str → Cf → Prop} (k : c.ok G) (rv : RW G c v w) (h : Po G (itemsM w c.ah) c (VQ G Q) E) : rItemsR v c.H Q := by
  unfold itemsM at h
  split at h
  · rename_i ds hd
    obtain ⟨d, kvs, rfl, h1, s1⟩ := itemsD_ok k hd rv
    refine ⟨d, kvs, rfl, h1, fun H' p as kp hp has hpn atS atP => ?_⟩
    let H0 : Hp := fun b => if b = p then none else H' b
    have kp0 : ∀ b o, c.H b = some o → H0 b = some o := fun b o e => by
      show (if b = p then none else H' b) = some o
      rw [if_neg (fun z => by rw [z, hp] at e; cases e)]; exact kp b o e
    have eH : upd H0 p (.lst (as.map V.ref)) = H' := by
      funext b
      unfold upd
      by_cases hb : b = p
      · rw [if_pos hb, hb, atS]
      · rw [if_neg hb]; show (if b = p then none else H' b) = _; rw [if_neg hb]
    have ok0 := Cf.grow_ok k kp0
    have ex0 := Cf.grow_ext kp0
    have hp0 : ({ c with H := H0 } : Cf).H p = none := if_pos rfl
    obtain ⟨L, eL⟩ : ∃ L : List W, L = ds.map fun kv => .d (.tuple [kv.1, kv.2]) := ⟨_, rfl⟩
    rw [← eL] at h
    have ex1 := Cf.new_ext (o := .lst (as.map V.ref)) (ao := .lst L) ok0 hp0
    have exA := ex0.trans ex1
    have items : RWL G (({ c with H := H0 } : Cf).new p (.lst (as.map V.ref)) (.lst L)) (as.map V.ref) L := by
      have nl : ∀ t ∈ as, ¬ (({ c with H := H0 } : Cf).new p (.lst (as.map V.ref)) (.lst L)).live t := fun t hm ⟨i, hi⟩ => by
        have hi : (c.μ ++ [p])[i]? = some t := hi
        have := List.mem_of_getElem? hi
        rcases List.mem_append.mp this with q | q
        · obtain ⟨i', hi'⟩ := List.getElem?_of_mem q
          obtain ⟨u, hu⟩ := k.there hi'
          rw [has t hm] at hu; cases hu
        · rw [List.mem_singleton.mp q] at hm; exact hpn hm
      rw [eL] at nl exA ⊢
      exact go exA (fun t q hh => by show upd H0 p _ t = _; rw [eH]; exact hh) nl atP s1
    have ok1 : (({ c with H := H0 } : Cf).new p (.lst (as.map V.ref)) (.lst L)).ok G := Cf.new_ok ok0 hp0 ⟨_, upd_same, items⟩
    have := h _ exA ok1 rfl (.ref p) ⟨p, rfl, by show (c.μ ++ [p])[c.ah.length]? = some p; rw [← k.len]; simp⟩
    rw [show (({ c with H := H0 } : Cf).new p (.lst (as.map V.ref)) (.lst L)).H = H' from eH] at this
    exact this
  · exact h.elim
where
  go {c c' : Cf} {H' : Hp} (ex : c.ext c') (hH : ∀ t (q : Key × V), H' t = some (.tup [kV q.1, q.2]) → c'.H t = some (.tup [kV q.1, q.2])) : ∀ {as : List Addr} {kvs : List (Key × V)} {ds : List (PyData × PyData)}, (∀ t ∈ as, ¬ c'.live t) → Paired (fun (t : Addr) (q : Key × V) => H' t = some (.tup [kV q.1, q.2])) as kvs → PRD G c kvs ds → RWL G c' (as.map V.ref) (ds.map fun kv => .d (.tuple [kv.1, kv.2]))
    | _, _, _, _, .nil, .nil => .nil
    | t :: as, (kk, v) :: kvs, (kd, d) :: ds, nl, .cons h r, .cons h2 r2 => by
      obtain ⟨h3, h4⟩ := h2
      have h3' : kd = keyD kk := h3
      subst h3'
      refine .cons ?_ (go ex hH (fun t ht => nl t (by simp [ht])) r r2)
      exact .tup (nl t (by simp)) (.inl (hH t (kk, v) h)) (.cons (rp_key kk) (.cons (Rp.mono ex h4) .nil))
theorem se_items (hg : isGlob sc "list" = true) (hf : ("list" : Str) ∈ T.free) (hb : okBase e = true) (hline : (apos.endLine == cpos.line) = true) (he : SE T G CM k sc e ma) : SE T G CM k sc (.Call (.Name "list" p) [.Call (.Attribute e "items" apos) [] [] cpos] [] pos) (eItems ma) := fun X Wx F => by
  refine PE.imp (pe_listItemsR F.calm (he X Wx F) (F.gl hg) (F.top.free _ hf) (by decide +kernel) (okBase_ok hb _ _) hline) fun σ H Q ⟨c, env, e, ok, re, q⟩ => ?_
  subst e
  exact tE.step ok re q fun w c1 v e1 ok1 re1 rv q1 => itemsM_ok ok1 rv q1
end
end Ev
namespace Ev
open PySem PySem.Spec PyProof.Rows L2
theorem se_dict {T : Tb} {G : GA} {CM : FId → List W → M W} {k : Nat} {sc : Sc} {e : Expr} {es : List Expr} {mr : EnvW → M (List W)} {p pos : Pos} (hg : isGlob sc "dict" = true) (hf : ("dict" : Str) ∈ T.free) (ha : SA T G CM k sc (e :: es) mr) (hs : (e :: es).all noStar = true) : SE T G CM k sc (.Call (.Name "dict" p) (e :: es) [] pos) (eFun fDict mr) := fun X Wx F => by
  obtain ⟨r, h2, h3⟩ := dict_ok (X := X) F.K F.calm
  rw [List.all_cons, Bool.and_eq_true] at hs
  refine PE.imp (pe_callTy h2 (F.gl hg) (F.top.free _ hf) (by decide +kernel) (ha X Wx F) (glob_ok hg).2.2 (glob_ok hg).2.1 (noStar_each hs.1 es X.env) (noStar_any hs.2 pos X.env)) fun σ H Q ⟨c, env, e, ok, re, q⟩ => ?_
  subst e
  refine tA.step ok re q fun ws c1 vs e1 ok1 re1 rvs q1 => ?_
  exact h3 c1 vs ws Q _ ok1 rvs q1
end Ev
set_option Elab.async false
set_option linter.all false
set_option maxRecDepth 100000
set_option maxHeartbeats 4000000
/-! E14m: three names at once, in the evaluator. -/
namespace Ev
open PySem PySem.Spec PyProof.Rows L2
/-- a, b, c = x, y, z -/
def kPar3 (i j l : Nat) (env : EnvW) (ws : List W) : M Fl := match ws with
  | [x, y, z] => mpure (.nx (((env.set i (some x)).set j (some y)).set l (some z)))
  | _ => mno
def sPar3 (i j l : Nat) (mr : EnvW → M (List W)) : MS := fun env => mbind (mr env) (kPar3 i j l env)
def swapOk3 (a b c : Expr) (px py pz : Pos) (x y z : Str) : Bool := (py.line == px.line) && (pz.line == px.line) && !(x == y) && !(x == z) && !(y == z) && !(foldedForSure 8 a && (foldedForSure 8 b && foldedForSure 8 c)) && !(constantsAlone 8 a && (constantsAlone 8 b && constantsAlone 8 c)) && noStar a && noStar b && noStar c
section
variable {T : Tb} {G : GA} {CM : FId → List W → M W} {k : Nat} {sc : Sc} {a b c : Expr}
theorem swap_ok3 {px py pz pt pt2 : Pos} {x y z : Str} {kt k2 : Nat} (h : swapOk3 a b c px py pz x y z = true) (hk : sc.scope.kind = .function) (hx : sc.scope.names.lookup x = some .local) (hy : sc.scope.names.lookup y = some .local) (hz : sc.scope.names.lookup z = some .local) (env : Env) (he : env.scope = sc.scope) :
    swappedStores [.Tuple [.Name x px, .Name y py, .Name z pz] kt pt] (.Tuple [a, b, c] k2 pt2) env = pure (some [x, y, z]) := by
  unfold swapOk3 at h
  simp only [Bool.and_eq_true] at h
  obtain ⟨⟨⟨⟨⟨⟨⟨⟨⟨h1, h2⟩, h3⟩, h4⟩, h5⟩, h6⟩, h7⟩, h8⟩, h9⟩, h10⟩ := h
  have hbk : (env.blockKind != ScopeKind.function) = false := by
    unfold Env.blockKind; rw [he, hk]; rfl
  have hkx : (env.kindOf x == some .local) = true := by
    show (env.scope.names.lookup x == some .local) = true
    rw [he, hx]; rfl
  have hky : (env.kindOf y == some .local) = true := by
    show (env.scope.names.lookup y == some .local) = true
    rw [he, hy]; rfl
  have hkz : (env.kindOf z == some .local) = true := by
    show (env.scope.names.lookup z == some .local) = true
    rw [he, hz]; rfl
  have one : ∀ e : Expr, noStar e = true → (match e with | .Starred .. => true | _ => false) = false := fun e h => by
    cases e <;> first | rfl | exact Bool.noConfusion (show false = true from h)
  have sy : ∀ {u v : Str}, (!(u == v)) = true → (v == u) = false := fun {u v} h => by
    have : (u == v) = false := by simpa using h
    rw [Bool.eq_false_iff] at this ⊢
    intro q; exact this (by rw [eq_of_beq q]; exact beq_self_eq_true u)
  have hxy : ([x, y, z].eraseDups.length != [x, y, z].length) = false := by
    simp [List.eraseDups_cons, sy h3, sy h4, sy h5]
  unfold swappedStores
  simp only [List.length_cons, List.length_nil, hbk, Expr.pos, List.head?, Option.map, Option.getD, hkx, hky, hkz, List.filterMap, h1, h2, beq_self_eq_true, Bool.and_true, if_true, hxy]
  have e1 : ([a, b, c].all (foldedForSure 8)) = false := by rw [List.all_cons, List.all_cons, List.all_cons, List.all_nil, Bool.and_true]; exact (Bool.not_eq_true' _).mp h6
  have e2 : ([a, b, c].all (constantsAlone 8)) = false := by rw [List.all_cons, List.all_cons, List.all_cons, List.all_nil, Bool.and_true]; exact (Bool.not_eq_true' _).mp h7
  have hlen : [x, y, z].eraseDups.length = 3 := by simpa using hxy
  have q1 := one a h8
  have q2 := one b h9
  have q3 := one c h10
  simp [e1, e2]
  rw [if_neg (fun q => q.elim (fun q => Bool.noConfusion (q1.symm.trans q)) fun q => q.elim (fun q => Bool.noConfusion (q2.symm.trans q)) fun q => Bool.noConfusion (q3.symm.trans q)), if_pos hlen]
theorem rwl3 {c : Cf} {vs : List V} {a b d : W} (h : RWL G c vs [a, b, d]) : ∃ x y z, vs = [x, y, z] ∧ RW G c x a ∧ RW G c y b ∧ RW G c z d := by
  cases h with
  | cons h1 r =>
    obtain ⟨y, z, rfl, h2, h3⟩ := rwl2 r
    exact ⟨_, y, z, rfl, h1, h2, h3⟩
theorem ss_par3 {x y z : Str} {i j l : Nat} {px py pz pt pt2 pos : Pos} {kt k2 : Nat} {mr : EnvW → M (List W)} (hk : sc.scope.kind = .function) (hx : sc.scope.names.lookup x = some .local) (hy : sc.scope.names.lookup y = some .local) (hz : sc.scope.names.lookup z = some .local) (hi : sc.N.idxOf? x = some i) (hj : sc.N.idxOf? y = some j) (hl : sc.N.idxOf? z = some l) (hij : i ≠ j) (hil : i ≠ l) (hjl : j ≠ l)
    (ha : SA T G CM k sc [a, b, c] mr) (hw : ∀ env : Env, env.scope = sc.scope → swappedStores [.Tuple [.Name x px, .Name y py, .Name z pz] kt pt] (.Tuple [a, b, c] k2 pt2) env = pure (some [x, y, z])) :
    SS T G CM k sc (.Assign [.Tuple [.Name x px, .Name y py, .Name z pz] kt pt] (.Tuple [a, b, c] k2 pt2) pos) (sPar3 i j l mr) := fun X Ex F hp hs hfr => by
  refine PS.imp (ps_par3 (i := i) (j := j) (l := l) F.calm F.ndN (by rw [F.N]; exact idx_at hi) (by rw [F.N]; exact idx_at hj) (by rw [F.N]; exact idx_at hl) hij hil hjl (by rw [F.scope]; exact hx) (by rw [F.scope]; exact hy) (by rw [F.scope]; exact hz) (ha X _ F) (hw X.env F.scope) (by rw [swSole]; exact swT _ _ _ _ _ _)) fun D σ H ⟨c, env, e, ok, re, q⟩ => ?_
  subst e
  refine tA.step ok re q fun ws c1 vs e1 ok1 re1 rvs q1 => ?_
  unfold kPar3 at q1
  split at q1
  · obtain ⟨u, v, w, rfl, r1, r2, r3⟩ := rwl3 rvs
    exact ⟨u, v, w, rfl, Po.here (a := Fl.nx _) q1 ok1 _ (((re1.set r1).set r2).set r3)⟩
  · exact q1.elim
/-- a name that is a cell -/
def cellN (sc : Sc) : Expr → Bool
  | .Name x _ => sc.scope.names.lookup x == some .cell
  | _ => false
theorem fm_short {α β : Type} {f : α → Option β} {a : α} (ha : f a = none) : ∀ l : List α, a ∈ l → (l.filterMap f).length < l.length
  | b :: l, h => by
    have le := List.length_filterMap_le f l
    rw [List.filterMap_cons]
    rcases List.mem_cons.mp h with e | e
    · subst e; rw [ha]; simp; omega
    · have := fm_short ha l e
      cases f b with
      | none => simp only [List.length_cons]; omega
      | some y => simp only [List.length_cons]; omega
theorem sw_cell {tes : List Expr} {kk : Nat} {p : Pos} {env : Env} (he : env.scope = sc.scope) (h : tes.any (cellN sc) = true) (e : Expr) : swappedStores [.Tuple tes kk p] e env = pure none := by
  cases e with
  | Tuple vs k2 p2 =>
    obtain ⟨x, hx, hc⟩ := List.any_eq_true.mp h
    cases x with
    | Name id q =>
      have hk : (env.kindOf id == some .local) = false := by
        show (env.scope.names.lookup id == some .local) = false
        have : (sc.scope.names.lookup id == some .cell) = true := hc
        rw [he, eq_of_beq this]; rfl
      unfold swappedStores
      simp only
      split
      · rfl
      · split
        · rfl
        · rw [if_pos]
          rw [Bool.or_eq_true]
          left
          rw [bne_iff_ne]
          refine Nat.ne_of_lt (fm_short ?_ tes hx)
          simp [hk]
    | _ => exact Bool.noConfusion (show false = true from hc)
  | _ => rfl
theorem ss_tupC {e : Expr} {ma : ME} {p pos : Pos} {tes : List Expr} {kk : Nat} {t : Tg} (ht : tgOf sc (.Tuple tes kk p) = some t) (he : SE T G CM k sc e ma) (hn : tes.any (cellN sc) = true) : SS T G CM k sc (.Assign [.Tuple tes kk p] e pos) (sTgW t ma) := fun X Ex F hp hs hfr => by
  have hne : swappedStores [.Tuple tes kk p] e X.env = pure none := sw_cell F.scope hn e
  refine PS.imp (ps_asg (he X _ F) (pg_or (pg_tg F ht) (pg_tgL F ht)) (by rw [swSole]; exact swT _ _ _ _ _ _) hne) fun D σ H ⟨c, env, e, ok, re, q⟩ => ?_
  subst e
  refine tE.step ok re q fun w c1 v e1 ok1 re1 rv q1 => ?_
  unfold kTg at q1
  cases hm : tgH t w env c1.ah with
  | none =>
    simp only [hm] at q1
    exact q1.elim
  | some env1 =>
    simp only [hm] at q1
    unfold tgH at hm
    split at hm
    · rename_i is
      split at hm
      · rename_i ws hw
        split at hm
        · rename_i hl
          cases hm
          obtain ⟨a, rfl, h1, xs, hx, rx⟩ := rRef ok1 rv hw
          exact .inl ⟨a, xs, rfl, .inl (.inl hx), by rw [Paired.length rx]; exact hl, gNamesW_ok (env := env) hl rx re1 fun σ2 re2 => Po.here (a := Fl.nx (setAllW env _ ws)) q1 ok1 σ2 re2⟩
        · cases hm
      · rename_i ws hw
        split at hm
        · rename_i hl
          cases hm
          obtain ⟨a, rfl, h1, xs, hx, rx⟩ := rRef ok1 rv hw
          exact .inr ⟨a, xs, rfl, .inl (.inl hx), by rw [Paired.length rx]; exact hl, gNamesW_ok (env := env) hl rx re1 fun σ2 re2 => Po.here (a := Fl.nx (setAllW env _ ws)) q1 ok1 σ2 re2⟩
        · cases hm
      · cases hm
    · exact .inl <| gTg_ok (c := c1) F.K (vs := t.slots) hm re1 rv (fun _ h => h) fun σ2 re2 _ => Po.here (a := Fl.nx env1) q1 ok1 σ2 re2
end
end Ev
set_option Elab.async false
set_option linter.all false
set_option maxRecDepth 100000
set_option maxHeartbeats 4000000
/-! E14n: dicts that are walked: list comprehensions and loops over a name's keys, values, entries. -/
namespace Ev
open PySem PySem.Spec PyProof.Rows L2
/-! ### states that differ in a lock -/
def plainO : HO → Prop
  | .lst _ => True
  | .tup _ => True
  | .dK _ => True
  | _ => False
section
variable {K : PySem.W.Frag} {G : GA} {c c' : Cf}
mutual
theorem Rp.rd (hm : c'.μ = c.μ) (hr : ∀ b o, ¬ c.live b → plainO o → Rd c.H b o → Rd c'.H b o) : ∀ {d : PyData} {v : V}, Rp K c v d → Rp K c' v d
  | _, _, .non => .non
  | _, _, .bl b => .bl b
  | _, _, .int i => .int i
  | _, _, .str x => .str x
  | _, _, .lst l h r => .lst (fun ⟨i, q⟩ => l ⟨i, by rw [← hm]; exact q⟩) (hr _ _ l trivial h) (RpL.rd hm hr r)
  | _, _, .tup l h r => .tup (fun ⟨i, q⟩ => l ⟨i, by rw [← hm]; exact q⟩) (hr _ _ l trivial h) (RpL.rd hm hr r)
  | _, _, .tupK h r => .tupK h (RpL.rd hm hr r)
  | _, _, .dic l h r => .dic (fun ⟨i, q⟩ => l ⟨i, by rw [← hm]; exact q⟩) (hr _ _ l trivial h) (RpD.rd hm hr r)
theorem RpL.rd (hm : c'.μ = c.μ) (hr : ∀ b o, ¬ c.live b → plainO o → Rd c.H b o → Rd c'.H b o) : ∀ {ds : List PyData} {vs : List V}, RpL K c vs ds → RpL K c' vs ds
  | _, _, .nil => .nil
  | _, _, .cons h r => .cons (Rp.rd hm hr h) (RpL.rd hm hr r)
theorem RpD.rd (hm : c'.μ = c.μ) (hr : ∀ b o, ¬ c.live b → plainO o → Rd c.H b o → Rd c'.H b o) : ∀ {ds : List (PyData × PyData)} {vs : List (Key × V)}, RpD K c vs ds → RpD K c' vs ds
  | _, _, .nil => .nil
  | _, _, .cons h r => .cons (Rp.rd hm hr h) (RpD.rd hm hr r)
end
theorem RW.rd (hm : c'.μ = c.μ) (hr : ∀ b o, ¬ c.live b → plainO o → Rd c.H b o → Rd c'.H b o) (hx : ∀ b φ, c.H b = some (.ext φ) → c'.H b = some (.ext φ)) {v : V} : ∀ {w : W}, RW G c v w → RW G c' v w
  | .d _, h => Rp.rd hm hr h
  | .r _, ⟨a, h1, h2⟩ => ⟨a, h1, by rw [hm]; exact h2⟩
  | .fn _, h => h
  | .ex _, ⟨a, C, h1, h2, h3, h4⟩ => ⟨a, C, h1, h2, fun ⟨i, q⟩ => h3 ⟨i, by rw [← hm]; exact q⟩, hx _ _ h4⟩
theorem OR.rd (hm : c'.μ = c.μ) (hr : ∀ b o, ¬ c.live b → plainO o → Rd c.H b o → Rd c'.H b o) (hx : ∀ b φ, c.H b = some (.ext φ) → c'.H b = some (.ext φ)) {a : Addr} (h : c'.H a = c.H a) : ∀ {o : AO}, OR G c a o → OR G c' a o
  | .lst _, ⟨xs, h1, r⟩ => ⟨xs, h.trans h1, L2.Paired.mapP r fun _ _ q => RW.rd hm hr hx q⟩
  | .dic _, ⟨xs, h1, r⟩ => ⟨xs, h.trans h1, L2.Paired.mapP r fun _ _ q => ⟨q.1, RW.rd hm hr hx q.2⟩⟩
  | .ins _ _, ⟨C, dx, xs, h1, h2, r⟩ => ⟨C, dx, xs, h.trans h1, h2, L2.Paired.mapP r fun _ _ q => ⟨q.1, RW.rd hm hr hx q.2⟩⟩
  | .tup _, ⟨xs, h1, r⟩ => ⟨xs, h.trans h1, L2.Paired.mapP r fun _ _ q => RW.rd hm hr hx q⟩
  | .dead, ⟨o, h1⟩ => ⟨o, h.trans h1⟩
  | .rod _, ⟨xs, od, h1, r⟩ => ⟨xs, od, h.trans h1, L2.Paired.mapP r fun _ _ q => ⟨q.1, RW.rd hm hr hx q.2⟩⟩
theorem EnvR.rd (hm : c'.μ = c.μ) (hr : ∀ b o, ¬ c.live b → plainO o → Rd c.H b o → Rd c'.H b o) (hx : ∀ b φ, c.H b = some (.ext φ) → c'.H b = some (.ext φ)) {env : EnvW} {σ : L2.St} (h : EnvR G c env σ) : EnvR G c' env σ :=
  ⟨h.1, fun i w q => let ⟨v, h1, h2⟩ := h.2 i w q; ⟨v, h1, RW.rd hm hr hx h2⟩⟩
end
section
variable {G : GA} {c c3 : Cf} {a : Addr} {xs : List (Key × V)} {od : Obj}
/-- a dict locked -/
theorem lk_rd (h : c.H a = some (.dK xs)) : (∀ b o, plainO o → Rd c.H b o → Rd (upd c.H a (.frz od (.dK xs))) b o) ∧ ∀ b φ, c.H b = some (.ext φ) → upd c.H a (.frz od (.dK xs)) b = some (.ext φ) := by
  refine ⟨fun b o po q => ?_, fun b φ q => ?_⟩
  · by_cases e : b = a
    · subst e
      rcases q with q | ⟨o', q⟩
      · rw [h] at q; cases q; exact .inr ⟨od, upd_same⟩
      · rw [h] at q; cases q
    · rcases q with q | ⟨o', q⟩
      · exact .inl (by rw [upd_ne e]; exact q)
      · exact .inr ⟨o', by rw [upd_ne e]; exact q⟩
  · rw [upd_ne]
    · exact q
    · intro e; rw [e, h] at q; cases q
/-- and unlocked -/
theorem ul_rd (h : c.H a = some (.frz od (.dK xs))) : (∀ b o, plainO o → Rd c.H b o → Rd (upd c.H a (.dK xs)) b o) ∧ ∀ b φ, c.H b = some (.ext φ) → upd c.H a (.dK xs) b = some (.ext φ) := by
  refine ⟨fun b o po q => ?_, fun b φ q => ?_⟩
  · by_cases e : b = a
    · subst e
      rcases q with q | ⟨o', q⟩
      · rw [h] at q; cases q; exact po.elim
      · rw [h] at q; cases q; exact .inl upd_same
    · rcases q with q | ⟨o', q⟩
      · exact .inl (by rw [upd_ne e]; exact q)
      · exact .inr ⟨o', by rw [upd_ne e]; exact q⟩
  · rw [upd_ne]
    · exact q
    · intro e; rw [e, h] at q; cases q
/-- data, locked -/
theorem lkD_ok (k : c.ok G) (h : c.H a = some (.dK xs)) (l : ¬ c.live a) : (⟨upd c.H a (.frz od (.dK xs)), c.μ, c.ah⟩ : Cf).ok G :=
  ⟨k.len, k.nd, fun i b o h1 h2 => by
    have ne : b ≠ a := fun e => l ⟨i, e ▸ h1⟩
    exact OR.rd (c := c) (c' := ⟨upd c.H a (.frz od (.dK xs)), c.μ, c.ah⟩) rfl (fun b o _ po q => (lk_rd h).1 b o po q) (lk_rd h).2 (by show upd c.H a _ b = c.H b; rw [upd_ne ne]) (k.obj i b o h1 h2)⟩
theorem ulD (k : c.ok G) (h : c.H a = some (.dK xs)) (l : ¬ c.live a) (ex : (⟨upd c.H a (.frz od (.dK xs)), c.μ, c.ah⟩ : Cf).ext c3) (k3 : c3.ok G) :
    c3.H a = some (.frz od (.dK xs)) ∧ c.ext ⟨upd c3.H a (.dK xs), c3.μ, c3.ah⟩ ∧ (⟨upd c3.H a (.dK xs), c3.μ, c3.ah⟩ : Cf).ok G ∧ ∀ v w, RW G c3 v w → RW G ⟨upd c3.H a (.dK xs), c3.μ, c3.ah⟩ v w := by
  obtain ⟨h3, l3⟩ := ex.keep a (.frz od (.dK xs)) upd_same l
  have ne : ∀ {i : Nat} {b : Addr}, c3.μ[i]? = some b → b ≠ a := fun h e => l3 ⟨_, e ▸ h⟩
  refine ⟨h3, ⟨fun i b q => ex.pre i b q, fun b o q lb => ?_, fun i b o h1 h2 q => ?_, fun i b kvs o h1 h2 q => ?_⟩, ⟨k3.len, k3.nd, fun i b o h1 h2 => ?_⟩, fun v w r => RW.rd (c := c3) (c' := ⟨upd c3.H a (.dK xs), c3.μ, c3.ah⟩) rfl (fun b o _ po q => (ul_rd h3).1 b o po q) (ul_rd h3).2 r⟩
  · by_cases e : b = a
    · subst e
      rw [h] at q; cases q
      exact ⟨upd_same, l3⟩
    · obtain ⟨z1, z2⟩ := ex.keep b o (by show upd c.H a _ b = _; rw [upd_ne e]; exact q) lb
      exact ⟨by show upd c3.H a _ b = _; rw [upd_ne e]; exact z1, z2⟩
  · have e : b ≠ a := fun e => l ⟨i, e ▸ h1⟩
    obtain ⟨z1, z2⟩ := ex.dead i b o h1 h2 (by show upd c.H a _ b = _; rw [upd_ne e]; exact q)
    exact ⟨by show upd c3.H a _ b = _; rw [upd_ne e]; exact z1, z2⟩
  · have e : b ≠ a := fun e => l ⟨i, e ▸ h1⟩
    obtain ⟨z1, z2⟩ := ex.rod i b kvs o h1 h2 (by show upd c.H a _ b = _; rw [upd_ne e]; exact q)
    exact ⟨by show upd c3.H a _ b = _; rw [upd_ne e]; exact z1, z2⟩
  · exact OR.rd (c := c3) (c' := ⟨upd c3.H a (.dK xs), c3.μ, c3.ah⟩) rfl (fun b o _ po q => (ul_rd h3).1 b o po q) (ul_rd h3).2 (by show upd c3.H a _ b = c3.H b; rw [upd_ne (ne h1)]) (k3.obj i b o h1 h2)
/-- a tracked dict, locked -/
theorem lkT_ok {j : Nat} {kvs : List (PyData × W)} (k : c.ok G) (hj : c.μ[j]? = some a) (ho : c.ah[j]? = some (.dic kvs)) (h : c.H a = some (.dK xs)) (r : PDW G c xs kvs) : (⟨upd c.H a (.frz od (.dK xs)), c.μ, c.ah.set j (.rod kvs)⟩ : Cf).ok G := by
  have hr := fun b o (_ : ¬ c.live b) po q => (lk_rd (od := od) h).1 b o po q
  refine ⟨by show c.μ.length = (c.ah.set j _).length; rw [List.length_set]; exact k.len, k.nd, fun i b o h1 h2 => ?_⟩
  have h1' : c.μ[i]? = some b := h1
  have h2' : (c.ah.set j (.rod kvs))[i]? = some o := h2
  by_cases e : j = i
  · subst e
    rw [hj] at h1'; cases h1'
    rw [List.getElem?_set_self (List.getElem?_eq_some_iff.mp ho).1] at h2'
    cases h2'
    exact ⟨xs, od, upd_same, L2.Paired.mapP r fun _ _ q => ⟨q.1, RW.rd (c := c) (c' := ⟨upd c.H a (.frz od (.dK xs)), c.μ, c.ah.set j (.rod kvs)⟩) rfl hr (lk_rd h).2 q.2⟩⟩
  · rw [List.getElem?_set_ne e] at h2'
    have ne : b ≠ a := fun z => e (k.inj hj (z ▸ h1'))
    exact OR.rd (c := c) (c' := ⟨upd c.H a (.frz od (.dK xs)), c.μ, c.ah.set j (.rod kvs)⟩) rfl hr (lk_rd h).2 (by show upd c.H a _ b = c.H b; rw [upd_ne ne]) (k.obj i b o h1' h2')
theorem ulT {j : Nat} {kvs : List (PyData × W)} (k : c.ok G) (hj : c.μ[j]? = some a) (ho : c.ah[j]? = some (.dic kvs)) (h : c.H a = some (.dK xs)) (r : PDW G c xs kvs) (ex : (⟨upd c.H a (.frz od (.dK xs)), c.μ, c.ah.set j (.rod kvs)⟩ : Cf).ext c3) (k3 : c3.ok G) :
    c3.H a = some (.frz od (.dK xs)) ∧ c.ext ⟨upd c3.H a (.dK xs), c3.μ, c3.ah.set j (.dic kvs)⟩ ∧ (⟨upd c3.H a (.dK xs), c3.μ, c3.ah.set j (.dic kvs)⟩ : Cf).ok G ∧ ∀ v w, RW G c3 v w → RW G ⟨upd c3.H a (.dK xs), c3.μ, c3.ah.set j (.dic kvs)⟩ v w := by
  have hjl : j < c.ah.length := (List.getElem?_eq_some_iff.mp ho).1
  obtain ⟨h3, o3⟩ := ex.rod j a kvs _ hj (List.getElem?_set_self hjl) upd_same
  have hj3 : c3.μ[j]? = some a := ex.pre j a hj
  have hr := fun b o (_ : ¬ c3.live b) po q => (ul_rd h3).1 b o po q
  have hw : ∀ v w, RW G c3 v w → RW G ⟨upd c3.H a (.dK xs), c3.μ, c3.ah.set j (.dic kvs)⟩ v w := fun v w q => RW.rd (c := c3) (c' := ⟨upd c3.H a (.dK xs), c3.μ, c3.ah.set j (.dic kvs)⟩) rfl hr (ul_rd h3).2 q
  have exu : c.ext ⟨upd c3.H a (.dK xs), c3.μ, c3.ah.set j (.dic kvs)⟩ := by
    refine ⟨fun i b q => ex.pre i b q, fun b o q lb => ?_, fun i b o h1 h2 q => ?_, fun i b kvs' o h1 h2 q => ?_⟩
    · have e : b ≠ a := fun e => lb ⟨j, e ▸ hj⟩
      obtain ⟨z1, z2⟩ := ex.keep b o (by show upd c.H a _ b = _; rw [upd_ne e]; exact q) lb
      exact ⟨by show upd c3.H a _ b = _; rw [upd_ne e]; exact z1, z2⟩
    · have ij : j ≠ i := fun e => by rw [← e, ho] at h2; cases h2
      have e : b ≠ a := fun z => ij (k.inj hj (z ▸ h1))
      obtain ⟨z1, z2⟩ := ex.dead i b o h1 (by show (c.ah.set j _)[i]? = _; rw [List.getElem?_set_ne ij]; exact h2) (by show upd c.H a _ b = _; rw [upd_ne e]; exact q)
      exact ⟨by show upd c3.H a _ b = _; rw [upd_ne e]; exact z1, by show (c3.ah.set j _)[i]? = _; rw [List.getElem?_set_ne ij]; exact z2⟩
    · have ij : j ≠ i := fun e => by rw [← e, ho] at h2; cases h2
      have e : b ≠ a := fun z => ij (k.inj hj (z ▸ h1))
      obtain ⟨z1, z2⟩ := ex.rod i b kvs' o h1 (by show (c.ah.set j _)[i]? = _; rw [List.getElem?_set_ne ij]; exact h2) (by show upd c.H a _ b = _; rw [upd_ne e]; exact q)
      exact ⟨by show upd c3.H a _ b = _; rw [upd_ne e]; exact z1, by show (c3.ah.set j _)[i]? = _; rw [List.getElem?_set_ne ij]; exact z2⟩
  refine ⟨h3, exu, ⟨by show c3.μ.length = (c3.ah.set j _).length; rw [List.length_set]; exact k3.len, k3.nd, fun i b o h1 h2 => ?_⟩, hw⟩
  have h1' : c3.μ[i]? = some b := h1
  have h2' : (c3.ah.set j (.dic kvs))[i]? = some o := h2
  by_cases e : j = i
  · subst e
    rw [hj3] at h1'; cases h1'
    rw [List.getElem?_set_self (List.getElem?_eq_some_iff.mp o3).1] at h2'
    cases h2'
    exact ⟨xs, upd_same, L2.Paired.mapP r fun _ _ q => ⟨q.1, RW.mono exu q.2⟩⟩
  · rw [List.getElem?_set_ne e] at h2'
    have ne : b ≠ a := fun z => e (k3.inj hj3 (z ▸ h1'))
    exact OR.rd (c := c3) (c' := ⟨upd c3.H a (.dK xs), c3.μ, c3.ah.set j (.dic kvs)⟩) rfl hr (ul_rd h3).2 (by show upd c3.H a _ b = c3.H b; rw [upd_ne ne]) (k3.obj i b o h1' h2')
end
end Ev
set_option Elab.async false
set_option linter.all false
set_option maxRecDepth 100000
set_option maxHeartbeats 4000000
/-! E14o: dicts that are walked, in the evaluator. -/
namespace Ev
open PySem PySem.Spec PyProof.Rows L2
def kLCw (t : Tg) (mt : EnvW → M Bool) (me : ME) (env : EnvW) (ws : List W) : M W := fun h => mbind (cLoop h.length t mt me ws (wipeW env t.slots)) (fun _ => mpure (.r h.length)) (h ++ [.lst []])
def lcR (g : TG) (tt : TT) (te : TE) (vs : List Nat) (σ : L2.St) (Q : VK) (J : It) (H1 : Hp) : Prop :=
  ∀ (D : Addr), H1 D = none → ∃ W : Nat → Nat → Hp → Prop, (∃ m, W 0 m (upd H1 D (HO.lst []))) ∧ ∀ (i m : Nat) (H : Hp), W i m H →
    J.stop i H ∧ Q (V.ref D) H ∨ J.go i H ∧ ∃ Nx : Hp → Prop, (∀ (H' : Hp), Nx H' → ∃ m', m' < m ∧ W (i + 1) m' H') ∧ ∀ (x : V) (H' : Hp), J.yld i H x H' →
      g x (wipe σ vs) H' fun σ2 H2 => wipe σ2 vs = wipe σ vs ∧ tt σ2 H2 fun b H3 => if b = true then te σ2 H3 fun y H4 => ∃ acc, H4 D = some (HO.lst acc) ∧ acc.length < sizeLine ∧ Nx (upd H4 D (HO.lst (acc ++ [y]))) else Nx H3
theorem tLc_eq {wi : TI} {g : TG} {tt : TT} {te : TE} {vs : List Nat} {σ : L2.St} {H : Hp} {Q : VK} : tLc wi g tt te vs σ H Q = wi σ H (lcR g tt te vs σ Q) := rfl
section
variable {T : Tb} {G : GA} {CM : FId → List W → M W} {k : Nat} {sc : Sc} {t : Tg} {mt : EnvW → M Bool} {me : ME}
theorem lc_core {σ : L2.St} {Q : VK} {K : PySem.W.Frag} {c1 : Cf} {env : EnvW} {ws : List W} {J : It} {E : Str → Cf → Prop} (hK : K = G.K) (ok1 : c1.ok G) (re : EnvR G c1 env σ) (hJ : IterOk G J ws c1) (q : Po G (kLCw t mt me env ws c1.ah) c1 (VQ G Q) E) :
    lcR (gTg K t) (tT G (fun _ _ _ _ => False) mt) (tE G (fun _ _ _ _ => False) me) t.slots σ Q J c1.H := by
  intro D hD
  have exD := Cf.new_ext (o := .lst []) (ao := .lst []) ok1 hD
  have okD : (c1.new D (.lst []) (.lst [])).ok G := Cf.new_ok ok1 hD ⟨[], upd_same, .nil⟩
  have q3 := Po.bind (c := c1.new D (.lst []) (.lst [])) (Po.bind.Po.later exD q)
  have rD : ∀ c3 : Cf, (c1.new D (.lst []) (.lst [])).ext c3 → c3.μ[c1.ah.length]? = some D := fun c3 ex => ex.pre _ _ (by show (c1.μ ++ [D])[c1.ah.length]? = some D; rw [← ok1.len]; simp)
  have re0 : EnvR G (c1.new D (.lst []) (.lst [])) (wipeW env t.slots) (L2.wipe σ t.slots) := (re.mono exD).wipe _
  refine ⟨fun i m H => m = ws.length - i ∧ i ≤ ws.length ∧ ∃ c2, c2.H = H ∧ c2.ok G ∧ (c1.new D (.lst []) (.lst [])).ext c2 ∧ Po G (cLoop c1.ah.length t mt me (ws.drop i) (wipeW env t.slots) c2.ah) c2 (fun _ c3 => VQ G Q (.r c1.ah.length) c3) (fun _ _ => True),
    ⟨ws.length, by simp, Nat.zero_le _, c1.new D (.lst []) (.lst []), rfl, okD, Cf.ext.refl _, Po.mono q3 (fun _ c3 e3 ok3 q4 => Po.here (a := W.r c1.ah.length) (F := VQ G Q) q4 ok3) fun _ _ _ _ _ => trivial⟩, ?_⟩
  rintro i m H1 ⟨rfl, hi1, c2, rfl, ok2, ex2, q4⟩
  by_cases hlt : i < ws.length
  · refine .inr ⟨hJ.go i c2 hlt (exD.trans ex2) ok2, fun H' => ∃ c3, c3.H = H' ∧ c3.ok G ∧ (c1.new D (.lst []) (.lst [])).ext c3 ∧ Po G (cLoop c1.ah.length t mt me (ws.drop (i + 1)) (wipeW env t.slots) c3.ah) c3 (fun _ c3 => VQ G Q (.r c1.ah.length) c3) (fun _ _ => True),
      fun H' h => ⟨ws.length - (i + 1), by omega, rfl, hlt, h⟩, fun x H' hy => ?_⟩
    obtain ⟨c3, w, ex3, ok3, rfl, eah, hw, rw3⟩ := hJ.yld i c2 x H' hlt (exD.trans ex2) ok2 hy
    rw [List.drop_eq_getElem_cons hlt] at q4
    have hw2 : ws[i] = w := by
      rw [List.getElem?_eq_getElem hlt] at hw
      exact Option.some.inj hw
    rw [hw2] at q4
    have q5 : Po G (cLoop c1.ah.length t mt me (w :: ws.drop (i + 1)) (wipeW env t.slots) c3.ah) c3 (fun _ c3 => VQ G Q (.r c1.ah.length) c3) (fun _ _ => True) := by
      rw [eah]
      exact Po.bind.Po.later ex3 q4
    cases hm : tgM t w (wipeW env t.slots) with
    | none =>
      simp only [cLoop, hm] at q5
      exact q5.elim
    | some env3 =>
      simp only [cLoop, hm] at q5
      refine gTg_ok (c := c3) hK (vs := t.slots) hm ((re0.mono ex2).mono ex3) rw3 (fun _ h => h) fun σ2 re4 hwp => ⟨by rw [hwp]; exact lc_read.wipe_wipe _ _, ?_⟩
      refine ⟨c3, env3, rfl, ok3, re4, Po.mono (noEx_po (Po.bind q5)) (fun b c4 e4 ok4 q6 => ?_) fun _ _ _ _ q => q⟩
      have ex4 := (ex2.trans ex3).trans e4
      cases b with
      | false => exact iteF ⟨c4, rfl, ok4, ex4, q6⟩
      | true =>
        refine iteT ⟨c4, env3, rfl, ok4, re4.mono e4, Po.mono (noEx_po (Po.bind q6)) (fun y c5 e5 ok5 q7 v rv => ?_) fun _ _ _ _ q => q⟩
        have ex5 := ex4.trans e5
        have q8 := Po.bind q7
        unfold pushM at q8
        split at q8
        · rename_i xs hx
          have hd := rD c5 ex5
          obtain ⟨us, hu, ru⟩ := ok5.obj _ D _ hd hx
          split at q8
          · rename_i hz
            obtain ⟨exP, okP⟩ := put_list ok5 hd hx (RWL.append ru (.cons rv .nil))
            exact ⟨us, hu, by rw [Paired.length ru]; exact hz, _, rfl, okP, ex5.trans exP, q8 _ exP okP rfl⟩
          · exact q8.elim
        · exact q8.elim
  · have e : i = ws.length := by omega
    subst e
    refine .inl ⟨hJ.stop c2 (exD.trans ex2) ok2, ?_⟩
    rw [List.drop_length] at q4
    have q6 := Po.here (a := ()) q4 ok2 (.ref D) ⟨D, rfl, rD c2 ex2⟩
    exact q6
/-! ### keys, values, entries -/
inductive DK where
  | key
  | val
  | itm
def rowW : DK → PyData × W → Option W
  | .key, (k, _) => some (.d k)
  | .val, (_, w) => some w
  | .itm, (k, .d x) => some (.d (.tuple [k, x]))
  | .itm, _ => none
def rowsW (kd : DK) : List (PyData × W) → Option (List W)
  | [] => some []
  | p :: ps => match rowW kd p, rowsW kd ps with
    | some w, some ws => some (w :: ws)
    | _, _ => none
def datW (ds : List (PyData × PyData)) : List (PyData × W) := ds.map fun p => (p.1, .d p.2)
def ItOf : DK → Addr → Obj → List (Key × V) → It
  | .key => Itk
  | .val => Itd
  | .itm => Iti
def iD (kd : DK) (td : TE) : TI := fun σ H R => td σ H fun x H1 => ∃ d o kvs, x = .ref d ∧ H1 d = some (.frz o (.dK kvs)) ∧ R (ItOf kd d o kvs) H1
theorem rows_get {kd : DK} : ∀ {kvs : List (PyData × W)} {ws : List W}, rowsW kd kvs = some ws → ws.length = kvs.length ∧ ∀ (i : Nat) (p : PyData × W), kvs[i]? = some p → ∃ w, rowW kd p = some w ∧ ws[i]? = some w
  | [], ws, h => by cases h; exact ⟨rfl, fun i p q => by simp at q⟩
  | p :: ps, ws, h => by
    unfold rowsW at h
    split at h
    · rename_i w ws' h1 h2
      cases h
      obtain ⟨e1, e2⟩ := rows_get h2
      refine ⟨by simp [e1], fun i q hq => ?_⟩
      cases i with
      | zero => have : p = q := by simpa using hq
                subst this; exact ⟨w, h1, rfl⟩
      | succ i => exact e2 i q (by simpa using hq)
    · cases h
theorem paired_get {α β : Type} {P : α → β → Prop} {xs : List α} {ys : List β} (h : Paired P xs ys) : ∀ {i : Nat} {x : α}, xs[i]? = some x → ∃ y, ys[i]? = some y ∧ P x y := by
  induction h with
  | nil => intro i x q; simp at q
  | cons h r ih =>
    intro i x q
    cases i with
    | zero =>
      simp only [List.getElem?_cons_zero, Option.some.injEq] at q
      subst q
      exact ⟨_, rfl, h⟩
    | succ i => exact ih (by simpa using q)
theorem iter_dic {kd : DK} {c : Cf} {a : Addr} {od : Obj} {xs : List (Key × V)} {kvs : List (PyData × W)} {ws : List W} (hs : ∀ c2, c.ext c2 → c2.H a = some (.frz od (.dK xs))) (r : PDW G c xs kvs) (hw : rowsW kd kvs = some ws) : IterOk G (ItOf kd a od xs) ws c := by
  obtain ⟨hl, hg⟩ := rows_get hw
  have len : xs.length = ws.length := by rw [Paired.length r, hl]
  have item : ∀ {i : Nat} {kk : Key} {v : V}, xs[i]? = some (kk, v) → ∃ w w0, ws[i]? = some w ∧ rowW kd (keyD kk, w0) = some w ∧ RW G c v w0 := fun {i kk v} h => by
    obtain ⟨⟨kd', w0⟩, h1, h2, h3⟩ := paired_get r h
    have h2' : kd' = keyD kk := h2
    subst h2'
    obtain ⟨w, h4, h5⟩ := hg i _ h1
    exact ⟨w, w0, h5, h4, h3⟩
  cases kd with
  | key =>
    exact ⟨fun i c2 hi ex _ => ⟨hs c2 ex, by omega⟩, fun c2 ex _ => ⟨hs c2 ex, by omega⟩, fun i c2 x H' hi ex ok2 y => by
      obtain ⟨e, kk, v, h1, h2⟩ := y
      subst e h2
      obtain ⟨w, w0, h3, h4, h5⟩ := item h1
      cases h4
      exact ⟨c2, _, Cf.ext.refl c2, ok2, rfl, rfl, h3, rp_key kk⟩⟩
  | val =>
    exact ⟨fun i c2 hi ex _ => ⟨hs c2 ex, by omega⟩, fun c2 ex _ => ⟨hs c2 ex, by omega⟩, fun i c2 x H' hi ex ok2 y => by
      obtain ⟨e, kk, h1⟩ := y
      subst e
      obtain ⟨w, w0, h3, h4, h5⟩ := item h1
      cases h4
      exact ⟨c2, _, Cf.ext.refl c2, ok2, rfl, rfl, h3, RW.mono ex h5⟩⟩
  | itm =>
    exact ⟨fun i c2 hi ex _ => ⟨hs c2 ex, by omega⟩, fun c2 ex _ => ⟨hs c2 ex, by omega⟩, fun i c2 x H' hi ex ok2 y => by
      obtain ⟨P, kk, v, h1, rfl, hP, rfl⟩ := y
      obtain ⟨w, w0, h3, h4, h5⟩ := item h1
      have ex2 := Cf.lay_ext (c := c2) (o := .tup [kV kk, v]) hP
      cases w0 with
      | d x =>
        cases h4
        exact ⟨c2.lay P (.tup [kV kk, v]), _, ex2, Cf.lay_ok ok2 hP, rfl, rfl, h3, .tup (Cf.lay_live ok2 hP) (.inl upd_same) (.cons (rp_key kk) (.cons (Rp.mono (ex.trans ex2) h5) .nil))⟩
      | r i => cases h4
      | fn i => cases h4
      | ex i => cases h4⟩
theorem dat_pdw {c : Cf} : ∀ {xs : List (Key × V)} {ds : List (PyData × PyData)}, RpD G.K c xs ds → PDW G c xs (datW ds)
  | _, _, .nil => .nil
  | _, _, .cons h r => .cons ⟨rfl, h⟩ (dat_pdw r)
/-! ### list comprehensions over a name's dict -/
def noExM {α : Type} (r : R α) (f : AH → AH) : R α := match r with
  | .ok a h => .ok a (f h)
  | _ => .no
def eLCd (kd : DK) (i : Nat) (t : Tg) (mt : EnvW → M Bool) (me : ME) : ME := fun env h => match env[i]? with
  | some (some (.r j)) => (match h[j]? with
    | some (.dic kvs) => (match rowsW kd kvs with
      | some ws => noExM (kLCw t mt me env ws (h.set j (.rod kvs))) fun h' => h'.set j (.dic kvs)
      | none => .no)
    | some (.rod kvs) => (match rowsW kd kvs with
      | some ws => noExM (kLCw t mt me env ws h) id
      | none => .no)
    | _ => .no)
  | some (some (.d (.dict ds))) => (match rowsW kd (datW ds) with
    | some ws => noExM (kLCw t mt me env ws h) id
    | none => .no)
  | _ => .no
theorem lcD_read {kd : DK} {i : Nat} {Wx : WX} {σ : L2.St} {H : Hp} {Q : VK} {K : PySem.W.Frag} (hK : K = G.K) (h : tE G Wx (eLCd kd i t mt me) σ H Q) :
    tLockE (tLc (iD kd (tVar i)) (gTg K t) (tT G (fun _ _ _ _ => False) mt) (tE G (fun _ _ _ _ => False) me) t.slots) σ H Q ∨ tLc (iD kd (tVar i)) (gTg K t) (tT G (fun _ _ _ _ => False) mt) (tE G (fun _ _ _ _ => False) me) t.slots σ H Q := by
  obtain ⟨c, env, e, ok, re, q⟩ := h
  subst e
  unfold eLCd at q
  have core : ∀ {c1 : Cf} {a : Addr} {od : Obj} {xs : List (Key × V)} {kvs : List (PyData × W)} {ws : List W} {f : AH → AH} {Q' : VK}, c1.ok G → EnvR G c1 env σ → σ[i]? = some (some (.ref a)) → c1.H a = some (.frz od (.dK xs)) → (∀ c2, c1.ext c2 → c2.H a = some (.frz od (.dK xs))) → PDW G c1 xs kvs → rowsW kd kvs = some ws →
      (∀ w c3, c1.ext c3 → c3.ok G → kLCw t mt me env ws c1.ah = .ok w c3.ah → VQ G Q' w c3) → (∃ w h', kLCw t mt me env ws c1.ah = .ok w h') → tLc (iD kd (tVar i)) (gTg K t) (tT G (fun _ _ _ _ => False) mt) (tE G (fun _ _ _ _ => False) me) t.slots σ c1.H Q' := by
    intro c1 a od xs kvs ws f Q' ok1 re1 hv hH hs r hw hq ⟨w, h', hk⟩
    rw [tLc_eq]
    refine ⟨.ref a, hv, a, od, xs, rfl, hH, lc_core hK ok1 re1 (iter_dic hs r hw) (E := fun _ _ => True) ?_⟩
    rw [hk]
    intro c3 ex3 ok3 e3
    exact hq w c3 ex3 ok3 (by rw [hk, e3])
  have okk : ∀ {α : Type} {r : R α} {f : AH → AH} {F : α → Cf → Prop} {E : Str → Cf → Prop}, Po G (noExM r f) c F E → ∃ w h', r = .ok w h' ∧ Po G (.ok w (f h')) c F E := fun {α r f F E} h => by
    unfold noExM at h
    split at h
    · exact ⟨_, _, rfl, h⟩
    · exact h.elim
  split at q
  · rename_i j hj
    obtain ⟨v, hv, rv⟩ := re.2 i _ hj
    split at q
    · rename_i kvs ho
      obtain ⟨a, rfl, hm, xs, hx, r⟩ := rRef ok rv ho
      split at q
      · rename_i ws hw
        obtain ⟨w, h', hk, q⟩ := okk q
        left
        refine ⟨a, .dK xs, hx, trivial, fun od => ?_⟩
        have ok1 := lkT_ok (od := od) ok hm ho hx r
        have hr := fun b o (_ : ¬ c.live b) po q => (lk_rd (od := od) hx).1 b o po q
        refine core (c1 := ⟨upd c.H a (.frz od (.dK xs)), c.μ, c.ah.set j (.rod kvs)⟩) (f := id) ok1 (EnvR.rd (c := c) (c' := ⟨upd c.H a (.frz od (.dK xs)), c.μ, c.ah.set j (.rod kvs)⟩) rfl hr (lk_rd hx).2 re) hv upd_same (fun c2 ex => ?_) (L2.Paired.mapP r fun _ _ q => ⟨q.1, RW.rd (c := c) (c' := ⟨upd c.H a (.frz od (.dK xs)), c.μ, c.ah.set j (.rod kvs)⟩) rfl hr (lk_rd hx).2 q.2⟩) hw (fun w3 c3 ex3 ok3 e3 v rv3 => ?_) ⟨w, h', hk⟩
        · exact (ex.rod j a kvs _ hm (List.getElem?_set_self (List.getElem?_eq_some_iff.mp ho).1) upd_same).1
        · obtain ⟨u1, u2, u3, u4⟩ := ulT ok hm ho hx r ex3 ok3
          refine ⟨u1, ?_⟩
          have e4 : (R.ok w h' : R W) = .ok w3 c3.ah := hk.symm.trans e3
          cases e4
          exact q _ u2 u3 rfl v (u4 v w rv3)
      · exact q.elim
    · rename_i kvs ho
      obtain ⟨a, rfl, hm, xs, od, hx, r⟩ := rRef ok rv ho
      split at q
      · rename_i ws hw
        obtain ⟨w, h', hk, q⟩ := okk q
        right
        refine core (f := id) ok re hv hx (fun c2 ex => (ex.rod j a kvs _ hm ho hx).1) r hw (fun w3 c3 ex3 ok3 e3 v rv3 => ?_) ⟨w, h', hk⟩
        have e4 : (R.ok w h' : R W) = .ok w3 c3.ah := hk.symm.trans e3
        cases e4
        exact q _ ex3 ok3 rfl v rv3
      · exact q.elim
    · exact q.elim
  · rename_i ds hj
    obtain ⟨v, hv, rv⟩ := re.2 i _ hj
    split at q
    · rename_i ws hw
      obtain ⟨w, h', hk, q⟩ := okk q
      cases (show Rp G.K c v (.dict ds) from rv) with
      | dic l1 h1 r1 =>
        rename_i a xs
        rcases h1 with h1 | ⟨od, h1⟩
        · left
          refine ⟨a, .dK xs, h1, trivial, fun od => ?_⟩
          have ok1 := lkD_ok (od := od) ok h1 l1
          have hr := fun b o (_ : ¬ c.live b) po q => (lk_rd (od := od) h1).1 b o po q
          refine core (c1 := ⟨upd c.H a (.frz od (.dK xs)), c.μ, c.ah⟩) (f := id) ok1 (EnvR.rd (c := c) (c' := ⟨upd c.H a (.frz od (.dK xs)), c.μ, c.ah⟩) rfl hr (lk_rd h1).2 re) hv upd_same (fun c2 ex => (ex.keep a _ upd_same l1).1) (L2.Paired.mapP (dat_pdw r1) fun _ _ q => ⟨q.1, RW.rd (c := c) (c' := ⟨upd c.H a (.frz od (.dK xs)), c.μ, c.ah⟩) rfl hr (lk_rd h1).2 q.2⟩) hw (fun w3 c3 ex3 ok3 e3 v rv3 => ?_) ⟨w, h', hk⟩
          obtain ⟨u1, u2, u3, u4⟩ := ulD ok h1 l1 ex3 ok3
          refine ⟨u1, ?_⟩
          have e4 : (R.ok w h' : R W) = .ok w3 c3.ah := hk.symm.trans e3
          cases e4
          exact q _ u2 u3 rfl v (u4 v w rv3)
        · right
          refine core (f := id) ok re hv h1 (fun c2 ex => (ex.keep a _ h1 l1).1) (dat_pdw r1) hw (fun w3 c3 ex3 ok3 e3 v rv3 => ?_) ⟨w, h', hk⟩
          have e4 : (R.ok w h' : R W) = .ok w3 c3.ah := hk.symm.trans e3
          cases e4
          exact q _ ex3 ok3 rfl v rv3
    · exact q.elim
  · exact q.elim
/-! ### the shapes -/
def isTupE : Expr → Bool
  | .Tuple .. => true
  | _ => false
def dShape (T : Tb) (sc : Sc) (tg : Expr) : Expr → Option (DK × Nat)
  | .Name x _ => if T.dnames.contains x then (slot sc x).map fun i => (.key, i) else none
  | .Call (.Attribute (.Name x _) m apos) [] [] cpos => if apos.endLine == cpos.line then (match slot sc x with
      | some i => if m = ("keys" : Str) then some (.key, i) else if m = ("values" : Str) then some (.val, i) else if m = ("items" : Str) ∧ isTupE tg = true then some (.itm, i) else none
      | none => none) else none
  | _ => none
theorem pi_dic {X : Cx} {Wx : WX} (F : Fits T G CM k X sc Wx) {tg it : Expr} {kd : DK} {i : Nat} (h : dShape T sc tg it = some (kd, i)) : PI X tg it (iD kd (tVar i)) := by
  have pv : ∀ {x : Str} {p : Pos}, slot sc x = some i → PE X (.Name x p) (tVar i) := fun {x p} h => by
    obtain ⟨h1, h2, h3, h4⟩ := slot_ok h
    exact pe_var (X := X) (i := i) (pos := p) (by rw [F.N]; exact h1) (by rw [F.scope]; exact h2) h3 h4
  unfold dShape at h
  split at h
  · split at h
    · rename_i x p _
      cases hs : slot sc x with
      | none => rw [hs] at h; cases h
      | some i' =>
        rw [hs] at h
        cases h
        exact PI.imp (pi_keys (pv hs)) fun σ H R ⟨v, hv, d, o, kvs, e, hH, q⟩ => ⟨v, hv, d, o, e, .inl ⟨kvs, hH, q⟩⟩
    · cases h
  · rename_i x p m apos cpos
    split at h
    · rename_i hl
      split at h
      · rename_i i' hs
        split at h
        · rename_i hm
          cases h
          subst hm
          exact PI.imp (pi_keysM (pv hs) (okBase_ok rfl _ _) hl) fun σ H R q => q
        · split at h
          · rename_i hm
            cases h
            subst hm
            exact PI.imp (pi_values (pv hs) (okBase_ok rfl _ _) hl) fun σ H R q => q
          · split at h
            · rename_i hm
              obtain ⟨hm, ht⟩ := hm
              cases h
              subst hm
              cases tg with
              | Tuple es kk tp => exact PI.imp (pi_items (pv hs) (okBase_ok rfl _ _) hl) fun σ H R q => q
              | _ => exact Bool.noConfusion (show false = true from ht)
            · cases h
      · cases h
    · cases h
  · cases h
theorem PE.orr {X : Cx} {e : Expr} {t t' : TE} (h : PE X e t) (h' : PE X e t') : PE X e (fun σ H Q => t σ H Q ∨ t' σ H Q) := ⟨fun p s σ H Q I q => by
  rcases q with q | q
  · exact h.run p s σ H Q I q
  · exact h'.run p s σ H Q I q⟩
theorem PS.orr {X : Cx} {e : Stmt} {t t' : TS} (h : PS X e t) (h' : PS X e t') : PS X e (fun D σ H => t D σ H ∨ t' D σ H) := ⟨fun p s σ H D I q => by
  rcases q with q | q
  · exact h.run p s σ H D I q
  · exact h'.run p s σ H D I q⟩
variable {tg it elt : Expr} {ifs : List Expr} {scope : Scope} {kd : DK} {i : Nat} {pos spos py : Pos}
theorem se_lcD (ht : lcT sc scope tg = some t) (hd : dShape T sc tg it = some (kd, i)) (hn : noSetE it = true) (hif : ST0 T G CM k (blkSc sc scope) ifs mt) (he : SE T G CM k (blkSc sc scope) elt me) : SE T G CM k sc (.ListComp elt [⟨tg, it, ifs, 0⟩] scope pos) (eLCd kd i t mt me) := fun X Wx F => by
  obtain ⟨own, h1, h2, h3⟩ := lcT_ok ht
  have hb : BlkOk X.N X.env.scope scope own := by rw [F.N, F.scope]; exact h1
  have P := pe_lc (pos := pos) (g := gTg X.K t) F.calm F.ndN (pi_dic F hd) hb (fun s H C cl fp => pg_tg (F.blk scope s H C cl fp) h3) (fun s H C cl fp => hif _ _ (F.blk scope s H C cl fp)) (fun s H C cl fp => he _ _ (F.blk scope s H C cl fp)) (noSetE_ok hn _)
  rw [h2] at P
  exact PE.imp (PE.orr (pe_lock P) P) fun σ H Q q => lcD_read F.K q
theorem ss_setLcD {y : Str} {l : Nat} (hy : sc.scope.names.lookup y = some .local) (hi2 : sc.N.idxOf? y = some l) (hk : sc.scope.kind = .function) (hl : (py.line == pos.line) = true) (hany : (scope.names.any fun (n, k) => n == y && (k == .local || k == .cell)) = false)
    (ht : lcT sc scope tg = some t) (hd : dShape T sc tg it = some (kd, i)) (hn : noSetE it = true) (hif : ST0 T G CM k (blkSc sc scope) ifs mt) (he : SE T G CM k (blkSc sc scope) elt me) : SS T G CM k sc (.Assign [.Name y py] (.ListComp elt [⟨tg, it, ifs, 0⟩] scope pos) spos) (sSet l (eLCd kd i t mt me)) := fun X Ex F hp hs hf => by
  obtain ⟨own, h1, h2, h3⟩ := lcT_ok ht
  have hb : BlkOk X.N X.env.scope scope own := by rw [F.N, F.scope]; exact h1
  have hyX : X.env.scope.names.lookup y = some .local := by rw [F.scope]; exact hy
  have P := ps_setLc (spos := spos) (pos := pos) (g := gTg X.K t) (i := l) F.calm F.ndN (by rw [F.N]; exact idx_at hi2) hyX (sw_true (by rw [F.scope]; exact hk) hyX hl hany) (pi_dic F hd) hb (fun s H C cl fp => pg_tg (F.blk scope s H C cl fp) h3) (fun s H C cl fp => hif _ _ (F.blk scope s H C cl fp)) (fun s H C cl fp => he _ _ (F.blk scope s H C cl fp)) (noSetE_ok hn _)
  rw [h2] at P
  refine PS.imp (PS.orr (ps_lock P) P) fun D σ H ⟨c, env, e, ok, re, q⟩ => ?_
  subst e
  have q0 : tE G (fun cls d _ H => Ex cls d H) (eLCd kd i t mt me) σ c.H (fun v H1 => D.nx (σ.set l (some v)) H1) := tE.step ok re q fun w c1 v e1 ok1 re1 rv q1 => Po.here (a := Fl.nx (env.set l (some w))) q1 ok1 _ (re1.set rv)
  exact lcD_read F.K q0
end
end Ev
set_option Elab.async false
set_option linter.all false
set_option maxRecDepth 100000
set_option maxHeartbeats 4000000
/-! E14p: loops over dicts, in the evaluator. -/
namespace Ev
open PySem PySem.Spec PyProof.Rows L2
section
variable {T : Tb} {G : GA} {CM : FId → List W → M W} {k : Nat} {sc : Sc} {t : Tg}
/-! ### loops over a name's dict -/
def forR (g : TG) (tb : TS) (D : Ends) (σ : L2.St) (J : It) (H1 : Hp) : Prop :=
  ∃ W : Nat → Nat → L2.St → Hp → Prop, (∃ m, W 0 m σ H1) ∧ ∀ (i m : Nat) (σ : L2.St) (H : Hp), W i m σ H →
    J.stop i H ∧ D.nx σ H ∨ J.go i H ∧ ∃ N : L2.St → Hp → Prop, (∀ (σ' : L2.St) (H' : Hp), N σ' H' → ∃ m', m' < m ∧ W (i + 1) m' σ' H') ∧ ∀ (x : V) (H' : Hp), J.yld i H x H' → g x σ H' fun σ2 H2 => tb { nx := N, rt := D.rt, bk := D.nx, ct := N } σ2 H2
theorem tFor_eq {wi : TI} {g : TG} {tb : TS} {D : Ends} {σ : L2.St} {H : Hp} : tFor wi g tb D σ H = wi σ H (forR g tb D σ) := rfl
theorem for_core {σ : L2.St} {K : PySem.W.Frag} {c1 : Cf} {env : EnvW} {ws : List W} {J : It} {D : Ends} {Ex : XK} {ms : MS} (hK : K = G.K) (ok1 : c1.ok G) (re : EnvR G c1 env σ) (hJ : IterOk G J ws c1) (q : Po G (floop t ms ws env c1.ah) c1 (FlP G D) (fun e c3 => ∀ C, G.xa e = some C → Ex (.ref C) none c3.H)) :
    forR (gTg K t) (tS G Ex ms) D σ J c1.H := by
  refine ⟨fun i m σ H => m = ws.length - i ∧ i ≤ ws.length ∧ ∃ c2 env2, c2.H = H ∧ c2.ok G ∧ c1.ext c2 ∧ EnvR G c2 env2 σ ∧ Po G (floop t ms (ws.drop i) env2 c2.ah) c2 (fun a c3 => FlP G D a c3) (fun e c3 => ∀ C, G.xa e = some C → Ex (.ref C) none c3.H),
    ⟨ws.length, by simp, Nat.zero_le _, c1, env, rfl, ok1, Cf.ext.refl _, re, q⟩, ?_⟩
  rintro i m σ1 H1 ⟨rfl, hi1, c2, env2, rfl, ok2, ex2, re2, q3⟩
  by_cases hlt : i < ws.length
  · refine .inr ⟨hJ.go i c2 hlt ex2 ok2, fun σ' H' => ∃ c3 env3, c3.H = H' ∧ c3.ok G ∧ c1.ext c3 ∧ EnvR G c3 env3 σ' ∧ Po G (floop t ms (ws.drop (i + 1)) env3 c3.ah) c3 (fun a c3 => FlP G D a c3) (fun e c3 => ∀ C, G.xa e = some C → Ex (.ref C) none c3.H),
      fun σ' H' h => ⟨ws.length - (i + 1), by omega, rfl, hlt, h⟩, fun x H' hy => ?_⟩
    obtain ⟨c3, w, ex3, ok3, rfl, eah, hw, rw3⟩ := hJ.yld i c2 x H' hlt ex2 ok2 hy
    rw [List.drop_eq_getElem_cons hlt] at q3
    have hw2 : ws[i] = w := by
      rw [List.getElem?_eq_getElem hlt] at hw
      exact Option.some.inj hw
    rw [hw2] at q3
    have q4 : Po G (floop t ms (w :: ws.drop (i + 1)) env2 c3.ah) c3 (fun a c3 => FlP G D a c3) (fun e c3 => ∀ C, G.xa e = some C → Ex (.ref C) none c3.H) := by
      rw [eah]
      exact Po.bind.Po.later ex3 q3
    cases hm : tgM t w env2 with
    | none =>
      simp only [floop, hm] at q4
      exact q4.elim
    | some env3 =>
      simp only [floop, hm] at q4
      refine gTg_ok (c := c3) hK (vs := t.slots) hm (re2.mono ex3) rw3 (fun _ h => h) fun σ2 re4 _ => ?_
      refine ⟨c3, env3, rfl, ok3, re4, Po.mono (Po.bind q4) (fun fl c4 e4 ok4 q5 => ?_) fun e' c4 e4 ok4 q5 C hC => q5 C hC⟩
      have ex4 := (ex2.trans ex3).trans e4
      cases fl with
      | nx env' => exact fun σ' re' => ⟨c4, env', rfl, ok4, ex4, re', q5⟩
      | ct env' => exact fun σ' re' => ⟨c4, env', rfl, ok4, ex4, re', q5⟩
      | bk env' =>
        intro σ' re'
        have q6 := Po.here (a := Fl.nx env') q5 ok4 σ' re'
        exact q6
      | rt w =>
        intro v rv
        have q6 := Po.here (a := Fl.rt w) q5 ok4 v rv
        exact q6
  · have e : i = ws.length := by omega
    subst e
    refine .inl ⟨hJ.stop c2 ex2 ok2, ?_⟩
    rw [List.drop_length] at q3
    have q6 := Po.here (a := Fl.nx env2) q3 ok2 σ1 re2
    exact q6

def sForD (kd : DK) (i : Nat) (t : Tg) (ms : MS) : MS := fun env h => match env[i]? with
  | some (some (.r j)) => (match h[j]? with
    | some (.dic kvs) => (match rowsW kd kvs with
      | some ws => noExM (floop t ms ws env (h.set j (.rod kvs))) fun h' => h'.set j (.dic kvs)
      | none => .no)
    | some (.rod kvs) => (match rowsW kd kvs with
      | some ws => noExM (floop t ms ws env h) id
      | none => .no)
    | _ => .no)
  | some (some (.d (.dict ds))) => (match rowsW kd (datW ds) with
    | some ws => noExM (floop t ms ws env h) id
    | none => .no)
  | _ => .no
theorem forD_read {kd : DK} {i : Nat} {Ex : XK} {σ : L2.St} {H : Hp} {D : Ends} {ms : MS} {K : PySem.W.Frag} (hK : K = G.K) (h : tS G Ex (sForD kd i t ms) D σ H) :
    tLock (tFor (iD kd (tVar i)) (gTg K t) (tS G Ex ms)) D σ H ∨ tFor (iD kd (tVar i)) (gTg K t) (tS G Ex ms) D σ H := by
  obtain ⟨c, env, e, ok, re, q⟩ := h
  subst e
  unfold sForD at q
  have core : ∀ {c1 : Cf} {a : Addr} {od : Obj} {xs : List (Key × V)} {kvs : List (PyData × W)} {ws : List W} {D' : Ends}, c1.ok G → EnvR G c1 env σ → σ[i]? = some (some (.ref a)) → c1.H a = some (.frz od (.dK xs)) → (∀ c2, c1.ext c2 → c2.H a = some (.frz od (.dK xs))) → PDW G c1 xs kvs → rowsW kd kvs = some ws →
      (∀ w c3, c1.ext c3 → c3.ok G → floop t ms ws env c1.ah = .ok w c3.ah → FlP G D' w c3) → (∃ w h', floop t ms ws env c1.ah = .ok w h') → tFor (iD kd (tVar i)) (gTg K t) (tS G Ex ms) D' σ c1.H := by
    intro c1 a od xs kvs ws D' ok1 re1 hv hH hs r hw hq ⟨w, h', hk⟩
    rw [tFor_eq]
    refine ⟨.ref a, hv, a, od, xs, rfl, hH, for_core hK ok1 re1 (iter_dic hs r hw) ?_⟩
    rw [hk]
    intro c3 ex3 ok3 e3
    exact hq w c3 ex3 ok3 (by rw [hk, e3])
  have okk : ∀ {α : Type} {r : R α} {f : AH → AH} {F : α → Cf → Prop} {E : Str → Cf → Prop}, Po G (noExM r f) c F E → ∃ w h', r = .ok w h' ∧ Po G (.ok w (f h')) c F E := fun {α r f F E} h => by
    unfold noExM at h
    split at h
    · exact ⟨_, _, rfl, h⟩
    · exact h.elim
  -- what comes out of a lock
  have flw : ∀ {c3 c4 : Cf} {fl : Fl} {d : Addr} {u : HO} {od : Obj}, c3.H d = some (.frz od u) → c4.H = upd c3.H d u → (∀ v w, RW G c3 v w → RW G c4 v w) → FlP G D fl c4 →
      FlP G ⟨fun σ' H' => H' d = some (HO.frz od u) ∧ D.nx σ' (upd H' d u), fun v H' => H' d = some (HO.frz od u) ∧ D.rt v (upd H' d u), fun σ' H' => H' d = some (HO.frz od u) ∧ D.bk σ' (upd H' d u), fun σ' H' => H' d = some (HO.frz od u) ∧ D.ct σ' (upd H' d u)⟩ fl c3 := by
    intro c3 c4 fl d u od h1 h2 h3 h4
    have re' : ∀ {e : EnvW} {σ' : L2.St}, EnvR G c3 e σ' → EnvR G c4 e σ' := fun r => ⟨r.1, fun i w q => let ⟨v, z1, z2⟩ := r.2 i w q; ⟨v, z1, h3 _ _ z2⟩⟩
    cases fl with
    | nx e => intro σ' r; exact ⟨h1, by rw [← h2]; exact h4 σ' (re' r)⟩
    | rt w => intro v r; exact ⟨h1, by rw [← h2]; exact h4 v (h3 _ _ r)⟩
    | bk e => intro σ' r; exact ⟨h1, by rw [← h2]; exact h4 σ' (re' r)⟩
    | ct e => intro σ' r; exact ⟨h1, by rw [← h2]; exact h4 σ' (re' r)⟩
  split at q
  · rename_i j hj
    obtain ⟨v, hv, rv⟩ := re.2 i _ hj
    split at q
    · rename_i kvs ho
      obtain ⟨a, rfl, hm, xs, hx, r⟩ := rRef ok rv ho
      split at q
      · rename_i ws hw
        obtain ⟨w, h', hk, q⟩ := okk q
        left
        refine ⟨a, .dK xs, hx, trivial, fun od => ?_⟩
        have ok1 := lkT_ok (od := od) ok hm ho hx r
        have hr := fun b o (_ : ¬ c.live b) po q => (lk_rd (od := od) hx).1 b o po q
        refine core (c1 := ⟨upd c.H a (.frz od (.dK xs)), c.μ, c.ah.set j (.rod kvs)⟩) ok1 (EnvR.rd (c := c) (c' := ⟨upd c.H a (.frz od (.dK xs)), c.μ, c.ah.set j (.rod kvs)⟩) rfl hr (lk_rd hx).2 re) hv upd_same (fun c2 ex => ?_) (L2.Paired.mapP r fun _ _ q => ⟨q.1, RW.rd (c := c) (c' := ⟨upd c.H a (.frz od (.dK xs)), c.μ, c.ah.set j (.rod kvs)⟩) rfl hr (lk_rd hx).2 q.2⟩) hw (fun w3 c3 ex3 ok3 e3 => ?_) ⟨w, h', hk⟩
        · exact (ex.rod j a kvs _ hm (List.getElem?_set_self (List.getElem?_eq_some_iff.mp ho).1) upd_same).1
        · obtain ⟨u1, u2, u3, u4⟩ := ulT ok hm ho hx r ex3 ok3
          have e4 : (R.ok w h' : R Fl) = .ok w3 c3.ah := hk.symm.trans e3
          cases e4
          exact flw u1 rfl u4 (q _ u2 u3 rfl)
      · exact q.elim
    · rename_i kvs ho
      obtain ⟨a, rfl, hm, xs, od, hx, r⟩ := rRef ok rv ho
      split at q
      · rename_i ws hw
        obtain ⟨w, h', hk, q⟩ := okk q
        right
        refine core ok re hv hx (fun c2 ex => (ex.rod j a kvs _ hm ho hx).1) r hw (fun w3 c3 ex3 ok3 e3 => ?_) ⟨w, h', hk⟩
        have e4 : (R.ok w h' : R Fl) = .ok w3 c3.ah := hk.symm.trans e3
        cases e4
        exact q _ ex3 ok3 rfl
      · exact q.elim
    · exact q.elim
  · rename_i ds hj
    obtain ⟨v, hv, rv⟩ := re.2 i _ hj
    split at q
    · rename_i ws hw
      obtain ⟨w, h', hk, q⟩ := okk q
      cases (show Rp G.K c v (.dict ds) from rv) with
      | dic l1 h1 r1 =>
        rename_i a xs
        rcases h1 with h1 | ⟨od, h1⟩
        · left
          refine ⟨a, .dK xs, h1, trivial, fun od => ?_⟩
          have ok1 := lkD_ok (od := od) ok h1 l1
          have hr := fun b o (_ : ¬ c.live b) po q => (lk_rd (od := od) h1).1 b o po q
          refine core (c1 := ⟨upd c.H a (.frz od (.dK xs)), c.μ, c.ah⟩) ok1 (EnvR.rd (c := c) (c' := ⟨upd c.H a (.frz od (.dK xs)), c.μ, c.ah⟩) rfl hr (lk_rd h1).2 re) hv upd_same (fun c2 ex => (ex.keep a _ upd_same l1).1) (L2.Paired.mapP (dat_pdw r1) fun _ _ q => ⟨q.1, RW.rd (c := c) (c' := ⟨upd c.H a (.frz od (.dK xs)), c.μ, c.ah⟩) rfl hr (lk_rd h1).2 q.2⟩) hw (fun w3 c3 ex3 ok3 e3 => ?_) ⟨w, h', hk⟩
          obtain ⟨u1, u2, u3, u4⟩ := ulD ok h1 l1 ex3 ok3
          have e4 : (R.ok w h' : R Fl) = .ok w3 c3.ah := hk.symm.trans e3
          cases e4
          exact flw u1 rfl u4 (q _ u2 u3 rfl)
        · right
          refine core ok re hv h1 (fun c2 ex => (ex.keep a _ h1 l1).1) (dat_pdw r1) hw (fun w3 c3 ex3 ok3 e3 => ?_) ⟨w, h', hk⟩
          have e4 : (R.ok w h' : R Fl) = .ok w3 c3.ah := hk.symm.trans e3
          cases e4
          exact q _ ex3 ok3 rfl
    · exact q.elim
  · exact q.elim
variable {tg it : Expr} {kd : DK} {i : Nat} {pos : Pos} {body : List Stmt} {ms : MS}
theorem ss_forD (ht : tgOf sc tg = some t) (hd : dShape T sc tg it = some (kd, i)) (hb : SSs T G CM k sc body ms) (hn : noSetE it = true) : SS T G CM k sc (.For tg it body [] pos) (sForD kd i t ms) := fun X Ex F hp hs hf => by
  have P := ps_for (pos := pos) hp F.calm (pi_dic F hd) (pg_tg F ht) (hb X Ex F hp hs hf) (noSetE_ok hn _)
  exact PS.imp (PS.orr (ps_lock P) P) fun D σ H q => forD_read F.K q
end
end Ev
set_option Elab.async false
set_option linter.all false
set_option maxRecDepth 100000
set_option maxHeartbeats 4000000
/-! E15: the evaluator over the syntax, and that it is sound. -/
namespace Ev
open PySem PySem.Spec PyProof.Rows L2

structure Pk where
  e : Sc → Expr → ME
  d : Sc → Expr → ME
  t : Sc → Expr → EnvW → M Bool
  s : Sc → Stmt → MS
def nope : ME := fun _ => mno
structure SPk (T : Tb) (G : GA) (CM : FId → List W → M W) (k : Nat) (P : Pk) : Prop where
  e : ∀ sc e, SE T G CM k sc e (P.e sc e)
  d : ∀ sc e, SE T G CM k sc e (P.d sc e)
  t : ∀ sc e, ST T G CM k sc e (P.t sc e)
  s : ∀ sc st, SS T G CM k sc st (P.s sc st)
section
variable (T : Tb) (CM : FId → List W → M W) (P : Pk) (sc : Sc)
def args (es : List Expr) : EnvW → M (List W) := aList (es.map (P.e sc))
def argsD (es : List Expr) : EnvW → M (List W) := aList (es.map (P.d sc))
def boolE (op : BoolOp) : List ME → ME
  | [] => nope
  | [m] => m
  | m :: ms => match op with
    | .And => eAnd m (boolE op ms)
    | .Or => eOr m (boolE op ms)
def boolT (op : BoolOp) : List (EnvW → M Bool) → EnvW → M Bool
  | [] => fun _ => mno
  | [m] => m
  | m :: ms => match op with
    | .And => tAndM m (boolT op ms)
    | .Or => tOrM m (boolT op ms)
def optE : Option Expr → EnvW → M (Option Int)
  | none => pNo
  | some e => pSome (P.e sc e)
def isiE (a b : Expr) : ME := match b with
  | .Name y _ => if isGlob sc y && noStar a then (match tyTest y, T.free.contains y with
      | some t, true => eIsi (P.e sc a) t
      | _, _ => if T.xt.contains y then eIsx T (P.e sc a) y else nope) else nope
  | _ => nope
def callB (x : Str) (es : List Expr) : ME := match es with
  | [] => nope
  | _ => (match bfun x, btyp x, bfun2 x with
    | some f, _, _ => eFun f (argsD P sc es)
    | none, some f, _ => eFun f (argsD P sc es)
    | none, none, some f => eFun f (args P sc es)
    | _, _, _ => nope)
def zipE (es : List Expr) : Option (Expr × Expr) := match es with
  | [.Call (.Name z _) [a, b] [] _] => if (z == ("zip" : Str)) && isGlob sc z && T.free.contains z && noStar a && noStar b then some (a, b) else none
  | _ => none
def itemsE (es : List Expr) : Option Expr := match es with
  | [.Call (.Attribute o z apos) [] [] cpos] => if (z == ("items" : Str)) && okBase o && (apos.endLine == cpos.line) then some o else none
  | _ => none
def callF (x : Str) (es : List Expr) : ME := if x == ("isinstance" : Str) then (match es with
        | [a, b] => isiE T P sc a b
        | _ => nope)
      else if x == ("len" : Str) then (match es with
        | [a] => eLen T CM (P.d sc a)
        | _ => nope)
      else if x == ("list" : Str) then (match zipE T sc es with
        | some (a, b) => eFun zipL (args P sc [a, b])
        | none => (match itemsE es with
          | some o => eItems (P.e sc o)
          | none => callB P sc x es))
      else if x == ("dict" : Str) then (match es with
        | [a] => eFun fDict (argsD P sc [a])
        | _ => nope)
      else callB P sc x es
def callName (x : Str) (es : List Expr) : ME := if !es.all noStar then nope else match slot sc x with
  | some i => (match es with
    | [] => nope
    | _ => eCallV T CM i (args P sc es))
  | none => if !isGlob sc x then nope
    else if T.defs.contains x then (if T.nopos.contains (pl x) then nope else match es with
      | [] => nope
      | _ => eCall CM (pl x) (args P sc es))
    else if T.clss.contains x then (if dflOk T (x, "__init__") (es.length + 1) then eNew CM x (dflOf T (x, "__init__") (es.length + 1)) (args P sc es) else nope)
    else if T.free.contains x then callF T CM P sc x es
    else nope
def callMeth (o : Expr) (m : Str) (apos pos : Pos) (es : List Expr) : ME := if es.all noStar && decide (es.length < 30) && okBase o && (apos.endLine == pos.line) then (if m == ("get" : Str) then (match es with
    | [e, f] => eGet (P.e sc o) (P.e sc e) (P.e sc f)
    | _ => nope) else match bmeth m es.length with
    | some (t, f) => if (m == ("append" : Str)) then eBM t f (P.e sc o) (args P sc es) else eBM t f (P.e sc o) (argsD P sc es)
    | none => eMeth T CM m (P.e sc o) (args P sc es)) else nope
def iterE (tg it : Expr) : EnvW → M Src := match it with
  | .Call (.Name x _) es [] _ => if (slot sc x).isNone && isGlob sc x && T.free.contains x then
      (if x == ("range" : Str) then (match es with
        | [a] => if noStar a then iFun rng1 (args P sc es) else fun _ => mno
        | [a, b] => if noStar a && noStar b then iFun rng2 (args P sc es) else fun _ => mno
        | _ => fun _ => mno)
      else if x == ("zip" : Str) then (match tg, es with
        | .Tuple _ _ _, [a, b] => if noStar a && noStar b then iFun zipM (args P sc es) else fun _ => mno
        | _, _ => fun _ => mno)
      else iVal (P.d sc it)) else iVal (P.d sc it)
  | _ => iVal (P.d sc it)
def lcE (elt : Expr) (gens : List Comprehension) (scope : Scope) : ME := match gens with
  | [⟨tg, it, ifs, asy⟩] => if asy = 0 ∧ noSetE it = true then (match dShape T sc tg it with
    | some (kd, i) => (match lcT sc scope tg, ifs with
      | some t, [] => eLCd kd i t tTrue (P.e (blkSc sc scope) elt)
      | some t, [c] => eLCd kd i t (P.t (blkSc sc scope) c) (P.e (blkSc sc scope) elt)
      | _, _ => nope)
    | none => (match lcT sc scope tg, ifs with
      | some t, [] => eLC t (iterE T P sc tg it) tTrue (P.e (blkSc sc scope) elt)
      | some t, [c] => eLC t (iterE T P sc tg it) (P.t (blkSc sc scope) c) (P.e (blkSc sc scope) elt)
      | _, _ => nope)) else nope
  | _ => nope
def stepE (ex : Expr) : ME := match ex with
  | .Name x _ => evName T sc x
  | .Constant c _ _ => evConst c
  | .BinOp a op b _ => eBin op (P.e sc a) (P.e sc b)
  | .UnaryOp op a _ => (match op with
    | .Not => eNot (P.e sc a)
    | .USub => eNeg (P.e sc a)
    | _ => nope)
  | .BoolOp op es _ => boolE op (es.map (P.e sc))
  | .Compare a ops cs _ => (match ops, cs with
    | [op], [b] => if noSet b then eCmp op (P.d sc a) (P.d sc b) else nope
    | [op, op'], [b, c] => if noSet c then eCmp2 op op' (P.d sc a) (P.d sc b) (P.d sc c) else nope
    | _, _ => nope)
  | .IfExp c a b _ => eIf (P.t sc c) (P.e sc a) (P.e sc b)
  | .Tuple es _ _ => if es.all noStar then eTup (aList (es.map (P.d sc))) else nope
  | .List es _ => if es.all noStar then eLst (aList (es.map (P.d sc))) else nope
  | .Subscript a b _ => (match b with
    | .Slice lo hi st _ => (match st with
      | none => eSl (P.e sc a) (optE P sc lo) (optE P sc hi)
      | some i => (match lo, hi with
        | none, none => eStep (P.e sc a) (P.e sc i)
        | _, _ => nope))
    | b => eIx (P.e sc a) (P.e sc b))
  | .JoinedStr es _ => (match es with
    | v1 :: v2 :: r => joinM ((v1 :: v2 :: r).map (P.e sc)) Str.empty
    | _ => nope)
  | .FormattedValue a cv fs _ => (match fs with
    | none => if cv = -1 then eFmt (P.e sc a) else nope
    | _ => nope)
  | .Attribute o f _ => if okBase o && T.flds.contains f then eFld (P.e sc o) f else nope
  | .Call f es kws pos => (match f, kws with
    | .Name x _, [] => callName T CM P sc x es
    | .Attribute o m apos, [] => callMeth T CM P sc o m apos pos es
    | _, _ => nope)
  | .ListComp elt gens scope _ => lcE T P sc elt gens scope
  | .Dict ks vs _ => (match ks, vs with
    | [], [] => eDict0
    | _, _ => nope)
  | _ => nope
def stepD (ex : Expr) : ME := match ex with
  | .List es _ => if es.all noStar then eLstD (aList (es.map (P.d sc))) else nope
  | .ListComp elt gens scope _ => eOut (lcE T P sc elt gens scope)
  | ex => stepE T CM P sc ex
def stepT (ex : Expr) : EnvW → M Bool := match ex with
  | .UnaryOp op a _ => (match op with
    | .Not => tNotM (P.t sc a)
    | _ => fun _ => mno)
  | .BoolOp op es _ => boolT op (es.map (P.t sc))
  | .IfExp _ _ _ _ => fun _ => mno
  | ex => tst (stepE T CM P sc ex)
def swapOk (a b : Expr) (px py : Pos) (x y : Str) : Bool := (py.line == px.line) && !(x == y) && !(foldedForSure 8 a && foldedForSure 8 b) && !(constantsAlone 8 a && constantsAlone 8 b) && noStar a && noStar b
def blk (sts : List Stmt) : MS := sBlock (sts.map (P.s sc))
def assignE (tg e : Expr) : MS := match tg with
  | .Name x px => (match e with
    | .ListComp elt gens scope lpos => (match sc.scope.names.lookup x, sc.N.idxOf? x, sc.scope.kind with
      | some .local, some i, .function => if (px.line == lpos.line) && !(scope.names.any fun (n, k) => n == x && (k == .local || k == .cell)) then sSet i (lcE T P sc elt gens scope) else fun _ => mno
      | _, _, _ => fun _ => mno)
    | e => if noComp e then (match slotS sc x with
      | some i => sSet i (P.e sc e)
      | none => fun _ => mno) else fun _ => mno)
  | .Attribute o f _ => if T.flds.contains f then sFldW f (P.e sc o) (P.e sc e) else fun _ => mno
  | .Subscript o i _ => if plainIx i then sIxW (P.e sc o) (P.e sc i) (P.e sc e) else fun _ => mno
  | .Tuple tes kk p => if noTup e then (match tgOf sc (.Tuple tes kk p) with
      | some t => sTgW t (P.e sc e)
      | none => (match starTgs sc tes, tes.findIdx? isStar with
        | some ts, some i => sStar i ts (P.e sc e)
        | _, _ => fun _ => mno))
    else if tes.any (cellN sc) then (match tgOf sc (.Tuple tes kk p) with
      | some t => sTgW t (P.e sc e)
      | none => fun _ => mno)
    else (match tes, e with
      | [.Name x px, .Name y py], .Tuple [a, b] _ _ => (match sc.scope.kind, sc.scope.names.lookup x, sc.scope.names.lookup y, sc.N.idxOf? x, sc.N.idxOf? y with
        | .function, some .local, some .local, some i, some j => if decide (i ≠ j) && swapOk a b px py x y then sPar i j (P.e sc a) (P.e sc b) else fun _ => mno
        | _, _, _, _, _ => fun _ => mno)
      | [.Name x px, .Name y py, .Name z pz], .Tuple [a, b, c] _ _ => (match sc.scope.kind, sc.scope.names.lookup x, sc.scope.names.lookup y, sc.scope.names.lookup z, sc.N.idxOf? x, sc.N.idxOf? y, sc.N.idxOf? z with
        | .function, some .local, some .local, some .local, some i, some j, some l => if decide (i ≠ j ∧ i ≠ l ∧ j ≠ l) && ([a, b, c].all noStar && swapOk3 a b c px py pz x y z) then sPar3 i j l (args P sc [a, b, c]) else fun _ => mno
        | _, _, _, _, _, _, _ => fun _ => mno)
      | _, _ => fun _ => mno)
  | _ => fun _ => mno
def tryE (body : List Stmt) (hs : List ExceptHandler) : MS := match body, hs with
  | [.Assign [.Name f _] e _], [.ExceptHandler (some (.Name x _)) (some n) [.Assign [.Name g _] (.Name n' _) _] _] =>
    (match slotS sc f, slotS sc g, sc.scope.names.lookup n, sc.N.idxOf? n with
      | some i, some j, some .local, some m => if n = n' ∧ (n == ("__debug__" : Str)) = false ∧ (n == ("__classdict__" : Str)) = false ∧ isGlob sc x = true ∧ T.excs.contains x = true ∧ noComp e = true ∧ m ≠ j then sTry (fun c => T.catches c x) i j m (P.e sc e) else fun _ => mno
      | _, _, _, _ => fun _ => mno)
  | [.Expr e _], [.ExceptHandler (some (.Name x _)) none [.Assign [.Name g _] (.Constant (.int v) _ _) _] _] =>
    (match slotS sc g with
      | some j => if isGlob sc x = true ∧ T.excs.contains x = true ∧ noComp e = true then sTryE (fun c => T.catches c x) j v (P.e sc e) else fun _ => mno
      | _ => fun _ => mno)
  | body, [.ExceptHandler (some (.Name x _)) none [.Assign [.Name g _] (.Constant (.int v) _ _) _] _] =>
    (match slotS sc g with
      | some j => if isGlob sc x = true ∧ T.excs.contains x = true then sTryS (fun c => T.catches c x) j v (blk P sc body) else fun _ => mno
      | _ => fun _ => mno)
  | _, _ => fun _ => mno
def raiseE (e : Expr) : MS := match e with
  | .Call (.Name x _) [.Constant (.str _) _ _] [] _ => if isGlob sc x && T.excs.contains x then sRaise x else fun _ => mno
  | _ => fun _ => mno
noncomputable def stepS (st : Stmt) : MS := match st with
  | .Expr e _ => if noComp e then sExpr (P.e sc e) else fun _ => mno
  | .Return v _ => (match v with
    | some e => sRet (P.e sc e)
    | none => sRetN)
  | .Pass _ => sNil
  | .Break _ => sBreak
  | .Continue _ => sCont
  | .If c a b _ => sIf (P.t sc c) (blk P sc a) (blk P sc b)
  | .While c b o _ => (match o with
    | [] => sWhile (P.t sc c) (blk P sc b)
    | _ => fun _ => mno)
  | .For tg it b o _ => (match o, tgOf sc tg with
    | [], some t => if noSetE it then (match dShape T sc tg it with
      | some (kd, i) => sForD kd i t (blk P sc b)
      | none => sFor t (iterE T P sc tg it) (blk P sc b)) else fun _ => mno
    | _, _ => fun _ => mno)
  | .Assign tgs e _ => (match tgs with
    | [tg] => assignE T P sc tg e
    | _ => fun _ => mno)
  | .AugAssign tg op e _ => (match tg, op with
    | .Name x _, .Add => (match slotS sc x with
      | some i => sAug i (P.e sc e)
      | none => fun _ => mno)
    | .Attribute o f _, .Add => if T.flds.contains f then sFldAugW f (P.e sc o) (P.e sc e) else fun _ => mno
    | _, _ => fun _ => mno)
  | .Raise e c _ => (match e, c with
    | some e, none => raiseE T sc e
    | _, _ => fun _ => mno)
  | .Try b hs o f _ => (match o, f with
    | [], [] => tryE T P sc b hs
    | _, _ => fun _ => mno)
  | _ => fun _ => mno
end
noncomputable def step (T : Tb) (CM : FId → List W → M W) (P : Pk) : Pk := ⟨stepE T CM P, stepD T CM P, stepT T CM P, stepS T P⟩
noncomputable def ev (T : Tb) (CM : FId → List W → M W) : Nat → Pk
  | 0 => ⟨fun _ _ => nope, fun _ _ => nope, fun _ _ _ => mno, fun _ _ _ => mno⟩
  | n + 1 => step T CM (ev T CM n)

/-! ### sound -/
section
variable {T : Tb} {G : GA} {CM : FId → List W → M W} {k : Nat} {P : Pk} (S : SPk T G CM k P)
theorem sa_args {sc : Sc} (S : SPk T G CM k P) {es : List Expr} (h : es.all noStar = true) : SA T G CM k sc es (args P sc es) := sa_list (fun e => S.e sc e) h
theorem sa_argsD {sc : Sc} (S : SPk T G CM k P) {es : List Expr} (h : es.all noStar = true) : SA T G CM k sc es (argsD P sc es) := sa_list (fun e => S.d sc e) h
theorem nope_ok {sc : Sc} {e : Expr} : SE T G CM k sc e nope := se_no
theorem boolE_ok {sc : Sc} {op : BoolOp} {pos : Pos} (S : SPk T G CM k P) : ∀ es : List Expr, SE T G CM k sc (.BoolOp op es pos) (boolE op (es.map (P.e sc)))
  | [] => nope_ok
  | [a] => se_one (S.e sc a)
  | a :: b :: r => by
    cases op with
    | And => exact se_and (S.e sc a) (boolE_ok S (b :: r))
    | Or => exact se_or (S.e sc a) (boolE_ok S (b :: r))
theorem boolT_ok {sc : Sc} {pos : Pos} (S : SPk T G CM k P) {op : BoolOp} : ∀ es : List Expr, SW T G CM k sc (.BoolOp op es pos) (boolT op (es.map (P.t sc)))
  | [] => fun X Wx F => ⟨fun wh p s σ H Q I ⟨c, env, _, _, _, h⟩ => h.elim⟩
  | [a] => by
    cases op with
    | And => exact sw_and1 (S.t sc a)
    | Or => exact sw_or1 (S.t sc a)
  | a :: b :: r => by
    cases op with
    | And => exact sw_and (S.t sc a) (boolT_ok S (b :: r))
    | Or => exact sw_or (S.t sc a) (boolT_ok S (b :: r))
theorem optE_ok {sc : Sc} (S : SPk T G CM k P) (o : Option Expr) : SO T G CM k sc o (optE P sc o) := by
  cases o with
  | none => exact so_none
  | some e => exact so_some (S.e sc e)
theorem isiE_ok {sc : Sc} {p pos : Pos} (S : SPk T G CM k P) (hg : isGlob sc "isinstance" = true) (hf : ("isinstance" : Str) ∈ T.free) (a b : Expr) : SE T G CM k sc (.Call (.Name "isinstance" p) [a, b] [] pos) (isiE T P sc a b) := by
  unfold isiE
  split
  · rename_i y p2
    split
    · rename_i hc
      obtain ⟨h1, h2⟩ := Bool.and_eq_true_iff.mp hc
      split
      · rename_i t e1 e2
        exact se_isi hg hf h1 (by simpa using e2) e1 (S.e sc a) h2
      · split
        · rename_i hx
          exact se_isx hg hf h1 (by simpa using hx) (S.e sc a) h2
        · exact nope_ok
    · exact nope_ok
  · exact nope_ok
theorem callB_ok {sc : Sc} {p pos : Pos} (S : SPk T G CM k P) {x : Str} {es : List Expr} (hs : es.all noStar = true) (hg : isGlob sc x = true) (hf : x ∈ T.free) : SE T G CM k sc (.Call (.Name x p) es [] pos) (callB P sc x es) := by
  cases es with
  | nil => exact nope_ok
  | cons e es =>
    show SE T G CM k sc _ (match bfun x, btyp x, bfun2 x with
      | some f, _, _ => eFun f (argsD P sc (e :: es))
      | none, some f, _ => eFun f (argsD P sc (e :: es))
      | none, none, some f => eFun f (args P sc (e :: es))
      | _, _, _ => nope)
    split
    · rename_i f _ _ hb
      exact se_bfun hg hf hb (sa_argsD S hs) hs
    · rename_i f _ hb1 hb
      exact se_btyp hg hf hb (sa_argsD S hs) hs
    · rename_i f hb1 hb2 hb
      exact se_bfun2 hg hf hb (sa_args S hs) hs
    · exact nope_ok
theorem callF_ok {sc : Sc} {p pos : Pos} (S : SPk T G CM k P) {x : Str} {es : List Expr} (hs : es.all noStar = true) (hg : isGlob sc x = true) (hf : x ∈ T.free) : SE T G CM k sc (.Call (.Name x p) es [] pos) (callF T CM P sc x es) := by
  unfold callF
  split
  · rename_i hx
    have hx : x = "isinstance" := eq_of_beq hx
    subst hx
    split
    · exact isiE_ok S hg hf _ _
    · exact nope_ok
  · split
    · rename_i hx
      have hx : x = "len" := eq_of_beq hx
      subst hx
      split
      · exact se_len hg hf (S.d sc _) (by simpa using hs)
      · exact nope_ok
    · split
      · rename_i hx
        have hx : x = "list" := eq_of_beq hx
        subst hx
        split
        · rename_i a b hz
          unfold zipE at hz
          split at hz
          · split at hz
            · rename_i hc
              cases hz
              simp only [Bool.and_eq_true] at hc
              obtain ⟨⟨⟨⟨c1, c2⟩, c3⟩, c4⟩, c5⟩ := hc
              have c1 := eq_of_beq c1
              subst c1
              exact se_zipL hg hf c2 (by simpa using c3) (sa_args S (by simp [c4, c5])) c4 c5
            · cases hz
          · cases hz
        · split
          · rename_i o hz
            unfold itemsE at hz
            split at hz
            · split at hz
              · rename_i hc
                cases hz
                simp only [Bool.and_eq_true] at hc
                obtain ⟨⟨c1, c2⟩, c3⟩ := hc
                have c1 := eq_of_beq c1
                subst c1
                exact se_items hg hf c2 c3 (S.e sc _)
              · cases hz
            · cases hz
          · exact callB_ok S hs hg hf
      · split
        · rename_i hx
          have hx : x = "dict" := eq_of_beq hx
          subst hx
          split
          · exact se_dict hg hf (sa_argsD S hs) hs
          · exact nope_ok
        · exact callB_ok S hs hg hf
theorem callName_ok {sc : Sc} {p pos : Pos} (S : SPk T G CM k P) (x : Str) (es : List Expr) : SE T G CM k sc (.Call (.Name x p) es [] pos) (callName T CM P sc x es) := by
  unfold callName
  split
  · exact nope_ok
  · rename_i hs
    have hs : es.all noStar = true := by simpa using hs
    split
    · rename_i i hi
      cases es with
      | nil => exact nope_ok
      | cons e es => exact se_callV hi (sa_args S hs) hs
    · split
      · exact nope_ok
      · rename_i hg
        have hg : isGlob sc x = true := by simpa using hg
        split
        · rename_i hd
          split
          · exact nope_ok
          · rename_i hnp
            cases es with
            | nil => exact nope_ok
            | cons e es => exact se_call hg (by simpa using hd) (by simpa using hnp) (sa_args S hs) hs
        · split
          · rename_i hc
            split
            · rename_i hdf
              cases es with
              | nil => exact se_new0 hdf hg (by simpa using hc)
              | cons e es => exact se_new hdf hg (by simpa using hc) (sa_args S hs) hs
            · exact nope_ok
          · split
            · rename_i hf
              exact callF_ok S hs hg (by simpa using hf)
            · exact nope_ok
theorem callMeth_ok {sc : Sc} {apos pos : Pos} (S : SPk T G CM k P) (o : Expr) (m : Str) (es : List Expr) : SE T G CM k sc (.Call (.Attribute o m apos) es [] pos) (callMeth T CM P sc o m apos pos es) := by
  unfold callMeth
  split
  · rename_i hc
    simp only [Bool.and_eq_true, decide_eq_true_eq] at hc
    obtain ⟨⟨⟨hs, hl⟩, hb⟩, hline⟩ := hc
    split
    · rename_i hg
      have hg : m = "get" := eq_of_beq hg
      subst hg
      split
      · rename_i e f
        have h2 : noStar e = true ∧ noStar f = true := by simpa using hs
        exact se_get hb hline (S.e sc o) (S.e sc e) (S.e sc f) h2.1 h2.2
      · exact nope_ok
    split
    · rename_i t f hm
      split
      · cases es with
        | nil => exact se_bm0 hm hb hline (S.e sc o)
        | cons e es => exact se_bm hm hb hline (S.e sc o) (sa_args S hs) hs hl
      · cases es with
        | nil => exact se_bm0 hm hb hline (S.e sc o)
        | cons e es => exact se_bm hm hb hline (S.e sc o) (sa_argsD S hs) hs hl
    · cases es with
      | nil => exact se_meth0 hb hline (S.e sc o)
      | cons e es => exact se_meth hb hline (S.e sc o) (sa_args S hs) hs hl
  · exact nope_ok
theorem si_no {sc : Sc} {tg it : Expr} : SI T G CM k sc tg it (fun _ => mno) := fun X Wx F => ⟨fun p s σ H R I ⟨c, env, _, _, _, h⟩ => h.elim⟩
theorem iterE_ok {sc : Sc} (S : SPk T G CM k P) (tg it : Expr) : SI T G CM k sc tg it (iterE T P sc tg it) := by
  unfold iterE
  split
  · rename_i x p es pos
    split
    · rename_i hc
      simp only [Bool.and_eq_true] at hc
      obtain ⟨⟨_, hg⟩, hf⟩ := hc
      have hf : x ∈ T.free := by simpa using hf
      split
      · rename_i hx
        have hx : x = "range" := eq_of_beq hx
        subst hx
        split
        · rename_i a
          split
          · rename_i hs
            exact si_range1 hg hf (sa_args S (by simp [hs])) hs
          · exact si_no
        · rename_i a b
          split
          · rename_i hs
            obtain ⟨h1, h2⟩ := Bool.and_eq_true_iff.mp hs
            exact si_range2 hg hf (sa_args S (by simp [h1, h2])) h1 h2
          · exact si_no
        · exact si_no
      · split
        · rename_i hx
          have hx : x = "zip" := eq_of_beq hx
          subst hx
          split
          · rename_i a b
            split
            · rename_i hs
              obtain ⟨h1, h2⟩ := Bool.and_eq_true_iff.mp hs
              exact si_zip hg hf (sa_args S (by simp [h1, h2])) h1 h2
            · exact si_no
          · exact si_no
        · exact si_val (S.d sc _)
    · exact si_val (S.d sc _)
  · exact si_val (S.d sc _)
theorem lcE_ok {sc : Sc} {pos : Pos} (S : SPk T G CM k P) (elt : Expr) (gens : List Comprehension) (scope : Scope) : SE T G CM k sc (.ListComp elt gens scope pos) (lcE T P sc elt gens scope) := by
  unfold lcE
  split
  · rename_i tg it ifs asy
    split
    · rename_i hc
      obtain ⟨rfl, hn⟩ := hc
      split
      · rename_i kd i hd
        split
        · rename_i t ht
          exact se_lcD ht hd hn st0_nil (S.e _ elt)
        · rename_i t c ht
          exact se_lcD ht hd hn (st0_one (S.t _ c)) (S.e _ elt)
        · exact nope_ok
      split
      · rename_i t ht
        exact se_lc ht (iterE_ok S tg it) hn st0_nil (S.e _ elt)
      · rename_i t c ht
        exact se_lc ht (iterE_ok S tg it) hn (st0_one (S.t _ c)) (S.e _ elt)
      · exact nope_ok
    · exact nope_ok
  · exact nope_ok
theorem stepE_ok {sc : Sc} (S : SPk T G CM k P) (e : Expr) : SE T G CM k sc e (stepE T CM P sc e) := by
  cases e with
  | Name x p => exact se_name
  | Constant c j p => exact se_const
  | BinOp a op b p => exact se_bin (S.e sc a) (S.e sc b)
  | UnaryOp op a p =>
    cases op with
    | Not => exact se_not (S.e sc a)
    | USub => exact se_neg (S.e sc a)
    | _ => exact nope_ok
  | BoolOp op es p => exact boolE_ok S es
  | Compare a ops cs p =>
    show SE T G CM k sc _ (match ops, cs with
      | [op], [b] => if noSet b then eCmp op (P.d sc a) (P.d sc b) else nope
      | [op, op'], [b, c] => if noSet c then eCmp2 op op' (P.d sc a) (P.d sc b) (P.d sc c) else nope
      | _, _ => nope)
    split
    · split
      · rename_i hn; exact se_cmp (S.d sc _) (S.d sc _) hn
      · exact nope_ok
    · split
      · rename_i hn; exact se_cmp2 (S.d sc _) (S.d sc _) (S.d sc _) hn
      · exact nope_ok
    · exact nope_ok
  | IfExp c a b p => exact se_if (S.t sc c) (S.e sc a) (S.e sc b)
  | Tuple es j p =>
    show SE T G CM k sc _ (if es.all noStar then eTup (aList (es.map (P.d sc))) else nope)
    split
    · rename_i h; exact se_tup (sa_list (fun e => S.d sc e) h)
    · exact nope_ok
  | List es p =>
    show SE T G CM k sc _ (if es.all noStar then eLst (aList (es.map (P.d sc))) else nope)
    split
    · rename_i h; exact se_lst (sa_list (fun e => S.d sc e) h)
    · exact nope_ok
  | Subscript a b p =>
    cases b with
    | Slice lo hi st p2 =>
      cases st with
      | none => exact se_slice (S.e sc a) (optE_ok S lo) (optE_ok S hi)
      | some e =>
        cases lo with
        | some _ => exact nope_ok
        | none =>
          cases hi with
          | some _ => exact nope_ok
          | none => exact se_step (S.e sc a) (S.e sc e)
    | _ => exact se_ix (S.e sc a) (S.e sc _) rfl
  | JoinedStr es p =>
    match es with
    | [] => exact nope_ok
    | [_] => exact nope_ok
    | v1 :: v2 :: r => exact se_join (fun e => S.e sc e)
  | FormattedValue a cv fs p =>
    cases fs with
    | some e => exact nope_ok
    | none =>
      show SE T G CM k sc _ (if cv = -1 then eFmt (P.e sc a) else nope)
      split
      · rename_i h; subst h; exact se_fmt (S.e sc a)
      · exact nope_ok
  | Attribute o f p =>
    show SE T G CM k sc _ (if okBase o && T.flds.contains f then eFld (P.e sc o) f else nope)
    split
    · rename_i h
      obtain ⟨h1, h2⟩ := Bool.and_eq_true_iff.mp h
      exact se_fld h1 (by simpa using h2) (S.e sc o)
    · exact nope_ok
  | Call f es kws pos =>
    cases kws with
    | cons _ _ => cases f <;> exact nope_ok
    | nil =>
      cases f with
      | Name x p => exact callName_ok S x es
      | Attribute o m apos => exact callMeth_ok S o m es
      | _ => exact nope_ok
  | ListComp elt gens scope p => exact lcE_ok S elt gens scope
  | Dict ks vs p =>
    match ks, vs with
    | [], [] => exact se_dict0
    | [], _ :: _ => exact nope_ok
    | _ :: _, _ => exact nope_ok
  | _ => exact nope_ok
theorem stepD_ok {sc : Sc} (S : SPk T G CM k P) (e : Expr) : SE T G CM k sc e (stepD T CM P sc e) := by
  unfold stepD
  split
  · split
    · rename_i h; exact se_lstD (sa_list (fun e => S.d sc e) h)
    · exact nope_ok
  · exact se_out (lcE_ok S _ _ _)
  · exact stepE_ok S _
theorem stepT_ok {sc : Sc} (S : SPk T G CM k P) (e : Expr) : ST T G CM k sc e (stepT T CM P sc e) := by
  cases e with
  | UnaryOp op a p =>
    cases op with
    | Not => exact st_not (S.t sc a)
    | _ => exact st_no
  | BoolOp op es p => exact st_w (boolT_ok S es)
  | IfExp c a b p => exact st_no
  | Compare a ops cs p =>
    show ST T G CM k sc _ (tst (match ops, cs with
      | [op], [b] => if noSet b then eCmp op (P.d sc a) (P.d sc b) else nope
      | [op, op'], [b, c] => if noSet c then eCmp2 op op' (P.d sc a) (P.d sc b) (P.d sc c) else nope
      | _, _ => nope))
    have no : ∀ {e : Expr}, ST T G CM k sc e (tst nope) := fun {e} X Wx F => ⟨fun p s σ H Q I ⟨c, env, _, _, _, h⟩ => h.elim⟩
    split
    · split
      · rename_i hn; exact st_cmp (S.d sc _) (S.d sc _) hn
      · exact no
    · split
      · rename_i hn; exact st_cmp2 (S.d sc _) (S.d sc _) (S.d sc _) hn
      · exact no
    · exact no
  | _ => exact st_val (stepE_ok S _) (fun _ _ => rfl)
theorem blk_ok {sc : Sc} (S : SPk T G CM k P) (sts : List Stmt) : SSs T G CM k sc sts (blk P sc sts) := sss_list (fun s => S.s sc s) sts
theorem swap_ok {sc : Sc} {a b : Expr} {px py pt pt2 : Pos} {x y : Str} {kt k2 : Nat} (h : swapOk a b px py x y = true) (hk : sc.scope.kind = .function) (hx : sc.scope.names.lookup x = some .local) (hy : sc.scope.names.lookup y = some .local) (env : Env) (he : env.scope = sc.scope) :
    swappedStores [.Tuple [.Name x px, .Name y py] kt pt] (.Tuple [a, b] k2 pt2) env = pure (some [x, y]) := by
  unfold swapOk at h
  simp only [Bool.and_eq_true] at h
  obtain ⟨⟨⟨⟨⟨h1, h2⟩, h3⟩, h4⟩, h5⟩, h6⟩ := h
  have hbk : (env.blockKind != ScopeKind.function) = false := by
    unfold Env.blockKind; rw [he, hk]; rfl
  have hkx : (env.kindOf x == some .local) = true := by
    show (env.scope.names.lookup x == some .local) = true
    rw [he, hx]; rfl
  have hky : (env.kindOf y == some .local) = true := by
    show (env.scope.names.lookup y == some .local) = true
    rw [he, hy]; rfl
  have hst : ([a, b].any fun | .Starred .. => true | _ => false) = false := by
    have one : ∀ e : Expr, noStar e = true → (match e with | .Starred .. => true | _ => false) = false := fun e h => by
      cases e <;> first | rfl | exact Bool.noConfusion (show false = true from h)
    rw [List.any_cons, List.any_cons, List.any_nil]
    have q1 := one a h5
    have q2 := one b h6
    exact (by rw [Bool.or_false]; exact (Bool.or_eq_false_iff.mpr ⟨q1, q2⟩))
  have hxy : ([x, y].eraseDups.length != [x, y].length) = false := by
    have : (x == y) = false := by simpa using h2
    have hyx : (y == x) = false := by
      rw [Bool.eq_false_iff] at this ⊢
      intro q; exact this (by rw [eq_of_beq q]; exact beq_self_eq_true x)
    simp [List.eraseDups_cons, hyx]
  unfold swappedStores
  simp only [List.length_cons, List.length_nil, hbk, hst, Expr.pos, List.head?, Option.map, Option.getD, hkx, hky, List.filterMap, h1, beq_self_eq_true, Bool.and_true, if_true, hxy]
  have e1 : ([a, b].all (foldedForSure 8)) = false := by rw [List.all_cons, List.all_cons, List.all_nil, Bool.and_true]; exact (Bool.not_eq_true' _).mp h3
  have e2 : ([a, b].all (constantsAlone 8)) = false := by rw [List.all_cons, List.all_cons, List.all_nil, Bool.and_true]; exact (Bool.not_eq_true' _).mp h4
  have hlen : [x, y].eraseDups.length = 2 := by simpa using hxy
  have one : ∀ e : Expr, noStar e = true → (match e with | .Starred .. => true | _ => false) = false := fun e h => by
    cases e <;> first | rfl | exact Bool.noConfusion (show false = true from h)
  have q1 := one a h5
  have q2 := one b h6
  simp [e1, e2]
  rw [if_neg (fun q => q.elim (fun q => Bool.noConfusion (q1.symm.trans q)) fun q => Bool.noConfusion (q2.symm.trans q)), if_pos hlen]
theorem ss_nope {sc : Sc} {st : Stmt} {i : Nat} : SS T G CM k sc st (sSet i nope) := fun X Ex F hp hs hf => ⟨fun p s σ H D I ⟨c, env, _, _, _, h⟩ => h.elim⟩
theorem assignE_ok {sc : Sc} {pos : Pos} (S : SPk T G CM k P) (tg e : Expr) : SS T G CM k sc (.Assign [tg] e pos) (assignE T P sc tg e) := by
  unfold assignE
  split
  · rename_i x px
    split
    · rename_i elt gens scope lpos
      split
      · rename_i i h1 h2 h3
        split
        · rename_i hc
          obtain ⟨g1, g2⟩ := Bool.and_eq_true_iff.mp hc
          unfold lcE
          split
          · rename_i tg it ifs asy
            split
            · rename_i hc2
              obtain ⟨rfl, hn⟩ := hc2
              split
              · rename_i kd i' hd
                split
                · rename_i t ht
                  exact ss_setLcD h1 h2 h3 g1 (by simpa using g2) ht hd hn st0_nil (S.e _ elt)
                · rename_i t c ht
                  exact ss_setLcD h1 h2 h3 g1 (by simpa using g2) ht hd hn (st0_one (S.t _ c)) (S.e _ elt)
                · exact ss_nope
              split
              · rename_i t ht
                exact ss_setLc h1 h2 h3 g1 (by simpa using g2) ht (iterE_ok S tg it) hn st0_nil (S.e _ elt)
              · rename_i t c ht
                exact ss_setLc h1 h2 h3 g1 (by simpa using g2) ht (iterE_ok S tg it) hn (st0_one (S.t _ c)) (S.e _ elt)
              · exact ss_nope
            · exact ss_nope
          · exact ss_nope
        · exact ss_no
      · exact ss_no
    · split
      · rename_i hn
        split
        · rename_i i hi; exact ss_set hi (S.e sc _) hn
        · exact ss_no
      · exact ss_no
  · split
    · rename_i hf; exact ss_fld (by simpa using hf) (S.e sc _) (S.e sc _)
    · exact ss_no
  · split
    · rename_i hp; exact ss_ix hp (S.e sc _) (S.e sc _) (S.e sc _)
    · exact ss_no
  · split
    · rename_i hn
      split
      · rename_i t ht; exact ss_tup ht (S.e sc _) hn
      · split
        · rename_i ts i h1 h2; exact ss_star h1 h2 (S.e sc _) hn
        · exact ss_no
    · split
      · rename_i hc
        split
        · rename_i t ht; exact ss_tupC ht (S.e sc _) hc
        · exact ss_no
      split
      · split
        · rename_i i j hk hx hy hi hj
          split
          · rename_i hc
            obtain ⟨c1, c2⟩ := Bool.and_eq_true_iff.mp hc
            have hs := c2
            unfold swapOk at hs
            simp only [Bool.and_eq_true] at hs
            exact ss_par hk hx hy hi hj (by simpa using c1) (S.e sc _) (S.e sc _) hs.1.2 hs.2 (swap_ok c2 hk hx hy)
          · exact ss_no
        · exact ss_no
      · split
        · rename_i i j l hk hx hy hz hi hj hl
          split
          · rename_i hc
            obtain ⟨c1, c2⟩ := Bool.and_eq_true_iff.mp hc
            obtain ⟨c2, c3⟩ := Bool.and_eq_true_iff.mp c2
            obtain ⟨d1, d2, d3⟩ := of_decide_eq_true c1
            exact ss_par3 hk hx hy hz hi hj hl d1 d2 d3 (sa_args S c2) (swap_ok3 c3 hk hx hy hz)
          · exact ss_no
        · exact ss_no
      · exact ss_no
  · exact ss_no
theorem tryE_ok {sc : Sc} {pos : Pos} (S : SPk T G CM k P) (body : List Stmt) (hs : List ExceptHandler) : SS T G CM k sc (.Try body hs [] [] pos) (tryE T P sc body hs) := by
  unfold tryE
  split
  · split
    · rename_i i j m h1 h2 h3 h4
      split
      · rename_i hc
        obtain ⟨rfl, g1, g2, g3, g4, g5, g6⟩ := hc
        exact ss_try h1 h2 h3 h4 g1 g2 g3 (by simpa using g4) (S.e sc _) g5 g6
      · exact ss_no
    · exact ss_no
  · split
    · rename_i j h1
      split
      · rename_i hc
        obtain ⟨g3, g4, g5⟩ := hc
        exact ss_tryE h1 g3 (by simpa using g4) (S.e sc _) g5
      · exact ss_no
    · exact ss_no
  · split
    · rename_i j h1
      split
      · rename_i hc
        obtain ⟨g3, g4⟩ := hc
        exact ss_tryS h1 g3 (by simpa using g4) (blk_ok S _)
      · exact ss_no
    · exact ss_no
  · exact ss_no
theorem raiseE_ok {sc : Sc} {pos : Pos} (e : Expr) : SS T G CM k sc (.Raise (some e) none pos) (raiseE T sc e) := by
  unfold raiseE
  split
  · split
    · rename_i hc
      obtain ⟨h1, h2⟩ := Bool.and_eq_true_iff.mp hc
      exact ss_raise' h1 (by simpa using h2)
    · exact ss_no
  · exact ss_no
theorem stepS_ok {sc : Sc} (S : SPk T G CM k P) (st : Stmt) : SS T G CM k sc st (stepS T P sc st) := by
  unfold stepS
  split
  · split
    · rename_i h; exact ss_expr (S.e sc _) h
    · exact ss_no
  · split
    · exact ss_ret (S.e sc _)
    · exact ss_retN
  · exact ss_pass
  · exact ss_break
  · exact ss_cont
  · exact ss_if (S.t sc _) (blk_ok S _) (blk_ok S _)
  · split
    · exact ss_while (S.t sc _) (blk_ok S _)
    · exact ss_no
  · split
    · rename_i t ht
      split
      · rename_i hn
        split
        · rename_i kd i hd; exact ss_forD ht hd (blk_ok S _) hn
        · exact ss_for ht (iterE_ok S _ _) (blk_ok S _) hn
      · exact ss_no
    · exact ss_no
  · split
    · exact assignE_ok S _ _
    · exact ss_no
  · split
    · split
      · rename_i i hi; exact ss_aug hi (S.e sc _)
      · exact ss_no
    · split
      · rename_i hf; exact ss_fldaug (by simpa using hf) (S.e sc _) (S.e sc _)
      · exact ss_no
    · exact ss_no
  · split
    · exact raiseE_ok _
    · exact ss_no
  · split
    · exact tryE_ok S _ _
    · exact ss_no
  · exact ss_no
theorem step_ok (S : SPk T G CM k P) : SPk T G CM k (step T CM P) := ⟨fun _ e => stepE_ok S e, fun _ e => stepD_ok S e, fun _ e => stepT_ok S e, fun _ s => stepS_ok S s⟩
theorem ev_ok : ∀ n, SPk T G CM k (ev T CM n)
  | 0 => ⟨fun _ _ => nope_ok, fun _ _ => nope_ok, fun _ _ => st_no, fun _ _ => ss_no⟩
  | n + 1 => step_ok (ev_ok n)
end
end Ev
set_option Elab.async false
set_option linter.all false
set_option maxRecDepth 100000
set_option maxHeartbeats 4000000
/-! E16: defs: what a call gives, and that it keeps its promise. -/
namespace Ev
open PySem PySem.Spec PyProof.Rows L2

def endM (h0 : AH) : R Fl → R W
  | .ok (.rt w) h1 => outM h0 w h1
  | .ok (.nx _) h1 => outM h0 (.d .none) h1
  | .ok _ _ => .no
  | .ex e h1 => if fineB h0 h1 then .ex e (h1.take h0.length) else .ex e h1
  | .no => .no
def startW (N : List Str) (ws : List W) : EnvW := ws.map some ++ List.replicate (N.length - ws.length) none
structure FI where
  sc : Sc
  body : List Stmt
  ps : List Str
  keep : Bool
/-- a def whose new objects stay -/
def keepM : R Fl → R W
  | .ok (.rt w) h1 => .ok w h1
  | .ok (.nx _) h1 => .ok (.d .none) h1
  | .ok _ _ => .no
  | .ex e h1 => .ex e h1
  | .no => .no
def endK (kp : Bool) (h : AH) (r : R Fl) : R W := if kp then keepM r else endM h r
noncomputable def callM (T : Tb) (D : FId → Option FI) (n : Nat) : Nat → FId → List W → M W
  | 0, _, _ => mno
  | k + 1, f, ws => match D f with
    | none => mno
    | some i => if ws.length = i.ps.length then fun h => endK i.keep h (blk (ev T (callM T D n k) n) i.sc i.body (startW i.sc.N ws) h) else mno

theorem callM_at {T : Tb} {D : FId → Option FI} {n k : Nat} {f : FId} {ws : List W} {h : AH} {i : FI} (hi : D f = some i) (hl : ws.length = i.ps.length) :
    callM T D n (k + 1) f ws h = endK i.keep h (blk (ev T (callM T D n k) n) i.sc i.body (startW i.sc.N ws) h) := by
  simp only [callM, hi, hl, if_true]
theorem po_end {G : GA} {c : Cf} {r : R Fl} {Q : V → Hp → Prop} {E : Str → Hp → Prop} (k : c.ok G) (h : Po G (endM c.ah r) c (fun w c' => ∀ v, RW G c' v w → Q v c'.H) (fun e c' => E e c'.H)) :
    Po G r c (FlP G { nx := fun _ H' => Q .non H', rt := Q }) (fun e c' => E e c'.H) := by
  cases r with
  | no => exact h
  | ok fl h1 =>
    intro c1 e1 k1 q1
    subst q1
    cases fl with
    | nx env => exact fun σ' _ => po_out k e1 k1 h (v := .non) .non
    | rt w => exact fun v rv => po_out k e1 k1 h rv
    | bk env => exact h.elim
    | ct env => exact h.elim
  | ex e h1 =>
    intro c1 e1 k1 q1
    subst q1
    unfold endM at h
    split at h
    · cases ‹R.ex _ _ = R.ok _ _›
    · cases ‹R.ex _ _ = R.ok _ _›
    · cases ‹R.ex _ _ = R.ok _ _›
    · rename_i hq
      cases hq
      by_cases hf : fineB c.ah c1.ah = true
      · rw [if_pos hf] at h
        obtain ⟨e2, k2⟩ := cut_ok k e1 k1 (fineB_iff.mp hf)
        exact h (c1.cut c.ah.length) e2 k2 rfl
      · rw [if_neg hf] at h
        exact h c1 e1 k1 rfl
    · exact h.elim
theorem po_keep {G : GA} {c : Cf} {r : R Fl} {Q : V → Hp → Prop} {E : Str → Hp → Prop} (k : c.ok G) (h : Po G (keepM r) c (fun w c' => ∀ v, RW G c' v w → Q v c'.H) (fun e c' => E e c'.H)) :
    Po G r c (FlP G { nx := fun _ H' => Q .non H', rt := Q }) (fun e c' => E e c'.H) := by
  cases r with
  | no => exact h
  | ok fl h1 =>
    intro c1 e1 k1 q1
    cases fl with
    | nx env => exact fun σ' _ => h c1 e1 k1 q1 .non .non
    | rt w => exact fun v rv => h c1 e1 k1 q1 v rv
    | bk env => exact h.elim
    | ct env => exact h.elim
  | ex e h1 => exact fun c1 e1 k1 q1 => h c1 e1 k1 q1
theorem po_endK {G : GA} {c : Cf} {r : R Fl} {kp : Bool} {Q : V → Hp → Prop} {E : Str → Hp → Prop} (k : c.ok G) (h : Po G (endK kp c.ah r) c (fun w c' => ∀ v, RW G c' v w → Q v c'.H) (fun e c' => E e c'.H)) :
    Po G r c (FlP G { nx := fun _ H' => Q .non H', rt := Q }) (fun e c' => E e c'.H) := by
  cases kp with
  | true => exact po_keep k h
  | false => exact po_end k h
theorem start_ok {G : GA} {c : Cf} {N : List Str} {ws : List W} {vs : List V} (r : RWL G c vs ws) : EnvR G c (startW N ws) (start N vs) := by
  have hl : vs.length = ws.length := r.length
  refine ⟨by simp [startW, L2.start, hl], fun i w q => ?_⟩
  unfold startW at q
  unfold L2.start
  by_cases hi : i < ws.length
  · rw [List.getElem?_append_left (by simpa using hi)] at q
    rw [List.getElem?_append_left (by simpa [hl] using hi)]
    rw [List.getElem?_map] at q ⊢
    cases qq : ws[i]? with
    | none => rw [qq] at q; cases q
    | some w' =>
      rw [qq] at q
      have : w' = w := by simpa using q
      subst this
      obtain ⟨v, hv, rv⟩ := paired_at r qq
      exact ⟨v, by rw [hv]; rfl, rv⟩
  · rw [List.getElem?_append_right (by simpa using hi)] at q
    rw [List.getElem?_replicate] at q
    split at q <;> cases q
where
  paired_at {α β : Type} {R : α → β → Prop} : ∀ {xs : List α} {ys : List β} {i : Nat} {y : β}, Paired R xs ys → ys[i]? = some y → ∃ x, xs[i]? = some x ∧ R x y
    | _, _, 0, _, .cons h _, q => ⟨_, rfl, by cases q; exact h⟩
    | _, _, i + 1, _, .cons _ r, q => by
      obtain ⟨x, h1, h2⟩ := paired_at r (by simpa using q)
      exact ⟨x, by simpa using h1, h2⟩

/-! ### the top -/
structure TopS (T : Tb) (G : GA) (mg : Str → Option Value) : Prop where
  def_ : ∀ f, f ∈ T.defs → ∃ a, G.fa (pl f) = some a ∧ mg f = some (.ref a)
  con : ∀ x d, T.cons.lookup x = some d → ∃ u v, mg x = some u ∧ RelV v u ∧ ∀ c, Rp G.K c v d
  free : ∀ x, x ∈ T.free → mg x = none
  exc : ∀ x, x ∈ T.excs → ∃ Ca, G.xa x = some Ca ∧ mg x = some (.ref Ca) ∧ PySem.W.excIn G.K Ca [.type "LookupError", .type "Exception", .type "BaseException", .type "object"] "LookupError.__new__" = true ∧ PySem.W.keepIn G.K (.ref Ca) = true ∧ PySem.W.subIn G.K (.ref Ca) (.type "BaseException") = some true ∧ PySem.W.typeIn G.K (.ref Ca) = some (.type "type")
  cls : ∀ x, x ∈ T.clss → ∃ Ca fi, G.ca x = some Ca ∧ mg x = some (.ref Ca) ∧ Mk G.K Ca fi ∧ G.fa (x, "__init__") = some fi
  own : ∀ x Ca, G.ca x = some Ca → Cls G.K Ca ∧ ∀ f, f ∈ T.flds → NoAttr G.K Ca f
  meth : ∀ x m, (x, m) ∈ T.meths → ∃ Ca a, G.ca x = some Ca ∧ G.fa (x, m) = some a ∧ Meth G.K Ca m a
  isx : ∀ x, x ∈ T.xt → ∃ v u, (mg x = some u ∨ (mg x = none ∧ bootBuiltins x = some u)) ∧ ClsV v u ∧ RelV v u ∧ ∀ c C, G.xa c = some C → ExcC G.K C ∧ PySem.W.kitOne G.K (.ref C) u = some (T.catches c x)
  catch_ : ∀ c C x Ca, G.xa c = some C → G.xa x = some Ca → x ∈ T.excs → PySem.W.exmOne G.K (.ref C) (.ref Ca) = some (T.catches c x)
/-- a def of the program -/
structure DefF (T : Tb) (G : GA) (f : FId) (a : Addr) (i : FI) : Prop where
  ex : ∃ x qual params fd dvs kws, FunD G.K x qual params i.body i.sc.scope dvs kws a fd ∧ BindsD T G G.K f fd i.ps
  scope : FnScope i.sc.N i.ps i.sc.scope
theorem top_of {T : Tb} {G : GA} {CM : FId → List W → M W} {k : Nat} {X : Cx} {mg : Str → Option Value} (hK : X.K = G.K) (hm : X.mg = mg) (S : TopS T G mg)
    (hfn : ∀ f a, G.fa f = some a → ∃ fd ps, FnOk X.prog X.w X.K X.mg X.base (CX X.prog X.w) (2 * k) a fd ps (spM G (CM f) ps.length) ∧ BindsD T G X.K f fd ps ∧ PySem.W.keepIn X.K (.ref a) = true ∧ ∀ ws h, ws.length ≠ ps.length → CM f ws h = .no) : Top T G CM k X := by
  refine ⟨hfn, ?_, ?_, ?_, ?_, ?_, ?_, ?_, ?_, ?_⟩
  · rw [hm]; exact S.def_
  · rw [hm]; exact S.con
  · rw [hm]; exact S.free
  · rw [hm, hK]
    intro x hx
    obtain ⟨Ca, h1, h2, h3, h4, h5, h6⟩ := S.exc x hx
    exact ⟨Ca, h1, h2, h3, h4, raises_own (by rw [hK]; exact h5) (by rw [hK]; exact h6)⟩
  · rw [hm, hK]; exact S.cls
  · rw [hK]; exact S.own
  · rw [hK]; exact S.meth
  · rw [hm, hK]; exact S.isx
  · rw [hK]; intro c C x Ca h1 h2 h3; exact ⟨_, S.catch_ c C x Ca h1 h2 h3, rfl⟩
theorem fn_one {T : Tb} {G : GA} {D : FId → Option FI} {n : Nat} {P : Program} {w : World} {mg : Str → Option Value} {base : Heap} (S : TopS T G mg) {k : Nat}
    (ih : ∀ f a, G.fa f = some a → ∃ fd ps, FnOk P w G.K mg base (CX P w) (2 * k) a fd ps (spM G (callM T D n k f) ps.length) ∧ BindsD T G G.K f fd ps ∧ PySem.W.keepIn G.K (.ref a) = true ∧ ∀ ws h, ws.length ≠ ps.length → callM T D n k f ws h = .no)
    {f : FId} {a : Addr} {i : FI} (hi : D f = some i) (sc : FnScope i.sc.N i.ps i.sc.scope) {x qual : Str} {params : Arguments} {fd : FuncData} {dvs : List V} {kws : List (Str × V)} (F1 : FunD G.K x qual params i.body i.sc.scope dvs kws a fd) :
    FnOk P w G.K mg base (CX P w) (2 * (k + 1)) a fd i.ps (spM G (callM T D n (k + 1) f) i.ps.length) := by
  refine FunD.ok (k := 2 * k + 1) F1 sc (fun vs H Q E h => h.1) fun cdv A outer s H vs Q E hr h => ?_
  have hS := (ev_ok (T := T) (G := G) (CM := callM T D n k) (k := k) n)
  let X := cxOf (CX P w) P w G.K mg base i.sc.N qual i.sc.scope a cdv A outer s H E
  have hFit : Fits T G (callM T D n k) k X i.sc (fun cls d _ H => E cls d H) := by
    refine ⟨rfl, sc.nd, rfl, rfl, fun _ _ => rfl, rfl, hr, takes_of rfl rfl rfl rfl, top_of rfl rfl S ih⟩
  refine ⟨_, blk_ok hS i.body X E hFit (passes_of rfl) rfl ⟨rfl, rfl⟩, ?_⟩
  obtain ⟨hl, c, ws, rfl, ok, rws, q⟩ := h
  have hlw : ws.length = i.ps.length := by rw [← rws.length]; exact hl
  refine ⟨c, startW i.sc.N ws, rfl, ok, start_ok rws, ?_⟩
  simp only [callM, hi, hlw, if_true] at q
  exact po_endK (E := fun e H => ∀ C, G.xa e = some C → E (.ref C) none H) ok q
theorem fn_all {T : Tb} {G : GA} {D : FId → Option FI} {n : Nat} {P : Program} {w : World} {mg : Str → Option Value} {base : Heap} (S : TopS T G mg) (hD : ∀ f a, G.fa f = some a → ∃ i, D f = some i ∧ DefF T G f a i) :
    ∀ k f a, G.fa f = some a → ∃ fd ps, FnOk P w G.K mg base (CX P w) (2 * k) a fd ps (spM G (callM T D n k f) ps.length) ∧ BindsD T G G.K f fd ps ∧ PySem.W.keepIn G.K (.ref a) = true ∧ ∀ ws h, ws.length ≠ ps.length → callM T D n k f ws h = .no := by
  intro k
  induction k with
  | zero =>
    intro f a ha
    obtain ⟨i, hi, F⟩ := hD f a ha
    obtain ⟨x, qual, params, fd, dvs, kws, F1, B⟩ := F.ex
    exact ⟨fd, i.ps, ⟨fun vs H Q E h => h.1, fun A outer s H args us vs Q E hr e0 hb hv ⟨_, c, ws, _, _, _, h⟩ => h.elim⟩, B, F1.kp, fun ws h _ => rfl⟩
  | succ k ih =>
    intro f a ha
    obtain ⟨i, hi, F⟩ := hD f a ha
    obtain ⟨x, qual, params, fd, dvs, kws, F1, B⟩ := F.ex
    refine ⟨fd, i.ps, fn_one S ih hi F.scope F1, B, F1.kp, fun ws h hl => ?_⟩
    simp only [callM, hi, if_neg hl]; rfl
end Ev
set_option Elab.async false
set_option linter.all false
set_option maxRecDepth 100000
set_option maxHeartbeats 4000000
/-! E17: the head: the module's facts, checked in its heap. -/
namespace Ev
open PySem PySem.Spec PyProof.Rows L2 He

/-! ### the part of the heap, no list in it -/
def notLst (q : Addr × Obj) : Bool := match q.2.cls with
  | .type c => !(decide (c = "list"))
  | _ => true
def frN (g : Addr → Option Obj) (as : List Addr) : PySem.W.Frag := (frG g as).filter notLst
theorem lk_mem {a : Addr} {o : Obj} : ∀ {l : List (Addr × Obj)}, l.lookup a = some o → (a, o) ∈ l
  | [], h => by cases h
  | (b, u) :: r, h => by
    rw [List.lookup_cons] at h
    cases q : (a == b) with
    | true =>
      rw [q] at h
      rw [beq_iff_eq.mp q, ← Option.some.inj h]
      exact List.mem_cons_self ..
    | false =>
      rw [q] at h
      exact List.mem_cons_of_mem _ (lk_mem h)
theorem frN_at {g : Addr → Option Obj} {as : List Addr} {a : Addr} {o : Obj} (h : (frN g as).lookup a = some o) : g a = some o ∧ notLst (a, o) = true := by
  obtain ⟨h1, h2⟩ := List.mem_filter.mp (lk_mem h)
  refine ⟨?_, h2⟩
  unfold frG at h1
  obtain ⟨b, hb, e⟩ := List.mem_filterMap.mp h1
  cases q : g b with
  | none => rw [q] at e; cases e
  | some u =>
    rw [q] at e
    have e' := Option.some.inj e
    cases e'
    exact q
theorem frN_in {as : List Addr} {h : Heap} : (frN h.get? as).In h := fun _ _ e => (frN_at e).1
def NoL (K : PySem.W.Frag) : Prop := ∀ a o, K.lookup a = some o → o.cls ≠ .type "list"
theorem frN_no {g : Addr → Option Obj} {as : List Addr} : NoL (frN g as) := fun a o h e => by
  have := (frN_at h).2
  unfold notLst at this
  rw [show (a, o).2.cls = o.cls from rfl, e] at this
  simp at this

/-! ### constants -/
mutual
def conB (K : PySem.W.Frag) : Nat → PyData → Value → Bool
  | _, .int i, .int j _ => decide (i = j)
  | _, .str x, .str y _ => decide (x = y)
  | _, .none, .none => true
  | _, .bool b, .bool c => decide (b = c)
  | n + 1, .tuple ds, .ref a => (match K.lookup a with
    | some ⟨.type c, _, .seq its _, _⟩ => decide (c = "tuple") && (decide (its.size ≤ sizeLine) && conL K n ds its.toList)
    | _ => false)
  | _, _, _ => false
def conL (K : PySem.W.Frag) : Nat → List PyData → List Value → Bool
  | _, [], [] => true
  | n, d :: ds, u :: us => conB K n d u && conL K n ds us
  | _, _, _ => false
end
mutual
theorem conB_ok {K : PySem.W.Frag} : ∀ (n : Nat) (d : PyData) (u : Value), conB K n d u = true → ∃ v, RelV v u ∧ ∀ c, Rp K c v d
  | n, d, u, h => by
    unfold conB at h
    split at h
    · have e := of_decide_eq_true h; subst e; exact ⟨.int _, ⟨_, rfl⟩, fun c => .int _⟩
    · have e := of_decide_eq_true h; subst e; exact ⟨.str _, ⟨_, rfl⟩, fun c => .str _⟩
    · exact ⟨.non, rfl, fun c => .non⟩
    · have e := of_decide_eq_true h; subst e; exact ⟨.bl _, rfl, fun c => .bl _⟩
    · rename_i n ds a
      split at h
      · rename_i c od its m osl q
        obtain ⟨h1, h2⟩ := ba h
        obtain ⟨h3, h4⟩ := ba h2
        obtain ⟨vs, r, hv⟩ := conL_ok n ds its.toList h4
        exact ⟨.ref a, rfl, fun c => .tupK ⟨_, its, m, q, congrArg Value.type (of_decide_eq_true h1), rfl, of_decide_eq_true h3, r⟩ (hv c)⟩
      · cases h
    · cases h
theorem conL_ok {K : PySem.W.Frag} : ∀ (n : Nat) (ds : List PyData) (us : List Value), conL K n ds us = true → ∃ vs, Vals vs us ∧ ∀ c, RpL K c vs ds
  | n, [], [], h => ⟨[], .nil, fun c => .nil⟩
  | n, [], _ :: _, h => by unfold conL at h; cases h
  | n, _ :: _, [], h => by unfold conL at h; cases h
  | n, d :: ds, u :: us, h => by
    unfold conL at h
    obtain ⟨h1, h2⟩ := ba h
    obtain ⟨v, r, hv⟩ := conB_ok n d u h1
    obtain ⟨vs, rs, hvs⟩ := conL_ok n ds us h2
    exact ⟨v :: vs, .cons r rs, fun c => .cons (hv c) (hvs c)⟩
end

/-! ### the facts -/
def adOf (f : FId) : Str × Option Str := if f.1 == Str.empty then (f.2, none) else (f.1, some f.2)
def gaOf (ids : List FId) (cs xs : List Str) (K : PySem.W.Frag) : GA where
  K := K
  fa := fun f => if ids.contains f then some (fAd K (adOf f)) else none
  ca := fun x => if cs.contains x then some (ga K x) else none
  xa := fun x => if xs.contains x then some (ga K x) else none
def leBase : List Value := [.type "LookupError", .type "Exception", .type "BaseException", .type "object"]
def excB (K : PySem.W.Frag) (x : Str) : Bool := PySem.W.excIn K (ga K x) leBase "LookupError.__new__" && (PySem.W.keepIn K (.ref (ga K x)) && (decide (PySem.W.subIn K (.ref (ga K x)) (.type "BaseException") = some true) && decide (PySem.W.typeIn K (.ref (ga K x)) = some (.type "type"))))
def excCB (K : PySem.W.Frag) (D : Addr) : Bool := eqO (PySem.W.findIn K (.ref D) "__getattribute__") (some (some (.builtin "BaseException.__getattribute__"))) && (eqO (PySem.W.findIn K (.ref D) "__getattr__") (some none) && (decide (PySem.W.subIn K (.ref D) (.type "BaseException") = some true) && (PySem.W.hasDictIn K D
  && (eqO (PySem.W.findIn K (.ref D) "__class__") (some (some (.builtin "object.__class__"))) && (eqO (PySem.W.specialIn K (.builtin "object.__class__") "__get__") (some (some (.builtin "getset_descriptor.__get__"))) && (decide (PySem.W.takesIn K (.builtin "object.__class__") = some true) && decide (PySem.W.mroIn K D (.type "object") = some true)))))))
theorem excCB_ok {K : PySem.W.Frag} {D : Addr} (h : excCB K D = true) : ExcC K D := by
  obtain ⟨h1, h⟩ := ba h
  obtain ⟨h2, h⟩ := ba h
  obtain ⟨h3, h⟩ := ba h
  obtain ⟨h4, h⟩ := ba h
  obtain ⟨h5, h⟩ := ba h
  obtain ⟨h6, h⟩ := ba h
  obtain ⟨h7, h8⟩ := ba h
  exact ⟨eqO_ok h1, eqO_ok h2, of_decide_eq_true h3, h4, eqO_ok h5, eqO_ok h6, of_decide_eq_true h7, of_decide_eq_true h8⟩
/-- a class that isinstance asks for -/
def isxU (K : PySem.W.Frag) (x : Str) : Value := if x == ("LookupError" : Str) then .type "LookupError" else .ref (ga K x)
def isxB (T : Tb) (xs : List Str) (K : PySem.W.Frag) (x : Str) : Bool := (if x == ("LookupError" : Str) then (Fa.free x).ok K && decide (bootBuiltins x = some (.type "LookupError")) else (Fa.glo x).ok K) && xs.all fun c => excCB K (ga K c) && decide (PySem.W.kitOne K (.ref (ga K c)) (isxU K x) = some (T.catches c x))
def topB (T : Tb) (ids : List FId) (cs xs : List Str) (K : PySem.W.Frag) : Bool :=
  (T.defs.all fun f => ids.contains (pl f) && (Fa.glo f).ok K)
  && ((T.cons.all fun q => match PySem.W.nsIn K mainGlobals q.1 with
    | some (some u) => conB K 5 q.2 u
    | _ => false)
  && ((T.free.all fun x => (Fa.free x).ok K)
  && ((T.excs.all fun x => xs.contains x && ((Fa.glo x).ok K && excB K x))
  && ((T.clss.all fun x => cs.contains x && ((Fa.glo x).ok K && ((Fa.mkr x).ok K && (ids.contains (x, "__init__") && !(x == Str.empty)))))
  && ((cs.all fun x => (Fa.cls x).ok K && T.flds.all fun f => (Fa.noat x f).ok K)
  && ((T.meths.all fun q => cs.contains q.1 && (ids.contains q && ((Fa.meth q.1 q.2).ok K && !(q.1 == Str.empty))))
  && ((T.xt.all fun x => isxB T xs K x)
  && (xs.all fun c => T.excs.all fun x => decide (PySem.W.exmOne K (.ref (ga K c)) (.ref (ga K x)) = some (T.catches c x))))))))))
theorem lookup_in {α β : Type} [BEq α] [LawfulBEq α] {x : α} {d : β} : ∀ {l : List (α × β)}, l.lookup x = some d → (x, d) ∈ l
  | [], h => by cases h
  | (b, u) :: r, h => by
    rw [List.lookup_cons] at h
    cases q : (x == b) with
    | true =>
      rw [q] at h
      rw [beq_iff_eq.mp q, ← Option.some.inj h]
      exact List.mem_cons_self ..
    | false =>
      rw [q] at h
      exact List.mem_cons_of_mem _ (lookup_in h)
theorem top_ok {T : Tb} {ids : List FId} {cs xs : List Str} {K : PySem.W.Frag} {h : Heap} {mg : Str → Option Value} (X : K.In h) (G : h.Ns mainGlobals mg) (c : topB T ids cs xs K = true) : TopS T (gaOf ids cs xs K) mg := by
  obtain ⟨c1, c⟩ := ba c
  obtain ⟨c2, c⟩ := ba c
  obtain ⟨c3, c⟩ := ba c
  obtain ⟨c4, c⟩ := ba c
  obtain ⟨c5, c⟩ := ba c
  obtain ⟨c6, c⟩ := ba c
  obtain ⟨c7, c⟩ := ba c
  obtain ⟨c8, c9⟩ := ba c
  have xin : ∀ c C, (gaOf ids cs xs K).xa c = some C → c ∈ xs ∧ C = ga K c := fun c C e => by
    have e : (if xs.contains c then some (ga K c) else none) = some C := e
    split at e
    · rename_i hq
      exact ⟨by simpa using hq, (Option.some.inj e).symm⟩
    · cases e
  refine ⟨fun f hf => ?_, fun x d hx => ?_, fun x hx => ?_, fun x hx => ?_, fun x hx => ?_, fun x Ca hx => ?_, fun x m hx => ?_, fun x hx => ?_, fun c C x Ca h1 h2 h3 => ?_⟩
  · obtain ⟨h1, h2⟩ := ba (List.all_eq_true.mp c1 f hf)
    refine ⟨ga K f, ?_, glo_ok X G h2⟩
    show (if ids.contains (pl f) then some (fAd K (adOf (pl f))) else none) = some (ga K f)
    rw [if_pos h1]
    rfl
  · have h1 := List.all_eq_true.mp c2 (x, d) (lookup_in hx)
    simp only at h1
    split at h1
    · rename_i u hu
      obtain ⟨v, r, hv⟩ := conB_ok 5 d u h1
      exact ⟨u, v, PySem.W.mg_of X G hu, r, hv⟩
    · cases h1
  · exact free_ok X G (List.all_eq_true.mp c3 x hx)
  · obtain ⟨h1, h2⟩ := ba (List.all_eq_true.mp c4 x hx)
    obtain ⟨h2, h3⟩ := ba h2
    obtain ⟨h3, h4⟩ := ba h3
    obtain ⟨h4, h5⟩ := ba h4
    obtain ⟨h5, h6⟩ := ba h5
    exact ⟨ga K x, if_pos h1, glo_ok X G h2, h3, h4, of_decide_eq_true h5, of_decide_eq_true h6⟩
  · obtain ⟨h1, h2⟩ := ba (List.all_eq_true.mp c5 x hx)
    obtain ⟨h2, h3⟩ := ba h2
    obtain ⟨h3, h4⟩ := ba h3
    obtain ⟨h4, h5⟩ := ba h4
    refine ⟨ga K x, _, if_pos h1, glo_ok X G h2, mkr_ok h3, ?_⟩
    show (if ids.contains (x, "__init__") then some (fAd K (adOf (x, "__init__"))) else none) = _
    rw [if_pos h4]
    unfold adOf
    rw [if_neg (by simpa using h5)]
    rfl
  · have hx : (if cs.contains x then some (ga K x) else none) = some Ca := hx
    split at hx
    · rename_i hq
      cases hx
      obtain ⟨h1, h2⟩ := ba (List.all_eq_true.mp c6 x (by simpa using hq))
      exact ⟨cls_ok h1, fun f hf => noat_ok (List.all_eq_true.mp h2 f hf)⟩
    · cases hx
  · obtain ⟨h1, h2⟩ := ba (List.all_eq_true.mp c7 (x, m) hx)
    obtain ⟨h2, h3⟩ := ba h2
    obtain ⟨h3, h4⟩ := ba h3
    refine ⟨ga K x, _, if_pos h1, ?_, meth_ok h3⟩
    show (if ids.contains (x, m) then some (fAd K (adOf (x, m))) else none) = _
    rw [if_pos h2]
    unfold adOf
    rw [if_neg (by simpa using h4)]
    rfl
  · obtain ⟨h1, h2⟩ := ba (show (_ && _) = true from List.all_eq_true.mp c8 x hx)
    have rest : ∀ c C, (gaOf ids cs xs K).xa c = some C → ExcC K C ∧ PySem.W.kitOne K (.ref C) (isxU K x) = some (T.catches c x) := fun c C e => by
      obtain ⟨hc, rfl⟩ := xin c C e
      obtain ⟨g1, g2⟩ := ba (List.all_eq_true.mp h2 c hc)
      exact ⟨excCB_ok g1, of_decide_eq_true g2⟩
    unfold isxU at rest
    by_cases hq : (x == ("LookupError" : Str)) = true
    · rw [if_pos hq] at h1 rest
      obtain ⟨g1, g2⟩ := ba h1
      exact ⟨.ty "LookupError", .type "LookupError", .inr ⟨free_ok X G g1, of_decide_eq_true g2⟩, .ty _, rfl, rest⟩
    · rw [if_neg hq] at h1 rest
      exact ⟨.ref (ga K x), .ref (ga K x), .inl (glo_ok X G h1), .own _, rfl, rest⟩
  · obtain ⟨hc, rfl⟩ := xin c C h1
    obtain ⟨_, rfl⟩ := xin x Ca h2
    exact of_decide_eq_true (List.all_eq_true.mp (List.all_eq_true.mp c9 c hc) x h3)

/-! ### the defs -/
structure Ent where
  id : FId
  st : Stmt
  N : List Str
  ps : List Str
  name : Str
  qual : Str
  dfl : List Dv := []
  kwd : List (Str × Dv) := []
  keep : Bool := false
def Ent.i (e : Ent) : FI := ⟨⟨e.N, defScope e.st, fun _ => true⟩, defBody e.st, e.ps, e.keep⟩
def Ent.d (e : Ent) : DefD := ⟨adOf e.id, e.name, e.qual, defArgs e.st, defBody e.st, defScope e.st, e.dfl, e.kwd⟩
structure Ent.good (T : Tb) (e : Ent) : Prop where
  scope : FnScope e.N e.ps (defScope e.st)
  binds : T.nopos.contains e.id = false → ∀ K a fd, FunD K e.name e.qual (defArgs e.st) (defBody e.st) (defScope e.st) (e.d.dvs K) (e.d.kws K) a fd → Binds K fd e.ps []
  dfl : ∀ n ds, T.dfls.lookup e.id = some (n, ds) → e.ps.length = n + ds.length ∧ ∀ K a fd, FunD K e.name e.qual (defArgs e.st) (defBody e.st) (defScope e.st) (e.d.dvs K) (e.d.kws K) a fd → ∃ dvs us, Vals dvs us ∧ (∀ c, RpL K c dvs ds) ∧ Binds K fd e.ps us
  kwd : ∀ n ks, T.kwds.lookup e.id = some (n, ks) → e.ps.length = n + ks.length ∧ ∀ K a fd, FunD K e.name e.qual (defArgs e.st) (defBody e.st) (defScope e.st) (e.d.dvs K) (e.d.kws K) a fd → KBn K fd e.ps n ks (fun us ws => us ++ ws) (fun vs zs => vs ++ zs)
theorem no_look {α β γ : Type} [BEq α] {l : List (α × β × γ)} {x : α} {P : β → γ → Prop} (h : (l.lookup x).isNone = true) : ∀ y z, l.lookup x = some (y, z) → P y z := fun y z e => by rw [e] at h; cases h
def AllG (T : Tb) : List Ent → Prop
  | [] => True
  | e :: es => e.good T ∧ AllG T es
theorem AllG.of {T : Tb} : ∀ {es : List Ent}, AllG T es → ∀ e ∈ es, e.good T
  | [], _, _, m => by cases m
  | a :: es, h, e, m => by
    cases m with
    | head => exact h.1
    | tail _ m => exact AllG.of h.2 e m
def lookE (es : List Ent) (f : FId) : Option FI := (es.find? fun e => e.id == f).map Ent.i
structure Hd where
  T : Tb
  es : List Ent
  cs : List Str
  xs : List Str
def Hd.ids (d : Hd) : List FId := d.es.map Ent.id
def Hd.G (d : Hd) (K : PySem.W.Frag) : GA := gaOf d.ids d.cs d.xs K
abbrev AlE : Type := Bool × List FnW
def obsE (d : Hd) (K : PySem.W.Frag) : AlE := (topB d.T d.ids d.cs d.xs K && d.es.all fun e => e.d.ok K, d.es.map fun e => fnW K e.d.at_)
def valE (d : Hd) : AlE := (true, d.es.map fun e => e.d.val)
def obsEG (n : Nat) (d : Hd) (g : Addr → Option Obj) : AlE := obsE d (frN g (asD g n))
def hookE (n : Nat) (d : Hd) : PySem.W.Hook where
  α := AlE
  obs := fun s => obsEG n d s.heap.get?
  val := fun _ => valE d
  says := fun _ h => ∃ K : PySem.W.Frag, K.In h ∧ NoL K ∧ obsE d K = valE d
  of := fun _ _ e => ⟨_, frN_in, frN_no, e⟩
  keeps := fun _ _ _ ⟨K, hK, n, c⟩ k => ⟨K, PySem.W.Frag.In.keeps hK k, n, c⟩
theorem obsEG_eq {n : Nat} {d : Hd} {g : Addr → Option Obj} {s : Shared} (h : ∀ a, g a = s.heap.get? a) : obsEG n d g = (hookE n d).obs s := by
  have e : g = s.heap.get? := funext h
  rw [e] <;> rfl
theorem defs_ok {d : Hd} {K : PySem.W.Frag} (hg : AllG d.T d.es) (c : obsE d K = valE d) : ∀ f a, (d.G K).fa f = some a → ∃ i, lookE d.es f = some i ∧ DefF d.T (d.G K) f a i := by
  intro f a h
  have h : (if d.ids.contains f then some (fAd K (adOf f)) else none) = some a := h
  split at h
  · rename_i hf
    cases h
    have hf : f ∈ d.es.map Ent.id := by simpa [Hd.ids] using hf
    obtain ⟨e0, m0, q0⟩ := List.mem_map.mp hf
    cases q : d.es.find? fun e => e.id == f with
    | none =>
      have := List.find?_eq_none.mp q e0 m0
      rw [q0] at this
      simp at this
    | some e =>
      have me := List.mem_of_find?_eq_some q
      have ei : e.id = f := by simpa using List.find?_some q
      subst ei
      refine ⟨e.i, by unfold lookE; rw [q]; rfl, ?_⟩
      have c2 := (ba (show (_ && _) = true from congrArg (fun z : AlE => z.1) c)).2
      have e1 : d.es.map (fun e => fnW K e.d.at_) = d.es.map fun e => e.d.val := congrArg (fun z : AlE => z.2) c
      have e2 : fnW K e.d.at_ = e.d.val := List.map_inj_left.mp e1 e me
      obtain ⟨fd, F⟩ := DefD.funD e2 (List.all_eq_true.mp c2 e me)
      have g := hg.of e me
      exact ⟨⟨_, _, _, fd, _, _, F, ⟨fun hn => g.binds hn K _ fd F, fun n ds e => ⟨(g.dfl n ds e).1, (g.dfl n ds e).2 K _ fd F⟩, fun n ks e => ⟨(g.kwd n ks e).1, (g.kwd n ks e).2 K _ fd F⟩⟩⟩, g.scope⟩
  · cases h

/-! ### the law -/
theorem walk_ofC {l : PySem.W.OpenLaw} {n k : Nat} {q : Program} {loose : List Str} {XP : (Str → Option Value) → Heap → Prop} {YP : World → Heap → Prop} {d : DefRec} {CX : World → CXT} {x : Str}
    (hn : l.most = some n) (hn2 : n ≤ sizeLine) (hdf : d.params.defaults = []) (hr : Room k callerA)
    (F : ∀ (w : World) (mg : Str → Option Value) (fa : Addr) (h : Heap), YP w h → h.Ns mainGlobals mg → mg d.name = some (.ref fa) →
      ∃ (K : PySem.W.Frag) (fd : FuncData) (sp : Sp), K.In h ∧ (∀ (s : Shared) (u : Value), BindsTo s fd ⟨[u], []⟩ [(x, u)]) ∧
        (∀ (H : Hp) (a : Addr) (ns : List Int), ns.length ≤ n → SqL K H a (ns.map V.int) → sp [.ref a] H (fun v _ => v = .bl true) fun _ _ _ => False) ∧
        ∀ base : Heap, K.In base → base.Ns mainGlobals mg → FnOk l.prog w K mg base (CX w) k fa fd [x] sp)
    (hCX : ∀ (w : World) (H : Hp) (s : Shared) (e : Value) (s' : Shared), CX w [] H s (fun _ _ _ => False) e s' → False) :
    PySem.W.WalkO q loose XP YP l.row.toRowW d [] (fun f vs => PySem.call f vs) := by
  refine Att.attach_call hn hdf fun w s₀ s₁ mg mb fa o pm cd doc a vs ns G Y ho hd hcd hmg hobj hints hlen hg => ?_
  obtain ⟨K, fd, sp, h1, h2, h3, h4⟩ := F w mg fa _ Y G.T.g hmg
  exact law_call h1 G.T.g G.T.b G.T.builtins G.T.nolimit hg hobj hints (Nat.le_trans hlen hn2) hr h4 h2 (fun H _ hS => h3 H a ns hlen hS) fun H e s' => hCX w H s₁ e s'
theorem rpl_ints {K : PySem.W.Frag} {c : Cf} : ∀ ns : List Int, RpL K c (ns.map V.int) (ns.map PyData.int)
  | [] => .nil
  | n :: ns => .cons (.int n) (rpl_ints ns)
theorem law_of {l : PySem.W.OpenLaw} {m n k dp : Nat} {d : Hd} {q : Program} {loose : List Str} {XP : (Str → Option Value) → Heap → Prop} {dr : DefRec} {e : Ent} (hg : AllG d.T d.es)
    (hn : l.most = some n) (hn2 : n ≤ sizeLine) (hdf : dr.params.defaults = []) (hr : Room (2 * (k + 1)) callerA) (hname : dr.name = ("law" : Str)) (hin : ("law" : Str) ∈ d.T.defs)
    (he : (d.es.find? fun e => e.id == pl "law") = some e) (hps : e.ps = [("script" : Str)])
    (hb : ∀ K a fd, FunD K e.name e.qual (defArgs e.st) (defBody e.st) (defScope e.st) (e.d.dvs K) (e.d.kws K) a fd → ∀ (s : Shared) (u : Value), BindsTo s fd ⟨[u], []⟩ [(("script" : Str), u)])
    (hl : ∀ ns : List Int, ns.length ≤ n → ∃ h, callM d.T (lookE d.es) dp (k + 1) (pl "law") [.d (.list (ns.map PyData.int))] [] = .ok (.d (.bool true)) h) :
    PySem.W.WalkO q loose XP (hookE m d).says l.row.toRowW dr [] (fun f vs => PySem.call f vs) := by
  refine walk_ofC (k := 2 * (k + 1)) (CX := fun w => CX l.prog w) (x := "script") hn hn2 hdf hr ?_ (fun w H s e s' ⟨_, _, _, _, _, _, _, _, _, _, _, _, z⟩ => z)
  intro w mg fa h ⟨K, KX, nl, c⟩ G hmg
  rw [hname] at hmg
  have c0 := ba (show (_ && _) = true from congrArg (fun z : AlE => z.1) c)
  have S : TopS d.T (d.G K) mg := top_ok KX G c0.1
  obtain ⟨a', h1, h2⟩ := S.def_ "law" hin
  rw [hmg] at h2
  cases h2
  have hD := defs_ok hg c
  have me := List.mem_of_find?_eq_some he
  have ei : e.id = pl "law" := by simpa using List.find?_some he
  have hi : lookE d.es (pl "law") = some e.i := by unfold lookE; rw [he]; rfl
  have e1 : d.es.map (fun e => fnW K e.d.at_) = d.es.map fun e => e.d.val := congrArg (fun z : AlE => z.2) c
  have e2 : fnW K e.d.at_ = e.d.val := List.map_inj_left.mp e1 e me
  obtain ⟨fd, F⟩ := DefD.funD e2 (List.all_eq_true.mp c0.2 e me)
  have g := hg.of e me
  have ea : fAd K e.d.at_ = fa := by
    have h1 : (if d.ids.contains (pl "law") then some (fAd K (adOf (pl "law"))) else none) = some fa := h1
    split at h1
    · rw [← ei] at h1; exact Option.some.inj h1
    · cases h1
  rw [ea] at F
  refine ⟨K, fd, spM (d.G K) (callM d.T (lookE d.es) dp (k + 1) (pl "law")) 1, KX, hb K fa fd F, fun H a ns hlen hS => ?_, fun base hKb hB => ?_⟩
  · have hRd : Rd H a (.lst (ns.map V.int)) := by
      rcases hS with hS | ⟨o, its, n, h1, h2, _⟩
      · exact hS
      · exact absurd h2 (nl a o h1)
    refine ⟨rfl, ⟨H, [], []⟩, [.d (.list (ns.map PyData.int))], rfl, ⟨rfl, List.Pairwise.nil, fun i a o h => by simp at h⟩, .cons ?_ .nil, ?_⟩
    · exact .lst (fun ⟨i, h⟩ => by simp at h) hRd (rpl_ints ns)
    · obtain ⟨h', hh⟩ := hl ns hlen
      show Po _ (callM d.T (lookE d.es) dp (k + 1) (pl "law") [.d (.list (ns.map PyData.int))] []) _ _ _
      rw [hh]
      intro c' _ _ _ v rv
      exact rBool rv
  · have z := fn_one (P := l.prog) (w := w) (base := base) (n := dp) S (fn_all (n := dp) (P := l.prog) (w := w) (base := base) S hD k) hi g.scope F
    have hp1 : e.i.ps = [("script" : Str)] := hps
    rw [hp1] at z
    exact z
end Ev
set_option Elab.async false
set_option linter.all false
set_option maxRecDepth 100000
set_option maxHeartbeats 4000000
/-! E17b: the law by a reading of its body of one's own; objects that are forgotten on the way. -/
namespace Ev
open PySem PySem.Spec PyProof.Rows L2 He
def kill1 : AO → AO
  | .rod kvs => .rod kvs
  | _ => .dead
def killN (n : Nat) (h : AH) : AH := (h.take n).map kill1 ++ h.drop n
theorem killN_at {n : Nat} {h : AH} {i : Nat} {o : AO} (q : (killN n h)[i]? = some o) : (i < n ∧ ∃ u, h[i]? = some u ∧ o = kill1 u) ∨ (n ≤ i ∧ h[i]? = some o) := by
  unfold killN at q
  by_cases hi : i < (h.take n).length
  · rw [List.getElem?_append_left (by simpa using hi), List.getElem?_map] at q
    have hi2 : i < n ∧ i < h.length := by rw [List.length_take] at hi; omega
    rw [List.getElem?_take, if_pos hi2.1, List.getElem?_eq_getElem hi2.2] at q
    exact .inl ⟨hi2.1, _, List.getElem?_eq_getElem hi2.2, by simpa using q.symm⟩
  · rw [List.getElem?_append_right (by simpa using hi)] at q
    rw [List.getElem?_drop] at q
    have hl : ((h.take n).map kill1).length = min n h.length := by simp
    rw [hl] at q
    have hlt : n + (i - min n h.length) < h.length := (List.getElem?_eq_some_iff.mp q).1
    have hi2 : ¬ (i < n ∧ i < h.length) := by rw [List.length_take] at hi; omega
    have hn : n ≤ i := by omega
    rw [show n + (i - min n h.length) = i by omega] at q
    exact .inr ⟨hn, q⟩
theorem killN_len {n : Nat} {h : AH} : (killN n h).length = h.length := by unfold killN; simp; omega
theorem killN_lk {n : Nat} {h : AH} {i : Nat} {o : AO} (ho : kill1 o = o) (q : h[i]? = some o) : (killN n h)[i]? = some o := by
  have hl : i < h.length := (List.getElem?_eq_some_iff.mp q).1
  have hk : (killN n h).length = h.length := killN_len
  cases e : (killN n h)[i]? with
  | none => rw [List.getElem?_eq_none_iff] at e; omega
  | some o' =>
    rcases killN_at e with ⟨_, u, h2, h3⟩ | ⟨_, h2⟩
    · rw [q] at h2; cases h2; rw [h3, ho]
    · rw [q] at h2; rw [← h2]
theorem killN_dead {n : Nat} {h : AH} {i : Nat} (q : h[i]? = some .dead) : (killN n h)[i]? = some .dead := killN_lk rfl q
section
variable {T : Tb} {G : GA} {CM : FId → List W → M W} {k : Nat} {sc : Sc}
theorem kill_ok {c : Cf} {n : Nat} (ok : c.ok G) : c.ext ⟨c.H, c.μ, killN n c.ah⟩ ∧ (⟨c.H, c.μ, killN n c.ah⟩ : Cf).ok G := by
  refine ⟨⟨fun _ _ h => h, fun _ _ h l => ⟨h, l⟩, fun i a o h1 h2 h3 => ⟨h3, killN_dead h2⟩, fun i a kvs o h1 h2 h3 => ⟨h3, killN_lk rfl h2⟩⟩, ⟨by show c.μ.length = (killN n c.ah).length; rw [killN_len]; exact ok.len, ok.nd, fun i a o h1 h2 => ?_⟩⟩
  rcases killN_at h2 with ⟨_, u, hu, rfl⟩ | ⟨_, h2⟩
  · have q := ok.obj i a u h1 hu
    cases u with
    | rod kvs => exact OR.same (c := c) (c' := ⟨c.H, c.μ, killN n c.ah⟩) rfl rfl q
    | _ => exact (ok.there h1)
  · exact OR.same (c := c) (c' := ⟨c.H, c.μ, killN n c.ah⟩) rfl rfl (ok.obj i a o h1 h2)
def mKill (n : Nat) (m : MS) : MS := fun env h => m env (killN n h)
theorem sss_kill {sts : List Stmt} {m : MS} {n : Nat} (hm : SSs T G CM k sc sts m) : SSs T G CM k sc sts (mKill n m) := fun X Ex F hp hs hf => by
  refine PSs.imp (hm X Ex F hp hs hf) fun D σ H ⟨c, env, e, ok, re, q⟩ => ?_
  subst e
  obtain ⟨ex, ok2⟩ := kill_ok (n := n) ok
  exact ⟨⟨c.H, c.μ, killN n c.ah⟩, env, rfl, ok2, re.mono ex, Po.bind.Po.later ex q⟩
theorem sss_nilSeq {sts : List Stmt} {m : MS} (hm : SSs T G CM k sc sts m) : SSs T G CM k sc sts (sSeq sNil m) := fun X Ex F hp hs hf => by
  refine PSs.imp (hm X Ex F hp hs hf) fun D σ H ⟨c, env, e, ok, re, q⟩ => ⟨c, env, e, ok, re, q⟩
theorem sSeq_assoc (a b c : MS) : sSeq (sSeq a b) c = sSeq a (sSeq b c) := by
  funext env h
  simp only [sSeq, mbind]
  cases a env h with
  | ok fl h1 => cases fl <;> rfl
  | ex e h1 => rfl
  | no => rfl
theorem sss_append {P : Stmt → MS} (hP : ∀ s, SS T G CM k sc s (P s)) {b : List Stmt} {mb : MS} (hb : SSs T G CM k sc b mb) : ∀ a : List Stmt, SSs T G CM k sc (a ++ b) (sSeq (sBlock (a.map P)) mb)
  | [] => sss_nilSeq hb
  | [s] => sss_cons (hP s) hb
  | s :: s2 :: r => by
    show SSs T G CM k sc (s :: (s2 :: r ++ b)) (sSeq (sSeq (P s) (sBlock ((s2 :: r).map P))) mb)
    rw [sSeq_assoc]
    exact sss_cons (hP s) (sss_append hP hb (s2 :: r))
end
/-- a law's body by such a reading -/
theorem fn_body {T : Tb} {G : GA} {D : FId → Option FI} {n : Nat} {P : Program} {w : World} {mg : Str → Option Value} {base : Heap} (S : TopS T G mg) {k : Nat}
    (ih : ∀ f a, G.fa f = some a → ∃ fd ps, FnOk P w G.K mg base (CX P w) (2 * k) a fd ps (spM G (callM T D n k f) ps.length) ∧ BindsD T G G.K f fd ps ∧ PySem.W.keepIn G.K (.ref a) = true ∧ ∀ ws h, ws.length ≠ ps.length → callM T D n k f ws h = .no)
    {a : Addr} {i : FI} {m : MS} (sc : FnScope i.sc.N i.ps i.sc.scope) {x qual : Str} {params : Arguments} {fd : FuncData} {dvs : List V} {kws : List (Str × V)} (F1 : FunD G.K x qual params i.body i.sc.scope dvs kws a fd) (hown : i.sc.own = fun _ => true)
    (hm : SSs T G (callM T D n k) k i.sc i.body m) : FnOk P w G.K mg base (CX P w) (2 * (k + 1)) a fd i.ps (spM G (fun ws h => if ws.length = i.ps.length then keepM (m (startW i.sc.N ws) h) else .no) i.ps.length) := by
  refine FunD.ok (k := 2 * k + 1) F1 sc (fun vs H Q E h => h.1) fun cdv A outer s H vs Q E hr h => ?_
  let X := cxOf (CX P w) P w G.K mg base i.sc.N qual i.sc.scope a cdv A outer s H E
  have hFit : Fits T G (callM T D n k) k X i.sc (fun cls d _ H => E cls d H) := by
    refine ⟨rfl, sc.nd, rfl, rfl, fun _ _ => rfl, rfl, hr, takes_of rfl rfl rfl rfl, top_of rfl rfl S ih⟩
  refine ⟨_, hm X E hFit (passes_of rfl) rfl ⟨rfl, rfl⟩, ?_⟩
  obtain ⟨hl, c, ws, rfl, ok, rws, q⟩ := h
  have hlw : ws.length = i.ps.length := by rw [← rws.length]; exact hl
  refine ⟨c, startW i.sc.N ws, rfl, ok, start_ok rws, ?_⟩
  simp only [hlw, if_true] at q
  exact po_keep (E := fun e H => ∀ C, G.xa e = some C → E (.ref C) none H) ok q
theorem law_ofM {l : PySem.W.OpenLaw} {m n k dp : Nat} {d : Hd} {q : Program} {loose : List Str} {XP : (Str → Option Value) → Heap → Prop} {dr : DefRec} {e : Ent} {M : MS} (hg : AllG d.T d.es)
    (hn : l.most = some n) (hn2 : n ≤ sizeLine) (hdf : dr.params.defaults = []) (hr : Room (2 * (k + 1)) callerA) (hname : dr.name = ("law" : Str)) (hin : ("law" : Str) ∈ d.T.defs)
    (he : (d.es.find? fun e => e.id == pl "law") = some e) (hps : e.ps = [("script" : Str)])
    (hb : ∀ K a fd, FunD K e.name e.qual (defArgs e.st) (defBody e.st) (defScope e.st) (e.d.dvs K) (e.d.kws K) a fd → ∀ (s : Shared) (u : Value), BindsTo s fd ⟨[u], []⟩ [(("script" : Str), u)])
    (hM : ∀ G : GA, SSs d.T G (callM d.T (lookE d.es) dp k) k e.i.sc e.i.body M)
    (hl : ∀ ns : List Int, ns.length ≤ n → ∃ h, M (startW e.N [.d (.list (ns.map PyData.int))]) [] = .ok (.rt (.d (.bool true))) h) :
    PySem.W.WalkO q loose XP (hookE m d).says l.row.toRowW dr [] (fun f vs => PySem.call f vs) := by
  refine walk_ofC (k := 2 * (k + 1)) (CX := fun w => CX l.prog w) (x := "script") hn hn2 hdf hr ?_ (fun w H s e s' ⟨_, _, _, _, _, _, _, _, _, _, _, _, z⟩ => z)
  intro w mg fa h ⟨K, KX, nl, c⟩ G hmg
  rw [hname] at hmg
  have c0 := ba (show (_ && _) = true from congrArg (fun z : AlE => z.1) c)
  have S : TopS d.T (d.G K) mg := top_ok KX G c0.1
  obtain ⟨a', h1, h2⟩ := S.def_ "law" hin
  rw [hmg] at h2
  cases h2
  have hD := defs_ok hg c
  have me := List.mem_of_find?_eq_some he
  have ei : e.id = pl "law" := by simpa using List.find?_some he
  have e1 : d.es.map (fun e => fnW K e.d.at_) = d.es.map fun e => e.d.val := congrArg (fun z : AlE => z.2) c
  have e2 : fnW K e.d.at_ = e.d.val := List.map_inj_left.mp e1 e me
  obtain ⟨fd, F⟩ := DefD.funD e2 (List.all_eq_true.mp c0.2 e me)
  have g := hg.of e me
  have ea : fAd K e.d.at_ = fa := by
    have h1 : (if d.ids.contains (pl "law") then some (fAd K (adOf (pl "law"))) else none) = some fa := h1
    split at h1
    · rw [← ei] at h1; exact Option.some.inj h1
    · cases h1
  rw [ea] at F
  refine ⟨K, fd, spM (d.G K) (fun ws h => if ws.length = e.i.ps.length then keepM (M (startW e.i.sc.N ws) h) else .no) 1, KX, hb K fa fd F, fun H a ns hlen hS => ?_, fun base hKb hB => ?_⟩
  · have hRd : Rd H a (.lst (ns.map V.int)) := by
      rcases hS with hS | ⟨o, its, n, h1, h2, _⟩
      · exact hS
      · exact absurd h2 (nl a o h1)
    refine ⟨rfl, ⟨H, [], []⟩, [.d (.list (ns.map PyData.int))], rfl, ⟨rfl, List.Pairwise.nil, fun i a o h => by simp at h⟩, .cons ?_ .nil, ?_⟩
    · exact .lst (fun ⟨i, h⟩ => by simp at h) hRd (rpl_ints ns)
    · obtain ⟨h', hh⟩ := hl ns hlen
      have hp1 : e.i.ps.length = 1 := by show e.ps.length = 1; rw [hps]; rfl
      show Po _ (if [W.d (.list (ns.map PyData.int))].length = e.i.ps.length then keepM (M (startW e.i.sc.N [.d (.list (ns.map PyData.int))]) []) else .no) _ _ _
      rw [if_pos (by rw [hp1]; rfl), show M (startW e.i.sc.N [.d (.list (ns.map PyData.int))]) [] = _ from hh]
      intro c' _ _ _ v rv
      exact rBool rv
  · have z := fn_body (P := l.prog) (w := w) (base := base) (n := dp) (i := e.i) S (fn_all (n := dp) (P := l.prog) (w := w) (base := base) S hD k) g.scope F rfl (hM (d.G K))
    have hp1 : e.i.ps = [("script" : Str)] := hps
    rw [hp1] at z
    rw [hp1]
    exact z
end Ev
set_option Elab.async false
set_option linter.all false
set_option maxRecDepth 100000
set_option maxHeartbeats 4000000
/-! E18: reading terms: rules by the front, and what a def's end makes of it. -/
namespace Ev
open PySem PySem.Spec PyProof.Rows L2 He
def mb {α β : Type} (r : R α) (f : α → M β) : R β := match r with
  | .ok a h' => f a h'
  | .ex c h' => .ex c h'
  | .no => .no
def kA {β : Type} (y : ME) (env : EnvW) (F : W → W → M β) (a : W) : M β := mbind (y env) (F a)
def kIf {β : Type} (p q : M β) (c : Bool) : M β := if c then p else q
def kOk {β γ : Type} (g : β → γ) (b : β) : M γ := mpure (g b)
def kNx {β : Type} (fl : Fl) (_ : β) : M Fl := mpure fl
def kC4 (op' : CmpOp) (b : W) (z : ME) (env : EnvW) (t : Bool) : M W := if t then mbind (z env) (cmp op' b) else mpure (wB false)
def kC3 (op' : CmpOp) (b : W) (z : ME) (env : EnvW) (c : W) : M W := mbind (asB c) (kC4 op' b z env)
def kC2 (op op' : CmpOp) (z : ME) (env : EnvW) (a b : W) : M W := mbind (cmp op a b) (kC3 op' b z env)
def kL2 (a : W) (as : List W) : M (List W) := mpure (a :: as)
def kL1 (r : EnvW → M (List W)) (env : EnvW) (a : W) : M (List W) := mbind (r env) (kL2 a)
def kTup (ws : List W) : M W := match allD ws with
  | some ds => if ds.length ≤ sizeLine then mpure (.d (.tuple ds)) else mno
  | none => if ws.length ≤ sizeLine then fun h => .ok (.r h.length) (h ++ [.tup ws]) else mno
def kLst (ws : List W) : M W := if ws.length ≤ sizeLine then fun h => .ok (.r h.length) (h ++ [.lst ws]) else mno
def kLstD (ws : List W) : M W := match allD ws with
  | some ds => if ds.length ≤ sizeLine then mpure (.d (.list ds)) else mno
  | none => mno
def kNeg (w : W) : M W := match w with
  | .d (.int i) => mpure (wI (-i))
  | _ => mno
def kSo (a : W) : M (Option Int) := mbind (asI a) fun i => mpure (some i)
def kS2 (a : W) (l : Option Int) (u : Option Int) : M W := slM a l u
def kS1 (a : W) (o' : EnvW → M (Option Int)) (env : EnvW) (l : Option Int) : M W := mbind (o' env) (kS2 a l)
def kS0 (o o' : EnvW → M (Option Int)) (env : EnvW) (a : W) : M W := mbind (o env) (kS1 a o' env)
def kJ2 (ms : List ME) (acc : Str) (env : EnvW) (y : Str) : M W := if (acc ++ y).length ≤ sizeLine then joinM ms (acc ++ y) env else mno
def kJ1 (ms : List ME) (acc : Str) (env : EnvW) (w : W) : M W := mbind (asS w) (kJ2 ms acc env)
def kV (T : Tb) (CM : FId → List W → M W) (as : EnvW → M (List W)) (env : EnvW) (w : W) : M W := match w with
  | .fn f => if T.nopos.contains (pl f) then mno else mbind (as env) (CM (pl f))
  | _ => mno
def kM (T : Tb) (CM : FId → List W → M W) (f : Str) (as : EnvW → M (List W)) (env : EnvW) (w : W) : M W := methM T CM f w (as env)
def kB (bt : BT) (q : W → List W → M W) (as : EnvW → M (List W)) (env : EnvW) (w : W) : M W := fun h => if bt.chk h w then mbind (as env) (q w) h else .no
def kNew (CM : FId → List W → M W) (x : Str) (ds ws : List W) : M W := fun h => match CM (x, "__init__") (.r h.length :: (ws ++ ds)) (h ++ [.ins x []]) with
  | .ok (.d .none) h' => .ok (.r h.length) h'
  | .ex c h' => .ex c h'
  | _ => .no
def kRt (w : W) : M Fl := mpure (.rt w)
def kSet (i : Nat) (env : EnvW) (w : W) : M Fl := mpure (.nx (env.set i (some w)))
def kFor (tg : Tg) (s : MS) (env : EnvW) (p : Src) : M Fl := over p fun ws => floop tg s ws env
def kF2 (f : Str) (env : EnvW) (b a : W) : M Fl := mbind (setFldM f a b) (kNx (.nx env))
def kX2 (env : EnvW) (v a b : W) : M Fl := mbind (setIxM a b v) (kNx (.nx env))
def kX1 (y : ME) (env : EnvW) (v a : W) : M Fl := mbind (y env) (kX2 env v a)
def kP2 (i j : Nat) (env : EnvW) (a b : W) : M Fl := mpure (.nx ((env.set i (some a)).set j (some b)))
def kG2 (i : Nat) (env : EnvW) (a b : W) : M Fl := mbind (iopM a b) (kSet i env)
def kRef (n : Nat) (_ : Unit) : M W := mpure (.r n)
def kLC (tg : Tg) (t : EnvW → M Bool) (el : ME) (env : EnvW) (p : Src) : M W := over p fun ws => fun h => mb (cLoop h.length tg t el ws (wipeW env tg.slots) (h ++ [.lst []])) (kRef h.length)
section
variable {α β : Type} {a : α} {f : α → M β} {h : AH} {c : Str} {m : M α}
@[simp] theorem mb_ok : mb (.ok a h) f = f a h := rfl
@[simp] theorem mb_ex : mb (.ex c h : R α) f = .ex c h := rfl
@[simp] theorem mb_no : mb (.no : R α) f = .no := rfl
@[simp ↓] theorem mbind_ap : mbind m f h = mb (m h) f := rfl
@[simp] theorem mpure_ap : mpure a h = .ok a h := rfl
@[simp] theorem mno_ap : (mno : M α) h = .no := rfl
@[simp] theorem mraise_ap : (mraise c : M α) h = .ex c h := rfl
end
section
variable {env : EnvW} {h : AH} {i j n : Nat} {w : W} {x y z : ME} {e : EnvW} {t u : EnvW → M Bool} {as : EnvW → M (List W)} {f g : Str} {s s' : MS} {ty : String} {op op' : CmpOp} {bo : Operator} {CM : FId → List W → M W} {fi : FId} {T : Tb} {o o' : EnvW → M (Option Int)} {tg : Tg} {mi : EnvW → M Src} {bt : BT} {q : W → List W → M W} {fn : List W → M W} {fs : List W → M Src}
@[simp ↓] theorem mVar_0 : mVar 0 (some w :: e) h = .ok w h := rfl
@[simp ↓] theorem mVar_s {o : Option W} : mVar (n + 1) (o :: e) h = mVar n e h := rfl
@[simp] theorem mC_ap : mC w env h = .ok w h := rfl
@[simp ↓] theorem eBin_ap : eBin bo x y env h = mb (x env h) (kA y env (bop bo)) := rfl
@[simp ↓] theorem eCmp_ap : eCmp op x y env h = mb (x env h) (kA y env (cmp op)) := rfl
@[simp ↓] theorem eCmp2_ap : eCmp2 op op' x y z env h = mb (x env h) (kA y env (kC2 op op' z env)) := rfl
@[simp ↓] theorem tst_ap : tst x env h = mb (x env h) asB := rfl
@[simp ↓] theorem wI_eq {i : Int} : wI i = .d (.int i) := rfl
@[simp ↓] theorem wB_eq {b : Bool} : wB b = .d (.bool b) := rfl
@[simp ↓] theorem wS_eq {x : Str} : wS x = .d (.str x) := rfl
@[simp] theorem asB_ap' {b : Bool} : asB (.d (.bool b)) h = .ok b h := rfl
theorem ite_ap {α β : Type} {b : Prop} [Decidable b] {p q : α → β} {a : α} : (if b then p else q) a = if b then p a else q a := by split <;> rfl
@[simp ↓] theorem eAnd_ap : eAnd x y env h = mb (tst x env h) (kIf (y env) (mpure (wB false))) := rfl
@[simp ↓] theorem eOr_ap : eOr x y env h = mb (tst x env h) (kIf (mpure (wB true)) (y env)) := rfl
@[simp ↓] theorem eNot_ap : eNot x env h = mb (tst x env h) (kOk fun t => wB (!t)) := rfl
@[simp ↓] theorem eNeg_ap : eNeg x env h = mb (x env h) kNeg := rfl
@[simp ↓] theorem eIf_ap : eIf t x y env h = mb (t env h) (kIf (x env) (y env)) := rfl
@[simp ↓] theorem tAnd_ap : tAndM t u env h = mb (t env h) (kIf (u env) (mpure false)) := rfl
@[simp ↓] theorem tOr_ap : tOrM t u env h = mb (t env h) (kIf (mpure true) (u env)) := rfl
@[simp ↓] theorem tNot_ap : tNotM t env h = mb (t env h) (kOk not) := rfl
@[simp ↓] theorem aList_nil : aList [] env h = .ok [] h := rfl
@[simp ↓] theorem aList_cons {ms : List ME} : aList (x :: ms) env h = mb (x env h) (kL1 (aList ms) env) := rfl
@[simp ↓] theorem eTup_ap : eTup as env h = mb (as env h) kTup := rfl
@[simp ↓] theorem eLst_ap : eLst as env h = mb (as env h) kLst := rfl
@[simp ↓] theorem eLstD_ap : eLstD as env h = mb (as env h) kLstD := rfl
@[simp ↓] theorem eIx_ap : eIx x y env h = mb (x env h) (kA y env ixM) := rfl
@[simp ↓] theorem pNo_ap : pNo env h = .ok none h := rfl
@[simp ↓] theorem pSome_ap : pSome x env h = mb (x env h) kSo := rfl
@[simp] theorem asI_ap {i : Int} : asI (.d (.int i)) h = .ok i h := rfl
@[simp ↓] theorem eSl_ap : eSl x o o' env h = mb (x env h) (kS0 o o' env) := rfl
@[simp ↓] theorem eFmt_ap : eFmt x env h = mb (x env h) fmtM := rfl
@[simp ↓] theorem joinM_nil {acc : Str} : joinM [] acc env h = .ok (wS acc) h := rfl
@[simp ↓] theorem joinM_cons {ms : List ME} {acc : Str} : joinM (x :: ms) acc env h = mb (x env h) (kJ1 ms acc env) := rfl
@[simp] theorem asS_ap {i : Str} : asS (.d (.str i)) h = .ok i h := rfl
@[simp ↓] theorem eFun_ap : eFun fn as env h = mb (as env h) fn := rfl
@[simp ↓] theorem eIsi_ap : eIsi x ty env h = mb (x env h) (isiM ty) := rfl
@[simp ↓] theorem eIsx_ap : eIsx T x f env h = mb (x env h) (isxM T f) := rfl
@[simp ↓] theorem eCall_ap : eCall CM fi as env h = mb (as env h) (CM fi) := rfl
@[simp ↓] theorem eCallV_ap : eCallV T CM i as env h = mb (mVar i env h) (kV T CM as env) := by unfold eCallV; rfl
@[simp ↓] theorem eNew_ap {ds : List W} : eNew CM f ds as env h = mb (as env h) (kNew CM f ds) := rfl
@[simp ↓] theorem eFld_ap : eFld x f env h = mb (x env h) (fldM f) := rfl
@[simp ↓] theorem eMeth_ap : eMeth T CM f x as env h = mb (x env h) (kM T CM f as env) := rfl
@[simp ↓] theorem eBM_ap : eBM bt q x as env h = mb (x env h) (kB bt q as env) := rfl
@[simp ↓] theorem sNil_ap : sNil env h = .ok (.nx env) h := rfl
@[simp ↓] theorem sBlock_nil : sBlock [] env h = .ok (.nx env) h := rfl
@[simp ↓] theorem sBlock_one : sBlock [s] env h = s env h := rfl
def fnext (s : MS) : Fl → M Fl
  | .nx e => s e
  | fl => mpure fl
@[simp] theorem fnext_nx : fnext s (.nx e) h = s e h := rfl
@[simp] theorem fnext_rt : fnext s (.rt w) h = .ok (.rt w) h := rfl
@[simp] theorem fnext_bk : fnext s (.bk e) h = .ok (.bk e) h := rfl
@[simp] theorem fnext_ct : fnext s (.ct e) h = .ok (.ct e) h := rfl
@[simp ↓] theorem sBlock_two {ss : List MS} : sBlock (s :: s' :: ss) env h = mb (s env h) (fnext (sBlock (s' :: ss))) := by
  show sSeq s (sBlock (s' :: ss)) env h = _
  unfold sSeq mbind mb
  cases s env h with
  | ok fl h' => cases fl <;> rfl
  | ex c h' => rfl
  | no => rfl
@[simp ↓] theorem sExpr_ap : sExpr x env h = mb (x env h) (kNx (.nx env)) := rfl
@[simp ↓] theorem sRet_ap : sRet x env h = mb (x env h) kRt := rfl
@[simp ↓] theorem sRetN_ap : sRetN env h = .ok (.rt (.d .none)) h := rfl
@[simp ↓] theorem sBreak_ap : sBreak env h = .ok (.bk env) h := rfl
@[simp ↓] theorem sCont_ap : sCont env h = .ok (.ct env) h := rfl
@[simp ↓] theorem sIf_ap : sIf t s s' env h = mb (t env h) (kIf (s env) (s' env)) := rfl
@[simp ↓] theorem sSet_ap : sSet i x env h = mb (x env h) (kSet i env) := rfl
@[simp ↓] theorem sRaise_ap : sRaise f env h = .ex f h := rfl
@[simp ↓] theorem sFor_ap : sFor tg mi s env h = mb (mi env h) (kFor tg s env) := rfl
@[simp ↓] theorem iVal_ap : iVal x env h = mb (x env h) srcM := rfl
@[simp ↓] theorem iFun_ap : iFun fs as env h = mb (as env h) fs := rfl
@[simp ↓] theorem sFldW_ap : sFldW f x y env h = mb (y env h) (kA x env (kF2 f env)) := rfl
@[simp ↓] theorem sIxW_ap : sIxW x y z env h = mb (z env h) (kA x env (kX1 y env)) := rfl
@[simp ↓] theorem sTgW_ap : sTgW tg x env h = mb (x env h) (kTg tg env) := rfl
@[simp ↓] theorem sPar_ap : sPar i j x y env h = mb (x env h) (kA y env (kP2 i j env)) := rfl
@[simp ↓] theorem sPar3_ap {l : Nat} : sPar3 i j l as env h = mb (as env h) (kPar3 i j l env) := rfl
@[simp ↓] theorem kPar3_ap {l : Nat} {a b c : W} : kPar3 i j l env [a, b, c] h = .ok (.nx (((env.set i (some a)).set j (some b)).set l (some c))) h := rfl
@[simp ↓] theorem sAug_ap : sAug i x env h = mb (mVar i env h) (kA x env (kG2 i env)) := rfl
@[simp ↓] theorem eLC_ap {el : ME} : eLC tg mi t el env h = mb (mi env h) (kLC tg t el env) := rfl
@[simp] theorem over_none {α : Type} {ws : List W} {f : List W → M α} : over (ws, none) f h = f ws h := rfl
@[simp ↓] theorem tTrue_ap : tTrue env h = .ok true h := rfl
@[simp ↓] theorem kA_ap {β : Type} {F : W → W → M β} : kA y env F w h = mb (y env h) (F w) := rfl
@[simp ↓] theorem kIf_t {β : Type} {p q : M β} : kIf p q true h = p h := rfl
@[simp ↓] theorem kIf_f {β : Type} {p q : M β} : kIf p q false h = q h := rfl
@[simp] theorem kOk_ap {β γ : Type} {g : β → γ} {b : β} : kOk g b h = .ok (g b) h := rfl
@[simp] theorem kNx_ap {β : Type} {fl : Fl} {b : β} : kNx fl b h = .ok fl h := rfl
@[simp ↓] theorem kC2_ap {a b : W} : kC2 op op' z env a b h = mb (cmp op a b h) (kC3 op' b z env) := rfl
@[simp ↓] theorem kC3_ap {b : W} {c : Bool} : kC3 op' b z env (.d (.bool c)) h = kC4 op' b z env c h := rfl
@[simp ↓] theorem kC4_t {b : W} : kC4 op' b z env true h = mb (z env h) (cmp op' b) := rfl
@[simp ↓] theorem kC4_f {b : W} : kC4 op' b z env false h = .ok (wB false) h := rfl
@[simp ↓] theorem kL1_ap {r : EnvW → M (List W)} : kL1 r env w h = mb (r env h) (kL2 w) := rfl
@[simp] theorem kL2_ap {ws : List W} : kL2 w ws h = .ok (w :: ws) h := rfl
@[simp] theorem kSo_ap {i : Int} : kSo (.d (.int i)) h = .ok (some i) h := rfl
@[simp ↓] theorem kS0_ap : kS0 o o' env w h = mb (o env h) (kS1 w o' env) := rfl
@[simp ↓] theorem kS1_ap {l : Option Int} : kS1 w o' env l h = mb (o' env h) (kS2 w l) := rfl
@[simp] theorem kS2_ap {l u : Option Int} : kS2 w l u h = slM w l u h := rfl
@[simp ↓] theorem kJ1_ap {ms : List ME} {acc y : Str} : kJ1 ms acc env (.d (.str y)) h = kJ2 ms acc env y h := rfl
@[simp ↓] theorem kV_ap (hn : T.nopos.contains (pl f) = false) : kV T CM as env (.fn f) h = mb (as env h) (CM (pl f)) := by
  show (if T.nopos.contains (pl f) = true then mno else mbind (as env) (CM (pl f))) h = _
  rw [hn]; rfl
@[simp ↓] theorem eLen_ap : eLen T CM x env h = mb (x env h) (kLen T CM) := rfl
@[simp] theorem kLen_d {d : PyData} : kLen T CM (.d d) h = fLen [.d d] h := rfl
theorem kLen_l {ws : List W} (hi : h[i]? = some (.lst ws)) : kLen T CM (.r i) h = .ok (wI ws.length) h := by
  unfold kLen fLen; simp only [hi]
theorem eOut_ap {w : W} {h1 : AH} (hm : x env h = .ok w h1) : eOut x env h = outM h w h1 := by unfold eOut; rw [hm]
@[simp] theorem kM_ap : kM T CM f as env w h = methM T CM f w (as env) h := rfl
@[simp] theorem kRt_ap : kRt w h = .ok (.rt w) h := rfl
@[simp] theorem kSet_ap : kSet i env w h = .ok (.nx (env.set i (some w))) h := rfl
@[simp] theorem kFor_ap {ws : List W} : kFor tg s env (ws, none) h = floop tg s ws env h := rfl
@[simp ↓] theorem kF2_ap {a b : W} : kF2 f env b a h = mb (setFldM f a b h) (kNx (.nx env)) := rfl
@[simp ↓] theorem kX1_ap {v a : W} : kX1 y env v a h = mb (y env h) (kX2 env v a) := rfl
@[simp ↓] theorem kX2_ap {v a b : W} : kX2 env v a b h = mb (setIxM a b v h) (kNx (.nx env)) := rfl
@[simp] theorem kP2_ap {a b : W} : kP2 i j env a b h = .ok (.nx ((env.set i (some a)).set j (some b))) h := rfl
@[simp ↓] theorem kG2_ap {a b : W} : kG2 i env a b h = mb (iopM a b h) (kSet i env) := rfl
@[simp] theorem kRef_ap {u : Unit} : kRef n u h = .ok (.r n) h := rfl
@[simp] theorem kNeg_ap {i : Int} : kNeg (.d (.int i)) h = .ok (wI (-i)) h := rfl
end
/-! ### ends -/
theorem fine_app {h j : AH} : Fine h (h ++ j) := fun i o hi e => by
  rw [List.getElem?_append_left hi] at e; exact .inl e
theorem take_app {h j : AH} : (h ++ j).take h.length = h := by simp
theorem end_d {h j : AH} {x : PyData} : endM h (.ok (.rt (.d x)) (h ++ j)) = .ok (.d x) h := by
  show outM h (.d x) (h ++ j) = _
  unfold outM
  rw [if_pos (fineB_iff.mpr fine_app)]
  show R.ok (W.d x) ((h ++ j).take h.length) = _
  rw [take_app]
@[simp] theorem end_d0 {h : AH} {x : PyData} : endM h (.ok (.rt (.d x)) h) = .ok (.d x) h := by
  have := end_d (h := h) (j := []) (x := x)
  rwa [List.append_nil] at this
theorem end_nx {h j : AH} {e : EnvW} : endM h (.ok (.nx e) (h ++ j)) = .ok (.d .none) h := end_d
@[simp] theorem end_nx0 {h : AH} {e : EnvW} : endM h (.ok (.nx e) h) = .ok (.d .none) h := by
  have := end_nx (h := h) (j := []) (e := e)
  rwa [List.append_nil] at this
theorem end_ex {h j : AH} {c : Str} : endM h (.ex c (h ++ j)) = .ex c h := by
  unfold endM
  simp only
  rw [if_pos (fineB_iff.mpr fine_app), take_app]
@[simp] theorem end_ex0 {h : AH} {c : Str} : endM h (.ex c h) = .ex c h := by
  have := end_ex (h := h) (j := []) (c := c)
  rwa [List.append_nil] at this
theorem frzL_data {n : Nat} {h : AH} {k : Nat} : ∀ ds : List PyData, frzL n h k (ds.map .d) = some ds
  | [] => rfl
  | d :: ds => by
    have e1 : frz n h k (.d d) = some d := by cases k <;> simp [frz]
    simp only [List.map_cons, frzLw, e1, frzL_data ds]
/-- a new list of data comes back as data -/
theorem end_l {h j : AH} {i : Nat} {ds : List PyData} (hi : h.length ≤ i) (hj : (h ++ j)[i]? = some (.lst (ds.map .d))) : endM h (.ok (.rt (.r i)) (h ++ j)) = .ok (.d (.list ds)) h := by
  show outM h (.r i) (h ++ j) = _
  unfold outM
  rw [if_pos (fineB_iff.mpr fine_app)]
  have e : frzW h.length (h ++ j) (.r i) = some (.d (.list ds)) := by
    show (if i < h.length then some (W.r i) else (frz h.length (h ++ j) 4 (.r i)).map W.d) = _
    rw [if_neg (by omega)]
    have e3 : frz h.length (h ++ j) (3 + 1) (.r i) = some (.list ds) := by
      show (if h.length ≤ i then (match (h ++ j)[i]? with
        | some (.lst ws) => (frzLw (frz h.length (h ++ j) 3) ws).map PyData.list
        | some (.dic kvs) => (frzDw (frz h.length (h ++ j) 3) kvs).map PyData.dict
        | _ => none) else none) = _
      rw [if_pos hi, hj]
      show (frzL h.length (h ++ j) 3 (ds.map .d)).map PyData.list = _
      rw [frzL_data]; rfl
    rw [e3]; rfl
  rw [e]
  show R.ok _ ((h ++ j).take h.length) = _
  rw [take_app]
theorem end_l1 {h j : AH} {ds : List PyData} : endM h (.ok (.rt (.r h.length)) (h ++ (.lst (ds.map .d) :: j))) = .ok (.d (.list ds)) h := end_l (Nat.le_refl _) (by simp)
/-- one old object changed -/
theorem fine_set {h j : AH} {t : Nat} {o : AO} (ho : o.clos h.length) (ht : t < h.length) : Fine h (h.set t o ++ j) := fun i u hi e => by
  rw [List.getElem?_append_left (by rw [List.length_set]; exact hi)] at e
  by_cases q : t = i
  · subst q
    rw [List.getElem?_set_self ht] at e
    cases e; exact .inr ho
  · rw [List.getElem?_set_ne q] at e; exact .inl e
theorem end_set {h j : AH} {t : Nat} {o : AO} {x : PyData} (ho : o.clos h.length) (ht : t < h.length) : endM h (.ok (.rt (.d x)) (h.set t o ++ j)) = .ok (.d x) (h.set t o) := by
  show outM h (.d x) (h.set t o ++ j) = _
  unfold outM
  rw [if_pos (fineB_iff.mpr (fine_set ho ht))]
  show R.ok (W.d x) ((h.set t o ++ j).take h.length) = _
  rw [show (h.set t o ++ j).take h.length = h.set t o from by rw [← List.length_set (i := t) (a := o)]; simp]
theorem end_set0 {h : AH} {t : Nat} {o : AO} {x : PyData} (ho : o.clos h.length) (ht : t < h.length) : endM h (.ok (.rt (.d x)) (h.set t o)) = .ok (.d x) (h.set t o) := by
  have := end_set (j := []) (x := x) ho ht
  rwa [List.append_nil] at this
theorem clos_data {n : Nat} {ds : List PyData} : (AO.lst (ds.map .d)).clos n := fun w hw => by
  obtain ⟨d, _, rfl⟩ := List.mem_map.mp hw
  trivial
/-! ### comprehensions whose items change nothing -/
theorem lc_go {id : Nat} {t : Tg} {tt : EnvW → M Bool} {el : ME} {env : EnvW} {h : AH} {f : W → Option W} (hid : id = h.length) : ∀ (ws : List W) (acc : List W),
    (∀ w ∈ ws, ∀ acc : List W, ∃ e1, tgM t w env = some e1 ∧ (match f w with
      | some y => tt e1 (h ++ [.lst acc]) = .ok true (h ++ [.lst acc]) ∧ el e1 (h ++ [.lst acc]) = .ok y (h ++ [.lst acc])
      | none => tt e1 (h ++ [.lst acc]) = .ok false (h ++ [.lst acc]))) → acc.length + ws.length ≤ sizeLine →
    cLoop id t tt el ws env (h ++ [.lst acc]) = .ok () (h ++ [.lst (acc ++ ws.filterMap f)])
  | [], acc, _, _ => by simp [cLoop, mpure]
  | w :: ws, acc, hw, hl => by
    obtain ⟨e1, h1, h2⟩ := hw w (List.mem_cons_self ..) acc
    have ih := fun a hl => lc_go hid ws a (fun x hx => hw x (List.mem_cons_of_mem _ hx)) hl
    unfold cLoop
    rw [h1]
    simp only [mbind_ap]
    cases q : f w with
    | none =>
      rw [q] at h2
      simp only at h2
      rw [show noEx (tt e1) (h ++ [.lst acc]) = .ok false (h ++ [.lst acc]) from by unfold noEx; rw [h2]]
      simp only [mb_ok, Bool.false_eq_true, if_false]
      rw [ih acc (by simp at hl; omega), List.filterMap_cons, q]
    | some y =>
      rw [q] at h2
      simp only at h2
      rw [show noEx (tt e1) (h ++ [.lst acc]) = .ok true (h ++ [.lst acc]) from by unfold noEx; rw [h2.1]]
      simp only [mb_ok, if_true, mbind_ap]
      rw [show noEx (el e1) (h ++ [.lst acc]) = .ok y (h ++ [.lst acc]) from by unfold noEx; rw [h2.2]]
      simp only [mb_ok, mbind_ap]
      have e2 : pushM id y (h ++ [.lst acc]) = .ok () (h ++ [.lst (acc ++ [y])]) := by
        unfold pushM
        subst hid
        rw [show (h ++ [AO.lst acc])[h.length]? = some (.lst acc) from by simp]
        simp only
        rw [if_pos (by simp at hl; omega)]
        simp
      rw [e2]
      simp only [mb_ok]
      rw [ih (acc ++ [y]) (by simp at hl ⊢; omega), List.filterMap_cons, q]
      simp
/-- a comprehension over a source that is not locked -/
theorem lc_ap {t : Tg} {mi : EnvW → M Src} {tt : EnvW → M Bool} {el : ME} {env : EnvW} {h : AH} {f : W → Option W} {ws : List W} (hs : mi env h = .ok (ws, none) h) (hl : ws.length ≤ sizeLine)
    (hw : ∀ w ∈ ws, ∀ acc : List W, ∃ e1, tgM t w (wipeW env t.slots) = some e1 ∧ (match f w with
      | some y => tt e1 (h ++ [.lst acc]) = .ok true (h ++ [.lst acc]) ∧ el e1 (h ++ [.lst acc]) = .ok y (h ++ [.lst acc])
      | none => tt e1 (h ++ [.lst acc]) = .ok false (h ++ [.lst acc]))) :
    eLC t mi tt el env h = .ok (.r h.length) (h ++ [.lst (ws.filterMap f)]) := by
  rw [eLC_ap, hs, mb_ok]
  show mb (cLoop h.length t tt el ws (wipeW env t.slots) (h ++ [.lst []])) (kRef h.length) = _
  rw [lc_go rfl ws [] hw (by simpa using hl)]
  simp
/-- a comprehension over a list that is locked -/
theorem lc_lock {t : Tg} {mi : EnvW → M Src} {tt : EnvW → M Bool} {el : ME} {env : EnvW} {h : AH} {f : W → Option W} {ws : List W} {i : Nat} (hs : mi env h = .ok (ws, some i) h) (hi : h[i]? = some (.lst ws)) (hl : ws.length ≤ sizeLine)
    (hw : ∀ w ∈ ws, ∀ acc : List W, ∃ e1, tgM t w (wipeW env t.slots) = some e1 ∧ (match f w with
      | some y => tt e1 (h.set i .dead ++ [.lst acc]) = .ok true (h.set i .dead ++ [.lst acc]) ∧ el e1 (h.set i .dead ++ [.lst acc]) = .ok y (h.set i .dead ++ [.lst acc])
      | none => tt e1 (h.set i .dead ++ [.lst acc]) = .ok false (h.set i .dead ++ [.lst acc]))) :
    eLC t mi tt el env h = .ok (.r h.length) (h ++ [.lst (ws.filterMap f)]) := by
  rw [eLC_ap, hs, mb_ok]
  unfold kLC over
  simp only
  rw [lc_go rfl ws [] hw (by simpa using hl)]
  simp only [mb_ok, kRef_ap, List.length_set, List.nil_append]
  have hil : i < h.length := (List.getElem?_eq_some_iff.mp hi).1
  rw [List.set_append_left _ _ (by rw [List.length_set]; exact hil), List.set_set]
  congr 2
  exact List.set_getElem?_self hi
where
  List.set_getElem?_self {h : AH} {i : Nat} {o : AO} (hi : h[i]? = some o) : h.set i o = h := by
    obtain ⟨hl, e⟩ := List.getElem?_eq_some_iff.mp hi
    rw [← e]; simp
end Ev
set_option Elab.async false
set_option linter.all false
set_option maxRecDepth 100000
set_option maxHeartbeats 4000000
/-! E19: loops by the front. -/
namespace Ev
open PySem PySem.Spec PyProof.Rows L2 He
def kLoop (t : Tg) (b : MS) (ws : List W) (fl : Fl) : M Fl := match fl with
  | .nx e => floop t b ws e
  | .ct e => floop t b ws e
  | .bk e => mpure (.nx e)
  | .rt w => mpure (.rt w)
section
variable {t : Tg} {b : MS} {ws : List W} {w : W} {env e : EnvW} {h : AH} {i : Nat}
@[simp] theorem floop_nil : floop t b [] env h = .ok (.nx env) h := rfl
@[simp] theorem floop_n : floop (.n i) b (w :: ws) env h = mb (b (env.set i (some w)) h) (kLoop (.n i) b ws) := rfl
theorem floop_c {e1 : EnvW} (q : tgM t w env = some e1) : floop t b (w :: ws) env h = mb (b e1 h) (kLoop t b ws) := by
  show (match tgM t w env with
    | none => mno
    | some env1 => mbind (b env1) (kLoop t b ws)) h = _
  rw [q]; rfl
@[simp ↓] theorem kLoop_nx : kLoop t b ws (.nx e) h = floop t b ws e h := rfl
@[simp ↓] theorem kLoop_ct : kLoop t b ws (.ct e) h = floop t b ws e h := rfl
@[simp ↓] theorem kLoop_bk : kLoop t b ws (.bk e) h = .ok (.nx e) h := rfl
@[simp ↓] theorem kLoop_rt : kLoop t b ws (.rt w) h = .ok (.rt w) h := rfl
end
/-- a list item given back, old or changed in place -/
theorem end_ri {h j : AH} {i : Nat} {o : AO} (hi : i < h.length) (ho : o.clos h.length) : endM h (.ok (.rt (.r i)) (h.set i o ++ j)) = .ok (.r i) (h.set i o) := by
  show outM h (.r i) (h.set i o ++ j) = _
  unfold outM
  rw [if_pos (fineB_iff.mpr (fine_set ho hi))]
  have e : frzW h.length (h.set i o ++ j) (.r i) = some (.r i) := if_pos hi
  rw [e]
  show R.ok _ ((h.set i o ++ j).take h.length) = _
  rw [show (h.set i o ++ j).take h.length = h.set i o from by rw [← List.length_set (i := i) (a := o)]; simp]
theorem end_r0 {h j : AH} {i : Nat} (hi : i < h.length) : endM h (.ok (.rt (.r i)) (h ++ j)) = .ok (.r i) h := by
  show outM h (.r i) (h ++ j) = _
  unfold outM
  rw [if_pos (fineB_iff.mpr fine_app)]
  have e : frzW h.length (h ++ j) (.r i) = some (.r i) := if_pos hi
  rw [e]
  show R.ok _ ((h ++ j).take h.length) = _
  rw [take_app]
theorem end_r00 {h : AH} {i : Nat} (hi : i < h.length) : endM h (.ok (.rt (.r i)) h) = .ok (.r i) h := by
  have := end_r0 (j := []) hi
  rwa [List.append_nil] at this
end Ev
set_option Elab.async false
set_option linter.all false
set_option maxRecDepth 100000
set_option maxHeartbeats 400000
namespace Ev
open PySem PySem.Spec PyProof.Rows L2 He
theorem allD_map (ds : List PyData) : allD (ds.map .d) = some ds := by
  induction ds with
  | nil => rfl
  | cons d ds ih => simp [allD, ih]
theorem boolsD_map (bs : List Bool) : boolsD (bs.map PyData.bool) = some bs := by
  induction bs with
  | nil => rfl
  | cons d ds ih => simp [boolsD, ih]
theorem intsD_map (bs : List Int) : intsD (bs.map PyData.int) = some bs := by
  induction bs with
  | nil => rfl
  | cons d ds ih => simp [intsD, ih]
theorem strsD_map (bs : List Str) : strsD (bs.map PyData.str) = some bs := by
  induction bs with
  | nil => rfl
  | cons d ds ih => simp [strsD, ih]
theorem peek_last {h : AH} {ds : List PyData} : peek (h ++ [.lst (ds.map .d)]) (.r h.length) = some (.list ds) := by
  simp [peek, allD_map]
theorem listD_last {h : AH} {ds : List PyData} : listD (h ++ [.lst (ds.map .d)]) (.r h.length) = some ds := by
  simp [listD, peek_last]
theorem filterMap_some {α β : Type} (f : α → β) (l : List α) : l.filterMap (fun x => some (f x)) = l.map f := by
  induction l with
  | nil => rfl
  | cons a l ih => simp
theorem boolsMap {α : Type} (f : α → Bool) (l : List α) : boolsD (l.map fun x => PyData.bool (f x)) = some (l.map f) := by
  rw [← boolsD_map, List.map_map]; rfl
theorem canAll {xs : List PyData} (h : ∀ y ∈ xs, y.canLay0 = true) : PyData.canLayAll0 xs = true := by
  induction xs with
  | nil => rfl
  | cons x xs ih => simp [PyData.canLayAll0, h x (by simp), ih fun y hy => h y (by simp [hy])]
theorem depAll {n : Nat} {xs : List PyData} (h : ∀ y ∈ xs, y.depth ≤ n) : PyData.depthAll xs ≤ n := by
  induction xs with
  | nil => simp [PyData.depthAll]
  | cons x xs ih =>
    have h1 := h x (by simp)
    have h2 := ih fun y hy => h y (by simp [hy])
    simp only [PyData.depthAll]; omega
theorem sh_int {i : Int} : SeqAt.shaped (.int i) = true := by simp [SeqAt.shaped, PyData.canLay0, PyData.depth]
theorem sh_bool {i : Bool} : SeqAt.shaped (.bool i) = true := by simp [SeqAt.shaped, PyData.canLay0, PyData.depth]
theorem sh_q : SeqAt.shaped (.str "?") = true := by decide +kernel
theorem eqv_ii {i j : Int} : PyData.eqv (.int i) (.int j) = decide (i = j) := by simp [PyData.eqv]; exact Bool.beq_eq_decide_eq i j
theorem eqv_bb {i j : Bool} : PyData.eqv (.bool i) (.bool j) = (i == j) := by simp [PyData.eqv]
theorem eqv_ss {i j : Str} : PyData.eqv (.str i) (.str j) = (i == j) := by simp [PyData.eqv]
theorem at0 {α : Type} {a : α} {r : List α} : atI (a :: r) 0 = some a := by simp [atI, ixN]
theorem at1 {α : Type} {a b : α} {r : List α} : atI (a :: b :: r) 1 = some b := by
  have q : (1 : Int) < ((a :: b :: r).length : Int) := by simp; omega
  unfold atI ixN; rw [if_pos (by decide), if_pos q]; rfl
theorem cut1 {α : Type} {a : α} {r : List α} : cutL (a :: r) (some 1) none = r := by
  have e : HT.sIx (a :: r).length 0 (some 1) = 1 := by
    rw [show (1 : Int) = ((1 : Nat) : Int) from rfl, HT.sIx_nat]; simp
  unfold cutL
  rw [e, HT.sIx_none]
  simp
theorem eqv_nil {ds : List PyData} : PyData.eqv (.list ds) (.list []) = ds.isEmpty := by
  cases ds <;> simp [PyData.eqv, PyData.eqvAll]
def LI (is : List Int) : AO := .lst ((is.map PyData.int).map .d)
theorem set_same {h : AH} {i : Nat} {o : AO} (hi : h[i]? = some o) : h.set i o = h := by
  obtain ⟨hl, e⟩ := List.getElem?_eq_some_iff.mp hi
  rw [← e]; simp
theorem peek_LI {h : AH} {i : Nat} {is : List Int} (hi : h[i]? = some (LI is)) : peek h (.r i) = some (.list (is.map PyData.int)) := by
  simp only [peek, hi, LI, allD_map]; rfl
theorem any_int {i : Int} : ∀ is : List Int, ((is.map PyData.int).any fun y => PyData.eqv y (.int i)) = is.contains i
  | [] => rfl
  | j :: is => by
    have ih := any_int (i := i) is
    rw [List.map_cons, List.any_cons, ih, eqv_ii, List.contains_cons]
    congr 1
    rw [Bool.beq_eq_decide_eq]
    exact decide_eq_decide.mpr ⟨fun e => e.symm, fun e => e.symm⟩
theorem flat_ints (is : List Int) : (is.map PyData.int).all flatD = true := by
  rw [List.all_map]; exact List.all_eq_true.mpr fun _ _ => rfl
theorem in_LI {h : AH} {i : Nat} {is : List Int} {j : Int} {neg : Bool} (hi : h[i]? = some (LI is)) : cIn neg (.d (.int j)) (.r i) h = .ok (.d (.bool (if neg then !is.contains j else is.contains j))) h := by
  unfold cIn
  simp only [peek_LI hi]
  show (if (flatD (.int j) && (is.map PyData.int).all flatD) = true then R.ok (wB (if neg then !(is.map PyData.int).any fun y => PyData.eqv y (.int j) else (is.map PyData.int).any fun y => PyData.eqv y (.int j))) h else R.no) = _
  rw [if_pos (by rw [flat_ints]; rfl), any_int]; rfl
theorem clos_LI {n : Nat} {is : List Int} : (LI is).clos n := clos_data
def dI (is : List Int) : PyData := .list (is.map PyData.int)
theorem sh_ints {is : List Int} : SeqAt.shaped (dI is) = true := by
  have q1 : ∀ y ∈ is.map PyData.int, y.canLay0 = true := fun y hy => by
    obtain ⟨c, hc, rfl⟩ := List.mem_map.mp hy; rfl
  have q2 : ∀ y ∈ is.map PyData.int, y.depth ≤ 0 := fun y hy => by
    obtain ⟨c, hc, rfl⟩ := List.mem_map.mp hy
    simp [PyData.depth]
  have := depAll q2
  unfold SeqAt.shaped dI
  simp only [PyData.canLay0, canAll q1, PyData.depth, Bool.true_and]
  exact decide_eq_true (by omega)
theorem eqv_dI {is : List Int} : PyData.eqv (dI is) (dI is) = true := SeqAt.eqv_refl _ (by
  have := sh_ints (is := is)
  unfold SeqAt.shaped at this
  exact (Bool.and_eq_true_iff.mp this).1)
theorem eqv_dI_nil {is : List Int} : PyData.eqv (dI is) (.list []) = is.isEmpty := by
  unfold dI; rw [eqv_nil]; cases is <;> rfl
theorem sh_nil : SeqAt.shaped (.list []) = true := by decide +kernel
theorem bAdd_l {H : AH} {i j : Nat} {a b : List W} (h1 : H[i]? = some (.lst a)) (h2 : H[j]? = some (.lst b)) (hl : a.length + b.length ≤ sizeLine) : bAdd (.r i) (.r j) H = .ok (.r H.length) (H ++ [.lst (a ++ b)]) := by
  unfold bAdd; simp only [h1, h2, if_pos hl]
theorem kLst_ap {ws : List W} {h : AH} (hl : ws.length ≤ 1000) : kLst ws h = .ok (.r h.length) (h ++ [.lst ws]) := by
  unfold kLst; rw [if_pos (Nat.le_trans hl (by decide))]
theorem at_n {h l : AH} {i : Nat} : (h ++ l)[h.length + i]? = l[i]? := by
  rw [List.getElem?_append_right (by omega)]; simp
theorem at_l {h l : AH} : (h ++ l)[h.length]? = l[0]? := by
  rw [List.getElem?_append_right (Nat.le_refl _)]; simp
theorem at_l1 {h l : AH} : (h ++ l)[h.length + 1]? = l[1]? := by
  rw [List.getElem?_append_right (by omega)]; simp
theorem cpl4 {h : AH} {t : Nat} {o : AO} {l : AH} (ht : t < h.length) : (h ++ l).set t o = h.set t o ++ l := by
  rw [List.set_append_left _ _ ht]
theorem atI_get {α : Type} {xs : List α} {i : Int} (h0 : 0 ≤ i) (h1 : i < xs.length) : atI xs i = xs[i.toNat]? := by
  unfold atI ixN; rw [if_pos h0, if_pos h1]; rfl
theorem getD_int {ts : List Int} {p : Nat} (h : p < ts.length) : ((ts.map PyData.int).map W.d)[p]? = some (.d (.int (ts.getD p 0))) := by
  simp [h]
theorem ix_LI {h : AH} {t : Nat} {ts : List Int} {i : Int} (ht : h[t]? = some (LI ts)) (h0 : 0 ≤ i) (h1 : i < ts.length) : ixM (.r t) (.d (.int i)) h = .ok (.d (.int (ts.getD i.toNat 0))) h := by
  have e : atI ((ts.map PyData.int).map W.d) i = some (.d (.int (ts.getD i.toNat 0))) := by
    rw [atI_get h0 (by simpa using h1), getD_int (by omega)]
  unfold ixM
  have ht' : h[t]? = some (.lst ((ts.map PyData.int).map W.d)) := ht
  simp only [ht', e]
theorem ix_dI {h : AH} {ns : List Int} {i : Int} (h0 : 0 ≤ i) (h1 : i < ns.length) : ixM (.d (dI ns)) (.d (.int i)) h = .ok (.d (.int (ns.getD i.toNat 0))) h := by
  have e : atI (ns.map PyData.int) i = some (.int (ns.getD i.toNat 0)) := by
    rw [atI_get h0 (by simpa using h1)]
    have : i.toNat < ns.length := by omega
    simp [this]
  show (match atI (ns.map PyData.int) i with
    | some d => R.ok (W.d d) h
    | none => R.no) = _
  rw [e]
theorem set_LI {h : AH} {t : Nat} {ts : List Int} {i v : Int} (ht : h[t]? = some (LI ts)) (h0 : 0 ≤ i) (h1 : i < ts.length) : setIxM (.r t) (.d (.int i)) (.d (.int v)) h = .ok () (h.set t (LI (ts.set i.toNat v))) := by
  unfold setIxM
  have ht' : h[t]? = some (.lst ((ts.map PyData.int).map W.d)) := ht
  have e : ixN ((ts.map PyData.int).map W.d).length i = some i.toNat := by
    unfold ixN; rw [if_pos h0, if_pos (by simpa using h1)]
  simp only [ht', e]
  congr 2
  simp [LI, List.map_set]
structure Tw (ns : List Int) (c : Int) (ts : List Int) : Prop where
  len : ts.length = ns.length + 1
  lo : 0 ≤ ts.getD 0 0
  hi : ts.getD 0 0 ≤ c
theorem Tw.up {ns ts : List Int} {c c' : Int} (T : Tw ns c ts) (h : c ≤ c') : Tw ns c' ts := ⟨T.len, T.lo, by have := T.hi; omega⟩
end Ev
set_option Elab.async false
set_option linter.all false
set_option maxRecDepth 100000
set_option maxHeartbeats 0
namespace Ev
open PySem PySem.Spec PyProof.Rows L2 He
abbrev PROG : Program := PySem.Challenge.pw_toldnames_k21_whole_least_told
abbrev ROW : PySem.W.OpenLaw := PySem.Challenge.rw_toldnames_k21_whole_least_told
def topS (i : Nat) : Stmt := PROG.main.body.getD i (.Pass ⟨0, 0, 0, 0⟩)
def topM (i j : Nat) : Stmt := match topS i with
  | .ClassDef _ _ _ b _ _ _ _ _ _ _ => b.getD j (.Pass ⟨0, 0, 0, 0⟩)
  | _ => .Pass ⟨0, 0, 0, 0⟩
def TT : Tb where
  defs := (["_law_draw", "_law_fill", "_law_is_name", "_law_is_tree", "_law_names", "_law_opened", "_law_pair", "_law_pick", "_law_term", "_law_town", "add_names", "alike", "count_parts", "covers", "fit_to", "fits", "is_int", "is_name", "is_number", "is_term"] : List Str) ++ (["is_tree", "is_word", "law", "look_term"] : List Str)
  clss := ["Store"]
  excs := ["ToldError", "BadTerm", "BadNumber", "NoName", "Clash"]
  cons := [("LETTERS", .str "abcdefghijklmnopqrstuvwxyz"), ("MOST_PARTS", .int 300)]
  free := ["LookupError", "all", "any", "bool", "int", "isinstance", "len", "list", "max", "min", "range", "str", "tuple", "zip"]
  flds := ["found"]
  meths := [("Store", "__len__"), ("Store", "make"), ("Store", "look"), ("Store", "head"), ("Store", "holds"), ("Store", "bound"), ("Store", "merge"), ("Store", "joined"), ("Store", "tell"), ("Store", "full"), ("Store", "value"), ("Store", "same"), ("Store", "known"), ("Store", "twin")]
  sups := [("ToldError", ["ToldError", "LookupError"]), ("BadTerm", ["BadTerm", "ToldError", "LookupError"]), ("BadNumber", ["BadNumber", "ToldError", "LookupError"]), ("NoName", ["NoName", "ToldError", "LookupError"]), ("Clash", ["Clash", "ToldError", "LookupError"])]
  xt := []
  dnames := ["ground"]
  dfls := [(("Store", "__init__"), 1, [.int 0])]
def e_is_number : Ent := { id := ("", "is_number"), st := topS 10, N := ["thing", "least", "most"], ps := ["thing", "least", "most"], name := "is_number", qual := "is_number" }
theorem g_is_number : e_is_number.good TT := ⟨⟨rfl, rfl, rfl, by decide +kernel, rfl, by decide +kernel, by decide +kernel⟩, fun _ K a fd F => FunD.bindsN F fun _ _ _ _ _ _ us hl => match us, hl with | [_, _, _], _ => rfl, no_look (by decide +kernel), no_look (by decide +kernel)⟩
def e_is_int : Ent := { id := ("", "is_int"), st := topS 11, N := ["thing"], ps := ["thing"], name := "is_int", qual := "is_int" }
theorem g_is_int : e_is_int.good TT := ⟨⟨rfl, rfl, rfl, by decide +kernel, rfl, by decide +kernel, by decide +kernel⟩, fun _ K a fd F => FunD.bindsN F fun _ _ _ _ _ _ us hl => match us, hl with | [_], _ => rfl, no_look (by decide +kernel), no_look (by decide +kernel)⟩
def e_is_word : Ent := { id := ("", "is_word"), st := topS 12, N := ["thing", "sign"], ps := ["thing"], name := "is_word", qual := "is_word" }
theorem g_is_word : e_is_word.good TT := ⟨⟨rfl, rfl, rfl, by decide +kernel, rfl, by decide +kernel, by decide +kernel⟩, fun _ K a fd F => FunD.bindsN F fun _ _ _ _ _ _ us hl => match us, hl with | [_], _ => rfl, no_look (by decide +kernel), no_look (by decide +kernel)⟩
def e_is_name : Ent := { id := ("", "is_name"), st := topS 13, N := ["thing"], ps := ["thing"], name := "is_name", qual := "is_name" }
theorem g_is_name : e_is_name.good TT := ⟨⟨rfl, rfl, rfl, by decide +kernel, rfl, by decide +kernel, by decide +kernel⟩, fun _ K a fd F => FunD.bindsN F fun _ _ _ _ _ _ us hl => match us, hl with | [_], _ => rfl, no_look (by decide +kernel), no_look (by decide +kernel)⟩
def e_count_parts : Ent := { id := ("", "count_parts"), st := topS 14, N := ["thing", "is_leaf", "found", "one"], ps := ["thing", "is_leaf"], name := "count_parts", qual := "count_parts" }
theorem g_count_parts : e_count_parts.good TT := ⟨⟨rfl, rfl, rfl, by decide +kernel, rfl, by decide +kernel, by decide +kernel⟩, fun _ K a fd F => FunD.bindsN F fun _ _ _ _ _ _ us hl => match us, hl with | [_, _], _ => rfl, no_look (by decide +kernel), no_look (by decide +kernel)⟩
def e_is_term : Ent := { id := ("", "is_term"), st := topS 15, N := ["thing"], ps := ["thing"], name := "is_term", qual := "is_term" }
theorem g_is_term : e_is_term.good TT := ⟨⟨rfl, rfl, rfl, by decide +kernel, rfl, by decide +kernel, by decide +kernel⟩, fun _ K a fd F => FunD.bindsN F fun _ _ _ _ _ _ us hl => match us, hl with | [_], _ => rfl, no_look (by decide +kernel), no_look (by decide +kernel)⟩
def e_look_term : Ent := { id := ("", "look_term"), st := topS 16, N := ["term"], ps := ["term"], name := "look_term", qual := "look_term" }
theorem g_look_term : e_look_term.good TT := ⟨⟨rfl, rfl, rfl, by decide +kernel, rfl, by decide +kernel, by decide +kernel⟩, fun _ K a fd F => FunD.bindsN F fun _ _ _ _ _ _ us hl => match us, hl with | [_], _ => rfl, no_look (by decide +kernel), no_look (by decide +kernel)⟩
def e_is_tree : Ent := { id := ("", "is_tree"), st := topS 17, N := ["term"], ps := ["term"], name := "is_tree", qual := "is_tree" }
theorem g_is_tree : e_is_tree.good TT := ⟨⟨rfl, rfl, rfl, by decide +kernel, rfl, by decide +kernel, by decide +kernel⟩, fun _ K a fd F => FunD.bindsN F fun _ _ _ _ _ _ us hl => match us, hl with | [_], _ => rfl, no_look (by decide +kernel), no_look (by decide +kernel)⟩
def e_add_names : Ent := { id := ("", "add_names"), st := topS 18, N := ["term", "found", "one"], ps := ["term", "found"], name := "add_names", qual := "add_names" }
theorem g_add_names : e_add_names.good TT := ⟨⟨rfl, rfl, rfl, by decide +kernel, rfl, by decide +kernel, by decide +kernel⟩, fun _ K a fd F => FunD.bindsN F fun _ _ _ _ _ _ us hl => match us, hl with | [_, _], _ => rfl, no_look (by decide +kernel), no_look (by decide +kernel)⟩
def e_Store___init : Ent := { id := ("Store", "__init__"), st := topM 20 0, N := ["self", "many", "k"], ps := ["self", "many"], name := "__init__", qual := "Store.__init__", dfl := [.int 0], keep := true }
theorem g_Store___init : e_Store___init.good TT := ⟨⟨rfl, rfl, rfl, by decide +kernel, rfl, by decide +kernel, by decide +kernel⟩, fun _ K a fd F => by
  obtain ⟨ds, h1, h2⟩ := FunD.binds1 (ps := e_Store___init.ps) F 2 1 (fun z => nomatch z) rfl fun T kV doc pm an cdv ct us its hu hi => by
    match us, its, hu, hi with
    | [u0, u1], [v0], _, _ => exact ⟨_, rfl, rfl⟩
  cases h1
  exact h2, fun n ds h => by
  cases (show some (1, [.int 0]) = some (n, ds) from h)
  refine ⟨rfl, fun K a fd F => ?_⟩
  obtain ⟨us, h1, h2⟩ := FunD.binds1 (ps := e_Store___init.ps) F 1 0 (fun z => nomatch z) rfl fun T kV doc pm an cdv ct us its hu hi => by
    match us, its, hu, hi with
    | [u0], [v0], _, _ => exact ⟨_, rfl, rfl⟩
  exact ⟨_, us, h1, fun c => .cons (.int 0) (.nil), h2⟩, no_look (by decide +kernel)⟩
def e_Store___len : Ent := { id := ("Store", "__len__"), st := topM 20 1, N := ["self"], ps := ["self"], name := "__len__", qual := "Store.__len__" }
theorem g_Store___len : e_Store___len.good TT := ⟨⟨rfl, rfl, rfl, by decide +kernel, rfl, by decide +kernel, by decide +kernel⟩, fun _ K a fd F => FunD.bindsN F fun _ _ _ _ _ _ us hl => match us, hl with | [_], _ => rfl, no_look (by decide +kernel), no_look (by decide +kernel)⟩
def e_Store_make : Ent := { id := ("Store", "make"), st := topM 20 2, N := ["self"], ps := ["self"], name := "make", qual := "Store.make" }
theorem g_Store_make : e_Store_make.good TT := ⟨⟨rfl, rfl, rfl, by decide +kernel, rfl, by decide +kernel, by decide +kernel⟩, fun _ K a fd F => FunD.bindsN F fun _ _ _ _ _ _ us hl => match us, hl with | [_], _ => rfl, no_look (by decide +kernel), no_look (by decide +kernel)⟩
def e_Store_look : Ent := { id := ("Store", "look"), st := topM 20 3, N := ["self", "term", "number"], ps := ["self", "term"], name := "look", qual := "Store.look" }
theorem g_Store_look : e_Store_look.good TT := ⟨⟨rfl, rfl, rfl, by decide +kernel, rfl, by decide +kernel, by decide +kernel⟩, fun _ K a fd F => FunD.bindsN F fun _ _ _ _ _ _ us hl => match us, hl with | [_, _], _ => rfl, no_look (by decide +kernel), no_look (by decide +kernel)⟩
def e_Store_head : Ent := { id := ("Store", "head"), st := topM 20 4, N := ["self", "term"], ps := ["self", "term"], name := "head", qual := "Store.head" }
theorem g_Store_head : e_Store_head.good TT := ⟨⟨rfl, rfl, rfl, by decide +kernel, rfl, by decide +kernel, by decide +kernel⟩, fun _ K a fd F => FunD.bindsN F fun _ _ _ _ _ _ us hl => match us, hl with | [_, _], _ => rfl, no_look (by decide +kernel), no_look (by decide +kernel)⟩
def e_Store_holds : Ent := { id := ("Store", "holds"), st := topM 20 5, N := ["self", "term", "name", "now", "one"], ps := ["self", "term", "name"], name := "holds", qual := "Store.holds" }
theorem g_Store_holds : e_Store_holds.good TT := ⟨⟨rfl, rfl, rfl, by decide +kernel, rfl, by decide +kernel, by decide +kernel⟩, fun _ K a fd F => FunD.bindsN F fun _ _ _ _ _ _ us hl => match us, hl with | [_, _, _], _ => rfl, no_look (by decide +kernel), no_look (by decide +kernel)⟩
def e_Store_bound : Ent := { id := ("Store", "bound"), st := topM 20 6, N := ["self", "name", "term", "low", "high"], ps := ["self", "name", "term"], name := "bound", qual := "Store.bound" }
theorem g_Store_bound : e_Store_bound.good TT := ⟨⟨rfl, rfl, rfl, by decide +kernel, rfl, by decide +kernel, by decide +kernel⟩, fun _ K a fd F => FunD.bindsN F fun _ _ _ _ _ _ us hl => match us, hl with | [_, _, _], _ => rfl, no_look (by decide +kernel), no_look (by decide +kernel)⟩
def e_Store_merge : Ent := { id := ("Store", "merge"), st := topM 20 7, N := ["self", "one", "other", "left", "good"], ps := ["self", "one", "other"], name := "merge", qual := "Store.merge" }
theorem g_Store_merge : e_Store_merge.good TT := ⟨⟨rfl, rfl, rfl, by decide +kernel, rfl, by decide +kernel, by decide +kernel⟩, fun _ K a fd F => FunD.bindsN F fun _ _ _ _ _ _ us hl => match us, hl with | [_, _, _], _ => rfl, no_look (by decide +kernel), no_look (by decide +kernel)⟩
def e_Store_joined : Ent := { id := ("Store", "joined"), st := topM 20 8, N := ["self", "one", "other", "kept"], ps := ["self", "one", "other"], name := "joined", qual := "Store.joined" }
theorem g_Store_joined : e_Store_joined.good TT := ⟨⟨rfl, rfl, rfl, by decide +kernel, rfl, by decide +kernel, by decide +kernel⟩, fun _ K a fd F => FunD.bindsN F fun _ _ _ _ _ _ us hl => match us, hl with | [_, _, _], _ => rfl, no_look (by decide +kernel), no_look (by decide +kernel)⟩
def e_Store_tell : Ent := { id := ("Store", "tell"), st := topM 20 9, N := ["self", "one", "other"], ps := ["self", "one", "other"], name := "tell", qual := "Store.tell" }
theorem g_Store_tell : e_Store_tell.good TT := ⟨⟨rfl, rfl, rfl, by decide +kernel, rfl, by decide +kernel, by decide +kernel⟩, fun _ K a fd F => FunD.bindsN F fun _ _ _ _ _ _ us hl => match us, hl with | [_, _, _], _ => rfl, no_look (by decide +kernel), no_look (by decide +kernel)⟩
def e_Store_full : Ent := { id := ("Store", "full"), st := topM 20 10, N := ["self", "term", "now", "one"], ps := ["self", "term"], name := "full", qual := "Store.full" }
theorem g_Store_full : e_Store_full.good TT := ⟨⟨rfl, rfl, rfl, by decide +kernel, rfl, by decide +kernel, by decide +kernel⟩, fun _ K a fd F => FunD.bindsN F fun _ _ _ _ _ _ us hl => match us, hl with | [_, _], _ => rfl, no_look (by decide +kernel), no_look (by decide +kernel)⟩
def e_Store_value : Ent := { id := ("Store", "value"), st := topM 20 11, N := ["self", "term"], ps := ["self", "term"], name := "value", qual := "Store.value" }
theorem g_Store_value : e_Store_value.good TT := ⟨⟨rfl, rfl, rfl, by decide +kernel, rfl, by decide +kernel, by decide +kernel⟩, fun _ K a fd F => FunD.bindsN F fun _ _ _ _ _ _ us hl => match us, hl with | [_, _], _ => rfl, no_look (by decide +kernel), no_look (by decide +kernel)⟩
def e_Store_same : Ent := { id := ("Store", "same"), st := topM 20 12, N := ["self", "one", "other"], ps := ["self", "one", "other"], name := "same", qual := "Store.same" }
theorem g_Store_same : e_Store_same.good TT := ⟨⟨rfl, rfl, rfl, by decide +kernel, rfl, by decide +kernel, by decide +kernel⟩, fun _ K a fd F => FunD.bindsN F fun _ _ _ _ _ _ us hl => match us, hl with | [_, _, _], _ => rfl, no_look (by decide +kernel), no_look (by decide +kernel)⟩
def e_Store_known : Ent := { id := ("Store", "known"), st := topM 20 13, N := ["self", "k"], ps := ["self"], name := "known", qual := "Store.known" }
theorem g_Store_known : e_Store_known.good TT := ⟨⟨rfl, rfl, rfl, by decide +kernel, rfl, by decide +kernel, by decide +kernel⟩, fun _ K a fd F => FunD.bindsN F fun _ _ _ _ _ _ us hl => match us, hl with | [_], _ => rfl, no_look (by decide +kernel), no_look (by decide +kernel)⟩
def e_Store_twin : Ent := { id := ("Store", "twin"), st := topM 20 14, N := ["self", "made"], ps := ["self"], name := "twin", qual := "Store.twin", keep := true }
theorem g_Store_twin : e_Store_twin.good TT := ⟨⟨rfl, rfl, rfl, by decide +kernel, rfl, by decide +kernel, by decide +kernel⟩, fun _ K a fd F => FunD.bindsN F fun _ _ _ _ _ _ us hl => match us, hl with | [_], _ => rfl, no_look (by decide +kernel), no_look (by decide +kernel)⟩
def e_fit_to : Ent := { id := ("", "fit_to"), st := topS 22, N := ["one", "other", "found", "a", "b"], ps := ["one", "other", "found"], name := "fit_to", qual := "fit_to" }
theorem g_fit_to : e_fit_to.good TT := ⟨⟨rfl, rfl, rfl, by decide +kernel, rfl, by decide +kernel, by decide +kernel⟩, fun _ K a fd F => FunD.bindsN F fun _ _ _ _ _ _ us hl => match us, hl with | [_, _, _], _ => rfl, no_look (by decide +kernel), no_look (by decide +kernel)⟩
def e_fits : Ent := { id := ("", "fits"), st := topS 23, N := ["one", "other", "found"], ps := ["one", "other"], name := "fits", qual := "fits" }
theorem g_fits : e_fits.good TT := ⟨⟨rfl, rfl, rfl, by decide +kernel, rfl, by decide +kernel, by decide +kernel⟩, fun _ K a fd F => FunD.bindsN F fun _ _ _ _ _ _ us hl => match us, hl with | [_, _], _ => rfl, no_look (by decide +kernel), no_look (by decide +kernel)⟩
def e_covers : Ent := { id := ("", "covers"), st := topS 24, N := ["one", "other"], ps := ["one", "other"], name := "covers", qual := "covers" }
theorem g_covers : e_covers.good TT := ⟨⟨rfl, rfl, rfl, by decide +kernel, rfl, by decide +kernel, by decide +kernel⟩, fun _ K a fd F => FunD.bindsN F fun _ _ _ _ _ _ us hl => match us, hl with | [_, _], _ => rfl, no_look (by decide +kernel), no_look (by decide +kernel)⟩
def e_alike : Ent := { id := ("", "alike"), st := topS 25, N := ["one", "other"], ps := ["one", "other"], name := "alike", qual := "alike" }
theorem g_alike : e_alike.good TT := ⟨⟨rfl, rfl, rfl, by decide +kernel, rfl, by decide +kernel, by decide +kernel⟩, fun _ K a fd F => FunD.bindsN F fun _ _ _ _ _ _ us hl => match us, hl with | [_, _], _ => rfl, no_look (by decide +kernel), no_look (by decide +kernel)⟩
def e_law_town : Ent := { id := ("", "_law_town"), st := topS 27, N := ["script"], ps := ["script"], name := "_law_town", qual := "_law_town", keep := true }
theorem g_law_town : e_law_town.good TT := ⟨⟨rfl, rfl, rfl, by decide +kernel, rfl, by decide +kernel, by decide +kernel⟩, fun _ K a fd F => FunD.bindsN F fun _ _ _ _ _ _ us hl => match us, hl with | [_], _ => rfl, no_look (by decide +kernel), no_look (by decide +kernel)⟩
def e_law_draw : Ent := { id := ("", "_law_draw"), st := topS 28, N := ["script", "town", "many", "at", "left", "number"], ps := ["script", "town", "many"], name := "_law_draw", qual := "_law_draw" }
theorem g_law_draw : e_law_draw.good TT := ⟨⟨rfl, rfl, rfl, by decide +kernel, rfl, by decide +kernel, by decide +kernel⟩, fun _ K a fd F => FunD.bindsN F fun _ _ _ _ _ _ us hl => match us, hl with | [_, _, _], _ => rfl, no_look (by decide +kernel), no_look (by decide +kernel)⟩
def e_law_pick : Ent := { id := ("", "_law_pick"), st := topS 29, N := ["script", "town", "some"], ps := ["script", "town", "some"], name := "_law_pick", qual := "_law_pick" }
theorem g_law_pick : e_law_pick.good TT := ⟨⟨rfl, rfl, rfl, by decide +kernel, rfl, by decide +kernel, by decide +kernel⟩, fun _ K a fd F => FunD.bindsN F fun _ _ _ _ _ _ us hl => match us, hl with | [_, _, _], _ => rfl, no_look (by decide +kernel), no_look (by decide +kernel)⟩
def e_law_term : Ent := { id := ("", "_law_term"), st := topS 30, N := ["script", "town", "deep", "many", "way", "found", "k"], ps := ["script", "town", "deep", "many"], name := "_law_term", qual := "_law_term" }
theorem g_law_term : e_law_term.good TT := ⟨⟨rfl, rfl, rfl, by decide +kernel, rfl, by decide +kernel, by decide +kernel⟩, fun _ K a fd F => FunD.bindsN F fun _ _ _ _ _ _ us hl => match us, hl with | [_, _, _, _], _ => rfl, no_look (by decide +kernel), no_look (by decide +kernel)⟩
def e_law_is_name : Ent := { id := ("", "_law_is_name"), st := topS 31, N := ["term"], ps := ["term"], name := "_law_is_name", qual := "_law_is_name" }
theorem g_law_is_name : e_law_is_name.good TT := ⟨⟨rfl, rfl, rfl, by decide +kernel, rfl, by decide +kernel, by decide +kernel⟩, fun _ K a fd F => FunD.bindsN F fun _ _ _ _ _ _ us hl => match us, hl with | [_], _ => rfl, no_look (by decide +kernel), no_look (by decide +kernel)⟩
def e_law_is_tree : Ent := { id := ("", "_law_is_tree"), st := topS 32, N := ["term"], ps := ["term"], name := "_law_is_tree", qual := "_law_is_tree" }
theorem g_law_is_tree : e_law_is_tree.good TT := ⟨⟨rfl, rfl, rfl, by decide +kernel, rfl, by decide +kernel, by decide +kernel⟩, fun _ K a fd F => FunD.bindsN F fun _ _ _ _ _ _ us hl => match us, hl with | [_], _ => rfl, no_look (by decide +kernel), no_look (by decide +kernel)⟩
def e_law_names : Ent := { id := ("", "_law_names"), st := topS 33, N := ["term", "found", "one", "number"], ps := ["term"], name := "_law_names", qual := "_law_names" }
theorem g_law_names : e_law_names.good TT := ⟨⟨rfl, rfl, rfl, by decide +kernel, rfl, by decide +kernel, by decide +kernel⟩, fun _ K a fd F => FunD.bindsN F fun _ _ _ _ _ _ us hl => match us, hl with | [_], _ => rfl, no_look (by decide +kernel), no_look (by decide +kernel)⟩
def e_law_fill : Ent := { id := ("", "_law_fill"), st := topS 34, N := ["term", "table", "one"], ps := ["term", "table"], name := "_law_fill", qual := "_law_fill" }
theorem g_law_fill : e_law_fill.good TT := ⟨⟨rfl, rfl, rfl, by decide +kernel, rfl, by decide +kernel, by decide +kernel⟩, fun _ K a fd F => FunD.bindsN F fun _ _ _ _ _ _ us hl => match us, hl with | [_, _], _ => rfl, no_look (by decide +kernel), no_look (by decide +kernel)⟩
def e_law_pair : Ent := { id := ("", "_law_pair"), st := topS 35, N := ["script", "town", "ground", "term", "whole", "same", "other", "number"], ps := ["script", "town", "ground"], name := "_law_pair", qual := "_law_pair" }
theorem g_law_pair : e_law_pair.good TT := ⟨⟨rfl, rfl, rfl, by decide +kernel, rfl, by decide +kernel, by decide +kernel⟩, fun _ K a fd F => FunD.bindsN F fun _ _ _ _ _ _ us hl => match us, hl with | [_, _, _], _ => rfl, no_look (by decide +kernel), no_look (by decide +kernel)⟩
def e_law_opened : Ent := { id := ("", "_law_opened"), st := topS 36, N := ["script", "town", "whole", "ground", "same", "number", "one"], ps := ["script", "town", "whole", "ground"], name := "_law_opened", qual := "_law_opened" }
theorem g_law_opened : e_law_opened.good TT := ⟨⟨rfl, rfl, rfl, by decide +kernel, rfl, by decide +kernel, by decide +kernel⟩, fun _ K a fd F => FunD.bindsN F fun _ _ _ _ _ _ us hl => match us, hl with | [_, _, _, _], _ => rfl, no_look (by decide +kernel), no_look (by decide +kernel)⟩
def e_law : Ent := { id := ("", "law"), st := topS 37, N := ["script", "town", "ground", "number", "pairs", "stores", "names", "values", "spoken", "one", "other", "k", "store", "name"], ps := ["script"], name := "law", qual := "law" }
theorem g_law : e_law.good TT := ⟨⟨rfl, rfl, rfl, by decide +kernel, rfl, by decide +kernel, by decide +kernel⟩, fun _ K a fd F => FunD.bindsN F fun _ _ _ _ _ _ us hl => match us, hl with | [_], _ => rfl, no_look (by decide +kernel), no_look (by decide +kernel)⟩
def ents : List Ent := [e_is_number, e_is_int, e_is_word, e_is_name, e_count_parts, e_is_term, e_look_term, e_is_tree, e_add_names, e_Store___init, e_Store___len, e_Store_make, e_Store_look, e_Store_head, e_Store_holds, e_Store_bound, e_Store_merge, e_Store_joined, e_Store_tell, e_Store_full, e_Store_value, e_Store_same, e_Store_known, e_Store_twin, e_fit_to, e_fits, e_covers, e_alike, e_law_town, e_law_draw, e_law_pick, e_law_term, e_law_is_name, e_law_is_tree, e_law_names, e_law_fill, e_law_pair, e_law_opened, e_law]
theorem goods : AllG TT ents := ⟨g_is_number, g_is_int, g_is_word, g_is_name, g_count_parts, g_is_term, g_look_term, g_is_tree, g_add_names, g_Store___init, g_Store___len, g_Store_make, g_Store_look, g_Store_head, g_Store_holds, g_Store_bound, g_Store_merge, g_Store_joined, g_Store_tell, g_Store_full, g_Store_value, g_Store_same, g_Store_known, g_Store_twin, g_fit_to, g_fits, g_covers, g_alike, g_law_town, g_law_draw, g_law_pick, g_law_term, g_law_is_name, g_law_is_tree, g_law_names, g_law_fill, g_law_pair, g_law_opened, g_law, trivial⟩
def hd : Hd := ⟨TT, ents, ["Store"], ["ToldError", "BadTerm", "BadNumber", "NoName", "Clash"]⟩
end Ev
set_option Elab.async false
set_option linter.all false
set_option maxRecDepth 100000
set_option maxHeartbeats 0
namespace Ev
open PySem PySem.Spec PyProof.Rows L2 He
noncomputable def call (k : Nat) : FId → List W → M W := callM TT (lookE ents) 40 k
noncomputable def t_is_number (CM : FId → List W → M W) : MS := sBlock [sRet (eAnd (eIsi (mVar 0) "int") (eAnd (eNot (eIsi (mVar 0) "bool")) (eCmp2 .LtE .LtE (mVar 1) (mVar 0) (mVar 2))))]
theorem l_is_number : lookE ents (pl "is_number") = some e_is_number.i := by rfl
theorem b_is_number (CM : FId → List W → M W) : blk (ev TT CM 40) e_is_number.i.sc e_is_number.i.body = t_is_number CM := by rfl
theorem c_is_number {k : Nat} {w0 w1 w2 : W} {h : AH} : call (k + 1) (pl "is_number") [w0, w1, w2] h = endM h (t_is_number (call k) [some w0, some w1, some w2] h) := by
  exact (callM_at l_is_number rfl).trans (by rw [b_is_number]; rfl)
noncomputable def t_is_int (CM : FId → List W → M W) : MS := sBlock [sRet (eAnd (eIsi (mVar 0) "int") (eNot (eIsi (mVar 0) "bool")))]
theorem l_is_int : lookE ents (pl "is_int") = some e_is_int.i := by rfl
theorem b_is_int (CM : FId → List W → M W) : blk (ev TT CM 40) e_is_int.i.sc e_is_int.i.body = t_is_int CM := by rfl
theorem c_is_int {k : Nat} {w0 : W} {h : AH} : call (k + 1) (pl "is_int") [w0] h = endM h (t_is_int (call k) [some w0] h) := by
  exact (callM_at l_is_int rfl).trans (by rw [b_is_int]; rfl)
noncomputable def t_is_word (CM : FId → List W → M W) : MS := sBlock [sRet (eAnd (eIsi (mVar 0) "str") (eAnd (eCmp2 .LtE .LtE (mC (.d (.int 1))) (eLen TT CM (mVar 0)) (mC (.d (.int 8)))) (eFun fAll (aList [eOut (eLC (.n 1) (iVal (mVar 0)) tTrue (eCmp .In (mVar 1) (mC (.d (.str "abcdefghijklmnopqrstuvwxyz")))))]))))]
theorem l_is_word : lookE ents (pl "is_word") = some e_is_word.i := by rfl
theorem b_is_word (CM : FId → List W → M W) : blk (ev TT CM 40) e_is_word.i.sc e_is_word.i.body = t_is_word CM := by rfl
theorem c_is_word {k : Nat} {w0 : W} {h : AH} : call (k + 1) (pl "is_word") [w0] h = endM h (t_is_word (call k) [some w0, none] h) := by
  exact (callM_at l_is_word rfl).trans (by rw [b_is_word]; rfl)
noncomputable def t_is_name (CM : FId → List W → M W) : MS := sBlock [sRet (eAnd (eIsi (mVar 0) "tuple") (eAnd (eCmp .Eq (eLen TT CM (mVar 0)) (mC (.d (.int 2)))) (eAnd (eCmp .Eq (eIx (mVar 0) (mC (.d (.int 0)))) (mC (.d (.str "?")))) (eAnd (eCall CM (pl "is_int") (aList [eIx (mVar 0) (mC (.d (.int 1)))])) (eCmp .GtE (eIx (mVar 0) (mC (.d (.int 1)))) (mC (.d (.int 0))))))))]
theorem l_is_name : lookE ents (pl "is_name") = some e_is_name.i := by rfl
theorem b_is_name (CM : FId → List W → M W) : blk (ev TT CM 40) e_is_name.i.sc e_is_name.i.body = t_is_name CM := by rfl
theorem c_is_name {k : Nat} {w0 : W} {h : AH} : call (k + 1) (pl "is_name") [w0] h = endM h (t_is_name (call k) [some w0] h) := by
  exact (callM_at l_is_name rfl).trans (by rw [b_is_name]; rfl)
noncomputable def t_count_parts (CM : FId → List W → M W) : MS := sBlock [sIf (tOrM (tst (eCall CM (pl "is_int") (aList [mVar 0]))) (tOrM (tst (eCall CM (pl "is_word") (aList [mVar 0]))) (tst (eCallV TT CM 1 (aList [mVar 0]))))) (sBlock [sRet (mC (.d (.int 1)))]) (sBlock []), sIf (tOrM (tNotM (tst (eIsi (mVar 0) "tuple"))) (tOrM (tNotM (tst (eCmp2 .LtE .LtE (mC (.d (.int 2))) (eLen TT CM (mVar 0)) (mC (.d (.int 5)))))) (tNotM (tst (eCall CM (pl "is_word") (aList [eIx (mVar 0) (mC (.d (.int 0)))])))))) (sBlock [sRet (eBin .Add (mC (.d (.int 300))) (mC (.d (.int 1))))]) (sBlock []), sSet 2 (mC (.d (.int 1))), sFor (.n 3) (iVal (eSl (mVar 0) (pSome (mC (.d (.int 1)))) pNo)) (sBlock [sAug 2 (eCall CM (pl "count_parts") (aList [mVar 3, mVar 1])), sIf (tst (eCmp .Gt (mVar 2) (mC (.d (.int 300))))) (sBlock [sRet (mVar 2)]) (sBlock [])]), sRet (mVar 2)]
theorem l_count_parts : lookE ents (pl "count_parts") = some e_count_parts.i := by rfl
theorem b_count_parts (CM : FId → List W → M W) : blk (ev TT CM 40) e_count_parts.i.sc e_count_parts.i.body = t_count_parts CM := by rfl
theorem c_count_parts {k : Nat} {w0 w1 : W} {h : AH} : call (k + 1) (pl "count_parts") [w0, w1] h = endM h (t_count_parts (call k) [some w0, some w1, none, none] h) := by
  exact (callM_at l_count_parts rfl).trans (by rw [b_count_parts]; rfl)
noncomputable def t_is_term (CM : FId → List W → M W) : MS := sBlock [sRet (eCmp .LtE (eCall CM (pl "count_parts") (aList [mVar 0, mC (.fn "is_name")])) (mC (.d (.int 300))))]
theorem l_is_term : lookE ents (pl "is_term") = some e_is_term.i := by rfl
theorem b_is_term (CM : FId → List W → M W) : blk (ev TT CM 40) e_is_term.i.sc e_is_term.i.body = t_is_term CM := by rfl
theorem c_is_term {k : Nat} {w0 : W} {h : AH} : call (k + 1) (pl "is_term") [w0] h = endM h (t_is_term (call k) [some w0] h) := by
  exact (callM_at l_is_term rfl).trans (by rw [b_is_term]; rfl)
noncomputable def t_look_term (CM : FId → List W → M W) : MS := sBlock [sIf (tNotM (tst (eCall CM (pl "is_term") (aList [mVar 0])))) (sBlock [sRaise "BadTerm"]) (sBlock [])]
theorem l_look_term : lookE ents (pl "look_term") = some e_look_term.i := by rfl
theorem b_look_term (CM : FId → List W → M W) : blk (ev TT CM 40) e_look_term.i.sc e_look_term.i.body = t_look_term CM := by rfl
theorem c_look_term {k : Nat} {w0 : W} {h : AH} : call (k + 1) (pl "look_term") [w0] h = endM h (t_look_term (call k) [some w0] h) := by
  exact (callM_at l_look_term rfl).trans (by rw [b_look_term]; rfl)
noncomputable def t_is_tree (CM : FId → List W → M W) : MS := sBlock [sRet (eAnd (eIsi (mVar 0) "tuple") (eCmp .NotEq (eIx (mVar 0) (mC (.d (.int 0)))) (mC (.d (.str "?")))))]
theorem l_is_tree : lookE ents (pl "is_tree") = some e_is_tree.i := by rfl
theorem b_is_tree (CM : FId → List W → M W) : blk (ev TT CM 40) e_is_tree.i.sc e_is_tree.i.body = t_is_tree CM := by rfl
theorem c_is_tree {k : Nat} {w0 : W} {h : AH} : call (k + 1) (pl "is_tree") [w0] h = endM h (t_is_tree (call k) [some w0] h) := by
  exact (callM_at l_is_tree rfl).trans (by rw [b_is_tree]; rfl)
noncomputable def t_add_names (CM : FId → List W → M W) : MS := sBlock [sIf (tst (eCall CM (pl "is_name") (aList [mVar 0]))) (sBlock [sIf (tst (eCmp .NotIn (eIx (mVar 0) (mC (.d (.int 1)))) (mVar 1))) (sBlock [sExpr (eBM .list appM (mVar 1) (aList [eIx (mVar 0) (mC (.d (.int 1)))]))]) (sBlock [])]) (sBlock [sIf (tst (eCall CM (pl "is_tree") (aList [mVar 0]))) (sBlock [sFor (.n 2) (iVal (eSl (mVar 0) (pSome (mC (.d (.int 1)))) pNo)) (sBlock [sExpr (eCall CM (pl "add_names") (aList [mVar 2, mVar 1]))])]) (sBlock [])]), sRet (mVar 1)]
theorem l_add_names : lookE ents (pl "add_names") = some e_add_names.i := by rfl
theorem b_add_names (CM : FId → List W → M W) : blk (ev TT CM 40) e_add_names.i.sc e_add_names.i.body = t_add_names CM := by rfl
theorem c_add_names {k : Nat} {w0 w1 : W} {h : AH} : call (k + 1) (pl "add_names") [w0, w1] h = endM h (t_add_names (call k) [some w0, some w1, none] h) := by
  exact (callM_at l_add_names rfl).trans (by rw [b_add_names]; rfl)
noncomputable def t_Store___init (CM : FId → List W → M W) : MS := sBlock [sIf (tNotM (tst (eCall CM (pl "is_number") (aList [mVar 1, mC (.d (.int 0)), mC (.d (.int 1000))])))) (sBlock [sRaise "BadNumber"]) (sBlock []), sFldW "found" (mVar 0) (eLC (.n 2) (iFun rng1 (aList [mVar 1])) tTrue (mC (.d (.none))))]
theorem l_Store___init : lookE ents ("Store", "__init__") = some e_Store___init.i := by rfl
theorem b_Store___init (CM : FId → List W → M W) : blk (ev TT CM 40) e_Store___init.i.sc e_Store___init.i.body = t_Store___init CM := by rfl
theorem c_Store___init {k : Nat} {w0 w1 : W} {h : AH} : call (k + 1) ("Store", "__init__") [w0, w1] h = keepM (t_Store___init (call k) [some w0, some w1, none] h) := by
  exact (callM_at l_Store___init rfl).trans (by rw [b_Store___init]; rfl)
noncomputable def t_Store___len (CM : FId → List W → M W) : MS := sBlock [sRet (eLen TT CM (eFld (mVar 0) "found"))]
theorem l_Store___len : lookE ents ("Store", "__len__") = some e_Store___len.i := by rfl
theorem b_Store___len (CM : FId → List W → M W) : blk (ev TT CM 40) e_Store___len.i.sc e_Store___len.i.body = t_Store___len CM := by rfl
theorem c_Store___len {k : Nat} {w0 : W} {h : AH} : call (k + 1) ("Store", "__len__") [w0] h = endM h (t_Store___len (call k) [some w0] h) := by
  exact (callM_at l_Store___len rfl).trans (by rw [b_Store___len]; rfl)
noncomputable def t_Store_make (CM : FId → List W → M W) : MS := sBlock [sExpr (nope)]
theorem l_Store_make : lookE ents ("Store", "make") = some e_Store_make.i := by rfl
theorem b_Store_make (CM : FId → List W → M W) : blk (ev TT CM 40) e_Store_make.i.sc e_Store_make.i.body = t_Store_make CM := by rfl
theorem c_Store_make {k : Nat} {w0 : W} {h : AH} : call (k + 1) ("Store", "make") [w0] h = endM h (t_Store_make (call k) [some w0] h) := by
  exact (callM_at l_Store_make rfl).trans (by rw [b_Store_make]; rfl)
noncomputable def t_Store_look (CM : FId → List W → M W) : MS := sBlock [sExpr (eCall CM (pl "look_term") (aList [mVar 1])), sIf (tst (eFun fAny (aList [eOut (eLC (.n 2) (iVal (eCall CM (pl "add_names") (aList [mVar 1, eLst (aList [])]))) tTrue (eCmp .GtE (mVar 2) (eLen TT CM (eFld (mVar 0) "found"))))]))) (sBlock [sRaise "NoName"]) (sBlock [])]
theorem l_Store_look : lookE ents ("Store", "look") = some e_Store_look.i := by rfl
theorem b_Store_look (CM : FId → List W → M W) : blk (ev TT CM 40) e_Store_look.i.sc e_Store_look.i.body = t_Store_look CM := by rfl
theorem c_Store_look {k : Nat} {w0 w1 : W} {h : AH} : call (k + 1) ("Store", "look") [w0, w1] h = endM h (t_Store_look (call k) [some w0, some w1, none] h) := by
  exact (callM_at l_Store_look rfl).trans (by rw [b_Store_look]; rfl)
noncomputable def t_Store_head (CM : FId → List W → M W) : MS := sBlock [sWhile (tAndM (tst (eCall CM (pl "is_name") (aList [mVar 1]))) (tst (eCmp .IsNot (eIx (eFld (mVar 0) "found") (eIx (mVar 1) (mC (.d (.int 1))))) (mC (.d (.none)))))) (sBlock [sSet 1 (eIx (eFld (mVar 0) "found") (eIx (mVar 1) (mC (.d (.int 1)))))]), sRet (mVar 1)]
theorem l_Store_head : lookE ents ("Store", "head") = some e_Store_head.i := by rfl
theorem b_Store_head (CM : FId → List W → M W) : blk (ev TT CM 40) e_Store_head.i.sc e_Store_head.i.body = t_Store_head CM := by rfl
theorem c_Store_head {k : Nat} {w0 w1 : W} {h : AH} : call (k + 1) ("Store", "head") [w0, w1] h = endM h (t_Store_head (call k) [some w0, some w1] h) := by
  exact (callM_at l_Store_head rfl).trans (by rw [b_Store_head]; rfl)
noncomputable def t_Store_holds (CM : FId → List W → M W) : MS := sBlock [sSet 3 (eMeth TT CM "head" (mVar 0) (aList [mVar 1])), sIf (tst (eCall CM (pl "is_name") (aList [mVar 3]))) (sBlock [sRet (eCmp .Eq (mVar 3) (mVar 2))]) (sBlock []), sRet (eAnd (eCall CM (pl "is_tree") (aList [mVar 3])) (eFun fAny (aList [eOut (eLC (.n 4) (iVal (eSl (mVar 3) (pSome (mC (.d (.int 1)))) pNo)) tTrue (eMeth TT CM "holds" (mVar 0) (aList [mVar 4, mVar 2])))])))]
theorem l_Store_holds : lookE ents ("Store", "holds") = some e_Store_holds.i := by rfl
theorem b_Store_holds (CM : FId → List W → M W) : blk (ev TT CM 40) e_Store_holds.i.sc e_Store_holds.i.body = t_Store_holds CM := by rfl
theorem c_Store_holds {k : Nat} {w0 w1 w2 : W} {h : AH} : call (k + 1) ("Store", "holds") [w0, w1, w2] h = endM h (t_Store_holds (call k) [some w0, some w1, some w2, none, none] h) := by
  exact (callM_at l_Store_holds rfl).trans (by rw [b_Store_holds]; rfl)
noncomputable def t_Store_bound (CM : FId → List W → M W) : MS := sBlock [sIf (tst (eCall CM (pl "is_name") (aList [mVar 2]))) (sBlock [sIf (tst (eCmp .NotEq (mVar 1) (mVar 2))) (sBlock [sPar 3 4 (eFun fMin (aList [mVar 1, mVar 2])) (eFun fMax (aList [mVar 1, mVar 2])), sIxW (eFld (mVar 0) "found") (eIx (mVar 4) (mC (.d (.int 1)))) (mVar 3)]) (sBlock []), sRet (mC (.d (.bool true)))]) (sBlock []), sIf (tst (eMeth TT CM "holds" (mVar 0) (aList [mVar 2, mVar 1]))) (sBlock [sRet (mC (.d (.bool false)))]) (sBlock []), sIxW (eFld (mVar 0) "found") (eIx (mVar 1) (mC (.d (.int 1)))) (mVar 2), sRet (mC (.d (.bool true)))]
theorem l_Store_bound : lookE ents ("Store", "bound") = some e_Store_bound.i := by rfl
theorem b_Store_bound (CM : FId → List W → M W) : blk (ev TT CM 40) e_Store_bound.i.sc e_Store_bound.i.body = t_Store_bound CM := by rfl
theorem c_Store_bound {k : Nat} {w0 w1 w2 : W} {h : AH} : call (k + 1) ("Store", "bound") [w0, w1, w2] h = endM h (t_Store_bound (call k) [some w0, some w1, some w2, none, none] h) := by
  exact (callM_at l_Store_bound rfl).trans (by rw [b_Store_bound]; rfl)
noncomputable def t_Store_merge (CM : FId → List W → M W) : MS := sBlock [sSet 3 (eLst (aList [eTup (aList [mVar 1, mVar 2])])), sWhile (tst (eCmp .NotEq (mVar 3) (eLstD (aList [])))) (sBlock [sStar 0 [(.n 3), (.t [1, 2])] (mVar 3), sPar 1 2 (eMeth TT CM "head" (mVar 0) (aList [mVar 1])) (eMeth TT CM "head" (mVar 0) (aList [mVar 2])), sIf (tOrM (tst (eCall CM (pl "is_name") (aList [mVar 1]))) (tst (eCall CM (pl "is_name") (aList [mVar 2])))) (sBlock [sSet 4 (eIf (tst (eCall CM (pl "is_name") (aList [mVar 1]))) (eMeth TT CM "bound" (mVar 0) (aList [mVar 1, mVar 2])) (eMeth TT CM "bound" (mVar 0) (aList [mVar 2, mVar 1]))), sIf (tNotM (tst (mVar 4))) (sBlock [sRet (mC (.d (.bool false)))]) (sBlock [])]) (sBlock [sIf (tAndM (tst (eCall CM (pl "is_tree") (aList [mVar 1]))) (tAndM (tst (eCall CM (pl "is_tree") (aList [mVar 2]))) (tAndM (tst (eCmp .Eq (eIx (mVar 1) (mC (.d (.int 0)))) (eIx (mVar 2) (mC (.d (.int 0)))))) (tst (eCmp .Eq (eLen TT CM (mVar 1)) (eLen TT CM (mVar 2))))))) (sBlock [sSet 3 (eBin .Add (mVar 3) (eFun zipL (aList [eSl (mVar 1) (pSome (mC (.d (.int 1)))) pNo, eSl (mVar 2) (pSome (mC (.d (.int 1)))) pNo])))]) (sBlock [sIf (tst (eCmp .NotEq (mVar 1) (mVar 2))) (sBlock [sRet (mC (.d (.bool false)))]) (sBlock [])])])]), sRet (mC (.d (.bool true)))]
theorem l_Store_merge : lookE ents ("Store", "merge") = some e_Store_merge.i := by rfl
theorem b_Store_merge (CM : FId → List W → M W) : blk (ev TT CM 40) e_Store_merge.i.sc e_Store_merge.i.body = t_Store_merge CM := by rfl
theorem c_Store_merge {k : Nat} {w0 w1 w2 : W} {h : AH} : call (k + 1) ("Store", "merge") [w0, w1, w2] h = endM h (t_Store_merge (call k) [some w0, some w1, some w2, none, none] h) := by
  exact (callM_at l_Store_merge rfl).trans (by rw [b_Store_merge]; rfl)
noncomputable def t_Store_joined (CM : FId → List W → M W) : MS := sBlock [sSet 3 (eFun fList (aList [eFld (mVar 0) "found"])), sIf (tst (eMeth TT CM "merge" (mVar 0) (aList [mVar 1, mVar 2]))) (sBlock [sRet (mC (.d (.bool true)))]) (sBlock []), sFldW "found" (mVar 0) (mVar 3), sRet (mC (.d (.bool false)))]
theorem l_Store_joined : lookE ents ("Store", "joined") = some e_Store_joined.i := by rfl
theorem b_Store_joined (CM : FId → List W → M W) : blk (ev TT CM 40) e_Store_joined.i.sc e_Store_joined.i.body = t_Store_joined CM := by rfl
theorem c_Store_joined {k : Nat} {w0 w1 w2 : W} {h : AH} : call (k + 1) ("Store", "joined") [w0, w1, w2] h = endM h (t_Store_joined (call k) [some w0, some w1, some w2, none] h) := by
  exact (callM_at l_Store_joined rfl).trans (by rw [b_Store_joined]; rfl)
noncomputable def t_Store_tell (CM : FId → List W → M W) : MS := sBlock [sExpr (eMeth TT CM "look" (mVar 0) (aList [mVar 1])), sExpr (eMeth TT CM "look" (mVar 0) (aList [mVar 2])), sIf (tNotM (tst (eMeth TT CM "joined" (mVar 0) (aList [mVar 1, mVar 2])))) (sBlock [sRaise "Clash"]) (sBlock [])]
theorem l_Store_tell : lookE ents ("Store", "tell") = some e_Store_tell.i := by rfl
theorem b_Store_tell (CM : FId → List W → M W) : blk (ev TT CM 40) e_Store_tell.i.sc e_Store_tell.i.body = t_Store_tell CM := by rfl
theorem c_Store_tell {k : Nat} {w0 w1 w2 : W} {h : AH} : call (k + 1) ("Store", "tell") [w0, w1, w2] h = endM h (t_Store_tell (call k) [some w0, some w1, some w2] h) := by
  exact (callM_at l_Store_tell rfl).trans (by rw [b_Store_tell]; rfl)
noncomputable def t_Store_full (CM : FId → List W → M W) : MS := sBlock [sSet 2 (eMeth TT CM "head" (mVar 0) (aList [mVar 1])), sIf (tst (eCall CM (pl "is_tree") (aList [mVar 2]))) (sBlock [sRet (eBin .Add (eTup (aList [eIx (mVar 2) (mC (.d (.int 0)))])) (eFun fTuple (aList [eOut (eLC (.n 3) (iVal (eSl (mVar 2) (pSome (mC (.d (.int 1)))) pNo)) tTrue (eMeth TT CM "full" (mVar 0) (aList [mVar 3])))])))]) (sBlock []), sRet (mVar 2)]
theorem l_Store_full : lookE ents ("Store", "full") = some e_Store_full.i := by rfl
theorem b_Store_full (CM : FId → List W → M W) : blk (ev TT CM 40) e_Store_full.i.sc e_Store_full.i.body = t_Store_full CM := by rfl
theorem c_Store_full {k : Nat} {w0 w1 : W} {h : AH} : call (k + 1) ("Store", "full") [w0, w1] h = endM h (t_Store_full (call k) [some w0, some w1, none, none] h) := by
  exact (callM_at l_Store_full rfl).trans (by rw [b_Store_full]; rfl)
noncomputable def t_Store_value (CM : FId → List W → M W) : MS := sBlock [sExpr (eMeth TT CM "look" (mVar 0) (aList [mVar 1])), sRet (eMeth TT CM "full" (mVar 0) (aList [mVar 1]))]
theorem l_Store_value : lookE ents ("Store", "value") = some e_Store_value.i := by rfl
theorem b_Store_value (CM : FId → List W → M W) : blk (ev TT CM 40) e_Store_value.i.sc e_Store_value.i.body = t_Store_value CM := by rfl
theorem c_Store_value {k : Nat} {w0 w1 : W} {h : AH} : call (k + 1) ("Store", "value") [w0, w1] h = endM h (t_Store_value (call k) [some w0, some w1] h) := by
  exact (callM_at l_Store_value rfl).trans (by rw [b_Store_value]; rfl)
noncomputable def t_Store_same (CM : FId → List W → M W) : MS := sBlock [sExpr (eMeth TT CM "look" (mVar 0) (aList [mVar 1])), sExpr (eMeth TT CM "look" (mVar 0) (aList [mVar 2])), sIf (tst (eCmp .Eq (eMeth TT CM "full" (mVar 0) (aList [mVar 1])) (eMeth TT CM "full" (mVar 0) (aList [mVar 2])))) (sBlock [sRet (mC (.d (.bool true)))]) (sBlock []), sRet (eIf (tst (eMeth TT CM "joined" (eMeth TT CM "twin" (mVar 0) (aList [])) (aList [mVar 1, mVar 2]))) (mC (.d (.none))) (mC (.d (.bool false))))]
theorem l_Store_same : lookE ents ("Store", "same") = some e_Store_same.i := by rfl
theorem b_Store_same (CM : FId → List W → M W) : blk (ev TT CM 40) e_Store_same.i.sc e_Store_same.i.body = t_Store_same CM := by rfl
theorem c_Store_same {k : Nat} {w0 w1 w2 : W} {h : AH} : call (k + 1) ("Store", "same") [w0, w1, w2] h = endM h (t_Store_same (call k) [some w0, some w1, some w2] h) := by
  exact (callM_at l_Store_same rfl).trans (by rw [b_Store_same]; rfl)
noncomputable def t_Store_known (CM : FId → List W → M W) : MS := sBlock [sRet (eLen TT CM (eOut (eLC (.n 1) (iFun rng1 (aList [eLen TT CM (eFld (mVar 0) "found")])) (tNotM (tst (eCall CM (pl "is_name") (aList [eMeth TT CM "head" (mVar 0) (aList [eTup (aList [mC (.d (.str "?")), mVar 1])])])))) (mVar 1))))]
theorem l_Store_known : lookE ents ("Store", "known") = some e_Store_known.i := by rfl
theorem b_Store_known (CM : FId → List W → M W) : blk (ev TT CM 40) e_Store_known.i.sc e_Store_known.i.body = t_Store_known CM := by rfl
theorem c_Store_known {k : Nat} {w0 : W} {h : AH} : call (k + 1) ("Store", "known") [w0] h = endM h (t_Store_known (call k) [some w0, none] h) := by
  exact (callM_at l_Store_known rfl).trans (by rw [b_Store_known]; rfl)
noncomputable def t_Store_twin (CM : FId → List W → M W) : MS := sBlock [sSet 1 (eNew CM "Store" [.d (.int 0)] (aList [])), sFldW "found" (mVar 1) (eFun fList (aList [eFld (mVar 0) "found"])), sRet (mVar 1)]
theorem l_Store_twin : lookE ents ("Store", "twin") = some e_Store_twin.i := by rfl
theorem b_Store_twin (CM : FId → List W → M W) : blk (ev TT CM 40) e_Store_twin.i.sc e_Store_twin.i.body = t_Store_twin CM := by rfl
theorem c_Store_twin {k : Nat} {w0 : W} {h : AH} : call (k + 1) ("Store", "twin") [w0] h = keepM (t_Store_twin (call k) [some w0, none] h) := by
  exact (callM_at l_Store_twin rfl).trans (by rw [b_Store_twin]; rfl)
noncomputable def t_fit_to (CM : FId → List W → M W) : MS := sBlock [sIf (tst (eCall CM (pl "is_name") (aList [mVar 0]))) (sBlock [sIf (tst (eCmp .In (eIx (mVar 0) (mC (.d (.int 1)))) (mVar 2))) (sBlock [sRet (eCmp .Eq (eIx (mVar 2) (eIx (mVar 0) (mC (.d (.int 1))))) (mVar 1))]) (sBlock []), sIxW (mVar 2) (eIx (mVar 0) (mC (.d (.int 1)))) (mVar 1), sRet (mC (.d (.bool true)))]) (sBlock []), sIf (tOrM (tNotM (tst (eCall CM (pl "is_tree") (aList [mVar 0])))) (tNotM (tst (eCall CM (pl "is_tree") (aList [mVar 1]))))) (sBlock [sRet (eCmp .Eq (mVar 0) (mVar 1))]) (sBlock []), sIf (tOrM (tst (eCmp .NotEq (eIx (mVar 0) (mC (.d (.int 0)))) (eIx (mVar 1) (mC (.d (.int 0)))))) (tst (eCmp .NotEq (eLen TT CM (mVar 0)) (eLen TT CM (mVar 1))))) (sBlock [sRet (mC (.d (.bool false)))]) (sBlock []), sRet (eFun fAll (aList [eOut (eLC (.t [3, 4]) (iFun zipM (aList [eSl (mVar 0) (pSome (mC (.d (.int 1)))) pNo, eSl (mVar 1) (pSome (mC (.d (.int 1)))) pNo])) tTrue (eCall CM (pl "fit_to") (aList [mVar 3, mVar 4, mVar 2])))]))]
theorem l_fit_to : lookE ents (pl "fit_to") = some e_fit_to.i := by rfl
theorem b_fit_to (CM : FId → List W → M W) : blk (ev TT CM 40) e_fit_to.i.sc e_fit_to.i.body = t_fit_to CM := by rfl
theorem c_fit_to {k : Nat} {w0 w1 w2 : W} {h : AH} : call (k + 1) (pl "fit_to") [w0, w1, w2] h = endM h (t_fit_to (call k) [some w0, some w1, some w2, none, none] h) := by
  exact (callM_at l_fit_to rfl).trans (by rw [b_fit_to]; rfl)
noncomputable def t_fits (CM : FId → List W → M W) : MS := sBlock [sExpr (eCall CM (pl "look_term") (aList [mVar 0])), sExpr (eCall CM (pl "look_term") (aList [mVar 1])), sSet 2 (eDict0), sRet (eIf (tst (eCall CM (pl "fit_to") (aList [mVar 0, mVar 1, mVar 2]))) (mVar 2) (mC (.d (.none))))]
theorem l_fits : lookE ents (pl "fits") = some e_fits.i := by rfl
theorem b_fits (CM : FId → List W → M W) : blk (ev TT CM 40) e_fits.i.sc e_fits.i.body = t_fits CM := by rfl
theorem c_fits {k : Nat} {w0 w1 : W} {h : AH} : call (k + 1) (pl "fits") [w0, w1] h = endM h (t_fits (call k) [some w0, some w1, none] h) := by
  exact (callM_at l_fits rfl).trans (by rw [b_fits]; rfl)
noncomputable def t_covers (CM : FId → List W → M W) : MS := sBlock [sRet (eCmp .IsNot (eCall CM (pl "fits") (aList [mVar 0, mVar 1])) (mC (.d (.none))))]
theorem l_covers : lookE ents (pl "covers") = some e_covers.i := by rfl
theorem b_covers (CM : FId → List W → M W) : blk (ev TT CM 40) e_covers.i.sc e_covers.i.body = t_covers CM := by rfl
theorem c_covers {k : Nat} {w0 w1 : W} {h : AH} : call (k + 1) (pl "covers") [w0, w1] h = endM h (t_covers (call k) [some w0, some w1] h) := by
  exact (callM_at l_covers rfl).trans (by rw [b_covers]; rfl)
noncomputable def t_alike (CM : FId → List W → M W) : MS := sBlock [sRet (eAnd (eCall CM (pl "covers") (aList [mVar 0, mVar 1])) (eCall CM (pl "covers") (aList [mVar 1, mVar 0])))]
theorem l_alike : lookE ents (pl "alike") = some e_alike.i := by rfl
theorem b_alike (CM : FId → List W → M W) : blk (ev TT CM 40) e_alike.i.sc e_alike.i.body = t_alike CM := by rfl
theorem c_alike {k : Nat} {w0 w1 : W} {h : AH} : call (k + 1) (pl "alike") [w0, w1] h = endM h (t_alike (call k) [some w0, some w1] h) := by
  exact (callM_at l_alike rfl).trans (by rw [b_alike]; rfl)
noncomputable def t_law_town (CM : FId → List W → M W) : MS := sBlock [sRet (eBin .Add (eLst (aList [mC (.d (.int 0))])) (eFun fList (aList [mVar 0])))]
theorem l_law_town : lookE ents (pl "_law_town") = some e_law_town.i := by rfl
theorem b_law_town (CM : FId → List W → M W) : blk (ev TT CM 40) e_law_town.i.sc e_law_town.i.body = t_law_town CM := by rfl
theorem c_law_town {k : Nat} {w0 : W} {h : AH} : call (k + 1) (pl "_law_town") [w0] h = keepM (t_law_town (call k) [some w0] h) := by
  exact (callM_at l_law_town rfl).trans (by rw [b_law_town]; rfl)
noncomputable def t_law_draw (CM : FId → List W → M W) : MS := sBlock [sIxW (mVar 1) (mC (.d (.int 0))) (eBin .Add (eIx (mVar 1) (mC (.d (.int 0)))) (mC (.d (.int 1)))), sIf (tst (eCmp .Eq (mVar 0) (eLstD (aList [])))) (sBlock [sRet (eBin .Mod (eBin .FloorDiv (eBin .Mult (eBin .Mult (eIx (mVar 1) (mC (.d (.int 0)))) (eIx (mVar 1) (mC (.d (.int 0))))) (mC (.d (.int 7)))) (mC (.d (.int 3)))) (mVar 2))]) (sBlock []), sSet 3 (eBin .Mod (eIx (mVar 1) (mC (.d (.int 0)))) (eLen TT CM (mVar 0))), sSet 4 (eIx (mVar 1) (eBin .Add (mC (.d (.int 1))) (mVar 3))), sIf (tAndM (tst (eCmp .GtE (eIx (mVar 0) (mVar 3)) (eBin .Pow (mC (.d (.int 10))) (mC (.d (.int 18)))))) (tst (eCmp .Gt (mVar 4) (mC (.d (.int 0)))))) (sBlock [sIxW (mVar 1) (eBin .Add (mC (.d (.int 1))) (mVar 3)) (eBin .FloorDiv (mVar 4) (mVar 2)), sRet (eBin .Mod (mVar 4) (mVar 2))]) (sBlock []), sSet 5 (eBin .Mod (eBin .Add (eIx (mVar 0) (mVar 3)) (eBin .Mult (mC (.d (.int 104729))) (eIx (mVar 1) (mC (.d (.int 0)))))) (mC (.d (.int 4294967291)))), sSet 5 (eBin .Mod (eBin .Pow (mVar 5) (mC (.d (.int 5)))) (mC (.d (.int 4294967279)))), sRet (eBin .Mod (eBin .FloorDiv (eBin .Mod (eBin .Add (eBin .Mult (eBin .FloorDiv (mVar 5) (mC (.d (.int 64)))) (mC (.d (.int 69621)))) (mVar 5)) (mC (.d (.int 4294967231)))) (mC (.d (.int 8)))) (mVar 2))]
theorem l_law_draw : lookE ents (pl "_law_draw") = some e_law_draw.i := by rfl
theorem b_law_draw (CM : FId → List W → M W) : blk (ev TT CM 40) e_law_draw.i.sc e_law_draw.i.body = t_law_draw CM := by rfl
theorem c_law_draw {k : Nat} {w0 w1 w2 : W} {h : AH} : call (k + 1) (pl "_law_draw") [w0, w1, w2] h = endM h (t_law_draw (call k) [some w0, some w1, some w2, none, none, none] h) := by
  exact (callM_at l_law_draw rfl).trans (by rw [b_law_draw]; rfl)
noncomputable def t_law_pick (CM : FId → List W → M W) : MS := sBlock [sRet (eIx (mVar 2) (eCall CM (pl "_law_draw") (aList [mVar 0, mVar 1, eLen TT CM (mVar 2)])))]
theorem l_law_pick : lookE ents (pl "_law_pick") = some e_law_pick.i := by rfl
theorem b_law_pick (CM : FId → List W → M W) : blk (ev TT CM 40) e_law_pick.i.sc e_law_pick.i.body = t_law_pick CM := by rfl
theorem c_law_pick {k : Nat} {w0 w1 w2 : W} {h : AH} : call (k + 1) (pl "_law_pick") [w0, w1, w2] h = endM h (t_law_pick (call k) [some w0, some w1, some w2] h) := by
  exact (callM_at l_law_pick rfl).trans (by rw [b_law_pick]; rfl)
noncomputable def t_law_term (CM : FId → List W → M W) : MS := sBlock [sSet 4 (eCall CM (pl "_law_draw") (aList [mVar 0, mVar 1, eIf (tst (eCmp .Gt (mVar 2) (mC (.d (.int 0))))) (mC (.d (.int 7))) (mC (.d (.int 4)))])), sIf (tst (eCmp .Eq (mVar 4) (mC (.d (.int 0))))) (sBlock [sRet (eCall CM (pl "_law_pick") (aList [mVar 0, mVar 1, eLst (aList [mC (.d (.int 0)), mC (.d (.int 1)), mC (.d (.int 2)), eNeg (mC (.d (.int 3))), eBin .Pow (mC (.d (.int 10))) (mC (.d (.int 9)))])]))]) (sBlock []), sIf (tst (eCmp .Eq (mVar 4) (mC (.d (.int 1))))) (sBlock [sRet (eCall CM (pl "_law_pick") (aList [mVar 0, mVar 1, eLst (aList [mC (.d (.str "a")), mC (.d (.str "b")), mC (.d (.str "nil")), mC (.d (.str "abcdefgh"))])]))]) (sBlock []), sIf (tAndM (tst (eCmp .Lt (mVar 4) (mC (.d (.int 4))))) (tst (eCmp .Gt (mVar 3) (mC (.d (.int 0)))))) (sBlock [sRet (eTup (aList [mC (.d (.str "?")), eCall CM (pl "_law_draw") (aList [mVar 0, mVar 1, mVar 3])]))]) (sBlock []), sIf (tst (eCmp .Lt (mVar 2) (mC (.d (.int 1))))) (sBlock [sRet (mC (.d (.str "a")))]) (sBlock []), sSet 5 (eTup (aList [eCall CM (pl "_law_pick") (aList [mVar 0, mVar 1, eLst (aList [mC (.d (.str "f")), mC (.d (.str "g")), mC (.d (.str "cons"))])])])), sFor (.n 6) (iFun rng1 (aList [eBin .Add (mC (.d (.int 1))) (eCall CM (pl "_law_draw") (aList [mVar 0, mVar 1, mC (.d (.int 3))]))])) (sBlock [sSet 5 (eBin .Add (mVar 5) (eTup (aList [eCall CM (pl "_law_term") (aList [mVar 0, mVar 1, eBin .Sub (mVar 2) (mC (.d (.int 1))), mVar 3])])))]), sRet (mVar 5)]
theorem l_law_term : lookE ents (pl "_law_term") = some e_law_term.i := by rfl
theorem b_law_term (CM : FId → List W → M W) : blk (ev TT CM 40) e_law_term.i.sc e_law_term.i.body = t_law_term CM := by rfl
theorem c_law_term {k : Nat} {w0 w1 w2 w3 : W} {h : AH} : call (k + 1) (pl "_law_term") [w0, w1, w2, w3] h = endM h (t_law_term (call k) [some w0, some w1, some w2, some w3, none, none, none] h) := by
  exact (callM_at l_law_term rfl).trans (by rw [b_law_term]; rfl)
noncomputable def t_law_is_name (CM : FId → List W → M W) : MS := sBlock [sRet (eAnd (eIsi (mVar 0) "tuple") (eCmp .Eq (eIx (mVar 0) (mC (.d (.int 0)))) (mC (.d (.str "?")))))]
theorem l_law_is_name : lookE ents (pl "_law_is_name") = some e_law_is_name.i := by rfl
theorem b_law_is_name (CM : FId → List W → M W) : blk (ev TT CM 40) e_law_is_name.i.sc e_law_is_name.i.body = t_law_is_name CM := by rfl
theorem c_law_is_name {k : Nat} {w0 : W} {h : AH} : call (k + 1) (pl "_law_is_name") [w0] h = endM h (t_law_is_name (call k) [some w0] h) := by
  exact (callM_at l_law_is_name rfl).trans (by rw [b_law_is_name]; rfl)
noncomputable def t_law_is_tree (CM : FId → List W → M W) : MS := sBlock [sRet (eAnd (eIsi (mVar 0) "tuple") (eCmp .NotEq (eIx (mVar 0) (mC (.d (.int 0)))) (mC (.d (.str "?")))))]
theorem l_law_is_tree : lookE ents (pl "_law_is_tree") = some e_law_is_tree.i := by rfl
theorem b_law_is_tree (CM : FId → List W → M W) : blk (ev TT CM 40) e_law_is_tree.i.sc e_law_is_tree.i.body = t_law_is_tree CM := by rfl
theorem c_law_is_tree {k : Nat} {w0 : W} {h : AH} : call (k + 1) (pl "_law_is_tree") [w0] h = endM h (t_law_is_tree (call k) [some w0] h) := by
  exact (callM_at l_law_is_tree rfl).trans (by rw [b_law_is_tree]; rfl)
noncomputable def t_law_names (CM : FId → List W → M W) : MS := sBlock [sIf (tst (eCall CM (pl "_law_is_name") (aList [mVar 0]))) (sBlock [sRet (eLst (aList [eIx (mVar 0) (mC (.d (.int 1)))]))]) (sBlock []), sSet 1 (eLst (aList [])), sIf (tst (eCall CM (pl "_law_is_tree") (aList [mVar 0]))) (sBlock [sFor (.n 2) (iVal (eSl (mVar 0) (pSome (mC (.d (.int 1)))) pNo)) (sBlock [sSet 1 (eBin .Add (mVar 1) (eLC (.n 3) (iVal (eCall CM (pl "_law_names") (aList [mVar 2]))) (tst (eCmp .NotIn (mVar 3) (mVar 1))) (mVar 3)))])]) (sBlock []), sRet (mVar 1)]
theorem l_law_names : lookE ents (pl "_law_names") = some e_law_names.i := by rfl
theorem b_law_names (CM : FId → List W → M W) : blk (ev TT CM 40) e_law_names.i.sc e_law_names.i.body = t_law_names CM := by rfl
theorem c_law_names {k : Nat} {w0 : W} {h : AH} : call (k + 1) (pl "_law_names") [w0] h = endM h (t_law_names (call k) [some w0, none, none, none] h) := by
  exact (callM_at l_law_names rfl).trans (by rw [b_law_names]; rfl)
noncomputable def t_law_fill (CM : FId → List W → M W) : MS := sBlock [sIf (tst (eCall CM (pl "_law_is_name") (aList [mVar 0]))) (sBlock [sRet (eIf (tst (eCmp .In (eIx (mVar 0) (mC (.d (.int 1)))) (mVar 1))) (eIx (mVar 1) (eIx (mVar 0) (mC (.d (.int 1))))) (mVar 0))]) (sBlock []), sIf (tst (eCall CM (pl "_law_is_tree") (aList [mVar 0]))) (sBlock [sRet (eBin .Add (eSl (mVar 0) pNo (pSome (mC (.d (.int 1))))) (eFun fTuple (aList [eOut (eLC (.n 2) (iVal (eSl (mVar 0) (pSome (mC (.d (.int 1)))) pNo)) tTrue (eCall CM (pl "_law_fill") (aList [mVar 2, mVar 1])))])))]) (sBlock []), sRet (mVar 0)]
theorem l_law_fill : lookE ents (pl "_law_fill") = some e_law_fill.i := by rfl
theorem b_law_fill (CM : FId → List W → M W) : blk (ev TT CM 40) e_law_fill.i.sc e_law_fill.i.body = t_law_fill CM := by rfl
theorem c_law_fill {k : Nat} {w0 w1 : W} {h : AH} : call (k + 1) (pl "_law_fill") [w0, w1] h = endM h (t_law_fill (call k) [some w0, some w1, none] h) := by
  exact (callM_at l_law_fill rfl).trans (by rw [b_law_fill]; rfl)
noncomputable def t_law_pair (CM : FId → List W → M W) : MS := sBlock [sSet 3 (eCall CM (pl "_law_term") (aList [mVar 0, mVar 1, mC (.d (.int 2)), mC (.d (.int 6))])), sSet 4 (eCall CM (pl "_law_fill") (aList [mVar 3, mVar 2])), sSet 5 (eLCd .key 2 (.n 7) (tst (eCmp .Eq (eIx (mVar 2) (mVar 7)) (mVar 4))) (mVar 7)), sSet 6 (eIf (tst (eCmp .NotEq (mVar 5) (eLstD (aList [])))) (eTup (aList [mC (.d (.str "?")), eCall CM (pl "_law_pick") (aList [mVar 0, mVar 1, mVar 5])])) (eCall CM (pl "_law_opened") (aList [mVar 0, mVar 1, mVar 4, mVar 2]))), sRet (eTup (aList [mVar 3, mVar 6]))]
theorem l_law_pair : lookE ents (pl "_law_pair") = some e_law_pair.i := by rfl
theorem b_law_pair (CM : FId → List W → M W) : blk (ev TT CM 40) e_law_pair.i.sc e_law_pair.i.body = t_law_pair CM := by rfl
theorem c_law_pair {k : Nat} {w0 w1 w2 : W} {h : AH} : call (k + 1) (pl "_law_pair") [w0, w1, w2] h = endM h (t_law_pair (call k) [some w0, some w1, some w2, none, none, none, none, none] h) := by
  exact (callM_at l_law_pair rfl).trans (by rw [b_law_pair]; rfl)
noncomputable def t_law_opened (CM : FId → List W → M W) : MS := sBlock [sSet 4 (eLCd .key 3 (.n 5) (tst (eCmp .Eq (eIx (mVar 3) (mVar 5)) (mVar 2))) (mVar 5)), sIf (tAndM (tst (eCmp .NotEq (mVar 4) (eLstD (aList [])))) (tst (eCmp .Eq (eCall CM (pl "_law_draw") (aList [mVar 0, mVar 1, mC (.d (.int 2))])) (mC (.d (.int 0)))))) (sBlock [sRet (eTup (aList [mC (.d (.str "?")), eCall CM (pl "_law_pick") (aList [mVar 0, mVar 1, mVar 4])]))]) (sBlock []), sIf (tst (eCall CM (pl "_law_is_tree") (aList [mVar 2]))) (sBlock [sRet (eBin .Add (eSl (mVar 2) pNo (pSome (mC (.d (.int 1))))) (eFun fTuple (aList [eOut (eLC (.n 6) (iVal (eSl (mVar 2) (pSome (mC (.d (.int 1)))) pNo)) tTrue (eCall CM (pl "_law_opened") (aList [mVar 0, mVar 1, mVar 6, mVar 3])))])))]) (sBlock []), sRet (mVar 2)]
theorem l_law_opened : lookE ents (pl "_law_opened") = some e_law_opened.i := by rfl
theorem b_law_opened (CM : FId → List W → M W) : blk (ev TT CM 40) e_law_opened.i.sc e_law_opened.i.body = t_law_opened CM := by rfl
theorem c_law_opened {k : Nat} {w0 w1 w2 w3 : W} {h : AH} : call (k + 1) (pl "_law_opened") [w0, w1, w2, w3] h = endM h (t_law_opened (call k) [some w0, some w1, some w2, some w3, none, none, none] h) := by
  exact (callM_at l_law_opened rfl).trans (by rw [b_law_opened]; rfl)
noncomputable def t_law (CM : FId → List W → M W) : MS := sBlock [sSet 1 (eCall CM (pl "_law_town") (aList [mVar 0])), sSet 2 (eDict0), sFor (.n 3) (iFun rng1 (aList [mC (.d (.int 6))])) (sBlock [sIxW (mVar 2) (mVar 3) (eCall CM (pl "_law_term") (aList [mVar 0, mVar 1, mC (.d (.int 2)), mC (.d (.int 0))]))]), sSet 4 (eLC (.n 11) (iFun rng1 (aList [eCall CM (pl "_law_draw") (aList [mVar 0, mVar 1, mC (.d (.int 7))])])) tTrue (eCall CM (pl "_law_pair") (aList [mVar 0, mVar 1, mVar 2]))), sSet 5 (eLst (aList [eNew CM "Store" [] (aList [mC (.d (.int 6))]), eNew CM "Store" [] (aList [mC (.d (.int 6))])])), sFor (.t [9, 10]) (iVal (mVar 4)) (sBlock [sExpr (eMeth TT CM "tell" (eIx (mVar 5) (mC (.d (.int 0)))) (aList [mVar 9, mVar 10]))]), sFor (.t [9, 10]) (iVal (eStep (mVar 4) (eNeg (mC (.d (.int 1)))))) (sBlock [sExpr (eMeth TT CM "tell" (eIx (mVar 5) (mC (.d (.int 1)))) (aList [mVar 10, mVar 9]))]), sSet 6 (eFun fTuple (aList [eOut (eLC (.n 3) (iFun rng1 (aList [mC (.d (.int 6))])) tTrue (eTup (aList [mC (.d (.str "?")), mVar 3])))])), sSet 7 (eLC (.n 12) (iVal (mVar 5)) tTrue (eFun fTuple (aList [eOut (eLC (.n 13) (iVal (mVar 6)) tTrue (eMeth TT CM "value" (mVar 12) (aList [mVar 13])))]))), sIf (tst (eCmp .NotEq (eCall CM (pl "_law_fill") (aList [eBin .Add (eTup (aList [mC (.d (.str "f"))])) (eSl (eIx (mVar 7) (mC (.d (.int 0)))) pNo (pSome (mC (.d (.int 4))))), mVar 2])) (eBin .Add (eTup (aList [mC (.d (.str "f"))])) (eFun fTuple (aList [eOut (eLC (.n 11) (iFun rng1 (aList [mC (.d (.int 4))])) tTrue (eIx (mVar 2) (mVar 11)))]))))) (sBlock [sRet (mC (.d (.bool false)))]) (sBlock []), sFor (.n 3) (iFun rng1 (aList [mC (.d (.int 6))])) (sBlock [sIf (tst (eCmp .NotEq (eCall CM (pl "_law_fill") (aList [eIx (eIx (mVar 7) (mC (.d (.int 0)))) (mVar 3), mVar 2])) (eIx (mVar 2) (mVar 3)))) (sBlock [sRet (mC (.d (.bool false)))]) (sBlock []), sIf (tst (eCmp .IsNot (eCall CM (pl "alike") (aList [eBin .Add (eTup (aList [mC (.d (.str "f"))])) (eSl (eIx (mVar 7) (mC (.d (.int 0)))) (pSome (mVar 3)) (pSome (eBin .Add (mVar 3) (mC (.d (.int 2)))))), eBin .Add (eTup (aList [mC (.d (.str "f"))])) (eSl (eIx (mVar 7) (mC (.d (.int 1)))) (pSome (mVar 3)) (pSome (eBin .Add (mVar 3) (mC (.d (.int 2))))))])) (mC (.d (.bool true))))) (sBlock [sRet (mC (.d (.bool false)))]) (sBlock [])]), sSet 8 (eLst (aList [])), sFor (.t [9, 10]) (iVal (mVar 4)) (sBlock [sSet 8 (eBin .Add (eBin .Add (mVar 8) (eCall CM (pl "_law_names") (aList [mVar 9]))) (eCall CM (pl "_law_names") (aList [mVar 10])))]), sFor (.n 3) (iFun rng1 (aList [mC (.d (.int 6))])) (sBlock [sIf (tAndM (tst (eCmp .NotIn (mVar 3) (mVar 8))) (tst (eCmp .NotEq (eIx (eIx (mVar 7) (mC (.d (.int 0)))) (mVar 3)) (eTup (aList [mC (.d (.str "?")), mVar 3]))))) (sBlock [sRet (mC (.d (.bool false)))]) (sBlock [])]), sFor (.n 3) (iFun rng1 (aList [mC (.d (.int 6))])) (sBlock [sExpr (eMeth TT CM "tell" (eIx (mVar 5) (mC (.d (.int 0)))) (aList [eTup (aList [mC (.d (.str "?")), mVar 3]), eIx (mVar 2) (mVar 3)]))]), sRet (eCmp .Eq (eOut (eLC (.n 13) (iVal (mVar 6)) tTrue (eMeth TT CM "value" (eIx (mVar 5) (mC (.d (.int 0)))) (aList [mVar 13])))) (eOut (eLC (.n 3) (iFun rng1 (aList [mC (.d (.int 6))])) tTrue (eIx (mVar 2) (mVar 3)))))]
theorem l_law : lookE ents (pl "law") = some e_law.i := by rfl
theorem b_law (CM : FId → List W → M W) : blk (ev TT CM 40) e_law.i.sc e_law.i.body = t_law CM := by rfl
theorem c_law {k : Nat} {w0 : W} {h : AH} : call (k + 1) (pl "law") [w0] h = endM h (t_law (call k) [some w0, none, none, none, none, none, none, none, none, none, none, none, none, none] h) := by
  exact (callM_at l_law rfl).trans (by rw [b_law]; rfl)
end Ev
set_option Elab.async false
set_option linter.all false
set_option maxRecDepth 100000
set_option maxHeartbeats 400000
namespace Ev
open PySem PySem.Spec PyProof.Rows L2 He
theorem r_town {k : Nat} {ns : List Int} (hn : ns.length ≤ 63) : call (k + 1) (pl "_law_town") [.d (dI ns)] [] = .ok (.r 2) [LI [0], LI ns, LI (0 :: ns)] := by
  rw [c_law_town]
  have e1 : kLst [.d (.int 0)] [] = .ok (.r 0) [LI [0]] := rfl
  have e2 : fList [.d (dI ns)] [LI [0]] = .ok (.r 1) [LI [0], LI ns] := by simp [fList, dI, LI]
  have e3 : bAdd (.r 0) (.r 1) [LI [0], LI ns] = .ok (.r 2) [LI [0], LI ns, LI (0 :: ns)] := by
    refine (bAdd_l (a := [.d (.int 0)]) (b := (ns.map PyData.int).map .d) rfl rfl (by simp; exact Nat.le_trans (by omega : 1 + ns.length ≤ 1000) (by decide))).trans ?_
    simp [LI]
  simp [t_law_town, e1, e2, bop, e3, keepM]
theorem r_draw {k : Nat} {ns ts : List Int} {t : Nat} {m c : Int} {h : AH} (ht : h[t]? = some (LI ts)) (T : Tw ns c ts) (hc : c ≤ 1000000) (m0 : 0 < m) (m1 : m < 1000000) :
    ∃ v ts', call (k + 1) (pl "_law_draw") [.d (dI ns), .r t, .d (.int m)] h = .ok (.d (.int v)) (h.set t (LI ts')) ∧ 0 ≤ v ∧ v < m ∧ Tw ns (c + 1) ts' := by
  have htl : t < h.length := (List.getElem?_eq_some_iff.mp ht).1
  rw [c_law_draw]
  obtain ⟨T1, T2, T3⟩ := T
  obtain ⟨q, hq⟩ : ∃ q, q = ts.getD 0 0 := ⟨_, rfl⟩
  rw [← hq] at T2 T3
  have i0 := ix_LI (i := 0) ht (by decide) (by omega)
  rw [show (0 : Int).toNat = 0 from rfl, ← hq] at i0
  have s0 := set_LI (v := q + 1) (i := 0) ht (by decide) (by omega)
  rw [show (0 : Int).toNat = 0 from rfl] at s0
  obtain ⟨t1, ht1⟩ : ∃ t1, t1 = ts.set 0 (q + 1) := ⟨_, rfl⟩
  rw [← ht1] at s0
  have l1 : t1.length = ns.length + 1 := by rw [ht1, List.length_set]; exact T1
  have g1 : t1.getD 0 0 = q + 1 := by
    rw [ht1]
    cases ts with
    | nil => simp at T1
    | cons a b => simp
  have W1 : Tw ns (c + 1) t1 := ⟨l1, by rw [g1]; omega, by rw [g1]; omega⟩
  obtain ⟨h1, hh1⟩ : ∃ h1, h1 = h.set t (LI t1) := ⟨_, rfl⟩
  rw [← hh1] at s0
  have ht2 : h1[t]? = some (LI t1) := by rw [hh1]; exact List.getElem?_set_self htl
  have j0 := ix_LI (i := 0) ht2 (by decide) (by omega)
  rw [show (0 : Int).toNat = 0 from rfl, g1] at j0
  have sm : small64 (q + 1) = true := by simp [small64]; omega
  have sm7 : small64 7 = true := by decide
  have smk : small64 104729 = true := by decide
  have smh : small64 69621 = true := by decide
  have e1 : ∀ x : PyData, endM h (.ok (.rt (.d x)) h1) = .ok (.d x) h1 := fun x => by rw [hh1]; exact end_set0 clos_LI htl
  have m2 : m < 1073741824 := by omega
  cases hn : ns.isEmpty with
  | true =>
    have : ns = [] := by simpa using hn
    subst this
    refine ⟨(q + 1) * (q + 1) * 7 / 3 % m, t1, ?_, Int.emod_nonneg _ (by omega), Int.emod_lt_of_pos _ m0, W1⟩
    have hsh := sh_ints (is := [])
    have hev := eqv_dI_nil (is := [])
    rw [← hh1]
    simp [t_law_draw, i0, bop, bAdd, s0, kLstD, allD, sizeLine, cmp, cEq, peek, hsh, sh_nil, hev, j0, bMul, sm, sm7, bDiv, bMod, m0, e1]
  | false =>
    have hl : 0 < ns.length := by cases ns with
      | nil => cases hn
      | cons a b => simp
    obtain ⟨p, hp⟩ : ∃ p, p = (q + 1) % (ns.length : Int) := ⟨_, rfl⟩
    have p0 : 0 ≤ p := by rw [hp]; exact Int.emod_nonneg _ (by omega)
    have p1 : p < ns.length := by rw [hp]; exact Int.emod_lt_of_pos _ (by omega)
    have j1 := ix_LI (i := 1 + p) ht2 (by omega) (by omega)
    obtain ⟨lf, hlf⟩ : ∃ lf, lf = t1.getD (1 + p).toNat 0 := ⟨_, rfl⟩
    rw [← hlf] at j1
    have j2 := fun h => ix_dI (h := h) (i := p) p0 p1
    obtain ⟨sp, hsp⟩ : ∃ sp, sp = ns.getD p.toNat 0 := ⟨_, rfl⟩
    rw [← hsp] at j2
    have hln : ∀ h, fLen [.d (dI ns)] h = .ok (.d (.int ns.length)) h := fun h => by simp [fLen, dI]
    have hlp : (0 : Int) < (ns.length : Int) := by omega
    have hpw : ∀ h, bPow (.d (.int 10)) (.d (.int 18)) h = .ok (.d (.int (10 ^ 18))) h := fun h => rfl
    have hsh := sh_ints (is := ns)
    have hev := eqv_dI_nil (is := ns)
    rw [hn] at hev
    by_cases big : 10 ^ 18 ≤ sp ∧ 0 < lf
    · have s1 := set_LI (v := lf / m) (i := 1 + p) ht2 (by omega) (by omega)
      refine ⟨lf % m, t1.set (1 + p).toNat (lf / m), ?_, Int.emod_nonneg _ (by omega), Int.emod_lt_of_pos _ m0, ?_⟩
      · have e2 : ∀ x : PyData, endM h (.ok (.rt (.d x)) (h1.set t (LI (t1.set (1 + p).toNat (lf / m))))) = .ok (.d x) (h.set t (LI (t1.set (1 + p).toNat (lf / m)))) := fun x => by
          rw [hh1, List.set_set]; exact end_set0 clos_LI htl
        have b1 : decide (10 ^ 18 ≤ sp) = true := decide_eq_true big.1
        have b2 : decide (0 < lf) = true := decide_eq_true big.2
        simp [-Int.reducePow, t_law_draw, i0, bop, bAdd, s0, kLstD, allD, sizeLine, cmp, cEq, peek, hsh, sh_nil, hev, j0, hln, bMod, hl, hlp, ← hp, j1, j2, hpw, cInt, b1, b2, big.1, big.2, bDiv, m0, m2, s1, e2]
      · refine ⟨by rw [List.length_set]; exact l1, ?_, ?_⟩
        · rw [show (t1.set (1 + p).toNat (lf / m)).getD 0 0 = t1.getD 0 0 from getD_set0 (by omega)]; exact W1.lo
        · rw [show (t1.set (1 + p).toNat (lf / m)).getD 0 0 = t1.getD 0 0 from getD_set0 (by omega)]; exact W1.hi
    · obtain ⟨u, hu⟩ : ∃ u, u = (sp + 104729 * (q + 1)) % 4294967291 := ⟨_, rfl⟩
      have u0 : 0 ≤ u := by rw [hu]; exact Int.emod_nonneg _ (by decide)
      have u1 : u < 4294967291 := by rw [hu]; exact Int.emod_lt_of_pos _ (by decide)
      have hpu : ∀ h, bPow (.d (.int u)) (.d (.int 5)) h = .ok (.d (.int (u ^ 5))) h := fun h => by
        unfold bPow
        simp only
        rw [if_pos (by simp; omega)]; rfl
      obtain ⟨v, hv⟩ : ∃ v, v = u ^ 5 % 4294967279 := ⟨_, rfl⟩
      refine ⟨(v / 64 * 69621 + v) % 4294967231 / 8 % m, t1, ?_, Int.emod_nonneg _ (by omega), Int.emod_lt_of_pos _ m0, W1⟩
      rw [← hh1]
      by_cases b1 : 10 ^ 18 ≤ sp
      · have b2 : ¬ 0 < lf := fun z => big ⟨b1, z⟩
        simp [-Int.reducePow, t_law_draw, i0, bop, bAdd, s0, kLstD, allD, sizeLine, cmp, cEq, peek, hsh, sh_nil, hev, j0, hln, bMod, hl, hlp, ← hp, j1, j2, hpw, cInt, b1, b2, bDiv, m0, m2, bMul, smk, smh, ← hu, hpu, ← hv, e1]
      · simp [-Int.reducePow, t_law_draw, i0, bop, bAdd, s0, kLstD, allD, sizeLine, cmp, cEq, peek, hsh, sh_nil, hev, j0, hln, bMod, hl, hlp, ← hp, j1, j2, hpw, cInt, b1, bDiv, m0, m2, bMul, smk, smh, ← hu, hpu, ← hv, e1]
where
  getD_set0 {l : List Int} {i : Nat} {v : Int} (h : 0 < i) : (l.set i v).getD 0 0 = l.getD 0 0 := by
    cases l with
    | nil => rfl
    | cons a b => cases i with
      | zero => omega
      | succ i => rfl
end Ev
set_option Elab.async false
set_option linter.all false
set_option maxHeartbeats 400000
/-! U1: terms, fillings, stores as plain mathematics. -/
namespace Ev
open PySem
inductive Tm where
  | num (i : Int)
  | word (s : Str)
  | name (n : Nat)
  | tree (f : Str) (as : List Tm)
namespace Tm
theorem ind {P : Tm → Prop} (h1 : ∀ i, P (.num i)) (h2 : ∀ s, P (.word s)) (h3 : ∀ n, P (.name n)) (h4 : ∀ f as, (∀ a ∈ as, P a) → P (.tree f as)) : ∀ t, P t
  | .num i => h1 i
  | .word s => h2 s
  | .name n => h3 n
  | .tree f as => h4 f as (go as)
where
  go : ∀ (as : List Tm), ∀ a ∈ as, P a
    | [], _, m => by cases m
    | b :: bs, a, m => by
      rcases List.mem_cons.mp m with e | m
      · rw [e]; exact ind h1 h2 h3 h4 b
      · exact go bs a m
mutual
def app (σ : Nat → Tm) : Tm → Tm
  | .num i => .num i
  | .word s => .word s
  | .name n => σ n
  | .tree f as => .tree f (appL σ as)
def appL (σ : Nat → Tm) : List Tm → List Tm
  | [] => []
  | a :: as => app σ a :: appL σ as
end
theorem appL_eq {σ : Nat → Tm} : ∀ as, appL σ as = as.map (app σ)
  | [] => by simp [appL]
  | a :: as => by simp [appL, appL_eq as]
theorem app_tree {σ : Nat → Tm} {f : Str} {as : List Tm} : app σ (.tree f as) = .tree f (as.map (app σ)) := by rw [app, appL_eq]
@[simp] theorem app_num {σ : Nat → Tm} {i : Int} : app σ (.num i) = .num i := by rw [app]
@[simp] theorem app_word {σ : Nat → Tm} {i : Str} : app σ (.word i) = .word i := by rw [app]
@[simp] theorem app_name {σ : Nat → Tm} {i : Nat} : app σ (.name i) = σ i := by rw [app]
mutual
def size : Tm → Nat
  | .num _ => 1
  | .word _ => 1
  | .name _ => 1
  | .tree _ as => 1 + sizeL as
def sizeL : List Tm → Nat
  | [] => 0
  | a :: as => size a + sizeL as
end
theorem sizeL_eq : ∀ as, sizeL as = (as.map size).sum
  | [] => by simp [sizeL]
  | a :: as => by simp [sizeL, sizeL_eq as]
theorem size_tree {f : Str} {as : List Tm} : size (.tree f as) = 1 + (as.map size).sum := by rw [size, sizeL_eq]
theorem size_pos (t : Tm) : 0 < size t := by cases t <;> simp [size] <;> omega
mutual
def has (n : Nat) : Tm → Bool
  | .num _ => false
  | .word _ => false
  | .name m => decide (m = n)
  | .tree _ as => hasL n as
def hasL (n : Nat) : List Tm → Bool
  | [] => false
  | a :: as => has n a || hasL n as
end
theorem hasL_eq {n : Nat} : ∀ as, hasL n as = as.any (has n)
  | [] => by simp [hasL]
  | a :: as => by simp [hasL, hasL_eq as]
theorem has_tree {n : Nat} {f : Str} {as : List Tm} : has n (.tree f as) = as.any (has n) := by rw [has, hasL_eq]
mutual
def depth : Tm → Nat
  | .num _ => 1
  | .word _ => 1
  | .name _ => 1
  | .tree _ as => 1 + depthL as
def depthL : List Tm → Nat
  | [] => 0
  | a :: as => max (depth a) (depthL as)
end
theorem depth_le {a : Tm} : ∀ {as : List Tm}, a ∈ as → depth a ≤ depthL as
  | b :: bs, m => by
    rcases List.mem_cons.mp m with e | m
    · rw [e]; simp only [depthL]; omega
    · have := depth_le m; simp only [depthL]; omega
theorem depthL_le {n : Nat} : ∀ {as : List Tm}, (∀ a ∈ as, depth a ≤ n) → depthL as ≤ n
  | [], _ => by simp [depthL]
  | a :: as, h => by
    have h1 := h a (by simp)
    have h2 := depthL_le (as := as) fun b hb => h b (by simp [hb])
    simp only [depthL]; omega
theorem depth_pos (t : Tm) : 0 < depth t := by cases t <;> simp [depth] <;> omega
theorem app_congr {σ τ : Nat → Tm} : ∀ t, (∀ n, has n t = true → σ n = τ n) → app σ t = app τ t := by
  refine ind ?_ ?_ ?_ ?_
  · intro i _; simp
  · intro i _; simp
  · intro n h; simp; exact h n (by simp [has])
  · intro f as ih h
    rw [app_tree, app_tree]
    congr 1
    refine List.map_congr_left fun a ha => ih a ha fun n hn => h n ?_
    rw [has_tree, List.any_eq_true]; exact ⟨a, ha, hn⟩
theorem app_comp {σ τ : Nat → Tm} : ∀ t, app σ (app τ t) = app (fun n => app σ (τ n)) t := by
  refine ind ?_ ?_ ?_ ?_
  · intro i; simp
  · intro i; simp
  · intro n; simp
  · intro f as ih
    rw [app_tree, app_tree, app_tree, List.map_map]
    congr 1
    exact List.map_congr_left fun a ha => ih a ha
theorem app_id : ∀ t, app Tm.name t = t := by
  refine ind ?_ ?_ ?_ ?_
  · intro i; simp
  · intro i; simp
  · intro n; simp
  · intro f as ih
    rw [app_tree]
    congr 1
    exact (List.map_congr_left fun a ha => ih a ha).trans (List.map_id as)
theorem has_app {σ : Nat → Tm} {n : Nat} : ∀ t, has n (app σ t) = true ↔ ∃ m, has m t = true ∧ has n (σ m) = true := by
  refine ind ?_ ?_ ?_ ?_
  · intro i; simp [has]
  · intro i; simp [has]
  · intro m; simp [has]
  · intro f as ih
    rw [app_tree, has_tree, List.any_map, List.any_eq_true]
    constructor
    · rintro ⟨a, ha, h⟩
      obtain ⟨m, h1, h2⟩ := (ih a ha).mp h
      exact ⟨m, by rw [has_tree, List.any_eq_true]; exact ⟨a, ha, h1⟩, h2⟩
    · rintro ⟨m, h1, h2⟩
      rw [has_tree, List.any_eq_true] at h1
      obtain ⟨a, ha, h1⟩ := h1
      exact ⟨a, ha, (ih a ha).mpr ⟨m, h1, h2⟩⟩
theorem sum_ge {α : Type} {f : α → Nat} {a : α} : ∀ {l : List α}, a ∈ l → f a ≤ (l.map f).sum
  | b :: l, m => by
    rcases List.mem_cons.mp m with e | m
    · rw [e]; simp
    · have := sum_ge (f := f) m; simp; omega
theorem size_has {σ : Nat → Tm} {n : Nat} : ∀ t, has n t = true → size (σ n) ≤ size (app σ t) := by
  refine ind ?_ ?_ ?_ ?_
  · intro i h; simp [has] at h
  · intro i h; simp [has] at h
  · intro m h; simp [has] at h; subst h; simp
  · intro f as ih h
    rw [has_tree, List.any_eq_true] at h
    obtain ⟨a, ha, h⟩ := h
    have h1 := ih a ha h
    rw [app_tree, size_tree, List.map_map]
    have := sum_ge (f := size ∘ app σ) ha
    simp only [Function.comp] at this ⊢
    omega
theorem size_has_tree {σ : Nat → Tm} {n : Nat} {f : Str} {as : List Tm} (h : has n (.tree f as) = true) : size (σ n) < size (app σ (.tree f as)) := by
  rw [has_tree, List.any_eq_true] at h
  obtain ⟨a, ha, h⟩ := h
  have h1 := size_has (σ := σ) a h
  rw [app_tree, size_tree, List.map_map]
  have := sum_ge (f := size ∘ app σ) ha
  simp only [Function.comp] at this ⊢
  omega
end Tm
/-! ### stores -/
abbrev Bd := Nat → Option Tm
def Sol (fs : Bd) (θ : Nat → Tm) : Prop := ∀ i t, fs i = some t → θ i = t.app θ
def Acy (fs : Bd) (rk : Nat → Nat) : Prop := ∀ i t, fs i = some t → ∀ n, t.has n = true → rk n < rk i
/-- a term with what is told in the place of its names, so many times -/
def res (fs : Bd) : Nat → Tm → Tm
  | 0, t => t
  | d + 1, t => t.app fun n => match fs n with
    | some u => res fs d u
    | none => .name n
theorem res_name_none {fs : Bd} {d n : Nat} (h : fs n = none) : res fs d (.name n) = .name n := by
  cases d with
  | zero => rfl
  | succ d => simp [res, h]
theorem res_name_some {fs : Bd} {d n : Nat} {u : Tm} (h : fs n = some u) : res fs (d + 1) (.name n) = res fs d u := by simp [res, h]
theorem res_app {fs : Bd} {d : Nat} {t : Tm} : res fs (d + 1) t = t.app fun n => res fs (d + 1) (.name n) := by
  show t.app _ = t.app _
  refine Tm.app_congr t fun n _ => ?_
  cases h : fs n with
  | none => rw [res_name_none h]
  | some u => rw [res_name_some h]
theorem res_num {fs : Bd} {d : Nat} {i : Int} : res fs d (.num i) = .num i := by cases d <;> simp [res]
theorem res_word {fs : Bd} {d : Nat} {i : Str} : res fs d (.word i) = .word i := by cases d <;> simp [res]
theorem res_tree {fs : Bd} {d : Nat} {f : Str} {as : List Tm} : res fs d (.tree f as) = .tree f (as.map (res fs d)) := by
  cases d with
  | zero =>
    show Tm.tree f as = .tree f (as.map fun t => t)
    rw [List.map_id']
  | succ d =>
    show Tm.app _ _ = _
    rw [Tm.app_tree]; rfl
theorem sol_res {fs : Bd} {θ : Nat → Tm} (hs : Sol fs θ) : ∀ d t, (res fs d t).app θ = t.app θ := by
  intro d
  induction d with
  | zero => intro t; rfl
  | succ d ih =>
    intro t
    show (t.app _).app θ = t.app θ
    rw [Tm.app_comp]
    refine Tm.app_congr t fun n _ => ?_
    cases h : fs n with
    | none => simp
    | some u => rw [ih u, hs n u h]
theorem res_stab {fs : Bd} {rk : Nat → Nat} (ha : Acy fs rk) : ∀ d t, (∀ n, t.has n = true → rk n < d) → res fs (d + 1) t = res fs d t := by
  intro d
  induction d with
  | zero =>
    intro t h
    show t.app _ = t
    refine (Tm.app_congr t fun n hn => absurd (h n hn) (by omega)).trans (Tm.app_id t)
  | succ d ih =>
    intro t h
    show t.app _ = t.app _
    refine Tm.app_congr t fun n hn => ?_
    cases hf : fs n with
    | none => rfl
    | some u =>
      refine ih u fun m hm => ?_
      have := ha n u hf m hm
      have := h n hn
      omega
theorem res_stab' {fs : Bd} {rk : Nat → Nat} (ha : Acy fs rk) {d e : Nat} {t : Tm} (h : ∀ n, t.has n = true → rk n < d) (he : d ≤ e) : res fs e t = res fs d t := by
  obtain ⟨k, rfl⟩ : ∃ k, e = d + k := ⟨e - d, by omega⟩
  induction k with
  | zero => rfl
  | succ k ih => exact (res_stab ha (d + k) t fun n hn => by have := h n hn; omega).trans (ih (by omega))
/-- the store's own filling -/
def rho (fs : Bd) (d : Nat) (n : Nat) : Tm := res fs d (.name n)
theorem rho_sol {fs : Bd} {rk : Nat → Nat} {D : Nat} (ha : Acy fs rk) (hD : ∀ n, rk n < D) : Sol fs (rho fs D) := fun i t h => by
  cases D with
  | zero => exact absurd (hD 0) (by omega)
  | succ d =>
    show res fs (d + 1) (.name i) = t.app fun n => res fs (d + 1) (.name n)
    rw [res_name_some h, ← res_app]
    refine (res_stab ha d t fun n hn => ?_).symm
    have := ha i t h n hn
    have := hD i
    omega
theorem rho_app {fs : Bd} {D : Nat} (hD : 0 < D) (t : Tm) : t.app (rho fs D) = res fs D t := by
  cases D with
  | zero => omega
  | succ d => exact res_app.symm
/-- which names are left: not told ones -/
theorem res_free {fs : Bd} {rk : Nat → Nat} (ha : Acy fs rk) : ∀ d t, (∀ n, t.has n = true → rk n < d) → ∀ n, (res fs d t).has n = true → fs n = none := by
  intro d
  induction d with
  | zero => intro t h n hn; exact absurd (h n hn) (by omega)
  | succ d ih =>
    intro t h n hn
    obtain ⟨m, h1, h2⟩ := (Tm.has_app t).mp hn
    cases hf : fs m with
    | none =>
      rw [hf] at h2
      have : m = n := by simpa [Tm.has] using h2
      rw [← this]; exact hf
    | some u =>
      rw [hf] at h2
      exact ih u (fun k hk => by have := ha m u hf k hk; have := h m h1; omega) n h2
/-! ### a name is told -/
def tellB (fs : Bd) (n : Nat) (t : Tm) : Bd := fun i => if i = n then some t else fs i
theorem sol_tell {fs : Bd} {n : Nat} {t : Tm} {θ : Nat → Tm} (hn : fs n = none) : Sol (tellB fs n t) θ ↔ Sol fs θ ∧ θ n = t.app θ := by
  constructor
  · intro h
    refine ⟨fun i u hu => h i u ?_, h n t (if_pos rfl)⟩
    unfold tellB
    rw [if_neg (fun e => by rw [e, hn] at hu; cases hu)]; exact hu
  · rintro ⟨h1, h2⟩ i u hu
    unfold tellB at hu
    split at hu
    · rename_i e; cases hu; rw [e]; exact h2
    · exact h1 i u hu
theorem acy_tell {fs : Bd} {rk : Nat → Nat} {D n : Nat} {t : Tm} (ha : Acy fs rk) (hD : ∀ n, rk n < D) (hn : fs n = none) (ho : (res fs D t).has n = false) : ∃ rk' : Nat → Nat, Acy (tellB fs n t) rk' := by
  refine ⟨fun m => if (rho fs D m).has n = true then rk m + D else rk m, fun i u hu m hm => ?_⟩
  have D0 : 0 < D := by have := hD 0; omega
  unfold tellB at hu
  split at hu
  · rename_i e
    cases hu
    subst e
    have h1 : (rho fs D i).has i = true := by unfold rho; rw [res_name_none hn]; simp [Tm.has]
    have h2 : ¬ (rho fs D m).has i = true := fun q => by
      have : (res fs D t).has i = true := by rw [← rho_app D0]; exact (Tm.has_app t).mpr ⟨m, hm, q⟩
      rw [ho] at this; cases this
    simp only [if_pos h1, if_neg h2]
    have := hD m
    omega
  · have h0 := ha i u hu m hm
    have hi : rho fs D i = u.app (rho fs D) := rho_sol ha hD i u hu
    by_cases q : (rho fs D m).has n = true
    · have q2 : (rho fs D i).has n = true := by rw [hi]; exact (Tm.has_app u).mpr ⟨m, hm, q⟩
      simp only [if_pos q, if_pos q2]; omega
    · simp only [if_neg q]
      split <;> omega
/-- nothing makes a name and a tree with it alike -/
theorem no_cycle {fs : Bd} {D n : Nat} {f : Str} {as : List Tm} {θ : Nat → Tm} (hs : Sol fs θ) (h : (res fs D (.tree f as)).has n = true) : θ n ≠ (Tm.tree f as).app θ := fun e => by
  rw [← sol_res hs D] at e
  rw [res_tree] at e h
  have := Tm.size_has_tree (σ := θ) h
  rw [← e] at this
  omega
/-! ### only one least filling -/
def Least (fs : Bd) (ρ : Nat → Tm) : Prop := (∀ θ, Sol fs θ ↔ ∀ n, (ρ n).app θ = θ n)
theorem rho_most {fs : Bd} {rk : Nat → Nat} {D : Nat} (ha : Acy fs rk) (hD : ∀ n, rk n < D) : Least fs (rho fs D) := fun θ => by
  have D0 : 0 < D := by have := hD 0; omega
  constructor
  · intro h n; exact sol_res h D (.name n)
  · intro h i t ht
    have e := rho_sol ha hD i t ht
    rw [← h i, e, Tm.app_comp]
    exact Tm.app_congr t fun n _ => h n
theorem least_eq {S S' : (Nat → Tm) → Prop} {ρ ρ' : Nat → Tm} (h : ∀ θ, S θ ↔ ∀ n, (ρ n).app θ = θ n) (h' : ∀ θ, S' θ ↔ ∀ n, (ρ' n).app θ = θ n) (hss : ∀ θ, S θ ↔ S' θ) (hi : S ρ) (hi' : S' ρ')
    (low : ∀ n m, ρ n = .name m → m ≤ n) (low' : ∀ n m, ρ' n = .name m → m ≤ n) : ρ = ρ' := by
  have e1 : ∀ n, (ρ' n).app ρ = ρ n := (h' ρ).mp ((hss ρ).mp hi)
  have e2 : ∀ n, (ρ n).app ρ' = ρ' n := (h ρ').mp ((hss ρ').mpr hi')
  have e3 : ∀ n, (ρ n).app ρ = ρ n := (h ρ).mp hi
  -- a name that is left by the one is left by the other
  have key : ∀ y n, (ρ n).has y = true → ρ' y = .name y := fun y n hy => by
    have fy : ρ y = .name y := left ρ (e3 n) y hy
    have q := e1 y
    rw [fy] at q
    cases hz : ρ' y with
    | num i => rw [hz] at q; simp at q
    | word i => rw [hz] at q; simp at q
    | tree f as => rw [hz, Tm.app_tree] at q; cases q
    | name z =>
      rw [hz] at q
      have qz : ρ z = .name y := by simpa using q
      have l1 : y ≤ z := low z y qz
      have l2 : z ≤ y := low' y z hz
      have : z = y := by omega
      rw [this]
  funext n
  rw [← e2 n]
  refine ((Tm.app_congr (ρ n) fun y hy => key y n hy).trans (Tm.app_id _)).symm
where
  left (ρ : Nat → Tm) : ∀ {t : Tm}, t.app ρ = t → ∀ y, t.has y = true → ρ y = .name y := by
    intro t
    refine Tm.ind (P := fun t => t.app ρ = t → ∀ y, t.has y = true → ρ y = .name y) ?_ ?_ ?_ ?_ t
    · intro i _ y h; simp [Tm.has] at h
    · intro i _ y h; simp [Tm.has] at h
    · intro m e y h
      have : m = y := by simpa [Tm.has] using h
      subst this; simpa using e
    · intro f as ih e y h
      rw [Tm.app_tree] at e
      injection e with _ e
      rw [Tm.has_tree, List.any_eq_true] at h
      obtain ⟨a, ha, h⟩ := h
      refine ih a ha ?_ y h
      have : ∀ (l : List Tm), l.map (Tm.app ρ) = l → ∀ a ∈ l, a.app ρ = a := by
        intro l
        induction l with
        | nil => intro _ a m; cases m
        | cons b bs ih2 =>
          intro e a m
          simp only [List.map_cons, List.cons.injEq] at e
          rcases List.mem_cons.mp m with q | q
          · rw [q]; exact e.1
          · exact ih2 e.2 a q
      exact this as e a ha
end Ev
set_option Elab.async false
set_option linter.all false
set_option maxRecDepth 100000
set_option maxHeartbeats 1000000
namespace Ev
open PySem PySem.Spec PyProof.Rows L2 He
/-! ### texts, words -/
def isInt : PyData → Bool
  | .int _ => true
  | _ => false
theorem r_is_int {k : Nat} {x : PyData} {h : AH} (hk : 1 ≤ k) : call k (pl "is_int") [.d x] h = .ok (.d (.bool (isInt x))) h := by
  obtain ⟨k, rfl⟩ : ∃ j, k = j + 1 := ⟨k - 1, by omega⟩
  rw [c_is_int]
  cases x <;> simp [t_is_int, isiM, tyName, isSub, isInt]
def letters : List Nat := (("abcdefghijklmnopqrstuvwxyz" : Str)).cps.toList
theorem in_letter {c : Nat} : inStr ⟨#[c]⟩ "abcdefghijklmnopqrstuvwxyz" = decide (c ∈ letters) := rfl
def isW (s : Str) : Bool := decide (1 ≤ s.length) && decide (s.length ≤ 8) && s.cps.toList.all fun c => decide (c ∈ letters)
def isWd : PyData → Bool
  | .str s => isW s
  | _ => false
/-- a comprehension as data, whose items change nothing -/
theorem out_l {h : AH} {ds : List PyData} : outM h (.r h.length) (h ++ [.lst (ds.map .d)]) = .ok (.d (.list ds)) h := end_l1 (j := [])
theorem lcD {t : Tg} {mi : EnvW → M Src} {tt : EnvW → M Bool} {el : ME} {env : EnvW} {h : AH} {ws : List W} {f : W → Option PyData} (hs : mi env h = .ok (ws, none) h) (hl : ws.length ≤ 100000)
    (hw : ∀ w ∈ ws, ∃ e1, tgM t w (wipeW env t.slots) = some e1 ∧ ∀ acc : List W, (match f w with
      | some y => tt e1 (h ++ [.lst acc]) = .ok true (h ++ [.lst acc]) ∧ el e1 (h ++ [.lst acc]) = .ok (.d y) (h ++ [.lst acc])
      | none => tt e1 (h ++ [.lst acc]) = .ok false (h ++ [.lst acc]))) :
    eOut (eLC t mi tt el) env h = .ok (.d (.list (ws.filterMap f))) h := by
  have q := lc_ap (f := fun w => (f w).map W.d) hs (Nat.le_trans hl (by decide)) (tt := tt) (el := el) fun w hw' acc => by
    obtain ⟨e1, h1, h2⟩ := hw w hw'
    refine ⟨e1, h1, ?_⟩
    have := h2 acc
    cases hf : f w with
    | none => simp only [hf, Option.map_none] at this ⊢; exact this
    | some y => simp only [hf, Option.map_some] at this ⊢; exact this
  have e : ws.filterMap (fun w => (f w).map W.d) = (ws.filterMap f).map W.d := by rw [List.map_filterMap]
  rw [e] at q
  rw [eOut_ap q, out_l]
theorem r_is_word {k : Nat} {x : PyData} {h : AH} (hk : 1 ≤ k) (hx : ∀ s, x = .str s → s.length ≤ 1000) : call k (pl "is_word") [.d x] h = .ok (.d (.bool (isWd x))) h := by
  obtain ⟨k, rfl⟩ : ∃ j, k = j + 1 := ⟨k - 1, by omega⟩
  rw [c_is_word]
  cases x with
  | str s =>
    have hs0 := hx s rfl
    have hs : s.length ≤ sizeLine := Nat.le_trans hs0 (by decide)
    by_cases h1 : 1 ≤ s.length
    · by_cases h2 : s.length ≤ 8
      · have hlc : eOut (eLC (.n 1) (iVal (mVar 0)) tTrue (eCmp .In (mVar 1) (mC (.d (.str "abcdefghijklmnopqrstuvwxyz"))))) [some (.d (.str s)), none] h = .ok (.d (.list (s.cps.toList.map fun c => PyData.bool (decide (c ∈ letters))))) h := by
          refine (lcD (f := fun w => match w with | .d (.str z) => some (.bool (inStr z "abcdefghijklmnopqrstuvwxyz")) | _ => none) (ws := s.cps.toList.map fun c => .d (.str ⟨#[c]⟩)) (by simp [srcM]) (by simp; exact Nat.le_trans hs0 (by decide)) ?_).trans ?_
          · intro w hw
            obtain ⟨c, _, rfl⟩ := List.mem_map.mp hw
            exact ⟨_, rfl, fun acc => by simp [wipeW, Tg.slots, cmp, cIn]⟩
          · rw [List.filterMap_map]
            simp [Function.comp_def, in_letter]
        have g1 : decide ((1 : Int) ≤ (s.length : Int)) = true := by simp; omega
        have g2 : decide ((s.length : Int) ≤ 8) = true := by simp; omega
        simp [-eLC_ap, -List.map_map, t_is_word, isiM, tyName, isSub, isWd, isW, fLen, hs, cmp, cLe, h1, h2, g1, g2, ↓hlc, fAll, listD, peek, boolsMap]
      · have g1 : decide ((1 : Int) ≤ (s.length : Int)) = true := by simp; omega
        have g2 : decide ((s.length : Int) ≤ 8) = false := by simp; omega
        simp [t_is_word, isiM, tyName, isSub, isWd, isW, fLen, hs, cmp, cLe, h1, h2, g1, g2]
    · have g1 : decide ((1 : Int) ≤ (s.length : Int)) = false := by simp; omega
      simp [t_is_word, isiM, tyName, isSub, isWd, isW, fLen, hs, cmp, cLe, h1, g1]
  | _ => simp [t_is_word, isiM, tyName, isSub, isWd]
/-! ### terms as data -/
mutual
def enc : Tm → PyData
  | .num i => .int i
  | .word s => .str s
  | .name n => .tuple [.str "?", .int n]
  | .tree f as => .tuple (.str f :: encL as)
def encL : List Tm → List PyData
  | [] => []
  | a :: as => enc a :: encL as
end
theorem encL_eq : ∀ as, encL as = as.map enc
  | [] => by simp [encL]
  | a :: as => by simp [encL, encL_eq as]
@[simp] theorem enc_num {i : Int} : enc (.num i) = .int i := by rw [enc]
@[simp] theorem enc_word {i : Str} : enc (.word i) = .str i := by rw [enc]
@[simp] theorem enc_name {i : Nat} : enc (.name i) = .tuple [.str "?", .int i] := by rw [enc]
@[simp] theorem enc_tree {f : Str} {as : List Tm} : enc (.tree f as) = .tuple (.str f :: as.map enc) := by rw [enc, encL_eq]
namespace Tm
def isName : Tm → Bool
  | .name _ => true
  | _ => false
def isTree : Tm → Bool
  | .tree _ _ => true
  | _ => false
mutual
/-- words are words, trees have one to four terms -/
def ok : Tm → Bool
  | .num _ => true
  | .word s => isW s
  | .name _ => true
  | .tree f as => isW f && (decide (1 ≤ as.length) && (decide (as.length ≤ 4) && okL as))
def okL : List Tm → Bool
  | [] => true
  | a :: as => ok a && okL as
end
theorem okL_iff : ∀ {as : List Tm}, okL as = true ↔ ∀ a ∈ as, ok a = true
  | [] => by simp [okL]
  | a :: as => by simp [okL, okL_iff (as := as)]
theorem ok_tree {f : Str} {as : List Tm} : ok (.tree f as) = true ↔ isW f = true ∧ 1 ≤ as.length ∧ as.length ≤ 4 ∧ ∀ a ∈ as, ok a = true := by
  rw [ok]; simp only [Bool.and_eq_true, decide_eq_true_eq, okL_iff]
end Tm
theorem isW_len {s : Str} (h : isW s = true) : s.length ≤ 8 := by
  unfold isW at h; simp at h; omega
theorem isW_q : isW "?" = false := by decide +kernel
theorem isW_nq {s : Str} (h : isW s = true) : (s == ("?" : Str)) = false := by
  cases q : (s == ("?" : Str)) with
  | false => rfl
  | true => rw [eq_of_beq q, isW_q] at h; cases h
theorem okS_iff {s : Str} : (PyData.str s).canLay0 = true ↔ ∀ c ∈ s.cps.toList, c < 0x110000 := by
  show (s.cps.all fun x => decide (x < 0x110000)) = true ↔ _
  rw [Array.all_eq_true']
  simp
theorem letter_lt {c : Nat} (h : c ∈ letters) : c < 0x110000 := by
  have : ∀ c ∈ letters, c < 0x110000 := by decide +kernel
  exact this c h
theorem isW_lay {s : Str} (h : isW s = true) : (PyData.str s).canLay0 = true := okS_iff.mpr fun c hc => by
  unfold isW at h
  simp only [Bool.and_eq_true, List.all_eq_true, decide_eq_true_eq] at h
  exact letter_lt (h.2 c hc)
theorem enc_lay : ∀ t, Tm.ok t = true → (enc t).canLay0 = true := by
  refine Tm.ind ?_ ?_ ?_ ?_
  · intro i _; simp [PyData.canLay0]
  · intro s h; rw [enc_word]; exact isW_lay (by simpa [Tm.ok] using h)
  · intro n _; rw [enc_name]; exact (show ((PyData.str "?").canLay0 && ((PyData.int n).canLay0 && true)) = true by rw [show (PyData.str "?").canLay0 = true from by decide +kernel]; simp [PyData.canLay0])
  · intro f as ih h
    obtain ⟨h1, h2, h3, h4⟩ := Tm.ok_tree.mp h
    rw [enc_tree]
    simp only [PyData.canLay0]
    refine canAll fun y hy => ?_
    rcases List.mem_cons.mp hy with e | hy
    · rw [e]; exact isW_lay h1
    · obtain ⟨a, ha, rfl⟩ := List.mem_map.mp hy
      exact ih a ha (h4 a ha)
theorem enc_dep : ∀ t, (enc t).depth ≤ t.depth := by
  refine Tm.ind ?_ ?_ ?_ ?_
  · intro i; simp [PyData.depth]
  · intro i; simp [PyData.depth]
  · intro i; simp [PyData.depth, PyData.depthAll, Tm.depth]
  · intro f as ih
    rw [enc_tree]
    have : PyData.depthAll (.str f :: as.map enc) ≤ Tm.depthL as := by
      refine depAll fun y hy => ?_
      rcases List.mem_cons.mp hy with e | hy
      · rw [e]; simp [PyData.depth]
      · obtain ⟨a, ha, rfl⟩ := List.mem_map.mp hy
        exact Nat.le_trans (ih a ha) (Tm.depth_le ha)
    simp only [PyData.depth, Tm.depth]; omega
theorem enc_sh {t : Tm} (h : t.ok = true) (hd : t.depth ≤ 64) : SeqAt.shaped (enc t) = true := by
  unfold SeqAt.shaped
  rw [enc_lay t h, Bool.true_and]
  exact decide_eq_true (Nat.le_trans (enc_dep t) hd)
theorem sh_str {s : Str} (h : isW s = true) : SeqAt.shaped (.str s) = true := by
  unfold SeqAt.shaped
  rw [isW_lay h]; simp [PyData.depth]
theorem enc_short {t : Tm} (h : t.ok = true) : ∀ s, enc t = .str s → s.length ≤ 1000 := fun s e => by
  cases t <;> simp at e
  subst e
  have := isW_len (show isW _ = true by simpa [Tm.ok] using h)
  omega
section
variable {k : Nat} {h : AH} {t : Tm}
theorem isInt_enc : isInt (enc t) = (match t with | .num _ => true | _ => false) := by cases t <;> simp [isInt]
theorem eqv_q {s : Str} (hs : isW s = true) : PyData.eqv (.str s) (.str "?") = false := by rw [eqv_ss]; exact isW_nq hs
theorem eqv_qq : PyData.eqv (.str "?") (.str "?") = true := by decide +kernel
theorem r_is_name (hk : 2 ≤ k) (ht : t.ok = true) : call k (pl "is_name") [.d (enc t)] h = .ok (.d (.bool t.isName)) h := by
  obtain ⟨k, rfl⟩ : ∃ j, k = j + 1 := ⟨k - 1, by omega⟩
  rw [c_is_name]
  cases t with
  | num i => simp [t_is_name, isiM, tyName, isSub, Tm.isName]
  | word s => simp [t_is_name, isiM, tyName, isSub, Tm.isName]
  | name n =>
    have e := r_is_int (k := k) (x := .int n) (h := h) (by omega)
    simp [t_is_name, isiM, tyName, isSub, Tm.isName, fLen, cmp, cEq, peek, sh_int, eqv_ii, ixM, at0, at1, sh_q, eqv_qq, e, isInt, cInt]
  | tree f as =>
    obtain ⟨h1, h2, h3, h4⟩ := Tm.ok_tree.mp ht
    have hs := sh_str h1
    have hq := eqv_q h1
    match as, h2 with
    | [a], _ => simp [t_is_name, isiM, tyName, isSub, Tm.isName, fLen, cmp, cEq, peek, sh_int, eqv_ii, ixM, at0, hs, sh_q, hq]
    | a :: b :: r, _ =>
      have e : decide ((r.length : Int) + 1 + 1 + 1 = 2) = false := by simp; omega
      simp [t_is_name, isiM, tyName, isSub, Tm.isName, fLen, cmp, cEq, peek, sh_int, eqv_ii, e]
theorem r_is_tree (hk : 1 ≤ k) (ht : t.ok = true) : call k (pl "is_tree") [.d (enc t)] h = .ok (.d (.bool t.isTree)) h := by
  obtain ⟨k, rfl⟩ : ∃ j, k = j + 1 := ⟨k - 1, by omega⟩
  rw [c_is_tree]
  cases t with
  | num i => simp [t_is_tree, isiM, tyName, isSub, Tm.isTree]
  | word s => simp [t_is_tree, isiM, tyName, isSub, Tm.isTree]
  | name n => simp [t_is_tree, isiM, tyName, isSub, Tm.isTree, cmp, cEq, peek, ixM, at0, sh_q, eqv_qq]
  | tree f as =>
    obtain ⟨h1, h2, h3, h4⟩ := Tm.ok_tree.mp ht
    have hs := sh_str h1
    have hq := eqv_q h1
    simp [t_is_tree, isiM, tyName, isSub, Tm.isTree, cmp, cEq, peek, ixM, at0, hs, sh_q, hq]
end
end Ev
set_option Elab.async false
set_option linter.all false
set_option maxRecDepth 100000
set_option maxHeartbeats 400000
namespace Ev
open PySem PySem.Spec PyProof.Rows L2 He
/-- a store and its list -/
structure StAt (h : AH) (i j : Nat) (ds : List PyData) : Prop where
  ob : h[i]? = some (.ins "Store" [("found", .r j)])
  ls : h[j]? = some (.lst (ds.map .d))
theorem StAt.lt {h : AH} {i j : Nat} {ds : List PyData} (s : StAt h i j ds) : i < h.length ∧ j < h.length ∧ i ≠ j := by
  have h1 := (List.getElem?_eq_some_iff.mp s.ob).1
  have h2 := (List.getElem?_eq_some_iff.mp s.ls).1
  refine ⟨h1, h2, fun e => ?_⟩
  subst e
  have := s.ob.symm.trans s.ls
  cases this
theorem r_is_number {k : Nat} {m : Int} {h : AH} (h0 : 0 ≤ m) (h1 : m ≤ 1000) : call (k + 1) (pl "is_number") [.d (.int m), .d (.int 0), .d (.int 1000)] h = .ok (.d (.bool true)) h := by
  rw [c_is_number]
  simp [t_is_number, isiM, tyName, isSub, cmp, cLe, h0, h1]
theorem sm62 {m : Nat} (hm : m ≤ 100000) : small62 (m : Int) = true := decide_eq_true (by rw [Int.natAbs_natCast]; omega)
theorem le_sz {m : Nat} (hm : m ≤ 100000) : m ≤ sizeLine := Nat.le_trans hm (by decide)
theorem r_rng1 {m : Nat} {h : AH} (hm : m ≤ 100000) : rng1 [.d (.int m)] h = .ok (rangeL 0 m, none) h := by
  unfold rng1; simp only [sm62 hm, if_true]; rfl
theorem rangeL_len {a : Int} {m : Nat} : (rangeL a m).length = m := by simp [rangeL]
theorem r_init {k m : Nat} {h : AH} (hm : m ≤ 1000) : call (k + 2) ("Store", "__init__") [.r h.length, .d (.int m)] (h ++ [.ins "Store" []]) = .ok (.d .none) (h ++ [.ins "Store" [("found", .r (h.length + 1))], .lst (List.replicate m (.d .none))]) := by
  rw [c_Store___init]
  have e1 : call (k + 1) (pl "is_number") [.d (.int m), .d (.int 0), .d (.int 1000)] (h ++ [.ins "Store" []]) = .ok (.d (.bool true)) (h ++ [.ins "Store" []]) := r_is_number (by omega) (by omega)
  have hlc : eLC (.n 2) (iFun rng1 (aList [mVar 1])) tTrue (mC (.d .none)) [some (.r h.length), some (.d (.int m)), none] (h ++ [.ins "Store" []]) = .ok (.r (h ++ [AO.ins "Store" []]).length) (h ++ [.ins "Store" []] ++ [.lst (List.replicate m (.d .none))]) := by
    refine (lc_ap (f := fun _ => some (.d .none)) (ws := rangeL 0 m) (by simp [r_rng1 (show m ≤ 100000 by omega)]) (by rw [rangeL_len]; exact le_sz (by omega)) ?_).trans ?_
    · intro w hw acc
      exact ⟨_, rfl, by simp⟩
    · have e : (rangeL 0 m).filterMap (fun _ => some (W.d .none)) = List.replicate m (.d .none) := by
        rw [filterMap_some, List.map_const', rangeL, List.length_map, List.length_range]
      rw [e]
  simp [-eLC_ap, t_Store___init, e1, ↓hlc, setFldM, at_l, putW, keepM]
theorem r_new {k m : Nat} {h : AH} (hm : m ≤ 1000) : kNew (call (k + 2)) "Store" [] [.d (.int m)] h = .ok (.r h.length) (h ++ [.ins "Store" [("found", .r (h.length + 1))], .lst (List.replicate m (.d .none))]) := by
  unfold kNew; simp only [List.append_nil, r_init hm]
theorem clos_ds {n : Nat} {ds : List PyData} : (AO.lst (ds.map .d)).clos n := clos_data
end Ev
set_option Elab.async false
set_option linter.all false
set_option maxRecDepth 100000
set_option maxHeartbeats 1000000
namespace Ev
open PySem PySem.Spec PyProof.Rows L2 He
theorem np_is_name : TT.nopos.contains (pl "is_name") = false := by decide +kernel
theorem kVn {CM : FId → List W → M W} {as : EnvW → M (List W)} {env : EnvW} {h : AH} : kV TT CM as env (.fn "is_name") h = mb (as env h) (CM (pl "is_name")) := kV_ap np_is_name
/-! ### count_parts -/
theorem cp_loop {k : Nat} {w0 : W} {h : AH} : ∀ (as : List Tm) (c : Nat) (x : Option W), (∀ a ∈ as, call k (pl "count_parts") [.d (enc a), .fn "is_name"] h = .ok (.d (.int a.size)) h) → c + (as.map Tm.size).sum ≤ 300 →
    ∃ y, floop (.n 3) (sBlock [sAug 2 (eCall (call k) (pl "count_parts") (aList [mVar 3, mVar 1])), sIf (tst (eCmp .Gt (mVar 2) (mC (.d (.int 300))))) (sBlock [sRet (mVar 2)]) (sBlock [])]) (as.map fun a => .d (enc a)) [some w0, some (.fn "is_name"), some (.d (.int c)), x] h = .ok (.nx [some w0, some (.fn "is_name"), some (.d (.int ((c + (as.map Tm.size).sum : Nat) : Int))), y]) h
  | [], c, x, _, _ => ⟨x, by simp⟩
  | a :: as, c, x, ha, hc => by
    have e1 := ha a (by simp)
    simp only [List.map_cons, List.sum_cons] at hc
    obtain ⟨y, ih⟩ := cp_loop (w0 := w0) as (c + a.size) (some (.d (enc a))) (fun b hb => ha b (by simp [hb])) (by omega)
    refine ⟨y, ?_⟩
    have g : ¬ (300 : Int) < (c : Int) + (a.size : Int) := by omega
    have e2 : (((c + a.size : Nat)) : Int) = (c : Int) + (a.size : Int) := by omega
    have e3 : c + a.size + (as.map Tm.size).sum = c + (a.size + (as.map Tm.size).sum) := by omega
    rw [e2, e3] at ih
    simp [e1, iopM, cmp, cInt, g, ih]
theorem r_count {h : AH} : ∀ (t : Tm), t.ok = true → t.size ≤ 300 → ∀ k, t.depth + 2 ≤ k → call k (pl "count_parts") [.d (enc t), .fn "is_name"] h = .ok (.d (.int t.size)) h := by
  refine Tm.ind ?_ ?_ ?_ ?_
  · intro i _ _ k hk
    obtain ⟨k, rfl⟩ : ∃ j, k = j + 1 := ⟨k - 1, by omega⟩
    rw [c_count_parts]
    simp [Tm.depth] at hk
    have e1 := r_is_int (k := k) (x := .int i) (h := h) (by omega)
    simp [t_count_parts, e1, isInt, Tm.size]
  · intro s h1 _ k hk
    obtain ⟨k, rfl⟩ : ∃ j, k = j + 1 := ⟨k - 1, by omega⟩
    rw [c_count_parts]
    simp [Tm.depth] at hk
    have h2 : isW s = true := by simpa [Tm.ok] using h1
    have e1 := r_is_int (k := k) (x := .str s) (h := h) (by omega)
    have e2 := r_is_word (k := k) (x := .str s) (h := h) (by omega) (fun z e => by cases e; have := isW_len h2; omega)
    simp [t_count_parts, e1, isInt, e2, isWd, h2, Tm.size]
  · intro n h1 _ k hk
    obtain ⟨k, rfl⟩ : ∃ j, k = j + 1 := ⟨k - 1, by omega⟩
    rw [c_count_parts]
    simp [Tm.depth] at hk
    have e1 := r_is_int (k := k) (x := .tuple [.str "?", .int n]) (h := h) (by omega)
    have e2 := r_is_word (k := k) (x := .tuple [.str "?", .int n]) (h := h) (by omega) (fun z e => by cases e)
    have e3 := r_is_name (k := k) (t := .name n) (h := h) (by omega) rfl
    rw [enc_name] at e3 ⊢
    simp [t_count_parts, e1, isInt, e2, isWd, kVn, e3, Tm.isName, Tm.size]
  · intro f as ih h1 hz k hk
    obtain ⟨k, rfl⟩ : ∃ j, k = j + 1 := ⟨k - 1, by omega⟩
    rw [c_count_parts]
    simp only [Tm.depth] at hk
    obtain ⟨o1, o2, o3, o4⟩ := Tm.ok_tree.mp h1
    have e1 := r_is_int (k := k) (x := enc (.tree f as)) (h := h) (by omega)
    have e2 := r_is_word (k := k) (x := enc (.tree f as)) (h := h) (by omega) (fun z e => by rw [enc_tree] at e; cases e)
    have e3 := r_is_name (k := k) (t := .tree f as) (h := h) (by omega) h1
    rw [enc_tree] at e1 e2 e3 ⊢
    have e4 := r_is_word (k := k) (x := .str f) (h := h) (by omega) (fun z e => by cases e; have := isW_len o1; omega)
    have g1 : (2 : Int) ≤ (as.length : Int) + 1 := by omega
    have g2 : (as.length : Int) + 1 ≤ 5 := by omega
    rw [Tm.size_tree] at hz ⊢
    obtain ⟨y, lp⟩ := cp_loop (k := k) (w0 := .d (.tuple (.str f :: as.map enc))) (h := h) as 1 none (fun a ha => ih a ha (o4 a ha) (by have := Tm.sum_ge (f := Tm.size) ha; omega) k (by have := Tm.depth_le ha; omega)) hz
    rw [show ((1 : Nat) : Int) = 1 from rfl] at lp
    have lp' := lp
    rw [show (as.map fun a => W.d (enc a)) = (as.map enc).map W.d from by rw [List.map_map]; rfl] at lp'
    simp [-List.map_map, -floop_n, t_count_parts, e1, isInt, e2, isWd, kVn, e3, Tm.isName, isiM, tyName, isSub, fLen, cmp, cLe, g1, g2, ixM, at0, e4, o1, slM, cut1, srcM, lp']
theorem r_is_term {h : AH} {t : Tm} {k : Nat} (h1 : t.ok = true) (h2 : t.size ≤ 300) (hk : t.depth + 3 ≤ k) : call k (pl "is_term") [.d (enc t)] h = .ok (.d (.bool true)) h := by
  obtain ⟨k, rfl⟩ : ∃ j, k = j + 1 := ⟨k - 1, by omega⟩
  rw [c_is_term]
  have e := r_count (h := h) t h1 h2 k (by omega)
  have g : (t.size : Int) ≤ 300 := by omega
  simp [t_is_term, e, cmp, cLe, g]
theorem r_look_term {h : AH} {t : Tm} {k : Nat} (h1 : t.ok = true) (h2 : t.size ≤ 300) (hk : t.depth + 4 ≤ k) : call k (pl "look_term") [.d (enc t)] h = .ok (.d .none) h := by
  obtain ⟨k, rfl⟩ : ∃ j, k = j + 1 := ⟨k - 1, by omega⟩
  rw [c_look_term]
  have e := r_is_term (h := h) (t := t) (k := k) h1 h2 (by omega)
  simp [t_look_term, e]
/-! ### add_names -/
mutual
def addN : Tm → List Int → List Int
  | .num _, is => is
  | .word _, is => is
  | .name n, is => if is.contains (n : Int) then is else is ++ [(n : Int)]
  | .tree _ as, is => addNL as is
def addNL : List Tm → List Int → List Int
  | [], is => is
  | a :: as, is => addNL as (addN a is)
end
theorem addNL_mem {P : Int → Prop} : ∀ (as : List Tm) (is : List Int), (∀ a ∈ as, ∀ is : List Int, (∀ x ∈ is, P x) → ∀ x ∈ addN a is, P x) → (∀ x ∈ is, P x) → ∀ x ∈ addNL as is, P x
  | [], is, _, h => by simpa [addNL] using h
  | a :: as, is, h1, h => by
    rw [addNL]
    exact addNL_mem as _ (fun b hb => h1 b (by simp [hb])) (h1 a (by simp) is h)
theorem addN_mem {P : Int → Prop} : ∀ (t : Tm), (∀ n, t.has n = true → P (n : Int)) → ∀ is : List Int, (∀ x ∈ is, P x) → ∀ x ∈ addN t is, P x := by
  refine Tm.ind ?_ ?_ ?_ ?_
  · intro i _ is h; simpa [addN] using h
  · intro i _ is h; simpa [addN] using h
  · intro n hn is h x hx
    rw [addN] at hx
    split at hx
    · exact h x hx
    · rcases List.mem_append.mp hx with q | q
      · exact h x q
      · simp at q; rw [q]; exact hn n (by simp [Tm.has])
  · intro f as ih hn is h
    rw [addN]
    refine addNL_mem as is (fun a ha is hi => ih a ha (fun n q => hn n ?_) is hi) h
    rw [Tm.has_tree, List.any_eq_true]; exact ⟨a, ha, q⟩
theorem addN_len : ∀ (t : Tm) (is : List Int), (addN t is).length ≤ is.length + t.size := by
  refine Tm.ind ?_ ?_ ?_ ?_
  · intro i is; simp [addN]
  · intro i is; simp [addN]
  · intro n is; rw [addN]; split <;> simp [Tm.size]
  · intro f as ih is
    rw [addN, Tm.size_tree]
    have : ∀ (as : List Tm), (∀ a ∈ as, ∀ is : List Int, (addN a is).length ≤ is.length + a.size) → ∀ is : List Int, (addNL as is).length ≤ is.length + (as.map Tm.size).sum := by
      intro as
      induction as with
      | nil => intro _ is; simp [addNL]
      | cons a as ih2 =>
        intro h is
        have h1 := h a (by simp) is
        have h2 := ih2 (fun b hb => h b (by simp [hb])) (addN a is)
        simp only [addNL, List.map_cons, List.sum_cons]; omega
    have := this as ih is
    omega
theorem an_loop {k j : Nat} {w0 : W} : ∀ (as : List Tm) (is : List Int) (x : Option W) (h : AH), h[j]? = some (LI is) → is.length + (as.map Tm.size).sum ≤ 1000 →
    (∀ a ∈ as, ∀ (is : List Int) (h : AH), h[j]? = some (LI is) → is.length + a.size ≤ 1000 → call k (pl "add_names") [.d (enc a), .r j] h = .ok (.r j) (h.set j (LI (addN a is)))) →
    ∃ y, floop (.n 2) (sBlock [sExpr (eCall (call k) (pl "add_names") (aList [mVar 2, mVar 1]))]) (as.map fun a => .d (enc a)) [some w0, some (.r j), x] h = .ok (.nx [some w0, some (.r j), y]) (h.set j (LI (addNL as is)))
  | [], is, x, h, hj, _, _ => ⟨x, by simp [addNL, set_same hj]⟩
  | a :: as, is, x, h, hj, hl, ha => by
    simp only [List.map_cons, List.sum_cons] at hl
    have e1 := ha a (by simp) is h hj (by omega)
    have hlt : j < h.length := (List.getElem?_eq_some_iff.mp hj).1
    have := addN_len a is
    obtain ⟨y, ih⟩ := an_loop (w0 := w0) as (addN a is) (some (.d (enc a))) (h.set j (LI (addN a is))) (List.getElem?_set_self hlt) (by omega) fun b hb => ha b (by simp [hb])
    refine ⟨y, ?_⟩
    rw [List.set_set] at ih
    simp [e1, ih, addNL]
theorem r_add {j : Nat} : ∀ (t : Tm), t.ok = true → ∀ (k : Nat), t.depth + 2 ≤ k → ∀ (is : List Int) (h : AH), h[j]? = some (LI is) → is.length + t.size ≤ 1000 → call k (pl "add_names") [.d (enc t), .r j] h = .ok (.r j) (h.set j (LI (addN t is))) := by
  refine Tm.ind ?_ ?_ ?_ ?_
  · intro i _ k hk is h hj _
    obtain ⟨k, rfl⟩ : ∃ j, k = j + 1 := ⟨k - 1, by omega⟩
    rw [c_add_names]
    simp [Tm.depth] at hk
    have hlt : j < h.length := (List.getElem?_eq_some_iff.mp hj).1
    have e1 := r_is_name (k := k) (t := .num i) (h := h) (by omega) rfl
    have e2 := r_is_tree (k := k) (t := .num i) (h := h) (by omega) rfl
    simp [t_add_names, ↓e1, ↓e2, Tm.isName, Tm.isTree, addN, set_same hj, end_r00 hlt, enc_num ▸ e1, enc_num ▸ e2]
  · intro i h1 k hk is h hj _
    obtain ⟨k, rfl⟩ : ∃ j, k = j + 1 := ⟨k - 1, by omega⟩
    rw [c_add_names]
    simp [Tm.depth] at hk
    have hlt : j < h.length := (List.getElem?_eq_some_iff.mp hj).1
    have e1 := r_is_name (k := k) (t := .word i) (h := h) (by omega) h1
    have e2 := r_is_tree (k := k) (t := .word i) (h := h) (by omega) h1
    simp [t_add_names, Tm.isName, Tm.isTree, addN, set_same hj, end_r00 hlt, enc_word ▸ e1, enc_word ▸ e2]
  · intro n _ k hk is h hj hl
    obtain ⟨k, rfl⟩ : ∃ j, k = j + 1 := ⟨k - 1, by omega⟩
    rw [c_add_names]
    simp [Tm.depth] at hk
    simp [Tm.size] at hl
    have hlt : j < h.length := (List.getElem?_eq_some_iff.mp hj).1
    have e1 := r_is_name (k := k) (t := .name n) (h := h) (by omega) rfl
    rw [enc_name] at e1 ⊢
    have i1 := in_LI (j := (n : Int)) (neg := true) hj
    have c1 : BT.chk h .list (.r j) = true := by
      have hj' : h[j]? = some (.lst ((is.map PyData.int).map W.d)) := hj
      simp [BT.chk, hj']
    cases q : is.contains (n : Int) with
    | true =>
      rw [q] at i1
      have ea : addN (.name n) is = is := by rw [addN, if_pos q]
      simp [t_add_names, e1, Tm.isName, ixM, at1, cmp, i1, ea, set_same hj, end_r00 hlt]
    | false =>
      rw [q] at i1
      have a1 : appM (.r j) [.d (.int n)] h = .ok (.d .none) (h.set j (LI (is ++ [(n : Int)]))) := by
        unfold appM
        have hj' : h[j]? = some (.lst ((is.map PyData.int).map W.d)) := hj
        simp only [hj', List.length_map]
        rw [if_pos (Nat.lt_of_lt_of_le (show is.length < 100000 by omega) (by decide))]
        simp [LI]
      have er : endM h (.ok (.rt (.r j)) (h.set j (LI (is ++ [(n : Int)])))) = .ok (.r j) (h.set j (LI (is ++ [(n : Int)]))) := by
        have := end_ri (h := h) (j := []) (i := j) (o := LI (is ++ [(n : Int)])) hlt clos_LI
        rwa [List.append_nil] at this
      have ea : addN (.name n) is = is ++ [(n : Int)] := by rw [addN, if_neg (by rw [q]; decide)]
      simp [t_add_names, e1, Tm.isName, ixM, at1, cmp, i1, ea, kB, c1, a1, er]
  · intro f as ih h1 k hk is h hj hl
    obtain ⟨k, rfl⟩ : ∃ j, k = j + 1 := ⟨k - 1, by omega⟩
    rw [c_add_names]
    simp only [Tm.depth] at hk
    rw [Tm.size_tree] at hl
    obtain ⟨o1, o2, o3, o4⟩ := Tm.ok_tree.mp h1
    have hlt : j < h.length := (List.getElem?_eq_some_iff.mp hj).1
    have e1 := r_is_name (k := k) (t := .tree f as) (h := h) (by omega) h1
    have e2 := r_is_tree (k := k) (t := .tree f as) (h := h) (by omega) h1
    rw [enc_tree] at e1 e2 ⊢
    obtain ⟨y, lp⟩ := an_loop (k := k) (j := j) (w0 := .d (.tuple (.str f :: as.map enc))) as is none h hj (by omega) (fun a ha is h hj hl => ih a ha (o4 a ha) k (by have := Tm.depth_le ha; omega) is h hj hl)
    rw [show (as.map fun a => W.d (enc a)) = (as.map enc).map W.d from by rw [List.map_map]; rfl] at lp
    have er : endM h (.ok (.rt (.r j)) (h.set j (LI (addNL as is)))) = .ok (.r j) (h.set j (LI (addNL as is))) := by
      have := end_ri (h := h) (j := []) (i := j) (o := LI (addNL as is)) hlt clos_LI
      rwa [List.append_nil] at this
    simp [-List.map_map, -floop_n, t_add_names, e1, e2, Tm.isName, Tm.isTree, slM, cut1, srcM, lp, addN, er]
end Ev
set_option Elab.async false
set_option linter.all false
set_option maxHeartbeats 400000
/-! U2: stores as lists. -/
namespace Ev
open PySem
def bd (fs : List (Option Tm)) : Bd := fun n => (fs[n]?).join
theorem bd_some {fs : List (Option Tm)} {n : Nat} {t : Tm} : bd fs n = some t ↔ fs[n]? = some (some t) := by
  unfold bd
  cases h : fs[n]? with
  | none => simp
  | some o => simp [Option.join]
theorem bd_lt {fs : List (Option Tm)} {n : Nat} {t : Tm} (h : bd fs n = some t) : n < fs.length := (List.getElem?_eq_some_iff.mp (bd_some.mp h)).1
theorem bd_none {fs : List (Option Tm)} {n : Nat} (h : bd fs n = none) (hn : n < fs.length) : fs[n]? = some none := by
  unfold bd at h
  rw [List.getElem?_eq_getElem hn] at h ⊢
  simpa [Option.join] using h
theorem bd_set {fs : List (Option Tm)} {n : Nat} {t : Tm} (hn : n < fs.length) : bd (fs.set n (some t)) = tellB (bd fs) n t := by
  funext i
  unfold bd tellB
  by_cases e : i = n
  · subst e; rw [if_pos rfl, List.getElem?_set_self hn]; rfl
  · rw [if_neg e, List.getElem?_set_ne (Ne.symm e)]
def names (n : Nat) : List (Option Tm) := List.replicate n none
theorem bd_names {n i : Nat} : bd (names n) i = none := by
  unfold bd names
  rw [List.getElem?_replicate]
  split <;> rfl
/-- ranks below the number of names -/
theorem acy_norm {fs : Bd} {rk : Nat → Nat} {N : Nat} (ha : Acy fs rk) (hN : ∀ i t, fs i = some t → ∀ n, t.has n = true → n < N) : ∃ rk' : Nat → Nat, Acy fs rk' ∧ ∀ n, rk' n < N + 1 := by
  refine ⟨fun n => ((List.range N).filter fun m => decide (rk m < rk n)).length, fun i t ht n hn => ?_, fun n => ?_⟩
  · have h1 := ha i t ht n hn
    have h2 := hN i t ht n hn
    have : ∀ (l : List Nat), n ∈ l → (l.filter fun m => decide (rk m < rk n)).length < (l.filter fun m => decide (rk m < rk i)).length := by
      intro l
      have le : ∀ l : List Nat, (l.filter fun m => decide (rk m < rk n)).length ≤ (l.filter fun m => decide (rk m < rk i)).length := by
        intro l
        induction l with
        | nil => simp
        | cons a l ih =>
          simp only [List.filter_cons]
          by_cases q : rk a < rk n
          · have q2 : rk a < rk i := by omega
            simp [q, q2]; omega
          · by_cases q2 : rk a < rk i
            · simp [q, q2]; omega
            · simp [q, q2]; omega
      induction l with
      | nil => intro m; cases m
      | cons a l ih =>
        intro m
        have l0 := le l
        simp only [List.filter_cons]
        rcases List.mem_cons.mp m with e | m
        · subst e
          simp [h1]; omega
        · have := ih m
          by_cases q : rk a < rk n
          · have q2 : rk a < rk i := by omega
            simp [q, q2]; omega
          · by_cases q2 : rk a < rk i
            · simp [q, q2]; omega
            · simp [q, q2]; omega
    exact this _ (List.mem_range.mpr h2)
  · have := List.length_filter_le (fun m => decide (rk m < rk n)) (List.range N)
    rw [List.length_range] at this
    show (List.filter (fun m => decide (rk m < rk n)) (List.range N)).length < N + 1
    omega
/-- how deep values are -/
theorem depth_app {σ : Nat → Tm} {c : Nat} (h : ∀ n, (σ n).depth ≤ c + 1) : ∀ t : Tm, (t.app σ).depth ≤ t.depth + c := by
  refine Tm.ind ?_ ?_ ?_ ?_
  · intro i; simp [Tm.depth]
  · intro i; simp [Tm.depth]
  · intro n; simp only [Tm.app_name, Tm.depth]; have := h n; omega
  · intro f as ih
    rw [Tm.app_tree]
    simp only [Tm.depth]
    have : Tm.depthL (as.map (Tm.app σ)) ≤ Tm.depthL as + c := by
      refine Tm.depthL_le fun b hb => ?_
      obtain ⟨a, ha, rfl⟩ := List.mem_map.mp hb
      have := ih a ha
      have := Tm.depth_le ha
      omega
    omega
theorem depth_res {fs : Bd} {M : Nat} (h : ∀ i t, fs i = some t → t.depth ≤ M + 1) : ∀ d t, (res fs d t).depth ≤ t.depth + d * M := by
  intro d
  induction d with
  | zero => intro t; simp [res]
  | succ d ih =>
    intro t
    show (t.app _).depth ≤ _
    refine depth_app (c := (d + 1) * M) (fun n => ?_) t
    cases hf : fs n with
    | none => simp [Tm.depth]
    | some u =>
      have h1 := ih u
      have h2 := h n u hf
      simp only
      rw [Nat.succ_mul]; omega
/-- terms that a store takes -/
structure TI (N M : Nat) (t : Tm) : Prop where
  nm : ∀ n, t.has n = true → n < N
  dp : t.depth ≤ M + 1
structure Good (N M : Nat) (fs : List (Option Tm)) : Prop where
  len : fs.length = N
  bt : ∀ i t, bd fs i = some t → TI N M t
  acy : ∃ rk, Acy (bd fs) rk ∧ ∀ n, rk n < N + 1
  low : ∀ i m, bd fs i = some (.name m) → m < i
/-- the value of a term -/
def val (fs : List (Option Tm)) (t : Tm) : Tm := res (bd fs) (fs.length + 1) t
section
variable {N M : Nat} {fs : List (Option Tm)}
theorem val_depth (g : Good N M fs) {t : Tm} : (val fs t).depth ≤ t.depth + (N + 1) * M := by
  unfold val
  rw [g.len]
  exact depth_res (fun i t h => (g.bt i t h).dp) _ t
theorem val_num {i : Int} : val fs (.num i) = .num i := res_num
theorem val_word {i : Str} : val fs (.word i) = .word i := res_word
theorem val_tree {f : Str} {as : List Tm} : val fs (.tree f as) = .tree f (as.map (val fs)) := res_tree
theorem val_free {n : Nat} (h : bd fs n = none) : val fs (.name n) = .name n := res_name_none h
theorem val_bound (g : Good N M fs) {n : Nat} {t : Tm} (h : bd fs n = some t) : val fs (.name n) = val fs t := by
  obtain ⟨rk, ha, hD⟩ := g.acy
  unfold val
  rw [res_name_some h, g.len]
  refine (res_stab ha N t fun m hm => ?_).symm
  have := ha n t h m hm
  have := hD n
  omega
theorem val_sol (g : Good N M fs) : Sol (bd fs) (rho (bd fs) (N + 1)) := by
  obtain ⟨rk, ha, hD⟩ := g.acy
  exact rho_sol ha hD
theorem val_app (g : Good N M fs) (t : Tm) : t.app (rho (bd fs) (N + 1)) = val fs t := by
  unfold val
  rw [g.len]
  exact rho_app (by omega) t
theorem val_eq {θ : Nat → Tm} (hs : Sol (bd fs) θ) (t : Tm) : (val fs t).app θ = t.app θ := sol_res hs _ t
theorem val_left (g : Good N M fs) {t : Tm} {n : Nat} (h : (val fs t).has n = true) : bd fs n = none := by
  obtain ⟨rk, ha, hD⟩ := g.acy
  refine res_free ha (N + 1) t (fun m _ => hD m) n ?_
  rw [← g.len]; exact h
theorem val_nm (g : Good N M fs) {t : Tm} (ht : ∀ n, t.has n = true → n < N) {n : Nat} (h : (val fs t).has n = true) : n < N := by
  have : ∀ d t, (∀ n, t.has n = true → n < N) → ∀ n, (res (bd fs) d t).has n = true → n < N := by
    intro d
    induction d with
    | zero => intro t ht n h; exact ht n h
    | succ d ih =>
      intro t ht n h
      obtain ⟨m, h1, h2⟩ := (Tm.has_app t).mp h
      cases hf : bd fs m with
      | none =>
        rw [hf] at h2
        have : m = n := by simpa [Tm.has] using h2
        rw [← this]; exact ht m h1
      | some u =>
        rw [hf] at h2
        exact ih u (g.bt m u hf).nm n h2
  exact this _ t ht n h
theorem good_names : Good N M (names N) := ⟨by simp [names], fun i t h => (by rw [bd_names] at h; cases h), ⟨fun _ => 0, fun i t h => (by rw [bd_names] at h; cases h), fun n => Nat.succ_pos _⟩, fun i m h => (by rw [bd_names] at h; cases h)⟩
theorem good_tell (g : Good N M fs) {n : Nat} {t : Tm} (hn : n < N) (hf : bd fs n = none) (ht : TI N M t) (ho : (val fs t).has n = false) (hl : ∀ m, t = .name m → m < n) : Good N M (fs.set n (some t)) := by
  have e := bd_set (fs := fs) (n := n) (t := t) (by rw [g.len]; exact hn)
  have hb : ∀ i u, bd (fs.set n (some t)) i = some u → TI N M u := fun i u h => by
    rw [e] at h
    unfold tellB at h
    split at h
    · cases h; exact ht
    · exact g.bt i u h
  refine ⟨by rw [List.length_set]; exact g.len, hb, ?_, fun i m h => ?_⟩
  · obtain ⟨rk, ha, hD⟩ := g.acy
    obtain ⟨rk', h'⟩ := acy_tell (t := t) ha hD hf (by rw [← g.len]; exact ho)
    rw [← e] at h'
    exact acy_norm h' fun i u hu n hn => (hb i u hu).nm n hn
  · rw [e] at h
    unfold tellB at h
    split at h
    · rename_i q; cases h; rw [q]; exact hl m rfl
    · exact g.low i m h
theorem sol_set (g : Good N M fs) {n : Nat} {t : Tm} {θ : Nat → Tm} (hn : n < N) (hf : bd fs n = none) : Sol (bd (fs.set n (some t))) θ ↔ Sol (bd fs) θ ∧ θ n = t.app θ := by
  rw [bd_set (by rw [g.len]; exact hn)]
  exact sol_tell hf
/-- names not told yet -/
def unb (fs : List (Option Tm)) : Nat := (fs.filter fun o => o.isNone).length
theorem unb_set {fs : List (Option Tm)} {n : Nat} {t : Tm} (h : fs[n]? = some none) : unb (fs.set n (some t)) < unb fs := by
  induction fs generalizing n with
  | nil => simp at h
  | cons a fs ih =>
    cases n with
    | zero =>
      have : a = none := by simpa using h
      subst this
      simp [unb]
    | succ n =>
      have := ih (n := n) (by simpa using h)
      unfold unb at this ⊢
      cases a <;> simp [List.filter_cons] <;> omega
theorem val_low (g : Good N M fs) {n m : Nat} (h : val fs (.name n) = .name m) : m ≤ n := by
  obtain ⟨rk, ha, hD⟩ := g.acy
  have : ∀ b n, rk n < b → val fs (.name n) = .name m → m ≤ n := by
    intro b
    induction b with
    | zero => intro n h; omega
    | succ b ih =>
      intro n hb h
      cases hf : bd fs n with
      | none => rw [val_free hf] at h; cases h; omega
      | some u =>
        rw [val_bound g hf] at h
        cases u with
        | num i => rw [val_num] at h; cases h
        | word i => rw [val_word] at h; cases h
        | tree f as => rw [val_tree] at h; cases h
        | name k =>
          have h1 := g.low n k hf
          have h2 := ha n (.name k) hf k (by simp [Tm.has])
          have := ih k (by omega) h
          omega
  exact this _ n (hD n) h
/-- stores with the same tellings have the same values -/
theorem val_canon {fs' : List (Option Tm)} {M' : Nat} (g : Good N M fs) (g' : Good N M' fs') (h : ∀ θ, Sol (bd fs) θ ↔ Sol (bd fs') θ) (t : Tm) : val fs t = val fs' t := by
  obtain ⟨rk, ha, hD⟩ := g.acy
  obtain ⟨rk', ha', hD'⟩ := g'.acy
  have e := least_eq (rho_most ha hD) (rho_most ha' hD') h (rho_sol ha hD) (rho_sol ha' hD') (fun n m q => val_low g (n := n) (by rw [← val_app g]; simpa using q)) (fun n m q => val_low g' (n := n) (by rw [← val_app g']; simpa using q))
  rw [← val_app g, ← val_app g', e]
end
end Ev
set_option Elab.async false
set_option linter.all false
set_option maxRecDepth 100000
set_option maxHeartbeats 1000000
namespace Ev
open PySem PySem.Spec PyProof.Rows L2 He
/-! ### while, by steps -/
section
variable {t : EnvW → M Bool} {b : MS} {n : Nat} {env e : EnvW} {h h1 h2 : AH} {w : W}
theorem wl_stop (q : t env h = .ok false h1) : wloop t b (n + 1) env h = .ok (.nx env) h1 := by
  unfold wloop; rw [mbind_ap, q]; rfl
theorem wl_next (q : t env h = .ok true h1) (q2 : b env h1 = .ok (.nx e) h2) : wloop t b (n + 1) env h = wloop t b n e h2 := by
  conv => lhs; unfold wloop
  rw [mbind_ap, q, mb_ok, if_pos rfl, mbind_ap, q2]; rfl
theorem wl_ret (q : t env h = .ok true h1) (q2 : b env h1 = .ok (.rt w) h2) : wloop t b (n + 1) env h = .ok (.rt w) h2 := by
  unfold wloop
  rw [mbind_ap, q, mb_ok, if_pos rfl, mbind_ap, q2]; rfl
end
/-! ### the store -/
def encO : Option Tm → PyData
  | none => .none
  | some t => enc t
abbrev St (h : AH) (i j : Nat) (fs : List (Option Tm)) : Prop := StAt h i j (fs.map encO)
structure TG (N B : Nat) (t : Tm) : Prop extends TI N B t where
  ok : t.ok = true
structure GS (N B : Nat) (fs : List (Option Tm)) : Prop extends Good N B fs where
  oks : ∀ i t, bd fs i = some t → t.ok = true
theorem GS.tg {N B : Nat} {fs : List (Option Tm)} (g : GS N B fs) {i : Nat} {t : Tm} (h : bd fs i = some t) : TG N B t := ⟨g.bt i t h, g.oks i t h⟩
theorem TG.kid {N B : Nat} {f : Str} {as : List Tm} (g : TG N B (.tree f as)) {a : Tm} (ha : a ∈ as) : TG N B a := by
  refine ⟨⟨fun n h => g.nm n ?_, ?_⟩, (Tm.ok_tree.mp g.ok).2.2.2 a ha⟩
  · rw [Tm.has_tree, List.any_eq_true]; exact ⟨a, ha, h⟩
  · have h1 := g.dp
    have h2 := Tm.depth_le ha
    simp only [Tm.depth] at h1
    omega
theorem gs_names {N B : Nat} : GS N B (names N) := ⟨good_names, fun i t h => (by rw [bd_names] at h; cases h)⟩
theorem StAt.app {h l : AH} {i j : Nat} {ds : List PyData} (s : StAt h i j ds) : StAt (h ++ l) i j ds := by
  obtain ⟨l1, l2, l3⟩ := s.lt
  exact ⟨by rw [List.getElem?_append_left l1]; exact s.ob, by rw [List.getElem?_append_left l2]; exact s.ls⟩
theorem StAt.set {h : AH} {i j x : Nat} {o : AO} {ds : List PyData} (s : StAt h i j ds) (h1 : x ≠ i) (h2 : x ≠ j) : StAt (h.set x o) i j ds :=
  ⟨by rw [List.getElem?_set_ne h1]; exact s.ob, by rw [List.getElem?_set_ne h2]; exact s.ls⟩
theorem l_meth {CM : FId → List W → M W} {m : Str} {a : M (List W)} {h : AH} {i j : Nat} {ds : List PyData} (hm : TT.meths.contains ("Store", m) = true ∧ TT.nopos.contains ("Store", m) = false ∧ (m == ("found" : Str)) = false) (s : StAt h i j ds) : methM TT CM m (.r i) a h = mb (a h) (fun ws => CM ("Store", m) (.r i :: ws)) := by
  unfold methM
  have e : List.lookup m [(("found" : Str), W.r j)] = none := by rw [List.lookup_cons, hm.2.2]; rfl
  simp only [s.ob, e, hm.1, hm.2.1, Bool.not_false, Bool.and_self, if_true]
  rfl
theorem m_look : TT.meths.contains ("Store", "look") = true ∧ TT.nopos.contains ("Store", "look") = false ∧ (("look" : Str) == ("found" : Str)) = false := by decide +kernel
theorem m_head : TT.meths.contains ("Store", "head") = true ∧ TT.nopos.contains ("Store", "head") = false ∧ (("head" : Str) == ("found" : Str)) = false := by decide +kernel
theorem m_holds : TT.meths.contains ("Store", "holds") = true ∧ TT.nopos.contains ("Store", "holds") = false ∧ (("holds" : Str) == ("found" : Str)) = false := by decide +kernel
theorem m_bound : TT.meths.contains ("Store", "bound") = true ∧ TT.nopos.contains ("Store", "bound") = false ∧ (("bound" : Str) == ("found" : Str)) = false := by decide +kernel
theorem m_merge : TT.meths.contains ("Store", "merge") = true ∧ TT.nopos.contains ("Store", "merge") = false ∧ (("merge" : Str) == ("found" : Str)) = false := by decide +kernel
theorem m_joined : TT.meths.contains ("Store", "joined") = true ∧ TT.nopos.contains ("Store", "joined") = false ∧ (("joined" : Str) == ("found" : Str)) = false := by decide +kernel
theorem m_tell : TT.meths.contains ("Store", "tell") = true ∧ TT.nopos.contains ("Store", "tell") = false ∧ (("tell" : Str) == ("found" : Str)) = false := by decide +kernel
theorem m_full : TT.meths.contains ("Store", "full") = true ∧ TT.nopos.contains ("Store", "full") = false ∧ (("full" : Str) == ("found" : Str)) = false := by decide +kernel
theorem m_value : TT.meths.contains ("Store", "value") = true ∧ TT.nopos.contains ("Store", "value") = false ∧ (("value" : Str) == ("found" : Str)) = false := by decide +kernel
theorem m_same : TT.meths.contains ("Store", "same") = true ∧ TT.nopos.contains ("Store", "same") = false ∧ (("same" : Str) == ("found" : Str)) = false := by decide +kernel
theorem m_twin : TT.meths.contains ("Store", "twin") = true ∧ TT.nopos.contains ("Store", "twin") = false ∧ (("twin" : Str) == ("found" : Str)) = false := by decide +kernel
theorem f_found {h : AH} {i j : Nat} {ds : List PyData} (s : StAt h i j ds) : fldM "found" (.r i) h = .ok (.r j) h := by simp [fldM, s.ob]
theorem ix_st {h : AH} {i j n : Nat} {fs : List (Option Tm)} {o : Option Tm} (s : St h i j fs) (hn : fs[n]? = some o) : ixM (.r j) (.d (.int n)) h = .ok (.d (encO o)) h := by
  have hl : n < fs.length := (List.getElem?_eq_some_iff.mp hn).1
  have e : atI ((fs.map encO).map W.d) (n : Int) = some (.d (encO o)) := by
    rw [atI_get (by omega) (by simp; omega)]
    simp [hn]
  unfold ixM
  simp only [s.ls, e]
theorem ix_n1 {n : Int} {h : AH} : ixM (.d (.tuple [.str "?", .int n])) (.d (.int 1)) h = .ok (.d (.int n)) h := by simp [ixM, at1]
theorem isN_enc {t : Tm} {h : AH} : cIs true (.d (enc t)) (.d .none) h = .ok (.d (.bool true)) h := by cases t <;> simp [cIs]
theorem isN_none {h : AH} : cIs true (.d .none) (.d .none) h = .ok (.d (.bool false)) h := rfl
section
variable {N B : Nat} {fs : List (Option Tm)} {i j : Nat}
/-! ### head -/
noncomputable abbrev tHead (CM : FId → List W → M W) : EnvW → M Bool := tAndM (tst (eCall CM (pl "is_name") (aList [mVar 1]))) (tst (eCmp .IsNot (eIx (eFld (mVar 0) "found") (eIx (mVar 1) (mC (.d (.int 1))))) (mC (.d (.none)))))
noncomputable abbrev bHead : MS := sBlock [sSet 1 (eIx (eFld (mVar 0) "found") (eIx (mVar 1) (mC (.d (.int 1)))))]
theorem head_loop {k : Nat} {h : AH} (hk : 2 ≤ k) (s : St h i j fs) (g : GS N B fs) {rk : Nat → Nat} (ha : Acy (bd fs) rk) : ∀ (m : Nat) (t : Tm), TG N B t → (∀ n, t = .name n → rk n < m) →
    ∃ c u, wloop (tHead (call k)) bHead c [some (.r i), some (.d (enc t))] h = .ok (.nx [some (.r i), some (.d (enc u))]) h ∧ val fs u = val fs t ∧ (∀ n, u = .name n → bd fs n = none) ∧ TG N B u := by
  intro m
  induction m with
  | zero =>
    intro t ht hm
    have e1 := r_is_name (k := k) (t := t) (h := h) hk ht.ok
    have nn : t.isName = false := by
      cases t with
      | name n => exact absurd (hm n rfl) (by omega)
      | _ => rfl
    rw [nn] at e1
    refine ⟨1, t, wl_stop (by simp [tHead, e1]), rfl, fun n e => absurd (hm n e) (by omega), ht⟩
  | succ m ih =>
    intro t ht hm
    have e1 := r_is_name (k := k) (t := t) (h := h) hk ht.ok
    cases t with
    | name n =>
      have hn : n < fs.length := by rw [g.len]; exact ht.nm n (by simp [Tm.has])
      rw [enc_name] at e1 ⊢
      cases hb : bd fs n with
      | none =>
        have x := ix_st s (bd_none hb hn)
        refine ⟨1, .name n, wl_stop ?_, rfl, fun n' e => (by cases e; exact hb), ht⟩
        simp [tHead, e1, Tm.isName, f_found s, ix_n1, x, cmp, encO, isN_none]
      | some u =>
        have x := ix_st s (bd_some.mp hb)
        obtain ⟨c, v, q1, q2, q3, q4⟩ := ih u (g.tg hb) fun m' e => by
          have := ha n u hb m' (by rw [e]; simp [Tm.has])
          have := hm n rfl
          omega
        refine ⟨c + 1, v, ?_, q2.trans (val_bound g.toGood hb).symm, q3, q4⟩
        rw [wl_next (h1 := h) (h2 := h) (e := [some (.r i), some (.d (enc u))]) ?_ ?_]
        · exact q1
        · simp [tHead, e1, Tm.isName, f_found s, ix_n1, x, cmp, encO, isN_enc]
        · simp [bHead, f_found s, ix_n1, x, encO]
    | num a =>
      refine ⟨1, .num a, wl_stop (by simp [tHead, enc_num ▸ e1, Tm.isName]), rfl, fun n e => (by cases e), ht⟩
    | word a =>
      refine ⟨1, .word a, wl_stop (by simp [tHead, enc_word ▸ e1, Tm.isName]), rfl, fun n e => (by cases e), ht⟩
    | tree f as =>
      refine ⟨1, .tree f as, wl_stop ?_, rfl, fun n e => (by cases e), ht⟩
      rw [enc_tree] at e1 ⊢
      simp [tHead, e1, Tm.isName]
theorem r_head {k : Nat} {h : AH} {t : Tm} (hk : 3 ≤ k) (s : St h i j fs) (g : GS N B fs) (ht : TG N B t) :
    ∃ u, call k ("Store", "head") [.r i, .d (enc t)] h = .ok (.d (enc u)) h ∧ val fs u = val fs t ∧ (∀ n, u = .name n → bd fs n = none) ∧ TG N B u := by
  obtain ⟨k, rfl⟩ : ∃ j, k = j + 1 := ⟨k - 1, by omega⟩
  obtain ⟨rk, ha, hD⟩ := g.acy
  obtain ⟨c, u, q1, q2⟩ := head_loop (k := k) (by omega) s g ha (N + 1) t ht fun n _ => hD n
  refine ⟨u, ?_, q2⟩
  rw [c_Store_head]
  have w := sWhile_of q1 (by intro e; cases e)
  simp [t_Store_head, w]
end
end Ev
set_option Elab.async false
set_option linter.all false
set_option maxRecDepth 100000
set_option maxHeartbeats 1000000
namespace Ev
open PySem PySem.Spec PyProof.Rows L2 He
/-! ### terms are the same -/
noncomputable instance : DecidableEq Tm := fun a b => Classical.propDecidable (a = b)
theorem eqvAll_enc {as : List Tm} : ∀ (bs : List Tm), (∀ a ∈ as, ∀ b : Tm, b.ok = true → (PyData.eqv (enc a) (enc b) = true ↔ a = b)) → (∀ b ∈ bs, b.ok = true) → (PyData.eqvAll (as.map enc) (bs.map enc) = true ↔ as = bs) := by
  induction as with
  | nil =>
    intro bs _ _
    cases bs <;> simp [PyData.eqvAll]
  | cons a as ih =>
    intro bs h hb
    cases bs with
    | nil => simp [PyData.eqvAll]
    | cons b bs =>
      simp only [List.map_cons, PyData.eqvAll, Bool.and_eq_true, List.cons.injEq]
      rw [h a (by simp) b (hb b (by simp)), ih bs (fun x hx => h x (by simp [hx])) (fun x hx => hb x (by simp [hx]))]
theorem eqv_enc : ∀ (a : Tm), a.ok = true → ∀ b : Tm, b.ok = true → (PyData.eqv (enc a) (enc b) = true ↔ a = b) := by
  refine Tm.ind ?_ ?_ ?_ ?_
  · intro x _ b hb
    cases b <;> simp [PyData.eqv]
  · intro x _ b hb
    cases b <;> simp [PyData.eqv]
  · intro n _ b hb
    cases b with
    | num i => simp [PyData.eqv]
    | word i => simp [PyData.eqv]
    | name m =>
      rw [enc_name, enc_name]
      simp only [PyData.eqv, PyData.eqvAll, Bool.and_true, Bool.and_eq_true, beq_iff_eq, Tm.name.injEq]
      constructor
      · rintro ⟨_, h⟩; omega
      · intro h; exact ⟨by simp, by omega⟩
    | tree f as =>
      have q := isW_nq (Tm.ok_tree.mp hb).1
      rw [enc_name, enc_tree]
      simp only [PyData.eqv, PyData.eqvAll]
      constructor
      · intro h
        rw [Bool.and_eq_true] at h
        have : (f == ("?" : Str)) = true := by rw [beq_iff_eq]; exact (beq_iff_eq.mp h.1).symm
        rw [q] at this; cases this
      · intro h; cases h
  · intro f as ih ha b hb
    obtain ⟨o1, o2, o3, o4⟩ := Tm.ok_tree.mp ha
    cases b with
    | num i => simp [PyData.eqv]
    | word i => simp [PyData.eqv]
    | name m =>
      have q := isW_nq o1
      rw [enc_name, enc_tree]
      simp only [PyData.eqv, PyData.eqvAll, q]
      simp
    | tree f' bs =>
      obtain ⟨p1, p2, p3, p4⟩ := Tm.ok_tree.mp hb
      rw [enc_tree, enc_tree]
      simp only [PyData.eqv, PyData.eqvAll, Bool.and_eq_true, Tm.tree.injEq]
      rw [eqvAll_enc bs (fun a ha b hb => ih a ha (o4 a ha) b hb) p4, beq_iff_eq]
theorem eq_enc {a b : Tm} {h : AH} (ha : a.ok = true) (hb : b.ok = true) (da : a.depth ≤ 64) (db : b.depth ≤ 64) : cmp .Eq (.d (enc a)) (.d (enc b)) h = .ok (.d (.bool (decide (a = b)))) h := by
  have e : PyData.eqv (enc a) (enc b) = decide (a = b) := by
    cases q : PyData.eqv (enc a) (enc b) with
    | true => rw [decide_eq_true ((eqv_enc a ha b hb).mp q)]
    | false => exact (decide_eq_false fun e => by rw [(eqv_enc a ha b hb).mpr e] at q; cases q).symm
  simp [cmp, cEq, peek, enc_sh ha da, enc_sh hb db, e]
theorem ne_enc {a b : Tm} {h : AH} (ha : a.ok = true) (hb : b.ok = true) (da : a.depth ≤ 64) (db : b.depth ≤ 64) : cmp .NotEq (.d (enc a)) (.d (enc b)) h = .ok (.d (.bool (!decide (a = b)))) h := by
  have e : PyData.eqv (enc a) (enc b) = decide (a = b) := by
    cases q : PyData.eqv (enc a) (enc b) with
    | true => rw [decide_eq_true ((eqv_enc a ha b hb).mp q)]
    | false => exact (decide_eq_false fun e => by rw [(eqv_enc a ha b hb).mpr e] at q; cases q).symm
  simp [cmp, cEq, peek, enc_sh ha da, enc_sh hb db, e]
/-! ### comprehensions over a list of things -/
theorem lc_goA {α : Type} {id : Nat} {t : Tg} {tt : EnvW → M Bool} {el : ME} {env : EnvW} {h : AH} {p q : α → W} (hid : id = h.length) : ∀ (as : List α) (acc : List W),
    (∀ a ∈ as, ∃ e1, tgM t (p a) env = some e1 ∧ ∀ acc : List W, tt e1 (h ++ [.lst acc]) = .ok true (h ++ [.lst acc]) ∧ el e1 (h ++ [.lst acc]) = .ok (q a) (h ++ [.lst acc])) → acc.length + as.length ≤ 100000 →
    cLoop id t tt el (as.map p) env (h ++ [.lst acc]) = .ok () (h ++ [.lst (acc ++ as.map q)])
  | [], acc, _, _ => by simp [cLoop, mpure]
  | a :: as, acc, hw, hl => by
    obtain ⟨e1, h1, h2⟩ := hw a (List.mem_cons_self ..)
    obtain ⟨h3, h4⟩ := h2 acc
    have ih := lc_goA (tt := tt) (el := el) (p := p) (q := q) hid as (acc ++ [q a]) (fun x hx => hw x (List.mem_cons_of_mem _ hx)) (by simp at hl ⊢; omega)
    rw [List.map_cons]
    unfold cLoop
    rw [h1]
    simp only [mbind_ap]
    rw [show noEx (tt e1) (h ++ [.lst acc]) = .ok true (h ++ [.lst acc]) from by unfold noEx; rw [h3]]
    simp only [mb_ok, if_true, mbind_ap]
    rw [show noEx (el e1) (h ++ [.lst acc]) = .ok (q a) (h ++ [.lst acc]) from by unfold noEx; rw [h4]]
    simp only [mb_ok, mbind_ap]
    have e2 : pushM id (q a) (h ++ [.lst acc]) = .ok () (h ++ [.lst (acc ++ [q a])]) := by
      unfold pushM
      subst hid
      rw [show (h ++ [AO.lst acc])[h.length]? = some (.lst acc) from by simp]
      simp only
      rw [if_pos (Nat.lt_of_lt_of_le (show acc.length < 100000 by simp at hl; omega) (by decide))]
      simp
    rw [e2]
    simp only [mb_ok]
    rw [ih]
    simp
theorem lcA {α : Type} {t : Tg} {mi : EnvW → M Src} {tt : EnvW → M Bool} {el : ME} {env : EnvW} {h0 h : AH} {as : List α} {p q : α → W} (hs : mi env h0 = .ok (as.map p, none) h) (hl : as.length ≤ 100000)
    (hw : ∀ a ∈ as, ∃ e1, tgM t (p a) (wipeW env t.slots) = some e1 ∧ ∀ acc : List W, tt e1 (h ++ [.lst acc]) = .ok true (h ++ [.lst acc]) ∧ el e1 (h ++ [.lst acc]) = .ok (q a) (h ++ [.lst acc])) :
    eLC t mi tt el env h0 = .ok (.r h.length) (h ++ [.lst (as.map q)]) := by
  rw [eLC_ap, hs, mb_ok]
  show mb (cLoop h.length t tt el (as.map p) (wipeW env t.slots) (h ++ [.lst []])) (kRef h.length) = _
  rw [lc_goA rfl as [] hw (by simpa using hl)]
  simp
theorem lcA_lock {α : Type} {t : Tg} {mi : EnvW → M Src} {tt : EnvW → M Bool} {el : ME} {env : EnvW} {h0 h : AH} {as : List α} {p q : α → W} {i : Nat} (hs : mi env h0 = .ok (as.map p, some i) h) (hi : h[i]? = some (.lst (as.map p))) (hl : as.length ≤ 100000)
    (hw : ∀ a ∈ as, ∃ e1, tgM t (p a) (wipeW env t.slots) = some e1 ∧ ∀ acc : List W, tt e1 (h.set i .dead ++ [.lst acc]) = .ok true (h.set i .dead ++ [.lst acc]) ∧ el e1 (h.set i .dead ++ [.lst acc]) = .ok (q a) (h.set i .dead ++ [.lst acc])) :
    eLC t mi tt el env h0 = .ok (.r h.length) (h ++ [.lst (as.map q)]) := by
  rw [eLC_ap, hs, mb_ok]
  unfold kLC over
  simp only
  rw [lc_goA rfl as [] hw (by simpa using hl)]
  simp only [mb_ok, kRef_ap, List.length_set, List.nil_append]
  have hil : i < h.length := (List.getElem?_eq_some_iff.mp hi).1
  rw [List.set_append_left _ _ (by rw [List.length_set]; exact hil), List.set_set, set_same hi]
theorem lcD_map {α : Type} {t : Tg} {mi : EnvW → M Src} {tt : EnvW → M Bool} {el : ME} {env : EnvW} {h : AH} {as : List α} (p : α → W) (f : α → PyData) (hs : mi env h = .ok (as.map p, none) h) (hl : as.length ≤ 100000)
    (hw : ∀ a ∈ as, ∃ e1, tgM t (p a) (wipeW env t.slots) = some e1 ∧ ∀ acc : List W, tt e1 (h ++ [.lst acc]) = .ok true (h ++ [.lst acc]) ∧ el e1 (h ++ [.lst acc]) = .ok (.d (f a)) (h ++ [.lst acc])) :
    eOut (eLC t mi tt el) env h = .ok (.d (.list (as.map f))) h := by
  have e := lcA (q := fun a => .d (f a)) hs hl hw
  rw [show (as.map fun a => W.d (f a)) = (as.map f).map W.d from by rw [List.map_map]; rfl] at e
  rw [eOut_ap e, out_l]
section
variable {N B : Nat} {fs : List (Option Tm)} {i j : Nat}
theorem val_ok (g : GS N B fs) {t : Tm} (ht : t.ok = true) : (val fs t).ok = true := by
  have ap : ∀ (σ : Nat → Tm), (∀ n, (σ n).ok = true) → ∀ t : Tm, t.ok = true → (t.app σ).ok = true := by
    intro σ hσ
    refine Tm.ind ?_ ?_ ?_ ?_
    · intro x _; rfl
    · intro x hx; simpa using hx
    · intro n _; simpa using hσ n
    · intro f as ih h
      obtain ⟨o1, o2, o3, o4⟩ := Tm.ok_tree.mp h
      rw [Tm.app_tree]
      refine Tm.ok_tree.mpr ⟨o1, by simpa using o2, by simpa using o3, fun b hb => ?_⟩
      obtain ⟨a, ha, rfl⟩ := List.mem_map.mp hb
      exact ih a ha (o4 a ha)
  have : ∀ d (t : Tm), t.ok = true → (res (bd fs) d t).ok = true := by
    intro d
    induction d with
    | zero => intro t h; exact h
    | succ d ih =>
      intro t h
      refine ap _ (fun n => ?_) t h
      cases hf : bd fs n with
      | none => rfl
      | some u => exact ih u (g.oks n u hf)
  exact this _ t ht
theorem val_dep (g : GS N B fs) {t : Tm} (ht : TG N B t) : (val fs t).depth ≤ B + 1 + (N + 1) * B := by
  have h1 := val_depth g.toGood (t := t)
  have h2 := ht.dp
  omega
/-! ### full -/
theorem r_full (g : GS N B fs) : ∀ (d : Nat) (t : Tm), (val fs t).depth ≤ d → TG N B t → ∀ (k : Nat) (h : AH), d + 4 ≤ k → St h i j fs → call k ("Store", "full") [.r i, .d (enc t)] h = .ok (.d (enc (val fs t))) h := by
  intro d
  induction d with
  | zero => intro t hd; have := Tm.depth_pos (val fs t); omega
  | succ d ih =>
    intro t hd ht k h hk s
    obtain ⟨k, rfl⟩ : ∃ j, k = j + 1 := ⟨k - 1, by omega⟩
    obtain ⟨u, h1, h2, h3, h4⟩ := r_head (k := k) (h := h) (by omega) s g ht
    rw [c_Store_full]
    have me := fun as => l_meth (CM := call k) (a := as) m_head s
    have e2 := r_is_tree (k := k) (t := u) (h := h) (by omega) h4.ok
    rw [← h2] at hd ⊢
    cases u with
    | num x => simp [t_Store_full, me, h1, enc_num ▸ h1, enc_num ▸ e2, Tm.isTree, val_num]
    | word x => simp [t_Store_full, me, h1, enc_word ▸ h1, enc_word ▸ e2, Tm.isTree, val_word]
    | name n =>
      rw [val_free (h3 n rfl)]
      rw [enc_name] at *
      simp [t_Store_full, me, h1, e2, Tm.isTree]
    | tree f as =>
      rw [val_tree] at hd ⊢
      simp only [Tm.depth] at hd
      rw [enc_tree, List.map_map]
      rw [enc_tree] at h1 e2
      have hlc : eOut (eLC (.n 3) (iVal (eSl (mVar 2) (pSome (mC (.d (.int 1)))) pNo)) tTrue (eMeth TT (call k) "full" (mVar 0) (aList [mVar 3]))) [some (.r i), some (.d (enc t)), some (.d (.tuple (.str f :: as.map enc))), none] h = .ok (.d (.list (as.map (enc ∘ val fs)))) h := by
        refine (lcD_map (as := as) (fun a => W.d (enc a)) (fun a => enc (val fs a)) (by simp [slM, cut1, srcM]) (by have := (Tm.ok_tree.mp h4.ok).2.2.1; omega) ?_).trans rfl
        intro a ha
        refine ⟨_, rfl, fun acc => ?_⟩
        have s' := StAt.app (l := [.lst acc]) s
        have q := ih a (by have := Tm.depth_le (List.mem_map_of_mem (f := val fs) ha); omega) (h4.kid ha) k (h ++ [.lst acc]) (by omega) s'
        have me' := fun as => l_meth (CM := call k) (a := as) m_full s'
        exact ⟨by simp, by simp [wipeW, Tg.slots, me', q]⟩
      have sz : as.length + 1 ≤ sizeLine := Nat.le_trans (show as.length + 1 ≤ 100 by have := (Tm.ok_tree.mp h4.ok).2.2.1; omega) (by decide)
      have sz1 : (1 : Nat) ≤ sizeLine := by decide
      have sz2 : 1 + as.length ≤ sizeLine := by omega
      simp [-eLC_ap, -List.map_map, t_Store_full, me, h1, e2, Tm.isTree, ixM, at0, kTup, allD, sz1, ↓hlc, fTuple, listD, peek, bop, bAdd, sz2]
end
end Ev
set_option Elab.async false
set_option linter.all false
set_option maxRecDepth 100000
set_option maxHeartbeats 1000000
namespace Ev
open PySem PySem.Spec PyProof.Rows L2 He
theorem any_has {n : Nat} {f : Tm → Tm} {as : List Tm} : (as.map fun a => (f a).has n).any id = (as.map f).any (Tm.has n) := by
  rw [List.any_map, List.any_map]; rfl
theorem tg_name {N B n : Nat} (h : n < N) : TG N B (.name n) := ⟨⟨fun m hm => by simp [Tm.has] at hm; omega, by simp [Tm.depth]⟩, rfl⟩
theorem eq_names {m n : Nat} {h : AH} : cmp .Eq (.d (.tuple [.str "?", .int m])) (.d (.tuple [.str "?", .int n])) h = .ok (.d (.bool (decide (m = n)))) h := by
  have q := eq_enc (a := .name m) (b := .name n) (h := h) rfl rfl (by simp [Tm.depth]) (by simp [Tm.depth])
  rw [enc_name, enc_name] at q
  rw [q]
  by_cases z : m = n
  · subst z; simp
  · simp [z]
theorem ne_names {m n : Nat} {h : AH} : cmp .NotEq (.d (.tuple [.str "?", .int m])) (.d (.tuple [.str "?", .int n])) h = .ok (.d (.bool (!decide (m = n)))) h := by
  have q := ne_enc (a := .name m) (b := .name n) (h := h) rfl rfl (by simp [Tm.depth]) (by simp [Tm.depth])
  rw [enc_name, enc_name] at q
  rw [q]
  by_cases z : m = n
  · subst z; simp
  · simp [z]
section
variable {N B : Nat} {fs : List (Option Tm)} {i j : Nat}
theorem r_holds (g : GS N B fs) {n : Nat} (hf : bd fs n = none) : ∀ (d : Nat) (t : Tm), (val fs t).depth ≤ d → TG N B t → ∀ (k : Nat) (h : AH), d + 4 ≤ k → St h i j fs → call k ("Store", "holds") [.r i, .d (enc t), .d (enc (.name n))] h = .ok (.d (.bool ((val fs t).has n))) h := by
  intro d
  induction d with
  | zero => intro t hd; have := Tm.depth_pos (val fs t); omega
  | succ d ih =>
    intro t hd ht k h hk s
    obtain ⟨k, rfl⟩ : ∃ j, k = j + 1 := ⟨k - 1, by omega⟩
    obtain ⟨u, h1, h2, h3, h4⟩ := r_head (k := k) (h := h) (by omega) s g ht
    rw [c_Store_holds]
    have me := fun as => l_meth (CM := call k) (a := as) m_head s
    have e1 := r_is_name (k := k) (t := u) (h := h) (by omega) h4.ok
    have e2 := r_is_tree (k := k) (t := u) (h := h) (by omega) h4.ok
    rw [← h2] at hd ⊢
    cases u with
    | num x => simp [t_Store_holds, me, enc_num ▸ h1, enc_num ▸ e1, enc_num ▸ e2, Tm.isName, Tm.isTree, val_num, Tm.has]
    | word x => simp [t_Store_holds, me, enc_word ▸ h1, enc_word ▸ e1, enc_word ▸ e2, Tm.isName, Tm.isTree, val_word, Tm.has]
    | name m =>
      rw [val_free (h3 m rfl)]
      rw [enc_name] at *
      simp [t_Store_holds, me, h1, e1, Tm.isName, eq_names, Tm.has]
    | tree f as =>
      rw [val_tree] at hd ⊢
      simp only [Tm.depth] at hd
      rw [Tm.has_tree, ← any_has]
      rw [enc_tree] at h1 e1 e2
      have hlc : eOut (eLC (.n 4) (iVal (eSl (mVar 3) (pSome (mC (.d (.int 1)))) pNo)) tTrue (eMeth TT (call k) "holds" (mVar 0) (aList [mVar 4, mVar 2]))) [some (.r i), some (.d (enc t)), some (.d (enc (.name n))), some (.d (.tuple (.str f :: as.map enc))), none] h = .ok (.d (.list (as.map fun a => .bool ((val fs a).has n)))) h := by
        refine lcD_map (as := as) (fun a => W.d (enc a)) (fun a => .bool ((val fs a).has n)) (by simp [slM, cut1, srcM]) (by have := (Tm.ok_tree.mp h4.ok).2.2.1; omega) ?_
        intro a ha
        refine ⟨_, rfl, fun acc => ?_⟩
        have s' := StAt.app (l := [.lst acc]) s
        have q := ih a (by have := Tm.depth_le (List.mem_map_of_mem (f := val fs) ha); omega) (h4.kid ha) k (h ++ [.lst acc]) (by omega) s'
        have me' := fun as => l_meth (CM := call k) (a := as) m_holds s'
        exact ⟨by simp, by simp [wipeW, Tg.slots, me']; rw [enc_name] at q; exact q⟩
      rw [enc_name] at *
      simp [-eLC_ap, -List.map_map, -List.any_map, t_Store_holds, me, h1, e1, e2, Tm.isName, Tm.isTree, ↓hlc, fAny, listD, peek, boolsMap]
/-! ### look -/
theorem r_look (g : GS N B fs) {t : Tm} {k : Nat} {h : AH} (ht : t.ok = true) (hn : ∀ n, t.has n = true → n < N) (hz : t.size ≤ 300) (hk : t.depth + 6 ≤ k) (s : St h i j fs) (hN : N ≤ 1000) : call k ("Store", "look") [.r i, .d (enc t)] h = .ok (.d .none) h := by
  obtain ⟨k, rfl⟩ : ∃ j, k = j + 1 := ⟨k - 1, by omega⟩
  rw [c_Store_look]
  have e1 := r_look_term (h := h) (t := t) (k := k) ht hz (by omega)
  have hl0 : (h ++ [AO.lst []])[h.length]? = some (LI []) := by simp [LI]
  have e2 := r_add (j := h.length) t ht k (by omega) [] (h ++ [.lst []]) hl0 (by simp; omega)
  obtain ⟨ns, ens⟩ : ∃ ns, ns = addN t [] := ⟨_, rfl⟩
  rw [← ens] at e2
  have hs : (h ++ [AO.lst []]).set h.length (LI ns) = h ++ [LI ns] := by rw [List.set_append_right _ _ (Nat.le_refl _)]; simp
  rw [hs] at e2
  have hb : ∀ x ∈ ns, 0 ≤ x ∧ x < (N : Int) := by
    rw [ens]
    exact addN_mem (P := fun x => 0 ≤ x ∧ x < (N : Int)) t (fun n q => ⟨by omega, by have := hn n q; omega⟩) [] (by simp)
  have hle : ns.length ≤ 300 := by have := addN_len t []; rw [ens]; simp at this; omega
  have hi : (h ++ [LI ns])[h.length]? = some (.lst (ns.map fun x => W.d (.int x))) := by simp [LI]
  have ek : kLst [] h = .ok (.r h.length) (h ++ [.lst []]) := kLst_ap (by simp)
  have hlc : eLC (.n 2) (iVal (eCall (call k) (pl "add_names") (aList [mVar 1, eLst (aList [])]))) tTrue (eCmp .GtE (mVar 2) (eLen TT (call k) (eFld (mVar 0) "found"))) [some (.r i), some (.d (enc t)), none] h = .ok (.r (h ++ [LI ns]).length) (h ++ [LI ns] ++ [.lst (ns.map fun x => W.d (.bool false))]) := by
    refine lcA_lock (i := h.length) (p := fun x : Int => W.d (.int x)) (q := fun x : Int => W.d (.bool false)) ?_ hi (by omega) ?_
    · simp [ek, e2, srcM]
      simp [LI]
    · intro x hx
      refine ⟨_, rfl, fun acc => ⟨by simp, ?_⟩⟩
      have s1 : St ((h ++ [LI ns]).set h.length .dead ++ [.lst acc]) i j fs := (StAt.set (StAt.app s) (by have := s.lt; omega) (by have := s.lt; omega)).app
      have f1 := f_found s1
      have k1 := kLen_l (T := TT) (CM := call k) s1.ls
      have q : ¬ ((N : Int) ≤ x) := by have := hb x hx; omega
      have lN : fs.length = N := g.len
      simp at f1 k1
      simp [wipeW, Tg.slots, f1, k1, cmp, cInt, lN, q]
  have ho : outM h (.r (h ++ [LI ns]).length) (h ++ [LI ns] ++ [.lst (ns.map fun x => W.d (.bool false))]) = .ok (.d (.list (ns.map fun _ => .bool false))) h := by
    have := end_l (h := h) (j := [LI ns, .lst (ns.map fun x => W.d (.bool false))]) (i := h.length + 1) (ds := ns.map fun _ => .bool false) (by omega) (by rw [at_l1]; simp [Function.comp_def])
    rw [List.append_assoc, show (h ++ [LI ns]).length = h.length + 1 from by simp]
    exact this
  have hlc' := (eOut_ap hlc).trans ho
  have an : (ns.map fun _ => false).any id = false := by
    rw [List.any_map, List.any_eq_false]; intro x _; simp
  simp [-eLC_ap, -List.any_map, t_Store_look, e1, ↓hlc', fAny, listD, peek, boolsMap]
  rw [an]; simp
theorem r_value (g : GS N B fs) {t : Tm} {k : Nat} {h : AH} (ht : TG N B t) (hz : t.size ≤ 300) (hk : t.depth + 7 ≤ k) (hk2 : B + 1 + (N + 1) * B + 6 ≤ k) (s : St h i j fs) (hN : N ≤ 1000) : call k ("Store", "value") [.r i, .d (enc t)] h = .ok (.d (enc (val fs t))) h := by
  obtain ⟨k, rfl⟩ : ∃ j, k = j + 1 := ⟨k - 1, by omega⟩
  rw [c_Store_value]
  have e1 := r_look (k := k) g ht.ok ht.nm hz (by omega) s hN
  have e2 := r_full g (B + 1 + (N + 1) * B) t (val_dep g ht) ht k h (by omega) s
  have m1 := fun as => l_meth (CM := call k) (a := as) m_look s
  have m2 := fun as => l_meth (CM := call k) (a := as) m_full s
  simp [t_Store_value, m1, m2, e1, e2]
end
end Ev
set_option Elab.async false
set_option linter.all false
set_option maxRecDepth 100000
set_option maxHeartbeats 1000000
namespace Ev
open PySem PySem.Spec PyProof.Rows L2 He
/-- how deep values can be -/
def DB (N B : Nat) : Nat := B + 1 + (N + 1) * B
abbrev lstO (fs : List (Option Tm)) : AO := .lst ((fs.map encO).map .d)
section
variable {N B : Nat} {fs : List (Option Tm)} {i j : Nat}
theorem set_st {h : AH} {n : Nat} {u : Tm} (s : St h i j fs) (hn : n < fs.length) : setIxM (.r j) (.d (.int n)) (.d (enc u)) h = .ok () (h.set j (lstO (fs.set n (some u)))) := by
  unfold setIxM
  have e : ixN ((fs.map encO).map W.d).length (n : Int) = some n := by
    unfold ixN; rw [if_pos (by omega), if_pos (by simp; omega)]; simp
  simp only [s.ls, e]
  simp [lstO, List.map_set, encO]
theorem gs_tell (g : GS N B fs) {n : Nat} {t : Tm} (hn : n < N) (hf : bd fs n = none) (ht : TG N B t) (ho : (val fs t).has n = false) (hl : ∀ m, t = .name m → m < n) : GS N B (fs.set n (some t)) := by
  refine ⟨good_tell g.toGood hn hf ht.toTI ho hl, fun i u h => ?_⟩
  rw [bd_set (by rw [g.len]; exact hn)] at h
  unfold tellB at h
  split at h
  · cases h; exact ht.ok
  · exact g.oks i u h
theorem end_st {h : AH} {b : Bool} {fs' : List (Option Tm)} {j : Nat} (hj : j < h.length) : endM h (.ok (.rt (.d (.bool b))) (h.set j (lstO fs'))) = .ok (.d (.bool b)) (h.set j (lstO fs')) := end_set0 clos_ds hj
theorem r_bound (g : GS N B fs) {n k : Nat} {u : Tm} {h : AH} (hn : n < N) (hf : bd fs n = none) (hu : TG N B u) (hfree : ∀ m, u = .name m → bd fs m = none) (s : St h i j fs) (hk : DB N B + 6 ≤ k) :
    ∃ b fs', call k ("Store", "bound") [.r i, .d (enc (.name n)), .d (enc u)] h = .ok (.d (.bool b)) (h.set j (lstO fs')) ∧ GS N B fs' ∧
      (b = true → (∀ θ, Sol (bd fs') θ ↔ Sol (bd fs) θ ∧ θ n = u.app θ) ∧ ((u = .name n ∧ fs' = fs) ∨ unb fs' < unb fs)) ∧ (b = false → ∀ θ, Sol (bd fs) θ → θ n ≠ u.app θ) := by
  obtain ⟨k, rfl⟩ : ∃ j, k = j + 1 := ⟨k - 1, by omega⟩
  obtain ⟨l1, l2, l3⟩ := s.lt
  have hset : h.set j (lstO fs) = h := set_same s.ls
  have hnl : n < fs.length := by rw [g.len]; exact hn
  have e1 := r_is_name (k := k) (t := u) (h := h) (by omega) hu.ok
  by_cases nm : u.isName = true
  · cases u with
    | name m =>
      have hm : m < N := hu.nm m (by simp [Tm.has])
      have hfm := hfree m rfl
      have hml : m < fs.length := by rw [g.len]; exact hm
      rw [enc_name] at e1
      by_cases z : n = m
      · subst z
        refine ⟨true, fs, ?_, g, fun _ => ⟨fun θ => by simp, .inl ⟨rfl, rfl⟩⟩, fun e => by cases e⟩
        rw [c_Store_bound, enc_name, hset]
        simp [t_Store_bound, e1, Tm.isName, ne_names]
      · have c1 := fun b => end_st (h := h) (b := b) (fs' := fs.set m (some (.name n))) l2
        have c2 := fun b => end_st (h := h) (b := b) (fs' := fs.set n (some (.name m))) l2
        by_cases lt : n < m
        · refine ⟨true, fs.set m (some (.name n)), ?_, gs_tell g hm hfm (tg_name hn) (by rw [val_free hf]; simp [Tm.has, z]) (fun x e => by cases e; exact lt), fun _ => ⟨fun θ => ?_, .inr (unb_set (bd_none hfm hml))⟩, fun e => by cases e⟩
          · rw [c_Store_bound, enc_name, enc_name]
            have q1 : ¬ ((m : Int) < n) := by omega
            have q2 : (n : Int) < m := by omega
            have st := set_st (u := .name n) s hml
            rw [enc_name] at st
            simp [t_Store_bound, e1, Tm.isName, ne_names, z, fMin, fMax, q1, q2, f_found s, ix_n1, st, c1]
          · rw [sol_set g.toGood hm hfm]
            simp only [Tm.app_name]
            exact ⟨fun ⟨a, b⟩ => ⟨a, b.symm⟩, fun ⟨a, b⟩ => ⟨a, b.symm⟩⟩
        · have lt' : m < n := by omega
          refine ⟨true, fs.set n (some (.name m)), ?_, gs_tell g hn hf (tg_name hm) (by rw [val_free hfm]; simp [Tm.has]; omega) (fun x e => by cases e; exact lt'), fun _ => ⟨fun θ => sol_set g.toGood hn hf, .inr (unb_set (bd_none hf hnl))⟩, fun e => by cases e⟩
          rw [c_Store_bound, enc_name, enc_name]
          have q1 : (m : Int) < n := by omega
          have q2 : ¬ (n : Int) < m := by omega
          have st := set_st (u := .name m) s hnl
          rw [enc_name] at st
          simp [t_Store_bound, e1, Tm.isName, ne_names, z, fMin, fMax, q1, q2, f_found s, ix_n1, st, c2]
    | _ => simp [Tm.isName] at nm
  · have nm' : u.isName = false := by simpa using nm
    rw [nm'] at e1
    have hh := r_holds (i := i) (j := j) g hf (DB N B) u (val_dep g hu) hu k h (by omega) s
    have me := fun as => l_meth (CM := call k) (a := as) m_holds s
    cases ho : (val fs u).has n with
    | true =>
      rw [ho] at hh
      refine ⟨false, fs, ?_, g, fun e => (by cases e), fun _ θ hs e => ?_⟩
      · rw [c_Store_bound, hset]
        rw [enc_name] at hh ⊢
        simp [t_Store_bound, e1, me, hh]
      · cases u with
        | num x => rw [val_num] at ho; simp [Tm.has] at ho
        | word x => rw [val_word] at ho; simp [Tm.has] at ho
        | name m => simp [Tm.isName] at nm'
        | tree f as => exact no_cycle hs ho e
    | false =>
      rw [ho] at hh
      have c1 := fun b => end_st (h := h) (b := b) (fs' := fs.set n (some u)) l2
      have st := set_st (u := u) s hnl
      refine ⟨true, fs.set n (some u), ?_, gs_tell g hn hf hu ho (fun m e => by rw [e] at nm'; cases nm'), fun _ => ⟨fun θ => sol_set g.toGood hn hf, .inr (unb_set (bd_none hf hnl))⟩, fun e => by cases e⟩
      rw [c_Store_bound]
      rw [enc_name] at hh ⊢
      simp [t_Store_bound, e1, me, hh, f_found s, ix_n1, st, c1]
end
end Ev
set_option Elab.async false
set_option linter.all false
set_option maxRecDepth 100000
set_option maxHeartbeats 1000000
namespace Ev
open PySem PySem.Spec PyProof.Rows L2 He
def encQ (p : Tm × Tm) : PyData := .tuple [enc p.1, enc p.2]
abbrev encP (p : Tm × Tm) : W := .d (encQ p)
noncomputable abbrev tM (CM : FId → List W → M W) : EnvW → M Bool := tst (eCmp .NotEq (mVar 3) (eLstD (aList [])))
noncomputable abbrev bM (CM : FId → List W → M W) : MS := sBlock [sStar 0 [(.n 3), (.t [1, 2])] (mVar 3), sPar 1 2 (eMeth TT CM "head" (mVar 0) (aList [mVar 1])) (eMeth TT CM "head" (mVar 0) (aList [mVar 2])), sIf (tOrM (tst (eCall CM (pl "is_name") (aList [mVar 1]))) (tst (eCall CM (pl "is_name") (aList [mVar 2])))) (sBlock [sSet 4 (eIf (tst (eCall CM (pl "is_name") (aList [mVar 1]))) (eMeth TT CM "bound" (mVar 0) (aList [mVar 1, mVar 2])) (eMeth TT CM "bound" (mVar 0) (aList [mVar 2, mVar 1]))), sIf (tNotM (tst (mVar 4))) (sBlock [sRet (mC (.d (.bool false)))]) (sBlock [])]) (sBlock [sIf (tAndM (tst (eCall CM (pl "is_tree") (aList [mVar 1]))) (tAndM (tst (eCall CM (pl "is_tree") (aList [mVar 2]))) (tAndM (tst (eCmp .Eq (eIx (mVar 1) (mC (.d (.int 0)))) (eIx (mVar 2) (mC (.d (.int 0)))))) (tst (eCmp .Eq (eLen TT CM (mVar 1)) (eLen TT CM (mVar 2))))))) (sBlock [sSet 3 (eBin .Add (mVar 3) (eFun zipL (aList [eSl (mVar 1) (pSome (mC (.d (.int 1)))) pNo, eSl (mVar 2) (pSome (mC (.d (.int 1)))) pNo])))]) (sBlock [sIf (tst (eCmp .NotEq (mVar 1) (mVar 2))) (sBlock [sRet (mC (.d (.bool false)))]) (sBlock [])])])]
theorem star_ap {H : AH} {l : Nat} {qs : List (Tm × Tm)} {a b : Tm} {x0 x1 x2 x4 : Option W} (hl : H[l]? = some (.lst ((qs ++ [(a, b)]).map encP))) :
    sStar 0 [(.n 3), (.t [1, 2])] (mVar 3) [x0, x1, x2, some (.r l), x4] H = .ok (.nx [x0, some (.d (enc a)), some (.d (enc b)), some (.r H.length), x4]) (H ++ [.lst (qs.map encP)]) := by
  unfold sStar
  rw [mbind_ap]
  simp only [mVar_s, mVar_0, mb_ok, listW, hl]
  have e1 : ((qs ++ [(a, b)]).map encP).length + 1 - [Tg.n 3, Tg.t [1, 2]].length + 0 = qs.length := by simp
  have e2 : ((qs ++ [(a, b)]).map encP).drop qs.length = [encP (a, b)] := by simp
  have e3 : ((qs ++ [(a, b)]).map encP).take qs.length = qs.map encP := by simp
  rw [if_pos (by simp), e1, e2]
  rw [show ((qs ++ [(a, b)]).map encP).length + 1 - [Tg.n 3, Tg.t [1, 2]].length = qs.length from by simp, List.drop_zero, e3]
  simp [tgAll, tgM, setAll, encP, encQ]
theorem sh_q2 {a b : Tm} {B : Nat} (ha : a.ok = true) (hb : b.ok = true) (da : a.depth ≤ B) (db : b.depth ≤ B) : (encQ (a, b)).canLay0 = true ∧ (encQ (a, b)).depth ≤ B + 1 := by
  refine ⟨?_, ?_⟩
  · show ((enc a).canLay0 && ((enc b).canLay0 && true)) = true
    rw [enc_lay a ha, enc_lay b hb]; rfl
  · unfold encQ
    simp only [PyData.depth]
    have : PyData.depthAll [enc a, enc b] ≤ B := depAll fun y hy => by
      rcases List.mem_cons.mp hy with e | hy
      · rw [e]; exact Nat.le_trans (enc_dep a) da
      · have : y = enc b := by simpa using hy
        rw [this]; exact Nat.le_trans (enc_dep b) db
    omega
theorem sh_ps {ps : List (Tm × Tm)} {N B : Nat} (hB : B ≤ 60) (h : ∀ p ∈ ps, TG N B p.1 ∧ TG N B p.2) : SeqAt.shaped (.list (ps.map encQ)) = true := by
  unfold SeqAt.shaped
  simp only [PyData.canLay0, PyData.depth]
  rw [canAll fun y hy => by
    obtain ⟨p, hp, rfl⟩ := List.mem_map.mp hy
    obtain ⟨a, b⟩ := p
    exact (sh_q2 (h _ hp).1.ok (h _ hp).2.ok (h _ hp).1.dp (h _ hp).2.dp).1]
  have := depAll (n := B + 2) fun y (hy : y ∈ ps.map encQ) => by
    obtain ⟨p, hp, rfl⟩ := List.mem_map.mp hy
    obtain ⟨a, b⟩ := p
    exact (sh_q2 (h _ hp).1.ok (h _ hp).2.ok (h _ hp).1.dp (h _ hp).2.dp).2
  rw [Bool.true_and]
  exact decide_eq_true (by omega)
theorem t_merge {CM : FId → List W → M W} {H : AH} {l : Nat} {ps : List (Tm × Tm)} {x0 x1 x2 x4 : Option W} (hl : H[l]? = some (.lst (ps.map encP))) (hs : SeqAt.shaped (.list (ps.map encQ)) = true) :
    tM CM [x0, x1, x2, some (.r l), x4] H = .ok (!ps.isEmpty) H := by
  have e1 : peek H (.r l) = some (.list (ps.map encQ)) := by
    unfold peek
    simp only [hl]
    rw [show ps.map encP = (ps.map encQ).map W.d from by rw [List.map_map]; rfl, allD_map]
    rfl
  have e2 : PyData.eqv (.list (ps.map encQ)) (.list []) = ps.isEmpty := by rw [eqv_nil]; cases ps <;> rfl
  have sz : (0 : Nat) ≤ sizeLine := by decide
  have e3 : peek H (.d (.list [])) = some (.list []) := rfl
  simp [tM, kLstD, allD, sz, cmp, cEq, e1, e3, hs, sh_nil, e2]
/-- sizes of what is left -/
def tot (fs : List (Option Tm)) (ps : List (Tm × Tm)) : Nat := (ps.map fun p => (val fs p.1).size + (val fs p.2).size).sum
theorem tot_app {fs : List (Option Tm)} {ps qs : List (Tm × Tm)} : tot fs (ps ++ qs) = tot fs ps + tot fs qs := by simp [tot]
theorem tot_one {fs : List (Option Tm)} {a b : Tm} : tot fs [(a, b)] = (val fs a).size + (val fs b).size := by simp [tot]
theorem tot_zip {fs : List (Option Tm)} : ∀ {as bs : List Tm}, as.length = bs.length → tot fs (as.zip bs) = ((as.map (val fs)).map Tm.size).sum + ((bs.map (val fs)).map Tm.size).sum
  | [], [], _ => rfl
  | a :: as, b :: bs, h => by
    have := tot_zip (fs := fs) (as := as) (bs := bs) (by simpa using h)
    unfold tot at this ⊢
    simp only [List.zip_cons_cons, List.map_cons, List.sum_cons] at this ⊢
    omega
def Stk (fs : List (Option Tm)) (K : Nat) (ps : List (Tm × Tm)) : Prop := ∀ x p, ps[x]? = some p → x + 4 * (val fs p.1).depth ≤ K
theorem stk_len {fs : List (Option Tm)} {K : Nat} {ps : List (Tm × Tm)} (h : Stk fs K ps) : ps.length ≤ K := by
  rcases Nat.eq_zero_or_pos ps.length with e | e
  · omega
  · have := h (ps.length - 1) _ (List.getElem?_eq_getElem (by omega))
    have := Tm.depth_pos (val fs (ps[ps.length - 1]'(by omega)).1)
    omega
theorem stk_init {fs : List (Option Tm)} {K : Nat} {ps : List (Tm × Tm)} (h : Stk fs K (ps ++ [p])) : Stk fs K ps := fun x q hx => h x q (by rw [List.getElem?_append_left (List.getElem?_eq_some_iff.mp hx).1]; exact hx)
theorem zip_app {θ : Nat → Tm} : ∀ {as bs : List Tm}, as.length = bs.length → ((∀ p ∈ as.zip bs, p.1.app θ = p.2.app θ) ↔ as.map (Tm.app θ) = bs.map (Tm.app θ))
  | [], [], _ => by simp
  | a :: as, b :: bs, h => by
    have := zip_app (θ := θ) (as := as) (bs := bs) (by simpa using h)
    simp only [List.zip_cons_cons, List.mem_cons, forall_eq_or_imp, List.map_cons, List.cons.injEq, this]
theorem zip_encP : ∀ {as bs : List Tm}, zipD (as.map enc) (bs.map enc) = (as.zip bs).map encP
  | [], bs => by simp [zipD]
  | a :: as, [] => by simp [zipD]
  | a :: as, b :: bs => by
    have := zip_encP (as := as) (bs := bs)
    unfold zipD at this ⊢
    simp [this, encP, encQ]
end Ev
set_option Elab.async false
set_option linter.all false
set_option maxRecDepth 100000
set_option maxHeartbeats 2000000
namespace Ev
open PySem PySem.Spec PyProof.Rows L2 He
def Alls (θ : Nat → Tm) (ps : List (Tm × Tm)) : Prop := ∀ p ∈ ps, p.1.app θ = p.2.app θ
theorem alls_snoc {θ : Nat → Tm} {ps : List (Tm × Tm)} {a b : Tm} : Alls θ (ps ++ [(a, b)]) ↔ Alls θ ps ∧ a.app θ = b.app θ := by
  unfold Alls
  constructor
  · intro h; exact ⟨fun p hp => h p (by simp [hp]), h (a, b) (by simp)⟩
  · rintro ⟨h1, h2⟩ p hp
    rcases List.mem_append.mp hp with q | q
    · exact h1 p q
    · have : p = (a, b) := by simpa using q
      rw [this]; exact h2
theorem alls_app {θ : Nat → Tm} {ps qs : List (Tm × Tm)} : Alls θ (ps ++ qs) ↔ Alls θ ps ∧ Alls θ qs := by
  unfold Alls
  simp only [List.mem_append]
  exact ⟨fun h => ⟨fun p hp => h p (.inl hp), fun p hp => h p (.inr hp)⟩, fun ⟨h1, h2⟩ p hp => hp.elim (h1 p) (h2 p)⟩
section
variable {N B : Nat} {i j : Nat} {h : AH} {ds0 : List PyData}
theorem st_at (s : StAt h i j ds0) (fs : List (Option Tm)) (J : AH) : St (h.set j (lstO fs) ++ J) i j fs := by
  obtain ⟨l1, l2, l3⟩ := s.lt
  refine StAt.app ⟨?_, ?_⟩
  · rw [List.getElem?_set_ne (Ne.symm l3)]; exact s.ob
  · exact List.getElem?_set_self l2
theorem set_at (s : StAt h i j ds0) (fs fs' : List (Option Tm)) (J : AH) : (h.set j (lstO fs) ++ J).set j (lstO fs') = h.set j (lstO fs') ++ J := by
  obtain ⟨l1, l2, l3⟩ := s.lt
  rw [List.set_append_left _ _ (by rw [List.length_set]; exact l2), List.set_set]
theorem merge_loop (s : StAt h i j ds0) (hB : B ≤ 60) {k : Nat} (hk : DB N B + 7 ≤ k) : ∀ (U S K : Nat) (fs : List (Option Tm)) (ps : List (Tm × Tm)) (J : AH) (l : Nat) (x1 x2 x4 : Option W), GS N B fs → unb fs ≤ U → tot fs ps ≤ S → Stk fs K ps → K + 4 * DB N B * U ≤ 90000 → (∀ p ∈ ps, TG N B p.1 ∧ TG N B p.2) → (h.set j (lstO fs) ++ J)[l]? = some (.lst (ps.map encP)) → h.length ≤ l →
    ∃ c fs' J', GS N B fs' ∧ ((∃ e, wloop (tM (call k)) (bM (call k)) c [some (.r i), x1, x2, some (.r l), x4] (h.set j (lstO fs) ++ J) = .ok (.nx e) (h.set j (lstO fs') ++ J') ∧ ∀ θ, Sol (bd fs') θ ↔ Sol (bd fs) θ ∧ Alls θ ps) ∨
      (wloop (tM (call k)) (bM (call k)) c [some (.r i), x1, x2, some (.r l), x4] (h.set j (lstO fs) ++ J) = .ok (.rt (.d (.bool false))) (h.set j (lstO fs') ++ J') ∧ ∀ θ, Sol (bd fs) θ → ¬ Alls θ ps)) := by
  intro U
  induction U using Nat.strongRecOn with
  | _ U ihU =>
  intro S
  induction S using Nat.strongRecOn with
  | _ S ihS =>
  intro K fs ps J l x1 x2 x4 g hU hS hK hK2 hp hl hlh
  have tt := t_merge (CM := call k) (x0 := some (.r i)) (x1 := x1) (x2 := x2) (x4 := x4) hl (sh_ps hB hp)
  rcases List.eq_nil_or_concat ps with e | ⟨qs, ⟨a, b⟩, e⟩
  · subst e
    exact ⟨1, fs, J, g, .inl ⟨_, wl_stop tt, fun θ => by simp [Alls]⟩⟩
  · rw [List.concat_eq_append] at e
    subst e
    have tt' : tM (call k) [some (.r i), x1, x2, some (.r l), x4] (h.set j (lstO fs) ++ J) = .ok true (h.set j (lstO fs) ++ J) := by rw [tt]; simp
    obtain ⟨ta, tb⟩ := hp (a, b) (by simp)
    have hq : ∀ p ∈ qs, TG N B p.1 ∧ TG N B p.2 := fun p q => hp p (by simp [q])
    have st := star_ap (x0 := some (.r i)) (x1 := x1) (x2 := x2) (x4 := x4) hl
    rw [List.append_assoc] at st
    have s0 := st_at s fs (J ++ [AO.lst (qs.map encP)])
    obtain ⟨u, u1, u2, u3, u4⟩ := r_head (k := k) (by omega) s0 g ta
    obtain ⟨v, v1, v2, v3, v4⟩ := r_head (k := k) (by omega) s0 g tb
    have ml : (h.set j (lstO fs) ++ (J ++ [AO.lst (qs.map encP)]))[(h.set j (lstO fs) ++ J).length]? = some (.lst (qs.map encP)) := by rw [← List.append_assoc]; simp
    have mlh : h.length ≤ (h.set j (lstO fs) ++ J).length := by simp
    have m1 := fun as => l_meth (CM := call k) (a := as) m_head s0
    have m2 := fun as => l_meth (CM := call k) (a := as) m_bound s0
    have eu := r_is_name (k := k) (t := u) (h := (h.set j (lstO fs) ++ (J ++ [AO.lst (qs.map encP)]))) (by omega) u4.ok
    have ev := r_is_name (k := k) (t := v) (h := (h.set j (lstO fs) ++ (J ++ [AO.lst (qs.map encP)]))) (by omega) v4.ok
    have fu := r_is_tree (k := k) (t := u) (h := (h.set j (lstO fs) ++ (J ++ [AO.lst (qs.map encP)]))) (by omega) u4.ok
    have fv := r_is_tree (k := k) (t := v) (h := (h.set j (lstO fs) ++ (J ++ [AO.lst (qs.map encP)]))) (by omega) v4.ok
    have au : ∀ θ, Sol (bd fs) θ → u.app θ = a.app θ := fun θ hs => by rw [← val_eq hs u, ← val_eq hs a, u2]
    have av : ∀ θ, Sol (bd fs) θ → v.app θ = b.app θ := fun θ hs => by rw [← val_eq hs v, ← val_eq hs b, v2]
    have tq : tot fs qs < tot fs (qs ++ [(a, b)]) := by
      rw [tot_app, tot_one]
      have := Tm.size_pos (val fs a); omega
    -- the pair is alike already
    have pop : ∀ (H' : AH) (lq : Nat) (y1 y2 y4 : Option W), bM (call k) [some (.r i), x1, x2, some (.r l), x4] (h.set j (lstO fs) ++ J) = .ok (.nx [some (.r i), y1, y2, some (.r (h.set j (lstO fs) ++ J).length), y4]) (h.set j (lstO fs) ++ (J ++ [AO.lst (qs.map encP)])) → (∀ θ, Sol (bd fs) θ → a.app θ = b.app θ) → ∃ c fs' J', GS N B fs' ∧ ((∃ e, wloop (tM (call k)) (bM (call k)) c [some (.r i), x1, x2, some (.r l), x4] (h.set j (lstO fs) ++ J) = .ok (.nx e) (h.set j (lstO fs') ++ J') ∧ ∀ θ, Sol (bd fs') θ ↔ Sol (bd fs) θ ∧ Alls θ (qs ++ [(a, b)])) ∨
      (wloop (tM (call k)) (bM (call k)) c [some (.r i), x1, x2, some (.r l), x4] (h.set j (lstO fs) ++ J) = .ok (.rt (.d (.bool false))) (h.set j (lstO fs') ++ J') ∧ ∀ θ, Sol (bd fs) θ → ¬ Alls θ (qs ++ [(a, b)]))) := fun H' lq y1 y2 y4 hb hab => by
      obtain ⟨c, fs', J', g', r⟩ := ihS (tot fs qs) (by omega) K fs qs (J ++ [AO.lst (qs.map encP)]) _ y1 y2 y4 g hU (Nat.le_refl _) (stk_init hK) hK2 hq ml mlh
      refine ⟨c + 1, fs', J', g', ?_⟩
      rw [wl_next tt' hb]
      rcases r with ⟨e, r1, r2⟩ | ⟨r1, r2⟩
      · exact .inl ⟨e, r1, fun θ => by rw [r2 θ, alls_snoc]; exact ⟨fun ⟨q1, q2⟩ => ⟨q1, q2, hab θ q1⟩, fun ⟨q1, q2, _⟩ => ⟨q1, q2⟩⟩⟩
      · exact .inr ⟨r1, fun θ hs q => r2 θ hs (alls_snoc.mp q).1⟩
    -- a name is told
    have told : ∀ (n : Nat) (w : Tm), n < N → bd fs n = none → TG N B w → (∀ m, w = .name m → bd fs m = none) → (∀ θ, Sol (bd fs) θ → (θ n = w.app θ ↔ a.app θ = b.app θ)) →
      (∀ (bb : Bool) (H2 : AH), call k ("Store", "bound") [.r i, .d (enc (.name n)), .d (enc w)] (h.set j (lstO fs) ++ (J ++ [AO.lst (qs.map encP)])) = .ok (.d (.bool bb)) H2 →
        bM (call k) [some (.r i), x1, x2, some (.r l), x4] (h.set j (lstO fs) ++ J) = if bb then .ok (.nx [some (.r i), some (.d (enc u)), some (.d (enc v)), some (.r (h.set j (lstO fs) ++ J).length), some (.d (.bool true))]) H2 else .ok (.rt (.d (.bool false))) H2) →
      ∃ c fs' J', GS N B fs' ∧ ((∃ e, wloop (tM (call k)) (bM (call k)) c [some (.r i), x1, x2, some (.r l), x4] (h.set j (lstO fs) ++ J) = .ok (.nx e) (h.set j (lstO fs') ++ J') ∧ ∀ θ, Sol (bd fs') θ ↔ Sol (bd fs) θ ∧ Alls θ (qs ++ [(a, b)])) ∨
      (wloop (tM (call k)) (bM (call k)) c [some (.r i), x1, x2, some (.r l), x4] (h.set j (lstO fs) ++ J) = .ok (.rt (.d (.bool false))) (h.set j (lstO fs') ++ J') ∧ ∀ θ, Sol (bd fs) θ → ¬ Alls θ (qs ++ [(a, b)]))) := fun n w hn hf hw hwf hiff hbody => by
      obtain ⟨bb, fs', c1, g', p1, p2⟩ := r_bound g (k := k) hn hf hw hwf s0 (by omega)
      rw [set_at s] at c1
      have hb := hbody bb _ c1
      cases bb with
      | false =>
        refine ⟨1, fs', _, g', .inr ⟨wl_ret tt' hb, fun θ hs q => ?_⟩⟩
        exact p2 rfl θ hs ((hiff θ hs).mpr (alls_snoc.mp q).2)
      | true =>
        obtain ⟨p3, p4⟩ := p1 rfl
        have ml' : (h.set j (lstO fs') ++ (J ++ [AO.lst (qs.map encP)]))[(h.set j (lstO fs) ++ J).length]? = some (.lst (qs.map encP)) := by
          rw [show (h.set j (lstO fs) ++ J).length = (h.set j (lstO fs') ++ J).length from by simp, ← List.append_assoc]; simp
        rcases p4 with ⟨p4, p5⟩ | p4
        · subst p5
          exact pop [] 0 _ _ _ hb fun θ hs => (hiff θ hs).mp (by rw [p4]; simp)
        · have hU' : unb fs' < U := by omega
          have stk : Stk fs' (K + 4 * DB N B) qs := fun x p hx => by
            have hx1 := stk_init hK x p hx
            have hx2 := val_dep g' (hq p (List.mem_of_getElem? hx)).1
            show x + 4 * (val fs' p.1).depth ≤ K + 4 * DB N B
            unfold DB; omega
          obtain ⟨c, fs2, J2, g2, r⟩ := ihU (unb fs') hU' (tot fs' qs) (K + 4 * DB N B) fs' qs (J ++ [AO.lst (qs.map encP)]) _ _ _ _ g' (Nat.le_refl _) (Nat.le_refl _) stk (by
            have : 4 * DB N B * (unb fs' + 1) ≤ 4 * DB N B * U := Nat.mul_le_mul_left _ hU'
            rw [Nat.mul_add] at this
            omega) hq ml' mlh
          refine ⟨c + 1, fs2, J2, g2, ?_⟩
          rw [wl_next tt' hb]
          rcases r with ⟨e, r1, r2⟩ | ⟨r1, r2⟩
          · refine .inl ⟨e, r1, fun θ => ?_⟩
            rw [r2 θ, p3 θ, alls_snoc]
            exact ⟨fun ⟨⟨q1, q2⟩, q3⟩ => ⟨q1, q3, (hiff θ q1).mp q2⟩, fun ⟨q1, q3, q2⟩ => ⟨⟨q1, (hiff θ q1).mpr q2⟩, q3⟩⟩
          · refine .inr ⟨r1, fun θ hs q => ?_⟩
            obtain ⟨q1, q2⟩ := alls_snoc.mp q
            exact r2 θ ((p3 θ).mpr ⟨hs, (hiff θ hs).mpr q2⟩) q1
    have refu : (∀ θ, u.app θ ≠ v.app θ) → ∀ J2 : AH, bM (call k) [some (.r i), x1, x2, some (.r l), x4] (h.set j (lstO fs) ++ J) = .ok (.rt (.d (.bool false))) (h.set j (lstO fs) ++ J2) → ∃ c fs' J', GS N B fs' ∧ ((∃ e, wloop (tM (call k)) (bM (call k)) c [some (.r i), x1, x2, some (.r l), x4] (h.set j (lstO fs) ++ J) = .ok (.nx e) (h.set j (lstO fs') ++ J') ∧ ∀ θ, Sol (bd fs') θ ↔ Sol (bd fs) θ ∧ Alls θ (qs ++ [(a, b)])) ∨
      (wloop (tM (call k)) (bM (call k)) c [some (.r i), x1, x2, some (.r l), x4] (h.set j (lstO fs) ++ J) = .ok (.rt (.d (.bool false))) (h.set j (lstO fs') ++ J') ∧ ∀ θ, Sol (bd fs) θ → ¬ Alls θ (qs ++ [(a, b)]))) := fun hne J2 hb => by
      refine ⟨1, fs, J2, g, .inr ⟨wl_ret tt' hb, fun θ hs q => hne θ ?_⟩⟩
      rw [au θ hs, av θ hs]; exact (alls_snoc.mp q).2
    have du : u.depth ≤ 64 := by have := u4.dp; omega
    have dv : v.depth ≤ 64 := by have := v4.dp; omega
    have nq := ne_enc (h := (h.set j (lstO fs) ++ (J ++ [AO.lst (qs.map encP)]))) u4.ok v4.ok du dv
    obtain ⟨H1, eH1⟩ : ∃ H1, H1 = h.set j (lstO fs) ++ (J ++ [AO.lst (qs.map encP)]) := ⟨_, rfl⟩
    obtain ⟨H0, eH0⟩ : ∃ H0, H0 = h.set j (lstO fs) ++ J := ⟨_, rfl⟩
    by_cases un : u.isName = true
    · cases u with
      | name n =>
        refine told n v (u4.nm n (by simp [Tm.has])) (u3 n rfl) v4 v3 (fun θ hs => by rw [← au θ hs, ← av θ hs]; simp) fun bb H2 hb => ?_
        rw [← eH1] at st u1 v1 m1 m2 eu ev hb
        rw [← eH0] at st ⊢
        rw [enc_name] at *
        cases bb <;> simp [bM, st, m1, u1, v1, eu, Tm.isName, m2, hb]
      | _ => simp [Tm.isName] at un
    · have un' : u.isName = false := by simpa using un
      rw [un'] at eu
      by_cases vn : v.isName = true
      · cases v with
        | name n =>
          refine told n u (v4.nm n (by simp [Tm.has])) (v3 n rfl) u4 u3 (fun θ hs => by rw [← au θ hs, ← av θ hs]; simp; exact ⟨fun e => e.symm, fun e => e.symm⟩) fun bb H2 hb => ?_
          rw [← eH1] at st u1 v1 m1 m2 eu ev hb
          rw [← eH0] at st ⊢
          rw [enc_name] at *
          cases bb <;> simp [bM, st, m1, u1, v1, eu, ev, Tm.isName, m2, hb]
        | _ => simp [Tm.isName] at vn
      · have vn' : v.isName = false := by simpa using vn
        rw [vn'] at ev
        by_cases ut : u.isTree = true ∧ v.isTree = true
        · obtain ⟨ut, vt⟩ := ut
          rw [ut] at fu
          rw [vt] at fv
          cases u with
          | tree f as =>
            cases v with
            | tree f' bs =>
              obtain ⟨o1, o2, o3, o4⟩ := Tm.ok_tree.mp u4.ok
              obtain ⟨p1, p2, p3, p4⟩ := Tm.ok_tree.mp v4.ok
              have hf1 : ∀ H : AH, cmp .Eq (.d (.str f)) (.d (.str f')) H = .ok (.d (.bool (f == f'))) H := fun H => by simp [cmp, cEq, peek, sh_str o1, sh_str p1, eqv_ss]
              have hf2 : ∀ (H : AH) (x y : Int), cmp .Eq (.d (.int x)) (.d (.int y)) H = .ok (.d (.bool (decide (x = y)))) H := fun H x y => by simp [cmp, cEq, peek, sh_int, eqv_ii]
              by_cases ff : f = f' ∧ as.length = bs.length
              · obtain ⟨ff, fl⟩ := ff
                subst ff
                have ba : bAdd (.r H0.length) (.r H1.length) (H1 ++ [AO.lst (zipD (as.map enc) (bs.map enc))]) = .ok (.r (H1.length + 1)) (H1 ++ [AO.lst (zipD (as.map enc) (bs.map enc))] ++ [AO.lst (qs.map encP ++ zipD (as.map enc) (bs.map enc))]) := by
                  refine (bAdd_l (a := qs.map encP) (b := zipD (as.map enc) (bs.map enc)) ?_ (by simp) ?_).trans ?_
                  · rw [List.getElem?_append_left (by rw [eH0, eH1]; simp), eH1, eH0]; exact ml
                  · have : qs.length ≤ 90000 := by have := stk_len (stk_init hK); omega
                    refine Nat.le_trans (show _ ≤ 90010 from ?_) (by decide)
                    simp [zipD]; omega
                  · simp
                have hb : bM (call k) [some (.r i), x1, x2, some (.r l), x4] (h.set j (lstO fs) ++ J) = .ok (.nx [some (.r i), some (.d (enc (.tree f as))), some (.d (enc (.tree f bs))), some (.r (H1.length + 1)), x4]) (h.set j (lstO fs) ++ (J ++ [AO.lst (qs.map encP)] ++ [AO.lst (zipD (as.map enc) (bs.map enc))] ++ [AO.lst ((qs ++ as.zip bs).map encP)])) := by
                  rw [List.map_append, ← zip_encP]
                  rw [show ∀ x y : AO, h.set j (lstO fs) ++ (J ++ [AO.lst (qs.map encP)] ++ [x] ++ [y]) = H1 ++ [x] ++ [y] from fun x y => by rw [eH1]; simp]
                  rw [← eH1] at st u1 v1 m1 m2 eu ev fu fv
                  rw [← eH0] at st ⊢
                  rw [enc_tree] at *
                  have q1 : decide ((as.length : Int) + 1 = (bs.length : Int) + 1) = true := decide_eq_true (by omega)
                  simp [-List.append_assoc, bM, st, m1, u1, v1, eu, ev, fu, fv, ixM, at0, hf1, hf2, fLen, fl, slM, cut1, zipL, bop, ba]
                have stk : Stk fs K (qs ++ as.zip bs) := fun x p hx => by
                  by_cases xl : x < qs.length
                  · rw [List.getElem?_append_left xl] at hx
                    exact stk_init hK x p hx
                  · rw [List.getElem?_append_right (by omega)] at hx
                    have hm := List.mem_of_getElem? hx
                    have h1 : p.1 ∈ as := (List.of_mem_zip hm).1
                    have h2 := (List.getElem?_eq_some_iff.mp hx).1
                    simp at h2
                    have h3 := hK qs.length (a, b) (by simp)
                    simp only at h3
                    rw [← u2, val_tree] at h3
                    have h4 := Tm.depth_le (List.mem_map_of_mem (f := val fs) h1)
                    simp only [Tm.depth] at h3
                    omega
                have tl : tot fs (qs ++ as.zip bs) < tot fs (qs ++ [(a, b)]) := by
                  rw [tot_app, tot_app, tot_one, tot_zip fl, ← u2, ← v2, val_tree, val_tree, Tm.size_tree, Tm.size_tree]
                  omega
                obtain ⟨c, fs', J', g', r⟩ := ihS (tot fs (qs ++ as.zip bs)) (by omega) K fs (qs ++ as.zip bs) _ (H1.length + 1) _ _ _ g hU (Nat.le_refl _) stk hK2 (fun p hm => by
                  rcases List.mem_append.mp hm with q | q
                  · exact hq p q
                  · exact ⟨u4.kid (List.of_mem_zip q).1, v4.kid (List.of_mem_zip q).2⟩) (show (h.set j (lstO fs) ++ (J ++ [AO.lst (qs.map encP)] ++ [AO.lst (zipD (as.map enc) (bs.map enc))] ++ [AO.lst ((qs ++ as.zip bs).map encP)]))[H1.length + 1]? = some (.lst ((qs ++ as.zip bs).map encP)) from by
                    rw [show ∀ x y : AO, h.set j (lstO fs) ++ (J ++ [AO.lst (qs.map encP)] ++ [x] ++ [y]) = H1 ++ [x, y] from fun x y => by rw [eH1]; simp, at_l1]; rfl) (by rw [eH1]; simp; omega)
                refine ⟨c + 1, fs', J', g', ?_⟩
                rw [wl_next tt' hb]
                have hiff : ∀ θ, Sol (bd fs) θ → (Alls θ (qs ++ as.zip bs) ↔ Alls θ (qs ++ [(a, b)])) := fun θ hs => by
                  rw [alls_app, alls_snoc, ← au θ hs, ← av θ hs, Tm.app_tree, Tm.app_tree]
                  have := zip_app (θ := θ) fl
                  unfold Alls
                  rw [this]
                  simp
                rcases r with ⟨e, r1, r2⟩ | ⟨r1, r2⟩
                · refine .inl ⟨e, r1, fun θ => ?_⟩
                  rw [r2 θ]
                  exact ⟨fun ⟨q1, q2⟩ => ⟨q1, (hiff θ q1).mp q2⟩, fun ⟨q1, q2⟩ => ⟨q1, (hiff θ q1).mpr q2⟩⟩
                · exact .inr ⟨r1, fun θ hs q => r2 θ hs ((hiff θ hs).mpr q)⟩
              · have hne : Tm.tree f as ≠ Tm.tree f' bs := fun e => by cases e; exact ff ⟨rfl, rfl⟩
                refine refu (fun θ e => ?_) (J ++ [AO.lst (qs.map encP)]) ?_
                · rw [Tm.app_tree, Tm.app_tree] at e
                  injection e with e1 e2
                  refine ff ⟨e1, ?_⟩
                  have := congrArg List.length e2
                  simpa using this
                · rw [← eH1] at st u1 v1 m1 m2 eu ev fu fv nq ⊢
                  rw [← eH0] at st ⊢
                  have hd : decide (Tm.tree f as = Tm.tree f' bs) = false := decide_eq_false hne
                  rw [hd] at nq
                  rw [enc_tree, enc_tree] at *
                  by_cases q1 : f = f'
                  · subst q1
                    have q2 : ¬ ((as.length : Int) + 1 = (bs.length : Int) + 1) := fun e => ff ⟨rfl, by omega⟩
                    have q3 : ¬ ((as.length : Int) = (bs.length : Int)) := fun e => ff ⟨rfl, by omega⟩
                    have q4 : ¬ (as.length = bs.length) := fun e => ff ⟨rfl, by omega⟩
                    simp [bM, st, m1, u1, v1, eu, ev, fu, fv, ixM, at0, hf1, hf2, fLen, q2, q3, q4, nq]
                  · have q2 : (f == f') = false := by simpa using q1
                    simp [bM, st, m1, u1, v1, eu, ev, fu, fv, ixM, at0, hf1, hf2, fLen, q2, nq]
            | _ => simp [Tm.isTree] at vt
          | _ => simp [Tm.isTree] at ut
        · have hb : ∀ z : Bool, (!decide (u = v)) = z → bM (call k) [some (.r i), x1, x2, some (.r l), x4] (h.set j (lstO fs) ++ J) = if z then .ok (.rt (.d (.bool false))) (h.set j (lstO fs) ++ (J ++ [AO.lst (qs.map encP)])) else .ok (.nx [some (.r i), some (.d (enc u)), some (.d (enc v)), some (.r (h.set j (lstO fs) ++ J).length), x4]) (h.set j (lstO fs) ++ (J ++ [AO.lst (qs.map encP)])) := fun z hz => by
            rw [hz] at nq
            rw [← eH1] at st u1 v1 m1 m2 eu ev fu fv nq ⊢
            rw [← eH0] at st ⊢
            cases hu : u.isTree with
            | false =>
              rw [hu] at fu
              cases z <;> simp [bM, st, m1, u1, v1, eu, ev, fu, nq]
            | true =>
              have hv : v.isTree = false := by
                cases q : v.isTree with
                | false => rfl
                | true => exact absurd ⟨hu, q⟩ ut
              rw [hu] at fu
              rw [hv] at fv
              cases z <;> simp [bM, st, m1, u1, v1, eu, ev, fu, fv, nq]
          by_cases uv : u = v
          · exact pop [] 0 _ _ _ (hb false (by simp [uv])) fun θ hs => by rw [← au θ hs, ← av θ hs, uv]
          · refine refu (fun θ e => ?_) _ (hb true (by simp [uv]))
            cases u with
            | num x =>
              cases v with
              | num y => simp at e; exact uv (by rw [e])
              | word y => simp at e
              | name y => simp [Tm.isName] at vn
              | tree f as => rw [Tm.app_tree] at e; simp at e
            | word x =>
              cases v with
              | num y => simp at e
              | word y => simp at e; exact uv (by rw [e])
              | name y => simp [Tm.isName] at vn
              | tree f as => rw [Tm.app_tree] at e; simp at e
            | name x => simp [Tm.isName] at un
            | tree f as =>
              cases v with
              | num y => rw [Tm.app_tree] at e; simp at e
              | word y => rw [Tm.app_tree] at e; simp at e
              | name y => simp [Tm.isName] at vn
              | tree f bs => exact ut ⟨rfl, rfl⟩
end
end Ev
set_option Elab.async false
set_option linter.all false
set_option maxRecDepth 100000
set_option maxHeartbeats 400000
namespace Ev
open PySem PySem.Spec PyProof.Rows L2 He
theorem r_pick {k : Nat} {ns ts : List Int} {ds : List PyData} {t j : Nat} {c : Int} {h : AH} (ht : h[t]? = some (LI ts)) (T : Tw ns c ts) (hc : c ≤ 1000000) (hj : h[j]? = some (.lst (ds.map .d))) (hjt : t ≠ j) (hd : 0 < ds.length) (hd2 : ds.length < 1000) :
    ∃ d ts', d ∈ ds ∧ call (k + 2) (pl "_law_pick") [.d (dI ns), .r t, .r j] h = .ok (.d d) (h.set t (LI ts')) ∧ Tw ns (c + 1) ts' := by
  have htl : t < h.length := (List.getElem?_eq_some_iff.mp ht).1
  obtain ⟨v, ts', e, v0, v1, T'⟩ := r_draw (k := k) (m := (ds.length : Int)) ht T hc (by omega) (by omega)
  have hj2 : (h.set t (LI ts'))[j]? = some (.lst (ds.map .d)) := by rw [List.getElem?_set_ne hjt]; exact hj
  have vl : v.toNat < ds.length := by omega
  refine ⟨ds[v.toNat], ts', List.getElem_mem vl, ?_, T'⟩
  rw [c_law_pick]
  have e1 : kLen TT (call (k + 1)) (.r j) h = .ok (.d (.int ds.length)) h := by rw [kLen_l hj]; simp
  have e2 : ixM (.r j) (.d (.int v)) (h.set t (LI ts')) = .ok (.d ds[v.toNat]) (h.set t (LI ts')) := by
    unfold ixM
    have e : atI (ds.map W.d) v = some (.d ds[v.toNat]) := by
      rw [atI_get v0 (by simpa using v1)]; simp [vl]
    simp only [hj2, e]
  simp [t_law_pick, e1, e, e2, end_set0 clos_LI htl]
theorem r_pickL {k : Nat} {ns ts : List Int} {ds : List PyData} {t : Nat} {c : Int} {h : AH} (ht : h[t]? = some (LI ts)) (T : Tw ns c ts) (hc : c ≤ 1000000) (hd : 0 < ds.length) (hd2 : ds.length < 1000) :
    ∃ d ts', d ∈ ds ∧ call (k + 2) (pl "_law_pick") [.d (dI ns), .r t, .r h.length] (h ++ [.lst (ds.map .d)]) = .ok (.d d) (h.set t (LI ts') ++ [.lst (ds.map .d)]) ∧ Tw ns (c + 1) ts' := by
  have htl : t < h.length := (List.getElem?_eq_some_iff.mp ht).1
  obtain ⟨d, ts', h1, h2, h3⟩ := r_pick (k := k) (h := h ++ [.lst (ds.map .d)]) (j := h.length) (by rw [List.getElem?_append_left htl]; exact ht) T hc at_l (by omega) hd hd2
  rw [cpl4 htl] at h2
  exact ⟨d, ts', h1, h2, h3⟩
end Ev
set_option Elab.async false
set_option linter.all false
set_option maxRecDepth 100000
set_option maxHeartbeats 2000000
namespace Ev
open PySem PySem.Spec PyProof.Rows L2 He
/-- what a drawn term is -/
structure Dr (N d : Nat) (u : Tm) : Prop where
  ok : u.ok = true
  nm : ∀ n, u.has n = true → n < N
  dp : u.depth ≤ d + 1
  sz : u.size ≤ 4 ^ d
noncomputable abbrev bTerm (CM : FId → List W → M W) : MS := sBlock [sSet 5 (eBin .Add (mVar 5) (eTup (aList [eCall CM (pl "_law_term") (aList [mVar 0, mVar 1, eBin .Sub (mVar 2) (mC (.d (.int 1))), mVar 3])])))]
theorem term_loop {N d k t : Nat} {ns : List Int} {f : Str} {w4 : W} (ih : ∀ (h : AH) (ts : List Int) (c : Int), h[t]? = some (LI ts) → Tw ns c ts → c + 4 ^ (d + 1) ≤ 1000000 → ∃ u ts', call k (pl "_law_term") [.d (dI ns), .r t, .d (.int d), .d (.int N)] h = .ok (.d (enc u)) (h.set t (LI ts')) ∧ Dr N d u ∧ Tw ns (c + 4 ^ (d + 1)) ts') :
    ∀ (ws : List W) (us : List Tm) (h : AH) (ts : List Int) (c : Int) (x : Option W), h[t]? = some (LI ts) → Tw ns c ts → c + ws.length * 4 ^ (d + 1) ≤ 1000000 → us.length + ws.length ≤ 10 →
    ∃ vs ts' y, floop (.n 6) (bTerm (call k)) ws [some (.d (dI ns)), some (.r t), some (.d (.int ((d + 1 : Nat) : Int))), some (.d (.int N)), some w4, some (.d (.tuple (.str f :: us.map enc))), x] h = .ok (.nx [some (.d (dI ns)), some (.r t), some (.d (.int ((d + 1 : Nat) : Int))), some (.d (.int N)), some w4, some (.d (.tuple (.str f :: (us ++ vs).map enc))), y]) (h.set t (LI ts')) ∧ vs.length = ws.length ∧ (∀ v ∈ vs, Dr N d v) ∧ Tw ns (c + ws.length * 4 ^ (d + 1)) ts'
  | [], us, h, ts, c, x, ht, T, _, _ => ⟨[], ts, x, by simp [set_same ht], rfl, fun v hv => (by cases hv), by simpa using T⟩
  | w :: ws, us, h, ts, c, x, ht, T, hc, hl => by
    have htl : t < h.length := (List.getElem?_eq_some_iff.mp ht).1
    have P0 : (0 : Int) < 4 ^ (d + 1) := Int.pow_pos (by decide)
    have hc2 : c + (ws.length * 4 ^ (d + 1) + 4 ^ (d + 1)) ≤ 1000000 := by
      have : (((w :: ws).length : Nat) : Int) * 4 ^ (d + 1) = ws.length * 4 ^ (d + 1) + 4 ^ (d + 1) := by
        rw [List.length_cons, Int.natCast_add, Int.add_mul]; simp
      rw [this] at hc; exact hc
    have W0 : (0 : Int) ≤ ws.length * 4 ^ (d + 1) := Int.mul_nonneg (by omega) (by omega)
    obtain ⟨u, t1, e1, D1, T1⟩ := ih h ts c ht T (by omega)
    obtain ⟨vs, t2, y, e2, l2, D2, T2⟩ := term_loop (f := f) (w4 := w4) ih ws (us ++ [u]) (h.set t (LI t1)) t1 (c + 4 ^ (d + 1)) (some w) (List.getElem?_set_self htl) T1 (by omega) (by simp at hl ⊢; omega)
    refine ⟨u :: vs, t2, y, ?_, by simp [l2], ?_, ?_⟩
    · rw [List.set_set] at e2
      have sz : us.length + 1 + 1 ≤ sizeLine := Nat.le_trans (show us.length + 1 + 1 ≤ 100 by simp at hl; omega) (by decide)
      have sz1 : (1 : Nat) ≤ sizeLine := by decide
      have cd : ((d + 1 : Nat) : Int) - 1 = (d : Int) := by omega
      rw [show us ++ u :: vs = us ++ [u] ++ vs from by simp]
      rw [floop_n]
      have hb : ∀ z : Option W, bTerm (call k) [some (.d (dI ns)), some (.r t), some (.d (.int ((d + 1 : Nat) : Int))), some (.d (.int N)), some w4, some (.d (.tuple (.str f :: us.map enc))), z] h = .ok (.nx [some (.d (dI ns)), some (.r t), some (.d (.int ((d + 1 : Nat) : Int))), some (.d (.int N)), some w4, some (.d (.tuple (.str f :: (us ++ [u]).map enc))), z]) (h.set t (LI t1)) := fun z => by
        have sz2 : us.length + 1 + 1 ≤ sizeLine := sz
        have e1' := e1
        rw [← cd] at e1'
        obtain ⟨q, hq⟩ : ∃ q : Int, q = ((d + 1 : Nat) : Int) := ⟨_, rfl⟩
        rw [← hq] at e1' ⊢
        simp [bTerm, bop, bSub, e1', kTup, allD, sz1, bAdd, sz]
      rw [show ([some (.d (dI ns)), some (.r t), some (.d (.int ((d + 1 : Nat) : Int))), some (.d (.int N)), some w4, some (.d (.tuple (.str f :: us.map enc))), x] : EnvW).set 6 (some w) = [some (.d (dI ns)), some (.r t), some (.d (.int ((d + 1 : Nat) : Int))), some (.d (.int N)), some w4, some (.d (.tuple (.str f :: us.map enc))), some w] from rfl, hb, mb_ok, kLoop_nx]
      exact e2
    · intro v hv
      rcases List.mem_cons.mp hv with e | hv
      · rw [e]; exact D1
      · exact D2 v hv
    · have : c + 4 ^ (d + 1) + (ws.length : Int) * 4 ^ (d + 1) = c + (((w :: ws).length : Nat) : Int) * 4 ^ (d + 1) := by
        rw [List.length_cons, Int.natCast_add, Int.add_mul]; simp; omega
      rw [← this]; exact T2
end Ev
set_option Elab.async false
set_option linter.all false
set_option maxRecDepth 100000
set_option maxHeartbeats 2000000
namespace Ev
open PySem PySem.Spec PyProof.Rows L2 He
def ints5 : List Int := [0, 1, 2, -3, 10 ^ 9]
def words4 : List Str := ["a", "b", "nil", "abcdefgh"]
def words3 : List Str := ["f", "g", "cons"]
theorem w4_ok : ∀ s ∈ words4, isW s = true := by decide +kernel
theorem w3_ok : ∀ s ∈ words3, isW s = true := by decide +kernel
theorem wa_ok : isW "a" = true := by decide +kernel
theorem pow_pos4 (d : Nat) : 1 ≤ 4 ^ d := Nat.one_le_pow _ _ (by decide)
theorem dr_num {N d : Nat} {i : Int} : Dr N d (.num i) := ⟨rfl, fun n h => by simp [Tm.has] at h, by simp [Tm.depth], by simp [Tm.size]; exact pow_pos4 d⟩
theorem dr_word {N d : Nat} {s : Str} (h : isW s = true) : Dr N d (.word s) := ⟨by simpa [Tm.ok] using h, fun n h => by simp [Tm.has] at h, by simp [Tm.depth], by simp [Tm.size]; exact pow_pos4 d⟩
theorem dr_name {N d n : Nat} (h : n < N) : Dr N d (.name n) := ⟨rfl, fun m hm => by simp [Tm.has] at hm; omega, by simp [Tm.depth], by simp [Tm.size]; exact pow_pos4 d⟩
theorem dr_tree {N d : Nat} {f : Str} {us : List Tm} (hf : isW f = true) (h1 : 1 ≤ us.length) (h3 : us.length ≤ 3) (hu : ∀ u ∈ us, Dr N d u) : Dr N (d + 1) (.tree f us) := by
  refine ⟨Tm.ok_tree.mpr ⟨hf, h1, by omega, fun a ha => (hu a ha).ok⟩, fun n hn => ?_, ?_, ?_⟩
  · rw [Tm.has_tree, List.any_eq_true] at hn
    obtain ⟨a, ha, hn⟩ := hn
    exact (hu a ha).nm n hn
  · simp only [Tm.depth]
    have := Tm.depthL_le (as := us) (n := d + 1) fun a ha => (hu a ha).dp
    omega
  · rw [Tm.size_tree]
    have : ∀ l : List Tm, (∀ u ∈ l, Dr N d u) → (l.map Tm.size).sum ≤ l.length * 4 ^ d := by
      intro l
      induction l with
      | nil => intro _; simp
      | cons a l ih =>
        intro h
        have h1 := (h a (by simp)).sz
        have h2 := ih fun u hu => h u (by simp [hu])
        simp only [List.map_cons, List.sum_cons, List.length_cons, Nat.succ_mul]
        omega
    have h4 := this us hu
    have h5 : us.length * 4 ^ d ≤ 3 * 4 ^ d := Nat.mul_le_mul_right _ h3
    have := pow_pos4 d
    rw [Nat.pow_succ]
    omega
theorem tw_up {ns ts : List Int} {c c' : Int} (T : Tw ns c ts) (h : c ≤ c') : Tw ns c' ts := T.up h
theorem r_term {N : Nat} (hN : 0 < N) (hN2 : N ≤ 1000) {ns : List Int} {t : Nat} : ∀ (d k : Nat), d + 3 ≤ k → ∀ (h : AH) (ts : List Int) (c : Int), h[t]? = some (LI ts) → Tw ns c ts → c + 4 ^ (d + 1) ≤ 1000000 →
    ∃ u ts', call k (pl "_law_term") [.d (dI ns), .r t, .d (.int d), .d (.int N)] h = .ok (.d (enc u)) (h.set t (LI ts')) ∧ Dr N d u ∧ Tw ns (c + 4 ^ (d + 1)) ts' := by
  intro d
  induction d with
  | zero =>
    intro k hk h ts c ht T hc
    obtain ⟨k, rfl⟩ : ∃ j, k = j + 3 := ⟨k - 3, by omega⟩
    have htl : t < h.length := (List.getElem?_eq_some_iff.mp ht).1
    obtain ⟨v, t1, e1, v0, v1, T1⟩ := r_draw (k := k + 1) (m := 4) ht T (by omega) (by decide) (by decide)
    obtain ⟨h1, eh1⟩ : ∃ h1, h1 = h.set t (LI t1) := ⟨_, rfl⟩
    rw [← eh1] at e1
    have ht1 : h1[t]? = some (LI t1) := by rw [eh1]; exact List.getElem?_set_self htl
    have hl1 : h1.length = h.length := by rw [eh1]; simp
    have q1 : cmp .Gt (.d (.int 0)) (.d (.int 0)) h = .ok (.d (.bool false)) h := rfl
    have hv : ∀ (x : Int) (H : AH), cmp .Eq (.d (.int v)) (.d (.int x)) H = .ok (.d (.bool (decide (v = x)))) H := fun x H => by simp [cmp, cEq, peek, sh_int, eqv_ii]
    by_cases z0 : v = 0
    · obtain ⟨p, t2, hp, e2, T2⟩ := r_pickL (k := k) (ds := ints5.map PyData.int) ht1 T1 (by omega) (by decide) (by decide)
      obtain ⟨x, hx, rfl⟩ := List.mem_map.mp hp
      refine ⟨.num x, t2, ?_, dr_num, tw_up T2 (by omega)⟩
      rw [c_law_term]
      have ek : kLst [.d (.int 0), .d (.int 1), .d (.int 2), .d (.int (-3)), .d (.int (10 ^ 9))] h1 = .ok (.r h1.length) (h1 ++ [.lst ((ints5.map PyData.int).map .d)]) := kLst_ap (by simp)
      have hpw : ∀ h, bPow (.d (.int 10)) (.d (.int 9)) h = .ok (.d (.int (10 ^ 9))) h := fun h => rfl
      have en := fun x : PyData => end_set (h := h) (j := [.lst ((ints5.map PyData.int).map .d)]) (t := t) (o := LI t2) (x := x) clos_LI htl
      rw [show h1.set t (LI t2) = h.set t (LI t2) from by rw [eh1, List.set_set]] at e2
      subst z0
      obtain ⟨O, eO⟩ : ∃ O : AO, O = .lst ((ints5.map PyData.int).map .d) := ⟨_, rfl⟩
      rw [← eO] at ek e2 en
      simp [-Int.reducePow, t_law_term, q1, e1, hv, bop, hpw, ek, e2, en]
    · by_cases z1 : v = 1
      · obtain ⟨p, t2, hp, e2, T2⟩ := r_pickL (k := k) (ds := words4.map PyData.str) ht1 T1 (by omega) (by decide) (by decide)
        obtain ⟨x, hx, rfl⟩ := List.mem_map.mp hp
        refine ⟨.word x, t2, ?_, dr_word (w4_ok x hx), tw_up T2 (by omega)⟩
        rw [c_law_term]
        have ek : kLst [.d (.str "a"), .d (.str "b"), .d (.str "nil"), .d (.str "abcdefgh")] h1 = .ok (.r h1.length) (h1 ++ [.lst ((words4.map PyData.str).map .d)]) := kLst_ap (by simp)
        have en := fun x : PyData => end_set (h := h) (j := [.lst ((words4.map PyData.str).map .d)]) (t := t) (o := LI t2) (x := x) clos_LI htl
        rw [show h1.set t (LI t2) = h.set t (LI t2) from by rw [eh1, List.set_set]] at e2
        subst z1
        obtain ⟨O, eO⟩ : ∃ O : AO, O = .lst ((words4.map PyData.str).map .d) := ⟨_, rfl⟩
        rw [← eO] at ek e2 en
        simp [t_law_term, q1, e1, hv, ek, e2, en]
      · obtain ⟨n, t2, e2, n0, n1, T2⟩ := r_draw (k := k + 1) (m := N) ht1 T1 (by omega) (by omega) (by omega)
        obtain ⟨n, rfl⟩ : ∃ m : Nat, n = (m : Int) := ⟨n.toNat, by omega⟩
        refine ⟨.name n, t2, ?_, dr_name (by omega), tw_up T2 (by omega)⟩
        rw [c_law_term]
        rw [show h1.set t (LI t2) = h.set t (LI t2) from by rw [eh1, List.set_set]] at e2
        have en := fun x : PyData => end_set0 (h := h) (t := t) (o := LI t2) (x := x) clos_LI htl
        have sz : (2 : Nat) ≤ sizeLine := by decide
        have g1 : ∀ H : AH, cmp .Lt (.d (.int v)) (.d (.int 4)) H = .ok (.d (.bool true)) H := fun H => by simp [cmp, cInt]; omega
        have g2 : ∀ H : AH, cmp .Gt (.d (.int N)) (.d (.int 0)) H = .ok (.d (.bool true)) H := fun H => by simp [cmp, cInt]; omega
        simp [t_law_term, q1, e1, hv, z0, z1, g1, g2, e2, kTup, allD, sz, en]
  | succ d ih =>
    intro k hk h ts c ht T hc
    obtain ⟨k, rfl⟩ : ∃ j, k = j + 3 := ⟨k - 3, by omega⟩
    have P1 : (4 : Int) ^ (d + 1 + 1) = 4 ^ (d + 1) * 4 := Int.pow_succ ..
    have P2 : (4 : Int) ≤ 4 ^ (d + 1) := by
      have : (4 : Int) ^ (d + 1) = ((4 ^ (d + 1) : Nat) : Int) := by simp
      rw [this]
      have := pow_pos4 d
      have : 4 ^ (d + 1) = 4 ^ d * 4 := Nat.pow_succ ..
      omega
    obtain ⟨P, hP⟩ : ∃ P : Int, P = 4 ^ (d + 1) := ⟨_, rfl⟩
    rw [P1, ← hP] at hc
    rw [P1, ← hP]
    rw [← hP] at P2
    have htl : t < h.length := (List.getElem?_eq_some_iff.mp ht).1
    obtain ⟨v, t1, e1, v0, v1, T1⟩ := r_draw (k := k + 1) (m := 7) ht T (by omega) (by decide) (by decide)
    obtain ⟨h1, eh1⟩ : ∃ h1, h1 = h.set t (LI t1) := ⟨_, rfl⟩
    rw [← eh1] at e1
    have ht1 : h1[t]? = some (LI t1) := by rw [eh1]; exact List.getElem?_set_self htl
    have hl1 : h1.length = h.length := by rw [eh1]; simp
    obtain ⟨dd, hdd⟩ : ∃ dd : Int, dd = ((d + 1 : Nat) : Int) := ⟨_, rfl⟩
    have q1 : cmp .Gt (.d (.int dd)) (.d (.int 0)) h = .ok (.d (.bool true)) h := by simp [cmp, cInt]; omega
    have hv : ∀ (x : Int) (H : AH), cmp .Eq (.d (.int v)) (.d (.int x)) H = .ok (.d (.bool (decide (v = x)))) H := fun x H => by simp [cmp, cEq, peek, sh_int, eqv_ii]
    by_cases z0 : v = 0
    · obtain ⟨p, t2, hp, e2, T2⟩ := r_pickL (k := k) (ds := ints5.map PyData.int) ht1 T1 (by omega) (by decide) (by decide)
      obtain ⟨x, hx, rfl⟩ := List.mem_map.mp hp
      refine ⟨.num x, t2, ?_, dr_num, tw_up T2 (by omega)⟩
      rw [c_law_term, ← hdd]
      have ek : kLst [.d (.int 0), .d (.int 1), .d (.int 2), .d (.int (-3)), .d (.int (10 ^ 9))] h1 = .ok (.r h1.length) (h1 ++ [.lst ((ints5.map PyData.int).map .d)]) := kLst_ap (by simp)
      have hpw : ∀ h, bPow (.d (.int 10)) (.d (.int 9)) h = .ok (.d (.int (10 ^ 9))) h := fun h => rfl
      have en := fun x : PyData => end_set (h := h) (j := [.lst ((ints5.map PyData.int).map .d)]) (t := t) (o := LI t2) (x := x) clos_LI htl
      rw [show h1.set t (LI t2) = h.set t (LI t2) from by rw [eh1, List.set_set]] at e2
      subst z0
      obtain ⟨O, eO⟩ : ∃ O : AO, O = .lst ((ints5.map PyData.int).map .d) := ⟨_, rfl⟩
      rw [← eO] at ek e2 en
      simp [-Int.reducePow, t_law_term, q1, e1, hv, bop, hpw, ek, e2, en]
    · by_cases z1 : v = 1
      · obtain ⟨p, t2, hp, e2, T2⟩ := r_pickL (k := k) (ds := words4.map PyData.str) ht1 T1 (by omega) (by decide) (by decide)
        obtain ⟨x, hx, rfl⟩ := List.mem_map.mp hp
        refine ⟨.word x, t2, ?_, dr_word (w4_ok x hx), tw_up T2 (by omega)⟩
        rw [c_law_term, ← hdd]
        have ek : kLst [.d (.str "a"), .d (.str "b"), .d (.str "nil"), .d (.str "abcdefgh")] h1 = .ok (.r h1.length) (h1 ++ [.lst ((words4.map PyData.str).map .d)]) := kLst_ap (by simp)
        have en := fun x : PyData => end_set (h := h) (j := [.lst ((words4.map PyData.str).map .d)]) (t := t) (o := LI t2) (x := x) clos_LI htl
        rw [show h1.set t (LI t2) = h.set t (LI t2) from by rw [eh1, List.set_set]] at e2
        subst z1
        obtain ⟨O, eO⟩ : ∃ O : AO, O = .lst ((words4.map PyData.str).map .d) := ⟨_, rfl⟩
        rw [← eO] at ek e2 en
        simp [t_law_term, q1, e1, hv, ek, e2, en]
      · by_cases z4 : v < 4
        · obtain ⟨n, t2, e2, n0, n1, T2⟩ := r_draw (k := k + 1) (m := N) ht1 T1 (by omega) (by omega) (by omega)
          obtain ⟨n, rfl⟩ : ∃ m : Nat, n = (m : Int) := ⟨n.toNat, by omega⟩
          refine ⟨.name n, t2, ?_, dr_name (by omega), tw_up T2 (by omega)⟩
          rw [c_law_term, ← hdd]
          rw [show h1.set t (LI t2) = h.set t (LI t2) from by rw [eh1, List.set_set]] at e2
          have en := fun x : PyData => end_set0 (h := h) (t := t) (o := LI t2) (x := x) clos_LI htl
          have sz : (2 : Nat) ≤ sizeLine := by decide
          have g1 : ∀ H : AH, cmp .Lt (.d (.int v)) (.d (.int 4)) H = .ok (.d (.bool true)) H := fun H => by simp [cmp, cInt]; omega
          have g2 : ∀ H : AH, cmp .Gt (.d (.int N)) (.d (.int 0)) H = .ok (.d (.bool true)) H := fun H => by simp [cmp, cInt]; omega
          simp [t_law_term, q1, e1, hv, z0, z1, g1, g2, e2, kTup, allD, sz, en]
        · obtain ⟨p, t2, hp, e2, T2⟩ := r_pickL (k := k) (ds := words3.map PyData.str) ht1 T1 (by omega) (by decide) (by decide)
          obtain ⟨f, hf, rfl⟩ := List.mem_map.mp hp
          have ek : kLst [.d (.str "f"), .d (.str "g"), .d (.str "cons")] h1 = .ok (.r h1.length) (h1 ++ [.lst ((words3.map PyData.str).map .d)]) := kLst_ap (by simp)
          rw [show h1.set t (LI t2) = h.set t (LI t2) from by rw [eh1, List.set_set]] at e2
          obtain ⟨O, eO⟩ : ∃ O : AO, O = .lst ((words3.map PyData.str).map .d) := ⟨_, rfl⟩
          rw [← eO] at ek e2
          have ht2 : (h.set t (LI t2) ++ [O])[t]? = some (LI t2) := by rw [List.getElem?_append_left (by simpa using htl)]; exact List.getElem?_set_self htl
          have cs : ∀ x : List Int, (h.set t (LI t2) ++ [O]).set t (LI x) = h.set t (LI x) ++ [O] := fun x => by rw [List.set_append_left _ _ (by simpa using htl), List.set_set]
          obtain ⟨m, t3, e3, m0, m1, T3⟩ := r_draw (k := k + 1) (m := 3) ht2 T2 (by omega) (by decide) (by decide)
          rw [cs] at e3
          obtain ⟨m, rfl⟩ : ∃ q : Nat, m = (q : Int) := ⟨m.toNat, by omega⟩
          have ht3 : (h.set t (LI t3) ++ [O])[t]? = some (LI t3) := by rw [List.getElem?_append_left (by simpa using htl)]; exact List.getElem?_set_self htl
          have cs3 : ∀ x : List Int, (h.set t (LI t3) ++ [O]).set t (LI x) = h.set t (LI x) ++ [O] := fun x => by rw [List.set_append_left _ _ (by simpa using htl), List.set_set]
          have rg := r_rng1 (m := 1 + m) (h := h.set t (LI t3) ++ [O]) (by omega)
          have rl : (rangeL 0 (1 + m)).length = 1 + m := rangeL_len
          have mP : (((1 + m : Nat)) : Int) * P ≤ 3 * P := Int.mul_le_mul_of_nonneg_right (by omega) (by omega)
          obtain ⟨vs, t4, y, e4, l4, D4, T4⟩ := term_loop (N := N) (d := d) (k := k + 2) (t := t) (ns := ns) (f := f) (w4 := .d (.int v)) (fun h ts c ht T hc => ih (k + 2) (by omega) h ts c ht T hc) (rangeL 0 (1 + m)) [] (h.set t (LI t3) ++ [O]) t3 (c + 1 + 1 + 1) none ht3 T3 (by rw [rl, ← hP]; omega) (by rw [rl]; simp; omega)
          rw [cs3, ← hdd, List.nil_append] at e4
          rw [rl] at l4
          rw [rl, ← hP] at T4
          refine ⟨.tree f vs, t4, ?_, dr_tree (w3_ok f hf) (by omega) (by omega) D4, tw_up T4 (by omega)⟩
          rw [c_law_term, ← hdd]
          have g1 : ∀ H : AH, cmp .Lt (.d (.int v)) (.d (.int 4)) H = .ok (.d (.bool false)) H := fun H => by simp [cmp, cInt]; omega
          have g2 : ∀ H : AH, cmp .Lt (.d (.int dd)) (.d (.int 1)) H = .ok (.d (.bool false)) H := fun H => by simp [cmp, cInt]; omega
          have sz : (1 : Nat) ≤ sizeLine := by decide
          have en := fun x : PyData => end_set (h := h) (j := [O]) (t := t) (o := LI t4) (x := x) clos_LI htl
          have ad : ∀ H : AH, bAdd (.d (.int 1)) (.d (.int m)) H = .ok (.d (.int ((1 + m : Nat) : Int))) H := fun H => by simp [bAdd]
          have kt : ∀ H : AH, kTup [.d (.str f)] H = .ok (.d (.tuple [.str f])) H := fun H => by simp [kTup, allD, sz]
          have e4' := e4
          rw [List.map_nil] at e4'
          rw [enc_tree]
          simp only [t_law_term, sBlock_two, sSet_ap, eCall_ap, aList_cons, mVar_0, mVar_s, mb_ok, kL1_ap, eIf_ap, tst_ap, eCmp_ap, kA_ap, mC_ap, q1, asB_ap', kIf_t, aList_nil, kL2_ap, e1, kSet_ap, List.set_cons_succ, List.set_cons_zero, fnext_nx, sIf_ap, hv, decide_eq_false z0, decide_eq_false z1, kIf_f, sBlock_nil, tAnd_ap, g1, mpure_ap, g2, eTup_ap, eLst_ap, ek, e2, kt, sFor_ap, iFun_ap, eBin_ap, bop, e3, ad, rg, kFor_ap, e4', sRet_ap, kRt_ap, sBlock_one, en]
end Ev
set_option Elab.async false
set_option linter.all false
set_option maxRecDepth 100000
set_option maxHeartbeats 4000000
namespace Ev
open PySem PySem.Spec PyProof.Rows L2 He
theorem r_term0 {ns : List Int} {t : Nat} : ∀ (d k : Nat), d + 3 ≤ k → ∀ (h : AH) (ts : List Int) (c : Int), h[t]? = some (LI ts) → Tw ns c ts → c + 4 ^ (d + 1) ≤ 1000000 →
    ∃ u ts', call k (pl "_law_term") [.d (dI ns), .r t, .d (.int d), .d (.int ((0 : Nat) : Int))] h = .ok (.d (enc u)) (h.set t (LI ts')) ∧ Dr 0 d u ∧ Tw ns (c + 4 ^ (d + 1)) ts' := by
  intro d
  induction d with
  | zero =>
    intro k hk h ts c ht T hc
    obtain ⟨k, rfl⟩ : ∃ j, k = j + 3 := ⟨k - 3, by omega⟩
    have htl : t < h.length := (List.getElem?_eq_some_iff.mp ht).1
    obtain ⟨v, t1, e1, v0, v1, T1⟩ := r_draw (k := k + 1) (m := 4) ht T (by omega) (by decide) (by decide)
    obtain ⟨h1, eh1⟩ : ∃ h1, h1 = h.set t (LI t1) := ⟨_, rfl⟩
    rw [← eh1] at e1
    have ht1 : h1[t]? = some (LI t1) := by rw [eh1]; exact List.getElem?_set_self htl
    have hl1 : h1.length = h.length := by rw [eh1]; simp
    have q1 : cmp .Gt (.d (.int 0)) (.d (.int 0)) h = .ok (.d (.bool false)) h := rfl
    have hv : ∀ (x : Int) (H : AH), cmp .Eq (.d (.int v)) (.d (.int x)) H = .ok (.d (.bool (decide (v = x)))) H := fun x H => by simp [cmp, cEq, peek, sh_int, eqv_ii]
    by_cases z0 : v = 0
    · obtain ⟨p, t2, hp, e2, T2⟩ := r_pickL (k := k) (ds := ints5.map PyData.int) ht1 T1 (by omega) (by decide) (by decide)
      obtain ⟨x, hx, rfl⟩ := List.mem_map.mp hp
      refine ⟨.num x, t2, ?_, dr_num, tw_up T2 (by omega)⟩
      rw [c_law_term]
      have ek : kLst [.d (.int 0), .d (.int 1), .d (.int 2), .d (.int (-3)), .d (.int (10 ^ 9))] h1 = .ok (.r h1.length) (h1 ++ [.lst ((ints5.map PyData.int).map .d)]) := kLst_ap (by simp)
      have hpw : ∀ h, bPow (.d (.int 10)) (.d (.int 9)) h = .ok (.d (.int (10 ^ 9))) h := fun h => rfl
      have en := fun x : PyData => end_set (h := h) (j := [.lst ((ints5.map PyData.int).map .d)]) (t := t) (o := LI t2) (x := x) clos_LI htl
      rw [show h1.set t (LI t2) = h.set t (LI t2) from by rw [eh1, List.set_set]] at e2
      subst z0
      obtain ⟨O, eO⟩ : ∃ O : AO, O = .lst ((ints5.map PyData.int).map .d) := ⟨_, rfl⟩
      rw [← eO] at ek e2 en
      simp [-Int.reducePow, t_law_term, q1, e1, hv, bop, hpw, ek, e2, en]
    · by_cases z1 : v = 1
      · obtain ⟨p, t2, hp, e2, T2⟩ := r_pickL (k := k) (ds := words4.map PyData.str) ht1 T1 (by omega) (by decide) (by decide)
        obtain ⟨x, hx, rfl⟩ := List.mem_map.mp hp
        refine ⟨.word x, t2, ?_, dr_word (w4_ok x hx), tw_up T2 (by omega)⟩
        rw [c_law_term]
        have ek : kLst [.d (.str "a"), .d (.str "b"), .d (.str "nil"), .d (.str "abcdefgh")] h1 = .ok (.r h1.length) (h1 ++ [.lst ((words4.map PyData.str).map .d)]) := kLst_ap (by simp)
        have en := fun x : PyData => end_set (h := h) (j := [.lst ((words4.map PyData.str).map .d)]) (t := t) (o := LI t2) (x := x) clos_LI htl
        rw [show h1.set t (LI t2) = h.set t (LI t2) from by rw [eh1, List.set_set]] at e2
        subst z1
        obtain ⟨O, eO⟩ : ∃ O : AO, O = .lst ((words4.map PyData.str).map .d) := ⟨_, rfl⟩
        rw [← eO] at ek e2 en
        simp [t_law_term, q1, e1, hv, ek, e2, en]
      · refine ⟨.word "a", t1, ?_, dr_word wa_ok, tw_up T1 (by omega)⟩
        rw [c_law_term]
        rw [← eh1]
        have en := fun x : PyData => end_set0 (h := h) (t := t) (o := LI t1) (x := x) clos_LI htl
        rw [← eh1] at en
        have g1 : ∀ H : AH, cmp .Lt (.d (.int v)) (.d (.int 4)) H = .ok (.d (.bool true)) H := fun H => by simp [cmp, cInt]; omega
        have g2 : ∀ H : AH, cmp .Gt (.d (.int 0)) (.d (.int 0)) H = .ok (.d (.bool false)) H := fun H => rfl
        have g3 : ∀ H : AH, cmp .Lt (.d (.int 0)) (.d (.int 1)) H = .ok (.d (.bool true)) H := fun H => rfl
        simp [t_law_term, q1, e1, hv, z0, z1, g1, g2, g3, en]
  | succ d ih =>
    intro k hk h ts c ht T hc
    obtain ⟨k, rfl⟩ : ∃ j, k = j + 3 := ⟨k - 3, by omega⟩
    have P1 : (4 : Int) ^ (d + 1 + 1) = 4 ^ (d + 1) * 4 := Int.pow_succ ..
    have P2 : (4 : Int) ≤ 4 ^ (d + 1) := by
      have : (4 : Int) ^ (d + 1) = ((4 ^ (d + 1) : Nat) : Int) := by simp
      rw [this]
      have := pow_pos4 d
      have : 4 ^ (d + 1) = 4 ^ d * 4 := Nat.pow_succ ..
      omega
    obtain ⟨P, hP⟩ : ∃ P : Int, P = 4 ^ (d + 1) := ⟨_, rfl⟩
    rw [P1, ← hP] at hc
    rw [P1, ← hP]
    rw [← hP] at P2
    have htl : t < h.length := (List.getElem?_eq_some_iff.mp ht).1
    obtain ⟨v, t1, e1, v0, v1, T1⟩ := r_draw (k := k + 1) (m := 7) ht T (by omega) (by decide) (by decide)
    obtain ⟨h1, eh1⟩ : ∃ h1, h1 = h.set t (LI t1) := ⟨_, rfl⟩
    rw [← eh1] at e1
    have ht1 : h1[t]? = some (LI t1) := by rw [eh1]; exact List.getElem?_set_self htl
    have hl1 : h1.length = h.length := by rw [eh1]; simp
    obtain ⟨dd, hdd⟩ : ∃ dd : Int, dd = ((d + 1 : Nat) : Int) := ⟨_, rfl⟩
    have q1 : cmp .Gt (.d (.int dd)) (.d (.int 0)) h = .ok (.d (.bool true)) h := by simp [cmp, cInt]; omega
    have hv : ∀ (x : Int) (H : AH), cmp .Eq (.d (.int v)) (.d (.int x)) H = .ok (.d (.bool (decide (v = x)))) H := fun x H => by simp [cmp, cEq, peek, sh_int, eqv_ii]
    by_cases z0 : v = 0
    · obtain ⟨p, t2, hp, e2, T2⟩ := r_pickL (k := k) (ds := ints5.map PyData.int) ht1 T1 (by omega) (by decide) (by decide)
      obtain ⟨x, hx, rfl⟩ := List.mem_map.mp hp
      refine ⟨.num x, t2, ?_, dr_num, tw_up T2 (by omega)⟩
      rw [c_law_term, ← hdd]
      have ek : kLst [.d (.int 0), .d (.int 1), .d (.int 2), .d (.int (-3)), .d (.int (10 ^ 9))] h1 = .ok (.r h1.length) (h1 ++ [.lst ((ints5.map PyData.int).map .d)]) := kLst_ap (by simp)
      have hpw : ∀ h, bPow (.d (.int 10)) (.d (.int 9)) h = .ok (.d (.int (10 ^ 9))) h := fun h => rfl
      have en := fun x : PyData => end_set (h := h) (j := [.lst ((ints5.map PyData.int).map .d)]) (t := t) (o := LI t2) (x := x) clos_LI htl
      rw [show h1.set t (LI t2) = h.set t (LI t2) from by rw [eh1, List.set_set]] at e2
      subst z0
      obtain ⟨O, eO⟩ : ∃ O : AO, O = .lst ((ints5.map PyData.int).map .d) := ⟨_, rfl⟩
      rw [← eO] at ek e2 en
      simp [-Int.reducePow, t_law_term, q1, e1, hv, bop, hpw, ek, e2, en]
    · by_cases z1 : v = 1
      · obtain ⟨p, t2, hp, e2, T2⟩ := r_pickL (k := k) (ds := words4.map PyData.str) ht1 T1 (by omega) (by decide) (by decide)
        obtain ⟨x, hx, rfl⟩ := List.mem_map.mp hp
        refine ⟨.word x, t2, ?_, dr_word (w4_ok x hx), tw_up T2 (by omega)⟩
        rw [c_law_term, ← hdd]
        have ek : kLst [.d (.str "a"), .d (.str "b"), .d (.str "nil"), .d (.str "abcdefgh")] h1 = .ok (.r h1.length) (h1 ++ [.lst ((words4.map PyData.str).map .d)]) := kLst_ap (by simp)
        have en := fun x : PyData => end_set (h := h) (j := [.lst ((words4.map PyData.str).map .d)]) (t := t) (o := LI t2) (x := x) clos_LI htl
        rw [show h1.set t (LI t2) = h.set t (LI t2) from by rw [eh1, List.set_set]] at e2
        subst z1
        obtain ⟨O, eO⟩ : ∃ O : AO, O = .lst ((words4.map PyData.str).map .d) := ⟨_, rfl⟩
        rw [← eO] at ek e2 en
        simp [t_law_term, q1, e1, hv, ek, e2, en]
      · obtain ⟨p, t2, hp, e2, T2⟩ := r_pickL (k := k) (ds := words3.map PyData.str) ht1 T1 (by omega) (by decide) (by decide)
        obtain ⟨f, hf, rfl⟩ := List.mem_map.mp hp
        have ek : kLst [.d (.str "f"), .d (.str "g"), .d (.str "cons")] h1 = .ok (.r h1.length) (h1 ++ [.lst ((words3.map PyData.str).map .d)]) := kLst_ap (by simp)
        rw [show h1.set t (LI t2) = h.set t (LI t2) from by rw [eh1, List.set_set]] at e2
        obtain ⟨O, eO⟩ : ∃ O : AO, O = .lst ((words3.map PyData.str).map .d) := ⟨_, rfl⟩
        rw [← eO] at ek e2
        have ht2 : (h.set t (LI t2) ++ [O])[t]? = some (LI t2) := by rw [List.getElem?_append_left (by simpa using htl)]; exact List.getElem?_set_self htl
        have cs : ∀ x : List Int, (h.set t (LI t2) ++ [O]).set t (LI x) = h.set t (LI x) ++ [O] := fun x => by rw [List.set_append_left _ _ (by simpa using htl), List.set_set]
        obtain ⟨m, t3, e3, m0, m1, T3⟩ := r_draw (k := k + 1) (m := 3) ht2 T2 (by omega) (by decide) (by decide)
        rw [cs] at e3
        obtain ⟨m, rfl⟩ : ∃ q : Nat, m = (q : Int) := ⟨m.toNat, by omega⟩
        have ht3 : (h.set t (LI t3) ++ [O])[t]? = some (LI t3) := by rw [List.getElem?_append_left (by simpa using htl)]; exact List.getElem?_set_self htl
        have cs3 : ∀ x : List Int, (h.set t (LI t3) ++ [O]).set t (LI x) = h.set t (LI x) ++ [O] := fun x => by rw [List.set_append_left _ _ (by simpa using htl), List.set_set]
        have rg := r_rng1 (m := 1 + m) (h := h.set t (LI t3) ++ [O]) (by omega)
        have rl : (rangeL 0 (1 + m)).length = 1 + m := rangeL_len
        have mP : (((1 + m : Nat)) : Int) * P ≤ 3 * P := Int.mul_le_mul_of_nonneg_right (by omega) (by omega)
        obtain ⟨vs, t4, y, e4, l4, D4, T4⟩ := term_loop (N := 0) (d := d) (k := k + 2) (t := t) (ns := ns) (f := f) (w4 := .d (.int v)) (fun h ts c ht T hc => ih (k + 2) (by omega) h ts c ht T hc) (rangeL 0 (1 + m)) [] (h.set t (LI t3) ++ [O]) t3 (c + 1 + 1 + 1) none ht3 T3 (by rw [rl, ← hP]; omega) (by rw [rl]; simp; omega)
        rw [cs3, ← hdd, List.nil_append] at e4
        rw [rl] at l4
        rw [rl, ← hP] at T4
        refine ⟨.tree f vs, t4, ?_, dr_tree (w3_ok f hf) (by omega) (by omega) D4, tw_up T4 (by omega)⟩
        rw [c_law_term, ← hdd]
        have g3 : ∀ H : AH, cmp .Gt (.d (.int ((0 : Nat) : Int))) (.d (.int 0)) H = .ok (.d (.bool false)) H := fun H => rfl
        have g2 : ∀ H : AH, cmp .Lt (.d (.int dd)) (.d (.int 1)) H = .ok (.d (.bool false)) H := fun H => by simp [cmp, cInt]; omega
        have sz : (1 : Nat) ≤ sizeLine := by decide
        have en := fun x : PyData => end_set (h := h) (j := [O]) (t := t) (o := LI t4) (x := x) clos_LI htl
        have ad : ∀ H : AH, bAdd (.d (.int 1)) (.d (.int m)) H = .ok (.d (.int ((1 + m : Nat) : Int))) H := fun H => by simp [bAdd]
        have kt : ∀ H : AH, kTup [.d (.str f)] H = .ok (.d (.tuple [.str f])) H := fun H => by simp [kTup, allD, sz]
        have e4' := e4
        rw [List.map_nil] at e4'
        rw [enc_tree]
        by_cases z4 : v < 4
        · have g1 : ∀ H : AH, cmp .Lt (.d (.int v)) (.d (.int 4)) H = .ok (.d (.bool true)) H := fun H => by simp [cmp, cInt]; omega
          simp only [t_law_term, sBlock_two, sSet_ap, eCall_ap, aList_cons, mVar_0, mVar_s, mb_ok, kL1_ap, eIf_ap, tst_ap, eCmp_ap, kA_ap, mC_ap, q1, asB_ap', kIf_t, aList_nil, kL2_ap, e1, kSet_ap, List.set_cons_succ, List.set_cons_zero, fnext_nx, sIf_ap, hv, decide_eq_false z0, decide_eq_false z1, kIf_f, sBlock_nil, tAnd_ap, g1, g3, mpure_ap, g2, eTup_ap, eLst_ap, ek, e2, kt, sFor_ap, iFun_ap, eBin_ap, bop, e3, ad, rg, kFor_ap, e4', sRet_ap, kRt_ap, sBlock_one, en]
        · have g1 : ∀ H : AH, cmp .Lt (.d (.int v)) (.d (.int 4)) H = .ok (.d (.bool false)) H := fun H => by simp [cmp, cInt]; omega
          simp only [t_law_term, sBlock_two, sSet_ap, eCall_ap, aList_cons, mVar_0, mVar_s, mb_ok, kL1_ap, eIf_ap, tst_ap, eCmp_ap, kA_ap, mC_ap, q1, asB_ap', kIf_t, aList_nil, kL2_ap, e1, kSet_ap, List.set_cons_succ, List.set_cons_zero, fnext_nx, sIf_ap, hv, decide_eq_false z0, decide_eq_false z1, kIf_f, sBlock_nil, tAnd_ap, g1, mpure_ap, g2, eTup_ap, eLst_ap, ek, e2, kt, sFor_ap, iFun_ap, eBin_ap, bop, e3, ad, rg, kFor_ap, e4', sRet_ap, kRt_ap, sBlock_one, en]
end Ev
set_option Elab.async false
set_option linter.all false
set_option maxRecDepth 100000
set_option maxHeartbeats 2000000
namespace Ev
open PySem PySem.Spec PyProof.Rows L2 He
/-- the numbers are small enough -/
def Sm (N B : Nat) : Prop := B ≤ 60 ∧ 4 * DB N B * (N + 1) ≤ 90000 ∧ DB N B ≤ 64 ∧ N ≤ 1000
theorem unb_le {fs : List (Option Tm)} : unb fs ≤ fs.length := List.length_filter_le ..
section
variable {N B : Nat} {i j : Nat} {h : AH} {fs : List (Option Tm)}
theorem r_merge (hs : Sm N B) (g : GS N B fs) {k : Nat} {a b : Tm} (ha : TG N B a) (hb : TG N B b) (s : St h i j fs) (hk : DB N B + 8 ≤ k) :
    ∃ z fs', call k ("Store", "merge") [.r i, .d (enc a), .d (enc b)] h = .ok (.d (.bool z)) (h.set j (lstO fs')) ∧ GS N B fs' ∧ (z = true → ∀ θ, Sol (bd fs') θ ↔ Sol (bd fs) θ ∧ a.app θ = b.app θ) ∧ (z = false → ∀ θ, Sol (bd fs) θ → a.app θ ≠ b.app θ) := by
  obtain ⟨k, rfl⟩ : ∃ j, k = j + 1 := ⟨k - 1, by omega⟩
  obtain ⟨l1, l2, l3⟩ := s.lt
  have hset : h.set j (lstO fs) = h := set_same s.ls
  have stk : Stk fs (4 * DB N B) [(a, b)] := fun x p hx => by
    cases x with
    | zero =>
      have : p = (a, b) := by simpa using hx.symm
      subst this
      have := val_dep g ha
      show 0 + 4 * (val fs a).depth ≤ _
      unfold DB; omega
    | succ x => simp at hx
  have hl : (h.set j (lstO fs) ++ [AO.lst [encP (a, b)]])[h.length]? = some (.lst ([(a, b)].map encP)) := by
    rw [hset]; simp
  have hu : unb fs ≤ N := by have := unb_le (fs := fs); rw [g.len] at this; exact this
  obtain ⟨c, fs', J', g', r⟩ := merge_loop s hs.1 (k := k) (by omega) N (tot fs [(a, b)]) (4 * DB N B) fs [(a, b)] [AO.lst [encP (a, b)]] h.length (some (.d (enc a))) (some (.d (enc b))) none g hu (Nat.le_refl _) stk (by
    have := hs.2.1
    rw [Nat.mul_add] at this; omega) (fun p hp => by
      obtain rfl : p = (a, b) := (by simpa using hp)
      exact ⟨ha, hb⟩) hl (Nat.le_refl _)
  rw [hset] at r
  have sz : (2 : Nat) ≤ sizeLine := by decide
  have ek : kLst [.d (.tuple [enc a, enc b])] h = .ok (.r h.length) (h ++ [AO.lst [encP (a, b)]]) := kLst_ap (by simp)
  have en := fun bb : Bool => end_set (h := h) (j := J') (t := j) (o := lstO fs') (x := .bool bb) clos_ds l2
  have al : ∀ θ, Alls θ [(a, b)] ↔ a.app θ = b.app θ := fun θ => by simp [Alls]
  rcases r with ⟨e, r1, r2⟩ | ⟨r1, r2⟩
  · refine ⟨true, fs', ?_, g', fun _ θ => by rw [r2 θ, al], fun q => by cases q⟩
    rw [c_Store_merge]
    have w := sWhile_of r1 (by intro e; cases e)
    simp [t_Store_merge, kTup, allD, sz, ek, w, en]
  · refine ⟨false, fs', ?_, g', fun q => (by cases q), fun _ θ hs q => r2 θ hs ((al θ).mpr q)⟩
    rw [c_Store_merge]
    have w := sWhile_of r1 (by intro e; cases e)
    simp [t_Store_merge, kTup, allD, sz, ek, w, en]
/-- the heap behind a telling that clashed -/
def hBack (h : AH) (i j : Nat) (fs junk : List (Option Tm)) : AH := (h.set j (lstO junk)).set i (.ins "Store" [("found", .r h.length)]) ++ [lstO fs]
theorem back_len {junk : List (Option Tm)} : (hBack h i j fs junk).length = h.length + 1 := by simp [hBack]
theorem back_st {junk : List (Option Tm)} (s : St h i j fs) : St (hBack h i j fs junk) i h.length fs := by
  obtain ⟨l1, l2, l3⟩ := s.lt
  unfold hBack
  refine ⟨?_, ?_⟩
  · rw [List.getElem?_append_left (by simpa using l1)]
    exact List.getElem?_set_self (by simpa using l1)
  · rw [List.getElem?_append_right (by simp)]; simp
theorem back_fr {junk : List (Option Tm)} {x : Nat} (hx : x < h.length) (h1 : x ≠ i) (h2 : x ≠ j) : (hBack h i j fs junk)[x]? = h[x]? := by
  unfold hBack
  rw [List.getElem?_append_left (by simpa using hx), List.getElem?_set_ne (Ne.symm h1), List.getElem?_set_ne (Ne.symm h2)]
theorem back_nf {junk : List (Option Tm)} (s : St h i j fs) : fineB h (hBack h i j fs junk) = false := by
  obtain ⟨l1, l2, l3⟩ := s.lt
  cases q : fineB h (hBack h i j fs junk) with
  | false => rfl
  | true =>
    have f := fineB_iff.mp q
    rcases f i _ l1 (back_st s).ob with e | e
    · rw [s.ob] at e
      cases e
      omega
    · exact absurd (e ("found", .r h.length) (by simp)) (by simp [W.clos])
theorem r_joined (hs : Sm N B) (g : GS N B fs) {k : Nat} {a b : Tm} (ha : TG N B a) (hb : TG N B b) (s : St h i j fs) (hk : DB N B + 9 ≤ k) :
    (∃ fs', call k ("Store", "joined") [.r i, .d (enc a), .d (enc b)] h = .ok (.d (.bool true)) (h.set j (lstO fs')) ∧ GS N B fs' ∧ ∀ θ, Sol (bd fs') θ ↔ Sol (bd fs) θ ∧ a.app θ = b.app θ) ∨
    (∃ junk, call k ("Store", "joined") [.r i, .d (enc a), .d (enc b)] h = .ok (.d (.bool false)) (hBack h i j fs junk) ∧ ∀ θ, Sol (bd fs) θ → a.app θ ≠ b.app θ) := by
  obtain ⟨k, rfl⟩ : ∃ j, k = j + 1 := ⟨k - 1, by omega⟩
  obtain ⟨l1, l2, l3⟩ := s.lt
  have s1 := StAt.app (l := [lstO fs]) s
  obtain ⟨z, fs', c1, g', p1, p2⟩ := r_merge (k := k) hs g ha hb s1 (by omega)
  have me := fun as => l_meth (CM := call k) (a := as) m_merge s1
  have fl : fList [.r j] h = .ok (.r h.length) (h ++ [lstO fs]) := by simp [fList, s.ls]
  rw [List.set_append_left _ _ l2] at c1
  cases z with
  | true =>
    left
    refine ⟨fs', ?_, g', p1 rfl⟩
    rw [c_Store_joined]
    have en := end_set (h := h) (j := [lstO fs]) (t := j) (o := lstO fs') (x := .bool true) clos_ds l2
    simp [t_Store_joined, f_found s, fl, me, c1, en]
  | false =>
    right
    refine ⟨fs', ?_, p2 rfl⟩
    rw [c_Store_joined]
    have sf : setFldM "found" (.r i) (.r h.length) (h.set j (lstO fs') ++ [lstO fs]) = .ok () (hBack h i j fs fs') := by
      have o1 : (h.set j (lstO fs') ++ [lstO fs])[i]? = some (.ins "Store" [("found", .r j)]) := by
        rw [List.getElem?_append_left (by simpa using l1), List.getElem?_set_ne (Ne.symm l3)]; exact s.ob
      unfold setFldM
      simp only [o1]
      rw [if_pos (by simp), List.set_append_left _ _ (by simpa using l1)]
      rfl
    have en : endM h (.ok (.rt (.d (.bool false))) (hBack h i j fs fs')) = .ok (.d (.bool false)) (hBack h i j fs fs') := by
      show outM h _ _ = _
      unfold outM
      rw [back_nf s]; rfl
    simp [t_Store_joined, f_found s, fl, me, c1, sf, en]
theorem r_tell (hs : Sm N B) (g : GS N B fs) {k : Nat} {a b : Tm} (ha : TG N B a) (hb : TG N B b) (za : a.size ≤ 300) (zb : b.size ≤ 300) (s : St h i j fs) (hk : DB N B + 10 ≤ k) (hk2 : B + 9 ≤ k) :
    (∃ fs', call k ("Store", "tell") [.r i, .d (enc a), .d (enc b)] h = .ok (.d .none) (h.set j (lstO fs')) ∧ GS N B fs' ∧ ∀ θ, Sol (bd fs') θ ↔ Sol (bd fs) θ ∧ a.app θ = b.app θ) ∨
    (∃ junk, call k ("Store", "tell") [.r i, .d (enc a), .d (enc b)] h = .ex "Clash" (hBack h i j fs junk) ∧ ∀ θ, Sol (bd fs) θ → a.app θ ≠ b.app θ) := by
  obtain ⟨k, rfl⟩ : ∃ j, k = j + 1 := ⟨k - 1, by omega⟩
  obtain ⟨l1, l2, l3⟩ := s.lt
  have m1 := fun as => l_meth (CM := call k) (a := as) m_look s
  have m2 := fun as => l_meth (CM := call k) (a := as) m_joined s
  have e1 := r_look (k := k) g ha.ok ha.nm za (by have := ha.dp; omega) s hs.2.2.2
  have e2 := r_look (k := k) g hb.ok hb.nm zb (by have := hb.dp; omega) s hs.2.2.2
  rcases r_joined (k := k) hs g ha hb s (by omega) with ⟨fs', c1, p1, p2⟩ | ⟨junk, c1, p1⟩
  · left
    refine ⟨fs', ?_, p1, p2⟩
    rw [c_Store_tell]
    have en : ∀ e : EnvW, endM h (.ok (.nx e) (h.set j (lstO fs'))) = .ok (.d .none) (h.set j (lstO fs')) := fun e => end_set0 (x := .none) clos_ds l2
    simp [t_Store_tell, m1, m2, e1, e2, c1, en]
  · right
    refine ⟨junk, ?_, p1⟩
    rw [c_Store_tell]
    have en : endM h (.ex "Clash" (hBack h i j fs junk)) = .ex "Clash" (hBack h i j fs junk) := by
      unfold endM
      simp only [back_nf s]
      rfl
    simp [t_Store_tell, m1, m2, e1, e2, c1, en]
end
end Ev
set_option Elab.async false
set_option linter.all false
set_option maxRecDepth 100000
set_option maxHeartbeats 2000000
namespace Ev
open PySem PySem.Spec PyProof.Rows L2 He
section
variable {N B : Nat} {i j : Nat} {h : AH} {fs : List (Option Tm)}
/-! ### len -/
theorem m_len : TT.meths.contains ("Store", "__len__") = true ∧ TT.nopos.contains ("Store", "__len__") = false := by decide +kernel
theorem r_len {k : Nat} (hk : 1 ≤ k) (s : St h i j fs) (hl : fs.length ≤ 100000) : kLen TT (call k) (.r i) h = .ok (.d (.int fs.length)) h := by
  obtain ⟨k, rfl⟩ : ∃ j, k = j + 1 := ⟨k - 1, by omega⟩
  have e : call (k + 1) ("Store", "__len__") [.r i] h = .ok (.d (.int fs.length)) h := by
    rw [c_Store___len]
    have := kLen_l (T := TT) (CM := call k) s.ls
    simp only [List.length_map] at this
    simp [t_Store___len, f_found s, this]
  unfold kLen
  simp only [s.ob, m_len.1, m_len.2, Bool.not_false, Bool.and_self, if_true, e]
  rw [if_pos (by refine ⟨by omega, ?_⟩; have : (fs.length : Int) ≤ 100000 := by omega
                 exact Int.lt_of_le_of_lt this (by decide))]
  rfl
/-! ### a list of values -/
def vals (fs : List (Option Tm)) (n : Nat) : List PyData := (List.range n).map fun x => enc (val fs (.name x))
theorem vals_sh (g : GS N B fs) (hs : DB N B ≤ 60) : SeqAt.shaped (.list (vals fs N)) = true := by
  unfold SeqAt.shaped
  simp only [PyData.canLay0, PyData.depth]
  rw [canAll fun y hy => by
    obtain ⟨x, hx, rfl⟩ := List.mem_map.mp hy
    exact enc_lay _ (val_ok g rfl)]
  have := depAll (n := DB N B) fun y (hy : y ∈ vals fs N) => by
    obtain ⟨x, hx, rfl⟩ := List.mem_map.mp hy
    exact Nat.le_trans (enc_dep _) (val_dep g (tg_name (List.mem_range.mp hx)))
  rw [Bool.true_and]
  exact decide_eq_true (by omega)
theorem vals_eqv (g : GS N B fs) (hs : DB N B ≤ 60) : PyData.eqv (.list (vals fs N)) (.list (vals fs N)) = true := SeqAt.eqv_refl _ (by
  have := vals_sh g hs
  unfold SeqAt.shaped at this
  exact (Bool.and_eq_true_iff.mp this).1)
end
end Ev
set_option Elab.async false
set_option linter.all false
set_option maxRecDepth 100000
set_option maxHeartbeats 2000000
/-! RK: what is told already is told once more; values of any terms. -/
namespace Ev
open PySem PySem.Spec PyProof.Rows L2 He
theorem TG.up {N B B' : Nat} {t : Tm} (h : TG N B t) (q : B ≤ B') : TG N B' t := ⟨⟨h.nm, by have := h.dp; omega⟩, h.ok⟩
theorem GS.up {N B B' : Nat} {fs : List (Option Tm)} (g : GS N B fs) (q : B ≤ B') : GS N B' fs := ⟨⟨g.len, fun i t h => ⟨(g.bt i t h).nm, by have := (g.bt i t h).dp; omega⟩, g.acy, g.low⟩, g.oks⟩
theorem len_tot {fs : List (Option Tm)} : ∀ ps : List (Tm × Tm), ps.length ≤ tot fs ps
  | [] => by simp
  | p :: ps => by
    have := len_tot (fs := fs) ps
    have := Tm.size_pos (val fs p.1)
    unfold tot at *
    simp only [List.map_cons, List.sum_cons, List.length_cons]
    omega
section
variable {N B : Nat} {i j : Nat} {h : AH} {fs : List (Option Tm)}
theorem r_valueD (g : GS N B fs) {t : Tm} {k d : Nat} {h : AH} (ht : TG N B t) (hz : t.size ≤ 300) (hk : t.depth + 7 ≤ k) (hd : (val fs t).depth ≤ d) (hk2 : d + 6 ≤ k) (s : St h i j fs) (hN : N ≤ 1000) : call k ("Store", "value") [.r i, .d (enc t)] h = .ok (.d (enc (val fs t))) h := by
  obtain ⟨k, rfl⟩ : ∃ j, k = j + 1 := ⟨k - 1, by omega⟩
  rw [c_Store_value]
  have e1 := r_look (k := k) g ht.ok ht.nm hz (by omega) s hN
  have e2 := r_full g d t hd ht k h (by omega) s
  have m1 := fun as => l_meth (CM := call k) (a := as) m_look s
  have m2 := fun as => l_meth (CM := call k) (a := as) m_full s
  simp [t_Store_value, m1, m2, e1, e2]
theorem bound_self {n k : Nat} {H : AH} (hk : 3 ≤ k) : call k ("Store", "bound") [.r i, .d (enc (.name n)), .d (enc (.name n))] H = .ok (.d (.bool true)) H := by
  obtain ⟨k, rfl⟩ : ∃ j, k = j + 1 := ⟨k - 1, by omega⟩
  have e1 := r_is_name (k := k) (t := .name n) (h := H) (by omega) rfl
  rw [c_Store_bound, enc_name]
  rw [enc_name] at e1
  simp [t_Store_bound, e1, Tm.isName, ne_names]
theorem map_val {fs : List (Option Tm)} : ∀ {as bs : List Tm}, as.map (val fs) = bs.map (val fs) → ∀ p ∈ as.zip bs, val fs p.1 = val fs p.2
  | [], _, _, p, hp => by simp at hp
  | a :: as, [], h, p, hp => by simp at hp
  | a :: as, b :: bs, h, p, hp => by
    simp only [List.map_cons, List.cons.injEq] at h
    rw [List.zip_cons_cons] at hp
    rcases List.mem_cons.mp hp with e | e
    · subst e; exact h.1
    · exact map_val h.2 p e
theorem merge_same (s : St h i j fs) (g : GS N B fs) (hB : B ≤ 60) {k : Nat} (hk : 3 ≤ k) : ∀ (S : Nat) (ps : List (Tm × Tm)) (J : AH) (l : Nat) (x1 x2 x4 : Option W), S ≤ 80000 → tot fs ps ≤ S → (∀ p ∈ ps, TG N B p.1 ∧ TG N B p.2 ∧ val fs p.1 = val fs p.2) → (h ++ J)[l]? = some (.lst (ps.map encP)) →
    ∃ c e J', wloop (tM (call k)) (bM (call k)) c [some (.r i), x1, x2, some (.r l), x4] (h ++ J) = .ok (.nx e) (h ++ J') := by
  intro S
  induction S using Nat.strongRecOn with
  | _ S ihS =>
  intro ps J l x1 x2 x4 hS0 hS hp hl
  have tt := t_merge (CM := call k) (x0 := some (.r i)) (x1 := x1) (x2 := x2) (x4 := x4) hl (sh_ps hB fun p hm => ⟨(hp p hm).1, (hp p hm).2.1⟩)
  rcases List.eq_nil_or_concat ps with e | ⟨qs, ⟨a, b⟩, e⟩
  · subst e
    exact ⟨1, _, J, wl_stop tt⟩
  · rw [List.concat_eq_append] at e
    subst e
    have tt' : tM (call k) [some (.r i), x1, x2, some (.r l), x4] (h ++ J) = .ok true (h ++ J) := by rw [tt]; simp
    obtain ⟨ta, tb, tv⟩ := hp (a, b) (by simp)
    have hq : ∀ p ∈ qs, TG N B p.1 ∧ TG N B p.2 ∧ val fs p.1 = val fs p.2 := fun p q => hp p (by simp [q])
    have st := star_ap (x0 := some (.r i)) (x1 := x1) (x2 := x2) (x4 := x4) hl
    rw [List.append_assoc] at st
    have s0 := StAt.app (l := J ++ [AO.lst (qs.map encP)]) s
    obtain ⟨u, u1, u2, u3, u4⟩ := r_head (k := k) (by omega) s0 g ta
    obtain ⟨v, v1, v2, v3, v4⟩ := r_head (k := k) (by omega) s0 g tb
    have uv : val fs u = val fs v := by rw [u2, v2]; exact tv
    have ml : (h ++ (J ++ [AO.lst (qs.map encP)]))[(h ++ J).length]? = some (.lst (qs.map encP)) := by rw [← List.append_assoc]; simp
    have m1 := fun as => l_meth (CM := call k) (a := as) m_head s0
    have m2 := fun as => l_meth (CM := call k) (a := as) m_bound s0
    have eu := r_is_name (k := k) (t := u) (h := (h ++ (J ++ [AO.lst (qs.map encP)]))) (by omega) u4.ok
    have ev := r_is_name (k := k) (t := v) (h := (h ++ (J ++ [AO.lst (qs.map encP)]))) (by omega) v4.ok
    have fu := r_is_tree (k := k) (t := u) (h := (h ++ (J ++ [AO.lst (qs.map encP)]))) (by omega) u4.ok
    have fv := r_is_tree (k := k) (t := v) (h := (h ++ (J ++ [AO.lst (qs.map encP)]))) (by omega) v4.ok
    have tq : tot fs qs < tot fs (qs ++ [(a, b)]) := by
      rw [tot_app, tot_one]
      have := Tm.size_pos (val fs a); omega
    have pop : ∀ (y1 y2 y4 : Option W), bM (call k) [some (.r i), x1, x2, some (.r l), x4] (h ++ J) = .ok (.nx [some (.r i), y1, y2, some (.r (h ++ J).length), y4]) (h ++ (J ++ [AO.lst (qs.map encP)])) → ∃ c e J', wloop (tM (call k)) (bM (call k)) c [some (.r i), x1, x2, some (.r l), x4] (h ++ J) = .ok (.nx e) (h ++ J') := fun y1 y2 y4 hb => by
      obtain ⟨c, e, J', r⟩ := ihS (tot fs qs) (by omega) qs (J ++ [AO.lst (qs.map encP)]) _ y1 y2 y4 (by omega) (Nat.le_refl _) hq ml
      exact ⟨c + 1, e, J', by rw [wl_next tt' hb]; exact r⟩
    have du : u.depth ≤ 64 := by have := u4.dp; omega
    have dv : v.depth ≤ 64 := by have := v4.dp; omega
    have nq := ne_enc (h := (h ++ (J ++ [AO.lst (qs.map encP)]))) u4.ok v4.ok du dv
    obtain ⟨H1, eH1⟩ : ∃ H1, H1 = h ++ (J ++ [AO.lst (qs.map encP)]) := ⟨_, rfl⟩
    obtain ⟨H0, eH0⟩ : ∃ H0, H0 = h ++ J := ⟨_, rfl⟩
    have vname : ∀ w : Tm, (∀ n, w = .name n → bd fs n = none) → ∀ n, val fs w = .name n → w = .name n := fun w hw n e => by
      cases w with
      | num x => rw [val_num] at e; cases e
      | word x => rw [val_word] at e; cases e
      | tree f as => rw [val_tree] at e; cases e
      | name m => rw [val_free (hw m rfl)] at e; exact e
    cases u with
    | name n =>
      rw [val_free (u3 n rfl)] at uv
      have ev' := vname v v3 n uv.symm
      subst ev'
      refine pop (some (.d (enc (.name n)))) (some (.d (enc (.name n)))) (some (.d (.bool true))) ?_
      have hb := bound_self (i := i) (n := n) (k := k) (H := H1) (by omega)
      rw [← eH1] at st u1 v1 m1 m2 eu ev ⊢
      rw [← eH0] at st ⊢
      rw [enc_name] at *
      simp [bM, st, m1, u1, v1, eu, Tm.isName, m2, hb]
    | num x =>
      rw [val_num] at uv
      have ev' : v = .num x := by
        cases v with
        | num y => rw [val_num] at uv; exact uv.symm
        | word y => rw [val_word] at uv; cases uv
        | tree f as => rw [val_tree] at uv; cases uv
        | name m => rw [val_free (v3 m rfl)] at uv; cases uv
      subst ev'
      refine pop (some (.d (enc (.num x)))) (some (.d (enc (.num x)))) x4 ?_
      rw [← eH1] at st u1 v1 m1 m2 eu ev fu fv nq ⊢
      rw [← eH0] at st ⊢
      rw [enc_num] at *
      simp [bM, st, m1, u1, v1, eu, ev, fu, Tm.isName, Tm.isTree, nq]
    | word x =>
      rw [val_word] at uv
      have ev' : v = .word x := by
        cases v with
        | num y => rw [val_num] at uv; cases uv
        | word y => rw [val_word] at uv; exact uv.symm
        | tree f as => rw [val_tree] at uv; cases uv
        | name m => rw [val_free (v3 m rfl)] at uv; cases uv
      subst ev'
      refine pop (some (.d (enc (.word x)))) (some (.d (enc (.word x)))) x4 ?_
      rw [← eH1] at st u1 v1 m1 m2 eu ev fu fv nq ⊢
      rw [← eH0] at st ⊢
      rw [enc_word] at *
      simp [bM, st, m1, u1, v1, eu, ev, fu, Tm.isName, Tm.isTree, nq]
    | tree f as =>
      rw [val_tree] at uv
      obtain ⟨bs, ev', em⟩ : ∃ bs, v = .tree f bs ∧ as.map (val fs) = bs.map (val fs) := by
        cases v with
        | num y => rw [val_num] at uv; cases uv
        | word y => rw [val_word] at uv; cases uv
        | tree f' bs => rw [val_tree] at uv; injection uv with e1 e2; subst e1; exact ⟨bs, rfl, e2⟩
        | name m => rw [val_free (v3 m rfl)] at uv; cases uv
      subst ev'
      have fl : as.length = bs.length := by have := congrArg List.length em; simpa using this
      obtain ⟨o1, o2, o3, o4⟩ := Tm.ok_tree.mp u4.ok
      have hf1 : ∀ H : AH, cmp .Eq (.d (.str f)) (.d (.str f)) H = .ok (.d (.bool true)) H := fun H => by simp [cmp, cEq, peek, sh_str o1, eqv_ss]
      have hf2 : ∀ (H : AH) (x y : Int), cmp .Eq (.d (.int x)) (.d (.int y)) H = .ok (.d (.bool (decide (x = y)))) H := fun H x y => by simp [cmp, cEq, peek, sh_int, eqv_ii]
      have ba : bAdd (.r H0.length) (.r H1.length) (H1 ++ [AO.lst (zipD (as.map enc) (bs.map enc))]) = .ok (.r (H1.length + 1)) (H1 ++ [AO.lst (zipD (as.map enc) (bs.map enc))] ++ [AO.lst (qs.map encP ++ zipD (as.map enc) (bs.map enc))]) := by
        refine (bAdd_l (a := qs.map encP) (b := zipD (as.map enc) (bs.map enc)) ?_ (by simp) ?_).trans ?_
        · rw [List.getElem?_append_left (by rw [eH0, eH1]; simp), eH1, eH0]; exact ml
        · have : qs.length ≤ 80000 := by have := len_tot (fs := fs) qs; omega
          refine Nat.le_trans (show _ ≤ 90010 from ?_) (by decide)
          simp [zipD]; omega
        · simp
      have hb : bM (call k) [some (.r i), x1, x2, some (.r l), x4] (h ++ J) = .ok (.nx [some (.r i), some (.d (enc (.tree f as))), some (.d (enc (.tree f bs))), some (.r (H1.length + 1)), x4]) (h ++ (J ++ [AO.lst (qs.map encP)] ++ [AO.lst (zipD (as.map enc) (bs.map enc))] ++ [AO.lst ((qs ++ as.zip bs).map encP)])) := by
        rw [List.map_append, ← zip_encP]
        rw [show ∀ x y : AO, h ++ (J ++ [AO.lst (qs.map encP)] ++ [x] ++ [y]) = H1 ++ [x] ++ [y] from fun x y => by rw [eH1]; simp]
        rw [← eH1] at st u1 v1 m1 m2 eu ev fu fv
        rw [← eH0] at st ⊢
        rw [enc_tree] at *
        simp [-List.append_assoc, bM, st, m1, u1, v1, eu, ev, fu, fv, Tm.isName, Tm.isTree, ixM, at0, hf1, hf2, fLen, fl, slM, cut1, zipL, bop, ba]
      have tl : tot fs (qs ++ as.zip bs) < tot fs (qs ++ [(a, b)]) := by
        rw [tot_app, tot_app, tot_one, tot_zip fl, ← u2, ← v2, val_tree, val_tree, Tm.size_tree, Tm.size_tree]
        omega
      obtain ⟨c, e, J', r⟩ := ihS (tot fs (qs ++ as.zip bs)) (by omega) (qs ++ as.zip bs) (J ++ [AO.lst (qs.map encP)] ++ [AO.lst (zipD (as.map enc) (bs.map enc))] ++ [AO.lst ((qs ++ as.zip bs).map encP)]) (H1.length + 1) (some (.d (enc (.tree f as)))) (some (.d (enc (.tree f bs)))) x4 (by omega) (Nat.le_refl _) (fun p hm => by
        rcases List.mem_append.mp hm with q | q
        · exact hq p q
        · exact ⟨u4.kid (List.of_mem_zip q).1, v4.kid (List.of_mem_zip q).2, map_val em p q⟩) (by
          rw [show ∀ x y : AO, h ++ (J ++ [AO.lst (qs.map encP)] ++ [x] ++ [y]) = H1 ++ [x, y] from fun x y => by rw [eH1]; simp, at_l1]; rfl)
      exact ⟨c + 1, e, J', by rw [wl_next tt' hb]; exact r⟩
theorem r_tell_same (g : GS N B fs) (hB : B ≤ 60) (hN : N ≤ 1000) {k : Nat} {a b : Tm} (ha : TG N B a) (hb : TG N B b) (za : a.size ≤ 300) (zb : b.size ≤ 300) (e : val fs a = val fs b) (zv : (val fs a).size ≤ 40000) (s : St h i j fs) (hk : B + 10 ≤ k) : call k ("Store", "tell") [.r i, .d (enc a), .d (enc b)] h = .ok (.d .none) h := by
  obtain ⟨k, rfl⟩ : ∃ j, k = j + 3 := ⟨k - 3, by omega⟩
  obtain ⟨l1, l2, l3⟩ := s.lt
  have sz : (2 : Nat) ≤ sizeLine := by decide
  have mg : ∀ H : AH, St H i j fs → call (k + 1) ("Store", "merge") [.r i, .d (enc a), .d (enc b)] H = .ok (.d (.bool true)) H := fun H sH => by
    have ek : kLst [.d (.tuple [enc a, enc b])] H = .ok (.r H.length) (H ++ [AO.lst [encP (a, b)]]) := kLst_ap (by simp)
    obtain ⟨c, e', J', r⟩ := merge_same sH g hB (k := k) (by omega) (tot fs [(a, b)]) [(a, b)] [AO.lst [encP (a, b)]] H.length (some (.d (enc a))) (some (.d (enc b))) none (by rw [tot_one, ← e]; omega) (Nat.le_refl _) (fun p hp => by
      obtain rfl : p = (a, b) := (by simpa using hp)
      exact ⟨ha, hb, e⟩) (by simp)
    rw [c_Store_merge]
    have w := sWhile_of r (by intro e; cases e)
    have en : endM H (.ok (.rt (.d (.bool true))) (H ++ J')) = .ok (.d (.bool true)) H := end_d
    simp [t_Store_merge, kTup, allD, sz, ek, w, en]
  have jn : call (k + 2) ("Store", "joined") [.r i, .d (enc a), .d (enc b)] h = .ok (.d (.bool true)) h := by
    rw [c_Store_joined]
    have s1 := StAt.app (l := [lstO fs]) s
    have fl : fList [.r j] h = .ok (.r h.length) (h ++ [lstO fs]) := by simp [fList, s.ls]
    have me := fun as => l_meth (CM := call (k + 1)) (a := as) m_merge s1
    have m0 := mg _ s1
    have en : endM h (.ok (.rt (.d (.bool true))) (h ++ [lstO fs])) = .ok (.d (.bool true)) h := end_d
    simp [t_Store_joined, f_found s, fl, me, m0, en]
  have m1 := fun as => l_meth (CM := call (k + 2)) (a := as) m_look s
  have m2 := fun as => l_meth (CM := call (k + 2)) (a := as) m_joined s
  have e1 := r_look (k := k + 2) g ha.ok ha.nm za (by have := ha.dp; omega) s hN
  have e2 := r_look (k := k + 2) g hb.ok hb.nm zb (by have := hb.dp; omega) s hN
  rw [c_Store_tell]
  simp [t_Store_tell, m1, m2, e1, e2, jn, end_d0]
end
end Ev
set_option Elab.async false
set_option linter.all false
set_option maxRecDepth 100000
set_option maxHeartbeats 2000000
namespace Ev
open PySem PySem.Spec PyProof.Rows L2 He
section
variable {N B : Nat} {fs : List (Option Tm)} {i j : Nat} {h : AH}
theorem m_known : TT.meths.contains ("Store", "known") = true ∧ TT.nopos.contains ("Store", "known") = false ∧ (("known" : Str) == ("found" : Str)) = false := by decide +kernel
theorem isName_val {u : Tm} (h : ∀ n, u = .name n → bd fs n = none) : (val fs u).isName = u.isName := by
  cases u with
  | num x => rw [val_num]
  | word x => rw [val_word]
  | tree f as => rw [val_tree]; rfl
  | name n => rw [val_free (h n rfl)]
def knownN (fs : List (Option Tm)) (n : Nat) : Nat := ((List.range n).filter fun x => !(val fs (.name x)).isName).length
theorem fm_filter {α β : Type} {p : α → Bool} {f : α → β} : ∀ l : List α, l.filterMap (fun x => if p x then some (f x) else none) = (l.filter p).map f
  | [] => rfl
  | a :: l => by
    rw [List.filterMap_cons, List.filter_cons]
    cases q : p a <;> simp [fm_filter l]
theorem r_known (hs : Sm N B) (g : GS N B fs) (s : St h i j fs) {k : Nat} (hk : 5 ≤ k) : call k ("Store", "known") [.r i] h = .ok (.d (.int (knownN fs N))) h := by
  obtain ⟨k, rfl⟩ : ∃ j, k = j + 1 := ⟨k - 1, by omega⟩
  rw [c_Store_known]
  have lN : fs.length = N := g.len
  have hN := hs.2.2.2
  have k1 := kLen_l (T := TT) (CM := call k) s.ls
  simp only [List.length_map, lN] at k1
  have rg := r_rng1 (m := N) (h := h) (by omega)
  have lc : eOut (eLC (.n 1) (iFun rng1 (aList [eLen TT (call k) (eFld (mVar 0) "found")])) (tNotM (tst (eCall (call k) (pl "is_name") (aList [eMeth TT (call k) "head" (mVar 0) (aList [eTup (aList [mC (.d (.str "?")), mVar 1])])])))) (mVar 1)) [some (.r i), none] h = .ok (.d (.list (((List.range N).filter fun x => !(val fs (.name x)).isName).map fun x : Nat => PyData.int (x : Int)))) h := by
    refine (lcD (ws := rangeL 0 N) (f := fun w => match w with | .d (.int x) => if (!(val fs (.name x.toNat)).isName) then some (.int x) else none | _ => none) ?_ (by rw [rangeL_len]; omega) ?_).trans ?_
    · simp [f_found s, k1]
      exact rg
    · intro w hw
      unfold rangeL at hw
      obtain ⟨x, hx, rfl⟩ := List.mem_map.mp hw
      have hx := List.mem_range.mp hx
      refine ⟨_, rfl, fun acc => ?_⟩
      have s' := StAt.app (l := [.lst acc]) s
      have me := fun as => l_meth (CM := call k) (a := as) m_head s'
      obtain ⟨u, u1, u2, u3, u4⟩ := r_head (k := k) (by omega) s' g (tg_name (n := x) hx)
      have e := r_is_name (k := k) (t := u) (h := h ++ [.lst acc]) (by omega) u4.ok
      have iu : u.isName = (val fs (.name x)).isName := by rw [← u2, isName_val u3]
      rw [iu] at e
      rw [enc_name] at u1
      have sz : (2 : Nat) ≤ sizeLine := by decide
      simp only [wI_eq, Int.zero_add, Int.toNat_natCast]
      by_cases q : (val fs (.name x)).isName = true
      · rw [q] at e
        simp [wipeW, Tg.slots, me, kTup, allD, sz, u1, e, q]
      · have q : (val fs (.name x)).isName = false := by simpa using q
        rw [q] at e
        simp [wipeW, Tg.slots, me, kTup, allD, sz, u1, e, q]
    · congr 3
      unfold rangeL
      rw [List.filterMap_map, ← fm_filter]
      refine fm_congr _ fun x _ => ?_
      simp
  simp [-eLC_ap, t_Store_known, ↓lc, fLen, knownN]
end
end Ev
set_option Elab.async false
set_option linter.all false
set_option maxRecDepth 100000
set_option maxHeartbeats 2000000
/-! RK2: lists that are drawn; lists that are the same. -/
namespace Ev
open PySem PySem.Spec PyProof.Rows L2 He
theorem cl_stepT {id i : Nat} {el : ME} {w y : W} {ws acc : List W} {env : EnvW} {h h1 : AH} (he : el (env.set i (some w)) h = .ok y h1) (ha : h1[id]? = some (.lst acc)) (hl : acc.length < 1000) :
    cLoop id (.n i) tTrue el (w :: ws) env h = cLoop id (.n i) tTrue el ws env (h1.set id (.lst (acc ++ [y]))) := by
  conv => lhs; unfold cLoop
  rw [show tgM (.n i) w env = some (env.set i (some w)) from rfl]
  simp only [mbind_ap]
  rw [show noEx (tTrue (env.set i (some w))) h = .ok true h from rfl]
  simp only [mb_ok, if_true, mbind_ap]
  rw [show noEx (el (env.set i (some w))) h = .ok y h1 from by unfold noEx; rw [he]]
  simp only [mb_ok, mbind_ap]
  rw [show pushM id y h1 = .ok () (h1.set id (.lst (acc ++ [y]))) from by
    unfold pushM; rw [ha]; simp only; rw [if_pos (Nat.lt_of_lt_of_le hl (by decide))]]
  rfl
section
variable {i : Nat} {el : ME} {env : EnvW} {h : AH} {t : Nat} {α : Type} {P : α → Prop} {p : α → PyData} {ns : List Int} {dc cm : Int}
theorem clT (ht : t < h.length) (hdc : 0 ≤ dc) (step : ∀ (w : W) (ts : List Int) (c : Int) (l : AH), Tw ns c ts → c + dc ≤ cm → ∃ a ts', el (env.set i (some w)) (h.set t (LI ts) ++ l) = .ok (.d (p a)) (h.set t (LI ts') ++ l) ∧ P a ∧ Tw ns (c + dc) ts') : ∀ (ws : List W) (ts : List Int) (c : Int) (acc : List PyData), Tw ns c ts → c + dc * ws.length ≤ cm → acc.length + ws.length < 1000 →
    ∃ (as : List α) (ts' : List Int), cLoop h.length (.n i) tTrue el ws env (h.set t (LI ts) ++ [.lst (acc.map .d)]) = .ok () (h.set t (LI ts') ++ [.lst ((acc ++ as.map p).map .d)]) ∧ as.length = ws.length ∧ (∀ a ∈ as, P a) ∧ Tw ns (c + dc * ws.length) ts'
  | [], ts, c, acc, T, _, _ => ⟨[], ts, by simp [cLoop, mpure], rfl, fun a ha => (by cases ha), by simpa using T⟩
  | w :: ws, ts, c, acc, T, hc, hl => by
    have hw : (((w :: ws).length : Nat) : Int) = ws.length + 1 := by simp
    rw [hw, Int.mul_add] at hc
    have hnn : 0 ≤ dc * (ws.length : Int) := Int.mul_nonneg hdc (by omega)
    obtain ⟨a, t1, e1, p1, T1⟩ := step w ts c [.lst (acc.map .d)] T (by omega)
    simp only [List.length_cons] at hl
    obtain ⟨as, t2, e2, e3, p2, T2⟩ := clT ht hdc step ws t1 (c + dc) (acc ++ [p a]) T1 (by omega) (by simp; omega)
    refine ⟨a :: as, t2, ?_, by simp [e3], fun b hb => ?_, by rw [hw, Int.mul_add]; rw [show c + (dc * (ws.length : Int) + dc * 1) = c + dc + dc * (ws.length : Int) from by omega]; exact T2⟩
    · rw [cl_stepT (h1 := h.set t (LI t1) ++ [.lst (acc.map .d)]) (acc := acc.map .d) e1 (by rw [List.getElem?_append_right (by simp)]; simp) (by simp; omega)]
      rw [show (h.set t (LI t1) ++ [AO.lst (acc.map .d)]).set h.length (.lst (acc.map .d ++ [.d (p a)])) = h.set t (LI t1) ++ [.lst ((acc ++ [p a]).map .d)] from by
        rw [List.set_append_right _ _ (by simp)]; simp]
      rw [e2]
      simp
    · rcases List.mem_cons.mp hb with e | e
      · subst e; exact p1
      · exact p2 b e
theorem out_lt {h : AH} {t : Nat} {o : AO} {ds : List PyData} (ho : o.clos h.length) (ht : t < h.length) : outM h (.r h.length) (h.set t o ++ [.lst (ds.map .d)]) = .ok (.d (.list ds)) (h.set t o) := by
  unfold outM
  rw [if_pos (fineB_iff.mpr (fine_set ho ht))]
  have hj : (h.set t o ++ [AO.lst (ds.map .d)])[h.length]? = some (.lst (ds.map .d)) := by rw [List.getElem?_append_right (by simp)]; simp
  have e : frzW h.length (h.set t o ++ [AO.lst (ds.map .d)]) (.r h.length) = some (.d (.list ds)) := by
    show (if h.length < h.length then some (W.r h.length) else (frz h.length (h.set t o ++ [AO.lst (ds.map .d)]) 4 (.r h.length)).map W.d) = _
    rw [if_neg (by omega)]
    have e3 : frz h.length (h.set t o ++ [AO.lst (ds.map .d)]) (3 + 1) (.r h.length) = some (.list ds) := by
      show (if h.length ≤ h.length then (match (h.set t o ++ [AO.lst (ds.map .d)])[h.length]? with
        | some (.lst ws) => (frzLw (frz h.length (h.set t o ++ [AO.lst (ds.map .d)]) 3) ws).map PyData.list
        | some (.dic kvs) => (frzDw (frz h.length (h.set t o ++ [AO.lst (ds.map .d)]) 3) kvs).map PyData.dict
        | _ => none) else none) = _
      rw [if_pos (Nat.le_refl _), hj]
      show (frzL h.length (h.set t o ++ [AO.lst (ds.map .d)]) 3 (ds.map .d)).map PyData.list = _
      rw [frzL_data]; rfl
    rw [e3]; rfl
  rw [e]
  show R.ok _ ((h.set t o ++ [AO.lst (ds.map .d)]).take h.length) = _
  rw [show (h.set t o ++ [AO.lst (ds.map .d)]).take h.length = h.set t o from by rw [← List.length_set (i := t) (a := o)]; simp]
/-- a list that is drawn, as data -/
theorem lcTw {mi : EnvW → M Src} {ts : List Int} {c : Int} {ws : List W} {env0 : EnvW} (ht : h[t]? = some (LI ts)) (hdc : 0 ≤ dc) (he : env = wipeW env0 [i]) (hs : mi env0 h = .ok (ws, none) h) (step : ∀ (w : W) (ts : List Int) (c : Int) (l : AH), Tw ns c ts → c + dc ≤ cm → ∃ a ts', el (env.set i (some w)) (h.set t (LI ts) ++ l) = .ok (.d (p a)) (h.set t (LI ts') ++ l) ∧ P a ∧ Tw ns (c + dc) ts') (T : Tw ns c ts) (hc : c + dc * ws.length ≤ cm) (hl : ws.length < 1000) :
    ∃ (as : List α) (ts' : List Int), eOut (eLC (.n i) mi tTrue el) env0 h = .ok (.d (.list (as.map p))) (h.set t (LI ts')) ∧ as.length = ws.length ∧ (∀ a ∈ as, P a) ∧ Tw ns (c + dc * ws.length) ts' := by
  obtain ⟨htl, _⟩ := List.getElem?_eq_some_iff.mp ht
  obtain ⟨as, t2, e2, e3, p2, T2⟩ := clT (p := p) htl hdc step ws ts c [] T hc (by simpa using hl)
  refine ⟨as, t2, ?_, e3, p2, T2⟩
  rw [set_same ht] at e2
  have lc : eLC (.n i) mi tTrue el env0 h = .ok (.r h.length) (h.set t (LI t2) ++ [.lst ((as.map p).map .d)]) := by
    rw [eLC_ap, hs, mb_ok]
    show mb (cLoop h.length (.n i) tTrue el ws (wipeW env0 [i]) (h ++ [.lst []])) (kRef h.length) = _
    rw [← he]
    simp only [List.map_nil, List.nil_append] at e2
    rw [e2]; rfl
  rw [eOut_ap lc, out_lt clos_LI htl]
end
/-! ### lists that are the same -/
theorem eq_same {w1 w2 : W} {H : AH} {ds : List PyData} (p1 : peek H w1 = some (.list ds)) (p2 : peek H w2 = some (.list ds)) (sh : SeqAt.shaped (.list ds) = true) : cmp .Eq w1 w2 H = .ok (.d (.bool true)) H := by
  have q : PyData.eqv (.list ds) (.list ds) = true := SeqAt.eqv_refl _ (by unfold SeqAt.shaped at sh; exact (Bool.and_eq_true_iff.mp sh).1)
  simp [cmp, cEq, p1, p2, sh, q]
theorem ne_same {w1 w2 : W} {H : AH} {ds : List PyData} (p1 : peek H w1 = some (.list ds)) (p2 : peek H w2 = some (.list ds)) (sh : SeqAt.shaped (.list ds) = true) : cmp .NotEq w1 w2 H = .ok (.d (.bool false)) H := by
  have q : PyData.eqv (.list ds) (.list ds) = true := SeqAt.eqv_refl _ (by unfold SeqAt.shaped at sh; exact (Bool.and_eq_true_iff.mp sh).1)
  simp [cmp, cEq, p1, p2, sh, q]
theorem peek_r {H : AH} {x : Nat} {ds : List PyData} (h : H[x]? = some (.lst (ds.map .d))) : peek H (.r x) = some (.list ds) := by
  simp only [peek, h, allD_map]; rfl
theorem sh_terms {ts : List Tm} (h : ∀ t ∈ ts, t.ok = true ∧ t.depth ≤ 60) : SeqAt.shaped (.list (ts.map enc)) = true := by
  unfold SeqAt.shaped
  simp only [PyData.canLay0, PyData.depth]
  rw [canAll fun y hy => by
    obtain ⟨x, hx, rfl⟩ := List.mem_map.mp hy
    exact enc_lay _ (h x hx).1]
  have := depAll (n := 60) fun y (hy : y ∈ ts.map enc) => by
    obtain ⟨x, hx, rfl⟩ := List.mem_map.mp hy
    exact Nat.le_trans (enc_dep _) (h x hx).2
  rw [Bool.true_and]
  exact decide_eq_true (by omega)
end Ev
set_option Elab.async false
set_option linter.all false
set_option maxRecDepth 100000
set_option maxHeartbeats 1000000
/-! U3: what is told can be told within a class of terms; how great values are. -/
namespace Ev
open PySem PySem.Spec PyProof.Rows L2 He
section
variable {N M : Nat} {C : Tm → Prop}
theorem head_ex {fs : List (Option Tm)} (g : Good N M fs) (hC : ∀ i t, bd fs i = some t → C t) : ∀ t, C t → ∃ u, C u ∧ val fs u = val fs t ∧ ∀ n, u = .name n → bd fs n = none := by
  obtain ⟨rk, ha, hD⟩ := g.acy
  have : ∀ (m : Nat) (t : Tm), C t → (∀ n, t = .name n → rk n < m) → ∃ u, C u ∧ val fs u = val fs t ∧ ∀ n, u = .name n → bd fs n = none := by
    intro m
    induction m with
    | zero =>
      intro t ht hm
      exact ⟨t, ht, rfl, fun n e => absurd (hm n e) (by omega)⟩
    | succ m ih =>
      intro t ht hm
      cases t with
      | name n =>
        cases hb : bd fs n with
        | none => exact ⟨.name n, ht, rfl, fun x e => by cases e; exact hb⟩
        | some u =>
          obtain ⟨v, q1, q2, q3⟩ := ih u (hC n u hb) fun x e => by
            have := ha n u hb x (by rw [e]; simp [Tm.has])
            have := hm n rfl
            omega
          exact ⟨v, q1, q2.trans (val_bound g hb).symm, q3⟩
      | num a => exact ⟨_, ht, rfl, fun n e => (by cases e)⟩
      | word a => exact ⟨_, ht, rfl, fun n e => (by cases e)⟩
      | tree f as => exact ⟨_, ht, rfl, fun n e => (by cases e)⟩
  intro t ht
  exact this (N + 1) t ht fun n _ => hD n
/-- what can be told at all, is told within the class -/
theorem uni_ex (ti : ∀ t, C t → TI N M t) (kid : ∀ f as, C (.tree f as) → ∀ a ∈ as, C a) : ∀ (U S : Nat) (fs : List (Option Tm)) (ps : List (Tm × Tm)), Good N M fs → (∀ i t, bd fs i = some t → C t) → (∀ p ∈ ps, C p.1 ∧ C p.2) → unb fs ≤ U → tot fs ps ≤ S → (∃ θ, Sol (bd fs) θ ∧ Alls θ ps) →
    ∃ fs', Good N M fs' ∧ (∀ i t, bd fs' i = some t → C t) ∧ ∀ θ, Sol (bd fs') θ ↔ Sol (bd fs) θ ∧ Alls θ ps := by
  intro U
  induction U using Nat.strongRecOn with
  | _ U ihU =>
  intro S
  induction S using Nat.strongRecOn with
  | _ S ihS =>
  intro fs ps g hC hps hU hS hsat
  cases ps with
  | nil => exact ⟨fs, g, hC, fun θ => by simp [Alls]⟩
  | cons p ps =>
  obtain ⟨a, b⟩ := p
  obtain ⟨θ0, s0, al0⟩ := hsat
  have hab := hps (a, b) (by simp)
  obtain ⟨u, u1, u2, u3⟩ := head_ex g hC a hab.1
  obtain ⟨v, v1, v2, v3⟩ := head_ex g hC b hab.2
  have au : ∀ θ, Sol (bd fs) θ → a.app θ = u.app θ := fun θ h => by rw [← val_eq h a, ← val_eq h u, u2]
  have av : ∀ θ, Sol (bd fs) θ → b.app θ = v.app θ := fun θ h => by rw [← val_eq h b, ← val_eq h v, v2]
  have e0 : u.app θ0 = v.app θ0 := by rw [← au θ0 s0, ← av θ0 s0]; exact al0 (a, b) (by simp)
  have al1 : Alls θ0 ps := fun p hp => al0 p (by simp [hp])
  have hps1 : ∀ p ∈ ps, C p.1 ∧ C p.2 := fun p hp => hps p (by simp [hp])
  have alC : ∀ θ, Alls θ ((a, b) :: ps) ↔ a.app θ = b.app θ ∧ Alls θ ps := fun θ => by simp [Alls]
  have tS : tot fs ((a, b) :: ps) = (val fs a).size + (val fs b).size + tot fs ps := by simp [tot]
  have pa := Tm.size_pos (val fs a)
  have pb := Tm.size_pos (val fs b)
  -- a name is bound
  have bind : ∀ (n : Nat) (t : Tm), bd fs n = none → n < N → C t → (val fs t).has n = false → (∀ m, t = .name m → m < n) → (∀ θ, Sol (bd fs) θ → (a.app θ = b.app θ ↔ θ n = t.app θ)) → ∃ fs', Good N M fs' ∧ (∀ i t, bd fs' i = some t → C t) ∧ ∀ θ, Sol (bd fs') θ ↔ Sol (bd fs) θ ∧ Alls θ ((a, b) :: ps) := by
    intro n t hf hn ct ho hl iff
    have hnl : n < fs.length := by rw [g.len]; exact hn
    have g1 := good_tell g hn hf (ti t ct) ho hl
    have lt := unb_set (t := t) (bd_none hf hnl)
    have sl := fun θ => sol_set (t := t) (θ := θ) g hn hf
    obtain ⟨fs', q1, q2, q3⟩ := ihU (unb (fs.set n (some t))) (by omega) _ (fs.set n (some t)) ps g1 (fun i t' h => by
      rw [bd_set hnl] at h
      unfold tellB at h
      split at h
      · cases h; exact ct
      · exact hC i t' h) hps1 (Nat.le_refl _) (Nat.le_refl _) ⟨θ0, (sl θ0).mpr ⟨s0, (iff θ0 s0).mp (al0 (a, b) (by simp))⟩, al1⟩
    refine ⟨fs', q1, q2, fun θ => ?_⟩
    rw [q3 θ, sl θ, alC]
    exact ⟨fun ⟨⟨z1, z2⟩, z3⟩ => ⟨z1, (iff θ z1).mpr z2, z3⟩, fun ⟨z1, z2, z3⟩ => ⟨⟨z1, (iff θ z1).mp z2⟩, z3⟩⟩
  -- nothing is to be done
  have drop : (∀ θ, Sol (bd fs) θ → a.app θ = b.app θ) → ∃ fs', Good N M fs' ∧ (∀ i t, bd fs' i = some t → C t) ∧ ∀ θ, Sol (bd fs') θ ↔ Sol (bd fs) θ ∧ Alls θ ((a, b) :: ps) := by
    intro h
    obtain ⟨fs', q1, q2, q3⟩ := ihS (tot fs ps) (by omega) fs ps g hC hps1 hU (Nat.le_refl _) ⟨θ0, s0, al1⟩
    refine ⟨fs', q1, q2, fun θ => ?_⟩
    rw [q3 θ, alC]
    exact ⟨fun ⟨z1, z2⟩ => ⟨z1, h θ z1, z2⟩, fun ⟨z1, _, z3⟩ => ⟨z1, z3⟩⟩
  have occ : ∀ (n : Nat) (t : Tm), bd fs n = none → t.isName = false → θ0 n = t.app θ0 → (val fs t).has n = false := by
    intro n t hf hn e
    cases ho : (val fs t).has n with
    | false => rfl
    | true =>
      cases t with
      | num x => rw [val_num] at ho; simp [Tm.has] at ho
      | word x => rw [val_word] at ho; simp [Tm.has] at ho
      | name m => simp [Tm.isName] at hn
      | tree f as => exact absurd e (no_cycle s0 ho)
  by_cases un : u.isName = true
  · cases u with
    | name n =>
      have hn : n < N := (ti _ u1).nm n (by simp [Tm.has])
      have hf := u3 n rfl
      have aun : ∀ θ, Sol (bd fs) θ → a.app θ = θ n := fun θ h => by rw [au θ h]; simp
      by_cases vn : v.isName = true
      · cases v with
        | name m =>
          have hm : m < N := (ti _ v1).nm m (by simp [Tm.has])
          have hfm := v3 m rfl
          have avn : ∀ θ, Sol (bd fs) θ → b.app θ = θ m := fun θ h => by rw [av θ h]; simp
          by_cases z : n = m
          · subst z
            exact drop fun θ h => by rw [aun θ h, avn θ h]
          · by_cases lt : n < m
            · exact bind m (.name n) hfm hm u1 (by rw [val_free hf]; simp [Tm.has, z]) (fun x e => by cases e; exact lt) fun θ h => by
                rw [aun θ h, avn θ h]; simp; exact eq_comm
            · exact bind n (.name m) hf hn v1 (by rw [val_free hfm]; simp [Tm.has]; omega) (fun x e => by cases e; omega) fun θ h => by
                rw [aun θ h, avn θ h]; simp
        | _ => simp [Tm.isName] at vn
      · have vn' : v.isName = false := by simpa using vn
        refine bind n v hf hn v1 (occ n v hf vn' (by simpa using e0)) (fun x e => by rw [e] at vn'; cases vn') fun θ h => by rw [aun θ h, av θ h]
    | _ => simp [Tm.isName] at un
  · have un' : u.isName = false := by simpa using un
    by_cases vn : v.isName = true
    · cases v with
      | name m =>
        have hm : m < N := (ti _ v1).nm m (by simp [Tm.has])
        have hfm := v3 m rfl
        have avn : ∀ θ, Sol (bd fs) θ → b.app θ = θ m := fun θ h => by rw [av θ h]; simp
        exact bind m u hfm hm u1 (occ m u hfm un' (by simpa using e0.symm)) (fun x e => by rw [e] at un'; cases un') fun θ h => by rw [au θ h, avn θ h]; exact eq_comm
      | _ => simp [Tm.isName] at vn
    · have vn' : v.isName = false := by simpa using vn
      cases u with
      | name n => cases un'
      | num x =>
        cases v with
        | num y => simp at e0; subst e0; exact drop fun θ h => by rw [au θ h, av θ h]
        | word y => simp at e0
        | name y => cases vn'
        | tree f as => rw [Tm.app_tree] at e0; simp at e0
      | word x =>
        cases v with
        | num y => simp at e0
        | word y => simp at e0; subst e0; exact drop fun θ h => by rw [au θ h, av θ h]
        | name y => cases vn'
        | tree f as => rw [Tm.app_tree] at e0; simp at e0
      | tree f as =>
        cases v with
        | num y => rw [Tm.app_tree] at e0; simp at e0
        | word y => rw [Tm.app_tree] at e0; simp at e0
        | name y => cases vn'
        | tree f' bs =>
          rw [Tm.app_tree, Tm.app_tree] at e0
          injection e0 with e1 e2
          subst e1
          have fl : as.length = bs.length := by have := congrArg List.length e2; simpa using this
          have tz := tot_zip (fs := fs) fl
          have sa : (val fs a).size = 1 + ((as.map (val fs)).map Tm.size).sum := by rw [← u2, val_tree, Tm.size_tree]
          have sb : (val fs b).size = 1 + ((bs.map (val fs)).map Tm.size).sum := by rw [← v2, val_tree, Tm.size_tree]
          have zi : ∀ θ, Sol (bd fs) θ → (a.app θ = b.app θ ↔ Alls θ (as.zip bs)) := fun θ h => by
            rw [au θ h, av θ h, Tm.app_tree, Tm.app_tree]
            unfold Alls
            rw [zip_app fl]; simp
          obtain ⟨fs', q1, q2, q3⟩ := ihS (tot fs (as.zip bs ++ ps)) (by rw [tot_app]; omega) fs (as.zip bs ++ ps) g hC (fun p hp => by
            rcases List.mem_append.mp hp with q | q
            · exact ⟨kid _ _ u1 _ (List.of_mem_zip q).1, kid _ _ v1 _ (List.of_mem_zip q).2⟩
            · exact hps1 p q) hU (Nat.le_refl _) ⟨θ0, s0, alls_app.mpr ⟨(zi θ0 s0).mp (al0 (a, b) (by simp)), al1⟩⟩
          refine ⟨fs', q1, q2, fun θ => ?_⟩
          rw [q3 θ, alC, alls_app]
          exact ⟨fun ⟨z1, z2, z3⟩ => ⟨z1, (zi θ z1).mpr z2, z3⟩, fun ⟨z1, z2, z3⟩ => ⟨z1, (zi θ z1).mp z2, z3⟩⟩
end
/-! ### how great values are -/
def sB : Nat → Nat
  | 0 => 1
  | n + 1 => 1 + 3 * sB n
theorem sB_mono {a b : Nat} (h : a ≤ b) : sB a ≤ sB b := by
  induction h with
  | refl => exact Nat.le_refl _
  | step _ ih => show _ ≤ 1 + 3 * sB _; omega
theorem sB_pos (n : Nat) : 1 ≤ sB n := by cases n <;> simp [sB]
open Classical in
theorem size_le {N M : Nat} {fs : List (Option Tm)} {P : List Tm} (g : Good N M fs) (hC : ∀ i t, bd fs i = some t → t.isTree = false ∨ t ∈ P) (hP : ∀ f as, Tm.tree f as ∈ P → as.length ≤ 3 ∧ ∀ a ∈ as, a.isTree = false) :
    ∀ t, (t.isTree = false ∨ t ∈ P) → (val fs t).size ≤ sB P.length := by
  have key : ∀ (n : Nat) (t : Tm), (val fs t).size ≤ n → (t.isTree = false ∨ t ∈ P) → (val fs t).size ≤ sB ((P.filter fun T => decide ((val fs T).size ≤ (val fs t).size)).length) := by
    intro n
    induction n with
    | zero => intro t h; have := Tm.size_pos (val fs t); omega
    | succ n ih =>
      intro t hn ht
      obtain ⟨u, u1, u2, u3⟩ := head_ex (C := fun t => t.isTree = false ∨ t ∈ P) g hC t ht
      rw [← u2] at hn ⊢
      cases u with
      | num x => rw [val_num]; exact sB_pos _
      | word x => rw [val_word]; exact sB_pos _
      | name x => rw [val_free (u3 x rfl)]; exact sB_pos _
      | tree f as =>
        have mem : Tm.tree f as ∈ P := by
          rcases u1 with q | q
          · simp [Tm.isTree] at q
          · exact q
        obtain ⟨h1, h2⟩ := hP f as mem
        rw [val_tree, Tm.size_tree] at hn
        obtain ⟨x, ex⟩ : ∃ x, x = (val fs (.tree f as)).size := ⟨_, rfl⟩
        have ex' : x = 1 + ((as.map (val fs)).map Tm.size).sum := by rw [ex, val_tree, Tm.size_tree]
        have cnt : ∀ y < x, (P.filter fun T => decide ((val fs T).size ≤ y)).length + 1 ≤ (P.filter fun T => decide ((val fs T).size ≤ x)).length := by
          intro y hy
          have : ∀ l : List Tm, Tm.tree f as ∈ l → (l.filter fun T => decide ((val fs T).size ≤ y)).length + 1 ≤ (l.filter fun T => decide ((val fs T).size ≤ x)).length := by
            have le : ∀ l : List Tm, (l.filter fun T => decide ((val fs T).size ≤ y)).length ≤ (l.filter fun T => decide ((val fs T).size ≤ x)).length := by
              intro l
              induction l with
              | nil => simp
              | cons T l ih =>
                rw [List.filter_cons, List.filter_cons]
                by_cases q : (val fs T).size ≤ y
                · have q2 : (val fs T).size ≤ x := by omega
                  simp [q, q2]; exact ih
                · by_cases q2 : (val fs T).size ≤ x
                  · simp [q, q2]; omega
                  · simp [q, q2]; exact ih
            intro l
            induction l with
            | nil => intro h; cases h
            | cons T l ih =>
              intro h
              rw [List.filter_cons, List.filter_cons]
              rcases List.mem_cons.mp h with e | e
              · subst e
                have q : ¬ (val fs (.tree f as)).size ≤ y := by omega
                have q2 : (val fs (.tree f as)).size ≤ x := by omega
                simp [q, q2]; exact le l
              · have := ih e
                by_cases q : (val fs T).size ≤ y
                · have q2 : (val fs T).size ≤ x := by omega
                  simp [q, q2]; exact this
                · by_cases q2 : (val fs T).size ≤ x
                  · simp [q, q2]; omega
                  · simp [q, q2]; exact this
          exact this P mem
        rw [← ex]
        obtain ⟨c, hc⟩ : ∃ c, (P.filter fun T => decide ((val fs T).size ≤ x)).length = c + 1 := ⟨(P.filter fun T => decide ((val fs T).size ≤ x)).length - 1, by have := cnt 0 (by omega); omega⟩
        rw [hc]
        have each : ∀ a ∈ as, (val fs a).size ≤ sB c := fun a ha => by
          have lt : (val fs a).size < x := by
            have := Tm.sum_ge (f := Tm.size) (List.mem_map_of_mem (f := val fs) ha)
            omega
          refine Nat.le_trans (ih a (by omega) (.inl (h2 a ha))) (sB_mono ?_)
          have := cnt _ lt
          omega
        have sum : ((as.map (val fs)).map Tm.size).sum ≤ as.length * sB c := by
          clear ex' ex hn cnt hc mem h1 u1 u2 u3 h2
          induction as with
          | nil => simp
          | cons a as ih =>
            have := ih fun b hb => each b (by simp [hb])
            have := each a (by simp)
            simp only [List.map_cons, List.sum_cons, List.length_cons, Nat.add_mul]
            omega
        have : as.length * sB c ≤ 3 * sB c := Nat.mul_le_mul_right _ h1
        show x ≤ 1 + 3 * sB c
        omega
  intro t ht
  exact Nat.le_trans (key _ t (Nat.le_refl _) ht) (sB_mono (List.length_filter_le ..))
end Ev
set_option Elab.async false
set_option linter.all false
set_option maxRecDepth 100000
set_option maxHeartbeats 1000000
/-! U4: a name between; how great the values of flat pairs are. -/
namespace Ev
open PySem PySem.Spec PyProof.Rows L2 He
theorem app_inj {σ τ : Nat → Tm} : ∀ t : Tm, t.app σ = t.app τ → ∀ n, t.has n = true → σ n = τ n := by
  refine Tm.ind ?_ ?_ ?_ ?_
  · intro i _ n h; simp [Tm.has] at h
  · intro i _ n h; simp [Tm.has] at h
  · intro m e n h
    have : n = m := by simp [Tm.has] at h; omega
    subst this
    simpa using e
  · intro f as ih e n h
    rw [Tm.app_tree, Tm.app_tree] at e
    injection e with _ e
    rw [Tm.has_tree, List.any_eq_true] at h
    obtain ⟨a, ha, hn⟩ := h
    exact ih a ha (List.map_inj_left.mp e a ha) n hn
def updT (θ : Nat → Tm) (m : Nat) (u : Tm) : Nat → Tm := fun n => if n = m then u else θ n
theorem upd_app {θ : Nat → Tm} {m : Nat} {u t : Tm} (h : t.has m = false) : t.app (updT θ m u) = t.app θ := Tm.app_congr t fun n hn => by
  unfold updT
  rw [if_neg]
  intro e; subst e; rw [h] at hn; cases hn
theorem sol_free {N M : Nat} {fs : List (Option Tm)} (g : Good N M fs) {m : Nat} (h : ∀ θ u, Sol (bd fs) θ → Sol (bd fs) (updT θ m u)) : bd fs m = none := by
  cases q : bd fs m with
  | none => rfl
  | some t =>
    obtain ⟨rk, ha, _⟩ := g.acy
    have hn : t.has m = false := by
      cases z : t.has m with
      | false => rfl
      | true => have := ha m t q m z; omega
    have s0 := val_sol g
    have s1 := h _ (.tree "f" [rho (bd fs) (N + 1) m]) s0
    have e0 := s0 m t q
    have e1 := s1 m t q
    rw [upd_app hn] at e1
    have e2 : Tm.tree "f" [rho (bd fs) (N + 1) m] = t.app (rho (bd fs) (N + 1)) := by
      rw [← e1]; unfold updT; rw [if_pos rfl]
    rw [← e0] at e2
    have := congrArg Tm.size e2
    rw [Tm.size_tree] at this
    simp at this
theorem val_nothas {N M : Nat} {fs : List (Option Tm)} (g : Good N M fs) {m : Nat} (h : ∀ θ u, Sol (bd fs) θ → Sol (bd fs) (updT θ m u)) {t : Tm} (ht : t.has m = false) : (val fs t).has m = false := by
  cases q : (val fs t).has m with
  | false => rfl
  | true =>
    have s0 := val_sol g
    have s1 := h _ (.tree "f" [rho (bd fs) (N + 1) m]) s0
    have e0 := val_eq s0 t
    have e1 := val_eq s1 t
    rw [upd_app ht, ← e0] at e1
    have e2 := app_inj _ e1 m q
    unfold updT at e2
    rw [if_pos rfl] at e2
    have := congrArg Tm.size e2
    rw [Tm.size_tree] at this
    simp at this
theorem rho_val {N M : Nat} {fs : List (Option Tm)} (g : Good N M fs) (n : Nat) : rho (bd fs) (N + 1) n = val fs (.name n) := by rw [← val_app g]; simp
abbrev fT (as : List Tm) : Tm := .tree "f" as
theorem f_alls {θ : Nat → Tm} {as bs : List Tm} (hl : as.length = bs.length) : (fT as).app θ = (fT bs).app θ ↔ Alls θ (as.zip bs) := by
  unfold Alls fT
  rw [zip_app hl, Tm.app_tree, Tm.app_tree]
  simp
theorem alls_upd {θ : Nat → Tm} {m : Nat} {u : Tm} {ps : List (Tm × Tm)} (hp : ∀ p ∈ ps, p.1.has m = false ∧ p.2.has m = false) : Alls (updT θ m u) ps ↔ Alls θ ps := by
  unfold Alls
  refine forall_congr' fun p => forall_congr' fun q => ?_
  rw [upd_app (hp p q).1, upd_app (hp p q).2]
section
variable {N B : Nat} {fw fb : List (Option Tm)} {as bs : List Tm} {m : Nat}
theorem between_val (gw : GS N B fw) (gb : GS N B fb) (hm : m < N) (hl : as.length = bs.length) (ha : ∀ a ∈ as, a.has m = false) (hb : ∀ b ∈ bs, b.has m = false) (hF : TG N B (fT as))
    (hw : ∀ θ, Sol (bd fw) θ ↔ Alls θ (as.zip bs)) (hbS : ∀ θ, Sol (bd fb) θ ↔ Alls θ [(.name m, fT as), (fT bs, .name m)]) :
    (∀ t : Tm, t.has m = false → val fb t = val fw t) ∧ val fb (.name m) = fT (as.map (val fw)) := by
  have hz : ∀ p ∈ as.zip bs, p.1.has m = false ∧ p.2.has m = false := fun p hp => ⟨ha _ (List.of_mem_zip hp).1, hb _ (List.of_mem_zip hp).2⟩
  have hu : ∀ θ u, Sol (bd fw) θ → Sol (bd fw) (updT θ m u) := fun θ u q => by rw [hw] at q ⊢; exact (alls_upd hz).mpr q
  have hf := sol_free gw.toGood hu
  have nF : (val fw (fT as)).has m = false := val_nothas gw.toGood hu (by
    rw [Tm.has_tree, List.any_eq_false]; intro a h; rw [ha a h]; simp)
  have g2 := gs_tell gw hm hf hF nF (fun x e => by cases e)
  have hml : m < fw.length := by rw [gw.len]; exact hm
  have s2 : ∀ θ, Sol (bd fb) θ ↔ Sol (bd (fw.set m (some (fT as)))) θ := fun θ => by
    rw [sol_set gw.toGood hm hf, hbS, hw, ← f_alls hl]
    simp only [Alls, List.mem_cons, List.not_mem_nil, or_false, forall_eq_or_imp, forall_eq, Tm.app_name]
    constructor
    · rintro ⟨q1, q2⟩; exact ⟨q1.symm.trans q2.symm, q1⟩
    · rintro ⟨q1, q2⟩; exact ⟨q2, q1.symm.trans q2.symm⟩
  obtain ⟨f2, ef2⟩ : ∃ f2, f2 = fw.set m (some (fT as)) := ⟨_, rfl⟩
  have bm : bd f2 m = some (fT as) := by rw [ef2, bd_set hml]; simp [tellB]
  have bn : ∀ n, n ≠ m → bd f2 n = bd fw n := fun n q => by rw [ef2, bd_set hml]; simp [tellB, q]
  rw [← ef2] at g2 s2
  have can := fun t => val_canon gb.toGood g2.toGood s2 t
  have same : ∀ t : Tm, t.has m = false → val f2 t = val fw t := fun t ht => by
    have sr : Sol (bd fw) (rho (bd f2) (N + 1)) := by
      have := val_sol g2.toGood
      rw [← s2, hbS] at this
      rw [hw, ← f_alls hl]
      simp only [Alls, List.mem_cons, List.not_mem_nil, or_false, forall_eq_or_imp, forall_eq, Tm.app_name] at this
      exact this.1.symm.trans this.2.symm
    rw [← val_app g2.toGood t, ← val_eq sr t]
    refine (Tm.app_congr _ fun n hn => ?_).trans (Tm.app_id _)
    rw [rho_val g2.toGood]
    have n1 : n ≠ m := fun e => by subst e; rw [val_nothas gw.toGood hu ht] at hn; cases hn
    exact val_free (by rw [bn n n1]; exact val_left gw.toGood hn)
  refine ⟨fun t ht => (can t).trans (same t ht), ?_⟩
  rw [can, val_bound g2.toGood bm]
  unfold fT
  rw [val_tree]
  congr 1
  exact List.map_congr_left fun a h => same a (ha a h)
end
/-! ### how great -/
def flatP (p : Tm × Tm) : List (Tm × Tm) := match p with
  | (.tree _ as, .tree _ bs) => as.zip bs
  | p => [p]
def oneP (p : Tm × Tm) : Option Tm := if p.1.isTree && !p.2.isTree then some p.1 else if p.2.isTree && !p.1.isTree then some p.2 else none
theorem flat_alls {θ0 : Nat → Tm} {p : Tm × Tm} (h0 : p.1.app θ0 = p.2.app θ0) (θ : Nat → Tm) : Alls θ (flatP p) ↔ p.1.app θ = p.2.app θ := by
  obtain ⟨a, b⟩ := p
  have one : ∀ q : Tm × Tm, Alls θ [q] ↔ q.1.app θ = q.2.app θ := fun q => by simp [Alls]
  cases a with
  | tree f as =>
    cases b with
    | tree f' bs =>
      simp only [Tm.app_tree] at h0
      injection h0 with e1 e2
      subst e1
      have fl : as.length = bs.length := by have := congrArg List.length e2; simpa using this
      show Alls θ (as.zip bs) ↔ _
      unfold Alls
      rw [zip_app fl, Tm.app_tree, Tm.app_tree]; simp
    | _ => exact one _
  | _ => exact one _
theorem TI.kid {N M : Nat} {f : Str} {as : List Tm} (g : TI N M (.tree f as)) {a : Tm} (ha : a ∈ as) : TI N M a := by
  refine ⟨fun n h => g.nm n ?_, ?_⟩
  · rw [Tm.has_tree, List.any_eq_true]; exact ⟨a, ha, h⟩
  · have h1 := g.dp
    have h2 := Tm.depth_le ha
    simp only [Tm.depth] at h1
    omega
/-- a term of at most one tree -/
structure Flat1 (N M : Nat) (t : Tm) : Prop extends TG N M t where
  sz : t.size ≤ 4
  d2 : t.depth ≤ 2
theorem Flat1.leaf {N M : Nat} {f : Str} {as : List Tm} (h : Flat1 N M (.tree f as)) {a : Tm} (ha : a ∈ as) : a.isTree = false := by
  have h1 := h.d2
  simp only [Tm.depth] at h1
  have h2 := Tm.depth_le ha
  cases a with
  | tree g cs =>
    have o := (Tm.ok_tree.mp ((Tm.ok_tree.mp h.ok).2.2.2 _ ha)).2.1
    cases cs with
    | nil => simp at o
    | cons c cs =>
      have h3 := Tm.depth_le (a := c) (as := c :: cs) (by simp)
      have h4 := Tm.depth_pos c
      simp only [Tm.depth] at h2
      omega
  | _ => rfl
theorem Flat1.len {N M : Nat} {f : Str} {as : List Tm} (h : Flat1 N M (.tree f as)) : as.length ≤ 3 := by
  have h1 := h.sz
  rw [Tm.size_tree] at h1
  have : ∀ l : List Tm, l.length ≤ (l.map Tm.size).sum := by
    intro l
    induction l with
    | nil => simp
    | cons a l ih => have := Tm.size_pos a; simp only [List.map_cons, List.sum_cons, List.length_cons]; omega
  have := this as
  omega
theorem size_all {N M : Nat} {fw : List (Option Tm)} {ps : List (Tm × Tm)} (gw : Good N M fw) (hp : ∀ p ∈ ps, Flat1 N M p.1 ∧ Flat1 N M p.2) (hw : ∀ θ, Sol (bd fw) θ ↔ Alls θ ps) {n : Nat} (hn : n < N) : (val fw (.name n)).size ≤ sB ps.length := by
  obtain ⟨P, eP⟩ : ∃ P, P = ps.filterMap oneP := ⟨_, rfl⟩
  have lP : P.length ≤ ps.length := by rw [eP]; exact List.length_filterMap_le ..
  have inP : ∀ t ∈ P, t.isTree = true ∧ Flat1 N M t := fun t ht => by
    rw [eP] at ht
    obtain ⟨p, hm, e⟩ := List.mem_filterMap.mp ht
    unfold oneP at e
    split at e
    · rename_i q
      cases e
      exact ⟨(Bool.and_eq_true_iff.mp q).1, (hp p hm).1⟩
    · split at e
      · rename_i q
        cases e
        exact ⟨(Bool.and_eq_true_iff.mp q).1, (hp p hm).2⟩
      · cases e
  obtain ⟨C, eC⟩ : ∃ C : Tm → Prop, C = fun t => (t.isTree = false ∧ TI N M t) ∨ t ∈ P := ⟨_, rfl⟩
  have leafC : ∀ t, t.isTree = false → TI N M t → C t := fun t h1 h2 => by rw [eC]; exact .inl ⟨h1, h2⟩
  have ti : ∀ t, C t → TI N M t := fun t h => by
    rw [eC] at h
    rcases h with h | h
    · exact h.2
    · exact (inP t h).2.toTI
  have kidF : ∀ f as, Flat1 N M (.tree f as) → ∀ a ∈ as, C a := fun f as h a ha => leafC a (h.leaf ha) (TI.kid h.toTI ha)
  have kid : ∀ f as, C (.tree f as) → ∀ a ∈ as, C a := fun f as h a ha => by
    rw [eC] at h
    rcases h with h | h
    · exact absurd h.1 (by simp [Tm.isTree])
    · exact kidF f as (inP _ h).2 a ha
  obtain ⟨θ0, h0⟩ : ∃ θ, Alls θ ps := ⟨_, (hw _).mp (val_sol gw)⟩
  have fl : ∀ θ, Alls θ (ps.flatMap flatP) ↔ Alls θ ps := fun θ => by
    constructor
    · intro h p hm
      exact (flat_alls (h0 p hm) θ).mp fun q hq => h q (List.mem_flatMap.mpr ⟨p, hm, hq⟩)
    · intro h q hq
      obtain ⟨p, hm, hq⟩ := List.mem_flatMap.mp hq
      exact (flat_alls (h0 p hm) θ).mpr (h p hm) q hq
  have inC : ∀ q ∈ ps.flatMap flatP, C q.1 ∧ C q.2 := fun q hq => by
    obtain ⟨p, hm, hq⟩ := List.mem_flatMap.mp hq
    obtain ⟨f1, f2⟩ := hp p hm
    obtain ⟨a, b⟩ := p
    simp only at f1 f2
    have mem : ∀ t, oneP (a, b) = some t → C t := fun t e => by
      rw [eC]; right; rw [eP]; exact List.mem_filterMap.mpr ⟨_, hm, e⟩
    cases ua : a.isTree with
    | false =>
      cases ub : b.isTree with
      | false =>
        have : flatP (a, b) = [(a, b)] := by cases a <;> first | rfl | simp [Tm.isTree] at ua
        rw [this] at hq
        obtain rfl : q = (a, b) := by simpa using hq
        exact ⟨leafC _ ua f1.toTI, leafC _ ub f2.toTI⟩
      | true =>
        have : flatP (a, b) = [(a, b)] := by cases a <;> first | rfl | simp [Tm.isTree] at ua
        rw [this] at hq
        obtain rfl : q = (a, b) := by simpa using hq
        exact ⟨leafC _ ua f1.toTI, mem _ (by simp [oneP, ua, ub])⟩
    | true =>
      cases ub : b.isTree with
      | false =>
        have : flatP (a, b) = [(a, b)] := by
          cases b <;> first | (cases a <;> rfl) | simp [Tm.isTree] at ub
        rw [this] at hq
        obtain rfl : q = (a, b) := by simpa using hq
        exact ⟨mem _ (by simp [oneP, ua, ub]), leafC _ ub f2.toTI⟩
      | true =>
        cases a with
        | tree f as =>
          cases b with
          | tree g bs =>
            have hq : q ∈ as.zip bs := hq
            exact ⟨kidF _ _ f1 _ (List.of_mem_zip hq).1, kidF _ _ f2 _ (List.of_mem_zip hq).2⟩
          | _ => simp [Tm.isTree] at ub
        | _ => simp [Tm.isTree] at ua
  have sn : ∀ θ, Sol (bd (names N)) θ := fun θ i t h => by rw [bd_names] at h; cases h
  obtain ⟨f2, g2, c2, s2⟩ := uni_ex (N := N) (M := M) ti kid (unb (names N)) (tot (names N) (ps.flatMap flatP)) (names N) (ps.flatMap flatP) good_names (fun i t h => by rw [bd_names] at h; cases h) inC (Nat.le_refl _) (Nat.le_refl _) ⟨θ0, sn θ0, (fl θ0).mpr h0⟩
  have can := val_canon gw g2 (fun θ => by rw [hw, s2 θ, fl]; exact ⟨fun q => ⟨sn θ, q⟩, fun q => q.2⟩) (.name n)
  rw [can]
  refine Nat.le_trans (size_le (P := P) g2 (fun i t h => ?_) (fun f as h => ?_) (.name n) (.inl rfl)) (sB_mono lP)
  · have := c2 i t h
    rw [eC] at this
    rcases this with q | q
    · exact .inl q.1
    · exact .inr q
  · have := (inP _ h).2
    exact ⟨this.len, fun a ha => this.leaf ha⟩
end Ev
set_option Elab.async false
set_option linter.all false
set_option maxRecDepth 100000
set_option maxHeartbeats 2000000
namespace Ev
open PySem PySem.Spec PyProof.Rows L2 He
/-! ### a table as a store -/
def encT (kvs : List (Nat × Tm)) : List (PyData × PyData) := kvs.map fun p => (.int p.1, enc p.2)
def TabK (h : AH) (w : W) (kvs : List (Nat × Tm)) : Prop := w = .d (.dict (encT kvs)) ∨ ∃ i, w = .r i ∧ h[i]? = some (.dic (kvs.map fun p => (PyData.int p.1, W.d (enc p.2))))
theorem look_enc {α : Type} {f : Tm → α} {n : Nat} : ∀ kvs : List (Nat × Tm), lookD (.inl (n : Int)) (kvs.map fun p => (PyData.int p.1, f p.2)) = (kvs.lookup n).map f
  | [] => rfl
  | (m, t) :: kvs => by
    rw [List.map_cons]
    unfold lookD
    rw [List.lookup_cons]
    have e : keyIsD (.inl (n : Int)) (.int (m : Int)) = (n == m) := by
      show decide (Sum.inl (n : Int) = (Sum.inl (m : Int) : Key)) = (n == m)
      by_cases q : n = m
      · subst q; simp
      · rw [decide_eq_false (fun e => q (by injection e with e; omega))]; simp [q]
    rw [e]
    cases q : (n == m) with
    | true => simp
    | false => simp; exact look_enc kvs
theorem tab_at {h : AH} {w : W} {kvs : List (Nat × Tm)} {n : Nat} (t : TabK h w kvs) : dictAt h w (.inl (n : Int)) = some ((kvs.lookup n).map fun t => .d (enc t)) := by
  rcases t with rfl | ⟨i, rfl, hi⟩
  · show some ((lookD (.inl (n : Int)) (kvs.map fun p => (PyData.int p.1, enc p.2))).map W.d) = _
    rw [look_enc, Option.map_map]; rfl
  · unfold dictAt
    simp only [hi]
    rw [look_enc (f := fun t => W.d (enc t))]
theorem dat_enc : ∀ kvs : List (Nat × Tm), datD (kvs.map fun p => (PyData.int p.1, W.d (enc p.2))) = some (encT kvs)
  | [] => rfl
  | (m, t) :: kvs => by
    rw [List.map_cons]
    unfold datD
    rw [dat_enc kvs]; rfl
theorem tab_items {h : AH} {w : W} {kvs : List (Nat × Tm)} (t : TabK h w kvs) : itemsD h w = some (encT kvs) := by
  rcases t with rfl | ⟨i, rfl, hi⟩
  · rfl
  · unfold itemsD
    simp only [hi]
    exact dat_enc kvs
theorem tab_in {h : AH} {w : W} {kvs : List (Nat × Tm)} {n : Nat} (t : TabK h w kvs) : cmp .In (.d (.int n)) w h = .ok (.d (.bool (kvs.lookup n).isSome)) h := by
  have e := tab_at (n := n) t
  have p : (peek h w).bind seqD = none := by
    rcases t with rfl | ⟨i, rfl, hi⟩
    · rfl
    · simp [peek, hi]
  show cIn false (.d (.int n)) w h = _
  unfold cIn
  rcases t with rfl | ⟨i, rfl, hi⟩
  all_goals
    simp only [p, keyOf, Option.bind_some, e, Option.isSome_map]
    rfl
theorem tab_ix {h : AH} {w : W} {kvs : List (Nat × Tm)} {n : Nat} {u : Tm} (t : TabK h w kvs) (hu : kvs.lookup n = some u) : ixM w (.d (.int n)) h = .ok (.d (enc u)) h := by
  have e := tab_at (n := n) t
  rw [hu] at e
  rcases t with rfl | ⟨i, rfl, hi⟩
  · unfold ixM
    simp only [keyOf, Option.bind_some, e]
    rfl
  · unfold dictAt at e
    simp only [hi] at e
    unfold ixM
    simp only [hi]
    have e' : lookD (.inl (n : Int)) (kvs.map fun p => (PyData.int p.1, W.d (enc p.2))) = some (.d (enc u)) := by simpa using e
    rw [e']
theorem TabK.app {h l : AH} {w : W} {kvs : List (Nat × Tm)} (t : TabK h w kvs) : TabK (h ++ l) w kvs := by
  rcases t with rfl | ⟨i, rfl, hi⟩
  · exact .inl rfl
  · exact .inr ⟨i, rfl, by rw [List.getElem?_append_left (List.getElem?_eq_some_iff.mp hi).1]; exact hi⟩
theorem TabK.set {h : AH} {w : W} {kvs : List (Nat × Tm)} {x : Nat} {o : AO} (t : TabK h w kvs) (hx : w ≠ .r x) : TabK (h.set x o) w kvs := by
  rcases t with rfl | ⟨i, rfl, hi⟩
  · exact .inl rfl
  · exact .inr ⟨i, rfl, by rw [List.getElem?_set_ne (fun e => hx (by rw [e]))]; exact hi⟩
/-- a table that tells what a store tells -/
structure Tab (h : AH) (w : W) (fs : List (Option Tm)) : Prop where
  ex : ∃ kvs : List (Nat × Tm), TabK h w kvs ∧ (kvs.map (·.1)).Nodup ∧ ∀ n, kvs.lookup n = bd fs n
theorem Tab.app {h l : AH} {w : W} {fs : List (Option Tm)} (t : Tab h w fs) : Tab (h ++ l) w fs := by
  obtain ⟨kvs, h1, h2⟩ := t.ex
  exact ⟨kvs, h1.app, h2⟩
theorem Tab.set {h : AH} {w : W} {fs : List (Option Tm)} {x : Nat} {o : AO} (t : Tab h w fs) (hx : w ≠ .r x) : Tab (h.set x o) w fs := by
  obtain ⟨kvs, h1, h2⟩ := t.ex
  exact ⟨kvs, h1.set hx, h2⟩
theorem Tab.inn {h : AH} {w : W} {fs : List (Option Tm)} {n : Nat} (t : Tab h w fs) : cmp .In (.d (.int n)) w h = .ok (.d (.bool (bd fs n).isSome)) h := by
  obtain ⟨kvs, h1, h2, h3⟩ := t.ex
  rw [tab_in h1, h3]
theorem Tab.ix {h : AH} {w : W} {fs : List (Option Tm)} {n : Nat} {u : Tm} (t : Tab h w fs) (hu : bd fs n = some u) : ixM w (.d (.int n)) h = .ok (.d (enc u)) h := by
  obtain ⟨kvs, h1, h2, h3⟩ := t.ex
  exact tab_ix h1 (by rw [h3]; exact hu)
/-! ### is_name, is_tree of the law -/
section
variable {k : Nat} {h : AH} {t : Tm}
theorem l_is_nm (hk : 1 ≤ k) (ht : t.ok = true) : call k (pl "_law_is_name") [.d (enc t)] h = .ok (.d (.bool t.isName)) h := by
  obtain ⟨k, rfl⟩ : ∃ j, k = j + 1 := ⟨k - 1, by omega⟩
  rw [c_law_is_name]
  cases t with
  | num i => simp [t_law_is_name, isiM, tyName, isSub, Tm.isName]
  | word s => simp [t_law_is_name, isiM, tyName, isSub, Tm.isName]
  | name n => simp [t_law_is_name, isiM, tyName, isSub, Tm.isName, cmp, cEq, peek, ixM, at0, sh_q, eqv_qq]
  | tree f as =>
    obtain ⟨h1, h2, h3, h4⟩ := Tm.ok_tree.mp ht
    have hs := sh_str h1
    have hq := eqv_q h1
    simp [t_law_is_name, isiM, tyName, isSub, Tm.isName, cmp, cEq, peek, ixM, at0, hs, sh_q, hq]
theorem l_is_tr (hk : 1 ≤ k) (ht : t.ok = true) : call k (pl "_law_is_tree") [.d (enc t)] h = .ok (.d (.bool t.isTree)) h := by
  obtain ⟨k, rfl⟩ : ∃ j, k = j + 1 := ⟨k - 1, by omega⟩
  rw [c_law_is_tree]
  cases t with
  | num i => simp [t_law_is_tree, isiM, tyName, isSub, Tm.isTree]
  | word s => simp [t_law_is_tree, isiM, tyName, isSub, Tm.isTree]
  | name n => simp [t_law_is_tree, isiM, tyName, isSub, Tm.isTree, cmp, cEq, peek, ixM, at0, sh_q, eqv_qq]
  | tree f as =>
    obtain ⟨h1, h2, h3, h4⟩ := Tm.ok_tree.mp ht
    have hs := sh_str h1
    have hq := eqv_q h1
    simp [t_law_is_tree, isiM, tyName, isSub, Tm.isTree, cmp, cEq, peek, ixM, at0, hs, sh_q, hq]
end
theorem cut01 {α : Type} {a : α} {r : List α} : cutL (a :: r) none (some 1) = [a] := by
  have e : HT.sIx (a :: r).length (a :: r).length (some 1) = 1 := by
    rw [show (1 : Int) = ((1 : Nat) : Int) from rfl, HT.sIx_nat]; simp
  unfold cutL
  rw [e, HT.sIx_none]
  simp
end Ev
set_option Elab.async false
set_option linter.all false
set_option maxRecDepth 100000
set_option maxHeartbeats 2000000
namespace Ev
open PySem PySem.Spec PyProof.Rows L2 He
/-! ### names -/
theorem filt_map {acc : List Int} : ∀ ns : List Int, (ns.map fun x => W.d (.int x)).filterMap (fun w => match w with | .d (.int x) => if acc.contains x then none else some (W.d (.int x)) | _ => none) = (ns.filter fun x => !acc.contains x).map fun x => W.d (.int x)
  | [] => rfl
  | x :: ns => by
    have ih := filt_map (acc := acc) ns
    rw [List.map_cons, List.filterMap_cons, List.filter_cons]
    simp only
    cases q : acc.contains x with
    | true => simp only [if_true, Bool.not_true, Bool.false_eq_true, if_false]; exact ih
    | false => simp only [Bool.false_eq_true, if_false, Bool.not_false, if_true, List.map_cons]; rw [ih]
theorem LI_map {is : List Int} : LI is = .lst (is.map fun x => W.d (.int x)) := by simp [LI]
theorem nd_filter {a : Int} : ∀ {ns : List Int}, ns.Nodup → ns.length ≤ (ns.filter fun x => x != a).length + 1
  | [], _ => by simp
  | x :: ns, h => by
    rw [List.nodup_cons] at h
    rw [List.filter_cons]
    by_cases e : x = a
    · subst e
      have : ns.filter (fun y => y != x) = ns := List.filter_eq_self.mpr fun y hy => by
        rw [bne_iff_ne]; intro e; subst e; exact h.1 hy
      simp [this]
    · have := nd_filter (a := a) h.2
      rw [if_pos (by simpa using e)]
      simp only [List.length_cons]; omega
theorem nd_len : ∀ {N : Nat} {ns : List Int}, ns.Nodup → (∀ x ∈ ns, 0 ≤ x ∧ x < N) → ns.length ≤ N
  | 0, [], _, _ => by simp
  | 0, x :: ns, _, h => by have := h x (by simp); omega
  | N + 1, ns, nd, h => by
    have h1 := nd_filter (a := (N : Int)) nd
    have h2 := nd_len (N := N) (ns := ns.filter fun x => x != (N : Int)) (nd.filter _) fun x hx => by
      obtain ⟨h3, h4⟩ := List.mem_filter.mp hx
      have := h x h3
      have : x ≠ (N : Int) := by simpa using h4
      omega
    omega
structure Nms (N : Nat) (t : Nat → Bool) (ns : List Int) : Prop where
  nd : ns.Nodup
  lo : ∀ x ∈ ns, 0 ≤ x ∧ x < (N : Int)
  iff : ∀ n : Nat, (n : Int) ∈ ns ↔ t n = true
noncomputable abbrev bNm (k : Nat) : MS := sBlock [sSet 1 (eBin .Add (mVar 1) (eLC (.n 3) (iVal (eCall (call k) (pl "_law_names") (aList [mVar 2]))) (tst (eCmp .NotIn (mVar 3) (mVar 1))) (mVar 3)))]
theorem nm_loop {k N : Nat} (hN : N ≤ 1000) {w0 : W} {h : AH} : ∀ (as : List Tm) (acc : List Int) (J : AH) (l : Nat) (x2 x3 : Option W), (∀ a ∈ as, ∀ H : AH, ∃ ns : List Int, call k (pl "_law_names") [.d (enc a)] H = .ok (.d (dI ns)) H ∧ Nms N (fun n => a.has n) ns) → (h ++ J)[l]? = some (LI acc) → h.length ≤ l → acc.Nodup → (∀ x ∈ acc, 0 ≤ x ∧ x < (N : Int)) →
    ∃ acc' J' l' y2 y3, floop (.n 2) (bNm k) (as.map fun a => .d (enc a)) [some w0, some (.r l), x2, x3] (h ++ J) = .ok (.nx [some w0, some (.r l'), y2, y3]) (h ++ J') ∧ (h ++ J')[l']? = some (LI acc') ∧ h.length ≤ l' ∧ acc'.Nodup ∧ (∀ x ∈ acc', 0 ≤ x ∧ x < (N : Int)) ∧ (∀ n : Nat, (n : Int) ∈ acc' ↔ (n : Int) ∈ acc ∨ as.any (Tm.has n) = true)
  | [], acc, J, l, x2, x3, _, hl, hlh, nd, lo => ⟨acc, J, l, x2, x3, rfl, hl, hlh, nd, lo, fun n => by simp⟩
  | a :: as, acc, J, l, x2, x3, ha, hl, hlh, nd, lo => by
    obtain ⟨ns, e1, M⟩ := ha a (by simp) (h ++ J)
    have e2 := M.iff
    have z1 := nd_len nd lo
    have z2 := nd_len M.nd M.lo
    obtain ⟨H, eH⟩ : ∃ H, H = h ++ J := ⟨_, rfl⟩
    rw [← eH] at e1 hl
    have ll : l < H.length := (List.getElem?_eq_some_iff.mp hl).1
    have lc : eLC (.n 3) (iVal (eCall (call k) (pl "_law_names") (aList [mVar 2]))) (tst (eCmp .NotIn (mVar 3) (mVar 1))) (mVar 3) [some w0, some (.r l), some (.d (enc a)), x3] H = .ok (.r H.length) (H ++ [LI (ns.filter fun x => !acc.contains x)]) := by
      refine (lc_ap (ws := ns.map fun x => W.d (.int x)) (f := fun w => match w with | .d (.int x) => if acc.contains x then none else some (W.d (.int x)) | _ => none) ?_ (by rw [List.length_map]; exact Nat.le_trans (show ns.length ≤ 10000 by omega) (by decide)) ?_).trans ?_
      · simp [e1, srcM, dI]
      · intro w hw ac
        obtain ⟨x, hx, rfl⟩ := List.mem_map.mp hw
        refine ⟨_, rfl, ?_⟩
        have i1 := in_LI (h := H ++ [.lst ac]) (i := l) (is := acc) (j := x) (neg := true) (by rw [List.getElem?_append_left ll]; exact hl)
        simp only
        cases q : acc.contains x with
        | true =>
          rw [q] at i1
          simp [wipeW, Tg.slots, cmp, i1]
        | false =>
          rw [q] at i1
          simp [wipeW, Tg.slots, cmp, i1]
      · rw [filt_map, LI_map]
    have ba : bAdd (.r l) (.r H.length) (H ++ [LI (ns.filter fun x => !acc.contains x)]) = .ok (.r (H.length + 1)) (H ++ [LI (ns.filter fun x => !acc.contains x), LI (acc ++ ns.filter fun x => !acc.contains x)]) := by
      refine (bAdd_l (a := acc.map fun x => W.d (.int x)) (b := (ns.filter fun x => !acc.contains x).map fun x => W.d (.int x)) ?_ ?_ ?_).trans ?_
      · rw [List.getElem?_append_left ll, hl, LI_map]
      · rw [← LI_map]; simp
      · have := List.length_filter_le (fun x => !acc.contains x) ns
        refine Nat.le_trans (show _ ≤ 20000 from ?_) (by decide)
        rw [List.length_map, List.length_map]; omega
      · simp [LI_map]
    have nd' : (acc ++ ns.filter fun x => !acc.contains x).Nodup := by
      rw [List.nodup_append]
      refine ⟨nd, M.nd.filter _, fun x hx y hy e => ?_⟩
      subst e
      have := (List.mem_filter.mp hy).2
      simp [hx] at this
    have lo' : ∀ x ∈ acc ++ ns.filter fun x => !acc.contains x, 0 ≤ x ∧ x < (N : Int) := fun x hx => by
      rcases List.mem_append.mp hx with q | q
      · exact lo x q
      · exact M.lo x (List.mem_filter.mp q).1
    obtain ⟨acc', J', l', y2, y3, r1, r2, r3, r5, r6, r4⟩ := nm_loop (k := k) (N := N) hN (w0 := w0) (h := h) as (acc ++ ns.filter fun x => !acc.contains x) (J ++ [LI (ns.filter fun x => !acc.contains x), LI (acc ++ ns.filter fun x => !acc.contains x)]) (H.length + 1) (some (.d (enc a))) x3 (fun b hb => ha b (by simp [hb])) (by rw [← List.append_assoc, ← eH, at_l1]; rfl) (by rw [eH]; simp; omega) nd' lo'
    rw [← List.append_assoc, ← eH] at r1
    refine ⟨acc', J', l', y2, y3, ?_, r2, r3, r5, r6, fun n => ?_⟩
    · rw [← eH, List.map_cons, floop_n]
      obtain ⟨fl, efl⟩ : ∃ fl, fl = ns.filter fun x => !acc.contains x := ⟨_, rfl⟩
      rw [← efl] at lc ba r1
      have hb : bNm k [some w0, some (.r l), some (.d (enc a)), x3] H = .ok (.nx [some w0, some (.r (H.length + 1)), some (.d (enc a)), x3]) (H ++ [LI fl, LI (acc ++ fl)]) := by
        simp [-eLC_ap, bNm, ↓lc, bop, ba]
      rw [show ([some w0, some (.r l), x2, x3] : EnvW).set 2 (some (.d (enc a))) = [some w0, some (.r l), some (.d (enc a)), x3] from rfl, hb, mb_ok, kLoop_nx]
      exact r1
    · rw [r4 n, List.mem_append, List.mem_filter, List.any_cons, Bool.or_eq_true, e2 n]
      constructor
      · rintro ((h1 | ⟨h1, _⟩) | h1)
        · exact .inl h1
        · exact .inr (.inl h1)
        · exact .inr (.inr h1)
      · rintro (h1 | h1 | h1)
        · exact .inl (.inl h1)
        · by_cases q : (n : Int) ∈ acc
          · exact .inl (.inl q)
          · exact .inl (.inr ⟨h1, by simpa using q⟩)
        · exact .inr h1
theorem l_names {N : Nat} (hN : N ≤ 1000) : ∀ (t : Tm), t.ok = true → (∀ n, t.has n = true → n < N) → ∀ (k : Nat), t.depth + 1 ≤ k → ∀ h : AH, ∃ ns : List Int, call k (pl "_law_names") [.d (enc t)] h = .ok (.d (dI ns)) h ∧ Nms N (fun n => t.has n) ns := by
  refine Tm.ind ?_ ?_ ?_ ?_
  · intro i _ _ k hk h
    obtain ⟨k, rfl⟩ : ∃ j, k = j + 1 := ⟨k - 1, by omega⟩
    simp [Tm.depth] at hk
    refine ⟨[], ?_, by simp, by simp, fun n => by simp [Tm.has]⟩
    rw [c_law_names]
    have e0 := fun H : AH => l_is_nm (k := k) (t := .num i) (h := H) (by omega) rfl
    have e1 := fun H : AH => l_is_tr (k := k) (t := .num i) (h := H) (by omega) rfl
    have ek : kLst [] h = .ok (.r h.length) (h ++ [.lst []]) := kLst_ap (by simp)
    have en : endM h (.ok (.rt (.r h.length)) (h ++ [.lst []])) = .ok (.d (dI [])) h := end_l1 (ds := []) (j := [])
    rw [enc_num] at *
    simp [t_law_names, e0, e1, Tm.isName, Tm.isTree, ek, en]
  · intro i h1 _ k hk h
    obtain ⟨k, rfl⟩ : ∃ j, k = j + 1 := ⟨k - 1, by omega⟩
    simp [Tm.depth] at hk
    refine ⟨[], ?_, by simp, by simp, fun n => by simp [Tm.has]⟩
    rw [c_law_names]
    have e0 := fun H : AH => l_is_nm (k := k) (t := .word i) (h := H) (by omega) h1
    have e1 := fun H : AH => l_is_tr (k := k) (t := .word i) (h := H) (by omega) h1
    have ek : kLst [] h = .ok (.r h.length) (h ++ [.lst []]) := kLst_ap (by simp)
    have en : endM h (.ok (.rt (.r h.length)) (h ++ [.lst []])) = .ok (.d (dI [])) h := end_l1 (ds := []) (j := [])
    rw [enc_word] at *
    simp [t_law_names, e0, e1, Tm.isName, Tm.isTree, ek, en]
  · intro n _ hb k hk h
    obtain ⟨k, rfl⟩ : ∃ j, k = j + 1 := ⟨k - 1, by omega⟩
    simp [Tm.depth] at hk
    have hn := hb n (by simp [Tm.has])
    refine ⟨[(n : Int)], ?_, by simp, by simp; omega, fun m => by simp [Tm.has]; omega⟩
    rw [c_law_names]
    have e0 := fun H : AH => l_is_nm (k := k) (t := .name n) (h := H) (by omega) rfl
    have ek : kLst [.d (.int n)] h = .ok (.r h.length) (h ++ [.lst [.d (.int n)]]) := kLst_ap (by simp)
    have en : endM h (.ok (.rt (.r h.length)) (h ++ [.lst [.d (.int n)]])) = .ok (.d (dI [(n : Int)])) h := end_l1 (ds := [.int n]) (j := [])
    rw [enc_name] at *
    simp [t_law_names, e0, Tm.isName, ix_n1, ek, en]
  · intro f as ih h1 hz k hk h
    obtain ⟨k, rfl⟩ : ∃ j, k = j + 1 := ⟨k - 1, by omega⟩
    simp only [Tm.depth] at hk
    obtain ⟨o1, o2, o3, o4⟩ := Tm.ok_tree.mp h1
    obtain ⟨acc', J', l', y2, y3, r1, r2, r3, r5, r6, r4⟩ := nm_loop (k := k) (N := N) hN (w0 := .d (.tuple (.str f :: as.map enc))) (h := h) as [] [.lst []] h.length none none (fun a ha H => ih a ha (o4 a ha) (fun n hn => hz n (by rw [Tm.has_tree, List.any_eq_true]; exact ⟨a, ha, hn⟩)) k (by have := Tm.depth_le ha; omega) H) (by simp [LI]) (Nat.le_refl _) (by simp) (by simp)
    rw [show (as.map fun a => W.d (enc a)) = (as.map enc).map W.d from by rw [List.map_map]; rfl] at r1
    refine ⟨acc', ?_, r5, r6, fun n => by rw [r4 n, Tm.has_tree]; simp⟩
    rw [c_law_names]
    have e0 := fun H : AH => l_is_nm (k := k) (t := .tree f as) (h := H) (by have := Tm.depth_pos (Tm.tree f as); omega) h1
    have e1 := fun H : AH => l_is_tr (k := k) (t := .tree f as) (h := H) (by omega) h1
    have ek : kLst [] h = .ok (.r h.length) (h ++ [.lst []]) := kLst_ap (by simp)
    have en : endM h (.ok (.rt (.r l')) (h ++ J')) = .ok (.d (dI acc')) h := end_l (ds := acc'.map PyData.int) r3 (by rw [r2]; rfl)
    rw [enc_tree] at *
    simp [-List.map_map, -floop_n, t_law_names, e0, e1, Tm.isName, Tm.isTree, ek, slM, cut1, srcM, r1, en]
end Ev
set_option Elab.async false
set_option linter.all false
set_option maxRecDepth 100000
set_option maxHeartbeats 2000000
namespace Ev
open PySem PySem.Spec PyProof.Rows L2 He
/-! ### a table with one more -/
abbrev kT (p : Nat × Tm) : PyData := .tuple [.int p.1, enc p.2]
abbrev eD (p : Nat × Tm) : PyData × W := (.int p.1, .d (enc p.2))
theorem pairs_enc : ∀ kvs : List (Nat × Tm), pairsD (kvs.map kT) = some (kvs.map fun p => ((.inl (p.1 : Int) : Key), enc p.2))
  | [] => rfl
  | (n, t) :: kvs => by
    rw [List.map_cons]
    unfold pairsD
    rw [pairs_enc kvs]
    rfl
theorem key_any {n : Nat} : ∀ kvs : List (Nat × Tm), ((kvs.map eD).any fun p => keyIsD (.inl (n : Int)) p.1) = (kvs.map (·.1)).contains n
  | [] => rfl
  | (m, t) :: kvs => by
    rw [List.map_cons, List.any_cons, List.map_cons, List.contains_cons, key_any kvs]
    congr 1
    show decide (Sum.inl (n : Int) = (Sum.inl (m : Int) : Key)) = (n == m)
    by_cases q : n = m
    · subst q; simp
    · rw [decide_eq_false (fun e => q (by injection e with e; omega))]; simp [q]
theorem merge_enc : ∀ (kvs acc : List (Nat × Tm)), ((acc ++ kvs).map (·.1)).Nodup → (kvs.map fun p => ((.inl (p.1 : Int) : Key), enc p.2)).foldl (fun acc kv => putDW kv.1 (.d kv.2) acc) (acc.map eD) = (acc ++ kvs).map eD
  | [], acc, _ => by simp
  | (n, t) :: kvs, acc, nd => by
    rw [List.map_cons, List.foldl_cons]
    have hn : (acc.map (·.1)).contains n = false := by
      rw [List.map_append, List.map_cons, List.nodup_append] at nd
      cases q : (acc.map (·.1)).contains n with
      | false => rfl
      | true =>
        rw [List.contains_iff_mem] at q
        exact absurd rfl (nd.2.2 n q n (by simp))
    have e : putDW (.inl (n : Int)) (.d (enc t)) (acc.map eD) = (acc ++ [(n, t)]).map eD := by
      unfold putDW
      rw [key_any, hn]
      simp [keyD]
    have ih := merge_enc kvs (acc ++ [(n, t)]) (by simpa using nd)
    simp only at e ⊢
    rw [e, ih]
    simp
theorem end_dic {h j : AH} {i : Nat} {kvs : List (Nat × Tm)} (hi : h.length ≤ i) (hj : (h ++ j)[i]? = some (.dic (kvs.map eD))) : endM h (.ok (.rt (.r i)) (h ++ j)) = .ok (.d (.dict (encT kvs))) h := by
  show outM h (.r i) (h ++ j) = _
  unfold outM
  rw [if_pos (fineB_iff.mpr fine_app)]
  have e : frzW h.length (h ++ j) (.r i) = some (.d (.dict (encT kvs))) := by
    show (if i < h.length then some (W.r i) else (frz h.length (h ++ j) 4 (.r i)).map W.d) = _
    rw [if_neg (by omega)]
    have e3 : frz h.length (h ++ j) (3 + 1) (.r i) = some (.dict (encT kvs)) := by
      show (if h.length ≤ i then (match (h ++ j)[i]? with
        | some (.lst ws) => (frzLw (frz h.length (h ++ j) 3) ws).map PyData.list
        | some (.dic kvs) => (frzDw (frz h.length (h ++ j) 3) kvs).map PyData.dict
        | _ => none) else none) = _
      rw [if_pos hi, hj]
      show (frzDw (frz h.length (h ++ j) 3) (kvs.map eD)).map PyData.dict = _
      rw [go kvs]; rfl
    rw [e3]; rfl
  rw [e]
  show R.ok _ ((h ++ j).take h.length) = _
  rw [take_app]
where
  go {n : Nat} {h : AH} {k : Nat} : ∀ kvs : List (Nat × Tm), frzDw (frz n h k) (kvs.map eD) = some (encT kvs)
    | [] => rfl
    | (m, t) :: kvs => by
      rw [List.map_cons]
      unfold frzDw
      have e1 : frz n h k (.d (enc t)) = some (enc t) := by cases k <;> simp [frz]
      rw [e1, go kvs]; rfl
theorem look_app {n m : Nat} {t : Tm} : ∀ {kvs : List (Nat × Tm)}, kvs.lookup n = none → (kvs ++ [(n, t)]).lookup m = if m = n then some t else kvs.lookup m
  | [], _ => by
    rw [List.nil_append, List.lookup_cons]
    by_cases q : m = n
    · simp [q]
    · rw [if_neg q, show (m == n) = false from by simpa using q]
  | (a, b) :: kvs, h => by
    rw [List.lookup_cons] at h
    cases e : (n == a) with
    | true => rw [e] at h; cases h
    | false =>
      rw [e] at h
      rw [List.cons_append, List.lookup_cons, List.lookup_cons, look_app h]
      by_cases q : m = n
      · subst q; rw [e, if_pos rfl]
      · rw [if_neg q, if_neg q]
theorem look_mem {n : Nat} : ∀ {kvs : List (Nat × Tm)}, kvs.lookup n = none → n ∉ kvs.map (·.1)
  | [], _ => by simp
  | (a, b) :: kvs, h => by
    rw [List.lookup_cons] at h
    cases e : (n == a) with
    | true => rw [e] at h; cases h
    | false =>
      rw [e] at h
      have := look_mem h
      simp only [List.map_cons, List.mem_cons, not_or]
      exact ⟨by simpa using e, this⟩
/-- dict(list(table.items()) + [(n, t)]), as it comes back -/
theorem r_more {h : AH} {w : W} {fs : List (Option Tm)} {n : Nat} {t : Tm} {env : EnvW} {m0 mk mt : ME} (s : Tab h w fs) (hf : bd fs n = none) (hn : n < fs.length) (hl : fs.length ≤ 1000) (e0 : m0 env h = .ok w h) (e1 : ∀ H, mk env H = .ok (.d (.int n)) H) (e2 : ∀ H, mt env H = .ok (.d (enc t)) H) :
    ∃ w', Tab h w' (fs.set n (some t)) ∧ (∃ i J, eFun fDict (aList [eBin .Add (eItems m0) (eLst (aList [eTup (aList [mk, mt])]))]) env h = .ok (.r i) (h ++ J) ∧ endM h (.ok (.rt (.r i)) (h ++ J)) = .ok w' h) ∧ ∃ ds, w' = .d (.dict ds) := by
  obtain ⟨kvs, h1, h2, h3⟩ := s.ex
  have hk : kvs.lookup n = none := by rw [h3]; exact hf
  have nd : ((kvs ++ [(n, t)]).map (·.1)).Nodup := by
    rw [List.map_append, List.nodup_append]
    refine ⟨h2, by simp, fun x hx y hy e => ?_⟩
    have hy : y = n := by simpa using hy
    subst e
    rw [hy] at hx
    exact look_mem hk hx
  have hlen : kvs.length ≤ fs.length := by
    have : ∀ x ∈ kvs.map (fun p => (p.1 : Int)), 0 ≤ x ∧ x < (fs.length : Int) := fun x hx => by
      obtain ⟨p, hp, rfl⟩ := List.mem_map.mp hx
      refine ⟨by omega, ?_⟩
      obtain ⟨u, hu⟩ : ∃ u, kvs.lookup p.1 = some u := by
        cases q : kvs.lookup p.1 with
        | some u => exact ⟨u, rfl⟩
        | none => exact absurd (List.mem_map_of_mem (f := (·.1)) hp) (look_mem q)
      rw [h3] at hu
      have := bd_lt hu
      omega
    have nd2 : (kvs.map fun p => (p.1 : Int)).Nodup := by
      rw [show (kvs.map fun p => (p.1 : Int)) = (kvs.map (·.1)).map (fun x : Nat => (x : Int)) from by rw [List.map_map]; rfl]
      exact List.Pairwise.map _ (fun a b hab => by omega) h2
    have := nd_len nd2 this
    rwa [List.length_map] at this
  refine ⟨.d (.dict (encT (kvs ++ [(n, t)]))), ⟨_, .inl rfl, nd, fun m => ?_⟩, ⟨h.length + 3, [.lst ((kvs.map kT).map .d), .lst [.d (kT (n, t))], .lst (((kvs ++ [(n, t)]).map kT).map .d), .dic ((kvs ++ [(n, t)]).map eD)], ?_, end_dic (by omega) (by rw [at_n]; rfl)⟩, _, rfl⟩
  · rw [look_app hk, bd_set hn, h3]; rfl
  · have i1 : itemsM w h = .ok (.r h.length) (h ++ [.lst ((kvs.map kT).map .d)]) := by
      unfold itemsM
      rw [tab_items h1]
      simp [encT, kT]
    have sz : (2 : Nat) ≤ sizeLine := by decide
    have k2 : ∀ H : AH, kTup [.d (.int n), .d (enc t)] H = .ok (.d (kT (n, t))) H := fun H => by simp [kTup, allD, sz, kT]
    obtain ⟨O1, eO1⟩ : ∃ O1 : AO, O1 = .lst ((kvs.map kT).map .d) := ⟨_, rfl⟩
    have k3 : kLst [.d (kT (n, t))] (h ++ [O1]) = .ok (.r (h.length + 1)) (h ++ [O1, .lst [.d (kT (n, t))]]) := by rw [kLst_ap (by simp)]; simp
    have ba : bAdd (.r h.length) (.r (h.length + 1)) (h ++ [O1, .lst [.d (kT (n, t))]]) = .ok (.r (h.length + 2)) (h ++ [O1, .lst [.d (kT (n, t))], .lst (((kvs ++ [(n, t)]).map kT).map .d)]) := by
      refine (bAdd_l (a := (kvs.map kT).map .d) (b := [.d (kT (n, t))]) (by rw [at_l, eO1]; rfl) (by rw [at_l1]; rfl) ?_).trans ?_
      · refine Nat.le_trans (show _ ≤ 10000 from ?_) (by decide)
        rw [List.length_map, List.length_map, List.length_singleton]; omega
      · simp
    have fd : fDict [.r (h.length + 2)] (h ++ [O1, .lst [.d (kT (n, t))], .lst (((kvs ++ [(n, t)]).map kT).map .d)]) = .ok (.r (h.length + 3)) (h ++ [O1, .lst [.d (kT (n, t))], .lst (((kvs ++ [(n, t)]).map kT).map .d), .dic ((kvs ++ [(n, t)]).map eD)]) := by
      have pk : listD (h ++ [O1, .lst [.d (kT (n, t))], .lst (((kvs ++ [(n, t)]).map kT).map .d)]) (.r (h.length + 2)) = some ((kvs ++ [(n, t)]).map kT) := by
        have hat : (h ++ [O1, .lst [.d (kT (n, t))], .lst (((kvs ++ [(n, t)]).map kT).map .d)])[h.length + 2]? = some (.lst (((kvs ++ [(n, t)]).map kT).map .d)) := by rw [at_n]; rfl
        have pk : peek (h ++ [O1, .lst [.d (kT (n, t))], .lst (((kvs ++ [(n, t)]).map kT).map .d)]) (.r (h.length + 2)) = some (.list ((kvs ++ [(n, t)]).map kT)) := by simp only [peek, hat, allD_map]; rfl
        unfold listD
        rw [pk]
      have mg : mergeW ((kvs ++ [(n, t)]).map fun p => ((.inl (p.1 : Int) : Key), enc p.2)) = (kvs ++ [(n, t)]).map eD := merge_enc (kvs ++ [(n, t)]) [] nd
      unfold fDict
      simp only [pk, Option.bind_some, pairs_enc, mg]
      simp
    rw [← eO1] at i1 ⊢
    have ei : eItems m0 env h = .ok (.r h.length) (h ++ [O1]) := by
      show mb (m0 env h) itemsM = _
      rw [e0, mb_ok, i1]
    have el : eLst (aList [eTup (aList [mk, mt])]) env (h ++ [O1]) = .ok (.r (h.length + 1)) (h ++ [O1, .lst [.d (kT (n, t))]]) := by
      simp [e1, e2, k2, k3]
    rw [eFun_ap, aList_cons, eBin_ap, ei, mb_ok, kA_ap, el, mb_ok]
    rw [show bop .Add (.r h.length) (.r (h.length + 1)) (h ++ [O1, .lst [.d (kT (n, t))]]) = _ from (show bop .Add (.r h.length) (.r (h.length + 1)) (h ++ [O1, .lst [.d (kT (n, t))]]) = bAdd (.r h.length) (.r (h.length + 1)) (h ++ [O1, .lst [.d (kT (n, t))]]) from by simp [bop]).trans ba, mb_ok, kL1_ap, aList_nil, mb_ok, kL2_ap, mb_ok, fd]
end Ev
set_option Elab.async false
set_option linter.all false
set_option maxRecDepth 100000
set_option maxHeartbeats 2000000
namespace Ev
open PySem PySem.Spec PyProof.Rows L2 He
/-! ### fill -/
def fillS (kvs : List (Nat × Tm)) : Nat → Tm := fun n => (kvs.lookup n).getD (.name n)
theorem l_fill {w : W} {kvs : List (Nat × Tm)} : ∀ (t : Tm), t.ok = true → ∀ (k : Nat), t.depth + 2 ≤ k → ∀ h : AH, TabK h w kvs → call k (pl "_law_fill") [.d (enc t), w] h = .ok (.d (enc (t.app (fillS kvs)))) h := by
  refine Tm.ind ?_ ?_ ?_ ?_
  · intro i _ k hk h s
    obtain ⟨k, rfl⟩ : ∃ j, k = j + 1 := ⟨k - 1, by omega⟩
    rw [c_law_fill]
    have e0 := l_is_nm (k := k) (t := .num i) (h := h) (by omega) rfl
    have e1 := l_is_tr (k := k) (t := .num i) (h := h) (by omega) rfl
    simp [t_law_fill, enc_num ▸ e0, enc_num ▸ e1, Tm.isName, Tm.isTree]
  · intro i h1 k hk h s
    obtain ⟨k, rfl⟩ : ∃ j, k = j + 1 := ⟨k - 1, by omega⟩
    rw [c_law_fill]
    have e0 := l_is_nm (k := k) (t := .word i) (h := h) (by omega) h1
    have e1 := l_is_tr (k := k) (t := .word i) (h := h) (by omega) h1
    simp [t_law_fill, enc_word ▸ e0, enc_word ▸ e1, Tm.isName, Tm.isTree]
  · intro n _ k hk h s
    obtain ⟨k, rfl⟩ : ∃ j, k = j + 1 := ⟨k - 1, by omega⟩
    rw [c_law_fill]
    have e0 := l_is_nm (k := k) (t := .name n) (h := h) (by omega) rfl
    have x := tab_in (n := n) s
    rw [Tm.app_name]
    unfold fillS
    rw [enc_name] at e0 ⊢
    cases q : kvs.lookup n with
    | none =>
      rw [q] at x
      simp [t_law_fill, e0, Tm.isName, ix_n1, x]
    | some u =>
      rw [q] at x
      have y := tab_ix s q
      simp [t_law_fill, e0, Tm.isName, ix_n1, x, y]
  · intro f as ih h1 k hk h s
    obtain ⟨k, rfl⟩ : ∃ j, k = j + 1 := ⟨k - 1, by omega⟩
    simp only [Tm.depth] at hk
    obtain ⟨o1, o2, o3, o4⟩ := Tm.ok_tree.mp h1
    rw [c_law_fill]
    have e0 := l_is_nm (k := k) (t := .tree f as) (h := h) (by omega) h1
    have e1 := l_is_tr (k := k) (t := .tree f as) (h := h) (by omega) h1
    rw [Tm.app_tree, enc_tree, enc_tree, List.map_map]
    rw [enc_tree] at e0 e1
    have hlc : eOut (eLC (.n 2) (iVal (eSl (mVar 0) (pSome (mC (.d (.int 1)))) pNo)) tTrue (eCall (call k) (pl "_law_fill") (aList [mVar 2, mVar 1]))) [some (.d (.tuple (.str f :: as.map enc))), some w, none] h = .ok (.d (.list (as.map (enc ∘ Tm.app (fillS kvs))))) h := by
      refine (lcD_map (as := as) (fun a => W.d (enc a)) (fun a => enc (a.app (fillS kvs))) (by simp [slM, cut1, srcM]) (by omega) ?_).trans rfl
      intro a ha
      refine ⟨_, rfl, fun acc => ?_⟩
      have q := ih a ha (o4 a ha) k (by have := Tm.depth_le ha; omega) (h ++ [.lst acc]) s.app
      exact ⟨by simp, by simp [wipeW, Tg.slots, q]⟩
    have sz2 : 1 + as.length ≤ sizeLine := Nat.le_trans (show 1 + as.length ≤ 100 by omega) (by decide)
    simp [-eLC_ap, -List.map_map, t_law_fill, e0, e1, Tm.isName, Tm.isTree, slM, cut01, ↓hlc, fTuple, listD, peek, bop, bAdd, sz2]
end Ev
set_option Elab.async false
set_option linter.all false
set_option maxRecDepth 100000
set_option maxHeartbeats 4000000
namespace Ev
open PySem PySem.Spec PyProof.Rows L2 He
/-! ### the ground -/
def gKn (G : Nat → Tm) (m : Nat) : List (Nat × Tm) := (List.range m).map fun n => (n, G n)
def θG (G : Nat → Tm) : Nat → Tm := fun n => if n < 6 then G n else .name n
theorem look_gK {G : Nat → Tm} {n : Nat} : ∀ m, (gKn G m).lookup n = if n < m then some (G n) else none
  | 0 => by simp [gKn]
  | m + 1 => by
    have ih := look_gK (G := G) (n := n) m
    unfold gKn at ih ⊢
    rw [List.range_succ, List.map_append, List.map_cons, List.map_nil, List.lookup_append, ih]
    by_cases q : n < m
    · rw [if_pos q, if_pos (by omega)]; rfl
    · rw [if_neg q, List.lookup_cons]
      by_cases e : n = m
      · subst e; simp
      · rw [if_neg (by omega), show (n == m) = false from by simpa using e]; rfl
theorem fill_gK {G : Nat → Tm} : fillS (gKn G 6) = θG G := by
  funext n
  unfold fillS θG
  rw [look_gK]
  split <;> rfl
structure Gd (G : Nat → Tm) : Prop where
  dr : ∀ n, n < 6 → Dr 0 2 (G n)
theorem whole_app {t : Tm} {σ : Nat → Tm} (h : ∀ n, t.has n = false) : t.app σ = t := (Tm.app_congr t fun n hn => by rw [h n] at hn; cases hn).trans (Tm.app_id t)
theorem dr0_has {d : Nat} {t : Tm} (h : Dr 0 d t) (n : Nat) : t.has n = false := by
  cases q : t.has n with
  | false => rfl
  | true => have := h.nm n q; omega
theorem Gd.ok {G : Nat → Tm} (g : Gd G) (n : Nat) : (θG G n).ok = true := by
  unfold θG
  split
  · rename_i h; exact (g.dr n h).ok
  · rfl
theorem Gd.dep {G : Nat → Tm} (g : Gd G) (n : Nat) : (θG G n).depth ≤ 2 + 1 := by
  unfold θG
  split
  · rename_i h; exact (g.dr n h).dp
  · simp [Tm.depth]
theorem Gd.sz {G : Nat → Tm} (g : Gd G) (n : Nat) : (θG G n).size ≤ 16 := by
  unfold θG
  split
  · rename_i h; have := (g.dr n h).sz; simpa using this
  · simp [Tm.size]
/-! ### sizes -/
theorem size_app_le {σ : Nat → Tm} {m : Nat} (hm : 1 ≤ m) (h : ∀ n, (σ n).size ≤ m) : ∀ t : Tm, (t.app σ).size ≤ t.size * m := by
  refine Tm.ind ?_ ?_ ?_ ?_
  · intro i; simp [Tm.size]; exact hm
  · intro i; simp [Tm.size]; exact hm
  · intro n; simpa [Tm.size] using h n
  · intro f as ih
    rw [Tm.app_tree, Tm.size_tree, Tm.size_tree, Nat.add_mul]
    have : ((as.map (Tm.app σ)).map Tm.size).sum ≤ (as.map Tm.size).sum * m := by
      clear h hm
      induction as with
      | nil => simp
      | cons a as ih2 =>
        have h1 := ih a (by simp)
        have h2 := ih2 fun b hb => ih b (by simp [hb])
        simp only [List.map_cons, List.sum_cons, Nat.add_mul]
        omega
    omega
theorem size_app_ge {σ : Nat → Tm} : ∀ t : Tm, t.size ≤ (t.app σ).size := by
  refine Tm.ind ?_ ?_ ?_ ?_
  · intro i; simp
  · intro i; simp
  · intro n; simp [Tm.size]; exact Tm.size_pos _
  · intro f as ih
    rw [Tm.app_tree, Tm.size_tree, Tm.size_tree]
    have : (as.map Tm.size).sum ≤ ((as.map (Tm.app σ)).map Tm.size).sum := by
      induction as with
      | nil => simp
      | cons a as ih2 =>
        have h1 := ih a (by simp)
        have h2 := ih2 fun b hb => ih b (by simp [hb])
        simp only [List.map_cons, List.sum_cons]
        omega
    omega
theorem depth_app_ge {σ : Nat → Tm} : ∀ t : Tm, t.depth ≤ (t.app σ).depth := by
  refine Tm.ind ?_ ?_ ?_ ?_
  · intro i; simp
  · intro i; simp
  · intro n; simp [Tm.depth]; exact Tm.depth_pos _
  · intro f as ih
    rw [Tm.app_tree]
    simp only [Tm.depth]
    have : Tm.depthL as ≤ Tm.depthL (as.map (Tm.app σ)) := Tm.depthL_le fun a ha => Nat.le_trans (ih a ha) (Tm.depth_le (List.mem_map_of_mem (f := Tm.app σ) ha))
    omega
/-! ### the names that are so -/
noncomputable def sames (G : Nat → Tm) (u : Tm) : List Nat := (List.range 6).filter fun n => decide (G n = u)
theorem look_rod {H : AH} {g : Nat} {kvs : List (Nat × Tm)} {n : Nat} {u : Tm} (hg : H[g]? = some (.rod (kvs.map eD))) (h : kvs.lookup n = some u) : ixM (.r g) (.d (.int n)) H = .ok (.d (enc u)) H := by
  have e : lookD (.inl (n : Int)) (kvs.map eD) = some (.d (enc u)) := by rw [look_enc (f := fun t => W.d (enc t))]; rw [h]; rfl
  unfold ixM
  simp only [hg, e]
theorem rows_key : ∀ kvs : List (Nat × Tm), rowsW .key (kvs.map eD) = some (kvs.map fun p => W.d (.int p.1))
  | [] => rfl
  | p :: kvs => by
    rw [List.map_cons]
    unfold rowsW
    rw [rows_key kvs]; rfl
theorem r_sames {G : Nat → Tm} {h : AH} {g i j : Nat} {env : EnvW} {tt : EnvW → M Bool} {u : Tm} (hG : Gd G) (hu : u.ok = true) (du : u.depth ≤ 60) (hi : env[i]? = some (some (.r g))) (hg : h[g]? = some (.dic ((gKn G 6).map eD)))
    (ht : ∀ (n : Nat) (H : AH), n < 6 → H[g]? = some (.rod ((gKn G 6).map eD)) → tt ((env.set j none).set j (some (.d (.int n)))) H = .ok (decide (G n = u)) H) (hv : ∀ (w : W) (H : AH), mVar j ((env.set j none).set j (some w)) H = .ok w H) :
    eLCd .key i (.n j) tt (mVar j) env h = .ok (.r h.length) (h ++ [LI ((sames G u).map fun n : Nat => (n : Int))]) := by
  unfold eLCd
  simp only [hi, hg, rows_key]
  obtain ⟨gl, _⟩ := List.getElem?_eq_some_iff.mp hg
  have kl : kLCw (.n j) tt (mVar j) env ((gKn G 6).map fun p => W.d (.int p.1)) (h.set g (.rod ((gKn G 6).map eD))) = .ok (.r h.length) (h.set g (.rod ((gKn G 6).map eD)) ++ [LI ((sames G u).map fun n : Nat => (n : Int))]) := by
    unfold kLCw
    rw [mbind_ap]
    have lg := lc_go (id := (h.set g (.rod ((gKn G 6).map eD))).length) (t := .n j) (tt := tt) (el := mVar j) (env := env.set j none) (h := h.set g (.rod ((gKn G 6).map eD))) (f := fun w => match w with | .d (.int x) => if G x.toNat = u then some (.d (.int x)) else none | _ => none) rfl ((gKn G 6).map fun p => W.d (.int p.1)) [] (fun w hw acc => by
      obtain ⟨p, hp, rfl⟩ := List.mem_map.mp hw
      obtain ⟨n, hn, rfl⟩ := List.mem_map.mp hp
      have hn := List.mem_range.mp hn
      refine ⟨_, rfl, ?_⟩
      have hr : (h.set g (.rod ((gKn G 6).map eD)) ++ [AO.lst acc])[g]? = some (.rod ((gKn G 6).map eD)) := by
        rw [List.getElem?_append_left (by simpa using gl)]; exact List.getElem?_set_self gl
      have t1 := ht n _ hn hr
      simp only [Int.toNat_natCast]
      by_cases q : G n = u
      · simp only [q, if_true]
        rw [decide_eq_true q] at t1
        exact ⟨t1, hv _ _⟩
      · simp only [q, if_false]
        rw [decide_eq_false q] at t1
        exact t1) (by simp [gKn]; decide)
    rw [show wipeW env (Tg.n j).slots = env.set j none from rfl, lg]
    simp only [mb_ok, List.nil_append, mpure_ap, List.length_set]
    congr 3
    unfold LI gKn sames
    rw [List.map_map, List.map_map, List.filterMap_map, List.map_map]
    induction List.range 6 with
    | nil => rfl
    | cons n l ih =>
      rw [List.filterMap_cons, List.filter_cons]
      by_cases q : G n = u
      · simp only [Function.comp, Int.toNat_natCast, q, if_true, decide_true]
        have ih' := AO.lst.inj ih
        exact congrArg (fun l => AO.lst (W.d (.int (n : Int)) :: l)) ih'
      · simp only [Function.comp, Int.toNat_natCast, q, if_false, decide_false]
        exact ih
  rw [kl]
  unfold noExM
  simp only
  congr 1
  rw [List.set_append_left _ _ (by simpa using gl), List.set_set, set_same hg]
end Ev
set_option Elab.async false
set_option linter.all false
set_option maxRecDepth 100000
set_option maxHeartbeats 4000000
namespace Ev
open PySem PySem.Spec PyProof.Rows L2 He
theorem ne_nilLI {h : AH} {j : Nat} {is : List Int} (hj : h[j]? = some (LI is)) : cmp .NotEq (.r j) (.d (.list [])) h = .ok (.d (.bool (!is.isEmpty))) h := by
  have e1 := peek_LI hj
  have e2 : peek h (.d (.list [])) = some (.list []) := rfl
  have s1 : SeqAt.shaped (.list (is.map PyData.int)) = true := sh_ints
  have q : PyData.eqv (.list (is.map PyData.int)) (.list []) = is.isEmpty := eqv_dI_nil
  simp [cmp, cEq, e1, e2, s1, sh_nil, q]
section
variable {i : Nat} {el : ME} {env : EnvW} {h : AH} {t : Nat} {α β : Type} {p : α → W} {q : β → PyData} {R : α → β → Prop} {ns : List Int} {cost : α → Int} {cm : Int}
/-- a list that is drawn of another -/
theorem clT2 (ht : t < h.length) (hdc : ∀ a, 0 ≤ cost a) : ∀ (as : List α), (∀ a ∈ as, ∀ (ts : List Int) (c : Int) (l : AH), Tw ns c ts → c + cost a ≤ cm → ∃ b ts', el (env.set i (some (p a))) (h.set t (LI ts) ++ l) = .ok (.d (q b)) (h.set t (LI ts') ++ l) ∧ R a b ∧ Tw ns (c + cost a) ts') → ∀ (ts : List Int) (c : Int) (acc : List PyData), Tw ns c ts → c + (as.map cost).sum ≤ cm → acc.length + as.length < 1000 →
    ∃ (bs : List β) (ts' : List Int), cLoop h.length (.n i) tTrue el (as.map p) env (h.set t (LI ts) ++ [.lst (acc.map .d)]) = .ok () (h.set t (LI ts') ++ [.lst ((acc ++ bs.map q).map .d)]) ∧ Paired R as bs ∧ Tw ns (c + (as.map cost).sum) ts'
  | [], _, ts, c, acc, T, _, _ => ⟨[], ts, by simp [cLoop, mpure], .nil, by simpa using T⟩
  | a :: as, step, ts, c, acc, T, hc, hl => by
    simp only [List.map_cons, List.sum_cons] at hc ⊢
    have hnn : 0 ≤ (as.map cost).sum := by
      clear step hc hl
      induction as with
      | nil => simp
      | cons b as ih => simp only [List.map_cons, List.sum_cons]; have := hdc b; omega
    obtain ⟨b, t1, e1, p1, T1⟩ := step a (by simp) ts c [.lst (acc.map .d)] T (by omega)
    simp only [List.length_cons] at hl
    obtain ⟨bs, t2, e2, p2, T2⟩ := clT2 ht hdc as (fun x hx => step x (by simp [hx])) t1 (c + cost a) (acc ++ [q b]) T1 (by omega) (by simp; omega)
    refine ⟨b :: bs, t2, ?_, .cons p1 p2, T2.up (by omega)⟩
    rw [cl_stepT (h1 := h.set t (LI t1) ++ [.lst (acc.map .d)]) (acc := acc.map .d) e1 (by rw [List.getElem?_append_right (by simp)]; simp) (by simp; omega)]
    rw [show (h.set t (LI t1) ++ [AO.lst (acc.map .d)]).set h.length (.lst (acc.map .d ++ [.d (q b)])) = h.set t (LI t1) ++ [.lst ((acc ++ [q b]).map .d)] from by
      rw [List.set_append_right _ _ (by simp)]; simp]
    rw [e2]
    simp
end
/-- a term with names in the place of what they are -/
structure Op (G : Nat → Tm) (u o : Tm) : Prop where
  ok : o.ok = true
  nm : ∀ n, o.has n = true → n < 6
  dp : o.depth ≤ u.depth
  sz : o.size ≤ u.size
  ap : o.app (θG G) = u
theorem op_name {G : Nat → Tm} {u : Tm} {n : Nat} (hn : n < 6) (h : G n = u) : Op G u (.name n) := ⟨rfl, fun m hm => by simp [Tm.has] at hm; omega, by simp [Tm.depth]; exact Tm.depth_pos u, by simp [Tm.size]; exact Tm.size_pos u, by simp [θG, hn, h]⟩
theorem op_self {G : Nat → Tm} {u : Tm} (hu : u.ok = true) (hw : ∀ n, u.has n = false) : Op G u u := ⟨hu, fun n h => (by rw [hw n] at h; cases h), Nat.le_refl _, Nat.le_refl _, whole_app hw⟩
theorem op_tree {G : Nat → Tm} {f : Str} {as bs : List Tm} (h : (Tm.tree f as).ok = true) (p : Paired (Op G) as bs) : Op G (.tree f as) (.tree f bs) := by
  obtain ⟨o1, o2, o3, o4⟩ := Tm.ok_tree.mp h
  have hl := Paired.length p
  have each : ∀ b ∈ bs, ∃ a ∈ as, Op G a b := by
    clear h o2 o3 o4 hl
    induction p with
    | nil => intro b hb; cases hb
    | cons x r ih =>
      intro b hb
      rcases List.mem_cons.mp hb with e | e
      · subst e; exact ⟨_, by simp, x⟩
      · obtain ⟨a, ha, q⟩ := ih b e
        exact ⟨a, by simp [ha], q⟩
  refine ⟨Tm.ok_tree.mpr ⟨o1, by omega, by omega, fun b hb => (each b hb).elim fun a q => q.2.ok⟩, fun n hn => ?_, ?_, ?_, ?_⟩
  · rw [Tm.has_tree, List.any_eq_true] at hn
    obtain ⟨b, hb, hn⟩ := hn
    obtain ⟨a, _, q⟩ := each b hb
    exact q.nm n hn
  · simp only [Tm.depth]
    have : Tm.depthL bs ≤ Tm.depthL as := Tm.depthL_le fun b hb => by
      obtain ⟨a, ha, q⟩ := each b hb
      exact Nat.le_trans q.dp (Tm.depth_le ha)
    omega
  · rw [Tm.size_tree, Tm.size_tree]
    have : (bs.map Tm.size).sum ≤ (as.map Tm.size).sum := by
      clear h o2 o3 o4 hl each
      induction p with
      | nil => simp
      | cons x r ih => simp only [List.map_cons, List.sum_cons]; have := x.sz; omega
    omega
  · rw [Tm.app_tree]
    congr 1
    clear h o2 o3 o4 hl each
    induction p with
    | nil => rfl
    | cons x r ih => rw [List.map_cons, x.ap, ih]
theorem sames_mem {G : Nat → Tm} {u : Tm} {n : Nat} (h : n ∈ sames G u) : n < 6 ∧ G n = u := by
  unfold sames at h
  obtain ⟨h1, h2⟩ := List.mem_filter.mp h
  exact ⟨List.mem_range.mp h1, of_decide_eq_true h2⟩
section
variable {ns : List Int} {G : Nat → Tm}
theorem r_opened (hG : Gd G) : ∀ (u : Tm), u.ok = true → (∀ n, u.has n = false) → ∀ (k : Nat), u.depth + 4 ≤ k → ∀ (h : AH) (ts : List Int) (c : Int), h[2]? = some (LI ts) → h[3]? = some (.dic ((gKn G 6).map eD)) → Tw ns c ts → c + 2 * u.size ≤ 1000000 → u.depth ≤ 60 →
    ∃ o ts', call k (pl "_law_opened") [.d (dI ns), .r 2, .d (enc u), .r 3] h = .ok (.d (enc o)) (h.set 2 (LI ts')) ∧ Op G u o ∧ Tw ns (c + 2 * u.size) ts' := by
  have main : ∀ (u : Tm), u.ok = true → (∀ n, u.has n = false) → (∀ f as, u = .tree f as → ∀ a ∈ as, ∀ (k : Nat), a.depth + 4 ≤ k → ∀ (h : AH) (ts : List Int) (c : Int), h[2]? = some (LI ts) → h[3]? = some (.dic ((gKn G 6).map eD)) → Tw ns c ts → c + 2 * a.size ≤ 1000000 → a.depth ≤ 60 →
      ∃ o ts', call k (pl "_law_opened") [.d (dI ns), .r 2, .d (enc a), .r 3] h = .ok (.d (enc o)) (h.set 2 (LI ts')) ∧ Op G a o ∧ Tw ns (c + 2 * a.size) ts') → ∀ (k : Nat), u.depth + 4 ≤ k → ∀ (h : AH) (ts : List Int) (c : Int), h[2]? = some (LI ts) → h[3]? = some (.dic ((gKn G 6).map eD)) → Tw ns c ts → c + 2 * u.size ≤ 1000000 → u.depth ≤ 60 →
      ∃ o ts', call k (pl "_law_opened") [.d (dI ns), .r 2, .d (enc u), .r 3] h = .ok (.d (enc o)) (h.set 2 (LI ts')) ∧ Op G u o ∧ Tw ns (c + 2 * u.size) ts' := by
    intro u hu hw ih k hk h ts c ht hg T hc du
    obtain ⟨k, rfl⟩ : ∃ j, k = j + 3 := ⟨k - 3, by have := Tm.depth_pos u; omega⟩
    have pu := Tm.size_pos u
    have htl : 2 < h.length := (List.getElem?_eq_some_iff.mp ht).1
    have hgl : 3 < h.length := (List.getElem?_eq_some_iff.mp hg).1
    have e1 := r_sames (i := 3) (j := 5) (g := 3) (env := [some (.d (dI ns)), some (.r 2), some (.d (enc u)), some (.r 3), none, none, none]) (tt := tst (eCmp .Eq (eIx (mVar 3) (mVar 5)) (mVar 2))) hG hu du rfl hg (fun n H hn hr => by
      have x := look_rod (n := n) (u := G n) hr (by rw [look_gK, if_pos hn])
      have q := eq_enc (h := H) (hG.dr n hn).ok hu (by have := (hG.dr n hn).dp; omega) (by omega)
      simp [x, q]) (fun w H => rfl)
    obtain ⟨S, eS⟩ : ∃ S : AO, S = LI ((sames G u).map fun n : Nat => (n : Int)) := ⟨_, rfl⟩
    rw [← eS] at e1
    have hS : (h ++ [S])[h.length]? = some (LI ((sames G u).map fun n : Nat => (n : Int))) := by rw [eS]; simp
    have nn := ne_nilLI hS
    have ht1 : (h ++ [S])[2]? = some (LI ts) := by rw [List.getElem?_append_left htl]; exact ht
    have ht3 : ∀ (t1 : List Int) (l : AH), (h.set 2 (LI t1) ++ [S] ++ l)[2]? = some (LI t1) := fun t1 l => by
      rw [List.append_assoc, List.getElem?_append_left (by simpa using htl)]; exact List.getElem?_set_self htl
    have hg3 : ∀ (t1 : List Int) (l : AH), (h.set 2 (LI t1) ++ [S] ++ l)[3]? = some (.dic ((gKn G 6).map eD)) := fun t1 l => by
      rw [List.append_assoc, List.getElem?_append_left (by simpa using hgl), List.getElem?_set_ne (by decide)]; exact hg
    have hset : ∀ t1 : List Int, (h ++ [S]).set 2 (LI t1) = h.set 2 (LI t1) ++ [S] := fun t1 => List.set_append_left _ _ htl
    have fin : ∀ (t1 : List Int) (c1 : Int), Tw ns c1 t1 → c1 ≤ c + 2 → ∃ o ts', sBlock [sIf (tst (eCall (call (k + 2)) (pl "_law_is_tree") (aList [mVar 2]))) (sBlock [sRet (eBin .Add (eSl (mVar 2) pNo (pSome (mC (.d (.int 1))))) (eFun fTuple (aList [eOut (eLC (.n 6) (iVal (eSl (mVar 2) (pSome (mC (.d (.int 1)))) pNo)) tTrue (eCall (call (k + 2)) (pl "_law_opened") (aList [mVar 0, mVar 1, mVar 6, mVar 3])))])))]) (sBlock []), sRet (mVar 2)] [some (.d (dI ns)), some (.r 2), some (.d (enc u)), some (.r 3), some (.r h.length), none, none] (h.set 2 (LI t1) ++ [S]) = .ok (.rt (.d (enc o))) (h.set 2 (LI ts') ++ [S]) ∧ Op G u o ∧ Tw ns (c + 2 * u.size) ts' := by
      intro t1 c1 T1 hc1
      have it := l_is_tr (k := k + 2) (t := u) (h := h.set 2 (LI t1) ++ [S]) (by omega) hu
      cases u with
      | num x => exact ⟨_, t1, by rw [enc_num] at *; simp [it, Tm.isTree], op_self hu hw, T1.up (by omega)⟩
      | word x => exact ⟨_, t1, by rw [enc_word] at *; simp [it, Tm.isTree], op_self hu hw, T1.up (by omega)⟩
      | name n => have := hw n; simp [Tm.has] at this
      | tree f as =>
        obtain ⟨o1, o2, o3, o4⟩ := Tm.ok_tree.mp hu
        have sz := Tm.size_tree (f := f) (as := as)
        simp only [Tm.depth] at hk du
        have sumI : ∀ l : List Tm, (l.map fun a => 2 * ((a.size : Nat) : Int)).sum = 2 * (((l.map Tm.size).sum : Nat) : Int) := by
          intro l
          induction l with
          | nil => simp
          | cons a l ih => simp only [List.map_cons, List.sum_cons, ih]; omega
        have sm := sumI as
        obtain ⟨bs, t2, e2, p2, T2⟩ := clT2 (i := 6) (el := eCall (call (k + 2)) (pl "_law_opened") (aList [mVar 0, mVar 1, mVar 6, mVar 3])) (env := [some (.d (dI ns)), some (.r 2), some (.d (enc (.tree f as))), some (.r 3), some (.r h.length), none, none]) (h := h ++ [S]) (t := 2) (p := fun a => W.d (enc a)) (q := enc) (R := Op G) (ns := ns) (cost := fun a => 2 * ((a.size : Nat) : Int)) (cm := 1000000) (by simp; omega) (fun a => by omega) as (fun a ha ts' c' l T' hc' => by
          obtain ⟨o, t', e', P', T''⟩ := ih f as rfl a ha (k + 2) (by have := Tm.depth_le ha; omega) (h.set 2 (LI ts') ++ [S] ++ l) ts' c' (ht3 ts' l) (hg3 ts' l) T' hc' (by have := Tm.depth_le ha; omega)
          refine ⟨o, t', ?_, P', T''⟩
          rw [hset, hset]
          rw [show (h.set 2 (LI ts') ++ [S] ++ l).set 2 (LI t') = h.set 2 (LI t') ++ [S] ++ l from by
            rw [List.append_assoc, List.set_append_left _ _ (by simpa using htl), List.set_set, List.append_assoc]] at e'
          simp [-List.append_assoc, e']) t1 c1 [] T1 (by rw [sm]; omega) (by simp; omega)
        have lH : (h.set 2 (LI t1) ++ [S]).length = (h ++ [S]).length := by simp
        have lc : eLC (.n 6) (iVal (eSl (mVar 2) (pSome (mC (.d (.int 1)))) pNo)) tTrue (eCall (call (k + 2)) (pl "_law_opened") (aList [mVar 0, mVar 1, mVar 6, mVar 3])) [some (.d (dI ns)), some (.r 2), some (.d (enc (.tree f as))), some (.r 3), some (.r h.length), none, none] (h.set 2 (LI t1) ++ [S]) = .ok (.r (h.set 2 (LI t1) ++ [S]).length) ((h.set 2 (LI t1) ++ [S]).set 2 (LI t2) ++ [.lst ((bs.map enc).map .d)]) := by
          rw [eLC_ap, show iVal (eSl (mVar 2) (pSome (mC (.d (.int 1)))) pNo) [some (.d (dI ns)), some (.r 2), some (.d (enc (.tree f as))), some (.r 3), some (.r h.length), none, none] (h.set 2 (LI t1) ++ [S]) = .ok (as.map (fun a => W.d (enc a)), none) (h.set 2 (LI t1) ++ [S]) from by rw [enc_tree]; simp [slM, cut1, srcM], mb_ok]
          show mb (cLoop (h.set 2 (LI t1) ++ [S]).length (.n 6) tTrue _ (as.map fun a => W.d (enc a)) (wipeW _ [6]) (h.set 2 (LI t1) ++ [S] ++ [.lst []])) (kRef (h.set 2 (LI t1) ++ [S]).length) = _
          rw [lH, ← hset]
          simp only [List.map_nil, List.nil_append] at e2
          rw [show wipeW [some (.d (dI ns)), some (.r 2), some (.d (enc (.tree f as))), some (.r 3), some (.r h.length), none, none] [6] = [some (.d (dI ns)), some (.r 2), some (.d (enc (.tree f as))), some (.r 3), some (.r h.length), none, none] from rfl, e2, List.set_set]
          rfl
        have lo := (eOut_ap lc).trans (out_lt clos_LI (by simp; omega))
        rw [show (h.set 2 (LI t1) ++ [S]).set 2 (LI t2) = h.set 2 (LI t2) ++ [S] from by rw [List.set_append_left _ _ (by simpa using htl), List.set_set]] at lo
        have ob := op_tree hu p2
        have bl := Paired.length p2
        have sz2 : 1 + bs.length ≤ sizeLine := Nat.le_trans (show 1 + bs.length ≤ 100 by omega) (by decide)
        refine ⟨.tree f bs, t2, ?_, ob, T2.up (by rw [sm]; omega)⟩
        rw [enc_tree] at *
        simp [-eLC_ap, -List.map_map, -List.append_assoc, it, Tm.isTree, slM, cut01, ↓lo, fTuple, listD, peek, bop, bAdd, sz2]
    have wrap : ∀ {o : Tm} {ts' : List Int}, t_law_opened (call (k + 2)) [some (.d (dI ns)), some (.r 2), some (.d (enc u)), some (.r 3), none, none, none] h = .ok (.rt (.d (enc o))) (h.set 2 (LI ts') ++ [S]) → call (k + 3) (pl "_law_opened") [.d (dI ns), .r 2, .d (enc u), .r 3] h = .ok (.d (enc o)) (h.set 2 (LI ts')) := fun {o ts'} e => by
      rw [c_law_opened, e]
      exact end_set clos_LI htl
    have st1 : ∀ S' : List MS, ∀ s' : MS, sBlock (sSet 4 (eLCd .key 3 (.n 5) (tst (eCmp .Eq (eIx (mVar 3) (mVar 5)) (mVar 2))) (mVar 5)) :: s' :: S') [some (.d (dI ns)), some (.r 2), some (.d (enc u)), some (.r 3), none, none, none] h = sBlock (s' :: S') [some (.d (dI ns)), some (.r 2), some (.d (enc u)), some (.r 3), some (.r h.length), none, none] (h ++ [S]) := fun S' s' => by
      rw [sBlock_two, sSet_ap, e1, mb_ok, kSet_ap, mb_ok, fnext_nx]; rfl
    have kl0 : ∀ H : AH, kLstD [] H = .ok (.d (.list [])) H := fun H => rfl
    have hv : ∀ (x y : Int) (H : AH), cmp .Eq (.d (.int x)) (.d (.int y)) H = .ok (.d (.bool (decide (x = y)))) H := fun x y H => by simp [cmp, cEq, peek, sh_int, eqv_ii]
    by_cases em : (sames G u).map (fun n : Nat => (n : Int)) = []
    · rw [em] at nn
      obtain ⟨o, t', f1, f2, f3⟩ := fin ts c T (by omega)
      rw [set_same ht] at f1
      refine ⟨o, t', wrap ?_, f2, f3⟩
      unfold t_law_opened
      rw [st1, sBlock_two]
      rw [show sIf (tAndM (tst (eCmp .NotEq (mVar 4) (eLstD (aList [])))) (tst (eCmp .Eq (eCall (call (k + 2)) (pl "_law_draw") (aList [mVar 0, mVar 1, mC (.d (.int 2))])) (mC (.d (.int 0)))))) (sBlock [sRet (eTup (aList [mC (.d (.str "?")), eCall (call (k + 2)) (pl "_law_pick") (aList [mVar 0, mVar 1, mVar 4])]))]) (sBlock []) [some (.d (dI ns)), some (.r 2), some (.d (enc u)), some (.r 3), some (.r h.length), none, none] (h ++ [S]) = .ok (.nx [some (.d (dI ns)), some (.r 2), some (.d (enc u)), some (.r 3), some (.r h.length), none, none]) (h ++ [S]) from by simp [kl0, nn], mb_ok, fnext_nx]
      exact f1
    · have ne : (!((sames G u).map (fun n : Nat => (n : Int))).isEmpty) = true := by
        cases q : (sames G u).map (fun n : Nat => (n : Int)) with
        | nil => exact absurd q em
        | cons => rfl
      rw [ne] at nn
      obtain ⟨v, t1, d1, v0, v1, T1⟩ := r_draw (k := k + 1) (m := 2) ht1 T (by omega) (by decide) (by decide)
      rw [hset] at d1
      by_cases z : v = 0
      · have hS1 : (h.set 2 (LI t1) ++ [S])[h.length]? = some (.lst (((sames G u).map fun n : Nat => PyData.int (n : Int)).map .d)) := by
          rw [List.getElem?_append_right (by simp), eS]
          simp [LI, Function.comp_def]
        have ht4 : (h.set 2 (LI t1) ++ [S])[2]? = some (LI t1) := by have := ht3 t1 []; rwa [List.append_nil] at this
        obtain ⟨d, t2, hd, d2, T2⟩ := r_pick (k := k) (j := h.length) ht4 T1 (by omega) hS1 (by omega) (by
          rw [List.length_map]
          rcases Nat.eq_zero_or_pos (sames G u).length with q | q
          · exact absurd (by rw [List.eq_nil_of_length_eq_zero q]; rfl) em
          · exact q) (by
          rw [List.length_map]
          have : (sames G u).length ≤ 6 := by unfold sames; exact Nat.le_trans (List.length_filter_le ..) (by simp)
          omega)
        obtain ⟨n, hn, rfl⟩ := List.mem_map.mp hd
        obtain ⟨n6, gn⟩ := sames_mem hn
        rw [List.set_append_left _ _ (by simpa using htl), List.set_set] at d2
        refine ⟨.name n, t2, wrap ?_, op_name n6 gn, T2.up (by omega)⟩
        unfold t_law_opened
        have sz : (2 : Nat) ≤ sizeLine := by decide
        rw [st1, sBlock_two]
        subst z
        rw [enc_name]
        have kt : ∀ H : AH, kTup [.d (.str "?"), .d (.int n)] H = .ok (.d (.tuple [.str "?", .int n])) H := fun H => by simp [kTup, allD, sz]
        rw [show sIf (tAndM (tst (eCmp .NotEq (mVar 4) (eLstD (aList [])))) (tst (eCmp .Eq (eCall (call (k + 2)) (pl "_law_draw") (aList [mVar 0, mVar 1, mC (.d (.int 2))])) (mC (.d (.int 0)))))) (sBlock [sRet (eTup (aList [mC (.d (.str "?")), eCall (call (k + 2)) (pl "_law_pick") (aList [mVar 0, mVar 1, mVar 4])]))]) (sBlock []) [some (.d (dI ns)), some (.r 2), some (.d (enc u)), some (.r 3), some (.r h.length), none, none] (h ++ [S]) = .ok (.rt (.d (.tuple [.str "?", .int n]))) (h.set 2 (LI t2) ++ [S]) from by simp [-List.append_assoc, kl0, nn, d1, hv, d2, kt], mb_ok, fnext_rt]
      · obtain ⟨o, t', f1, f2, f3⟩ := fin t1 (c + 1) T1 (by omega)
        refine ⟨o, t', wrap ?_, f2, f3⟩
        unfold t_law_opened
        rw [st1, sBlock_two]
        rw [show sIf (tAndM (tst (eCmp .NotEq (mVar 4) (eLstD (aList [])))) (tst (eCmp .Eq (eCall (call (k + 2)) (pl "_law_draw") (aList [mVar 0, mVar 1, mC (.d (.int 2))])) (mC (.d (.int 0)))))) (sBlock [sRet (eTup (aList [mC (.d (.str "?")), eCall (call (k + 2)) (pl "_law_pick") (aList [mVar 0, mVar 1, mVar 4])]))]) (sBlock []) [some (.d (dI ns)), some (.r 2), some (.d (enc u)), some (.r 3), some (.r h.length), none, none] (h ++ [S]) = .ok (.nx [some (.d (dI ns)), some (.r 2), some (.d (enc u)), some (.r 3), some (.r h.length), none, none]) (h.set 2 (LI t1) ++ [S]) from by simp [-List.append_assoc, kl0, nn, d1, hv, z], mb_ok, fnext_nx]
        exact f1
  intro u
  refine Tm.ind (P := fun u => u.ok = true → (∀ n, u.has n = false) → ∀ (k : Nat), u.depth + 4 ≤ k → ∀ (h : AH) (ts : List Int) (c : Int), h[2]? = some (LI ts) → h[3]? = some (.dic ((gKn G 6).map eD)) → Tw ns c ts → c + 2 * u.size ≤ 1000000 → u.depth ≤ 60 →
    ∃ o ts', call k (pl "_law_opened") [.d (dI ns), .r 2, .d (enc u), .r 3] h = .ok (.d (enc o)) (h.set 2 (LI ts')) ∧ Op G u o ∧ Tw ns (c + 2 * u.size) ts') ?_ ?_ ?_ ?_ u
  · intro i hu hw; exact main _ hu hw fun f as e => by cases e
  · intro i hu hw; exact main _ hu hw fun f as e => by cases e
  · intro i hu hw; exact main _ hu hw fun f as e => by cases e
  · intro f as ih hu hw
    refine main _ hu hw fun f' as' e a ha k hk h ts c h1 h2 h3 h4 h5 => ?_
    cases e
    refine ih a ha ((Tm.ok_tree.mp hu).2.2.2 a ha) (fun n => ?_) k hk h ts c h1 h2 h3 h4 h5
    cases q : a.has n with
    | false => rfl
    | true => have := hw n; rw [Tm.has_tree, List.any_eq_false] at this; exact absurd q (this a ha)
end
end Ev
set_option Elab.async false
set_option linter.all false
set_option maxRecDepth 100000
set_option maxHeartbeats 4000000
namespace Ev
open PySem PySem.Spec PyProof.Rows L2 He
theorem tapp_okG {σ : Nat → Tm} (hσ : ∀ n, (σ n).ok = true) : ∀ t : Tm, t.ok = true → (t.app σ).ok = true := by
  refine Tm.ind ?_ ?_ ?_ ?_
  · intro x _; rfl
  · intro x hx; simpa using hx
  · intro n _; simpa using hσ n
  · intro f as ih h
    obtain ⟨o1, o2, o3, o4⟩ := Tm.ok_tree.mp h
    rw [Tm.app_tree]
    refine Tm.ok_tree.mpr ⟨o1, by simpa using o2, by simpa using o3, fun b hb => ?_⟩
    obtain ⟨a, ha, rfl⟩ := List.mem_map.mp hb
    exact ih a ha (o4 a ha)
/-- a pair that the ground makes the same -/
structure Pr (G : Nat → Tm) (p : Tm × Tm) : Prop where
  t1 : TG 6 4 p.1
  t2 : TG 6 4 p.2
  z1 : p.1.size ≤ 300
  z2 : p.2.size ≤ 300
  eq : p.1.app (θG G) = p.2.app (θG G)
theorem pr_of {G : Nat → Tm} (hG : Gd G) {a b : Tm} (ha : Dr 6 2 a) (hb : Op G (a.app (θG G)) b) : Pr G (a, b) := by
  have d1 := depth_app (c := 2) (σ := θG G) hG.dep a
  have z1 := size_app_le (m := 16) (by decide) hG.sz a
  have h1 := ha.dp
  have h2 := ha.sz
  have h3 := hb.dp
  have h4 := hb.sz
  have h5 : (4 : Nat) ^ 2 = 16 := rfl
  refine ⟨⟨⟨ha.nm, by simp only; omega⟩, ha.ok⟩, ⟨⟨hb.nm, by simp only; omega⟩, hb.ok⟩, by simp only; omega, by simp only; omega, hb.ap.symm⟩
section
variable {ns : List Int} {G : Nat → Tm}
theorem r_pair (hG : Gd G) {k : Nat} (hk : 20 ≤ k) {h : AH} {ts : List Int} {c : Int} (ht : h[2]? = some (LI ts)) (hg : h[3]? = some (.dic ((gKn G 6).map eD))) (T : Tw ns c ts) (hc : c + 600 ≤ 1000000) :
    ∃ p ts', call k (pl "_law_pair") [.d (dI ns), .r 2, .r 3] h = .ok (encP p) (h.set 2 (LI ts')) ∧ Pr G p ∧ Tw ns (c + 600) ts' := by
  obtain ⟨k, rfl⟩ : ∃ j, k = j + 3 := ⟨k - 3, by omega⟩
  have htl : 2 < h.length := (List.getElem?_eq_some_iff.mp ht).1
  have hgl : 3 < h.length := (List.getElem?_eq_some_iff.mp hg).1
  obtain ⟨a, t1, e1, D, T1⟩ := r_term (N := 6) (by decide) (by decide) (t := 2) 2 (k + 2) (by omega) h ts c ht T (by simp; omega)
  have e1' : call (k + 2) (pl "_law_term") [.d (dI ns), .r 2, .d (.int 2), .d (.int 6)] h = .ok (.d (enc a)) (h.set 2 (LI t1)) := e1
  have T1 : Tw ns (c + 64) t1 := by simpa using T1
  have ht1 : (h.set 2 (LI t1))[2]? = some (LI t1) := List.getElem?_set_self htl
  have hg1 : (h.set 2 (LI t1))[3]? = some (.dic ((gKn G 6).map eD)) := by rw [List.getElem?_set_ne (by decide)]; exact hg
  have e2 := l_fill (w := .r 3) (kvs := gKn G 6) a D.ok (k + 2) (by have := D.dp; omega) (h.set 2 (LI t1)) (.inr ⟨3, rfl, hg1⟩)
  rw [fill_gK] at e2
  obtain ⟨u, eu⟩ : ∃ u, u = a.app (θG G) := ⟨_, rfl⟩
  rw [← eu] at e2
  have d1 := depth_app (c := 2) (σ := θG G) hG.dep a
  have z1 := size_app_le (m := 16) (by decide) hG.sz a
  have a1 := D.dp
  have a2 := D.sz
  have a3 : (4 : Nat) ^ 2 = 16 := rfl
  rw [← eu] at d1 z1
  have hu : u.ok = true := by rw [eu]; exact tapp_okG hG.ok a D.ok
  have hw : ∀ n, u.has n = false := fun n => by
    cases q : u.has n with
    | false => rfl
    | true =>
      rw [eu] at q
      obtain ⟨m, m1, m2⟩ := (Tm.has_app a).mp q
      have m6 := D.nm m m1
      unfold θG at m2
      rw [if_pos m6, dr0_has (hG.dr m m6) n] at m2
      cases m2
  have e3 := r_sames (i := 2) (j := 7) (g := 3) (env := [some (.d (dI ns)), some (.r 2), some (.r 3), some (.d (enc a)), some (.d (enc u)), none, none, none]) (tt := tst (eCmp .Eq (eIx (mVar 2) (mVar 7)) (mVar 4))) hG hu (by omega) rfl hg1 (fun n H hn hr => by
    have x := look_rod (n := n) (u := G n) hr (by rw [look_gK, if_pos hn])
    have q := eq_enc (h := H) (hG.dr n hn).ok hu (by have := (hG.dr n hn).dp; omega) (by omega)
    simp [x, q]) (fun w H => rfl)
  obtain ⟨h1, eh1⟩ : ∃ h1, h1 = h.set 2 (LI t1) := ⟨_, rfl⟩
  have l1 : h1.length = h.length := by rw [eh1]; simp
  rw [← eh1] at e1' e2 e3 ht1 hg1
  obtain ⟨S, eS⟩ : ∃ S : AO, S = LI ((sames G u).map fun n : Nat => (n : Int)) := ⟨_, rfl⟩
  rw [← eS] at e3
  have hS : (h1 ++ [S])[h1.length]? = some (LI ((sames G u).map fun n : Nat => (n : Int))) := by rw [eS]; simp
  have nn := ne_nilLI hS
  have ht2 : (h1 ++ [S])[2]? = some (LI t1) := by rw [List.getElem?_append_left (by omega)]; exact ht1
  have hg2 : (h1 ++ [S])[3]? = some (.dic ((gKn G 6).map eD)) := by rw [List.getElem?_append_left (by omega)]; exact hg1
  have kl0 : ∀ H : AH, kLstD [] H = .ok (.d (.list [])) H := fun H => rfl
  have sz : (2 : Nat) ≤ sizeLine := by decide
  have kt : ∀ (x y : PyData) (H : AH), kTup [.d x, .d y] H = .ok (.d (.tuple [x, y])) H := fun x y H => by simp [kTup, allD, sz]
  have hset : ∀ t2 : List Int, (h1 ++ [S]).set 2 (LI t2) = h.set 2 (LI t2) ++ [S] := fun t2 => by rw [List.set_append_left _ _ (by omega), eh1, List.set_set]
  have fin : ∀ {b : Tm} {t2 : List Int}, eIf (tst (eCmp .NotEq (mVar 5) (eLstD (aList [])))) (eTup (aList [mC (.d (.str "?")), eCall (call (k + 2)) (pl "_law_pick") (aList [mVar 0, mVar 1, mVar 5])])) (eCall (call (k + 2)) (pl "_law_opened") (aList [mVar 0, mVar 1, mVar 4, mVar 2])) [some (.d (dI ns)), some (.r 2), some (.r 3), some (.d (enc a)), some (.d (enc u)), some (.r h1.length), none, none] (h1 ++ [S]) = .ok (.d (enc b)) (h.set 2 (LI t2) ++ [S]) → call (k + 3) (pl "_law_pair") [.d (dI ns), .r 2, .r 3] h = .ok (encP (a, b)) (h.set 2 (LI t2)) := fun {b t2} e => by
    rw [c_law_pair]
    have en := end_set (h := h) (j := [S]) (t := 2) (o := LI t2) (x := .tuple [enc a, enc b]) clos_LI htl
    have : t_law_pair (call (k + 2)) [some (.d (dI ns)), some (.r 2), some (.r 3), none, none, none, none, none] h = .ok (.rt (.d (.tuple [enc a, enc b]))) (h.set 2 (LI t2) ++ [S]) := by
      unfold t_law_pair
      rw [sBlock_two]
      rw [show sSet 3 (eCall (call (k + 2)) (pl "_law_term") (aList [mVar 0, mVar 1, mC (.d (.int 2)), mC (.d (.int 6))])) [some (.d (dI ns)), some (.r 2), some (.r 3), none, none, none, none, none] h = .ok (.nx [some (.d (dI ns)), some (.r 2), some (.r 3), some (.d (enc a)), none, none, none, none]) h1 from by simp [e1'], mb_ok, fnext_nx, sBlock_two]
      rw [show sSet 4 (eCall (call (k + 2)) (pl "_law_fill") (aList [mVar 3, mVar 2])) [some (.d (dI ns)), some (.r 2), some (.r 3), some (.d (enc a)), none, none, none, none] h1 = .ok (.nx [some (.d (dI ns)), some (.r 2), some (.r 3), some (.d (enc a)), some (.d (enc u)), none, none, none]) h1 from by simp [e2], mb_ok, fnext_nx, sBlock_two, sSet_ap, e3, mb_ok, kSet_ap, mb_ok, fnext_nx, sBlock_two, sSet_ap]
      rw [show ([some (.d (dI ns)), some (.r 2), some (.r 3), some (.d (enc a)), some (.d (enc u)), none, none, none] : EnvW).set 5 (some (.r h1.length)) = [some (.d (dI ns)), some (.r 2), some (.r 3), some (.d (enc a)), some (.d (enc u)), some (.r h1.length), none, none] from rfl, e, mb_ok, kSet_ap, mb_ok, fnext_nx, sBlock_one]
      have kab := kt (enc a) (enc b) (h.set 2 (LI t2) ++ [S])
      obtain ⟨A, eA⟩ : ∃ A, A = enc a := ⟨_, rfl⟩
      obtain ⟨B, eB⟩ : ∃ B, B = enc b := ⟨_, rfl⟩
      rw [← eA, ← eB] at kab ⊢
      simp [-List.append_assoc, kab]
    rw [this]
    exact en
  by_cases em : (sames G u).map (fun n : Nat => (n : Int)) = []
  · rw [em] at nn
    obtain ⟨o, t2, f1, f2, f3⟩ := r_opened hG u hu hw (k + 2) (by omega) (h1 ++ [S]) t1 (c + 64) ht2 hg2 T1 (by omega) (by omega)
    rw [hset] at f1
    refine ⟨(a, o), t2, fin ?_, pr_of hG D (by rw [← eu]; exact f2), f3.up (by omega)⟩
    simp [-List.append_assoc, kl0, nn, f1]
  · have ne : (!((sames G u).map (fun n : Nat => (n : Int))).isEmpty) = true := by
      cases q : (sames G u).map (fun n : Nat => (n : Int)) with
      | nil => exact absurd q em
      | cons => rfl
    rw [ne] at nn
    have hS1 : (h1 ++ [S])[h1.length]? = some (.lst (((sames G u).map fun n : Nat => PyData.int (n : Int)).map .d)) := by
      rw [eS]
      simp [LI, Function.comp_def]
    obtain ⟨d, t2, hd, d2, T2⟩ := r_pick (k := k) (j := h1.length) ht2 T1 (by omega) hS1 (by omega) (by
      rw [List.length_map]
      rcases Nat.eq_zero_or_pos (sames G u).length with q | q
      · exact absurd (by rw [List.eq_nil_of_length_eq_zero q]; rfl) em
      · exact q) (by
      rw [List.length_map]
      have : (sames G u).length ≤ 6 := by unfold sames; exact Nat.le_trans (List.length_filter_le ..) (by simp)
      omega)
    obtain ⟨n, hn, rfl⟩ := List.mem_map.mp hd
    obtain ⟨n6, gn⟩ := sames_mem hn
    rw [hset] at d2
    refine ⟨(a, .name n), t2, fin ?_, pr_of hG D (by rw [← eu]; exact op_name n6 gn), T2.up (by omega)⟩
    rw [enc_name]
    have kq := kt (.str "?") (.int n) (h.set 2 (LI t2) ++ [S])
    simp [-List.append_assoc, kl0, nn, d2, kq]
end
end Ev
set_option Elab.async false
set_option linter.all false
set_option maxRecDepth 100000
set_option maxHeartbeats 4000000
namespace Ev
open PySem PySem.Spec PyProof.Rows L2 He
def idL (ms : List Nat) : List (Nat × Tm) := ms.map fun m => (m, .name m)
def idD (ms : List Nat) : AO := .dic ((idL ms).map eD)
theorem look_id {n : Nat} : ∀ ms : List Nat, (idL ms).lookup n = if n ∈ ms then some (.name n) else none
  | [] => rfl
  | m :: ms => by
    have ih := look_id (n := n) ms
    unfold idL at ih ⊢
    rw [List.map_cons, List.lookup_cons]
    by_cases e : n = m
    · subst e; simp
    · rw [show (n == m) = false from by simpa using e, ih]
      simp [e]
theorem clos_dic {n : Nat} {kvs : List (Nat × Tm)} : (AO.dic (kvs.map eD)).clos n := fun p hp => by
  obtain ⟨q, _, rfl⟩ := List.mem_map.mp hp
  trivial
theorem cl_stepG {id : Nat} {t : Tg} {el : ME} {w y : W} {ws acc : List W} {env e1 : EnvW} {h h1 : AH} (ht : tgM t w env = some e1) (he : el e1 h = .ok y h1) (ha : h1[id]? = some (.lst acc)) (hl : acc.length < 1000) :
    cLoop id t tTrue el (w :: ws) env h = cLoop id t tTrue el ws env (h1.set id (.lst (acc ++ [y]))) := by
  conv => lhs; unfold cLoop
  rw [ht]
  simp only [mbind_ap]
  rw [show noEx (tTrue e1) h = .ok true h from rfl]
  simp only [mb_ok, if_true, mbind_ap]
  rw [show noEx (el e1) h = .ok y h1 from by unfold noEx; rw [he]]
  simp only [mb_ok, mbind_ap]
  rw [show pushM id y h1 = .ok () (h1.set id (.lst (acc ++ [y]))) from by
    unfold pushM; rw [ha]; simp only; rw [if_pos (Nat.lt_of_lt_of_le hl (by decide))]]
  rfl
noncomputable abbrev eFt (k : Nat) : ME := eCall (call k) (pl "fit_to") (aList [mVar 3, mVar 4, mVar 2])
theorem fit_loop {k g : Nat} {w0 w1 : W} : ∀ (as : List Tm), (∀ a ∈ as, ∀ (h : AH) (ms : List Nat), h[g]? = some (idD ms) → ms.length + a.size ≤ 1000 → ∃ ms', call k (pl "fit_to") [.d (enc a), .d (enc a), .r g] h = .ok (.d (.bool true)) (h.set g (idD ms')) ∧ ms'.length ≤ ms.length + a.size) →
    ∀ (h : AH) (ms : List Nat) (acc : List PyData), g < h.length → ms.length + (as.map Tm.size).sum ≤ 1000 → acc.length + as.length < 1000 →
    ∃ ms', cLoop h.length (.t [3, 4]) tTrue (eFt k) ((as.zip as).map encP) [some w0, some w1, some (.r g), none, none] (h.set g (idD ms) ++ [.lst (acc.map .d)]) = .ok () (h.set g (idD ms') ++ [.lst ((acc ++ as.map fun _ => PyData.bool true).map .d)]) ∧ ms'.length ≤ ms.length + (as.map Tm.size).sum
  | [], _, h, ms, acc, _, _, _ => ⟨ms, by simp [cLoop, mpure], by simp⟩
  | a :: as, step, h, ms, acc, hg, hm, hl => by
    simp only [List.map_cons, List.sum_cons] at hm ⊢
    simp only [List.length_cons] at hl
    obtain ⟨m1, e1, l1⟩ := step a (by simp) (h.set g (idD ms) ++ [.lst (acc.map .d)]) ms (by rw [List.getElem?_append_left (by simpa using hg)]; exact List.getElem?_set_self hg) (by omega)
    rw [List.set_append_left _ _ (by simpa using hg), List.set_set] at e1
    obtain ⟨m2, e2, l2⟩ := fit_loop as (fun x hx => step x (by simp [hx])) h m1 (acc ++ [.bool true]) hg (by omega) (by simp; omega)
    refine ⟨m2, ?_, by omega⟩
    rw [List.zip_cons_cons, List.map_cons]
    rw [cl_stepG (e1 := [some w0, some w1, some (.r g), some (.d (enc a)), some (.d (enc a))]) (y := .d (.bool true)) (h1 := h.set g (idD m1) ++ [.lst (acc.map .d)]) (acc := acc.map .d) rfl (by simp [e1]) (by rw [List.getElem?_append_right (by simp)]; simp) (by simp; omega)]
    rw [show (h.set g (idD m1) ++ [AO.lst (acc.map .d)]).set h.length (.lst (acc.map .d ++ [.d (.bool true)])) = h.set g (idD m1) ++ [.lst ((acc ++ [PyData.bool true]).map .d)] from by
      rw [List.set_append_right _ _ (by simp)]; simp]
    rw [e2]
    simp
theorem r_fit : ∀ (t : Tm), t.ok = true → t.depth ≤ 60 → ∀ (k : Nat), t.depth + 3 ≤ k → ∀ (g : Nat) (h : AH) (ms : List Nat), h[g]? = some (idD ms) → ms.length + t.size ≤ 1000 →
    ∃ ms', call k (pl "fit_to") [.d (enc t), .d (enc t), .r g] h = .ok (.d (.bool true)) (h.set g (idD ms')) ∧ ms'.length ≤ ms.length + t.size := by
  refine Tm.ind ?_ ?_ ?_ ?_
  · intro i hu hd k hk g h ms hg hm
    obtain ⟨k, rfl⟩ : ∃ j, k = j + 1 := ⟨k - 1, by omega⟩
    have e1 := r_is_name (k := k) (t := .num i) (h := h) (by simp [Tm.depth] at hk; omega) rfl
    have e2 := r_is_tree (k := k) (t := .num i) (h := h) (by simp [Tm.depth] at hk; omega) rfl
    have q := eq_enc (a := .num i) (b := .num i) (h := h) rfl rfl (by simp [Tm.depth]) (by simp [Tm.depth])
    rw [decide_eq_true rfl] at q
    refine ⟨ms, ?_, by omega⟩
    rw [set_same hg, c_fit_to]
    rw [enc_num] at *
    simp [t_fit_to, e1, e2, Tm.isName, Tm.isTree, q]
  · intro i hu hd k hk g h ms hg hm
    obtain ⟨k, rfl⟩ : ∃ j, k = j + 1 := ⟨k - 1, by omega⟩
    have e1 := r_is_name (k := k) (t := .word i) (h := h) (by simp [Tm.depth] at hk; omega) hu
    have e2 := r_is_tree (k := k) (t := .word i) (h := h) (by simp [Tm.depth] at hk; omega) hu
    have q := eq_enc (a := .word i) (b := .word i) (h := h) hu hu (by simp [Tm.depth]) (by simp [Tm.depth])
    rw [decide_eq_true rfl] at q
    refine ⟨ms, ?_, by omega⟩
    rw [set_same hg, c_fit_to]
    rw [enc_word] at *
    simp [t_fit_to, e1, e2, Tm.isName, Tm.isTree, q]
  · intro n hu hd k hk g h ms hg hm
    obtain ⟨k, rfl⟩ : ∃ j, k = j + 1 := ⟨k - 1, by omega⟩
    have gl : g < h.length := (List.getElem?_eq_some_iff.mp hg).1
    have e1 := r_is_name (k := k) (t := .name n) (h := h) (by simp [Tm.depth] at hk; omega) rfl
    have tk : TabK h (.r g) (idL ms) := .inr ⟨g, rfl, hg⟩
    have i1 := tab_in (n := n) tk
    rw [look_id] at i1
    rw [enc_name] at *
    by_cases q : n ∈ ms
    · rw [if_pos q] at i1
      have x := tab_ix (n := n) (u := .name n) tk (by rw [look_id, if_pos q])
      rw [enc_name] at x
      refine ⟨ms, ?_, by omega⟩
      rw [set_same hg, c_fit_to]
      simp [t_fit_to, e1, Tm.isName, ix_n1, i1, x, eq_names]
    · rw [if_neg q] at i1
      refine ⟨ms ++ [n], ?_, by simp [Tm.size]⟩
      have si : setIxM (.r g) (.d (.int n)) (.d (.tuple [.str "?", .int n])) h = .ok () (h.set g (idD (ms ++ [n]))) := by
        unfold setIxM
        have hg' : h[g]? = some (.dic ((idL ms).map eD)) := hg
        simp only [hg', keyOf]
        rw [if_pos (Nat.lt_of_lt_of_le (show ((idL ms).map eD).length < 2000 from by simp [idL]; simp [Tm.size] at hm; omega) (by decide))]
        have hn : ((idL ms).map (·.1)).contains n = false := by
          rw [show (idL ms).map (·.1) = ms from by unfold idL; rw [List.map_map]; exact List.map_id _]
          cases z : ms.contains n with
          | false => rfl
          | true => exact absurd (List.contains_iff_mem.mp z) q
        have e : putDW (.inl (n : Int)) (.d (enc (.name n))) ((idL ms).map eD) = (idL (ms ++ [n])).map eD := by
          unfold putDW
          rw [key_any, hn]
          simp [keyD, idL]
        rw [enc_name] at e
        rw [e]; rfl
      have en : endM h (.ok (.rt (.d (.bool true))) (h.set g (idD (ms ++ [n])))) = .ok (.d (.bool true)) (h.set g (idD (ms ++ [n]))) := end_set0 clos_dic gl
      rw [c_fit_to]
      simp [t_fit_to, e1, Tm.isName, ix_n1, i1, si, en]
  · intro f as ih hu hd k hk g h ms hg hm
    obtain ⟨k, rfl⟩ : ∃ j, k = j + 1 := ⟨k - 1, by omega⟩
    obtain ⟨o1, o2, o3, o4⟩ := Tm.ok_tree.mp hu
    have gl : g < h.length := (List.getElem?_eq_some_iff.mp hg).1
    simp only [Tm.depth] at hd hk
    have e1 := r_is_name (k := k) (t := .tree f as) (h := h) (by omega) hu
    have e2 := r_is_tree (k := k) (t := .tree f as) (h := h) (by omega) hu
    have hf1 : ∀ H : AH, cmp .NotEq (.d (.str f)) (.d (.str f)) H = .ok (.d (.bool false)) H := fun H => by simp [cmp, cEq, peek, sh_str o1, eqv_ss]
    have hf2 : ∀ (H : AH) (x : Int), cmp .NotEq (.d (.int x)) (.d (.int x)) H = .ok (.d (.bool false)) H := fun H x => by simp [cmp, cEq, peek, sh_int, eqv_ii]
    rw [Tm.size_tree] at hm
    obtain ⟨m2, l2, n2⟩ := fit_loop (k := k) (g := g) (w0 := .d (enc (.tree f as))) (w1 := .d (enc (.tree f as))) as (fun a ha h ms h1 h2 => ih a ha (o4 a ha) (by have := Tm.depth_le ha; omega) k (by have := Tm.depth_le ha; omega) g h ms h1 h2) h ms [] gl (by omega) (by simp; omega)
    rw [set_same hg] at l2
    have hz : zipD (as.map enc) (as.map enc) = (as.zip as).map encP := zip_encP
    have lc : eLC (.t [3, 4]) (iFun zipM (aList [eSl (mVar 0) (pSome (mC (.d (.int 1)))) pNo, eSl (mVar 1) (pSome (mC (.d (.int 1)))) pNo])) tTrue (eFt k) [some (.d (enc (.tree f as))), some (.d (enc (.tree f as))), some (.r g), none, none] h = .ok (.r h.length) (h.set g (idD m2) ++ [.lst ((as.map fun _ => PyData.bool true).map .d)]) := by
      rw [eLC_ap, show iFun zipM (aList [eSl (mVar 0) (pSome (mC (.d (.int 1)))) pNo, eSl (mVar 1) (pSome (mC (.d (.int 1)))) pNo]) [some (.d (enc (.tree f as))), some (.d (enc (.tree f as))), some (.r g), none, none] h = .ok ((as.zip as).map encP, none) h from by rw [enc_tree, ← hz]; simp [slM, cut1, zipM], mb_ok]
      show mb (cLoop h.length (.t [3, 4]) tTrue _ ((as.zip as).map encP) (wipeW _ [3, 4]) (h ++ [.lst []])) (kRef h.length) = _
      simp only [List.map_nil, List.nil_append] at l2
      rw [show wipeW [some (.d (enc (.tree f as))), some (.d (enc (.tree f as))), some (.r g), none, none] [3, 4] = [some (.d (enc (.tree f as))), some (.d (enc (.tree f as))), some (.r g), none, none] from rfl, l2]
      rfl
    have lo := (eOut_ap lc).trans (out_lt (o := idD m2) clos_dic gl)
    have en : endM h (.ok (.rt (.d (.bool true))) (h.set g (idD m2))) = .ok (.d (.bool true)) (h.set g (idD m2)) := end_set0 clos_dic gl
    refine ⟨m2, ?_, by rw [Tm.size_tree]; omega⟩
    rw [c_fit_to]
    have al : (as.map fun _ => true).all id = true := by rw [List.all_map, List.all_eq_true]; intro x _; rfl
    rw [enc_tree] at *
    simp [-eLC_ap, -List.map_map, -List.all_map, t_fit_to, e1, e2, Tm.isName, Tm.isTree, ixM, at0, hf1, hf2, fLen, ↓lo, fAll, listD, peek, boolsMap, al, en]
theorem r_alike {t : Tm} (hu : t.ok = true) (hd : t.depth ≤ 50) (hz : t.size ≤ 300) {k : Nat} (hk : t.depth + 12 ≤ k) {h : AH} : call k (pl "alike") [.d (enc t), .d (enc t)] h = .ok (.d (.bool true)) h := by
  obtain ⟨k, rfl⟩ : ∃ j, k = j + 3 := ⟨k - 3, by omega⟩
  have ft : call (k + 1) (pl "fits") [.d (enc t), .d (enc t)] h = .ok (.d (.dict (encT []))) h ∨ ∃ ds, call (k + 1) (pl "fits") [.d (enc t), .d (enc t)] h = .ok (.d (.dict ds)) h := by
    right
    have e1 := r_look_term (h := h) (t := t) (k := k) hu hz (by omega)
    obtain ⟨ms, f1, f2⟩ := r_fit t hu (by omega) k (by omega) h.length (h ++ [.dic []]) [] at_l (by simp; omega)
    rw [show (h ++ [AO.dic []]).set h.length (idD ms) = h ++ [idD ms] from by rw [List.set_append_right _ _ (Nat.le_refl _)]; simp] at f1
    have en := end_dic (h := h) (j := [idD ms]) (i := h.length) (kvs := idL ms) (Nat.le_refl _) at_l
    refine ⟨encT (idL ms), ?_⟩
    rw [c_fits]
    have ed : ∀ E : EnvW, eDict0 E h = .ok (.r h.length) (h ++ [.dic []]) := fun E => rfl
    simp [t_fits, e1, ed, f1, en]
  obtain ⟨ds, f⟩ : ∃ ds, call (k + 1) (pl "fits") [.d (enc t), .d (enc t)] h = .ok (.d (.dict ds)) h := by
    rcases ft with f | f
    · exact ⟨_, f⟩
    · exact f
  have cv : call (k + 2) (pl "covers") [.d (enc t), .d (enc t)] h = .ok (.d (.bool true)) h := by
    rw [c_covers]
    have n1 : ∀ H : AH, cmp .IsNot (.d (.dict ds)) (.d .none) H = .ok (.d (.bool true)) H := fun H => rfl
    simp [t_covers, f, n1]
  rw [c_alike]
  simp [t_alike, cv]
end Ev
set_option Elab.async false
set_option linter.all false
set_option maxRecDepth 100000
set_option maxHeartbeats 4000000
namespace Ev
open PySem PySem.Spec PyProof.Rows L2 He
def SL : AO := .lst [.r 5, .r 7]
theorem sm64 : Sm 6 4 := by unfold Sm DB; decide
theorem db64 : DB 6 4 = 33 := rfl
structure V (G : Nat → Tm) (H : AH) (f0 f1 : List (Option Tm)) (ps : List (Tm × Tm)) : Prop where
  gr : H[3]? = some (.dic ((gKn G 6).map eD))
  pr : H[4]? = some (.lst (ps.map encP))
  s0 : St H 5 6 f0
  s1 : St H 7 8 f1
  sl : H[9]? = some SL
section
variable {G : Nat → Tm} {H : AH} {f0 f1 : List (Option Tm)} {ps : List (Tm × Tm)} {k : Nat}
theorem V.len (v : V G H f0 f1 ps) : 9 < H.length := (List.getElem?_eq_some_iff.mp v.sl).1
theorem V.more (v : V G H f0 f1 ps) (l : AH) : V G (H ++ l) f0 f1 ps := by
  have := v.len
  refine ⟨?_, ?_, v.s0.app, v.s1.app, ?_⟩
  · rw [List.getElem?_append_left (by omega)]; exact v.gr
  · rw [List.getElem?_append_left (by omega)]; exact v.pr
  · rw [List.getElem?_append_left (by omega)]; exact v.sl
theorem V.set0 (v : V G H f0 f1 ps) (f : List (Option Tm)) : V G (H.set 6 (lstO f)) f f1 ps := by
  have l := v.s0.lt
  refine ⟨?_, ?_, ⟨?_, List.getElem?_set_self l.2.1⟩, v.s1.set (by decide) (by decide), ?_⟩
  · rw [List.getElem?_set_ne (by decide)]; exact v.gr
  · rw [List.getElem?_set_ne (by decide)]; exact v.pr
  · rw [List.getElem?_set_ne (by decide)]; exact v.s0.ob
  · rw [List.getElem?_set_ne (by decide)]; exact v.sl
theorem V.set1 (v : V G H f0 f1 ps) (f : List (Option Tm)) : V G (H.set 8 (lstO f)) f0 f ps := by
  have l := v.s1.lt
  refine ⟨?_, ?_, v.s0.set (by decide) (by decide), ⟨?_, List.getElem?_set_self l.2.1⟩, ?_⟩
  · rw [List.getElem?_set_ne (by decide)]; exact v.gr
  · rw [List.getElem?_set_ne (by decide)]; exact v.pr
  · rw [List.getElem?_set_ne (by decide)]; exact v.s1.ob
  · rw [List.getElem?_set_ne (by decide)]; exact v.sl
theorem ix_sl0 {H : AH} (h : H[9]? = some SL) : ixM (.r 9) (.d (.int 0)) H = .ok (.r 5) H := by
  unfold ixM SL at *
  simp only [h]
  rfl
theorem ix_sl1 {H : AH} (h : H[9]? = some SL) : ixM (.r 9) (.d (.int 1)) H = .ok (.r 7) H := by
  unfold ixM SL at *
  simp only [h]
  rfl
def swP (sw : Bool) (p : Tm × Tm) : Tm × Tm := if sw then (p.2, p.1) else p
theorem tells_g {i j : Nat} {b : MS} {sw : Bool} {w0 w1 w2 w3 w4 w5 w6 w7 w8 w11 w12 w13 : Option W} (ij : i ≠ j) (n9 : j ≠ 9) (hk : 50 ≤ k)
    (hb : ∀ (p : Tm × Tm) (H H' : AH) (f : List (Option Tm)), H[9]? = some SL → St H i j f → call k ("Store", "tell") [.r i, .d (enc (swP sw p).1), .d (enc (swP sw p).2)] H = .ok (.d .none) H' → b [w0, w1, w2, w3, w4, w5, w6, w7, w8, some (.d (enc p.1)), some (.d (enc p.2)), w11, w12, w13] H = .ok (.nx [w0, w1, w2, w3, w4, w5, w6, w7, w8, some (.d (enc p.1)), some (.d (enc p.2)), w11, w12, w13]) H') :
    ∀ (qs : List (Tm × Tm)) (H : AH) (f : List (Option Tm)) (x9 x10 : Option W), (∀ p ∈ qs, Pr G p) → GS 6 4 f → St H i j f → H[9]? = some SL → Sol (bd f) (θG G) →
    ∃ f' y9 y10, floop (.t [9, 10]) b (qs.map encP) [w0, w1, w2, w3, w4, w5, w6, w7, w8, x9, x10, w11, w12, w13] H = .ok (.nx [w0, w1, w2, w3, w4, w5, w6, w7, w8, y9, y10, w11, w12, w13]) (H.set j (lstO f')) ∧ GS 6 4 f' ∧ Sol (bd f') (θG G) ∧ ∀ θ, Sol (bd f') θ ↔ Sol (bd f) θ ∧ Alls θ qs
  | [], H, f, x9, x10, _, g, s, _, so => ⟨f, x9, x10, by rw [set_same s.ls]; rfl, g, so, fun θ => by simp [Alls]⟩
  | p :: qs, H, f, x9, x10, hp, g, s, h9, so => by
    have P := hp p (by simp)
    obtain ⟨l1, l2, l3⟩ := s.lt
    have e : (swP sw p).1.app (θG G) = (swP sw p).2.app (θG G) := by
      unfold swP; split
      · exact P.eq.symm
      · exact P.eq
    have t1 : TG 6 4 (swP sw p).1 := by unfold swP; split; exact P.t2; exact P.t1
    have t2 : TG 6 4 (swP sw p).2 := by unfold swP; split; exact P.t1; exact P.t2
    have z1 : (swP sw p).1.size ≤ 300 := by unfold swP; split; exact P.z2; exact P.z1
    have z2 : (swP sw p).2.size ≤ 300 := by unfold swP; split; exact P.z1; exact P.z2
    have db := db64
    rcases r_tell (k := k) sm64 g t1 t2 z1 z2 s (by omega) (by omega) with ⟨f1, c1, p1, p2⟩ | ⟨junk, c1, p1⟩
    · have bb := hb p H _ f h9 s c1
      have s' : St (H.set j (lstO f1)) i j f1 := ⟨by rw [List.getElem?_set_ne (Ne.symm l3)]; exact s.ob, List.getElem?_set_self l2⟩
      obtain ⟨f2, y9, y10, r1, r2, r3, r4⟩ := tells_g ij n9 hk hb qs (H.set j (lstO f1)) f1 (some (.d (enc p.1))) (some (.d (enc p.2))) (fun q hq => hp q (by simp [hq])) p1 s' (by rw [List.getElem?_set_ne n9]; exact h9) ((p2 _).mpr ⟨so, e⟩)
      refine ⟨f2, y9, y10, ?_, r2, r3, fun θ => ?_⟩
      · rw [List.map_cons, floop_c (e1 := [w0, w1, w2, w3, w4, w5, w6, w7, w8, some (.d (enc p.1)), some (.d (enc p.2)), w11, w12, w13]) rfl, bb, mb_ok, kLoop_nx, r1, List.set_set]
      · have sw' : (swP sw p).1.app θ = (swP sw p).2.app θ ↔ p.1.app θ = p.2.app θ := by
          unfold swP; split
          · exact eq_comm
          · exact Iff.rfl
        rw [r4 θ, p2 θ, sw', and_assoc]
        simp [Alls]
    · exact absurd e (p1 _ so)
end
end Ev
set_option Elab.async false
set_option linter.all false
set_option maxRecDepth 100000
set_option maxHeartbeats 4000000
namespace Ev
open PySem PySem.Spec PyProof.Rows L2 He
def nm6 : List Tm := (List.range 6).map Tm.name
def v6 (f : List (Option Tm)) : List Tm := nm6.map (val f)
theorem nm6_lt {t : Tm} (h : t ∈ nm6) : ∃ n, n < 6 ∧ t = .name n := by
  obtain ⟨n, hn, rfl⟩ := List.mem_map.mp h
  exact ⟨n, List.mem_range.mp hn, rfl⟩
/-! ### what the ground says of values -/
theorem val_ground {G : Nat → Tm} {f : List (Option Tm)} (so : Sol (bd f) (θG G)) {n : Nat} (hn : n < 6) : (val f (.name n)).app (θG G) = G n := by
  rw [val_eq so]; simp [θG, hn]
theorem val_small {G : Nat → Tm} (hG : Gd G) {f : List (Option Tm)} (g : GS 6 4 f) (so : Sol (bd f) (θG G)) {n : Nat} (hn : n < 6) : (val f (.name n)).size ≤ 16 ∧ (val f (.name n)).depth ≤ 3 ∧ (val f (.name n)).ok = true := by
  have e := val_ground so hn
  have h1 := size_app_ge (σ := θG G) (val f (.name n))
  have h2 := depth_app_ge (σ := θG G) (val f (.name n))
  rw [e] at h1 h2
  have h3 := (hG.dr n hn).sz
  have h4 := (hG.dr n hn).dp
  exact ⟨by simpa using Nat.le_trans h1 h3, by omega, val_ok g rfl⟩
theorem cut_nat {α : Type} {xs : List α} {a b : Nat} : cutL xs (some (a : Int)) (some (b : Int)) = (xs.drop (min a xs.length)).take (min b xs.length - min a xs.length) := by
  unfold cutL
  rw [HT.sIx_nat, HT.sIx_nat]
theorem cut_to {α : Type} {xs : List α} {b : Nat} : cutL xs none (some (b : Int)) = xs.take (min b xs.length) := by
  unfold cutL
  rw [HT.sIx_nat, HT.sIx_none]
  simp
section
variable {G : Nat → Tm} {H : AH} {f0 f1 : List (Option Tm)} {ps : List (Tm × Tm)} {k : Nat} {w0 w1 w2 w3 w4 w5 w7 w8 w9 w10 w11 w12 w13 : Option W}
/-- the values of a store's names, as a tuple -/
noncomputable abbrev eV (k : Nat) (x : ME) : ME := eLC (.n 13) (iVal (mVar 6)) tTrue (eMeth TT (call k) "value" x (aList [mVar 13]))
theorem r_eV {i j : Nat} {f : List (Option Tm)} {env0 : EnvW} {x : ME} (hk : 50 ≤ k) (s : St H i j f) (g : GS 6 4 f) (h6 : ∀ h, mVar 6 env0 h = .ok (.d (.tuple (nm6.map enc))) h) (hx : ∀ y (l : AH), x (env0.set 13 y) (H ++ l) = .ok (.r i) (H ++ l)) (hv : ∀ w (h : AH), mVar 13 (env0.set 13 (some w)) h = .ok w h) :
    eOut (eV k x) env0 H = .ok (.d (.list ((v6 f).map enc))) H := by
  have db := db64
  refine (lcD_map (as := nm6) (fun t => W.d (enc t)) (fun t => enc (val f t)) (by simp [h6, srcM]) (by simp [nm6]) ?_).trans ?_
  · intro t ht
    refine ⟨_, rfl, fun acc => ⟨rfl, ?_⟩⟩
    obtain ⟨n, hn, rfl⟩ := nm6_lt ht
    have s' : St (H ++ [.lst acc]) i j f := s.app
    have me := fun as => l_meth (CM := call k) (a := as) m_value s'
    have v := r_value (k := k) g (t := .name n) (tg_name hn) (by simp [Tm.size]) (by simp [Tm.depth]; omega) (by show DB 6 4 + 6 ≤ k; omega) s' (by omega)
    show eMeth TT (call k) "value" x (aList [mVar 13]) ((env0.set 13 none).set 13 (some _)) _ = _
    rw [List.set_set, eMeth_ap, hx, mb_ok, kM_ap, me, aList_cons, hv, mb_ok, kL1_ap, aList_nil, mb_ok, kL2_ap, mb_ok, v]
  · simp [v6, Function.comp_def]
noncomputable abbrev eVs (k : Nat) : ME := eLC (.n 12) (iVal (mVar 5)) tTrue (eFun fTuple (aList [eOut (eV k (mVar 12))]))
theorem r_vals (v : V G H f0 f1 ps) (hk : 50 ≤ k) (g0 : GS 6 4 f0) (g1 : GS 6 4 f1) :
    eVs k [w0, w1, w2, w3, w4, some (.r 9), some (.d (.tuple (nm6.map enc))), w7, w8, w9, w10, w11, w12, w13] H = .ok (.r H.length) (H ++ [.lst ([.tuple ((v6 f0).map enc), .tuple ((v6 f1).map enc)].map .d)]) := by
  have sl : H[9]? = some (.lst ([(5, 6, f0), (7, 8, f1)].map fun x : Nat × Nat × List (Option Tm) => W.r x.1)) := v.sl
  have := lcA_lock (t := .n 12) (mi := iVal (mVar 5)) (tt := tTrue) (el := eFun fTuple (aList [eOut (eV k (mVar 12))])) (env := [w0, w1, w2, w3, w4, some (.r 9), some (.d (.tuple (nm6.map enc))), w7, w8, w9, w10, w11, w12, w13]) (h0 := H) (h := H) (as := [(5, 6, f0), (7, 8, f1)]) (p := fun x : Nat × Nat × List (Option Tm) => W.r x.1) (q := fun x => W.d (.tuple ((v6 x.2.2).map enc))) (i := 9) (by simp [srcM, v.sl, SL]) sl (by simp) fun x hx => by
    refine ⟨_, rfl, fun acc => ⟨rfl, ?_⟩⟩
    obtain ⟨s', g'⟩ : St (H.set 9 .dead ++ [.lst acc]) x.1 x.2.1 x.2.2 ∧ GS 6 4 x.2.2 := by
      rcases List.mem_cons.mp hx with e | e
      · subst e; exact ⟨(v.s0.set (by decide) (by decide)).app, g0⟩
      · obtain rfl : x = (7, 8, f1) := by simpa using e
        exact ⟨(v.s1.set (by decide) (by decide)).app, g1⟩
    have e := r_eV (x := mVar 12) (env0 := [w0, w1, w2, w3, w4, some (.r 9), some (.d (.tuple (nm6.map enc))), w7, w8, w9, w10, w11, some (.r x.1), w13]) hk s' g' (fun h => rfl) (fun y l => rfl) (fun w h => rfl)
    show eFun fTuple (aList [eOut (eV k (mVar 12))]) [w0, w1, w2, w3, w4, some (.r 9), some (.d (.tuple (nm6.map enc))), w7, w8, w9, w10, w11, some (.r x.1), w13] _ = _
    rw [eFun_ap, aList_cons, e, mb_ok, kL1_ap, aList_nil, mb_ok, kL2_ap, mb_ok]
    simp [fTuple, listD, peek]
  rw [show eVs k = eLC (.n 12) (iVal (mVar 5)) tTrue (eFun fTuple (aList [eOut (eV k (mVar 12))])) from rfl, this]
  simp
end
end Ev
set_option Elab.async false
set_option linter.all false
set_option maxRecDepth 100000
set_option maxHeartbeats 4000000
namespace Ev
open PySem PySem.Spec PyProof.Rows L2 He
theorem isWf : isW "f" = true := by decide +kernel
abbrev fT6 (as : List Tm) : Tm := .tree "f" as
theorem bf6 {as : List Tm} (h4 : as.length ≤ 4) (H : AH) : bop .Add (.d (.tuple [.str "f"])) (.d (.tuple (as.map enc))) H = .ok (.d (enc (fT6 as))) H := by
  have sz2 : 1 + as.length ≤ sizeLine := Nat.le_trans (show 1 + as.length ≤ 100 by omega) (by decide)
  unfold fT6
  rw [enc_tree]
  simp [bop, bAdd, sz2]
theorem loop_const {b : MS} {E : Option W → EnvW} {H : AH} (hE : ∀ x y, (E x).set 3 (some y) = E (some y)) : ∀ (ws : List W), (∀ w ∈ ws, b (E (some w)) H = .ok (.nx (E (some w))) H) → ∀ x, ∃ y, floop (.n 3) b ws (E x) H = .ok (.nx (E y)) H
  | [], _, x => ⟨x, rfl⟩
  | w :: ws, h, x => by
    obtain ⟨y, e⟩ := loop_const hE ws (fun u hu => h u (by simp [hu])) (some w)
    refine ⟨y, ?_⟩
    rw [floop_n, hE, h w (by simp), mb_ok, kLoop_nx]
    exact e
theorem range_mem {w : W} {m : Nat} (h : w ∈ rangeL 0 m) : ∃ n : Nat, n < m ∧ w = .d (.int n) := by
  unfold rangeL at h
  obtain ⟨n, hn, rfl⟩ := List.mem_map.mp h
  exact ⟨n, List.mem_range.mp hn, by simp⟩
section
variable {G : Nat → Tm} {H : AH} {f0 f1 : List (Option Tm)} {ps : List (Tm × Tm)} {k x : Nat} {w0 w1 w3 w4 w5 w6 w8 w9 w10 w11 w12 w13 : Option W}
theorem v6_len {f : List (Option Tm)} : (v6 f).length = 6 := by simp [v6, nm6]
theorem v6_at {f : List (Option Tm)} {n : Nat} (hn : n < 6) : (v6 f)[n]? = some (val f (.name n)) := by
  unfold v6 nm6
  rw [List.getElem?_map, List.getElem?_map, List.getElem?_range hn]; rfl
theorem fill_v6 {f : List (Option Tm)} (so : Sol (bd f) (θG G)) : (v6 f).map (Tm.app (θG G)) = (List.range 6).map G := by
  unfold v6 nm6
  rw [List.map_map, List.map_map]
  exact List.map_congr_left fun n hn => val_ground so (List.mem_range.mp hn)
theorem v6_ok (hG : Gd G) {f : List (Option Tm)} (g : GS 6 4 f) (so : Sol (bd f) (θG G)) : ∀ t ∈ v6 f, t.size ≤ 16 ∧ t.depth ≤ 3 ∧ t.ok = true := fun t ht => by
  obtain ⟨u, hu, rfl⟩ := List.mem_map.mp ht
  obtain ⟨n, hn, rfl⟩ := nm6_lt hu
  exact val_small hG g so hn
theorem fT_ok {l : List Tm} (h : ∀ t ∈ l, t.size ≤ 16 ∧ t.depth ≤ 3 ∧ t.ok = true) (h1 : 1 ≤ l.length) (h4 : l.length ≤ 4) : (fT6 l).ok = true ∧ (fT6 l).depth ≤ 4 ∧ (fT6 l).size ≤ 65 := by
  refine ⟨Tm.ok_tree.mpr ⟨isWf, h1, h4, fun a ha => (h a ha).2.2⟩, ?_, ?_⟩
  · have := Tm.depthL_le (as := l) (n := 3) fun a ha => (h a ha).2.1
    simp only [fT6, Tm.depth]; omega
  · have : ∀ l : List Tm, (∀ t ∈ l, t.size ≤ 16) → (l.map Tm.size).sum ≤ l.length * 16 := by
      intro l
      induction l with
      | nil => intro _; simp
      | cons a l ih =>
        intro h
        have h1 := h a (by simp)
        have h2 := ih fun t ht => h t (by simp [ht])
        simp only [List.map_cons, List.sum_cons, List.length_cons]
        omega
    have := this l fun t ht => (h t ht).1
    unfold fT6
    rw [Tm.size_tree]; omega
theorem ix_vs {ds es : List PyData} (hx : H[x]? = some (.lst ([.tuple ds, .tuple es].map .d))) : ixM (.r x) (.d (.int 0)) H = .ok (.d (.tuple ds)) H ∧ ixM (.r x) (.d (.int 1)) H = .ok (.d (.tuple es)) H := by
  constructor
  · unfold ixM
    simp only [hx]
    rfl
  · unfold ixM
    simp only [hx]
    rfl
theorem r_gr {m : Nat} (v : V G H f0 f1 ps) (hm : m ≤ 6) (s : Nat) {env0 : EnvW} (h2 : ∀ y (h : AH), mVar 2 (env0.set s y) h = .ok (.r 3) h) (hs : ∀ w (h : AH), mVar s (env0.set s (some w)) h = .ok w h) :
    eOut (eLC (.n s) (iFun rng1 (aList [mC (.d (.int m))])) tTrue (eIx (mVar 2) (mVar s))) env0 H = .ok (.d (.list ((List.range m).map fun n => enc (G n)))) H := by
  have rg := r_rng1 (m := m) (h := H) (by omega)
  refine lcD_map (as := List.range m) (fun n => W.d (.int (0 + (n : Int)))) (fun n => enc (G n)) (by simpa [rangeL] using rg) (by simp; omega) ?_
  intro n hn
  have hn := List.mem_range.mp hn
  refine ⟨_, rfl, fun acc => ⟨rfl, ?_⟩⟩
  have tk : TabK (H ++ [.lst acc]) (.r 3) (gKn G 6) := TabK.app (.inr ⟨3, rfl, v.gr⟩)
  have ix := tab_ix (n := n) (u := G n) tk (by rw [look_gK, if_pos (by omega)])
  show eIx (mVar 2) (mVar s) ((env0.set s none).set s (some _)) _ = _
  rw [List.set_set, eIx_ap, h2, mb_ok, kA_ap, hs, mb_ok]
  simpa using ix
theorem row10 (v : V G H f0 f1 ps) (hk : 50 ≤ k) (hG : Gd G) (g0 : GS 6 4 f0) (so : Sol (bd f0) (θG G)) {es : List PyData} (hx : H[x]? = some (.lst ([.tuple ((v6 f0).map enc), .tuple es].map .d))) :
    sIf (tst (eCmp .NotEq (eCall (call k) (pl "_law_fill") (aList [eBin .Add (eTup (aList [mC (.d (.str "f"))])) (eSl (eIx (mVar 7) (mC (.d (.int 0)))) pNo (pSome (mC (.d (.int 4))))), mVar 2])) (eBin .Add (eTup (aList [mC (.d (.str "f"))])) (eFun fTuple (aList [eOut (eLC (.n 11) (iFun rng1 (aList [mC (.d (.int 4))])) tTrue (eIx (mVar 2) (mVar 11)))]))))) (sBlock [sRet (mC (.d (.bool false)))]) (sBlock []) [w0, w1, some (.r 3), w3, w4, w5, w6, some (.r x), w8, w9, w10, w11, w12, w13] H = .ok (.nx [w0, w1, some (.r 3), w3, w4, w5, w6, some (.r x), w8, w9, w10, w11, w12, w13]) H := by
  have i0 := (ix_vs hx).1
  have sz1 : (1 : Nat) ≤ sizeLine := by decide
  have k1 : ∀ H : AH, kTup [.d (.str "f")] H = .ok (.d (.tuple [.str "f"])) H := fun H => by simp [kTup, allD, sz1]
  have ct : cutL ((v6 f0).map enc) none (some 4) = ((v6 f0).take 4).map enc := by
    rw [show (4 : Int) = ((4 : Nat) : Int) from rfl, cut_to]
    simp [v6_len]
  have l4 : ((v6 f0).take 4).length = 4 := by simp [v6_len]
  have b1 := bf6 (as := (v6 f0).take 4) (by omega) H
  obtain ⟨o1, o2, o3⟩ := fT_ok (l := (v6 f0).take 4) (fun t ht => v6_ok hG g0 so t (List.mem_of_mem_take ht)) (by omega) (by omega)
  have fl := l_fill (w := .r 3) (kvs := gKn G 6) (fT6 ((v6 f0).take 4)) o1 k (by omega) H (.inr ⟨3, rfl, v.gr⟩)
  have ea : (fT6 ((v6 f0).take 4)).app (fillS (gKn G 6)) = fT6 ((List.range 4).map G) := by
    unfold fT6
    rw [fill_gK, Tm.app_tree, List.map_take, fill_v6 so]
    rfl
  rw [ea] at fl
  have gr := r_gr (m := 4) v (by decide) 11 (env0 := [w0, w1, some (.r 3), w3, w4, w5, w6, some (.r x), w8, w9, w10, w11, w12, w13]) (fun y h => rfl) (fun w h => rfl)
  have ft : fTuple [.d (.list ((List.range 4).map fun n => enc (G n)))] H = .ok (.d (.tuple (((List.range 4).map G).map enc))) H := by simp [fTuple, listD, peek]
  have b2 := bf6 (as := (List.range 4).map G) (by simp) H
  obtain ⟨p1, p2, p3⟩ := fT_ok (l := (List.range 4).map G) (fun t ht => by
    obtain ⟨n, hn, rfl⟩ := List.mem_map.mp ht
    have hn := List.mem_range.mp hn
    have q := hG.dr n (by omega)
    exact ⟨by simpa using q.sz, q.dp, q.ok⟩) (by simp) (by simp)
  have ne := ne_enc (h := H) p1 p1 (by omega) (by omega)
  rw [decide_eq_true rfl] at ne
  obtain ⟨A, eA⟩ : ∃ A, A = enc (fT6 ((v6 f0).take 4)) := ⟨_, rfl⟩
  obtain ⟨B, eB⟩ : ∃ B, B = enc (fT6 ((List.range 4).map G)) := ⟨_, rfl⟩
  rw [← eA] at b1 fl
  rw [← eB] at fl b2 ne
  have ss : ∀ ds : List PyData, slM (.d (.tuple ds)) none (some 4) H = .ok (.d (.tuple (cutL ds none (some 4)))) H := fun ds => rfl
  simp only [sIf_ap, tst_ap, eCmp_ap, eCall_ap, aList_cons, aList_nil, eBin_ap, eTup_ap, mC_ap, mb_ok, kL1_ap, kL2_ap, k1, kA_ap, eSl_ap, eIx_ap, mVar_s, mVar_0, i0, kS0_ap, pNo_ap, kS1_ap, pSome_ap, kSo_ap, asI_ap, kS2_ap, ss, ct, b1, fl, eFun_ap, show eOut (eLC (.n 11) (iFun rng1 (aList [mC (.d (.int 4))])) tTrue (eIx (mVar 2) (mVar 11))) [w0, w1, some (.r 3), w3, w4, w5, w6, some (.r x), w8, w9, w10, w11, w12, w13] H = _ from gr, ft, b2, ne, asB_ap', kIf_f, Bool.not_true, sBlock_nil]
end
end Ev
set_option Elab.async false
set_option linter.all false
set_option maxRecDepth 100000
set_option maxHeartbeats 4000000
namespace Ev
open PySem PySem.Spec PyProof.Rows L2 He
noncomputable abbrev b11 (k : Nat) : MS := sBlock [sIf (tst (eCmp .NotEq (eCall (call k) (pl "_law_fill") (aList [eIx (eIx (mVar 7) (mC (.d (.int 0)))) (mVar 3), mVar 2])) (eIx (mVar 2) (mVar 3)))) (sBlock [sRet (mC (.d (.bool false)))]) (sBlock []), sIf (tst (eCmp .IsNot (eCall (call k) (pl "alike") (aList [eBin .Add (eTup (aList [mC (.d (.str "f"))])) (eSl (eIx (mVar 7) (mC (.d (.int 0)))) (pSome (mVar 3)) (pSome (eBin .Add (mVar 3) (mC (.d (.int 2)))))), eBin .Add (eTup (aList [mC (.d (.str "f"))])) (eSl (eIx (mVar 7) (mC (.d (.int 1)))) (pSome (mVar 3)) (pSome (eBin .Add (mVar 3) (mC (.d (.int 2))))))])) (mC (.d (.bool true))))) (sBlock [sRet (mC (.d (.bool false)))]) (sBlock [])]
section
variable {G : Nat → Tm} {H : AH} {f0 f1 : List (Option Tm)} {ps : List (Tm × Tm)} {k x : Nat} {w0 w1 w4 w5 w6 w8 w9 w10 w11 w12 w13 : Option W}
theorem at_v6 {f : List (Option Tm)} {n : Nat} (hn : n < 6) (H : AH) : ixM (.d (.tuple ((v6 f).map enc))) (.d (.int n)) H = .ok (.d (enc (val f (.name n)))) H := by
  have e : atI ((v6 f).map enc) (n : Int) = some (enc (val f (.name n))) := by
    rw [atI_get (by omega) (by simp [v6_len]; omega)]
    simp [v6_at hn]
  unfold ixM
  simp only [e]
theorem row11 (v : V G H f0 f1 ps) (hk : 50 ≤ k) (hG : Gd G) (g0 : GS 6 4 f0) (so : Sol (bd f0) (θG G)) (hx : H[x]? = some (.lst ([.tuple ((v6 f0).map enc), .tuple ((v6 f0).map enc)].map .d))) {n : Nat} (hn : n < 6) :
    b11 k [w0, w1, some (.r 3), some (.d (.int n)), w4, w5, w6, some (.r x), w8, w9, w10, w11, w12, w13] H = .ok (.nx [w0, w1, some (.r 3), some (.d (.int n)), w4, w5, w6, some (.r x), w8, w9, w10, w11, w12, w13]) H := by
  obtain ⟨i0, i1⟩ := ix_vs hx
  have sz1 : (1 : Nat) ≤ sizeLine := by decide
  have k1 : ∀ H : AH, kTup [.d (.str "f")] H = .ok (.d (.tuple [.str "f"])) H := fun H => by simp [kTup, allD, sz1]
  have an := at_v6 (f := f0) hn H
  obtain ⟨z1, z2, z3⟩ := val_small hG g0 so hn
  have tk : TabK H (.r 3) (gKn G 6) := .inr ⟨3, rfl, v.gr⟩
  have fl := l_fill (w := .r 3) (kvs := gKn G 6) (val f0 (.name n)) z3 k (by omega) H tk
  rw [fill_gK, val_ground so hn] at fl
  have ix := tab_ix (n := n) (u := G n) tk (by rw [look_gK, if_pos hn])
  have gn := hG.dr n hn
  have ne := ne_enc (h := H) gn.ok gn.ok (by have := gn.dp; omega) (by have := gn.dp; omega)
  rw [decide_eq_true rfl] at ne
  obtain ⟨sl, esl⟩ : ∃ sl, sl = ((v6 f0).drop (min n 6)).take (min (n + 2) 6 - min n 6) := ⟨_, rfl⟩
  have ct : cutL ((v6 f0).map enc) (some (n : Int)) (some ((n : Int) + 2)) = sl.map enc := by
    rw [show (n : Int) + 2 = ((n + 2 : Nat) : Int) from by omega, cut_nat, List.length_map, v6_len, esl, List.map_take, List.map_drop]
  have ls : 1 ≤ sl.length ∧ sl.length ≤ 2 := by rw [esl]; simp [v6_len]; omega
  have ms : ∀ t ∈ sl, t ∈ v6 f0 := fun t ht => by rw [esl] at ht; exact List.mem_of_mem_drop (List.mem_of_mem_take ht)
  obtain ⟨o1, o2, o3⟩ := fT_ok (l := sl) (fun t ht => v6_ok hG g0 so t (ms t ht)) (by omega) (by omega)
  have b1 := bf6 (as := sl) (by omega) H
  have al := r_alike (t := fT6 sl) o1 (by omega) (by omega) (k := k) (by omega) (h := H)
  obtain ⟨A, eA⟩ : ∃ A, A = enc (fT6 sl) := ⟨_, rfl⟩
  rw [← eA] at b1 al
  obtain ⟨C, eC⟩ : ∃ C, C = enc (val f0 (.name n)) := ⟨_, rfl⟩
  rw [← eC] at an fl
  obtain ⟨D, eD'⟩ : ∃ D, D = enc (G n) := ⟨_, rfl⟩
  rw [← eD'] at fl ix ne
  have ss : ∀ ds : List PyData, slM (.d (.tuple ds)) (some (n : Int)) (some ((n : Int) + 2)) H = .ok (.d (.tuple (cutL ds (some (n : Int)) (some ((n : Int) + 2))))) H := fun ds => rfl
  have itt : ∀ H : AH, cmp .IsNot (.d (.bool true)) (.d (.bool true)) H = .ok (.d (.bool false)) H := fun H => rfl
  have ba : bop .Add (.d (.int n)) (.d (.int 2)) H = .ok (.d (.int ((n : Int) + 2))) H := by simp [bop, bAdd]
  unfold b11
  simp only [sBlock_two, sBlock_one, fnext_nx, sIf_ap, tst_ap, eCmp_ap, eCall_ap, aList_cons, aList_nil, eBin_ap, eTup_ap, mC_ap, mb_ok, kL1_ap, kL2_ap, k1, kA_ap, eSl_ap, eIx_ap, mVar_s, mVar_0, i0, i1, an, fl, ix, ne, asB_ap', kIf_f, Bool.not_true, sBlock_nil, kS0_ap, kS1_ap, pSome_ap, kSo_ap, asI_ap, kS2_ap, ba, ss, ct, b1, al, itt]
/-! ### what was spoken of -/
noncomputable abbrev b12 (k : Nat) : MS := sBlock [sSet 8 (eBin .Add (eBin .Add (mVar 8) (eCall (call k) (pl "_law_names") (aList [mVar 9]))) (eCall (call k) (pl "_law_names") (aList [mVar 10])))]
theorem bAdd_LI {H : AH} {i : Nat} {a b : List Int} (h1 : H[i]? = some (LI a)) (hl : a.length + b.length ≤ 100000) : bop .Add (.r i) (.d (dI b)) H = .ok (.r H.length) (H ++ [LI (a ++ b)]) := by
  show bAdd (.r i) (.d (.list (b.map PyData.int))) H = _
  unfold bAdd
  have h1' : H[i]? = some (.lst ((a.map PyData.int).map .d)) := h1
  simp only [h1']
  rw [if_pos (Nat.le_trans (show ((a.map PyData.int).map W.d).length + (b.map PyData.int).length ≤ 100000 from by simpa using hl) (by decide))]
  simp [LI]
theorem nms_len {t : Tm} {ns : List Int} (M : Nms 6 (fun n => t.has n) ns) : ns.length ≤ 6 := nd_len M.nd M.lo
theorem row12 (hk : 50 ≤ k) {w2 w3 w5 w6 w7 : Option W} : ∀ (qs : List (Tm × Tm)) (H : AH) (sp : List Int) (l : Nat) (x9 x10 : Option W), (∀ p ∈ qs, Pr G p) → H[l]? = some (LI sp) → sp.length + 12 * qs.length ≤ 10000 →
    ∃ J l' sp' y9 y10, floop (.t [9, 10]) (b12 k) (qs.map encP) [w0, w1, w2, w3, w4, w5, w6, w7, some (.r l), x9, x10, w11, w12, w13] H = .ok (.nx [w0, w1, w2, w3, w4, w5, w6, w7, some (.r l'), y9, y10, w11, w12, w13]) (H ++ J) ∧ (H ++ J)[l']? = some (LI sp') ∧ (∀ n ∈ sp, n ∈ sp') ∧ ∀ p ∈ qs, ∀ n : Nat, (p.1.has n = true ∨ p.2.has n = true) → (n : Int) ∈ sp'
  | [], H, sp, l, x9, x10, _, hl, _ => ⟨[], l, sp, x9, x10, by simp, by simpa using hl, fun n h => h, fun p h => by cases h⟩
  | p :: qs, H, sp, l, x9, x10, hp, hl, hs => by
    have P := hp p (by simp)
    simp only [List.length_cons] at hs
    obtain ⟨n1, e1, M1⟩ := l_names (N := 6) (by decide) p.1 P.t1.ok P.t1.nm k (by have := P.t1.dp; omega) H
    have d1 := nms_len M1
    have a1 := bAdd_LI (b := n1) hl (by omega)
    obtain ⟨n2, e2, M2⟩ := l_names (N := 6) (by decide) p.2 P.t2.ok P.t2.nm k (by have := P.t2.dp; omega) (H ++ [LI (sp ++ n1)])
    have d2 := nms_len M2
    have hl2 : (H ++ [LI (sp ++ n1)])[H.length]? = some (LI (sp ++ n1)) := by simp
    have a2 := bAdd_LI (b := n2) hl2 (by simp; omega)
    have hl3 : (H ++ [LI (sp ++ n1)] ++ [LI (sp ++ n1 ++ n2)])[(H ++ [LI (sp ++ n1)]).length]? = some (LI (sp ++ n1 ++ n2)) := by simp
    obtain ⟨J, l', sp', y9, y10, r1, r2, r3, r4⟩ := row12 hk qs (H ++ [LI (sp ++ n1)] ++ [LI (sp ++ n1 ++ n2)]) (sp ++ n1 ++ n2) _ (some (.d (enc p.1))) (some (.d (enc p.2))) (fun q hq => hp q (by simp [hq])) hl3 (by simp; omega)
    refine ⟨[LI (sp ++ n1), LI (sp ++ n1 ++ n2)] ++ J, l', sp', y9, y10, ?_, ?_, fun n hn => r3 n (by simp [hn]), fun q hq n hn => ?_⟩
    · rw [List.map_cons, floop_c (e1 := [w0, w1, w2, w3, w4, w5, w6, w7, some (.r l), some (.d (enc p.1)), some (.d (enc p.2)), w11, w12, w13]) rfl]
      have hb : b12 k [w0, w1, w2, w3, w4, w5, w6, w7, some (.r l), some (.d (enc p.1)), some (.d (enc p.2)), w11, w12, w13] H = .ok (.nx [w0, w1, w2, w3, w4, w5, w6, w7, some (.r (H ++ [LI (sp ++ n1)]).length), some (.d (enc p.1)), some (.d (enc p.2)), w11, w12, w13]) (H ++ [LI (sp ++ n1)] ++ [LI (sp ++ n1 ++ n2)]) := by
        unfold b12
        simp only [sBlock_one, sSet_ap, eBin_ap, mVar_s, mVar_0, mb_ok, kA_ap, eCall_ap, aList_cons, aList_nil, kL1_ap, kL2_ap, e1, a1, e2, a2, kSet_ap]
        rfl
      rw [hb, mb_ok, kLoop_nx, r1]
      simp
    · rw [show H ++ ([LI (sp ++ n1), LI (sp ++ n1 ++ n2)] ++ J) = H ++ [LI (sp ++ n1)] ++ [LI (sp ++ n1 ++ n2)] ++ J from by simp]
      exact r2
    · rcases List.mem_cons.mp hq with e | e
      · subst e
        refine r3 n ?_
        rcases hn with hn | hn
        · simp [(M1.iff n).mpr hn]
        · simp [(M2.iff n).mpr hn]
      · exact r4 q e n hn
end
end Ev
set_option Elab.async false
set_option linter.all false
set_option maxRecDepth 100000
set_option maxHeartbeats 4000000
namespace Ev
open PySem PySem.Spec PyProof.Rows L2 He
noncomputable abbrev b13 (k : Nat) : MS := sBlock [sIf (tAndM (tst (eCmp .NotIn (mVar 3) (mVar 8))) (tst (eCmp .NotEq (eIx (eIx (mVar 7) (mC (.d (.int 0)))) (mVar 3)) (eTup (aList [mC (.d (.str "?")), mVar 3]))))) (sBlock [sRet (mC (.d (.bool false)))]) (sBlock [])]
noncomputable abbrev b14 (k : Nat) : MS := sBlock [sExpr (eMeth TT (call k) "tell" (eIx (mVar 5) (mC (.d (.int 0)))) (aList [eTup (aList [mC (.d (.str "?")), mVar 3]), eIx (mVar 2) (mVar 3)]))]
section
variable {G : Nat → Tm} {H : AH} {f0 f1 : List (Option Tm)} {ps : List (Tm × Tm)} {k x l : Nat} {w0 w1 w2 w4 w5 w6 w7 w8 w9 w10 w11 w12 w13 : Option W}
theorem free_val {f : List (Option Tm)} (g : GS 6 4 f) (hs : ∀ θ, Sol (bd f) θ ↔ Alls θ ps) {n : Nat} (hn : ∀ p ∈ ps, p.1.has n = false ∧ p.2.has n = false) : val f (.name n) = .name n :=
  val_free (sol_free g.toGood fun θ u q => by rw [hs] at q ⊢; exact (alls_upd hn).mpr q)
theorem row13 {es : List PyData} {sp : List Int} (hx : H[x]? = some (.lst ([.tuple ((v6 f0).map enc), .tuple es].map .d))) (hl : H[l]? = some (LI sp)) (g0 : GS 6 4 f0) (hs : ∀ θ, Sol (bd f0) θ ↔ Alls θ ps) (hsp : ∀ p ∈ ps, ∀ n : Nat, (p.1.has n = true ∨ p.2.has n = true) → (n : Int) ∈ sp) {n : Nat} (hn : n < 6) :
    b13 k [w0, w1, w2, some (.d (.int n)), w4, w5, w6, some (.r x), some (.r l), w9, w10, w11, w12, w13] H = .ok (.nx [w0, w1, w2, some (.d (.int n)), w4, w5, w6, some (.r x), some (.r l), w9, w10, w11, w12, w13]) H := by
  have i0 := (ix_vs hx).1
  have an := at_v6 (f := f0) hn H
  have ni : cmp .NotIn (.d (.int n)) (.r l) H = .ok (.d (.bool (!sp.contains (n : Int)))) H := in_LI (neg := true) hl
  have sz : (2 : Nat) ≤ sizeLine := by decide
  have kt : ∀ H : AH, kTup [.d (.str "?"), .d (.int n)] H = .ok (.d (.tuple [.str "?", .int n])) H := fun H => by simp [kTup, allD, sz]
  unfold b13
  cases q : sp.contains (n : Int) with
  | true =>
    rw [q] at ni
    simp only [sBlock_one, sIf_ap, tAnd_ap, tst_ap, eCmp_ap, mVar_s, mVar_0, mb_ok, kA_ap, ni, asB_ap', kIf_f, Bool.not_true, mpure_ap, sBlock_nil]
  | false =>
    rw [q] at ni
    have nm : ∀ p ∈ ps, p.1.has n = false ∧ p.2.has n = false := fun p hp => by
      have h1 := hsp p hp n
      have h2 : (n : Int) ∉ sp := fun h => by rw [List.contains_iff_mem.mpr h] at q; cases q
      constructor
      · cases z : p.1.has n with
        | false => rfl
        | true => exact absurd (h1 (.inl z)) h2
      · cases z : p.2.has n with
        | false => rfl
        | true => exact absurd (h1 (.inr z)) h2
    rw [free_val g0 hs nm, enc_name] at an
    have ne : cmp .NotEq (.d (.tuple [.str "?", .int n])) (.d (.tuple [.str "?", .int n])) H = .ok (.d (.bool false)) H := by rw [ne_names]; simp
    simp only [sBlock_one, sIf_ap, tAnd_ap, tst_ap, eCmp_ap, mVar_s, mVar_0, mb_ok, kA_ap, ni, asB_ap', kIf_t, kIf_f, Bool.not_false, mpure_ap, sBlock_nil, eIx_ap, mC_ap, i0, an, eTup_ap, aList_cons, aList_nil, kL1_ap, kL2_ap, kt, ne]
theorem row14 (hk : 50 ≤ k) (hG : Gd G) : ∀ (r m : Nat) (H : AH) (f0 : List (Option Tm)) (x3 : Option W), m + r = 6 → V G H f0 f1 ps → GS 6 4 f0 → Sol (bd f0) (θG G) →
    ∃ f' y3, floop (.n 3) (b14 k) ((List.range' m r).map fun n : Nat => W.d (.int (n : Int))) [w0, w1, some (.r 3), x3, w4, some (.r 9), w6, w7, w8, w9, w10, w11, w12, w13] H = .ok (.nx [w0, w1, some (.r 3), y3, w4, some (.r 9), w6, w7, w8, w9, w10, w11, w12, w13]) (H.set 6 (lstO f')) ∧ GS 6 4 f' ∧ ∀ θ, Sol (bd f') θ ↔ Sol (bd f0) θ ∧ ∀ n, m ≤ n → n < 6 → θ n = (G n).app θ
  | 0, m, H, f0, x3, e, v, g, so => ⟨f0, x3, by rw [set_same v.s0.ls]; rfl, g, fun θ => ⟨fun q => ⟨q, fun n h1 h2 => by omega⟩, fun q => q.1⟩⟩
  | r + 1, m, H, f0, x3, e, v, g, so => by
    have hm : m < 6 := by omega
    have gm := hG.dr m hm
    have db := db64
    have tn : TG 6 4 (.name m) := tg_name hm
    have tg : TG 6 4 (G m) := ⟨⟨fun n h => (by rw [dr0_has gm n] at h; cases h), by have := gm.dp; omega⟩, gm.ok⟩
    have sg : (G m).size ≤ 300 := by have := gm.sz; have : (4 : Nat) ^ 2 = 16 := rfl; omega
    have wg : ∀ σ : Nat → Tm, (G m).app σ = G m := fun σ => whole_app (dr0_has gm)
    rcases r_tell (k := k) sm64 g tn tg (by simp [Tm.size]) sg v.s0 (by omega) (by omega) with ⟨f1', c1, p1, p2⟩ | ⟨junk, c1, p1⟩
    · have so1 : Sol (bd f1') (θG G) := (p2 _).mpr ⟨so, by rw [wg]; simp [θG, hm]⟩
      obtain ⟨f2, y3, r1, r2, r3⟩ := row14 hk hG r (m + 1) (H.set 6 (lstO f1')) f1' (some (.d (.int m))) (by omega) (v.set0 f1') p1 so1
      refine ⟨f2, y3, ?_, r2, fun θ => ?_⟩
      · rw [List.range'_succ, List.map_cons, floop_n]
        have me := fun as => l_meth (CM := call k) (a := as) m_tell v.s0
        have sz : (2 : Nat) ≤ sizeLine := by decide
        have kt : ∀ H : AH, kTup [.d (.str "?"), .d (.int m)] H = .ok (.d (enc (.name m))) H := fun H => by rw [enc_name]; simp [kTup, allD, sz]
        have ix := tab_ix (n := m) (u := G m) (.inr ⟨3, rfl, v.gr⟩ : TabK H (.r 3) (gKn G 6)) (by rw [look_gK, if_pos hm])
        have i0 := ix_sl0 v.sl
        obtain ⟨Q, eQ⟩ : ∃ Q, Q = enc (.name m) := ⟨_, rfl⟩
        rw [← eQ] at c1 kt
        obtain ⟨A, eA⟩ : ∃ A, A = enc (G m) := ⟨_, rfl⟩
        rw [← eA] at c1 ix
        have hb : b14 k [w0, w1, some (.r 3), some (.d (.int m)), w4, some (.r 9), w6, w7, w8, w9, w10, w11, w12, w13] H = .ok (.nx [w0, w1, some (.r 3), some (.d (.int m)), w4, some (.r 9), w6, w7, w8, w9, w10, w11, w12, w13]) (H.set 6 (lstO f1')) := by
          unfold b14
          simp only [sBlock_one, sExpr_ap, eMeth_ap, eIx_ap, mVar_s, mVar_0, mb_ok, kA_ap, mC_ap, i0, kM_ap, me, aList_cons, aList_nil, eTup_ap, kL1_ap, kL2_ap, kt, ix, c1]
          rfl
        exact (congrArg (fun r' => mb r' (kLoop (.n 3) (b14 k) ((List.range' (m + 1) r).map fun n : Nat => W.d (.int (n : Int))))) hb).trans (by rw [mb_ok, kLoop_nx, r1, List.set_set])
      · rw [r3 θ, p2 θ]
        constructor
        · rintro ⟨⟨q1, q2⟩, q3⟩
          refine ⟨q1, fun n h1 h2 => ?_⟩
          by_cases z : n = m
          · subst z; simpa using q2
          · exact q3 n (by omega) h2
        · rintro ⟨q1, q2⟩
          exact ⟨⟨q1, by simpa using q2 m (Nat.le_refl _) hm⟩, fun n h1 h2 => q2 n (by omega) h2⟩
    · exact absurd (show (Tm.name m).app (θG G) = (G m).app (θG G) from by rw [wg]; simp [θG, hm]) (p1 _ so)
/-! ### the ground is drawn -/
noncomputable abbrev bGr (k : Nat) : MS := sBlock [sIxW (mVar 2) (mVar 3) (eCall (call k) (pl "_law_term") (aList [mVar 0, mVar 1, mC (.d (.int 2)), mC (.d (.int 0))]))]
theorem gK_congr {G G' : Nat → Tm} {m : Nat} (h : ∀ n < m, G n = G' n) : gKn G m = gKn G' m := by
  unfold gKn
  exact List.map_congr_left fun n hn => by rw [h n (List.mem_range.mp hn)]
theorem ground {ns : List Int} (hk : 50 ≤ k) : ∀ (r m : Nat) (G : Nat → Tm) (ts : List Int) (c : Int) (x3 : Option W), m + r = 6 → (∀ n < m, Dr 0 2 (G n)) → Tw ns c ts → c + 64 * r ≤ 1000000 →
    ∃ G' ts' y3, floop (.n 3) (bGr k) ((List.range' m r).map fun n : Nat => W.d (.int (n : Int))) [some (.d (dI ns)), some (.r 2), some (.r 3), x3, w4, w5, w6, w7, w8, w9, w10, w11, w12, w13] [LI [0], LI ns, LI ts, .dic ((gKn G m).map eD)] = .ok (.nx [some (.d (dI ns)), some (.r 2), some (.r 3), y3, w4, w5, w6, w7, w8, w9, w10, w11, w12, w13]) [LI [0], LI ns, LI ts', .dic ((gKn G' 6).map eD)] ∧ Gd G' ∧ Tw ns (c + 64 * r) ts'
  | 0, m, G, ts, c, x3, e, hd, T, _ => by
    obtain rfl : m = 6 := by omega
    exact ⟨G, ts, x3, rfl, ⟨hd⟩, by simpa using T⟩
  | r + 1, m, G, ts, c, x3, e, hd, T, hc => by
    have hr : (((r + 1 : Nat)) : Int) = r + 1 := by omega
    rw [hr] at hc ⊢
    obtain ⟨u, t1, e1, D, T1⟩ := r_term0 (ns := ns) (t := 2) 2 k (by omega) [LI [0], LI ns, LI ts, .dic ((gKn G m).map eD)] ts c rfl T (by simp; omega)
    have T1 : Tw ns (c + 64) t1 := by simpa using T1
    have e1' : call k (pl "_law_term") [.d (dI ns), .r 2, .d (.int 2), .d (.int 0)] [LI [0], LI ns, LI ts, .dic ((gKn G m).map eD)] = .ok (.d (enc u)) [LI [0], LI ns, LI t1, .dic ((gKn G m).map eD)] := e1
    obtain ⟨G1, eG1⟩ : ∃ G1 : Nat → Tm, G1 = fun n => if n = m then u else G n := ⟨_, rfl⟩
    have gs : gKn G1 (m + 1) = gKn G m ++ [(m, u)] := by
      unfold gKn
      rw [List.range_succ, List.map_append]
      congr 1
      · exact List.map_congr_left fun n hn => by have := List.mem_range.mp hn; rw [eG1]; simp; omega
      · rw [eG1]; simp
    have si : setIxM (.r 3) (.d (.int m)) (.d (enc u)) [LI [0], LI ns, LI t1, .dic ((gKn G m).map eD)] = .ok () [LI [0], LI ns, LI t1, .dic ((gKn G1 (m + 1)).map eD)] := by
      unfold setIxM
      simp only [List.getElem?_cons_succ, List.getElem?_cons_zero, keyOf]
      rw [if_pos (Nat.lt_of_lt_of_le (show ((gKn G m).map eD).length < 100 from by simp [gKn]; omega) (by decide))]
      have hn : ((gKn G m).map (·.1)).contains m = false := by
        rw [show (gKn G m).map (·.1) = List.range m from by unfold gKn; rw [List.map_map]; exact List.map_id _]
        cases q : (List.range m).contains m with
        | false => rfl
        | true => rw [List.contains_iff_mem] at q; simp at q
      have e : putDW (.inl (m : Int)) (.d (enc u)) ((gKn G m).map eD) = (gKn G1 (m + 1)).map eD := by
        unfold putDW
        rw [key_any, hn, gs]
        simp [keyD]
      rw [e]; rfl
    obtain ⟨G', t2, y3, r1, r2, T2⟩ := ground hk r (m + 1) G1 t1 (c + 64) (some (.d (.int m))) (by omega) (fun n hn => by
      rw [eG1]
      by_cases z : n = m
      · simp [z]; exact D
      · simp [z]; exact hd n (by omega)) T1 (by omega)
    refine ⟨G', t2, y3, ?_, r2, T2.up (by omega)⟩
    rw [List.range'_succ, List.map_cons, floop_n]
    have hb : bGr k [some (.d (dI ns)), some (.r 2), some (.r 3), some (.d (.int m)), w4, w5, w6, w7, w8, w9, w10, w11, w12, w13] [LI [0], LI ns, LI ts, .dic ((gKn G m).map eD)] = .ok (.nx [some (.d (dI ns)), some (.r 2), some (.r 3), some (.d (.int m)), w4, w5, w6, w7, w8, w9, w10, w11, w12, w13]) [LI [0], LI ns, LI t1, .dic ((gKn G1 (m + 1)).map eD)] := by
      unfold bGr
      simp only [sBlock_one, sIxW_ap, eCall_ap, aList_cons, aList_nil, mVar_s, mVar_0, mC_ap, mb_ok, kL1_ap, kL2_ap, e1', kA_ap, kX1_ap, kX2_ap, si, kNx_ap]
    exact (congrArg (fun r' => mb r' (kLoop (.n 3) (bGr k) ((List.range' (m + 1) r).map fun n : Nat => W.d (.int (n : Int))))) hb).trans (by rw [mb_ok, kLoop_nx, r1])
end
end Ev
set_option Elab.async false
set_option linter.all false
set_option maxRecDepth 100000
set_option maxHeartbeats 4000000
namespace Ev
open PySem PySem.Spec PyProof.Rows L2 He
theorem rl_eq {m : Nat} : rangeL 0 m = (List.range' 0 m).map fun x : Nat => W.d (.int (x : Int)) := by
  unfold rangeL; rw [List.range_eq_range']; congr 1; funext x; simp
noncomputable abbrev e15 (k : Nat) : ME := eCmp .Eq (eOut (eV k (eIx (mVar 5) (mC (.d (.int 0)))))) (eOut (eLC (.n 3) (iFun rng1 (aList [mC (.d (.int 6))])) tTrue (eIx (mVar 2) (mVar 3))))
theorem law_true (ns : List Int) (hn : ns.length ≤ 63) : ∃ h, callM TT (lookE ents) 40 71 (pl "law") [.d (.list (ns.map PyData.int))] [] = .ok (.d (.bool true)) h := by
  refine ⟨[], ?_⟩
  show call (70 + 1) (pl "law") [.d (dI ns)] [] = _
  rw [c_law]
  have a1 := r_town (k := 69) hn
  -- the ground
  obtain ⟨G, t3, y3, e3, hG, T3⟩ := ground (k := 70) (w4 := none) (w5 := none) (w6 := none) (w7 := none) (w8 := none) (w9 := none) (w10 := none) (w11 := none) (w12 := none) (w13 := none) (ns := ns) (by decide) 6 0 (fun n => .name n) (0 :: ns) 0 none (by decide) (fun n h => by omega) ⟨by simp, by simp, by simp⟩ (by decide)
  have e3' : floop (.n 3) (bGr 70) (rangeL 0 6) [some (.d (dI ns)), some (.r 2), some (.r 3), none, none, none, none, none, none, none, none, none, none, none] [LI [0], LI ns, LI (0 :: ns), .dic []] = .ok (.nx [some (.d (dI ns)), some (.r 2), some (.r 3), y3, none, none, none, none, none, none, none, none, none, none]) [LI [0], LI ns, LI t3, .dic ((gKn G 6).map eD)] := by rw [rl_eq]; exact e3
  have rg6 := fun H : AH => r_rng1 (m := 6) (h := H) (by decide)
  -- the pairs
  obtain ⟨v, t4, d4, v0, v1, T4⟩ := r_draw (k := 69) (m := 7) (ns := ns) (ts := t3) (t := 2) (h := [LI [0], LI ns, LI t3, .dic ((gKn G 6).map eD)]) rfl T3 (by decide) (by decide) (by decide)
  obtain ⟨v, rfl⟩ : ∃ m : Nat, v = (m : Int) := ⟨v.toNat, by omega⟩
  have d4' : call 70 (pl "_law_draw") [.d (dI ns), .r 2, .d (.int 7)] [LI [0], LI ns, LI t3, .dic ((gKn G 6).map eD)] = .ok (.d (.int v)) [LI [0], LI ns, LI t4, .dic ((gKn G 6).map eD)] := d4
  have rgv := r_rng1 (m := v) (h := [LI [0], LI ns, LI t4, .dic ((gKn G 6).map eD)]) (by omega)
  obtain ⟨ps, t5, e5, l5, P5, T5⟩ := clT (i := 11) (el := eCall (call 70) (pl "_law_pair") (aList [mVar 0, mVar 1, mVar 2])) (env := [some (.d (dI ns)), some (.r 2), some (.r 3), y3, none, none, none, none, none, none, none, none, none, none]) (h := [LI [0], LI ns, LI t4, .dic ((gKn G 6).map eD)]) (t := 2) (P := Pr G) (p := encQ) (ns := ns) (dc := 600) (cm := 1000000) (by simp) (by decide) (fun w ts c l T hc => by
    obtain ⟨p, t', e', P', T'⟩ := r_pair (k := 70) hG (by decide) (h := [LI [0], LI ns, LI t4, .dic ((gKn G 6).map eD)].set 2 (LI ts) ++ l) (ts := ts) (c := c) rfl rfl T hc
    refine ⟨p, t', ?_, P', T'⟩
    have e'' : call 70 (pl "_law_pair") [.d (dI ns), .r 2, .r 3] ([LI [0], LI ns, LI t4, .dic ((gKn G 6).map eD)].set 2 (LI ts) ++ l) = .ok (.d (encQ p)) ([LI [0], LI ns, LI t4, .dic ((gKn G 6).map eD)].set 2 (LI t') ++ l) := e'
    rw [eCall_ap]
    rw [show aList [mVar 0, mVar 1, mVar 2] (([some (.d (dI ns)), some (.r 2), some (.r 3), y3, none, none, none, none, none, none, none, none, none, none] : EnvW).set 11 (some w)) ([LI [0], LI ns, LI t4, .dic ((gKn G 6).map eD)].set 2 (LI ts) ++ l) = .ok [.d (dI ns), .r 2, .r 3] ([LI [0], LI ns, LI t4, .dic ((gKn G 6).map eD)].set 2 (LI ts) ++ l) from rfl, mb_ok]
    exact e'') (rangeL 0 v) t4 (0 + 64 * 6 + 1) [] T4 (by rw [rangeL_len]; omega) (by rw [rangeL_len]; simp; omega)
  obtain ⟨H5, eH5⟩ : ∃ H5 : AH, H5 = [LI [0], LI ns, LI t5, .dic ((gKn G 6).map eD), .lst (ps.map encP)] := ⟨_, rfl⟩
  have s4 : sSet 4 (eLC (.n 11) (iFun rng1 (aList [eCall (call 70) (pl "_law_draw") (aList [mVar 0, mVar 1, mC (.d (.int 7))])])) tTrue (eCall (call 70) (pl "_law_pair") (aList [mVar 0, mVar 1, mVar 2]))) [some (.d (dI ns)), some (.r 2), some (.r 3), y3, none, none, none, none, none, none, none, none, none, none] [LI [0], LI ns, LI t3, .dic ((gKn G 6).map eD)] = .ok (.nx [some (.d (dI ns)), some (.r 2), some (.r 3), y3, some (.r 4), none, none, none, none, none, none, none, none, none]) H5 := by
    rw [sSet_ap, eLC_ap]
    rw [show iFun rng1 (aList [eCall (call 70) (pl "_law_draw") (aList [mVar 0, mVar 1, mC (.d (.int 7))])]) [some (.d (dI ns)), some (.r 2), some (.r 3), y3, none, none, none, none, none, none, none, none, none, none] [LI [0], LI ns, LI t3, .dic ((gKn G 6).map eD)] = .ok (rangeL 0 v, none) [LI [0], LI ns, LI t4, .dic ((gKn G 6).map eD)] from by simp [d4', rgv], mb_ok]
    have e5' : cLoop 4 (.n 11) tTrue (eCall (call 70) (pl "_law_pair") (aList [mVar 0, mVar 1, mVar 2])) (rangeL 0 v) [some (.d (dI ns)), some (.r 2), some (.r 3), y3, none, none, none, none, none, none, none, none, none, none] ([LI [0], LI ns, LI t4, .dic ((gKn G 6).map eD)] ++ [.lst []]) = .ok () H5 := by
      have := e5
      simp only [List.map_nil, List.nil_append] at this
      refine this.trans ?_
      rw [eH5]
      simp [encP, Function.comp_def]
    show mb (mb (cLoop 4 (.n 11) tTrue _ (rangeL 0 v) [some (.d (dI ns)), some (.r 2), some (.r 3), y3, none, none, none, none, none, none, none, none, none, none] ([LI [0], LI ns, LI t4, .dic ((gKn G 6).map eD)] ++ [.lst []])) (kRef 4)) _ = _
    rw [e5']
    rfl
  have lps : ps.length ≤ 6 := by rw [l5, rangeL_len]; omega
  -- the stores
  have hl5 : H5.length = 5 := by rw [eH5]; rfl
  have n1 := r_new (k := 68) (m := 6) (h := H5) (by decide)
  have n2 := r_new (k := 68) (m := 6) (h := H5 ++ [.ins "Store" [("found", .r 6)], .lst (List.replicate 6 (.d .none))]) (by decide)
  simp only [hl5, List.length_append, List.length_cons, List.length_nil, List.append_assoc, List.cons_append, List.nil_append] at n1 n2
  obtain ⟨R6, eR6⟩ : ∃ R6 : AO, R6 = .lst (List.replicate 6 (.d .none)) := ⟨_, rfl⟩
  rw [← eR6] at n1 n2
  have lo : R6 = lstO (names 6) := by rw [eR6]; rfl
  obtain ⟨Ha, eHa⟩ : ∃ Ha : AH, Ha = [LI [0], LI ns, LI t5, .dic ((gKn G 6).map eD), .lst (ps.map encP), .ins "Store" [("found", .r 6)], R6, .ins "Store" [("found", .r 8)], R6, SL] := ⟨_, rfl⟩
  have s5 : sSet 5 (eLst (aList [eNew (call 70) "Store" [] (aList [mC (.d (.int 6))]), eNew (call 70) "Store" [] (aList [mC (.d (.int 6))])])) [some (.d (dI ns)), some (.r 2), some (.r 3), y3, some (.r 4), none, none, none, none, none, none, none, none, none] H5 = .ok (.nx [some (.d (dI ns)), some (.r 2), some (.r 3), y3, some (.r 4), some (.r 9), none, none, none, none, none, none, none, none]) Ha := by
    have n1' : kNew (call 70) "Store" [] [.d (.int 6)] H5 = _ := n1
    have n2' : kNew (call 70) "Store" [] [.d (.int 6)] (H5 ++ [.ins "Store" [("found", .r 6)], R6]) = _ := n2
    have kl : kLst [.r 5, .r 7] (H5 ++ [.ins "Store" [("found", .r 6)], R6, .ins "Store" [("found", .r 8)], R6]) = .ok (.r 9) Ha := by
      rw [kLst_ap (by simp), eHa, eH5]; rfl
    simp [n1', n2', kl]
  have va : V G Ha (names 6) (names 6) ps := by
    rw [eHa]
    refine ⟨rfl, rfl, ⟨rfl, by rw [lo]; rfl⟩, ⟨rfl, by rw [lo]; rfl⟩, rfl⟩
  have sn : ∀ θ, Sol (bd (names 6)) θ := fun θ i t h => by rw [bd_names] at h; cases h
  -- the first store is told
  obtain ⟨f0, y9, y10, e6, g0, so0, sl0⟩ := tells_g (G := G) (k := 70) (i := 5) (j := 6) (sw := false) (b := sBlock [sExpr (eMeth TT (call 70) "tell" (eIx (mVar 5) (mC (.d (.int 0)))) (aList [mVar 9, mVar 10]))]) (w0 := some (.d (dI ns))) (w1 := some (.r 2)) (w2 := some (.r 3)) (w3 := y3) (w4 := some (.r 4)) (w5 := some (.r 9)) (w6 := none) (w7 := none) (w8 := none) (w11 := none) (w12 := none) (w13 := none) (by decide) (by decide) (by decide) (fun p H H' f h9 s c => by
    have me := fun as => l_meth (CM := call 70) (a := as) m_tell s
    have i0 := ix_sl0 h9
    have c' : call 70 ("Store", "tell") [.r 5, .d (enc p.1), .d (enc p.2)] H = .ok (.d .none) H' := c
    simp only [sBlock_one, sExpr_ap, eMeth_ap, eIx_ap, mVar_s, mVar_0, mb_ok, kA_ap, mC_ap, i0, kM_ap, me, aList_cons, aList_nil, kL1_ap, kL2_ap, c', kNx_ap]) ps (Ha.set 4 .dead) (names 6) none none P5 gs_names (va.s0.set (by decide) (by decide)) (by rw [List.getElem?_set_ne (by decide)]; exact va.sl) (sn _)
  obtain ⟨Hb, eHb⟩ : ∃ Hb : AH, Hb = Ha.set 6 (lstO f0) := ⟨_, rfl⟩
  have vb : V G Hb f0 (names 6) ps := by rw [eHb]; exact va.set0 f0
  have s6 : sFor (.t [9, 10]) (iVal (mVar 4)) (sBlock [sExpr (eMeth TT (call 70) "tell" (eIx (mVar 5) (mC (.d (.int 0)))) (aList [mVar 9, mVar 10]))]) [some (.d (dI ns)), some (.r 2), some (.r 3), y3, some (.r 4), some (.r 9), none, none, none, none, none, none, none, none] Ha = .ok (.nx [some (.d (dI ns)), some (.r 2), some (.r 3), y3, some (.r 4), some (.r 9), none, none, none, y9, y10, none, none, none]) Hb := by
    rw [sFor_ap, show iVal (mVar 4) [some (.d (dI ns)), some (.r 2), some (.r 3), y3, some (.r 4), some (.r 9), none, none, none, none, none, none, none, none] Ha = .ok (ps.map encP, some 4) Ha from by simp [srcM, va.pr], mb_ok]
    unfold kFor over
    simp only
    rw [e6]
    simp only
    rw [List.set_comm _ _ (by decide), List.set_set, set_same va.pr, eHb]
  -- the second store is told, the other way about
  obtain ⟨Hc, eHc⟩ : ∃ Hc : AH, Hc = Hb ++ [.lst (ps.reverse.map encP)] := ⟨_, rfl⟩
  have lb : Hb.length = 10 := by rw [eHb, List.length_set, eHa]; rfl
  have vc : V G Hc f0 (names 6) ps := by rw [eHc]; exact vb.more _
  have c10 : Hc[10]? = some (.lst (ps.reverse.map encP)) := by rw [eHc, List.getElem?_append_right (by omega), lb]; rfl
  obtain ⟨f1, z9, z10, e7, g1, so1, sl1⟩ := tells_g (G := G) (k := 70) (i := 7) (j := 8) (sw := true) (b := sBlock [sExpr (eMeth TT (call 70) "tell" (eIx (mVar 5) (mC (.d (.int 1)))) (aList [mVar 10, mVar 9]))]) (w0 := some (.d (dI ns))) (w1 := some (.r 2)) (w2 := some (.r 3)) (w3 := y3) (w4 := some (.r 4)) (w5 := some (.r 9)) (w6 := none) (w7 := none) (w8 := none) (w11 := none) (w12 := none) (w13 := none) (by decide) (by decide) (by decide) (fun p H H' f h9 s c => by
    have me := fun as => l_meth (CM := call 70) (a := as) m_tell s
    have i1 := ix_sl1 h9
    have c' : call 70 ("Store", "tell") [.r 7, .d (enc p.2), .d (enc p.1)] H = .ok (.d .none) H' := c
    simp only [sBlock_one, sExpr_ap, eMeth_ap, eIx_ap, mVar_s, mVar_0, mb_ok, kA_ap, mC_ap, i1, kM_ap, me, aList_cons, aList_nil, kL1_ap, kL2_ap, c', kNx_ap]) ps.reverse (Hc.set 10 .dead) (names 6) y9 y10 (fun p hp => P5 p (List.mem_reverse.mp hp)) gs_names (vc.s1.set (by decide) (by decide)) (by rw [List.getElem?_set_ne (by decide)]; exact vc.sl) (sn _)
  obtain ⟨Hd, eHd⟩ : ∃ Hd : AH, Hd = Hc.set 8 (lstO f1) := ⟨_, rfl⟩
  have vd : V G Hd f0 f1 ps := by rw [eHd]; exact vc.set1 f1
  have s7 : sFor (.t [9, 10]) (iVal (eStep (mVar 4) (eNeg (mC (.d (.int 1)))))) (sBlock [sExpr (eMeth TT (call 70) "tell" (eIx (mVar 5) (mC (.d (.int 1)))) (aList [mVar 10, mVar 9]))]) [some (.d (dI ns)), some (.r 2), some (.r 3), y3, some (.r 4), some (.r 9), none, none, none, y9, y10, none, none, none] Hb = .ok (.nx [some (.d (dI ns)), some (.r 2), some (.r 3), y3, some (.r 4), some (.r 9), none, none, none, z9, z10, none, none, none]) Hd := by
    have sp : stepM (.r 4) (.d (.int (-1))) Hb = .ok (.r 10) Hc := by
      unfold stepM
      simp only [vb.pr]
      rw [if_pos trivial, lb, eHc, List.map_reverse]
    have es : eStep (mVar 4) (eNeg (mC (.d (.int 1)))) [some (.d (dI ns)), some (.r 2), some (.r 3), y3, some (.r 4), some (.r 9), none, none, none, y9, y10, none, none, none] Hb = .ok (.r 10) Hc := by
      have st : ∀ (e : EnvW) (H : AH), eStep (mVar 4) (eNeg (mC (.d (.int 1)))) e H = mb (mVar 4 e H) (kA (eNeg (mC (.d (.int 1)))) e stepM) := fun e H => rfl
      rw [st]
      simp only [mVar_s, mVar_0, mb_ok, kA_ap, eNeg_ap, mC_ap]
      exact sp
    rw [sFor_ap, iVal_ap, es, mb_ok]
    rw [show srcM (.r 10) Hc = .ok (ps.reverse.map encP, some 10) Hc from by simp [srcM, c10], mb_ok]
    unfold kFor over
    simp only
    rw [e7]
    simp only
    rw [List.set_comm _ _ (by decide), List.set_set, set_same c10, eHd]
  have S0 : ∀ θ, Sol (bd f0) θ ↔ Alls θ ps := fun θ => by rw [sl0 θ]; exact ⟨fun q => q.2, fun q => ⟨sn θ, q⟩⟩
  have S1 : ∀ θ, Sol (bd f1) θ ↔ Alls θ ps := fun θ => by
    rw [sl1 θ]
    unfold Alls
    simp only [List.mem_reverse]
    exact ⟨fun q => q.2, fun q => ⟨sn θ, q⟩⟩
  have v10 : v6 f1 = v6 f0 := List.map_congr_left fun t _ => val_canon g1.toGood g0.toGood (fun θ => by rw [S1, S0]) t
  -- names and values
  have sz : (2 : Nat) ≤ sizeLine := by decide
  have s8 : sSet 6 (eFun fTuple (aList [eOut (eLC (.n 3) (iFun rng1 (aList [mC (.d (.int 6))])) tTrue (eTup (aList [mC (.d (.str "?")), mVar 3])))])) [some (.d (dI ns)), some (.r 2), some (.r 3), y3, some (.r 4), some (.r 9), none, none, none, z9, z10, none, none, none] Hd = .ok (.nx [some (.d (dI ns)), some (.r 2), some (.r 3), y3, some (.r 4), some (.r 9), some (.d (.tuple (nm6.map enc))), none, none, z9, z10, none, none, none]) Hd := by
    have lc : eOut (eLC (.n 3) (iFun rng1 (aList [mC (.d (.int 6))])) tTrue (eTup (aList [mC (.d (.str "?")), mVar 3]))) [some (.d (dI ns)), some (.r 2), some (.r 3), y3, some (.r 4), some (.r 9), none, none, none, z9, z10, none, none, none] Hd = .ok (.d (.list (nm6.map enc))) Hd := by
      refine (lcD_map (as := List.range 6) (fun n => W.d (.int (0 + (n : Int)))) (fun n => enc (.name n)) (by simpa [rangeL] using rg6 Hd) (by simp) ?_).trans (by simp [nm6])
      intro n hn
      refine ⟨_, rfl, fun acc => ⟨by simp, ?_⟩⟩
      simp [wipeW, Tg.slots, kTup, allD, sz]
    rw [sSet_ap, eFun_ap, aList_cons, lc, mb_ok, kL1_ap, aList_nil, mb_ok, kL2_ap, mb_ok]
    rw [show fTuple [.d (.list (nm6.map enc))] Hd = .ok (.d (.tuple (nm6.map enc))) Hd from by simp [fTuple, listD, peek], mb_ok, kSet_ap]
    rfl
  have e9 := r_vals (w0 := some (.d (dI ns))) (w1 := some (.r 2)) (w2 := some (.r 3)) (w3 := y3) (w4 := some (.r 4)) (w7 := none) (w8 := none) (w9 := z9) (w10 := z10) (w11 := none) (w12 := none) (w13 := none) vd (k := 70) (by decide) g0 g1
  rw [v10] at e9
  obtain ⟨x, ex⟩ : ∃ x, x = Hd.length := ⟨_, rfl⟩
  obtain ⟨He, eHe⟩ : ∃ He : AH, He = Hd ++ [.lst ([.tuple ((v6 f0).map enc), .tuple ((v6 f0).map enc)].map .d)] := ⟨_, rfl⟩
  rw [← eHe, ← ex] at e9
  have ve : V G He f0 f1 ps := by rw [eHe]; exact vd.more _
  have hx : He[x]? = some (.lst ([.tuple ((v6 f0).map enc), .tuple ((v6 f0).map enc)].map .d)) := by rw [eHe, ex]; simp
  have r10 := row10 (w0 := some (.d (dI ns))) (w1 := some (.r 2)) (w3 := y3) (w4 := some (.r 4)) (w5 := some (.r 9)) (w6 := some (.d (.tuple (nm6.map enc)))) (w8 := none) (w9 := z9) (w10 := z10) (w11 := none) (w12 := none) (w13 := none) ve (k := 70) (by decide) hG g0 so0 hx
  obtain ⟨u3, r11⟩ := loop_const (b := b11 70) (H := He) (E := fun o => [some (.d (dI ns)), some (.r 2), some (.r 3), o, some (.r 4), some (.r 9), some (.d (.tuple (nm6.map enc))), some (.r x), none, z9, z10, none, none, none]) (fun x y => rfl) (rangeL 0 6) (fun w hw => by
    obtain ⟨n, hn, rfl⟩ := range_mem hw
    exact row11 ve (by decide) hG g0 so0 hx hn) y3
  -- what was spoken of
  obtain ⟨Hf, eHf⟩ : ∃ Hf : AH, Hf = He ++ [LI []] := ⟨_, rfl⟩
  have le : He.length = x + 1 := by rw [eHe, ex]; simp
  have lx : 9 < x := by rw [ex]; exact vd.len
  have vf : V G Hf f0 f1 ps := by rw [eHf]; exact ve.more _
  have hf : Hf[x + 1]? = some (LI []) := by rw [eHf, ← le]; simp
  have kl : kLst [] He = .ok (.r (x + 1)) Hf := by rw [kLst_ap (by simp), le, eHf]; rfl
  obtain ⟨J, l', sp, q9, q10, r12, hl', _, hsp⟩ := row12 (G := G) (k := 70) (w0 := some (.d (dI ns))) (w1 := some (.r 2)) (w2 := some (.r 3)) (w3 := u3) (w4 := some (.r 4)) (w5 := some (.r 9)) (w6 := some (.d (.tuple (nm6.map enc)))) (w7 := some (.r x)) (w11 := none) (w12 := none) (w13 := none) (by decide) ps (Hf.set 4 .dead) [] (x + 1) z9 z10 P5 (by rw [List.getElem?_set_ne (by omega)]; exact hf) (by simp; omega)
  have lf : Hf.length = x + 2 := by rw [eHf]; simp [le]
  obtain ⟨Hg, eHg⟩ : ∃ Hg : AH, Hg = Hf ++ J := ⟨_, rfl⟩
  have un : (Hf.set 4 AO.dead ++ J).set 4 (.lst (ps.map encP)) = Hg := by
    rw [List.set_append_left _ _ (by rw [List.length_set]; omega), List.set_set, set_same vf.pr, eHg]
  have l4 : l' ≠ 4 := fun e => by
    rw [e, List.getElem?_append_left (by rw [List.length_set]; omega), List.getElem?_set_self (by omega)] at hl'
    cases hl'
  have hlg : Hg[l']? = some (LI sp) := by rw [← un, List.getElem?_set_ne (Ne.symm l4)]; exact hl'
  have vg : V G Hg f0 f1 ps := by rw [eHg]; exact vf.more _
  have hxg : Hg[x]? = some (.lst ([.tuple ((v6 f0).map enc), .tuple ((v6 f0).map enc)].map .d)) := by
    rw [eHg, List.getElem?_append_left (by omega), eHf, List.getElem?_append_left (by omega)]; exact hx
  have s12 : sFor (.t [9, 10]) (iVal (mVar 4)) (b12 70) [some (.d (dI ns)), some (.r 2), some (.r 3), u3, some (.r 4), some (.r 9), some (.d (.tuple (nm6.map enc))), some (.r x), some (.r (x + 1)), z9, z10, none, none, none] Hf = .ok (.nx [some (.d (dI ns)), some (.r 2), some (.r 3), u3, some (.r 4), some (.r 9), some (.d (.tuple (nm6.map enc))), some (.r x), some (.r l'), q9, q10, none, none, none]) Hg := by
    rw [sFor_ap, show iVal (mVar 4) [some (.d (dI ns)), some (.r 2), some (.r 3), u3, some (.r 4), some (.r 9), some (.d (.tuple (nm6.map enc))), some (.r x), some (.r (x + 1)), z9, z10, none, none, none] Hf = .ok (ps.map encP, some 4) Hf from by simp [srcM, vf.pr], mb_ok]
    unfold kFor over
    simp only
    rw [r12]
    simp only
    rw [un]
  obtain ⟨u4, r13⟩ := loop_const (b := b13 70) (H := Hg) (E := fun o => [some (.d (dI ns)), some (.r 2), some (.r 3), o, some (.r 4), some (.r 9), some (.d (.tuple (nm6.map enc))), some (.r x), some (.r l'), q9, q10, none, none, none]) (fun x y => rfl) (rangeL 0 6) (fun w hw => by
    obtain ⟨n, hn, rfl⟩ := range_mem hw
    exact row13 hxg hlg g0 S0 hsp hn) u3
  obtain ⟨f2, u5, r14, g2, S2⟩ := row14 (G := G) (k := 70) (w0 := some (.d (dI ns))) (w1 := some (.r 2)) (w4 := some (.r 4)) (w6 := some (.d (.tuple (nm6.map enc)))) (w7 := some (.r x)) (w8 := some (.r l')) (w9 := q9) (w10 := q10) (w11 := none) (w12 := none) (w13 := none) (by decide) hG 6 0 Hg f0 u4 (by decide) vg g0 so0
  rw [← rl_eq] at r14
  obtain ⟨Hh, eHh⟩ : ∃ Hh : AH, Hh = Hg.set 6 (lstO f2) := ⟨_, rfl⟩
  rw [← eHh] at r14
  have vh : V G Hh f2 f1 ps := by rw [eHh]; exact vg.set0 f2
  have vG : v6 f2 = (List.range 6).map G := by
    unfold v6 nm6
    rw [List.map_map]
    refine List.map_congr_left fun n hn => ?_
    have hn := List.mem_range.mp hn
    have q := ((S2 _).mp (val_sol g2.toGood)).2 n (by omega) hn
    rw [rho_val g2.toGood, whole_app (dr0_has (hG.dr n hn))] at q
    exact q
  have e15a := r_eV (x := eIx (mVar 5) (mC (.d (.int 0)))) (k := 70) (env0 := [some (.d (dI ns)), some (.r 2), some (.r 3), u5, some (.r 4), some (.r 9), some (.d (.tuple (nm6.map enc))), some (.r x), some (.r l'), q9, q10, none, none, none]) (by decide) vh.s0 g2 (fun h => rfl) (fun y l => by
    have i0 := ix_sl0 (vh.more l).sl
    show eIx (mVar 5) (mC (.d (.int 0))) [some (.d (dI ns)), some (.r 2), some (.r 3), u5, some (.r 4), some (.r 9), some (.d (.tuple (nm6.map enc))), some (.r x), some (.r l'), q9, q10, none, none, y] (Hh ++ l) = _
    rw [eIx_ap]
    simp only [mVar_s, mVar_0, mb_ok, kA_ap, mC_ap, i0]) (fun w h => rfl)
  rw [vG, List.map_map] at e15a
  have e15b := r_gr (m := 6) vh (by decide) 3 (env0 := [some (.d (dI ns)), some (.r 2), some (.r 3), u5, some (.r 4), some (.r 9), some (.d (.tuple (nm6.map enc))), some (.r x), some (.r l'), q9, q10, none, none, none]) (fun y h => rfl) (fun w h => rfl)
  have shG : SeqAt.shaped (.list ((List.range 6).map fun n => enc (G n))) = true := by
    have := sh_terms (ts := (List.range 6).map G) (fun t ht => by
      obtain ⟨n, hn, rfl⟩ := List.mem_map.mp ht
      have q := hG.dr n (List.mem_range.mp hn)
      exact ⟨q.ok, by have := q.dp; omega⟩)
    rwa [List.map_map] at this
  have q15 : cmp .Eq (.d (.list ((List.range 6).map fun n => enc (G n)))) (.d (.list ((List.range 6).map fun n => enc (G n)))) Hh = .ok (.d (.bool true)) Hh := eq_same rfl rfl shG
  have en : endM [] (.ok (.rt (.d (.bool true))) Hh) = .ok (.d (.bool true)) [] := end_d (h := []) (j := Hh)
  unfold t_law
  rw [sBlock_two, sSet_ap, eCall_ap, aList_cons, mVar_0, mb_ok, kL1_ap, aList_nil, mb_ok, kL2_ap, mb_ok, a1, mb_ok, kSet_ap, mb_ok, fnext_nx]
  rw [sBlock_two, sSet_ap, show ∀ E : EnvW, eDict0 E [LI [0], LI ns, LI (0 :: ns)] = .ok (.r 3) [LI [0], LI ns, LI (0 :: ns), .dic []] from fun _ => rfl, mb_ok, kSet_ap, mb_ok, fnext_nx, sBlock_two]
  rw [show ((([some (.d (dI ns)), none, none, none, none, none, none, none, none, none, none, none, none, none] : EnvW).set 1 (some (.r 2))).set 2 (some (.r 3))) = [some (.d (dI ns)), some (.r 2), some (.r 3), none, none, none, none, none, none, none, none, none, none, none] from rfl]
  have s3 : sFor (.n 3) (iFun rng1 (aList [mC (.d (.int 6))])) (bGr 70) [some (.d (dI ns)), some (.r 2), some (.r 3), none, none, none, none, none, none, none, none, none, none, none] [LI [0], LI ns, LI (0 :: ns), .dic []] = .ok (.nx [some (.d (dI ns)), some (.r 2), some (.r 3), y3, none, none, none, none, none, none, none, none, none, none]) [LI [0], LI ns, LI t3, .dic ((gKn G 6).map eD)] := by
    rw [sFor_ap, iFun_ap, aList_cons, mC_ap, mb_ok, kL1_ap, aList_nil, mb_ok, kL2_ap, mb_ok, show rng1 [.d (.int 6)] [LI [0], LI ns, LI (0 :: ns), .dic []] = _ from rg6 _, mb_ok, kFor_ap]
    exact e3'
  rw [show sFor (.n 3) (iFun rng1 (aList [mC (.d (.int 6))])) _ _ [LI [0], LI ns, LI (0 :: ns), .dic []] = _ from s3, mb_ok, fnext_nx, sBlock_two, s4, mb_ok, fnext_nx, sBlock_two, s5, mb_ok, fnext_nx, sBlock_two, s6, mb_ok, fnext_nx, sBlock_two, s7, mb_ok, fnext_nx, sBlock_two, s8, mb_ok, fnext_nx, sBlock_two, sSet_ap]
  rw [show eLC (.n 12) (iVal (mVar 5)) tTrue _ _ Hd = _ from e9, mb_ok, kSet_ap, mb_ok, fnext_nx, sBlock_two]
  rw [show ([some (.d (dI ns)), some (.r 2), some (.r 3), y3, some (.r 4), some (.r 9), some (.d (.tuple (nm6.map enc))), none, none, z9, z10, none, none, none] : EnvW).set 7 (some (.r x)) = [some (.d (dI ns)), some (.r 2), some (.r 3), y3, some (.r 4), some (.r 9), some (.d (.tuple (nm6.map enc))), some (.r x), none, z9, z10, none, none, none] from rfl]
  rw [r10, mb_ok, fnext_nx, sBlock_two]
  have s11 : ∀ (b : MS) (E : EnvW) (H : AH), sFor (.n 3) (iFun rng1 (aList [mC (.d (.int 6))])) b E H = floop (.n 3) b (rangeL 0 6) E H := fun b E H => by
    rw [sFor_ap, iFun_ap, aList_cons, mC_ap, mb_ok, kL1_ap, aList_nil, mb_ok, kL2_ap, mb_ok, show rng1 [.d (.int 6)] H = _ from rg6 _, mb_ok, kFor_ap]
  rw [s11, show floop (.n 3) _ (rangeL 0 6) [some (.d (dI ns)), some (.r 2), some (.r 3), y3, some (.r 4), some (.r 9), some (.d (.tuple (nm6.map enc))), some (.r x), none, z9, z10, none, none, none] He = _ from r11, mb_ok, fnext_nx, sBlock_two, sSet_ap, eLst_ap, aList_nil, mb_ok, kl, mb_ok, kSet_ap, mb_ok, fnext_nx, sBlock_two]
  rw [show ([some (.d (dI ns)), some (.r 2), some (.r 3), u3, some (.r 4), some (.r 9), some (.d (.tuple (nm6.map enc))), some (.r x), none, z9, z10, none, none, none] : EnvW).set 8 (some (.r (x + 1))) = [some (.d (dI ns)), some (.r 2), some (.r 3), u3, some (.r 4), some (.r 9), some (.d (.tuple (nm6.map enc))), some (.r x), some (.r (x + 1)), z9, z10, none, none, none] from rfl]
  rw [show sFor (.t [9, 10]) (iVal (mVar 4)) _ _ Hf = _ from s12, mb_ok, fnext_nx, sBlock_two, s11, show floop (.n 3) _ (rangeL 0 6) [some (.d (dI ns)), some (.r 2), some (.r 3), u3, some (.r 4), some (.r 9), some (.d (.tuple (nm6.map enc))), some (.r x), some (.r l'), q9, q10, none, none, none] Hg = _ from r13, mb_ok, fnext_nx, sBlock_two, s11, show floop (.n 3) _ (rangeL 0 6) [some (.d (dI ns)), some (.r 2), some (.r 3), u4, some (.r 4), some (.r 9), some (.d (.tuple (nm6.map enc))), some (.r x), some (.r l'), q9, q10, none, none, none] Hg = _ from r14, mb_ok, fnext_nx, sBlock_one, sRet_ap, eCmp_ap]
  rw [show eOut (eLC (.n 13) (iVal (mVar 6)) tTrue _) _ Hh = _ from e15a, mb_ok, kA_ap, show eOut (eLC (.n 3) (iFun rng1 (aList [mC (.d (.int 6))])) tTrue (eIx (mVar 2) (mVar 3))) _ Hh = _ from e15b, mb_ok]
  rw [show cmp .Eq (.d (.list ((List.range 6).map (enc ∘ G)))) (.d (.list ((List.range 6).map fun n => enc (G n)))) Hh = _ from q15, mb_ok]
  exact en
end Ev
set_option Elab.async false
set_option linter.all false
set_option maxRecDepth 100000
set_option maxHeartbeats 0
namespace Ev
open PySem PySem.Spec PyProof.Rows L2 He
abbrev RR : PySem.W.OpenRow := PySem.W.OpenLaw.row ROW
def loose : List Str := (["_wall", "ToldError", "BadTerm", "BadNumber", "NoName", "Clash", "LETTERS", "MOST_PARTS", "is_number", "is_int", "is_word", "is_name", "count_parts", "is_term", "look_term", "is_tree", "add_names", "Store", "fit_to", "fits", "covers", "alike", "_law_town", "_law_draw", "_law_pick", "_law_term", "_law_is_name", "_law_is_tree", "_law_names", "_law_fill"] : List PySem.Str) ++ (["_law_pair", "_law_opened"] : List PySem.Str)
def ob (s : PySem.W.SharedT) : AlE := obsEG 5 hd (HandSHeadRun.getT s)
theorem ob_eq (s : PySem.W.SharedT) : ob s = (hookE 5 hd).obs s.abs := obsEG_eq (HandSHeadRun.getT_eq s)
theorem run (w : World) : HandSHeadRun.RunEq RR (PySem.W.view RR.prog [37]) (hookE 5 hd) ob 20000 loose w := by
  intro os
  kernel_rfl
end Ev
open PySem PySem.W PySem.Calls PyProof.Rows
theorem PySem.Challenge.cw_toldnames_k21_whole_least_told_holds : PySem.Challenge.rw_toldnames_k21_whole_least_told.Holds := by
  w_on; o_law
  refine HandSHeadRun.head_any (r := OpenLaw.row PySem.Challenge.rw_toldnames_k21_whole_least_told) (q := view (OpenLaw.row PySem.Challenge.rw_toldnames_k21_whole_least_told).prog [37]) (H := Ev.hookE 5 Ev.hd) (ob := Ev.ob) (M := 20000) (loose := Ev.loose) (d := HandSHeadRun.topDef (OpenLaw.row PySem.Challenge.rw_toldnames_k21_whole_least_told).prog 37) (kwd := []) Ev.ob_eq
    (by kernel_rfl) (fun s => by kernel_rfl) Ev.run (by kernel_rfl) (by kernel_rfl) (by kernel_rfl) (by rfl) (by first | assumption | decide +kernel) (by decide +kernel) ⟨rfl, rfl, rfl, rfl, rfl, by decide +kernel⟩ ?hw ?hc
  case hw => w_witness2
  case hc =>
    exact Ev.law_of (l := PySem.Challenge.rw_toldnames_k21_whole_least_told) (n := 63) (k := 70) (dp := 40) (e := Ev.e_law) Ev.goods rfl (by decide) (by kernel_rfl) ⟨rfl, by decide, by decide⟩ (by kernel_rfl) (by decide +kernel) rfl rfl
      (fun K a fd F s u => L2.FunD.bindsA (ps := ["script"]) F (fun _ _ _ _ _ _ us hl => match us, hl with | [_], _ => rfl) s [u] rfl) Ev.law_true
