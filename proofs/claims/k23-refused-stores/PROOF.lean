import PyProof.Rows.All
import HandS.ForMost
import HandS.ForExc
import HandS.IsInst
import HandS.Style
import HandS.CallLocal
import HandS.Defaults
import HandS.FStr
import HandS.TupAny
import HandS.Conv
import HandS.ExcIs
import HandS.RaiseMore
import HandS.SetFor
import HandS.Walk
import HandS.Zip
import HandS.TupLe
import KE.DataMinMax
import KE.KUnpackStar
import KE.KDictZip
import HandS.Words
import HandS.Ends
import HandS.HeadEnd
import HandS.HeadHook1
import HandS.HeadHook2
import HandS.Head0
import HandS.Head1
import HandS.Head2
import PySem.Challenge.RW_toldnames_k23_refused_stores
set_option Elab.async false
set_option linter.all false
set_option maxRecDepth 100000
set_option maxHeartbeats 2000000
/-! E1: values, objects, results of a small evaluator, and how they stand in the layer's heap. -/
namespace Ev
open PySem PySem.Spec PyProof.Rows L2

/-- a value: data, a tracked object, a def, a caught exception -/
inductive W where
  | d (x : PyData)
  | r (i : Nat)
  | fn (f : Str)
  | ex (c : Str)
/-- a tracked object -/
inductive AO where
  | lst (xs : List W)
  | dic (kvs : List (PyData × W))
  | ins (c : Str) (fs : List (Str × W))
  | tup (xs : List W)
  | dead
abbrev AH := List AO
inductive R (α : Type) where
  | ok (a : α) (h : AH)
  | ex (c : Str) (h : AH)
  | no
abbrev M (α : Type) := AH → R α
abbrev EnvW := List (Option W)
abbrev ME := EnvW → M W
inductive Fl where
  | nx (e : EnvW)
  | rt (w : W)
  | bk (e : EnvW)
  | ct (e : EnvW)
abbrev MS := EnvW → M Fl
def mno {α : Type} : M α := fun _ => .no
def mpure {α : Type} (a : α) : M α := fun h => .ok a h
def mbind {α β : Type} (m : M α) (f : α → M β) : M β := fun h => match m h with
  | .ok a h' => f a h'
  | .ex c h' => .ex c h'
  | .no => .no
def mraise {α : Type} (c : Str) : M α := fun h => .ex c h
def mget (i : Nat) : M AO := fun h => match h[i]? with
  | some o => .ok o h
  | none => .no
def mset (i : Nat) (o : AO) : M Unit := fun h => .ok () (h.set i o)
def mnew (o : AO) : M Nat := fun h => .ok h.length (h ++ [o])

/-! ### what is fixed: the written part, the defs' and classes' places -/
abbrev FId := Str × Str
/-- a def of the module -/
abbrev pl (f : Str) : FId := (Str.empty, f)
structure GA where
  K : PySem.W.Frag
  fa : FId → Option Addr
  ca : Str → Option Addr
  xa : Str → Option Addr

/-- a state: the abstract heap, the tracked objects' places, the objects -/
structure Cf where
  H : Hp
  μ : List Addr
  ah : AH
def Cf.live (c : Cf) (a : Addr) : Prop := ∃ i : Nat, c.μ[i]? = some a

/-- a tuple of the module's own -/
def TK (K : PySem.W.Frag) (a : Addr) (xs : List V) : Prop := ∃ (o : Obj) (its : Array Value) (n : Nat), K.lookup a = some o ∧ o.cls = .type "tuple" ∧ o.data = .seq its n ∧ its.size ≤ sizeLine ∧ Vals xs its.toList
def keyD : Key → PyData
  | .inl i => .int i
  | .inr x => .str x
mutual
/-- data at a value -/
inductive Rp (K : PySem.W.Frag) (c : Cf) : V → PyData → Prop
  | non : Rp K c .non .none
  | bl (b : Bool) : Rp K c (.bl b) (.bool b)
  | int (i : Int) : Rp K c (.int i) (.int i)
  | str (x : Str) : Rp K c (.str x) (.str x)
  | lst {a : Addr} {xs : List V} {ds : List PyData} : ¬ c.live a → Rd c.H a (.lst xs) → RpL K c xs ds → Rp K c (.ref a) (.list ds)
  | tup {a : Addr} {xs : List V} {ds : List PyData} : ¬ c.live a → Rd c.H a (.tup xs) → RpL K c xs ds → Rp K c (.ref a) (.tuple ds)
  | tupK {a : Addr} {xs : List V} {ds : List PyData} : TK K a xs → RpL K c xs ds → Rp K c (.ref a) (.tuple ds)
  | dic {a : Addr} {xs : List (Key × V)} {ds : List (PyData × PyData)} : ¬ c.live a → Rd c.H a (.dK xs) → RpD K c xs ds → Rp K c (.ref a) (.dict ds)
inductive RpL (K : PySem.W.Frag) (c : Cf) : List V → List PyData → Prop
  | nil : RpL K c [] []
  | cons {v : V} {vs : List V} {d : PyData} {ds : List PyData} : Rp K c v d → RpL K c vs ds → RpL K c (v :: vs) (d :: ds)
inductive RpD (K : PySem.W.Frag) (c : Cf) : List (Key × V) → List (PyData × PyData) → Prop
  | nil : RpD K c [] []
  | cons {k : Key} {v : V} {vs : List (Key × V)} {d : PyData} {ds : List (PyData × PyData)} : Rp K c v d → RpD K c vs ds → RpD K c ((k, v) :: vs) ((keyD k, d) :: ds)
end
/-- an exception object of the class C at a -/
def ExO (a C : Addr) : Heap → Prop := fun h => ∃ oe vs, h.get? a = some oe ∧ oe.cls = .ref C ∧ oe.dict = none ∧ oe.data = .fields vs
/-- a value -/
def RW (G : GA) (c : Cf) (v : V) : W → Prop
  | .d x => Rp G.K c v x
  | .r i => ∃ a, v = .ref a ∧ c.μ[i]? = some a
  | .fn f => ∃ a, v = .ref a ∧ G.fa (pl f) = some a
  | .ex k => ∃ a C, v = .ref a ∧ G.xa k = some C ∧ ¬ c.live a ∧ c.H a = some (.ext (ExO a C))
abbrev RWL (G : GA) (c : Cf) : List V → List W → Prop := Paired (RW G c)
/-- an object -/
def OR (G : GA) (c : Cf) (a : Addr) : AO → Prop
  | .lst ws => ∃ xs, c.H a = some (.lst xs) ∧ RWL G c xs ws
  | .dic kvs => ∃ xs, c.H a = some (.dK xs) ∧ Paired (fun (p : Key × V) (q : PyData × W) => q.1 = keyD p.1 ∧ RW G c p.2 q.2) xs kvs
  | .ins k fs => ∃ C dx xs, c.H a = some (.ins C dx xs) ∧ G.ca k = some C ∧ Paired (fun (p : Str × V) (q : Str × W) => p.1 = q.1 ∧ RW G c p.2 q.2) xs fs
  | .tup ws => ∃ xs, c.H a = some (.tup xs) ∧ RWL G c xs ws
  | .dead => ∃ o, c.H a = some o
structure Cf.ok (G : GA) (c : Cf) : Prop where
  len : c.μ.length = c.ah.length
  nd : c.μ.Nodup
  obj : ∀ (i : Nat) (a : Addr) (o : AO), c.μ[i]? = some a → c.ah[i]? = some o → OR G c a o

/-- what stays from state to state: the objects' places, what is not tracked, what is locked -/
structure Cf.ext (c c' : Cf) : Prop where
  pre : ∀ (i : Nat) (a : Addr), c.μ[i]? = some a → c'.μ[i]? = some a
  keep : ∀ (a : Addr) (o : HO), c.H a = some o → ¬ c.live a → c'.H a = some o ∧ ¬ c'.live a
  dead : ∀ (i : Nat) (a : Addr) (o : HO), c.μ[i]? = some a → c.ah[i]? = some .dead → c.H a = some o → c'.H a = some o ∧ c'.ah[i]? = some .dead
theorem Cf.ext.rd {c c' : Cf} (e : c.ext c') {a : Addr} {u : HO} (h : Rd c.H a u) (l : ¬ c.live a) : Rd c'.H a u ∧ ¬ c'.live a := by
  rcases h with h | ⟨o, h⟩
  · exact ⟨.inl (e.keep a _ h l).1, (e.keep a _ h l).2⟩
  · exact ⟨.inr ⟨o, (e.keep a _ h l).1⟩, (e.keep a _ h l).2⟩
theorem Cf.ext.refl (c : Cf) : c.ext c := ⟨fun _ _ h => h, fun _ _ h l => ⟨h, l⟩, fun _ _ _ _ h1 h2 => ⟨h2, h1⟩⟩
theorem Cf.ext.trans {c c1 c2 : Cf} (a : c.ext c1) (b : c1.ext c2) : c.ext c2 :=
  ⟨fun i x h => b.pre i x (a.pre i x h), fun x u h l => by
    obtain ⟨h1, l1⟩ := a.keep x u h l
    exact b.keep x u h1 l1, fun i x o h1 h2 h3 => by
    obtain ⟨h4, h5⟩ := a.dead i x o h1 h2 h3
    exact b.dead i x o (a.pre i x h1) h5 h4⟩
mutual
theorem Rp.mono {K : PySem.W.Frag} {c c' : Cf} (e : c.ext c') : ∀ {d : PyData} {v : V}, Rp K c v d → Rp K c' v d
  | _, _, .non => .non
  | _, _, .bl b => .bl b
  | _, _, .int i => .int i
  | _, _, .str x => .str x
  | _, _, .lst l h r => .lst (e.rd h l).2 (e.rd h l).1 (RpL.mono e r)
  | _, _, .tup l h r => .tup (e.rd h l).2 (e.rd h l).1 (RpL.mono e r)
  | _, _, .tupK h r => .tupK h (RpL.mono e r)
  | _, _, .dic l h r => .dic (e.rd h l).2 (e.rd h l).1 (RpD.mono e r)
theorem RpL.mono {K : PySem.W.Frag} {c c' : Cf} (e : c.ext c') : ∀ {ds : List PyData} {vs : List V}, RpL K c vs ds → RpL K c' vs ds
  | _, _, .nil => .nil
  | _, _, .cons h r => .cons (Rp.mono e h) (RpL.mono e r)
theorem RpD.mono {K : PySem.W.Frag} {c c' : Cf} (e : c.ext c') : ∀ {ds : List (PyData × PyData)} {vs : List (Key × V)}, RpD K c vs ds → RpD K c' vs ds
  | _, _, .nil => .nil
  | _, _, .cons h r => .cons (Rp.mono e h) (RpD.mono e r)
end
theorem RW.mono {G : GA} {c c' : Cf} (e : c.ext c') {v : V} : ∀ {w : W}, RW G c v w → RW G c' v w
  | .d _, h => Rp.mono e h
  | .r _, ⟨a, h1, h2⟩ => ⟨a, h1, e.pre _ _ h2⟩
  | .fn _, h => h
  | .ex _, ⟨a, C, h1, h2, h3, h4⟩ => ⟨a, C, h1, h2, (e.keep a _ h4 h3).2, (e.keep a _ h4 h3).1⟩
theorem RWL.mono {G : GA} {c c' : Cf} (e : c.ext c') {vs : List V} {ws : List W} (h : RWL G c vs ws) : RWL G c' vs ws := L2.Paired.mapP h fun _ _ r => RW.mono e r

/-! ### what is wanted of a result -/
def Po {α : Type} (G : GA) (r : R α) (c : Cf) (F : α → Cf → Prop) (E : Str → Cf → Prop) : Prop := match r with
  | .ok a h => ∀ c', c.ext c' → c'.ok G → c'.ah = h → F a c'
  | .ex k h => ∀ c', c.ext c' → c'.ok G → c'.ah = h → E k c'
  | .no => False
theorem Po.mono {α : Type} {G : GA} {r : R α} {c : Cf} {F F' : α → Cf → Prop} {E E' : Str → Cf → Prop} (h : Po G r c F E) (hF : ∀ a c', c.ext c' → c'.ok G → F a c' → F' a c') (hE : ∀ k c', c.ext c' → c'.ok G → E k c' → E' k c') : Po G r c F' E' := by
  cases r with
  | ok a h' => exact fun c' e o q => hF a c' e o (h c' e o q)
  | ex k h' => exact fun c' e o q => hE k c' e o (h c' e o q)
  | no => exact h
theorem Po.bind {α β : Type} {G : GA} {m : M α} {f : α → M β} {c : Cf} {F : β → Cf → Prop} {E : Str → Cf → Prop} (h : Po G (mbind m f c.ah) c F E) : Po G (m c.ah) c (fun a c1 => Po G (f a c1.ah) c1 F E) E := by
  unfold mbind at h
  cases q : m c.ah with
  | ok a h' =>
    rw [q] at h
    intro c1 e1 o1 q1
    subst q1
    exact Po.later e1 h
  | ex k h' =>
    rw [q] at h
    exact h
  | no =>
    rw [q] at h
    exact h
where
  Po.later {α : Type} {G : GA} {r : R α} {c c1 : Cf} {F : α → Cf → Prop} {E : Str → Cf → Prop} (e : c.ext c1) (h : Po G r c F E) : Po G r c1 F E := by
    cases r with
    | ok a h' => exact fun c' e' o q => h c' (e.trans e') o q
    | ex k h' => exact fun c' e' o q => h c' (e.trans e') o q
    | no => exact h

/-! ### states made of states -/
theorem OR.mono {G : GA} {c c' : Cf} (e : c.ext c') {a : Addr} (h : c'.H a = c.H a) : ∀ {o : AO}, OR G c a o → OR G c' a o
  | .lst _, ⟨xs, h1, r⟩ => ⟨xs, h.trans h1, RWL.mono e r⟩
  | .dic _, ⟨xs, h1, r⟩ => ⟨xs, h.trans h1, L2.Paired.mapP r fun _ _ q => ⟨q.1, RW.mono e q.2⟩⟩
  | .ins _ _, ⟨C, dx, xs, h1, h2, r⟩ => ⟨C, dx, xs, h.trans h1, h2, L2.Paired.mapP r fun _ _ q => ⟨q.1, RW.mono e q.2⟩⟩
  | .tup _, ⟨xs, h1, r⟩ => ⟨xs, h.trans h1, RWL.mono e r⟩
  | .dead, ⟨o, h1⟩ => ⟨o, h.trans h1⟩
theorem OR.there {G : GA} {c : Cf} {a : Addr} : ∀ {o : AO}, OR G c a o → ∃ u, c.H a = some u
  | .lst _, ⟨xs, h1, _⟩ => ⟨_, h1⟩
  | .dic _, ⟨xs, h1, _⟩ => ⟨_, h1⟩
  | .ins _ _, ⟨C, dx, xs, h1, _⟩ => ⟨_, h1⟩
  | .tup _, ⟨xs, h1, _⟩ => ⟨_, h1⟩
  | .dead, ⟨o, h1⟩ => ⟨_, h1⟩
theorem Cf.ok.there {G : GA} {c : Cf} (k : c.ok G) {i : Nat} {a : Addr} (h : c.μ[i]? = some a) : ∃ u, c.H a = some u := by
  obtain ⟨hl, _⟩ := List.getElem?_eq_some_iff.mp h
  have hl2 : i < c.ah.length := by rw [← k.len]; exact hl
  exact (k.obj i a _ h (List.getElem?_eq_getElem hl2)).there
theorem Cf.ok.at {G : GA} {c : Cf} (k : c.ok G) {i : Nat} {o : AO} (h : c.ah[i]? = some o) : ∃ a, c.μ[i]? = some a ∧ OR G c a o := by
  obtain ⟨hl, _⟩ := List.getElem?_eq_some_iff.mp h
  have hl2 : i < c.μ.length := by rw [k.len]; exact hl
  exact ⟨_, List.getElem?_eq_getElem hl2, k.obj i _ o (List.getElem?_eq_getElem hl2) h⟩
theorem Cf.ok.inj {G : GA} {c : Cf} (k : c.ok G) {i j : Nat} {a : Addr} (h : c.μ[i]? = some a) (h' : c.μ[j]? = some a) : i = j := by
  obtain ⟨h1, e1⟩ := List.getElem?_eq_some_iff.mp h
  obtain ⟨h2, e2⟩ := List.getElem?_eq_some_iff.mp h'
  exact (List.getElem_inj k.nd).mp (e1.trans e2.symm)
/-- an untracked new object -/
def Cf.lay (c : Cf) (p : Addr) (o : HO) : Cf := { c with H := upd c.H p o }
theorem Cf.lay_ext {c : Cf} {p : Addr} {o : HO} (hp : c.H p = none) : c.ext (c.lay p o) :=
  ⟨fun _ _ h => h, fun a u h l => ⟨by show upd c.H p o a = some u; rw [upd_ne (ne_of_none h hp)]; exact h, l⟩, fun i a u _ h2 h3 => ⟨by show upd c.H p o a = some u; rw [upd_ne (ne_of_none h3 hp)]; exact h3, h2⟩⟩
theorem Cf.lay_ok {G : GA} {c : Cf} {p : Addr} {o : HO} (k : c.ok G) (hp : c.H p = none) : (c.lay p o).ok G :=
  ⟨k.len, k.nd, fun i a u h1 h2 => by
    obtain ⟨v, hv⟩ := k.there h1
    exact (k.obj i a u h1 h2).mono (Cf.lay_ext hp) (by show upd c.H p o a = c.H a; rw [upd_ne (ne_of_none hv hp)])⟩
theorem Cf.lay_live {G : GA} {c : Cf} {p : Addr} {o : HO} (k : c.ok G) (hp : c.H p = none) : ¬ (c.lay p o).live p := fun ⟨i, h1⟩ => by
  obtain ⟨v, hv⟩ := k.there (show c.μ[i]? = some p from h1)
  rw [hp] at hv; cases hv
/-- a tracked new object -/
def Cf.new (c : Cf) (p : Addr) (o : HO) (ao : AO) : Cf := ⟨upd c.H p o, c.μ ++ [p], c.ah ++ [ao]⟩
theorem Cf.new_ext {G : GA} {c : Cf} {p : Addr} {o : HO} {ao : AO} (k : c.ok G) (hp : c.H p = none) : c.ext (c.new p o ao) :=
  ⟨fun i a h => by
    show (c.μ ++ [p])[i]? = some a
    rw [List.getElem?_append_left (List.getElem?_eq_some_iff.mp h).1]; exact h,
   fun a u h l => ⟨by show upd c.H p o a = some u; rw [upd_ne (ne_of_none h hp)]; exact h, fun ⟨i, h1⟩ => by
    have h1' : (c.μ ++ [p])[i]? = some a := h1
    by_cases hi : i < c.μ.length
    · rw [List.getElem?_append_left hi] at h1'
      exact l ⟨i, h1'⟩
    · rw [List.getElem?_append_right (Nat.le_of_not_lt hi)] at h1'
      have e : p = a := by
        cases q : i - c.μ.length with
        | zero => rw [q] at h1'; simpa using h1'
        | succ n => rw [q] at h1'; simp at h1'
      rw [← e, hp] at h; cases h⟩,
   fun i a u h1 h2 h3 => ⟨by show upd c.H p o a = some u; rw [upd_ne (ne_of_none h3 hp)]; exact h3, by
    show (c.ah ++ [ao])[i]? = some .dead
    rw [List.getElem?_append_left (List.getElem?_eq_some_iff.mp h2).1]; exact h2⟩⟩
theorem Cf.new_ok {G : GA} {c : Cf} {p : Addr} {o : HO} {ao : AO} (k : c.ok G) (hp : c.H p = none) (hn : OR G (c.new p o ao) p ao) : (c.new p o ao).ok G := by
  have ex := Cf.new_ext (o := o) (ao := ao) k hp
  refine ⟨by show (c.μ ++ [p]).length = (c.ah ++ [ao]).length; simp [k.len], ?_, fun i a u h1 h2 => ?_⟩
  · show (c.μ ++ [p]).Nodup
    rw [List.nodup_append]
    refine ⟨k.nd, by simp, fun a ha b hb => ?_⟩
    have e : b = p := by simpa using hb
    subst e
    obtain ⟨i, h⟩ := List.getElem?_of_mem ha
    obtain ⟨v, hv⟩ := k.there h
    exact ne_of_none hv hp
  · have h1' : (c.μ ++ [p])[i]? = some a := h1
    have h2' : (c.ah ++ [ao])[i]? = some u := h2
    by_cases hi : i < c.μ.length
    · rw [List.getElem?_append_left hi] at h1'
      rw [List.getElem?_append_left (by rw [← k.len]; exact hi)] at h2'
      obtain ⟨v, hv⟩ := k.there h1'
      exact (k.obj i a u h1' h2').mono ex (by show upd c.H p o a = c.H a; rw [upd_ne (ne_of_none hv hp)])
    · have hi2 : i = c.μ.length := by
        have : i < (c.μ ++ [p]).length := (List.getElem?_eq_some_iff.mp h1').1
        simp at this; omega
      subst hi2
      have e : p = a := by simpa using h1'
      rw [k.len] at h2'
      have e2 : ao = u := by simpa using h2'
      rw [← e, ← e2]; exact hn
/-- a tracked object changed -/
def Cf.put (c : Cf) (i : Nat) (a : Addr) (o : HO) (ao : AO) : Cf := ⟨upd c.H a o, c.μ, c.ah.set i ao⟩
theorem Cf.put_ext {G : GA} {c : Cf} {i : Nat} {a : Addr} {o : HO} {ao old : AO} (k : c.ok G) (h : c.μ[i]? = some a) (ho : c.ah[i]? = some old) (hd : old ≠ .dead) : c.ext (c.put i a o ao) :=
  ⟨fun _ _ h => h, fun b u hb l => by
    have ne : b ≠ a := fun e => l (e ▸ ⟨i, h⟩)
    exact ⟨by show upd c.H a o b = some u; rw [upd_ne ne]; exact hb, l⟩, fun j b u h1 h2 h3 => by
    have hj : i ≠ j := fun e => hd (by rw [← e, ho] at h2; exact Option.some.inj h2)
    have ne : b ≠ a := fun e => hj (k.inj h (e ▸ h1))
    exact ⟨by show upd c.H a o b = some u; rw [upd_ne ne]; exact h3, by show (c.ah.set i ao)[j]? = some .dead; rw [List.getElem?_set_ne hj]; exact h2⟩⟩
theorem Cf.put_ok {G : GA} {c : Cf} {i : Nat} {a : Addr} {o : HO} {ao old : AO} (k : c.ok G) (h : c.μ[i]? = some a) (ho : c.ah[i]? = some old) (hd : old ≠ .dead) (hn : OR G (c.put i a o ao) a ao) : (c.put i a o ao).ok G := by
  refine ⟨by show c.μ.length = (c.ah.set i ao).length; rw [List.length_set]; exact k.len, k.nd, fun j b u h1 h2 => ?_⟩
  have h1' : c.μ[j]? = some b := h1
  have h2' : (c.ah.set i ao)[j]? = some u := h2
  by_cases hj : i = j
  · subst hj
    rw [h] at h1'; cases h1'
    have hl : i < c.ah.length := (List.getElem?_eq_some_iff.mp ho).1
    rw [List.getElem?_set_self hl] at h2'
    cases h2'
    exact hn
  · rw [List.getElem?_set_ne hj] at h2'
    have ne : b ≠ a := fun e => hj (k.inj h (e ▸ h1'))
    exact (k.obj j b u h1' h2').mono (Cf.put_ext k h ho hd) (by show upd c.H a o b = c.H b; rw [upd_ne ne])
/-- states that differ in the objects alone: values are the same -/
theorem Rp.same {K : PySem.W.Frag} {c c' : Cf} (hH : c'.H = c.H) (hm : c'.μ = c.μ) {d : PyData} {v : V} (h : Rp K c v d) : Rp K c' v d := by
  obtain ⟨H, μ, ah⟩ := c
  obtain ⟨H', μ', ah'⟩ := c'
  simp only at hH hm
  subst hH hm
  exact Rp.same' h
where
  Rp.same' {K : PySem.W.Frag} {H : Hp} {μ : List Addr} {ah ah' : AH} : ∀ {d : PyData} {v : V}, Rp K ⟨H, μ, ah⟩ v d → Rp K ⟨H, μ, ah'⟩ v d
    | _, _, .non => .non
    | _, _, .bl b => .bl b
    | _, _, .int i => .int i
    | _, _, .str x => .str x
    | _, _, .lst l h r => .lst l h (RpL.same' r)
    | _, _, .tup l h r => .tup l h (RpL.same' r)
    | _, _, .tupK h r => .tupK h (RpL.same' r)
    | _, _, .dic l h r => .dic l h (RpD.same' r)
  RpL.same' {K : PySem.W.Frag} {H : Hp} {μ : List Addr} {ah ah' : AH} : ∀ {d : List PyData} {v : List V}, RpL K ⟨H, μ, ah⟩ v d → RpL K ⟨H, μ, ah'⟩ v d
    | _, _, .nil => .nil
    | _, _, .cons h r => .cons (Rp.same' h) (RpL.same' r)
  RpD.same' {K : PySem.W.Frag} {H : Hp} {μ : List Addr} {ah ah' : AH} : ∀ {d : List (PyData × PyData)} {v : List (Key × V)}, RpD K ⟨H, μ, ah⟩ v d → RpD K ⟨H, μ, ah'⟩ v d
    | _, _, .nil => .nil
    | _, _, .cons h r => .cons (Rp.same' h) (RpD.same' r)
theorem RW.same {G : GA} {c c' : Cf} (hH : c'.H = c.H) (hm : c'.μ = c.μ) {v : V} : ∀ {w : W}, RW G c v w → RW G c' v w
  | .d _, h => Rp.same hH hm h
  | .r _, ⟨a, h1, h2⟩ => ⟨a, h1, by rw [hm]; exact h2⟩
  | .fn _, h => h
  | .ex _, ⟨a, C, h1, h2, h3, h4⟩ => ⟨a, C, h1, h2, fun ⟨i, q⟩ => h3 ⟨i, by rw [← hm]; exact q⟩, by rw [hH]; exact h4⟩
theorem OR.same {G : GA} {c c' : Cf} (hH : c'.H = c.H) (hm : c'.μ = c.μ) {a : Addr} : ∀ {o : AO}, OR G c a o → OR G c' a o
  | .lst _, ⟨xs, h1, r⟩ => ⟨xs, by rw [hH]; exact h1, L2.Paired.mapP r fun _ _ q => RW.same hH hm q⟩
  | .dic _, ⟨xs, h1, r⟩ => ⟨xs, by rw [hH]; exact h1, L2.Paired.mapP r fun _ _ q => ⟨q.1, RW.same hH hm q.2⟩⟩
  | .ins _ _, ⟨C, dx, xs, h1, h2, r⟩ => ⟨C, dx, xs, by rw [hH]; exact h1, h2, L2.Paired.mapP r fun _ _ q => ⟨q.1, RW.same hH hm q.2⟩⟩
  | .tup _, ⟨xs, h1, r⟩ => ⟨xs, by rw [hH]; exact h1, L2.Paired.mapP r fun _ _ q => RW.same hH hm q⟩
  | .dead, ⟨o, h1⟩ => ⟨o, by rw [hH]; exact h1⟩
/-- an object locked, and unlocked -/
def Cf.obj (c : Cf) (i : Nat) (ao : AO) : Cf := { c with ah := c.ah.set i ao }
theorem Cf.lock_ok {G : GA} {c : Cf} {i : Nat} (k : c.ok G) : (c.obj i .dead).ok G := by
  refine ⟨by show c.μ.length = (c.ah.set i .dead).length; rw [List.length_set]; exact k.len, k.nd, fun j b u h1 h2 => ?_⟩
  have h1' : c.μ[j]? = some b := h1
  have h2' : (c.ah.set i .dead)[j]? = some u := h2
  by_cases hj : i = j
  · subst hj
    have hl : i < c.ah.length := by
      have := (List.getElem?_eq_some_iff.mp h2').1
      rwa [List.length_set] at this
    rw [List.getElem?_set_self hl] at h2'
    cases h2'
    exact k.there h1'
  · rw [List.getElem?_set_ne hj] at h2'
    exact OR.same (c := c) (c' := c.obj i .dead) rfl rfl (k.obj j b u h1' h2')
theorem Cf.lock_ext {c : Cf} {i : Nat} : c.ext (c.obj i .dead) :=
  ⟨fun _ _ h => h, fun _ _ h l => ⟨h, l⟩, fun j b u h1 h2 h3 => ⟨h3, by
    show (c.ah.set i .dead)[j]? = some .dead
    by_cases hj : i = j
    · subst hj
      exact List.getElem?_set_self (List.getElem?_eq_some_iff.mp h2).1
    · rw [List.getElem?_set_ne hj]; exact h2⟩⟩
theorem Cf.unlock {G : GA} {c c3 : Cf} {i : Nat} {ao : AO} {a : Addr} {o : HO} (k : c.ok G) (hi : c.μ[i]? = some a) (ho : c.ah[i]? = some ao) (hd : ao ≠ .dead) (hH : c.H a = some o) (hor : ∀ c', c'.H a = some o → c.ext c' → OR G c' a ao) (ex : (c.obj i .dead).ext c3) (k3 : c3.ok G) :
    c.ext (c3.obj i ao) ∧ (c3.obj i ao).ok G := by
  have hl : i < c.ah.length := (List.getElem?_eq_some_iff.mp ho).1
  have hd3 := ex.dead i a o hi (by show (c.ah.set i .dead)[i]? = some .dead; exact List.getElem?_set_self hl) hH
  have exu : c.ext (c3.obj i ao) := by
    refine ⟨fun j b h => ex.pre j b h, fun b u h l => ex.keep b u h l, fun j b u h1 h2 h3 => ?_⟩
    have hj : i ≠ j := fun e => hd (by rw [← e, ho] at h2; exact Option.some.inj h2)
    obtain ⟨h4, h5⟩ := ex.dead j b u h1 (by show (c.ah.set i .dead)[j]? = some .dead; rw [List.getElem?_set_ne hj]; exact h2) h3
    exact ⟨h4, by show (c3.ah.set i ao)[j]? = some .dead; rw [List.getElem?_set_ne hj]; exact h5⟩
  refine ⟨exu, ⟨by show c3.μ.length = (c3.ah.set i ao).length; rw [List.length_set]; exact k3.len, k3.nd, fun j b u h1 h2 => ?_⟩⟩
  have h1' : c3.μ[j]? = some b := h1
  have h2' : (c3.ah.set i ao)[j]? = some u := h2
  by_cases hj : i = j
  · subst hj
    rw [ex.pre i a hi] at h1'; cases h1'
    rw [List.getElem?_set_self (List.getElem?_eq_some_iff.mp hd3.2).1] at h2'
    cases h2'
    exact hor _ hd3.1 exu
  · rw [List.getElem?_set_ne hj] at h2'
    exact OR.same (c := c3) (c' := c3.obj i ao) rfl rfl (k3.obj j b u h1' h2')
end Ev
set_option Elab.async false
set_option linter.all false
set_option maxRecDepth 100000
set_option maxHeartbeats 2000000
/-! E2: what soundness says; the context. -/
namespace Ev
open PySem PySem.Spec PyProof.Rows L2

structure Sc where
  N : List Str
  scope : Scope
  own : Str → Bool
structure Tb where
  defs : List Str
  clss : List Str
  excs : List Str
  cons : List (Str × PyData)
  free : List Str
  flds : List Str
  meths : List FId
  sups : List (Str × List Str)
  xt : List Str
  dfls : List (FId × Nat × List PyData) := []
  kwds : List (FId × Nat × List Str) := []
  nopos : List FId := []
def Tb.catches (T : Tb) (c x : Str) : Bool := match T.sups.lookup c with
  | some l => l.contains x
  | none => false

def EnvR (G : GA) (c : Cf) (env : EnvW) (σ : L2.St) : Prop := env.length = σ.length ∧ ∀ (i : Nat) (w : W), env[i]? = some (some w) → ∃ v, σ[i]? = some (some v) ∧ RW G c v w
theorem EnvR.mono {G : GA} {c c' : Cf} {env : EnvW} {σ : L2.St} (e : c.ext c') (h : EnvR G c env σ) : EnvR G c' env σ :=
  ⟨h.1, fun i w q => let ⟨v, h1, h2⟩ := h.2 i w q; ⟨v, h1, RW.mono e h2⟩⟩
theorem EnvR.set {G : GA} {c : Cf} {env : EnvW} {σ : L2.St} (h : EnvR G c env σ) {i : Nat} {v : V} {w : W} (r : RW G c v w) : EnvR G c (env.set i (some w)) (σ.set i (some v)) := by
  refine ⟨by simp [h.1], fun j u q => ?_⟩
  by_cases hj : i = j
  · subst hj
    by_cases hl : i < env.length
    · rw [List.getElem?_set_self hl] at q
      cases q
      exact ⟨v, List.getElem?_set_self (by rw [← h.1]; exact hl), r⟩
    · rw [List.getElem?_eq_none (by simpa using hl)] at q; cases q
  · rw [List.getElem?_set_ne hj] at q ⊢
    exact h.2 j u q
theorem EnvR.unset {G : GA} {c : Cf} {env : EnvW} {σ : L2.St} (h : EnvR G c env σ) {i : Nat} {s : Option V} : EnvR G c (env.set i none) (σ.set i s) := by
  refine ⟨by simp [h.1], fun j u q => ?_⟩
  by_cases hj : i = j
  · subst hj
    by_cases hl : i < env.length
    · rw [List.getElem?_set_self hl] at q
      cases q
    · rw [List.getElem?_eq_none (by simpa using hl)] at q; cases q
  · rw [List.getElem?_set_ne hj] at q ⊢
    exact h.2 j u q

/-- an exception of the class called e -/
def WEx (G : GA) (Wx : WX) (e : Str) (σ : L2.St) (H : Hp) : Prop := ∀ C, G.xa e = some C → Wx (.ref C) none σ H
def tE (G : GA) (Wx : WX) (m : ME) : TE := fun σ H Q => ∃ c env, c.H = H ∧ c.ok G ∧ EnvR G c env σ ∧ Po G (m env c.ah) c (fun w c' => ∀ v, RW G c' v w → Q v c'.H) (fun e c' => WEx G Wx e σ c'.H)
def tT (G : GA) (Wx : WX) (m : EnvW → M Bool) : TT := fun σ H Q => ∃ c env, c.H = H ∧ c.ok G ∧ EnvR G c env σ ∧ Po G (m env c.ah) c (fun b c' => Q b c'.H) (fun e c' => WEx G Wx e σ c'.H)
def tA (G : GA) (Wx : WX) (m : EnvW → M (List W)) : TA := fun σ H Q => ∃ c env, c.H = H ∧ c.ok G ∧ EnvR G c env σ ∧ Po G (m env c.ah) c (fun ws c' => ∀ vs, RWL G c' vs ws → Q vs c'.H) (fun e c' => WEx G Wx e σ c'.H)
def FlP (G : GA) (D : Ends) (fl : Fl) (c' : Cf) : Prop := match fl with
  | .nx env' => ∀ σ', EnvR G c' env' σ' → D.nx σ' c'.H
  | .rt w => ∀ v, RW G c' v w → D.rt v c'.H
  | .bk env' => ∀ σ', EnvR G c' env' σ' → D.bk σ' c'.H
  | .ct env' => ∀ σ', EnvR G c' env' σ' → D.ct σ' c'.H
def tS (G : GA) (Ex : XK) (m : MS) : TS := fun D σ H => ∃ c env, c.H = H ∧ c.ok G ∧ EnvR G c env σ ∧ Po G (m env c.ah) c (FlP G D) (fun e c' => ∀ C, G.xa e = some C → Ex (.ref C) none c'.H)

/-- a def's promise by its result -/
def spM (G : GA) (m : List W → M W) (n : Nat) : Sp := fun vs H Q E => vs.length = n ∧ ∃ c ws, c.H = H ∧ c.ok G ∧ RWL G c vs ws ∧ Po G (m ws c.ah) c (fun w c' => ∀ v, RW G c' v w → Q v c'.H) (fun e c' => ∀ C, G.xa e = some C → E (.ref C) none c'.H)

/-- how a def's parameters are bound: all written, the last ones lacking, the last ones by their names -/
structure BindsD (T : Tb) (G : GA) (K : PySem.W.Frag) (f : FId) (fd : FuncData) (ps : List Str) : Prop where
  pos : T.nopos.contains f = false → Binds K fd ps []
  dfl : ∀ n ds, T.dfls.lookup f = some (n, ds) → ps.length = n + ds.length ∧ ∃ dvs us, Vals dvs us ∧ (∀ c, RpL G.K c dvs ds) ∧ Binds K fd ps us
  kwd : ∀ n ks, T.kwds.lookup f = some (n, ks) → ps.length = n + ks.length ∧ KBn K fd ps n ks (fun us ws => us ++ ws) (fun vs zs => vs ++ zs)
/-- what the top has left, for a context -/
structure Top (T : Tb) (G : GA) (CM : FId → List W → M W) (k : Nat) (X : Cx) : Prop where
  fn : ∀ f a, G.fa f = some a → ∃ fd ps, FnOk X.prog X.w X.K X.mg X.base (CX X.prog X.w) (2 * k) a fd ps (spM G (CM f) ps.length) ∧ BindsD T G X.K f fd ps ∧ PySem.W.keepIn X.K (.ref a) = true ∧ ∀ ws h, ws.length ≠ ps.length → CM f ws h = .no
  def_ : ∀ f, f ∈ T.defs → ∃ a, G.fa (pl f) = some a ∧ X.mg f = some (.ref a)
  con : ∀ x d, T.cons.lookup x = some d → ∃ u v, X.mg x = some u ∧ RelV v u ∧ ∀ c, Rp G.K c v d
  free : ∀ x, x ∈ T.free → X.mg x = none
  exc : ∀ x, x ∈ T.excs → ∃ Ca, G.xa x = some Ca ∧ X.mg x = some (.ref Ca) ∧ PySem.W.excIn X.K Ca [.type "LookupError", .type "Exception", .type "BaseException", .type "object"] "LookupError.__new__" = true ∧ PySem.W.keepIn X.K (.ref Ca) = true ∧ Raises X (.ref Ca)
  cls : ∀ x, x ∈ T.clss → ∃ Ca fi, G.ca x = some Ca ∧ X.mg x = some (.ref Ca) ∧ Mk X.K Ca fi ∧ G.fa (x, "__init__") = some fi
  own : ∀ x Ca, G.ca x = some Ca → Cls X.K Ca ∧ ∀ f, f ∈ T.flds → NoAttr X.K Ca f
  meth : ∀ x m, (x, m) ∈ T.meths → ∃ Ca a, G.ca x = some Ca ∧ G.fa (x, m) = some a ∧ Meth X.K Ca m a
  isx : ∀ x, x ∈ T.xt → ∃ v u, (X.mg x = some u ∨ (X.mg x = none ∧ bootBuiltins x = some u)) ∧ ClsV v u ∧ RelV v u ∧ ∀ c C, G.xa c = some C → ExcC X.K C ∧ PySem.W.kitOne X.K (.ref C) u = some (T.catches c x)
  catch_ : ∀ c C x Ca, G.xa c = some C → G.xa x = some Ca → x ∈ T.excs → ∃ b, PySem.W.exmOne X.K (.ref C) (.ref Ca) = some b ∧ b = T.catches c x
structure Fits (T : Tb) (G : GA) (CM : FId → List W → M W) (k : Nat) (X : Cx) (sc : Sc) (Wx : WX) : Prop where
  N : X.N = sc.N
  nd : sc.N.Nodup
  scope : X.env.scope = sc.scope
  K : X.K = G.K
  own : ∀ x, sc.own x = true → X.fn x = true
  calm : X.calm = true
  room : Room (2 * k + 1) X.A
  takes : Takes X Wx
  top : Top T G CM k X

section
variable (T : Tb) (G : GA) (CM : FId → List W → M W) (k : Nat) (sc : Sc)
def SE (e : Expr) (m : ME) : Prop := ∀ X Wx, Fits T G CM k X sc Wx → PE X e (tE G Wx m)
def ST (e : Expr) (m : EnvW → M Bool) : Prop := ∀ X Wx, Fits T G CM k X sc Wx → PT X e (tT G Wx m)
def SA (es : List Expr) (m : EnvW → M (List W)) : Prop := ∀ X Wx, Fits T G CM k X sc Wx → PA X es (tA G Wx m)
/-- statements: exceptions whatever the slots, in a frame of a def -/
def SS (st : Stmt) (m : MS) : Prop := ∀ X Ex, Fits T G CM k X sc (fun cls d _ H => Ex cls d H) → PassesOwn (model X.prog X.w) X.A X.env X.xe → X.stack = X.env :: X.outer → (X.env.frame = some X.env.locals ∧ X.ex = []) → PS X st (tS G Ex m)
def SSs (sts : List Stmt) (m : MS) : Prop := ∀ X Ex, Fits T G CM k X sc (fun cls d _ H => Ex cls d H) → PassesOwn (model X.prog X.w) X.A X.env X.xe → X.stack = X.env :: X.outer → (X.env.frame = some X.env.locals ∧ X.ex = []) → PSs X sts (tS G Ex m)
end

theorem PE.imp {X : Cx} {e : Expr} {t t' : TE} (h : PE X e t) (i : ∀ σ H Q, t' σ H Q → t σ H Q) : PE X e t' := ⟨fun p s σ H Q I q => h.run p s σ H Q I (i _ _ _ q)⟩
theorem PT.imp {X : Cx} {e : Expr} {t t' : TT} (h : PT X e t) (i : ∀ σ H Q, t' σ H Q → t σ H Q) : PT X e t' := ⟨fun p s σ H Q I q => h.run p s σ H Q I (i _ _ _ q)⟩
theorem PA.imp {X : Cx} {e : List Expr} {t t' : TA} (h : PA X e t) (i : ∀ σ H Q, t' σ H Q → t σ H Q) : PA X e t' := ⟨fun pos p s σ H Q I q => h.run pos p s σ H Q I (i _ _ _ q)⟩
theorem PS.imp {X : Cx} {e : Stmt} {t t' : TS} (h : PS X e t) (i : ∀ D σ H, t' D σ H → t D σ H) : PS X e t' := ⟨fun p s σ H D I q => h.run p s σ H D I (i _ _ _ q)⟩
theorem PSs.imp {X : Cx} {e : List Stmt} {t t' : TS} (h : PSs X e t) (i : ∀ D σ H, t' D σ H → t D σ H) : PSs X e t' := ⟨fun p s σ H D I q => h.run p s σ H D I (i _ _ _ q)⟩

/-! ### the state behind a part -/
section
variable {G : GA} {Wx : WX} {σ : L2.St}
/-- the reading of a part in the midst: m then f -/
theorem tE.step {m : ME} {c : Cf} {env : EnvW} {β : Type} {f : W → M β} {F : β → Cf → Prop} {Q : VK} (k : c.ok G) (r : EnvR G c env σ)
    (h : Po G (mbind (m env) f c.ah) c F (fun e c' => WEx G Wx e σ c'.H))
    (n : ∀ w c1 v, c.ext c1 → c1.ok G → EnvR G c1 env σ → RW G c1 v w → Po G (f w c1.ah) c1 F (fun e c' => WEx G Wx e σ c'.H) → Q v c1.H) : tE G Wx m σ c.H Q :=
  ⟨c, env, rfl, k, r, Po.mono (Po.bind h) (fun w c1 e o q v rv => n w c1 v e o (r.mono e) rv q) fun _ _ _ _ q => q⟩
theorem tT.step {m : EnvW → M Bool} {c : Cf} {env : EnvW} {β : Type} {f : Bool → M β} {F : β → Cf → Prop} {Q : Bool → Hp → Prop} (k : c.ok G) (r : EnvR G c env σ)
    (h : Po G (mbind (m env) f c.ah) c F (fun e c' => WEx G Wx e σ c'.H))
    (n : ∀ w c1, c.ext c1 → c1.ok G → EnvR G c1 env σ → Po G (f w c1.ah) c1 F (fun e c' => WEx G Wx e σ c'.H) → Q w c1.H) : tT G Wx m σ c.H Q :=
  ⟨c, env, rfl, k, r, Po.mono (Po.bind h) (fun w c1 e o q => n w c1 e o (r.mono e) q) fun _ _ _ _ q => q⟩
theorem tA.step {m : EnvW → M (List W)} {c : Cf} {env : EnvW} {β : Type} {f : List W → M β} {F : β → Cf → Prop} {Q : List V → Hp → Prop} (k : c.ok G) (r : EnvR G c env σ)
    (h : Po G (mbind (m env) f c.ah) c F (fun e c' => WEx G Wx e σ c'.H))
    (n : ∀ w c1 v, c.ext c1 → c1.ok G → EnvR G c1 env σ → RWL G c1 v w → Po G (f w c1.ah) c1 F (fun e c' => WEx G Wx e σ c'.H) → Q v c1.H) : tA G Wx m σ c.H Q :=
  ⟨c, env, rfl, k, r, Po.mono (Po.bind h) (fun w c1 e o q v rv => n w c1 v e o (r.mono e) rv q) fun _ _ _ _ q => q⟩
end
/-- a result that stays where it is -/
theorem Po.here {α : Type} {G : GA} {a : α} {c : Cf} {F : α → Cf → Prop} {E : Str → Cf → Prop} (h : Po G (.ok a c.ah) c F E) (k : c.ok G) : F a c := h c (Cf.ext.refl c) k rfl
theorem Po.at {α : Type} {G : GA} {a : α} {c c' : Cf} {F : α → Cf → Prop} {E : Str → Cf → Prop} (h : Po G (.ok a c'.ah) c F E) (e : c.ext c') (k : c'.ok G) : F a c' := h c' e k rfl

/-! ### names, constants -/
def slot (sc : Sc) (x : Str) : Option Nat := if x == ("__debug__" : Str) || x == ("__classdict__" : Str) then none else match sc.scope.names.lookup x with
  | some .local => sc.N.idxOf? x
  | some .cell => sc.N.idxOf? x
  | some .free => sc.N.idxOf? x
  | _ => none
def isGlob (sc : Sc) (x : Str) : Bool := !(x == ("__debug__" : Str)) && !(x == ("__name__" : Str)) && match sc.scope.names.lookup x with
  | some .globalImplicit => true
  | _ => false
def mVar (i : Nat) : ME := fun env h => match env[i]? with
  | some (some w) => .ok w h
  | _ => .no
def mC (w : W) : ME := fun _ h => .ok w h
def evName (T : Tb) (sc : Sc) (x : Str) : ME := match slot sc x with
  | some i => mVar i
  | none => if isGlob sc x then (match T.cons.lookup x with
    | some d => mC (.d d)
    | none => if T.defs.contains x then mC (.fn x) else fun _ => mno) else fun _ => mno
theorem slot_ok {sc : Sc} {x : Str} {i : Nat} (h : slot sc x = some i) : sc.N[i]? = some x ∧ Vis sc.scope x ∧ (x == ("__debug__" : Str)) = false ∧ (x == ("__classdict__" : Str)) = false := by
  unfold slot at h
  split at h
  · cases h
  · rename_i hd
    have hd' : (x == ("__debug__" : Str)) = false ∧ (x == ("__classdict__" : Str)) = false := by
      simpa [Bool.or_eq_false_iff] using hd
    have fin : ∀ {i}, sc.N.idxOf? x = some i → sc.N[i]? = some x := fun {i} q => by
      unfold List.idxOf? at q
      obtain ⟨hl, h1, _⟩ := List.findIdx?_eq_some_iff_getElem.mp q
      rw [List.getElem?_eq_getElem hl]
      exact congrArg some (by simpa using h1)
    split at h
    · rename_i hk; exact ⟨fin h, .inl hk, hd'⟩
    · rename_i hk; exact ⟨fin h, .inr (.inl hk), hd'⟩
    · rename_i hk; exact ⟨fin h, .inr (.inr hk), hd'⟩
    · cases h
theorem glob_ok {sc : Sc} {x : Str} (h : isGlob sc x = true) : sc.scope.names.lookup x = some .globalImplicit ∧ (x == ("__debug__" : Str)) = false ∧ x ≠ "__name__" := by
  unfold isGlob at h
  simp only [Bool.and_eq_true, Bool.not_eq_true'] at h
  obtain ⟨⟨h1, h2⟩, h3⟩ := h
  refine ⟨?_, h1, fun e => ?_⟩
  · split at h3
    · assumption
    · cases h3
  · rw [e] at h2
    simp at h2
section
variable {T : Tb} {G : GA} {CM : FId → List W → M W} {k : Nat} {sc : Sc}
theorem se_no {e : Expr} : SE T G CM k sc e (fun _ => mno) := fun X Wx F => ⟨fun p s σ H Q I h => by
  obtain ⟨c, env, _, _, _, h⟩ := h
  exact h.elim⟩
theorem se_var {x : Str} {pos : Pos} {i : Nat} (h : slot sc x = some i) : SE T G CM k sc (.Name x pos) (mVar i) := fun X Wx F => by
  obtain ⟨h1, h2, h3, h4⟩ := slot_ok h
  refine PE.imp (pe_var (X := X) (i := i) (pos := pos) (by rw [F.N]; exact h1) (by rw [F.scope]; exact h2) h3 h4) fun σ H Q q => ?_
  obtain ⟨c, env, rfl, ok, r, q⟩ := q
  unfold mVar at q
  split at q
  · rename_i w hw
    obtain ⟨v, hv, rv⟩ := r.2 i w hw
    exact ⟨v, hv, q.here ok v rv⟩
  · exact q.elim
theorem Fits.gl {X : Cx} {Wx : WX} (F : Fits T G CM k X sc Wx) {x : Str} (h : isGlob sc x = true) : Gl X x := by
  show X.env.scope.names.lookup x = some .globalImplicit
  rw [F.scope]; exact (glob_ok h).1
theorem se_name {x : Str} {pos : Pos} : SE T G CM k sc (.Name x pos) (evName T sc x) := by
  unfold evName
  split
  · rename_i i h; exact se_var h
  · split
    · rename_i hg
      split
      · rename_i d hd
        intro X Wx F
        obtain ⟨u, v, h1, h2, h3⟩ := F.top.con x d hd
        refine PE.imp (pe_glob (X := X) (pos := pos) (F.gl hg) h1 h2 (glob_ok hg).2.1) fun σ H Q q => ?_
        obtain ⟨c, env, rfl, ok, r, q⟩ := q
        exact Po.here (a := W.d d) q ok v (h3 c)
      · split
        · rename_i hc
          intro X Wx F
          obtain ⟨a, h1, h2⟩ := F.top.def_ x (by simpa using hc)
          refine PE.imp (pe_glob (X := X) (v := .ref a) (pos := pos) (F.gl hg) h2 rfl (glob_ok hg).2.1) fun σ H Q q => ?_
          obtain ⟨c, env, rfl, ok, r, q⟩ := q
          exact Po.here (a := W.fn x) q ok _ ⟨a, rfl, h1⟩
        · exact se_no
    · exact se_no
def evConst : Const → ME
  | .int i => mC (.d (.int i))
  | .str x => mC (.d (.str x))
  | .bool b => mC (.d (.bool b))
  | .none => mC (.d .none)
  | _ => fun _ => mno
theorem se_const {x : Const} {j : Nat} {pos : Pos} : SE T G CM k sc (.Constant x j pos) (evConst x) := by
  cases x with
  | int i => exact fun X Wx F => PE.imp pe_int fun σ H Q ⟨c, env, e, ok, r, q⟩ => by subst e; exact Po.here (a := W.d (.int i)) q ok _ (.int i)
  | str i => exact fun X Wx F => PE.imp pe_str fun σ H Q ⟨c, env, e, ok, r, q⟩ => by subst e; exact Po.here (a := W.d (.str i)) q ok _ (.str i)
  | bool i => exact fun X Wx F => PE.imp pe_bl fun σ H Q ⟨c, env, e, ok, r, q⟩ => by subst e; exact Po.here (a := W.d (.bool i)) q ok _ (.bl i)
  | none => exact fun X Wx F => PE.imp pe_non fun σ H Q ⟨c, env, e, ok, r, q⟩ => by subst e; exact Po.here (a := W.d .none) q ok _ .non
  | _ => exact se_no
end
end Ev
set_option Elab.async false
set_option linter.all false
set_option maxRecDepth 100000
set_option maxHeartbeats 2000000
/-! E3: operators, comparisons, and, or, not, if. -/
namespace Ev
open PySem PySem.Spec PyProof.Rows L2

def VQ (G : GA) (Q : VK) : W → Cf → Prop := fun w c' => ∀ v, RW G c' v w → Q v c'.H
def Op2 (G : GA) (f : W → W → M W) (r : R2) : Prop := ∀ (c : Cf) (x y : V) (a b : W) (Q : VK) (E : Str → Cf → Prop), c.ok G → RW G c x a → RW G c y b → Po G (f a b c.ah) c (VQ G Q) E → r x y c.H Q
def Op1 (G : GA) (f : W → M W) (r : V → Hp → VK → Prop) : Prop := ∀ (c : Cf) (x : V) (a : W) (Q : VK) (E : Str → Cf → Prop), c.ok G → RW G c x a → Po G (f a c.ah) c (VQ G Q) E → r x c.H Q
def wI (i : Int) : W := .d (.int i)
def wB (b : Bool) : W := .d (.bool b)
def wS (x : Str) : W := .d (.str x)

section
variable {G : GA} {c : Cf}
theorem rInt {v : V} {i : Int} (h : RW G c v (wI i)) : v = .int i := by cases (show Rp G.K c v (.int i) from h); rfl
theorem rBool {v : V} {i : Bool} (h : RW G c v (wB i)) : v = .bl i := by cases (show Rp G.K c v (.bool i) from h); rfl
theorem rStr {v : V} {i : Str} (h : RW G c v (wS i)) : v = .str i := by cases (show Rp G.K c v (.str i) from h); rfl
theorem rNon {v : V} (h : RW G c v (.d .none)) : v = .non := by cases (show Rp G.K c v .none from h); rfl
theorem rTup {v : V} {ds : List PyData} (h : RW G c v (.d (.tuple ds))) : ∃ a xs, v = .ref a ∧ SqT G.K c.H a xs ∧ RpL G.K c xs ds := by
  cases (show Rp G.K c v (.tuple ds) from h) with
  | tup l1 h1 r1 => exact ⟨_, _, rfl, .inl h1, r1⟩
  | tupK h1 r1 => exact ⟨_, _, rfl, .inr h1, r1⟩
theorem rLst {v : V} {ds : List PyData} (h : RW G c v (.d (.list ds))) : ∃ a xs, v = .ref a ∧ SqL G.K c.H a xs ∧ RpL G.K c xs ds := by
  cases (show Rp G.K c v (.list ds) from h) with
  | lst l1 h1 r1 => exact ⟨_, _, rfl, .inl h1, r1⟩
theorem rRef {v : V} {i : Nat} {o : AO} (k : c.ok G) (h : RW G c v (.r i)) (ho : c.ah[i]? = some o) : ∃ a, v = .ref a ∧ c.μ[i]? = some a ∧ OR G c a o := by
  obtain ⟨a, h1, h2⟩ := h
  exact ⟨a, h1, h2, k.obj i a o h2 ho⟩
theorem RpL.length {K : PySem.W.Frag} : ∀ {xs : List V} {ds : List PyData}, RpL K c xs ds → xs.length = ds.length
  | _, _, .nil => rfl
  | _, _, .cons _ r => by simp [RpL.length r]
theorem RpL.append {K : PySem.W.Frag} : ∀ {xs ys : List V} {ds es : List PyData}, RpL K c xs ds → RpL K c ys es → RpL K c (xs ++ ys) (ds ++ es)
  | _, _, _, _, .nil, s => s
  | _, _, _, _, .cons h r, s => .cons h (RpL.append r s)
theorem RpL.take {K : PySem.W.Frag} : ∀ {xs : List V} {ds : List PyData} (n : Nat), RpL K c xs ds → RpL K c (xs.take n) (ds.take n)
  | _, _, 0, _ => .nil
  | _, _, _ + 1, .nil => .nil
  | _, _, n + 1, .cons h r => .cons h (RpL.take n r)
theorem RpL.drop {K : PySem.W.Frag} : ∀ {xs : List V} {ds : List PyData} (n : Nat), RpL K c xs ds → RpL K c (xs.drop n) (ds.drop n)
  | _, _, 0, r => r
  | _, _, _ + 1, .nil => .nil
  | _, _, n + 1, .cons _ r => RpL.drop n r
theorem RpL.get {K : PySem.W.Frag} : ∀ {xs : List V} {ds : List PyData} {i : Nat} {d : PyData}, RpL K c xs ds → ds[i]? = some d → ∃ v, xs[i]? = some v ∧ Rp K c v d
  | _, _, _, _, .nil, e => by simp at e
  | _, _, 0, _, .cons h _, e => by simp at e; subst e; exact ⟨_, rfl, h⟩
  | _, _, i + 1, d, .cons _ t, e => by
    obtain ⟨v, h1, h2⟩ := RpL.get (i := i) (d := d) t (by simpa using e)
    exact ⟨v, by simpa using h1, h2⟩
theorem RWL.get : ∀ {xs : List V} {ws : List W} {i : Nat} {w : W}, RWL G c xs ws → ws[i]? = some w → ∃ v, xs[i]? = some v ∧ RW G c v w
  | _, _, _, _, .nil, e => by simp at e
  | _, _, 0, _, .cons h _, e => by simp at e; subst e; exact ⟨_, rfl, h⟩
  | _, _, i + 1, d, .cons _ t, e => by
    obtain ⟨v, h1, h2⟩ := RWL.get (i := i) (w := d) t (by simpa using e)
    exact ⟨v, by simpa using h1, h2⟩
theorem RWL.append : ∀ {xs ys : List V} {ds es : List W}, RWL G c xs ds → RWL G c ys es → RWL G c (xs ++ ys) (ds ++ es)
  | _, _, _, _, .nil, s => s
  | _, _, _, _, .cons h r, s => .cons h (RWL.append r s)
/-- a new list, tracked -/
theorem new_list {xs : List V} {ws : List W} {p : Addr} {Q : VK} {E : Str → Cf → Prop} (k : c.ok G) (r : RWL G c xs ws) (hp : c.H p = none) (h : Po G (.ok (W.r c.ah.length) (c.ah ++ [.lst ws])) c (VQ G Q) E) : Q (.ref p) (upd c.H p (.lst xs)) := by
  have ex := Cf.new_ext (o := .lst xs) (ao := .lst ws) k hp
  have ok : (c.new p (.lst xs) (.lst ws)).ok G := Cf.new_ok k hp ⟨xs, upd_same, RWL.mono ex r⟩
  refine Po.at (c' := c.new p (.lst xs) (.lst ws)) h ex ok (.ref p) ⟨p, rfl, ?_⟩
  show (c.μ ++ [p])[c.ah.length]? = some p
  rw [← k.len]; simp
/-- a new tuple that holds objects, tracked -/
theorem new_tupW {xs : List V} {ws : List W} {p : Addr} {Q : VK} {E : Str → Cf → Prop} (k : c.ok G) (r : RWL G c xs ws) (hp : c.H p = none) (h : Po G (.ok (W.r c.ah.length) (c.ah ++ [.tup ws])) c (VQ G Q) E) : Q (.ref p) (upd c.H p (.tup xs)) := by
  have ex := Cf.new_ext (o := .tup xs) (ao := .tup ws) k hp
  have ok : (c.new p (.tup xs) (.tup ws)).ok G := Cf.new_ok k hp ⟨xs, upd_same, RWL.mono ex r⟩
  refine Po.at (c' := c.new p (.tup xs) (.tup ws)) h ex ok (.ref p) ⟨p, rfl, ?_⟩
  show (c.μ ++ [p])[c.ah.length]? = some p
  rw [← k.len]; simp
/-- a new tuple -/
theorem new_tup {xs : List V} {ds : List PyData} {p : Addr} {Q : VK} {E : Str → Cf → Prop} (k : c.ok G) (r : RpL G.K c xs ds) (hp : c.H p = none) (h : Po G (.ok (W.d (.tuple ds)) c.ah) c (VQ G Q) E) : Q (.ref p) (upd c.H p (.tup xs)) := by
  have ex := Cf.lay_ext (o := .tup xs) hp
  exact Po.at (c' := c.lay p (.tup xs)) h ex (Cf.lay_ok k hp) (.ref p) (.tup (Cf.lay_live k hp) (.inl upd_same) (RpL.mono ex r))
end

/-! ### binary operators -/
def bAdd (a b : W) : M W := fun h => match a, b with
  | .d (.int i), .d (.int j) => .ok (wI (i + j)) h
  | .d (.str x), .d (.str y) => if x.length + y.length ≤ sizeLine then .ok (wS (x ++ y)) h else .no
  | .d (.tuple x), .d (.tuple y) => if x.length + y.length ≤ sizeLine then .ok (.d (.tuple (x ++ y))) h else .no
  | .r i, .r j => (match h[i]?, h[j]? with
    | some (.lst x), some (.lst y) => if x.length + y.length ≤ sizeLine then .ok (.r h.length) (h ++ [.lst (x ++ y)]) else .no
    | _, _ => .no)
  | _, _ => .no
def bSub (a b : W) : M W := fun h => match a, b with
  | .d (.int i), .d (.int j) => .ok (wI (i - j)) h
  | _, _ => .no
def small64 (i : Int) : Bool := decide (i.natAbs < 18446744073709551616)
theorem small64_ok {i : Int} (h : small64 i = true) : -(2 ^ 64) < i ∧ i < 2 ^ 64 := by
  have h := of_decide_eq_true h
  omega
def small63 (j : Int) : Bool := decide (j.natAbs < 9223372036854775808)
theorem small63_ok {i : Int} (h : small63 i = true) : -(2 ^ 63) ≤ i ∧ i < 2 ^ 63 := by
  have h := of_decide_eq_true h
  omega
def bMul (a b : W) : M W := fun h => match a, b with
  | .d (.int i), .d (.int j) => if small64 i || small64 j then .ok (wI (i * j)) h else .no
  | .r i, .d (.int j) => (match h[i]? with
    | some (.lst x) => if small63 j && decide (x.length * j.toNat ≤ sizeLine) then .ok (.r h.length) (h ++ [.lst (List.replicate j.toNat x).flatten]) else .no
    | _ => .no)
  | _, _ => .no
def bDiv (a b : W) : M W := fun h => match a, b with
  | .d (.int i), .d (.int j) => if decide (0 < j) && decide (j < 1073741824) then .ok (wI (i / j)) h else .no
  | _, _ => .no
def bMod (a b : W) : M W := fun h => match a, b with
  | .d (.int i), .d (.int j) => if 0 < j then .ok (wI (i % j)) h else .no
  | _, _ => .no
def bPow (a b : W) : M W := fun h => match a, b with
  | .d (.int i), .d (.int j) => if (decide (0 ≤ j) && decide (j ≤ 1000000)) && decide (i.natAbs < 2 ^ 64) then .ok (wI (i ^ j.toNat)) h else .no
  | _, _ => .no
def bop : Operator → W → W → M W
  | .Add => bAdd
  | .Sub => bSub
  | .Mult => bMul
  | .FloorDiv => bDiv
  | .Mod => bMod
  | .Pow => bPow
  | _ => fun _ _ => mno

section
variable {X : Cx} {G : GA} (hK : X.K = G.K)
include hK
theorem add_ok : ∃ r, OpR X (binaryOp .Add) r ∧ Op2 G bAdd r := by
  refine ⟨_, (op_add.or (op_add_str.or (op_catA.or op_cat))), fun c x y a b Q E k rx ry h => ?_⟩
  unfold bAdd at h
  split at h
  · rename_i i j
    rw [rInt rx, rInt ry]
    exact .inl ⟨i, j, rfl, rfl, h.here k _ (.int _)⟩
  · rename_i i j
    rw [rStr rx, rStr ry]
    split at h
    · rename_i hz
      exact .inr (.inl ⟨i, j, rfl, rfl, hz, h.here k _ (.str _)⟩)
    · exact h.elim
  · rename_i i j
    split at h
    · rename_i hz
      obtain ⟨p, xs, rfl, h1, r1⟩ := rTup rx
      obtain ⟨q, ys, rfl, h2, r2⟩ := rTup ry
      refine .inr (.inr (.inl ⟨p, q, xs, ys, rfl, rfl, by rw [hK]; exact h1, by rw [hK]; exact h2, by rw [r1.length, r2.length]; exact hz, fun e => ?_, fun _ e => ?_, fun _ _ p hp => ?_⟩))
      · subst e
        cases r1
        exact h.here k _ ry
      · subst e
        cases r2
        rw [List.append_nil] at h
        exact h.here k _ rx
      · exact new_tup k (r1.append r2) hp h
    · exact h.elim
  · rename_i i j
    split at h
    · rename_i xs ys e1 e2
      obtain ⟨p, rfl, h1, us, hu, r1⟩ := rRef k rx e1
      obtain ⟨q, rfl, h2, vs, hv, r2⟩ := rRef k ry e2
      split at h
      · rename_i hz
        exact .inr (.inr (.inr ⟨p, q, us, vs, rfl, rfl, hu, hv, by rw [Paired.length r1, Paired.length r2]; exact hz, fun l hl => new_list k (RWL.append r1 r2) hl h⟩))
      · exact h.elim
    · exact h.elim
  · exact h.elim
theorem sub_ok : ∃ r, OpR X (binaryOp .Sub) r ∧ Op2 G bSub r := by
  refine ⟨_, op_sub, fun c x y a b Q E k rx ry h => ?_⟩
  unfold bSub at h
  split at h
  · rename_i i j
    rw [rInt rx, rInt ry]
    exact ⟨i, j, rfl, rfl, h.here k _ (.int _)⟩
  · exact h.elim
theorem RWL.rep {c : Cf} {xs : List V} {ws : List W} (h : RWL G c xs ws) : ∀ n : Nat, RWL G c (List.replicate n xs).flatten (List.replicate n ws).flatten
  | 0 => .nil
  | n + 1 => by
    rw [List.replicate_succ, List.replicate_succ, List.flatten_cons, List.flatten_cons]
    exact RWL.append h (RWL.rep h n)
theorem mul_ok : ∃ r, OpR X (binaryOp .Mult) r ∧ Op2 G bMul r := by
  refine ⟨_, op_mul.or op_rep, fun c x y a b Q E k rx ry h => ?_⟩
  unfold bMul at h
  split at h
  · rename_i i j
    rw [rInt rx, rInt ry]
    split at h
    · rename_i hz
      refine .inl ⟨i, j, rfl, rfl, ?_, h.here k _ (.int _)⟩
      rcases Bool.or_eq_true_iff.mp hz with q | q
      · exact .inl (small64_ok q)
      · exact .inr (small64_ok q)
    · exact h.elim
  · rename_i i j
    split at h
    · rename_i xs e1
      obtain ⟨p, rfl, h1, us, hu, r1⟩ := rRef k rx e1
      rw [rInt ry]
      split at h
      · rename_i hz
        obtain ⟨hz1, hz2⟩ := Bool.and_eq_true_iff.mp hz
        exact .inr ⟨p, j, us, rfl, rfl, hu, (small63_ok hz1).1, (small63_ok hz1).2, by rw [Paired.length r1]; exact of_decide_eq_true hz2, fun l hl => new_list k (RWL.rep hK r1 _) hl h⟩
      · exact h.elim
    · exact h.elim
  · exact h.elim
theorem div_ok : ∃ r, OpR X (binaryOp .FloorDiv) r ∧ Op2 G bDiv r := by
  refine ⟨_, op_fdiv, fun c x y a b Q E k rx ry h => ?_⟩
  unfold bDiv at h
  split at h
  · rename_i i j
    rw [rInt rx, rInt ry]
    split at h
    · rename_i hz
      simp only [Bool.and_eq_true, decide_eq_true_eq] at hz
      exact ⟨i, j, rfl, rfl, hz, h.here k _ (.int _)⟩
    · exact h.elim
  · exact h.elim
theorem mod_ok : ∃ r, OpR X (binaryOp .Mod) r ∧ Op2 G bMod r := by
  refine ⟨_, op_mod, fun c x y a b Q E k rx ry h => ?_⟩
  unfold bMod at h
  split at h
  · rename_i i j
    rw [rInt rx, rInt ry]
    split at h
    · rename_i hz
      exact ⟨i, j, rfl, rfl, hz, h.here k _ (.int _)⟩
    · exact h.elim
  · exact h.elim
theorem pow_ok : ∃ r, OpR X (binaryOp .Pow) r ∧ Op2 G bPow r := by
  refine ⟨_, op_pow, fun c x y a b Q E k rx ry h => ?_⟩
  unfold bPow at h
  split at h
  · rename_i i j
    rw [rInt rx, rInt ry]
    split at h
    · rename_i hz
      simp only [Bool.and_eq_true, decide_eq_true_eq] at hz
      exact ⟨i, j, rfl, rfl, ⟨hz.1.1, hz.1.2, hz.2⟩, h.here k _ (.int _)⟩
    · exact h.elim
  · exact h.elim
theorem bop_ok (op : Operator) : ∃ r, OpR X (binaryOp op) r ∧ Op2 G (bop op) r := by
  cases op with
  | Add => exact add_ok hK
  | Sub => exact sub_ok hK
  | Mult => exact mul_ok hK
  | FloorDiv => exact div_ok hK
  | Mod => exact mod_ok hK
  | Pow => exact pow_ok hK
  | _ => exact ⟨fun _ _ _ _ => False, fun _ _ _ _ _ _ _ _ _ _ _ _ z => z.elim, fun _ _ _ _ _ _ _ _ _ _ z => z.elim⟩
end
def eBin (op : Operator) (a b : ME) : ME := fun env => mbind (a env) fun x => mbind (b env) fun y => bop op x y
section
variable {T : Tb} {G : GA} {CM : FId → List W → M W} {k : Nat} {sc : Sc} {a b e : Expr} {ma mb mc : ME} {pos : Pos}
theorem se_bin {op : Operator} (ha : SE T G CM k sc a ma) (hb : SE T G CM k sc b mb) : SE T G CM k sc (.BinOp a op b pos) (eBin op ma mb) := fun X Wx F => by
  obtain ⟨r, h1, h2⟩ := bop_ok (X := X) (G := G) F.K op
  refine PE.imp (pe_op h1 (ha X Wx F) (hb X Wx F)) fun σ H Q ⟨c, env, e, ok, re, q⟩ => ?_
  subst e
  refine tE.step ok re q fun w c1 v e1 ok1 re1 rv q1 => tE.step ok1 re1 q1 fun w2 c2 v2 e2 ok2 re2 rv2 q2 => ?_
  exact h2 c2 v v2 w w2 Q _ ok2 (RW.mono e2 rv) rv2 q2
end
end Ev
set_option Elab.async false
set_option linter.all false
set_option maxRecDepth 100000
set_option maxHeartbeats 2000000
/-! E4: comparisons, and, or, not, if. -/
namespace Ev
open PySem PySem.Spec PyProof.Rows L2

def allD : List W → Option (List PyData)
  | [] => some []
  | .d x :: r => (allD r).map (x :: ·)
  | _ => none
def peek (h : AH) : W → Option PyData
  | .d x => some x
  | .r i => (match h[i]? with
    | some (.lst ws) => (allD ws).map .list
    | _ => none)
  | _ => none
mutual
theorem Rp.dp {K : PySem.W.Frag} {c : Cf} : ∀ {d : PyData} {v : V}, Rp K c v d → d.canLay0 = true → Dp K c.H v d
  | _, _, .non, _ => .non
  | _, _, .bl b, _ => .bl b
  | _, _, .int i, _ => .int i
  | _, _, .str x, _ => .str x
  | .list ds, _, .lst _ h r, k => .lst (.inl h) (RpL.dp r (by simpa [PyData.canLay0] using k))
  | .tuple ds, _, .tup _ h r, k => .tup (.inl h) (RpL.dp r (by simpa [PyData.canLay0] using k))
  | .tuple ds, _, .tupK h r, k => .tup (.inr h) (RpL.dp r (by simpa [PyData.canLay0] using k))
  | .dict _, _, .dic _ _ _, k => by simp [PyData.canLay0] at k
theorem RpL.dp {K : PySem.W.Frag} {c : Cf} : ∀ {ds : List PyData} {vs : List V}, RpL K c vs ds → PyData.canLayAll0 ds = true → DpAll K c.H vs ds
  | _, _, .nil, _ => .nil
  | d :: ds, _, .cons h r, k => by
    have k' : d.canLay0 = true ∧ PyData.canLayAll0 ds = true := by simpa [PyData.canLayAll0] using k
    exact .cons (Rp.dp h k'.1) (RpL.dp r k'.2)
end
section
variable {G : GA} {c : Cf}
theorem allD_ok : ∀ {ws : List W} {ds : List PyData} {xs : List V}, allD ws = some ds → RWL G c xs ws → RpL G.K c xs ds
  | [], ds, xs, h, r => by
    cases h
    cases r
    exact .nil
  | .d x :: ws, ds, xs, h, r => by
    cases r with
    | cons r1 r2 =>
      unfold allD at h
      cases q : allD ws with
      | none => rw [q] at h; cases h
      | some es =>
        rw [q] at h
        cases h
        exact .cons r1 (allD_ok q r2)
  | .r _ :: _, _, _, h, _ => by cases h
  | .fn _ :: _, _, _, h, _ => by cases h
  | .ex _ :: _, _, _, h, _ => by cases h
/-- the data at a value, by what the layer reads -/
theorem peek_dp {w : W} {d : PyData} {v : V} (k : c.ok G) (r : RW G c v w) (h : peek c.ah w = some d) (hl : d.canLay0 = true) : Dp G.K c.H v d := by
  cases w with
  | d x =>
    cases h
    exact Rp.dp r hl
  | r i =>
    simp only [peek] at h
    split at h
    · rename_i ws e
      obtain ⟨a, rfl, h1, xs, hx, rx⟩ := rRef k r e
      cases q : allD ws with
      | none => rw [q] at h; cases h
      | some ds =>
        rw [q] at h
        cases h
        exact .lst (.inl (.inl hx)) (RpL.dp (allD_ok q rx) (by simpa [PyData.canLay0] using hl))
    · cases h
  | fn f => cases h
  | ex f => cases h
end

/-! ### comparisons -/
def cEq (neg : Bool) (a b : W) : M W := fun h => match peek h a, peek h b with
  | some x, some y => if SeqAt.shaped x && SeqAt.shaped y then .ok (wB (if neg then !PyData.eqv x y else PyData.eqv x y)) h else .no
  | _, _ => .no
def cInt (p : Int → Int → Bool) (a b : W) : M W := fun h => match a, b with
  | .d (.int i), .d (.int j) => .ok (wB (p i j)) h
  | _, _ => .no
def cLe (a b : W) : M W := fun h => match a, b with
  | .d (.int i), .d (.int j) => .ok (wB (decide (i ≤ j))) h
  | .d (.str i), .d (.str j) => .ok (wB (!decide (j.cps.toList < i.cps.toList))) h
  | _, _ => .no
def flatD : PyData → Bool
  | .none | .bool _ | .int _ | .str _ => true
  | _ => false
def seqD : PyData → Option (List PyData)
  | .list ds => some ds
  | .tuple ds => some ds
  | _ => none
def inStr (x z : Str) : Bool := match x.cps.toList with
  | [c] => decide (c ∈ z.cps.toList)
  | _ => !(Builtin.Str.occurrences z x 0 z.length 1).isEmpty
def cIn (neg : Bool) (a b : W) : M W := fun h => match a, b with
  | .d (.str x), .d (.str z) => .ok (wB (if neg then !inStr x z else inStr x z)) h
  | .d x, b => (match (peek h b).bind seqD with
    | some ds => if flatD x && ds.all flatD then .ok (wB (if neg then !ds.any fun y => PyData.eqv y x else ds.any fun y => PyData.eqv y x)) h else .no
    | _ => .no)
  | _, _ => .no
def cIs (neg : Bool) (a b : W) : M W := fun h => match a, b with
  | .d (.bool x), .d (.bool y) => .ok (wB (if neg then !decide (x = y) else decide (x = y))) h
  | .d .none, .d .none => .ok (wB (!neg)) h
  | _, .d .none => .ok (wB neg) h
  | _, _ => .no
def cmp : CmpOp → W → W → M W
  | .Eq => cEq false
  | .NotEq => cEq true
  | .Lt => cInt fun i j => decide (i < j)
  | .LtE => cLe
  | .Gt => cInt fun i j => decide (j < i)
  | .GtE => cInt fun i j => decide (j ≤ i)
  | .In => cIn false
  | .NotIn => cIn true
  | .Is => cIs false
  | .IsNot => cIs true

section
variable {X : Cx} {G : GA} (hK : X.K = G.K)
theorem int_ok {f : Value → Value → Sem Value} {p : Int → Int → Bool} (h : OpR X f (rI0 fun i j => .bl (p i j))) : ∃ r, OpR X f r ∧ Op2 G (cInt p) r := by
  refine ⟨_, h, fun c x y a b Q E k rx ry h => ?_⟩
  unfold cInt at h
  split at h
  · rename_i i j
    rw [rInt rx, rInt ry]
    exact ⟨i, j, rfl, rfl, h.here k _ (.bl _)⟩
  · exact h.elim
theorem le_ok : ∃ r, OpR X (compareOp .LtE) r ∧ Op2 G cLe r := by
  refine ⟨_, op_le.or op_le_str, fun c x y a b Q E k rx ry h => ?_⟩
  unfold cLe at h
  split at h
  · rename_i i j
    rw [rInt rx, rInt ry]
    exact .inl ⟨i, j, rfl, rfl, h.here k _ (.bl _)⟩
  · rename_i i j
    rw [rStr rx, rStr ry]
    exact .inr ⟨i, j, rfl, rfl, h.here k _ (.bl _)⟩
  · exact h.elim
include hK in
theorem eq_ok (hu : X.A.units + 64 < cLine) : (∃ r, OpR X (compareOp .Eq) r ∧ Op2 G (cEq false) r) ∧ ∃ r, OpR X (compareOp .NotEq) r ∧ Op2 G (cEq true) r := by
  refine ⟨⟨_, op_eqD hu, fun c x y a b Q E k rx ry h => ?_⟩, ⟨_, op_neD hu, fun c x y a b Q E k rx ry h => ?_⟩⟩
  all_goals
    unfold cEq at h
    split at h
    · rename_i d e h1 h2
      split at h
      · rename_i hs
        obtain ⟨hs1, hs2⟩ := Bool.and_eq_true_iff.mp hs
        refine ⟨d, e, ?_, ?_, hs1, hs2, h.here k _ (.bl _)⟩
        · rw [hK]; exact peek_dp k rx h1 (SeqAt.canLay_of_shaped hs1)
        · rw [hK]; exact peek_dp k ry h2 (SeqAt.canLay_of_shaped hs2)
      · exact h.elim
    · exact h.elim
/-- flat data stand as flat values -/
theorem flat_rp {K : PySem.W.Frag} {c : Cf} {v : V} {d : PyData} (h : Rp K c v d) (f : flatD d = true) : flatV v = true := by
  cases h <;> first | rfl | cases f
theorem flat_eq {K : PySem.W.Frag} {c : Cf} {v u : V} {d e : PyData} (h : Rp K c v d) (h' : Rp K c u e) (f : flatD d = true) (f' : flatD e = true) : eqV v u = PyData.eqv d e := by
  cases h <;> first | (cases f; done) | (cases h' <;> first | (cases f'; done) | rfl | simp [eqV, PyData.eqv])
theorem flat_any {K : PySem.W.Frag} {c : Cf} {u : V} {e : PyData} (h' : Rp K c u e) (f' : flatD e = true) : ∀ {xs : List V} {ds : List PyData}, RpL K c xs ds → ds.all flatD = true → xs.all flatV = true ∧ inV u xs = ds.any fun y => PyData.eqv y e
  | _, _, .nil, _ => ⟨rfl, rfl⟩
  | _, _, .cons h r, f => by
    rw [List.all_cons, Bool.and_eq_true] at f
    obtain ⟨i1, i2⟩ := flat_any h' f' r f.2
    refine ⟨by rw [List.all_cons, flat_rp h f.1, i1]; rfl, ?_⟩
    show (eqV _ u || inV u _) = _
    rw [i2, flat_eq h h' f.1 f', List.any_cons]
theorem peek_seq {c : Cf} {w : W} {ds : List PyData} {v : V} (k : c.ok G) (r : RW G c v w) (h : (peek c.ah w).bind seqD = some ds) : ∃ p xs, v = .ref p ∧ (SqL G.K c.H p xs ∨ SqT G.K c.H p xs) ∧ RpL G.K c xs ds := by
  cases w with
  | d x =>
    cases x with
    | list es =>
      cases h
      obtain ⟨p, xs, h1, h2, h3⟩ := rLst r
      exact ⟨p, xs, h1, .inl h2, h3⟩
    | tuple es =>
      cases h
      obtain ⟨p, xs, h1, h2, h3⟩ := rTup r
      exact ⟨p, xs, h1, .inr h2, h3⟩
    | _ => cases h
  | r i =>
    simp only [peek] at h
    split at h
    · rename_i ws e
      obtain ⟨a, rfl, h1, xs, hx, rx⟩ := rRef k r e
      cases q : allD ws with
      | none => rw [q] at h; cases h
      | some es =>
        rw [q] at h
        cases h
        exact ⟨a, xs, rfl, .inl (.inl (.inl hx)), allD_ok q rx⟩
    · cases h
  | fn f => cases h
  | ex f => cases h
theorem inStr_sign {x z : Str} {c : Nat} (h : x.cps.toList = [c]) : x = ⟨#[c]⟩ := by
  obtain ⟨a⟩ := x
  congr 1
  exact Array.toList_inj.mp (by simpa using h)
theorem inStr_cases (x z : Str) : (∃ c, x = ⟨#[c]⟩ ∧ inStr x z = decide (c ∈ z.cps.toList)) ∨ inStr x z = !(Builtin.Str.occurrences z x 0 z.length 1).isEmpty := by
  unfold inStr
  split
  · rename_i c hc
    exact .inl ⟨c, inStr_sign (z := z) hc, rfl⟩
  · exact .inr rfl
include hK in
theorem in_ok : (∃ r, OpR X (compareOp .In) r ∧ Op2 G (cIn false) r) ∧ ∃ r, OpR X (compareOp .NotIn) r ∧ Op2 G (cIn true) r := by
  refine ⟨⟨_, op_in_sign.or (op_in_str.or op_in_seq), fun c x y a b Q E k rx ry h => ?_⟩, ⟨_, op_notIn_sign.or (op_notin_str.or op_notIn_seq), fun c x y a b Q E k rx ry h => ?_⟩⟩
  all_goals
    unfold cIn at h
    split at h
    · rename_i s z
      rw [rStr rx, rStr ry]
      have hq := h.here k _ (.bl _)
      rcases inStr_cases s z with ⟨ch, e1, e2⟩ | e2
      · subst e1
        rw [e2] at hq
        exact .inl ⟨ch, z, rfl, rfl, hq⟩
      · rw [e2] at hq
        exact .inr (.inl ⟨s, z, rfl, rfl, hq⟩)
    · rename_i d b' _
      split at h
      · rename_i ds hds
        split at h
        · rename_i hf
          obtain ⟨f1, f2⟩ := Bool.and_eq_true_iff.mp hf
          obtain ⟨p, xs, rfl, hq, r⟩ := peek_seq k ry hds
          obtain ⟨g1, g2⟩ := flat_any rx f1 r f2
          refine .inr (.inr ⟨p, xs, rfl, by rw [hK]; exact hq, flat_rp rx f1, g1, ?_⟩)
          rw [g2]
          exact h.here k _ (.bl _)
        · exact h.elim
      · exact h.elim
    · exact h.elim
theorem not_non {c : Cf} {v : V} {w : W} (h : RW G c v w) (hn : w ≠ .d .none) : decide (v = .non) = false := by
  refine decide_eq_false fun e => ?_
  subst e
  cases w with
  | d x =>
    cases (show Rp G.K c .non x from h)
    exact hn rfl
  | r i => obtain ⟨a, e, _⟩ := h; cases e
  | fn f => obtain ⟨a, e, _⟩ := h; cases e
  | ex f => obtain ⟨a, C, e, _⟩ := h; cases e
theorem is_ok : (∃ r, OpR X (compareOp .Is) r ∧ Op2 G (cIs false) r) ∧ ∃ r, OpR X (compareOp .IsNot) r ∧ Op2 G (cIs true) r := by
  refine ⟨⟨_, op_isBl.or op_isN, fun c x y a b Q E k rx ry h => ?_⟩, ⟨_, op_notBl.or op_notN, fun c x y a b Q E k rx ry h => ?_⟩⟩
  all_goals
    unfold cIs at h
    split at h
    · rename_i i j
      rw [rBool rx, rBool ry]
      exact .inl ⟨i, j, rfl, rfl, h.here k _ (.bl _)⟩
    · rw [rNon rx, rNon ry]
      exact .inr ⟨rfl, h.here k _ (.bl _)⟩
    · rename_i a hn1
      rw [rNon ry]
      refine .inr ⟨rfl, ?_⟩
      rw [not_non rx (by intro e; exact hn1 e)]
      exact h.here k _ (.bl _)
    · exact h.elim
include hK in
theorem cmp_ok (hu : X.A.units + 64 < cLine) (op : CmpOp) : ∃ r, OpR X (compareOp op) r ∧ Op2 G (cmp op) r := by
  cases op with
  | Eq => exact (eq_ok hK hu).1
  | NotEq => exact (eq_ok hK hu).2
  | Lt => exact int_ok op_lt
  | LtE => exact le_ok
  | Gt => exact int_ok op_gt
  | GtE => exact int_ok op_ge
  | In => exact (in_ok hK).1
  | NotIn => exact (in_ok hK).2
  | Is => exact is_ok.1
  | IsNot => exact is_ok.2
end
end Ev
set_option Elab.async false
set_option linter.all false
set_option maxRecDepth 100000
set_option maxHeartbeats 2000000
/-! E5: expressions of parts: comparisons, and, or, not, if, displays, subscripts. -/
namespace Ev
open PySem PySem.Spec PyProof.Rows L2

def noSet : Expr → Bool
  | .Set .. => false
  | _ => true
theorem noSet_ok {b : Expr} (h : noSet b = true) (op : CmpOp) : behindInMarks op b = false := by
  cases b <;> first | rfl | cases h
def eCmp (op : CmpOp) (a b : ME) : ME := fun env => mbind (a env) fun x => mbind (b env) fun y => cmp op x y
def asB (w : W) : M Bool := match w with
  | .d (.bool b) => mpure b
  | _ => mno
def eCmp2 (op op' : CmpOp) (a b c : ME) : ME := fun env => mbind (a env) fun x => mbind (b env) fun y => mbind (cmp op x y) fun z => mbind (asB z) fun t => if t then mbind (c env) fun w => cmp op' y w else mpure (wB false)
def tst (m : ME) : EnvW → M Bool := fun env => mbind (m env) asB
def eAnd (a : ME) (r : ME) : ME := fun env => mbind (tst a env) fun t => if t then r env else mpure (wB false)
def eOr (a : ME) (r : ME) : ME := fun env => mbind (tst a env) fun t => if t then mpure (wB true) else r env
def eNot (a : ME) : ME := fun env => mbind (tst a env) fun t => mpure (wB (!t))
def eNeg (a : ME) : ME := fun env => mbind (a env) fun x => match x with
  | .d (.int i) => mpure (wI (-i))
  | _ => mno
def eIf (t : EnvW → M Bool) (a b : ME) : ME := fun env => mbind (t env) fun c => if c then a env else b env
def tAndM (a r : EnvW → M Bool) : EnvW → M Bool := fun env => mbind (a env) fun t => if t then r env else mpure false
def tOrM (a r : EnvW → M Bool) : EnvW → M Bool := fun env => mbind (a env) fun t => if t then mpure true else r env
def tNotM (a : EnvW → M Bool) : EnvW → M Bool := fun env => mbind (a env) fun t => mpure (!t)

section
variable {T : Tb} {G : GA} {CM : FId → List W → M W} {k : Nat} {sc : Sc} {a b c e : Expr} {ma mb mc : ME} {pos : Pos}
theorem asB_po {w : W} {c1 : Cf} {β : Type} {f : Bool → M β} {F : β → Cf → Prop} {E : Str → Cf → Prop} {v : V} (ok : c1.ok G) (r : RW G c1 v w) (h : Po G (mbind (asB w) f c1.ah) c1 F E) : ∃ t, v = .bl t ∧ Po G (f t c1.ah) c1 F E := by
  unfold asB at h
  split at h
  · rename_i b
    exact ⟨b, rBool r, Po.here (a := b) (Po.bind h) ok⟩
  · exact h.elim
theorem se_cmp {op : CmpOp} (ha : SE T G CM k sc a ma) (hb : SE T G CM k sc b mb) (hn : noSet b = true) : SE T G CM k sc (.Compare a [op] [b] pos) (eCmp op ma mb) := fun X Wx F => by
  obtain ⟨r, h1, h2⟩ := cmp_ok (X := X) (G := G) F.K F.room.units op
  refine PE.imp (pe_cmpR h1 (ha X Wx F) (hb X Wx F) (noSet_ok hn op)) fun σ H Q ⟨c, env, e, ok, re, q⟩ => ?_
  subst e
  refine tE.step ok re q fun w c1 v e1 ok1 re1 rv q1 => tE.step ok1 re1 q1 fun w2 c2 v2 e2 ok2 re2 rv2 q2 => ?_
  exact h2 c2 v v2 w w2 Q _ ok2 (RW.mono e2 rv) rv2 q2
theorem se_cmp2 {op op' : CmpOp} (ha : SE T G CM k sc a ma) (hb : SE T G CM k sc b mb) (hc : SE T G CM k sc c mc) (hn : noSet c = true) : SE T G CM k sc (.Compare a [op, op'] [b, c] pos) (eCmp2 op op' ma mb mc) := fun X Wx F => by
  obtain ⟨r, h1, h2⟩ := cmp_ok (X := X) (G := G) F.K F.room.units op
  obtain ⟨r', h1', h2'⟩ := cmp_ok (X := X) (G := G) F.K F.room.units op'
  refine PE.imp (pe_chain h1 h1' (ha X Wx F) (hb X Wx F) (hc X Wx F) (by show behindInMarks op' c = false; exact noSet_ok hn op')) fun σ H Q ⟨c, env, e, ok, re, q⟩ => ?_
  subst e
  refine tE.step ok re q fun w c1 v e1 ok1 re1 rv q1 => tE.step ok1 re1 q1 fun w2 c2 v2 e2 ok2 re2 rv2 q2 => ?_
  refine h2 c2 v v2 w w2 _ _ ok2 (RW.mono e2 rv) rv2 (Po.mono (Po.bind q2) (fun z c3 e3 ok3 q3 v3 rv3 => ?_) fun _ _ _ _ q => q)
  obtain ⟨t, rfl, q4⟩ := asB_po ok3 rv3 q3
  refine ⟨t, rfl, ?_⟩
  cases t with
  | true =>
    refine iteT (tE.step ok3 (re2.mono e3) q4 fun w4 c4 v4 e4 ok4 re4 rv4 q5 => ?_)
    exact h2' c4 v2 v4 w2 w4 Q _ ok4 (RW.mono e4 (RW.mono e3 rv2)) rv4 q5
  | false => exact iteF (Po.here (a := wB false) q4 ok3 _ (.bl false))
/-- the value of a part as a bool -/
theorem tB_of {X : Cx} {Wx : WX} {σ : L2.St} {m : ME} {c : Cf} {env : EnvW} {β : Type} {f : Bool → M β} {F : β → Cf → Prop} {R : V → Hp → Prop} (ok : c.ok G) (re : EnvR G c env σ)
    (q : Po G (mbind (tst m env) f c.ah) c F (fun e c' => WEx G Wx e σ c'.H))
    (n : ∀ t c1, c.ext c1 → c1.ok G → EnvR G c1 env σ → Po G (f t c1.ah) c1 F (fun e c' => WEx G Wx e σ c'.H) → R (.bl t) c1.H) : tE G Wx m σ c.H R := by
  refine ⟨c, env, rfl, ok, re, ?_⟩
  have q1 := Po.bind q
  unfold tst at q1
  refine Po.mono (Po.bind q1) (fun w c1 e1 ok1 q2 v rv => ?_) fun _ _ _ _ q => q
  unfold asB at q2
  split at q2
  · rename_i b
    rw [rBool rv]
    exact n b c1 e1 ok1 (re.mono e1) (Po.here (a := b) q2 ok1)
  · exact q2.elim
theorem se_one {op : BoolOp} (ha : SE T G CM k sc a ma) : SE T G CM k sc (.BoolOp op [a] pos) ma := fun X Wx F => pe_one (ha X Wx F)
theorem se_and {rest : List Expr} (ha : SE T G CM k sc a ma) (hb : SE T G CM k sc (.BoolOp .And (b :: rest) pos) mb) : SE T G CM k sc (.BoolOp .And (a :: b :: rest) pos) (eAnd ma mb) := fun X Wx F => by
  refine PE.imp (pe_and (ha X Wx F) (hb X Wx F)) fun σ H Q ⟨c, env, e, ok, re, q⟩ => ?_
  subst e
  refine tB_of (X := X) (R := fun x H1 => ∃ c, x = .bl c ∧ if c = true then tE G Wx mb σ H1 Q else Q (.bl false) H1) ok re q fun t c1 e1 ok1 re1 q1 => ⟨t, rfl, ?_⟩
  cases t with
  | true => exact ⟨c1, env, rfl, ok1, re1, q1⟩
  | false => exact Po.here (a := wB false) q1 ok1 _ (.bl false)
theorem se_or {rest : List Expr} (ha : SE T G CM k sc a ma) (hb : SE T G CM k sc (.BoolOp .Or (b :: rest) pos) mb) : SE T G CM k sc (.BoolOp .Or (a :: b :: rest) pos) (eOr ma mb) := fun X Wx F => by
  refine PE.imp (pe_or (ha X Wx F) (hb X Wx F)) fun σ H Q ⟨c, env, e, ok, re, q⟩ => ?_
  subst e
  refine tB_of (X := X) (R := fun x H1 => ∃ c, x = .bl c ∧ if c = true then Q (.bl true) H1 else tE G Wx mb σ H1 Q) ok re q fun t c1 e1 ok1 re1 q1 => ⟨t, rfl, ?_⟩
  cases t with
  | true => exact Po.here (a := wB true) q1 ok1 _ (.bl true)
  | false => exact ⟨c1, env, rfl, ok1, re1, q1⟩
theorem se_not (ha : SE T G CM k sc a ma) : SE T G CM k sc (.UnaryOp .Not a pos) (eNot ma) := fun X Wx F => by
  refine PE.imp (pe_not (ha X Wx F)) fun σ H Q ⟨c, env, e, ok, re, q⟩ => ?_
  subst e
  exact tB_of (X := X) (R := fun x H1 => ∃ c, x = .bl c ∧ Q (.bl (!c)) H1) ok re q fun t c1 e1 ok1 re1 q1 => ⟨t, rfl, Po.here (a := wB (!t)) q1 ok1 _ (.bl _)⟩
theorem se_neg (ha : SE T G CM k sc a ma) : SE T G CM k sc (.UnaryOp .USub a pos) (eNeg ma) := fun X Wx F => by
  refine PE.imp (pe_un un_neg (ha X Wx F)) fun σ H Q ⟨c, env, e, ok, re, q⟩ => ?_
  subst e
  refine tE.step ok re q fun w c1 v e1 ok1 re1 rv q1 => ?_
  split at q1
  · rename_i i
    exact ⟨i, rInt rv, Po.here (a := wI (-i)) q1 ok1 _ (.int _)⟩
  · exact q1.elim
theorem se_if {mt : EnvW → M Bool} (ht : ST T G CM k sc c mt) (ha : SE T G CM k sc a ma) (hb : SE T G CM k sc b mb) : SE T G CM k sc (.IfExp c a b pos) (eIf mt ma mb) := fun X Wx F => by
  refine PE.imp (pe_ifExp (ht X Wx F) (ha X Wx F) (hb X Wx F)) fun σ H Q ⟨c, env, e, ok, re, q⟩ => ?_
  subst e
  refine tT.step ok re q fun t c1 e1 ok1 re1 q1 => ?_
  cases t with
  | true => exact ⟨c1, env, rfl, ok1, re1, q1⟩
  | false => exact ⟨c1, env, rfl, ok1, re1, q1⟩

/-! ### tests -/
theorem st_no : ST T G CM k sc e (fun _ => mno) := fun X Wx F => ⟨fun p s σ H Q I ⟨c, env, _, _, _, h⟩ => h.elim⟩
theorem tst_imp {X : Cx} {Wx : WX} {m : ME} {σ : L2.St} {H : Hp} {Q : Bool → Hp → Prop} (h : tT G Wx (tst m) σ H Q) : tE G Wx m σ H fun x H1 => ∃ c, x = .bl c ∧ Q c H1 := by
  obtain ⟨c, env, e, ok, re, q⟩ := h
  subst e
  refine ⟨c, env, rfl, ok, re, Po.mono (Po.bind q) (fun w c1 e1 ok1 q2 v rv => ?_) fun _ _ _ _ q => q⟩
  unfold asB at q2
  split at q2
  · rename_i b
    exact ⟨b, rBool rv, Po.here (a := b) q2 ok1⟩
  · exact q2.elim
theorem st_val (h : SE T G CM k sc e ma) (he : ∀ env whole, isTrue e env whole = (do let v ← whole; standAt e.pos; holding [v] (truthy v))) : ST T G CM k sc e (tst ma) := fun X Wx F =>
  PT.imp (pt_val (h X Wx F) (he _)) fun σ H Q q => tst_imp (X := X) q
theorem st_cmp {op : CmpOp} (ha : SE T G CM k sc a ma) (hb : SE T G CM k sc b mb) (hn : noSet b = true) : ST T G CM k sc (.Compare a [op] [b] pos) (tst (eCmp op ma mb)) := fun X Wx F => by
  obtain ⟨r, h1, h2⟩ := cmp_ok (X := X) (G := G) F.K F.room.units op
  refine PT.imp (pt_cmpR h1 (ha X Wx F) (hb X Wx F) (noSet_ok hn op)) fun σ H Q q0 => ?_
  obtain ⟨c, env, e, ok, re, q⟩ := tst_imp (X := X) q0
  subst e
  show tE G Wx ma σ c.H fun x H1 => tE G Wx mb σ H1 fun y H2 => r x y H2 fun z H3 => ∃ k, z = .bl k ∧ Q k H3
  refine tE.step ok re q fun w c1 v e1 ok1 re1 rv q1 => tE.step ok1 re1 q1 fun w2 c2 v2 e2 ok2 re2 rv2 q2 => ?_
  exact h2 c2 v v2 w w2 _ _ ok2 (RW.mono e2 rv) rv2 q2
theorem st_cmp2 {op op' : CmpOp} (ha : SE T G CM k sc a ma) (hb : SE T G CM k sc b mb) (hc : SE T G CM k sc c mc) (hn : noSet c = true) : ST T G CM k sc (.Compare a [op, op'] [b, c] pos) (tst (eCmp2 op op' ma mb mc)) := fun X Wx F => by
  obtain ⟨r, h1, h2⟩ := cmp_ok (X := X) (G := G) F.K F.room.units op
  obtain ⟨r', h1', h2'⟩ := cmp_ok (X := X) (G := G) F.K F.room.units op'
  refine PT.imp (pt_chain h1 h1' (ha X Wx F) (hb X Wx F) (hc X Wx F) (by show behindInMarks op' c = false; exact noSet_ok hn op')) fun σ H Q q0 => ?_
  obtain ⟨c, env, e, ok, re, q⟩ := tst_imp (X := X) q0
  subst e
  show tE G Wx ma σ c.H fun x H1 => tE G Wx mb σ H1 fun y H2 => r x y H2 fun z H3 => ∃ k, z = .bl k ∧ (if k = true then tE G Wx mc σ H3 fun w' H4 => r' y w' H4 (fun x H' => ∃ k, x = .bl k ∧ Q k H') else ∃ k, V.bl false = .bl k ∧ Q k H3)
  refine tE.step ok re q fun w c1 v e1 ok1 re1 rv q1 => tE.step ok1 re1 q1 fun w2 c2 v2 e2 ok2 re2 rv2 q2 => ?_
  refine h2 c2 v v2 w w2 _ _ ok2 (RW.mono e2 rv) rv2 (Po.mono (Po.bind q2) (fun z c3 e3 ok3 q3 v3 rv3 => ?_) fun _ _ _ _ q => q)
  obtain ⟨t, rfl, q4⟩ := asB_po ok3 rv3 q3
  refine ⟨t, rfl, ?_⟩
  cases t with
  | true =>
    refine iteT (tE.step ok3 (re2.mono e3) q4 fun w4 c4 v4 e4 ok4 re4 rv4 q5 => ?_)
    exact h2' c4 v2 v4 w2 w4 _ _ ok4 (RW.mono e4 (RW.mono e3 rv2)) rv4 q5
  | false => exact iteF (Po.here (a := wB false) q4 ok3 _ (.bl false))
def SW (T : Tb) (G : GA) (CM : FId → List W → M W) (k : Nat) (sc : Sc) (e : Expr) (m : EnvW → M Bool) : Prop := ∀ X Wx, Fits T G CM k X sc Wx → PW X e (tT G Wx m)
theorem PW.imp {X : Cx} {e : Expr} {t t' : TT} (h : PW X e t) (i : ∀ σ H Q, t' σ H Q → t σ H Q) : PW X e t' := ⟨fun wh p s σ H Q I q => h.run wh p s σ H Q I (i _ _ _ q)⟩
variable {mt mu : EnvW → M Bool} {rest : List Expr}
theorem sw_and1 (ha : ST T G CM k sc a mt) : SW T G CM k sc (.BoolOp .And [a] pos) mt := fun X Wx F => pw_and1 (ha X Wx F)
theorem sw_or1 (ha : ST T G CM k sc a mt) : SW T G CM k sc (.BoolOp .Or [a] pos) mt := fun X Wx F => pw_or1 (ha X Wx F)
theorem sw_and (ha : ST T G CM k sc a mt) (hb : SW T G CM k sc (.BoolOp .And (b :: rest) pos) mu) : SW T G CM k sc (.BoolOp .And (a :: b :: rest) pos) (tAndM mt mu) := fun X Wx F => by
  refine PW.imp (pw_and (ha X Wx F) (hb X Wx F)) fun σ H Q ⟨c, env, e, ok, re, q⟩ => ?_
  subst e
  refine tT.step ok re q fun t c1 e1 ok1 re1 q1 => ?_
  cases t with
  | true => exact ⟨c1, env, rfl, ok1, re1, q1⟩
  | false => exact Po.here (a := false) q1 ok1
theorem sw_or (ha : ST T G CM k sc a mt) (hb : SW T G CM k sc (.BoolOp .Or (b :: rest) pos) mu) : SW T G CM k sc (.BoolOp .Or (a :: b :: rest) pos) (tOrM mt mu) := fun X Wx F => by
  refine PW.imp (pw_or (ha X Wx F) (hb X Wx F)) fun σ H Q ⟨c, env, e, ok, re, q⟩ => ?_
  subst e
  refine tT.step ok re q fun t c1 e1 ok1 re1 q1 => ?_
  cases t with
  | true => exact Po.here (a := true) q1 ok1
  | false => exact ⟨c1, env, rfl, ok1, re1, q1⟩
theorem st_w (h : SW T G CM k sc e mt) : ST T G CM k sc e mt := fun X Wx F => (h X Wx F).pt
theorem st_not (ha : ST T G CM k sc a mt) : ST T G CM k sc (.UnaryOp .Not a pos) (tNotM mt) := fun X Wx F => by
  refine PT.imp (pt_not (ha X Wx F)) fun σ H Q ⟨c, env, e, ok, re, q⟩ => ?_
  subst e
  exact tT.step ok re q fun t c1 e1 ok1 re1 q1 => Po.here (a := !t) q1 ok1

/-! ### argument lists, displays -/
def noStar : Expr → Bool
  | .Starred .. => false
  | _ => true
theorem noStar_each {e : Expr} (h : noStar e = true) (es : List Expr) (env : Env) : starEach (e :: es) env = (false, eval e env) :: starEach es env := by
  cases e <;> first | rfl | cases h
theorem noStar_any {es : List Expr} (h : es.all noStar = true) (pos : Pos) (env : Env) : (backTo pos (starEach es env)).any (·.1) = false := by
  induction es with
  | nil => rfl
  | cons e es ih =>
    rw [List.all_cons, Bool.and_eq_true] at h
    rw [noStar_each h.1]
    show (false || (backTo pos (starEach es env)).any (·.1)) = false
    rw [ih h.2]; rfl
def aNil : EnvW → M (List W) := fun _ => mpure []
def aCons (a : ME) (r : EnvW → M (List W)) : EnvW → M (List W) := fun env => mbind (a env) fun x => mbind (r env) fun xs => mpure (x :: xs)
def aList : List ME → EnvW → M (List W)
  | [] => aNil
  | m :: ms => aCons m (aList ms)
theorem sa_nil : SA T G CM k sc [] aNil := fun X Wx F => PA.imp pa_nil fun σ H Q ⟨c, env, e, ok, re, q⟩ => by
  subst e
  exact Po.here (a := ([] : List W)) q ok [] .nil
theorem sa_cons {es : List Expr} {mr : EnvW → M (List W)} (ha : SE T G CM k sc a ma) (hr : SA T G CM k sc es mr) (hn : noStar a = true) : SA T G CM k sc (a :: es) (aCons ma mr) := fun X Wx F => by
  refine PA.imp (pa_cons (ha X Wx F) (hr X Wx F) (noStar_each hn es X.env)) fun σ H Q ⟨c, env, e, ok, re, q⟩ => ?_
  subst e
  refine tE.step ok re q fun w c1 v e1 ok1 re1 rv q1 => tA.step ok1 re1 q1 fun ws c2 vs e2 ok2 re2 rvs q2 => ?_
  exact Po.here (a := w :: ws) q2 ok2 _ (.cons (RW.mono e2 rv) rvs)
theorem sa_list {P : Expr → ME} (hP : ∀ e, SE T G CM k sc e (P e)) : ∀ {es : List Expr}, es.all noStar = true → SA T G CM k sc es (aList (es.map P))
  | [], _ => sa_nil
  | e :: es, h => by
    rw [List.all_cons, Bool.and_eq_true] at h
    exact sa_cons (hP e) (sa_list hP h.2) h.1
def eTup (a : EnvW → M (List W)) : ME := fun env => mbind (a env) fun ws => match allD ws with
  | some ds => if ds.length ≤ sizeLine then mpure (.d (.tuple ds)) else mno
  | none => if ws.length ≤ sizeLine then fun h => .ok (.r h.length) (h ++ [.tup ws]) else mno
def eLst (a : EnvW → M (List W)) : ME := fun env => mbind (a env) fun ws => if ws.length ≤ sizeLine then fun h => .ok (.r h.length) (h ++ [.lst ws]) else mno
theorem se_tup {es : List Expr} {mr : EnvW → M (List W)} {x1 : Nat} (hr : SA T G CM k sc es mr) : SE T G CM k sc (.Tuple es x1 pos) (eTup mr) := fun X Wx F => by
  refine PE.imp (pe_tup (hr X Wx F)) fun σ H Q ⟨c, env, e, ok, re, q⟩ => ?_
  subst e
  refine tA.step ok re q fun ws c1 vs e1 ok1 re1 rvs q1 => ?_
  cases hd : allD ws with
  | none =>
    simp only [hd] at q1
    by_cases hz : ws.length ≤ sizeLine
    · rw [if_pos hz] at q1
      exact ⟨by rw [Paired.length rvs]; exact hz, fun p hp => new_tupW ok1 rvs hp q1⟩
    · rw [if_neg hz] at q1
      exact q1.elim
  | some ds =>
    simp only [hd] at q1
    by_cases hz : ds.length ≤ sizeLine
    · rw [if_pos hz] at q1
      have r := allD_ok hd rvs
      exact ⟨by rw [r.length]; exact hz, fun p hp => new_tup ok1 r hp q1⟩
    · rw [if_neg hz] at q1
      exact q1.elim
theorem se_lst {es : List Expr} {mr : EnvW → M (List W)} (hr : SA T G CM k sc es mr) : SE T G CM k sc (.List es pos) (eLst mr) := fun X Wx F => by
  refine PE.imp (pe_lst (hr X Wx F)) fun σ H Q ⟨c, env, e, ok, re, q⟩ => ?_
  subst e
  refine tA.step ok re q fun ws c1 vs e1 ok1 re1 rvs q1 => ?_
  split at q1
  · rename_i hz
    exact ⟨by rw [Paired.length rvs]; exact hz, fun p hp => new_list ok1 rvs hp q1⟩
  · exact q1.elim
end
end Ev
set_option Elab.async false
set_option linter.all false
set_option maxRecDepth 100000
set_option maxHeartbeats 2000000
/-! E6: subscripts, slices, f-strings, built-in functions. -/
namespace Ev
open PySem PySem.Spec PyProof.Rows L2

/-! ### dicts of data -/
def keyOf : PyData → Option Key
  | .int i => some (.inl i)
  | .str x => some (.inr x)
  | _ => none
def keyIsD (k : Key) : PyData → Bool
  | .int i => decide (k = .inl i)
  | .str x => decide (k = .inr x)
  | _ => false
def lookD {α : Type} (k : Key) : List (PyData × α) → Option α
  | [] => none
  | (d, x) :: r => if keyIsD k d then some x else lookD k r
theorem keyIsD_ok (k j : Key) : keyIsD k (keyD j) = decide (j = k) := by
  cases j with
  | inl i => exact decide_eq_decide.mpr eq_comm
  | inr i => exact decide_eq_decide.mpr eq_comm
def ORel {α : Type} (P : V → α → Prop) : Option V → Option α → Prop
  | some v, some a => P v a
  | none, none => True
  | _, _ => False
theorem RpD.look {K : PySem.W.Frag} {c : Cf} {k : Key} : ∀ {xs : List (Key × V)} {ds : List (PyData × PyData)}, RpD K c xs ds → ORel (Rp K c) (valV xs k) (lookD k ds)
  | _, _, .nil => trivial
  | (j, v) :: xs, (_, d) :: ds, .cons h r => by
    have ih := RpD.look (k := k) r
    unfold lookD
    rw [keyIsD_ok]
    by_cases e : j = k
    · rw [decide_eq_true e, if_pos rfl, valV_pos e]
      exact h
    · rw [decide_eq_false e, if_neg Bool.false_ne_true, valV_neg e]
      exact ih
theorem pd_look {G : GA} {c : Cf} {k : Key} : ∀ {xs : List (Key × V)} {ds : List (PyData × W)}, Paired (fun (p : Key × V) (q : PyData × W) => q.1 = keyD p.1 ∧ RW G c p.2 q.2) xs ds → ORel (RW G c) (valV xs k) (lookD k ds)
  | _, _, .nil => trivial
  | (j, v) :: xs, (d0, d) :: ds, .cons h r => by
    have ih := pd_look (k := k) r
    obtain ⟨h1, h2⟩ := h
    have h1' : d0 = keyD j := h1
    subst h1'
    unfold lookD
    rw [keyIsD_ok]
    by_cases e : j = k
    · rw [decide_eq_true e, if_pos rfl, valV_pos e]
      exact h2
    · rw [decide_eq_false e, if_neg Bool.false_ne_true, valV_neg e]
      exact ih
theorem rKey {G : GA} {c : Cf} {v : V} {d : PyData} {k : Key} (h : RW G c v (.d d)) (hk : keyOf d = some k) : v = kV k := by
  cases d with
  | int i => cases hk; exact rInt h
  | str i => cases hk; exact rStr h
  | _ => cases hk
/-- what a value that is a dict holds at a key -/
def dictAt (h : AH) (w : W) (k : Key) : Option (Option W) := match w with
  | .d (.dict ds) => some ((lookD k ds).map .d)
  | .r i => (match h[i]? with
    | some (.dic ds) => some (lookD k ds)
    | _ => none)
  | _ => none
theorem dictAt_ok {G : GA} {c : Cf} {w : W} {k : Key} {r : Option W} {v : V} (ok : c.ok G) (h : dictAt c.ah w k = some r) (rv : RW G c v w) : ∃ a o, v = .ref a ∧ DGet c.H a (kV k) o ∧ ORel (RW G c) o r := by
  cases w with
  | d x =>
    cases x with
    | dict ds =>
      cases h
      cases (show Rp G.K c v (.dict ds) from rv) with
      | dic l1 h1 r1 =>
        rename_i a xs
        refine ⟨a, valV xs k, rfl, .inl ⟨xs, k, h1, rfl, rfl⟩, ?_⟩
        have q := r1.look (k := k)
        cases e : lookD k ds with
        | none =>
          rw [e] at q
          cases e2 : valV xs k with
          | none => trivial
          | some v => rw [e2] at q; exact q.elim
        | some d =>
          rw [e] at q
          cases e2 : valV xs k with
          | none => rw [e2] at q; exact q.elim
          | some v => rw [e2] at q; exact q
    | _ => cases h
  | r i =>
    simp only [dictAt] at h
    split at h
    · rename_i ds e
      cases h
      obtain ⟨a, rfl, h1, xs, hx, rx⟩ := rRef ok rv e
      exact ⟨a, valV xs k, rfl, .inl ⟨xs, k, .inl hx, rfl, rfl⟩, pd_look (k := k) rx⟩
    · cases h
  | fn f => cases h
  | ex f => cases h
theorem dictAt_some {G : GA} {c : Cf} {w : W} {k : Key} {r : W} {v : V} (ok : c.ok G) (h : dictAt c.ah w k = some (some r)) (rv : RW G c v w) : ∃ a v', v = .ref a ∧ DGet c.H a (kV k) (some v') ∧ RW G c v' r := by
  obtain ⟨a, o, h1, h2, h3⟩ := dictAt_ok ok h rv
  cases o with
  | none => exact h3.elim
  | some v' => exact ⟨a, v', h1, h2, h3⟩

/-! ### subscripts -/
def plainIx : Expr → Bool
  | .Slice .. => false
  | _ => true
theorem plainIx_ok {b : Expr} (h : plainIx b = true) : PlainIx b := fun o i => by
  cases b <;> first | rfl | cases h
def ixM (o i : W) : M W := fun h => match o, i with
  | .d (.str z), .d (.int n) => (match atI z.cps.toList n with
    | some c => if z.length ≤ sizeLine then .ok (wS ⟨#[c]⟩) h else .no
    | none => .no)
  | .d (.tuple ds), .d (.int n) => (match atI ds n with
    | some d => .ok (.d d) h
    | none => .no)
  | .d (.list ds), .d (.int n) => (match atI ds n with
    | some d => .ok (.d d) h
    | none => .no)
  | .r j, .d (.int n) => (match h[j]? with
    | some (.lst ws) => (match atI ws n with
      | some d => .ok d h
      | none => .no)
    | some (.dic ws) => (match lookD (.inl n) ws with
      | some d => .ok d h
      | none => .no)
    | _ => .no)
  | o, .d key => (match (keyOf key).bind (dictAt h o) with
    | some (some d) => .ok d h
    | _ => .no)
  | _, _ => .no
theorem atI_len {α β : Type} {xs : List α} {ys : List β} (h : xs.length = ys.length) (i : Int) : atI xs i = (ixN ys.length i).bind fun j => xs[j]? := by
  unfold atI; rw [h]
theorem atI_rel {α : Type} {P : V → α → Prop} {xs : List V} {ds : List α} {i : Int} {d : α} (hl : xs.length = ds.length) (hg : ∀ (j : Nat) (d : α), ds[j]? = some d → ∃ v, xs[j]? = some v ∧ P v d) (h : atI ds i = some d) : ∃ v, atI xs i = some v ∧ P v d := by
  unfold atI at h
  cases q : ixN ds.length i with
  | none => rw [q] at h; cases h
  | some j =>
    rw [q] at h
    obtain ⟨v, h1, h2⟩ := hg j d h
    exact ⟨v, by unfold atI; rw [hl, q]; exact h1, h2⟩
theorem ix_dict {X : Cx} (hu : X.A.units + 1 < cLine) : IxR X (fun x y H Q => ∃ a v, x = .ref a ∧ DGet H a y (some v) ∧ Q v H) := by
  intro value slice pins s σ H x y v u Q I rx ry q hs
  obtain ⟨a, v', rfl, g, q⟩ := q
  cases rx
  exact tail_any (dict_typeIs I g) PySem.F.slot_dict_getitem.lookup (d_getItem hu I g ry fun w' s3 I3 rw' => ⟨v', H, I3, rw', q⟩) hs
theorem ixM_ok {X : Cx} {G : GA} (hK : X.K = G.K) (hu : X.A.units + 1 < cLine) : ∃ r, IxR X r ∧ Op2 G ixM r := by
  refine ⟨_, ix_seq.or (ix_dict hu), fun c x y a b Q E k rx ry h => ?_⟩
  unfold ixM at h
  split at h
  · rename_i z n
    rw [rStr rx, rInt ry]
    split at h
    · rename_i ch hc
      split at h
      · rename_i hz
        exact .inl (.inr (.inr ⟨z, n, ch, rfl, rfl, hz, hc, h.here k _ (.str _)⟩))
      · exact h.elim
    · exact h.elim
  · rename_i ds n
    rw [rInt ry]
    obtain ⟨p, xs, rfl, h1, r1⟩ := rTup rx
    split at h
    · rename_i d hd
      obtain ⟨v, hv, rv⟩ := atI_rel (P := Rp G.K c) r1.length (fun j d q => r1.get q) hd
      exact .inl (.inr (.inl ⟨p, xs, n, v, rfl, rfl, by rw [hK]; exact h1, hv, h.here k _ rv⟩))
    · exact h.elim
  · rename_i ds n
    rw [rInt ry]
    obtain ⟨p, xs, rfl, h1, r1⟩ := rLst rx
    split at h
    · rename_i d hd
      obtain ⟨v, hv, rv⟩ := atI_rel (P := Rp G.K c) r1.length (fun j d q => r1.get q) hd
      exact .inl (.inl ⟨p, xs, n, v, rfl, rfl, by rw [hK]; exact h1, hv, h.here k _ rv⟩)
    · exact h.elim
  · rename_i j n
    rw [rInt ry]
    split at h
    · rename_i ws e
      obtain ⟨p, rfl, h1, xs, hx, r1⟩ := rRef k rx e
      split at h
      · rename_i d hd
        obtain ⟨v, hv, rv⟩ := atI_rel (P := RW G c) (Paired.length r1) (fun j d q => RWL.get r1 q) hd
        exact .inl (.inl ⟨p, xs, n, v, rfl, rfl, .inl (.inl hx), hv, h.here k _ rv⟩)
      · exact h.elim
    · rename_i ws e
      split at h
      · rename_i d hd
        have hd' : dictAt c.ah (.r j) (.inl n) = some (some d) := by
          simp only [dictAt, e, hd]
        obtain ⟨p, v, rfl, g, rv⟩ := dictAt_some k hd' rx
        exact .inr ⟨p, v, rfl, g, h.here k _ rv⟩
      · exact h.elim
    · exact h.elim
  · rename_i key _ _ _ _
    split at h
    · rename_i d hd
      cases hk : keyOf key with
      | none => rw [hk] at hd; cases hd
      | some kk =>
        rw [hk] at hd
        obtain ⟨p, v, rfl, g, rv⟩ := dictAt_some k hd rx
        rw [rKey ry hk]
        exact .inr ⟨p, v, rfl, g, h.here k _ rv⟩
    · exact h.elim
  · exact h.elim
def eIx (a b : ME) : ME := fun env => mbind (a env) fun x => mbind (b env) fun y => ixM x y

/-! ### slices -/
def cutL {α : Type} (xs : List α) (lo hi : Option Int) : List α := (xs.drop (HT.sIx xs.length 0 lo)).take (HT.sIx xs.length xs.length hi - HT.sIx xs.length 0 lo)
theorem cutL_rp {K : PySem.W.Frag} {c : Cf} {xs : List V} {ds : List PyData} (h : RpL K c xs ds) (lo hi : Option Int) : RpL K c (cutV xs lo hi) (cutL ds lo hi) := by
  unfold cutV cutL
  rw [h.length]
  exact (h.drop _).take _
theorem Paired.dropP {α β : Type} {P : α → β → Prop} : ∀ {xs : List α} {ys : List β} (n : Nat), Paired P xs ys → Paired P (xs.drop n) (ys.drop n)
  | _, _, 0, r => r
  | _, _, _ + 1, .nil => .nil
  | _, _, n + 1, .cons _ r => Paired.dropP n r
theorem Paired.takeP {α β : Type} {P : α → β → Prop} : ∀ {xs : List α} {ys : List β} (n : Nat), Paired P xs ys → Paired P (xs.take n) (ys.take n)
  | _, _, 0, _ => .nil
  | _, _, _ + 1, .nil => .nil
  | _, _, n + 1, .cons h r => .cons h (Paired.takeP n r)
theorem cutL_rw {G : GA} {c : Cf} {xs : List V} {ws : List W} (h : RWL G c xs ws) (lo hi : Option Int) : RWL G c (cutV xs lo hi) (cutL ws lo hi) := by
  unfold cutV cutL
  rw [Paired.length h]
  exact Paired.takeP _ (Paired.dropP _ h)
theorem rpl_rwl {G : GA} {c : Cf} : ∀ {xs : List V} {ds : List PyData}, RpL G.K c xs ds → RWL G c xs (ds.map W.d)
  | _, _, .nil => .nil
  | _, _, .cons h r => .cons h (rpl_rwl r)
def slM (o : W) (lo hi : Option Int) : M W := fun h => match o with
  | .d (.str z) => if z.length ≤ sizeLine then .ok (wS (cutS z lo hi)) h else .no
  | .d (.tuple ds) => .ok (.d (.tuple (cutL ds lo hi))) h
  | .d (.list ds) => .ok (.r h.length) (h ++ [.lst ((cutL ds lo hi).map .d)])
  | .r j => (match h[j]? with
    | some (.lst ws) => .ok (.r h.length) (h ++ [.lst (cutL ws lo hi)])
    | _ => .no)
  | _ => .no
def SlS (G : GA) (r : V → Option Int → Option Int → Hp → VK → Prop) : Prop := ∀ (c : Cf) (x : V) (a : W) (lo hi : Option Int) (Q : VK) (E : Str → Cf → Prop), c.ok G → RW G c x a → Po G (slM a lo hi c.ah) c (VQ G Q) E → r x lo hi c.H Q
theorem slM_ok {X : Cx} {G : GA} (hK : X.K = G.K) : ∃ r, SlR X r ∧ SlS G r := by
  refine ⟨_, sl_str.or (sl_tupA.or sl_list), fun c x a lo hi Q E k rx h => ?_⟩
  unfold slM at h
  split at h
  · rename_i z
    rw [rStr rx]
    split at h
    · rename_i hz
      exact .inl ⟨z, rfl, hz, h.here k _ (.str _)⟩
    · exact h.elim
  · rename_i ds
    obtain ⟨p, xs, rfl, h1, r1⟩ := rTup rx
    refine .inr (.inl ⟨p, xs, rfl, by rw [hK]; exact h1, fun hw => ?_, fun _ q hq => new_tup k (cutL_rp r1 lo hi) hq h⟩)
    have e : cutL ds lo hi = ds := by
      unfold cutL
      rw [← r1.length, hw.1, hw.2, List.drop_zero, Nat.sub_zero, r1.length, List.take_length]
    rw [e] at h
    exact h.here k _ rx
  · rename_i ds
    obtain ⟨p, xs, rfl, h1, r1⟩ := rLst rx
    refine .inr (.inr ⟨p, xs, rfl, by rw [hK]; exact h1, fun q hq => new_list k (rpl_rwl (cutL_rp r1 lo hi)) hq h⟩)
  · rename_i j
    split at h
    · rename_i ws e
      obtain ⟨p, rfl, h1, xs, hx, r1⟩ := rRef k rx e
      exact .inr (.inr ⟨p, xs, rfl, .inl (.inl hx), fun q hq => new_list k (cutL_rw r1 lo hi) hq h⟩)
    · exact h.elim
  · exact h.elim
def pNo : EnvW → M (Option Int) := fun _ => mpure none
def asI (w : W) : M Int := match w with
  | .d (.int i) => mpure i
  | _ => mno
def pSome (a : ME) : EnvW → M (Option Int) := fun env => mbind (a env) fun x => mbind (asI x) fun i => mpure (some i)
def eSl (a : ME) (lo hi : EnvW → M (Option Int)) : ME := fun env => mbind (a env) fun x => mbind (lo env) fun l => mbind (hi env) fun u => slM x l u
def tO (G : GA) (Wx : WX) (m : EnvW → M (Option Int)) : TO := fun σ H Q => ∃ c env, c.H = H ∧ c.ok G ∧ EnvR G c env σ ∧ Po G (m env c.ah) c (fun b c' => Q b c'.H) (fun e c' => WEx G Wx e σ c'.H)
theorem PO.imp {X : Cx} {e : Option Expr} {t t' : TO} (h : PO X e t) (i : ∀ σ H Q, t' σ H Q → t σ H Q) : PO X e t' := ⟨fun p s σ H Q I q => h.run p s σ H Q I (i _ _ _ q)⟩
theorem asI_po {G : GA} {w : W} {c1 : Cf} {β : Type} {f : Int → M β} {F : β → Cf → Prop} {E : Str → Cf → Prop} {v : V} (ok : c1.ok G) (r : RW G c1 v w) (h : Po G (mbind (asI w) f c1.ah) c1 F E) : ∃ t, v = .int t ∧ Po G (f t c1.ah) c1 F E := by
  unfold asI at h
  split at h
  · rename_i b
    exact ⟨b, rInt r, Po.here (a := b) (Po.bind h) ok⟩
  · exact h.elim
section
variable {T : Tb} {G : GA} {CM : FId → List W → M W} {k : Nat} {sc : Sc} {a b c e : Expr} {ma mb mc : ME} {pos p2 : Pos}
theorem se_ix (ha : SE T G CM k sc a ma) (hb : SE T G CM k sc b mb) (hp : plainIx b = true) : SE T G CM k sc (.Subscript a b pos) (eIx ma mb) := fun X Wx F => by
  obtain ⟨r, h1, h2⟩ := ixM_ok (X := X) (G := G) F.K (hu_of F.room)
  refine PE.imp (pe_ix h1 (ha X Wx F) (hb X Wx F) (plainIx_ok hp)) fun σ H Q ⟨c, env, e, ok, re, q⟩ => ?_
  subst e
  refine tE.step ok re q fun w c1 v e1 ok1 re1 rv q1 => tE.step ok1 re1 q1 fun w2 c2 v2 e2 ok2 re2 rv2 q2 => ?_
  exact h2 c2 v v2 w w2 Q _ ok2 (RW.mono e2 rv) rv2 q2
def SO (T : Tb) (G : GA) (CM : FId → List W → M W) (k : Nat) (sc : Sc) (e : Option Expr) (m : EnvW → M (Option Int)) : Prop := ∀ X Wx, Fits T G CM k X sc Wx → PO X e (tO G Wx m)
theorem so_none : SO T G CM k sc none pNo := fun X Wx F => PO.imp po_none fun σ H Q ⟨c, env, e, ok, re, q⟩ => by
  subst e
  exact Po.here (a := none) q ok
theorem so_some (ha : SE T G CM k sc a ma) : SO T G CM k sc (some a) (pSome ma) := fun X Wx F => PO.imp (po_some (ha X Wx F)) fun σ H Q ⟨c, env, e, ok, re, q⟩ => by
  subst e
  refine tE.step ok re q fun w c1 v e1 ok1 re1 rv q1 => ?_
  obtain ⟨i, hi, q2⟩ := asI_po ok1 rv q1
  exact ⟨i, hi, Po.here (a := some i) q2 ok1⟩
theorem tO.step {Wx : WX} {σ : L2.St} {m : EnvW → M (Option Int)} {c : Cf} {env : EnvW} {β : Type} {f : Option Int → M β} {F : β → Cf → Prop} {Q : Option Int → Hp → Prop} (k : c.ok G) (r : EnvR G c env σ)
    (h : Po G (mbind (m env) f c.ah) c F (fun e c' => WEx G Wx e σ c'.H))
    (n : ∀ w c1, c.ext c1 → c1.ok G → EnvR G c1 env σ → Po G (f w c1.ah) c1 F (fun e c' => WEx G Wx e σ c'.H) → Q w c1.H) : tO G Wx m σ c.H Q :=
  ⟨c, env, rfl, k, r, Po.mono (Po.bind h) (fun w c1 e o q => n w c1 e o (r.mono e) q) fun _ _ _ _ q => q⟩
theorem se_slice {lo hi : Option Expr} {ml mh : EnvW → M (Option Int)} (ha : SE T G CM k sc a ma) (hl : SO T G CM k sc lo ml) (hh : SO T G CM k sc hi mh) : SE T G CM k sc (.Subscript a (.Slice lo hi none p2) pos) (eSl ma ml mh) := fun X Wx F => by
  obtain ⟨r, h1, h2⟩ := slM_ok (X := X) (G := G) F.K
  refine PE.imp (pe_slice h1 (ha X Wx F) (hl X Wx F) (hh X Wx F)) fun σ H Q ⟨c, env, e, ok, re, q⟩ => ?_
  subst e
  refine tE.step ok re q fun w c1 v e1 ok1 re1 rv q1 => tO.step ok1 re1 q1 fun l c2 e2 ok2 re2 q2 => tO.step ok2 re2 q2 fun u c3 e3 ok3 re3 q3 => ?_
  exact h2 c3 v w l u Q _ ok3 (RW.mono e3 (RW.mono e2 rv)) q3

/-! ### f-strings -/
def fmtM (w : W) : M W := fun h => match w with
  | .d (.str y) => if y.length ≤ sizeLine then .ok (wS y) h else .no
  | .d (.int i) => if i.natAbs.log2 < 1920 then .ok (wS (toString i)) h else .no
  | _ => .no
def eFmt (a : ME) : ME := fun env => mbind (a env) fmtM
theorem se_fmt (ha : SE T G CM k sc a ma) : SE T G CM k sc (.FormattedValue a (-1) none pos) (eFmt ma) := fun X Wx F => by
  refine PE.imp (pe_fmt (ha X Wx F)) fun σ H Q ⟨c, env, e, ok, re, q⟩ => ?_
  subst e
  refine tE.step ok re q fun w c1 v e1 ok1 re1 rv q1 => ?_
  unfold fmtM at q1
  split at q1
  · rename_i y
    split at q1
    · rename_i hz
      exact .inl ⟨y, rStr rv, hz, q1.here ok1 _ (.str _)⟩
    · exact q1.elim
  · rename_i i
    split at q1
    · rename_i hz
      exact .inr ⟨i, rInt rv, hz, q1.here ok1 _ (.str _)⟩
    · exact q1.elim
  · exact q1.elim
def asS (w : W) : M Str := match w with
  | .d (.str i) => mpure i
  | _ => mno
def joinM : List ME → Str → EnvW → M W
  | [], acc, _ => mpure (wS acc)
  | m :: ms, acc, env => mbind (m env) fun w => mbind (asS w) fun y => if (acc ++ y).length ≤ sizeLine then joinM ms (acc ++ y) env else mno
theorem asS_po {w : W} {c1 : Cf} {β : Type} {f : Str → M β} {F : β → Cf → Prop} {E : Str → Cf → Prop} {v : V} (ok : c1.ok G) (r : RW G c1 v w) (h : Po G (mbind (asS w) f c1.ah) c1 F E) : ∃ t, v = .str t ∧ Po G (f t c1.ah) c1 F E := by
  unfold asS at h
  split at h
  · rename_i b
    exact ⟨b, rStr r, Po.here (a := b) (Po.bind h) ok⟩
  · exact h.elim
theorem tJs_ok {Wx : WX} {σ : L2.St} : ∀ (ms : List ME) (acc : Str) (c : Cf) (env : EnvW) (Q : VK), c.ok G → EnvR G c env σ → Po G (joinM ms acc env c.ah) c (VQ G Q) (fun e c' => WEx G Wx e σ c'.H) → tJs (ms.map (tE G Wx)) acc σ c.H fun out H1 => Q (.str out) H1
  | [], acc, c, env, Q, ok, re, q => Po.here (a := wS acc) q ok _ (.str _)
  | m :: ms, acc, c, env, Q, ok, re, q => by
    refine tE.step ok re q fun w c1 v e1 ok1 re1 rv q1 => ?_
    obtain ⟨y, hy, q2⟩ := asS_po ok1 rv q1
    by_cases hz : (acc ++ y).length ≤ sizeLine
    · rw [if_pos hz] at q2
      exact ⟨y, hy, hz, tJs_ok ms (acc ++ y) c1 env Q ok1 re1 q2⟩
    · rw [if_neg hz] at q2
      exact q2.elim
theorem pj_of {P : Expr → ME} {X : Cx} {Wx : WX} (hP : ∀ e, SE T G CM k sc e (P e)) (F : Fits T G CM k X sc Wx) : ∀ es : List Expr, PJ X es ((es.map P).map (tE G Wx))
  | [] => .nil
  | e :: es => .cons (hP e X Wx F) (pj_of hP F es)
theorem se_join {P : Expr → ME} (hP : ∀ e, SE T G CM k sc e (P e)) {v1 v2 : Expr} {rest : List Expr} : SE T G CM k sc (.JoinedStr (v1 :: v2 :: rest) pos) (joinM ((v1 :: v2 :: rest).map P) Str.empty) := fun X Wx F => by
  refine PE.imp (pe_joined (pj_of hP F (v1 :: v2 :: rest))) fun σ H Q ⟨c, env, e, ok, re, q⟩ => ?_
  subst e
  exact tJs_ok _ _ c env Q ok re q
end
end Ev
set_option Elab.async false
set_option linter.all false
set_option maxRecDepth 100000
set_option maxHeartbeats 2000000
/-! E7: built-in functions, isinstance, calls of defs. -/
namespace Ev
open PySem PySem.Spec PyProof.Rows L2

def CallS (G : GA) (f : List W → M W) (r : List V → Hp → VK → Prop) : Prop := ∀ (c : Cf) (xs : List V) (ws : List W) (Q : VK) (E : Str → Cf → Prop), c.ok G → RWL G c xs ws → Po G (f ws c.ah) c (VQ G Q) E → r xs c.H Q
theorem rwl1 {G : GA} {c : Cf} {xs : List V} {w : W} (h : RWL G c xs [w]) : ∃ v, xs = [v] ∧ RW G c v w := by
  cases h with
  | cons h1 h2 => cases h2; exact ⟨_, rfl, h1⟩
theorem rwl2 {G : GA} {c : Cf} {xs : List V} {w w' : W} (h : RWL G c xs [w, w']) : ∃ v v', xs = [v, v'] ∧ RW G c v w ∧ RW G c v' w' := by
  cases h with
  | cons h1 h2 =>
    obtain ⟨v, rfl, h3⟩ := rwl1 h2
    exact ⟨_, _, rfl, h1, h3⟩
def fLen (ws : List W) : M W := fun h => match ws with
  | [.d (.str z)] => if z.length ≤ sizeLine then .ok (wI z.length) h else .no
  | [.d (.tuple ds)] => .ok (wI ds.length) h
  | [.d (.list ds)] => .ok (wI ds.length) h
  | [.d (.dict ds)] => .ok (wI ds.length) h
  | [.r i] => (match h[i]? with
    | some (.lst xs) => .ok (wI xs.length) h
    | some (.dic xs) => .ok (wI xs.length) h
    | _ => .no)
  | _ => .no
theorem RpD.length {K : PySem.W.Frag} {c : Cf} : ∀ {xs : List (Key × V)} {ds : List (PyData × PyData)}, RpD K c xs ds → xs.length = ds.length
  | _, _, .nil => rfl
  | _, _, .cons _ r => by simp [RpD.length r]
theorem call_lenDk {X : Cx} : CallR X (.builtin "len") (fun xs H Q => ∃ a kvs, xs = [.ref a] ∧ Rd H a (.dK kvs) ∧ Q (.int kvs.length) H) := by
  intro pins s σ H xs us Q I r h
  obtain ⟨a, kvs, rfl, h1, q⟩ := h
  rw [Vals.ref1 r]
  exact d_len I h1 fun t s' I' => ⟨.int kvs.length, H, I', ⟨t, rfl⟩, q⟩
theorem len_ok {X : Cx} {G : GA} (hK : X.K = G.K) : ∃ r, CallR X (.builtin "len") r ∧ CallS G fLen r := by
  refine ⟨_, call_len_str.or (call_len_seq.or call_lenDk), fun c xs ws Q E k rx h => ?_⟩
  unfold fLen at h
  split at h
  · rename_i z
    obtain ⟨v, rfl, r1⟩ := rwl1 rx
    rw [rStr r1]
    split at h
    · rename_i hz
      exact .inl ⟨z, rfl, hz, h.here k _ (.int _)⟩
    · exact h.elim
  · rename_i ds
    obtain ⟨v, rfl, r1⟩ := rwl1 rx
    obtain ⟨p, xs, rfl, h1, r2⟩ := rTup r1
    exact .inr (.inl ⟨p, xs, rfl, .inr (by rw [hK]; exact h1), by rw [r2.length]; exact h.here k _ (.int _)⟩)
  · rename_i ds
    obtain ⟨v, rfl, r1⟩ := rwl1 rx
    obtain ⟨p, xs, rfl, h1, r2⟩ := rLst r1
    exact .inr (.inl ⟨p, xs, rfl, .inl (by rw [hK]; exact h1), by rw [r2.length]; exact h.here k _ (.int _)⟩)
  · rename_i ds
    obtain ⟨v, rfl, r1⟩ := rwl1 rx
    cases (show Rp G.K c v (.dict ds) from r1) with
    | dic l1 h1 r2 => exact .inr (.inr ⟨_, _, rfl, h1, by rw [r2.length]; exact h.here k _ (.int _)⟩)
  · rename_i i
    obtain ⟨v, rfl, r1⟩ := rwl1 rx
    split at h
    · rename_i ws e
      obtain ⟨p, rfl, h1, xs, hx, r2⟩ := rRef k r1 e
      exact .inr (.inl ⟨p, xs, rfl, .inl (.inl (.inl hx)), by rw [Paired.length r2]; exact h.here k _ (.int _)⟩)
    · rename_i ws e
      obtain ⟨p, rfl, h1, xs, hx, r2⟩ := rRef k r1 e
      exact .inr (.inr ⟨p, xs, rfl, .inl hx, by rw [Paired.length r2]; exact h.here k _ (.int _)⟩)
    · exact h.elim
  · exact h.elim
/-- a list's items as bools, ints, texts -/
def boolsD : List PyData → Option (List Bool)
  | [] => some []
  | .bool b :: r => (boolsD r).map (b :: ·)
  | _ => none
def intsD : List PyData → Option (List Int)
  | [] => some []
  | .int b :: r => (intsD r).map (b :: ·)
  | _ => none
def strsD : List PyData → Option (List Str)
  | [] => some []
  | .str b :: r => (strsD r).map (b :: ·)
  | _ => none
theorem boolsD_ok {K : PySem.W.Frag} {c : Cf} : ∀ {ds : List PyData} {bs : List Bool} {xs : List V}, boolsD ds = some bs → RpL K c xs ds → xs = bs.map V.bl
  | [], bs, xs, h, r => by cases h; cases r; rfl
  | .bool b :: ds, bs, xs, h, r => by
    unfold boolsD at h
    cases r with
    | cons r1 r2 =>
      cases q : boolsD ds with
      | none => rw [q] at h; cases h
      | some es =>
        rw [q] at h; cases h
        rw [boolsD_ok q r2]
        cases r1
        rfl
  | .none :: _, _, _, h, _ => by cases h
  | .int _ :: _, _, _, h, _ => by cases h
  | .str _ :: _, _, _, h, _ => by cases h
  | .list _ :: _, _, _, h, _ => by cases h
  | .tuple _ :: _, _, _, h, _ => by cases h
  | .dict _ :: _, _, _, h, _ => by cases h
theorem intsD_ok {K : PySem.W.Frag} {c : Cf} : ∀ {ds : List PyData} {bs : List Int} {xs : List V}, intsD ds = some bs → RpL K c xs ds → xs = bs.map V.int
  | [], bs, xs, h, r => by cases h; cases r; rfl
  | .int b :: ds, bs, xs, h, r => by
    unfold intsD at h
    cases r with
    | cons r1 r2 =>
      cases q : intsD ds with
      | none => rw [q] at h; cases h
      | some es =>
        rw [q] at h; cases h
        rw [intsD_ok q r2]
        cases r1
        rfl
  | .none :: _, _, _, h, _ => by cases h
  | .bool _ :: _, _, _, h, _ => by cases h
  | .str _ :: _, _, _, h, _ => by cases h
  | .list _ :: _, _, _, h, _ => by cases h
  | .tuple _ :: _, _, _, h, _ => by cases h
  | .dict _ :: _, _, _, h, _ => by cases h
theorem strsD_ok {K : PySem.W.Frag} {c : Cf} : ∀ {ds : List PyData} {bs : List Str} {xs : List V}, strsD ds = some bs → RpL K c xs ds → xs = bs.map V.str
  | [], bs, xs, h, r => by cases h; cases r; rfl
  | .str b :: ds, bs, xs, h, r => by
    unfold strsD at h
    cases r with
    | cons r1 r2 =>
      cases q : strsD ds with
      | none => rw [q] at h; cases h
      | some es =>
        rw [q] at h; cases h
        rw [strsD_ok q r2]
        cases r1
        rfl
  | .none :: _, _, _, h, _ => by cases h
  | .bool _ :: _, _, _, h, _ => by cases h
  | .int _ :: _, _, _, h, _ => by cases h
  | .list _ :: _, _, _, h, _ => by cases h
  | .tuple _ :: _, _, _, h, _ => by cases h
  | .dict _ :: _, _, _, h, _ => by cases h
/-- a value that is a list of data -/
def listD (h : AH) (w : W) : Option (List PyData) := match peek h w with
  | some (.list ds) => some ds
  | _ => none
theorem listD_ok {G : GA} {c : Cf} {w : W} {ds : List PyData} {v : V} (k : c.ok G) (r : RW G c v w) (h : listD c.ah w = some ds) : ∃ p xs, v = .ref p ∧ SqL G.K c.H p xs ∧ RpL G.K c xs ds := by
  unfold listD at h
  split at h
  · rename_i es e
    cases h
    cases w with
    | d x => cases e; exact rLst r
    | r i =>
      simp only [peek] at e
      split at e
      · rename_i ws e2
        obtain ⟨a, rfl, h1, xs, hx, rx⟩ := rRef k r e2
        cases q : allD ws with
        | none => rw [q] at e; cases e
        | some fs =>
          rw [q] at e
          cases e
          exact ⟨a, xs, rfl, .inl (.inl hx), allD_ok q rx⟩
      · cases e
    | fn f => cases e
    | ex f => cases e
  · cases h
def fAll (ws : List W) : M W := fun h => match ws with
  | [w] => (match (listD h w).bind boolsD with
    | some bs => .ok (wB (bs.all id)) h
    | none => .no)
  | _ => .no
def fAny (ws : List W) : M W := fun h => match ws with
  | [w] => (match (listD h w).bind boolsD with
    | some bs => .ok (wB (bs.any id)) h
    | none => .no)
  | _ => .no
def fSum (ws : List W) : M W := fun h => match ws with
  | [w] => (match (listD h w).bind intsD with
    | some bs => .ok (wI bs.sum) h
    | none => .no)
  | _ => .no
theorem bind_some_ok {α β : Type} {o : Option α} {f : α → Option β} {b : β} (h : o.bind f = some b) : ∃ a, o = some a ∧ f a = some b := by
  cases o with
  | none => cases h
  | some a => exact ⟨a, rfl, h⟩
theorem all_ok {X : Cx} {G : GA} (hK : X.K = G.K) (hc : X.calm = true) : ∃ r, CallR X (.builtin "all") r ∧ CallS G fAll r := by
  refine ⟨_, cr_all hc, fun c xs ws Q E k rx h => ?_⟩
  unfold fAll at h
  split at h
  · rename_i w
    obtain ⟨v, rfl, r1⟩ := rwl1 rx
    split at h
    · rename_i bs e
      obtain ⟨ds, e1, e2⟩ := bind_some_ok e
      obtain ⟨p, ys, rfl, h1, r2⟩ := listD_ok k r1 e1
      rw [boolsD_ok e2 r2] at h1
      exact ⟨p, bs, rfl, by rw [hK]; exact h1, h.here k _ (.bl _)⟩
    · exact h.elim
  · exact h.elim
theorem any_ok {X : Cx} {G : GA} (hK : X.K = G.K) (hc : X.calm = true) : ∃ r, CallR X (.builtin "any") r ∧ CallS G fAny r := by
  refine ⟨_, cr_any hc, fun c xs ws Q E k rx h => ?_⟩
  unfold fAny at h
  split at h
  · rename_i w
    obtain ⟨v, rfl, r1⟩ := rwl1 rx
    split at h
    · rename_i bs e
      obtain ⟨ds, e1, e2⟩ := bind_some_ok e
      obtain ⟨p, ys, rfl, h1, r2⟩ := listD_ok k r1 e1
      rw [boolsD_ok e2 r2] at h1
      exact ⟨p, bs, rfl, by rw [hK]; exact h1, h.here k _ (.bl _)⟩
    · exact h.elim
  · exact h.elim
theorem sum_ok {X : Cx} {G : GA} (hK : X.K = G.K) (hc : X.calm = true) : ∃ r, CallR X (.builtin "sum") r ∧ CallS G fSum r := by
  refine ⟨_, cr_sum hc, fun c xs ws Q E k rx h => ?_⟩
  unfold fSum at h
  split at h
  · rename_i w
    obtain ⟨v, rfl, r1⟩ := rwl1 rx
    split at h
    · rename_i bs e
      obtain ⟨ds, e1, e2⟩ := bind_some_ok e
      obtain ⟨p, ys, rfl, h1, r2⟩ := listD_ok k r1 e1
      rw [intsD_ok e2 r2] at h1
      exact ⟨p, bs, rfl, by rw [hK]; exact h1, h.here k _ (.int _)⟩
    · exact h.elim
  · exact h.elim
def fTuple (ws : List W) : M W := fun h => match ws with
  | [.d (.tuple ds)] => .ok (.d (.tuple ds)) h
  | [w] => (match listD h w with
    | some ds => .ok (.d (.tuple ds)) h
    | none => .no)
  | _ => .no
theorem tuple_ok {X : Cx} {G : GA} (hK : X.K = G.K) : ∃ r, CallR X (.type "tuple") r ∧ CallS G fTuple r := by
  refine ⟨_, call_tuple_of, fun c xs ws Q E k rx h => ?_⟩
  unfold fTuple at h
  split at h
  · rename_i ds
    obtain ⟨v, rfl, r1⟩ := rwl1 rx
    obtain ⟨p, ys, rfl, h1, r2⟩ := rTup r1
    exact ⟨p, ys, rfl, .inr ⟨by rw [hK]; exact h1, h.here k _ r1⟩⟩
  · rename_i w _
    obtain ⟨v, rfl, r1⟩ := rwl1 rx
    split at h
    · rename_i ds e
      obtain ⟨p, ys, rfl, h1, r2⟩ := listD_ok k r1 e
      exact ⟨p, ys, rfl, .inl ⟨by rw [hK]; exact h1, fun l hl => new_tup k r2 hl h⟩⟩
    · exact h.elim
  · exact h.elim
def fList (ws : List W) : M W := fun h => match ws with
  | [.d (.tuple ds)] => .ok (.r h.length) (h ++ [.lst (ds.map .d)])
  | [.d (.list ds)] => .ok (.r h.length) (h ++ [.lst (ds.map .d)])
  | [.r i] => (match h[i]? with
    | some (.lst xs) => .ok (.r h.length) (h ++ [.lst xs])
    | _ => .no)
  | _ => .no
theorem list_ok {X : Cx} {G : GA} (hK : X.K = G.K) : ∃ r, CallR X (.type "list") r ∧ CallS G fList r := by
  refine ⟨_, call_list_of, fun c xs ws Q E k rx h => ?_⟩
  unfold fList at h
  split at h
  · rename_i ds
    obtain ⟨v, rfl, r1⟩ := rwl1 rx
    obtain ⟨p, ys, rfl, h1, r2⟩ := rTup r1
    exact ⟨p, ys, rfl, .inr (by rw [hK]; exact h1), fun l hl => new_list k (rpl_rwl r2) hl h⟩
  · rename_i ds
    obtain ⟨v, rfl, r1⟩ := rwl1 rx
    obtain ⟨p, ys, rfl, h1, r2⟩ := rLst r1
    exact ⟨p, ys, rfl, .inl (by rw [hK]; exact h1), fun l hl => new_list k (rpl_rwl r2) hl h⟩
  · rename_i i
    obtain ⟨v, rfl, r1⟩ := rwl1 rx
    split at h
    · rename_i ws e
      obtain ⟨p, rfl, h1, xs, hx, r2⟩ := rRef k r1 e
      exact ⟨p, xs, rfl, .inl (.inl (.inl hx)), fun l hl => new_list k r2 hl h⟩
    · exact h.elim
  · exact h.elim
def fStr (ws : List W) : M W := fun h => match ws with
  | [.d (.int i)] => if i.natAbs.log2 < 1920 then .ok (wS (toString i)) h else .no
  | [.d (.str i)] => .ok (wS i) h
  | _ => .no
theorem str_ok {X : Cx} {G : GA} : ∃ r, CallR X (.type "str") r ∧ CallS G fStr r := by
  refine ⟨_, call_str_int.or SkE.call_str_str, fun c xs ws Q E k rx h => ?_⟩
  unfold fStr at h
  split at h
  · rename_i i
    obtain ⟨v, rfl, r1⟩ := rwl1 rx
    rw [rInt r1]
    split at h
    · rename_i hz
      exact .inl ⟨i, rfl, hz, h.here k _ (.str _)⟩
    · exact h.elim
  · rename_i i
    obtain ⟨v, rfl, r1⟩ := rwl1 rx
    rw [rStr r1]
    exact .inr ⟨i, rfl, h.here k _ (.str _)⟩
  · exact h.elim
def fInt (ws : List W) : M W := fun h => match ws with
  | [.d (.str x)] => (match PySem.intText? x with
    | some n => if x.length ≤ 640 then .ok (wI n) h else .no
    | none => .no)
  | _ => .no
theorem intt_ok {X : Cx} {G : GA} : ∃ r, CallR X (.type "int") r ∧ CallS G fInt r := by
  refine ⟨_, call_int_str, fun c xs ws Q E k rx h => ?_⟩
  unfold fInt at h
  split at h
  · rename_i x
    obtain ⟨v, rfl, r1⟩ := rwl1 rx
    rw [rStr r1]
    split at h
    · rename_i n e
      split at h
      · rename_i hz
        exact ⟨x, n, rfl, e, hz, h.here k _ (.int _)⟩
      · exact h.elim
    · exact h.elim
  · exact h.elim
/-- built-in functions by their names -/
def bfun (x : Str) : Option (List W → M W) :=
  if x == "len" then some fLen else if x == "all" then some fAll else if x == "any" then some fAny else if x == "sum" then some fSum else none
def btyp (x : Str) : Option (List W → M W) :=
  if x == "tuple" then some fTuple else if x == "list" then some fList else if x == "str" then some fStr else if x == "int" then some fInt else none
theorem bfun_ok {X : Cx} {G : GA} (hK : X.K = G.K) (hc : X.calm = true) {x : Str} {f : List W → M W} (h : bfun x = some f) : ∃ id r, bootBuiltins x = some (.builtin id) ∧ CallR X (.builtin id) r ∧ CallS G f r := by
  unfold bfun at h
  split at h
  · rename_i e; cases h; rw [eq_of_beq e]
    obtain ⟨r, h1, h2⟩ := len_ok (X := X) hK; exact ⟨_, r, PySem.boot_len, h1, h2⟩
  · split at h
    · rename_i e; cases h; rw [eq_of_beq e]
      obtain ⟨r, h1, h2⟩ := all_ok (X := X) hK hc; exact ⟨_, r, boot_all, h1, h2⟩
    · split at h
      · rename_i e; cases h; rw [eq_of_beq e]
        obtain ⟨r, h1, h2⟩ := any_ok (X := X) hK hc; exact ⟨_, r, boot_any, h1, h2⟩
      · split at h
        · rename_i e; cases h; rw [eq_of_beq e]
          obtain ⟨r, h1, h2⟩ := sum_ok (X := X) hK hc; exact ⟨_, r, boot_sum, h1, h2⟩
        · cases h
theorem btyp_ok {X : Cx} {G : GA} (hK : X.K = G.K) {x : Str} {f : List W → M W} (h : btyp x = some f) : ∃ id r, bootBuiltins x = some (.type id) ∧ CallR X (.type id) r ∧ CallS G f r := by
  unfold btyp at h
  split at h
  · rename_i e; cases h; rw [eq_of_beq e]
    obtain ⟨r, h1, h2⟩ := tuple_ok (X := X) hK; exact ⟨_, r, PyProof.Rows.boot_tuple, h1, h2⟩
  · split at h
    · rename_i e; cases h; rw [eq_of_beq e]
      obtain ⟨r, h1, h2⟩ := list_ok (X := X) hK; exact ⟨_, r, PyProof.Rows.boot_list, h1, h2⟩
    · split at h
      · rename_i e; cases h; rw [eq_of_beq e]
        obtain ⟨r, h1, h2⟩ := str_ok (X := X) (G := G); exact ⟨_, r, PyProof.Rows.boot_str, h1, h2⟩
      · split at h
        · rename_i e; cases h; rw [eq_of_beq e]
          obtain ⟨r, h1, h2⟩ := intt_ok (X := X) (G := G); exact ⟨_, r, PyProof.Rows.boot_int, h1, h2⟩
        · cases h
def eFun (f : List W → M W) (a : EnvW → M (List W)) : ME := fun env => mbind (a env) f
section
variable {T : Tb} {G : GA} {CM : FId → List W → M W} {k : Nat} {sc : Sc} {a b e : Expr} {es : List Expr} {mr : EnvW → M (List W)} {ma : ME} {pos p : Pos} {x : Str} {f : List W → M W}
theorem se_bfun (hg : isGlob sc x = true) (hf : x ∈ T.free) (hb : bfun x = some f) (ha : SA T G CM k sc (e :: es) mr) (hs : (e :: es).all noStar = true) : SE T G CM k sc (.Call (.Name x p) (e :: es) [] pos) (eFun f mr) := fun X Wx F => by
  obtain ⟨id, r, h1, h2, h3⟩ := bfun_ok (X := X) F.K F.calm hb
  rw [List.all_cons, Bool.and_eq_true] at hs
  refine PE.imp (pe_callB h2 (F.gl hg) (F.top.free x hf) h1 (ha X Wx F) (glob_ok hg).2.2 (glob_ok hg).2.1 (noStar_each hs.1 es X.env) (noStar_any hs.2 pos X.env)) fun σ H Q ⟨c, env, e, ok, re, q⟩ => ?_
  subst e
  refine tA.step ok re q fun ws c1 vs e1 ok1 re1 rvs q1 => ?_
  exact h3 c1 vs ws Q _ ok1 rvs q1
theorem se_btyp (hg : isGlob sc x = true) (hf : x ∈ T.free) (hb : btyp x = some f) (ha : SA T G CM k sc (e :: es) mr) (hs : (e :: es).all noStar = true) : SE T G CM k sc (.Call (.Name x p) (e :: es) [] pos) (eFun f mr) := fun X Wx F => by
  obtain ⟨id, r, h1, h2, h3⟩ := btyp_ok (X := X) F.K hb
  rw [List.all_cons, Bool.and_eq_true] at hs
  refine PE.imp (pe_callTy h2 (F.gl hg) (F.top.free x hf) h1 (ha X Wx F) (glob_ok hg).2.2 (glob_ok hg).2.1 (noStar_each hs.1 es X.env) (noStar_any hs.2 pos X.env)) fun σ H Q ⟨c, env, e, ok, re, q⟩ => ?_
  subst e
  refine tA.step ok re q fun ws c1 vs e1 ok1 re1 rvs q1 => ?_
  exact h3 c1 vs ws Q _ ok1 rvs q1
end

/-! ### isinstance(x, T), T a built-in type -/
def tyName (h : AH) : W → Option String
  | .d .none => some "NoneType"
  | .d (.bool _) => some "bool"
  | .d (.int _) => some "int"
  | .d (.str _) => some "str"
  | .d (.list _) => some "list"
  | .d (.tuple _) => some "tuple"
  | .d (.dict _) => some "dict"
  | .r i => (match h[i]? with
    | some (.lst _) => some "list"
    | some (.dic _) => some "dict"
    | _ => none)
  | _ => none
def tyTest : Str → Option String := fun x => if x == "int" then some "int" else if x == "bool" then some "bool" else if x == "str" then some "str" else if x == "tuple" then some "tuple" else if x == "list" then some "list" else if x == "dict" then some "dict" else none
def isSub (a b : String) : Bool := a == b || (a == "bool" && b == "int")
theorem isSub_ok : ∀ a ∈ ["NoneType", "bool", "int", "str", "list", "tuple", "dict"], ∀ b ∈ ["int", "bool", "str", "tuple", "list", "dict"], kitB a b = some (isSub a b) := by decide +kernel
theorem tyName_mem {h : AH} {w : W} {t : String} (e : tyName h w = some t) : t ∈ ["NoneType", "bool", "int", "str", "list", "tuple", "dict"] := by
  unfold tyName at e
  split at e <;> first | (cases e; decide) | (split at e <;> first | (cases e; decide) | cases e) | cases e
theorem tyTest_ok {x : Str} {t : String} (e : tyTest x = some t) : t ∈ ["int", "bool", "str", "tuple", "list", "dict"] ∧ bootBuiltins x = some (.type t) := by
  unfold tyTest at e
  repeat (split at e; (rename_i q; cases e; rw [eq_of_beq q]; exact ⟨by decide, by decide +kernel⟩))
  cases e
theorem tyName_ok {G : GA} {c : Cf} {w : W} {t : String} {v : V} (k : c.ok G) (e : tyName c.ah w = some t) (r : RW G c v w) : TyX G.K c.H v (.type t) := by
  cases w with
  | d x =>
    cases x with
    | none => cases e; rw [rNon r]; exact .base .non
    | bool b => cases e; rw [rBool r]; exact .base (.bl b)
    | int b => cases e; rw [rInt r]; exact .base (.int b)
    | str b => cases e; rw [rStr r]; exact .base (.str b)
    | list b =>
      cases e
      cases (show Rp G.K c v (.list b) from r) with
      | lst l1 h1 r1 =>
        rcases h1 with h1 | ⟨o, h1⟩
        · exact .base (.lst h1)
        · exact .base (.frz h1)
    | tuple b =>
      cases e
      cases (show Rp G.K c v (.tuple b) from r) with
      | tup l1 h1 r1 =>
        rcases h1 with h1 | ⟨o, h1⟩
        · exact .base (.tup h1)
        · exact .fTuple h1
      | tupK h1 r1 =>
        obtain ⟨o, its, n, h2, h3, _⟩ := h1
        exact .kTuple h2 h3
    | dict b =>
      cases e
      cases (show Rp G.K c v (.dict b) from r) with
      | dic l1 h1 r1 =>
        rcases h1 with h1 | ⟨o, h1⟩
        · exact .base (.dK h1)
        · exact .fDict h1
  | r i =>
    simp only [tyName] at e
    split at e
    · rename_i ws e2
      cases e
      obtain ⟨a, rfl, h1, xs, hx, rx⟩ := rRef k r e2
      exact .base (.lst hx)
    · rename_i ws e2
      cases e
      obtain ⟨a, rfl, h1, xs, hx, rx⟩ := rRef k r e2
      exact .base (.dK hx)
    · cases e
  | fn f => cases e
  | ex f => cases e
def isiM (t : String) (w : W) : M W := fun h => match tyName h w with
  | some a => .ok (wB (isSub a t)) h
  | none => .no
def eIsi (a : ME) (t : String) : ME := fun env => mbind (a env) (isiM t)
section
variable {T : Tb} {G : GA} {CM : FId → List W → M W} {k : Nat} {sc : Sc} {a : Expr} {ma : ME} {pos p p2 : Pos} {x : Str} {t : String}
theorem se_isi (hg : isGlob sc "isinstance" = true) (hf : ("isinstance" : Str) ∈ T.free) (hg2 : isGlob sc x = true) (hf2 : x ∈ T.free) (ht : tyTest x = some t) (ha : SE T G CM k sc a ma) (hs : noStar a = true) : SE T G CM k sc (.Call (.Name "isinstance" p) [a, .Name x p2] [] pos) (eIsi ma t) := fun X Wx F => by
  have hA : PA X [a, .Name x p2] (tCons (tE G Wx ma) (tCons (tC (.ty t)) tNil)) := pa_cons (ha X Wx F) (pa_cons (pe_bltn (F.gl hg2) (F.top.free x hf2) (tyTest_ok ht).2 rfl (glob_ok hg2).2.2 (glob_ok hg2).2.1) pa_nil) (noStar_each hs _ _)
  refine PE.imp (pe_callB call_isi (F.gl hg) (F.top.free _ hf) boot_isinstance hA (glob_ok hg).2.2 (glob_ok hg).2.1 (noStar_each hs _ _)) fun σ H Q ⟨c, env, e, ok, re, q⟩ => ?_
  subst e
  refine tE.step ok re q fun w c1 v e1 ok1 re1 rv q1 => ?_
  unfold isiM at q1
  split at q1
  · rename_i a' e2
    exact ⟨v, .ty t, .type a', .type t, isSub a' t, rfl, .ty t, by rw [F.K]; exact tyName_ok ok1 e2 rv, kit_ty (isSub_ok _ (tyName_mem e2) _ (tyTest_ok ht).1), q1.here ok1 _ (.bl _)⟩
  · exact q1.elim
end
end Ev
set_option Elab.async false
set_option linter.all false
set_option maxRecDepth 100000
set_option maxHeartbeats 2000000
/-! E8: calls of defs, of methods, attributes, new objects, methods of built-in objects. -/
namespace Ev
open PySem PySem.Spec PyProof.Rows L2

section
variable {T : Tb} {G : GA} {CM : FId → List W → M W} {k : Nat} {sc : Sc} {a b e o : Expr} {es : List Expr} {mr : EnvW → M (List W)} {ma mo : ME} {pos p apos : Pos} {x f m : Str}
/-- a def is called with values -/
theorem call_sem {X : Cx} {Wx : WX} (F : Fits T G CM k X sc Wx) {f : FId} {fa : Addr} (hf : G.fa f = some fa) (hnp : T.nopos.contains f = false) {pins : List (Addr × Obj)} {s : Shared} {σ : L2.St} {c : Cf} {vs : List V} {ws : List W} {us : List Value} {Q : VK} (I : Inv X pins σ c.H s) (ok : c.ok G)
    (rv : RWL G c vs ws) (ru : Vals vs us) (q : Po G (CM f ws c.ah) c (VQ G Q) (fun e c' => WEx G Wx e σ c'.H)) : wpAny (model X.prog X.w) X.A (call (.ref fa) us) (EP X pins σ Q) X.xe s := by
  obtain ⟨fd, ps, hF, hb, hk, hno⟩ := F.top.fn f fa hf
  have hl : ws.length = ps.length := Classical.byContradiction fun hn => by
    rw [hno ws c.ah hn] at q
    exact q.elim
  exact run_fnS (E := WE Wx) hF (F.room.mono (Nat.le_succ _)) (hb.pos hnp) (passAt F.takes σ) I ru ⟨by rw [Paired.length rv]; exact hl, c, ws, rfl, ok, rv, q⟩
def eCall (CM : FId → List W → M W) (f : FId) (a : EnvW → M (List W)) : ME := fun env => mbind (a env) (CM f)
theorem se_call (hg : isGlob sc f = true) (hd : f ∈ T.defs) (hnp : T.nopos.contains (pl f) = false) (ha : SA T G CM k sc (e :: es) mr) (hs : (e :: es).all noStar = true) : SE T G CM k sc (.Call (.Name f p) (e :: es) [] pos) (eCall CM (pl f) mr) := fun X Wx F => by
  obtain ⟨fa, h1, h2⟩ := F.top.def_ f hd
  obtain ⟨fd, ps, hF, hb, hk, hno⟩ := F.top.fn (pl f) fa h1
  rw [List.all_cons, Bool.and_eq_true] at hs
  refine ⟨fun pins s σ H Q I ⟨c, env, e0, ok, re, q⟩ => ?_⟩
  subst e0
  refine wpAny_Call_Name_kw (ld_glob I (F.gl hg) h2 ?_ (glob_ok hg).2.1)
  refine PySem.W.callWith_K (h₀ := X.base) I.ok.mod.kin hk (thn ((ha X Wx F).run pos pins s σ c.H (fun vs H1 => ∃ c1 ws, c1.H = H1 ∧ c1.ok G ∧ RWL G c1 vs ws ∧ Po G (CM (pl f) ws c1.ah) c1 (VQ G Q) (fun e c' => WEx G Wx e σ c'.H)) I (tA.step ok re q fun ws c1 vs e1 ok1 re1 rvs q1 => ⟨c1, ws, rfl, ok1, rvs, q1⟩)) fun us s1 ⟨vs, H1, I1, r, c1, ws, e1, ok1, rvs, q1⟩ => ?_) (noStar_each hs.1 es X.env) (noStar_any hs.2 pos X.env)
  subst e1
  exact ⟨I1.kIn, call_sem F h1 hnp I1 ok1 rvs r q1⟩
/-- a local name that holds a def -/
def eCallV (T : Tb) (CM : FId → List W → M W) (i : Nat) (a : EnvW → M (List W)) : ME := fun env => mbind (mVar i env) fun w => match w with
  | .fn f => if T.nopos.contains (pl f) then mno else mbind (a env) (CM (pl f))
  | _ => mno
theorem se_callV {i : Nat} (hx : slot sc x = some i) (ha : SA T G CM k sc (e :: es) mr) (hs : (e :: es).all noStar = true) : SE T G CM k sc (.Call (.Name x p) (e :: es) [] pos) (eCallV T CM i mr) := fun X Wx F => by
  rw [List.all_cons, Bool.and_eq_true] at hs
  refine ⟨fun pins s σ H Q I ⟨c, env, e0, ok, re, q⟩ => ?_⟩
  subst e0
  have hv := (se_var (T := T) (G := G) (CM := CM) (k := k) (pos := p) hx X Wx F).run pins s σ c.H (fun v H1 => ∃ c1 f fa, c1.H = H1 ∧ c1.ok G ∧ EnvR G c1 env σ ∧ v = .ref fa ∧ G.fa (pl f) = some fa ∧ T.nopos.contains (pl f) = false ∧ Po G (mbind (mr env) (CM (pl f)) c1.ah) c1 (VQ G Q) (fun e c' => WEx G Wx e σ c'.H)) I (tE.step ok re q fun w c1 v e1 ok1 re1 rv q1 => by
    split at q1
    · rename_i f
      obtain ⟨fa, h1, h2⟩ := rv
      by_cases hnp : T.nopos.contains (pl f) = true
      · rw [if_pos hnp] at q1; exact q1.elim
      · rw [if_neg hnp] at q1
        exact ⟨c1, f, fa, rfl, ok1, re1, h1, h2, by simpa using hnp, q1⟩
    · exact q1.elim)
  refine wpAny_Call_Name_kw (thn hv fun u s1 ⟨v, H1, I1, r1, c1, f, fa, e1, ok1, re1, ev, hf, hnp, q1⟩ => ?_)
  subst e1 ev
  cases r1
  obtain ⟨fd, ps, hF, hb, hk, hno⟩ := F.top.fn (pl f) fa hf
  refine PySem.W.callWith_K (h₀ := X.base) I.ok.mod.kin hk (thn ((ha X Wx F).run pos pins s1 σ c1.H (fun vs H1 => ∃ c1 ws, c1.H = H1 ∧ c1.ok G ∧ RWL G c1 vs ws ∧ Po G (CM (pl f) ws c1.ah) c1 (VQ G Q) (fun e c' => WEx G Wx e σ c'.H)) I1 (tA.step ok1 re1 q1 fun ws c1 vs e1 ok1 re1 rvs q1 => ⟨c1, ws, rfl, ok1, rvs, q1⟩)) fun us s2 ⟨vs, H1, I2, r, c2, ws, e2, ok2, rvs, q2⟩ => ?_) (noStar_each hs.1 es X.env) (noStar_any hs.2 pos X.env)
  subst e2
  exact ⟨I2.kIn, call_sem F hf hnp I2 ok2 rvs r q2⟩

/-! ### attributes -/
def okBase : Expr → Bool
  | .Call (.Name _ _) [] [] _ => false
  | _ => true
theorem okBase_ok {o : Expr} (h : okBase o = true) (m : Str) (env : Env) : attributeBase o m env (eval o env) = eval o env := by
  unfold attributeBase
  split
  · cases h
  · rfl
def fldM (f : Str) (w : W) : M W := fun h => match w with
  | .r i => (match h[i]? with
    | some (.ins c fs) => (match fs.lookup f with
      | some v => .ok v h
      | none => .no)
    | _ => .no)
  | _ => .no
def eFld (a : ME) (f : Str) : ME := fun env => mbind (a env) (fldM f)
theorem fs_look {c : Cf} {f : Str} : ∀ {xs : List (Str × V)} {fs : List (Str × W)}, Paired (fun (p : Str × V) (q : Str × W) => p.1 = q.1 ∧ RW G c p.2 q.2) xs fs → ORel (RW G c) (xs.lookup f) (fs.lookup f)
  | _, _, .nil => trivial
  | (g, v) :: xs, (g', w) :: fs, .cons h r => by
    obtain ⟨h1, h2⟩ := h
    have h1' : g = g' := h1
    subst h1'
    rw [List.lookup_cons, List.lookup_cons]
    cases q : f == g with
    | true => exact h2
    | false => exact fs_look r
theorem se_fld (hb : okBase o = true) (hf : f ∈ T.flds) (ho : SE T G CM k sc o mo) : SE T G CM k sc (.Attribute o f pos) (eFld mo f) := fun X Wx F => by
  refine PE.imp (pe_fld (ho X Wx F) (okBase_ok hb f X.env)) fun σ H Q ⟨c, env, e, ok, re, q⟩ => ?_
  subst e
  refine tE.step ok re q fun w c1 v e1 ok1 re1 rv q1 => ?_
  unfold fldM at q1
  split at q1
  · rename_i i
    split at q1
    · rename_i cn fs e2
      split at q1
      · rename_i w2 e3
        obtain ⟨p, rfl, h1, C, dx, xs, hx, hC, r2⟩ := rRef ok1 rv e2
        have q2 := fs_look (f := f) r2
        rw [e3] at q2
        cases e4 : xs.lookup f with
        | none => rw [e4] at q2; exact q2.elim
        | some v2 =>
          rw [e4] at q2
          obtain ⟨hc, hn⟩ := F.top.own cn C hC
          exact ⟨p, C, dx, xs, v2, rfl, hx, hc, hn f hf, e4, q1.here ok1 _ q2⟩
      · exact q1.elim
    · exact q1.elim
  · exact q1.elim

/-! ### own methods -/
theorem all_star : ∀ {es : List Expr}, es.all noStar = true → ∀ (pos : Pos) (env : Env), (backTo pos (starEach es env)).all (fun x => !x.1) = true
  | [], _, _, _ => rfl
  | e :: es, h, pos, env => by
    rw [List.all_cons, Bool.and_eq_true] at h
    rw [noStar_each h.1]
    show (true && (backTo pos (starEach es env)).all (fun x => !x.1)) = true
    rw [all_star h.2]; rfl
theorem few_ok (h : es.all noStar = true) (hl : es.length < 30) (pos : Pos) (env : Env) : ((backTo pos (starEach es env)).all (fun x => !x.1) && (backToKw pos (keywordEach [] env)).all (fun x => x.1.isSome) && decide (es.length + ([] : List Keyword).length + (if ([] : List Keyword).isEmpty then 0 else 1) < 30)) = true := by
  rw [all_star h]
  show (true && decide (es.length + 0 + 0 < 30)) = true
  simp [hl]
theorem own_call {M : Model} {A : Around} {E : Value → Shared → Prop} {s : Shared} {env : Env} {Q : Value → Shared → Prop} (hb : okBase o = true) (h1 : es.all noStar = true) (hl : es.length < 30) (hline : (apos.endLine == pos.line) = true)
    (h : wpAny M A (eval o env) (fun ov s₁ => ∀ pl, wpAny M A (getMethod ov m pl) (fun fx s₂ => wpAny M A (callWith pos fx.1 fx.2 (backTo pos (starEach es env)) (backToKw pos (keywordEach [] env))) Q E s₂) E s₁) E s) :
    wpAny M A (eval (.Call (.Attribute o m apos) es [] pos) env) Q E s := by
  rw [arm_eval_Call, okBase_ok hb]
  refine wpAny_bind (wpAny_mono h (fun ov s₁ h₁ => wpAny_bind (wpAny_standAt ?_)) fun _ _ e => e)
  have hform : methodCallForm (es.length + ([] : List Keyword).length) (backTo pos (starEach es env)) (backToKw pos (keywordEach [] env)) = true := few_ok h1 hl pos env
  have hpos : methodCallPos true o env apos pos = pure pos := by unfold methodCallPos; simp [hline]
  unfold methodCall
  rw [hform]
  unfold calleeOf
  rw [if_pos rfl]
  exact wpAny_bind (wpAny_holding (wpAny_mono (h₁ _) (fun fx s₂ h₂ => wpAny_bind (wpAny_of_eq hpos h₂)) fun _ _ e => e))
/-- o.m(..) of an own class -/
def methM (T : Tb) (CM : FId → List W → M W) (m : Str) (o : W) (a : M (List W)) : M W := fun h => match o with
  | .r i => (match h[i]? with
    | some (.ins c fs) => (match fs.lookup m with
      | none => if T.meths.contains (c, m) && !T.nopos.contains (c, m) then mbind a (fun ws => CM (c, m) (.r i :: ws)) h else .no
      | some _ => .no)
    | _ => .no)
  | _ => .no
def eMeth (T : Tb) (CM : FId → List W → M W) (m : Str) (o : ME) (a : EnvW → M (List W)) : ME := fun env => mbind (o env) fun w => methM T CM m w (a env)
theorem meth_at {X : Cx} {Wx : WX} (F : Fits T G CM k X sc Wx) {σ : L2.St} {c : Cf} {v : V} {w : W} {env : EnvW} {Q : VK} (ok : c.ok G) (rv : RW G c v w) (q : Po G (methM T CM m w (mr env) c.ah) c (VQ G Q) (fun e c' => WEx G Wx e σ c'.H)) :
    ∃ i p C dx xs cn fa, w = .r i ∧ v = .ref p ∧ c.H p = some (.ins C dx xs) ∧ Cls X.K C ∧ xs.lookup m = none ∧ G.fa (cn, m) = some fa ∧ Meth X.K C m fa ∧ T.nopos.contains (cn, m) = false ∧ Po G (mbind (mr env) (fun ws => CM (cn, m) (.r i :: ws)) c.ah) c (VQ G Q) (fun e c' => WEx G Wx e σ c'.H) := by
  unfold methM at q
  split at q
  · rename_i i
    split at q
    · rename_i cn fs e2
      split at q
      · rename_i e3
        obtain ⟨p, rfl, h1, C, dx, xs, hx, hC, r2⟩ := rRef ok rv e2
        have q2 := fs_look (f := m) r2
        rw [e3] at q2
        cases e4 : xs.lookup m with
        | some v2 => rw [e4] at q2; exact q2.elim
        | none =>
          split at q
          · rename_i hm
            obtain ⟨hm, hnp⟩ := Bool.and_eq_true_iff.mp hm
            obtain ⟨Ca, fa, h2, hfa, hM⟩ := F.top.meth cn m (by simpa using hm)
            rw [hC] at h2; cases h2
            exact ⟨i, p, C, dx, xs, cn, fa, rfl, rfl, hx, (F.top.own cn C hC).1, e4, hfa, hM, (Bool.not_eq_true' _).mp hnp, q⟩
          · exact q.elim
      · exact q.elim
    · exact q.elim
  · exact q.elim
theorem se_meth0 (hb : okBase o = true) (hline : (apos.endLine == pos.line) = true) (ho : SE T G CM k sc o mo) : SE T G CM k sc (.Call (.Attribute o m apos) [] [] pos) (eMeth T CM m mo aNil) := fun X Wx F => by
  refine ⟨fun pins s σ H Q I ⟨c, env, e0, ok, re, q⟩ => ?_⟩
  subst e0
  refine own_call (es := []) hb rfl (by decide) hline ?_
  refine thn ((ho X Wx F).run pins s σ c.H (fun v H1 => ∃ c1 w, c1.H = H1 ∧ c1.ok G ∧ EnvR G c1 env σ ∧ RW G c1 v w ∧ Po G (methM T CM m w (aNil env) c1.ah) c1 (VQ G Q) (fun e c' => WEx G Wx e σ c'.H)) I (tE.step ok re q fun w c1 v e1 ok1 re1 rv q1 => ⟨c1, w, rfl, ok1, re1, rv, q1⟩)) fun u s1 ⟨v, H1, I1, r1, c1, w, e1, ok1, re1, rv, q1⟩ => fun pl => ?_
  subst e1
  obtain ⟨i, p, C, dx, xs, cn, fa, rfl, rfl, hx, hC, hl2, hfa, hM, hnp, q2⟩ := meth_at F ok1 rv q1
  cases r1
  refine getmeth_ok I1 hx hC hM hl2 ?_
  refine PySem.W.callWith_K0 (first := [.ref p]) I1.kIn hM.kp ?_
  exact call_sem F hfa hnp I1 ok1 (vs := [.ref p]) (ws := [.r i]) (.cons rv .nil) (.cons rfl .nil) q2
theorem se_meth (hb : okBase o = true) (hline : (apos.endLine == pos.line) = true) (ho : SE T G CM k sc o mo) (ha : SA T G CM k sc (e :: es) mr) (hs : (e :: es).all noStar = true) (hl : (e :: es).length < 30) : SE T G CM k sc (.Call (.Attribute o m apos) (e :: es) [] pos) (eMeth T CM m mo mr) := fun X Wx F => by
  refine ⟨fun pins s σ H Q I ⟨c, env, e0, ok, re, q⟩ => ?_⟩
  subst e0
  refine own_call hb hs hl hline ?_
  refine thn ((ho X Wx F).run pins s σ c.H (fun v H1 => ∃ c1 w, c1.H = H1 ∧ c1.ok G ∧ EnvR G c1 env σ ∧ RW G c1 v w ∧ Po G (methM T CM m w (mr env) c1.ah) c1 (VQ G Q) (fun e c' => WEx G Wx e σ c'.H)) I (tE.step ok re q fun w c1 v e1 ok1 re1 rv q1 => ⟨c1, w, rfl, ok1, re1, rv, q1⟩)) fun u s1 ⟨v, H1, I1, r1, c1, w, e1, ok1, re1, rv, q1⟩ => fun pl => ?_
  subst e1
  obtain ⟨i, p, C, dx, xs, cn, fa, rfl, rfl, hx, hC, hl2, hfa, hM, hnp, q2⟩ := meth_at F ok1 rv q1
  cases r1
  refine getmeth_ok I1 hx hC hM hl2 ?_
  rw [List.all_cons, Bool.and_eq_true] at hs
  refine PySem.W.callWith_K (first := [.ref p]) (h₀ := X.base) I.ok.mod.kin hM.kp (thn ((ha X Wx F).run pos pins s1 σ c1.H (fun vs H1 => ∃ c1 ws, c1.H = H1 ∧ c1.ok G ∧ RWL G c1 vs ws ∧ RW G c1 (.ref p) (.r i) ∧ Po G (CM (cn, m) (.r i :: ws) c1.ah) c1 (VQ G Q) (fun e c' => WEx G Wx e σ c'.H)) I1 (tA.step ok1 re1 q2 fun ws c2 vs e2 ok2 re2 rvs q3 => ⟨c2, ws, rfl, ok2, rvs, RW.mono e2 rv, q3⟩)) fun us s2 ⟨vs, H1, I2, r, c2, ws, e2, ok2, rvs, rp, q3⟩ => ?_) (noStar_each hs.1 es X.env) (noStar_any hs.2 pos X.env)
  subst e2
  exact ⟨I2.kIn, call_sem F hfa hnp I2 ok2 (.cons rp rvs) (.cons rfl r) q3⟩

/-! ### new objects -/
theorem run_makeS {X : Cx} {CX : CXT} {kk : Nat} {f C : Addr} {fd : FuncData} {ps : List Str} {sp : Sp} {E : XK} {pins : List (Addr × Obj)} {σ : L2.St} {H : Hp} {s : Shared} {Q : VK} {us : List Value} {vs : List V} (M : Mk X.K C f) (F : FnOk X.prog X.w X.K X.mg X.base CX kk f fd ps sp) (hr : Room (kk + 1) X.A) {ds : List Value} {dvs : List V} (hb : Binds X.K fd ps ds) (hd : Vals dvs ds)
    (hx : PassesAt CX X σ E) (I : Inv X pins σ H s) (r : Vals vs us)
    (h : ∀ x dx, H x = none → H dx = none → dx ≠ x → sp (.ref x :: (vs ++ dvs)) (upd (upd H dx (.own x)) x (.ins C dx [])) (fun v H2 => v = .non ∧ Q (.ref x) H2) E) :
    wpAny (model X.prog X.w) X.A (call (.ref C) us) (EP X pins σ Q) X.xe s := by
  have hq := h (s.heap.objs.size + 1) s.heap.objs.size (I.hok.fresh (Nat.le_succ _)) (I.hok.fresh (Nat.le_refl _)) (Nat.ne_of_lt (Nat.lt_succ_self _))
  have I2 := Inv.made (C := C) I
  have r2 : Vals (V.ref (s.heap.objs.size + 1) :: (vs ++ dvs)) (Value.ref (s.heap.objs.size + 1) :: (us ++ ds)) := .cons rfl (r.append hd)
  have hl : (Value.ref (s.heap.objs.size + 1) :: (us ++ ds)).length = ps.length := by
    have e := r2.length
    rw [F.len _ _ _ _ hq] at e
    exact e.symm
  have b := hb { s with heap := (s.heap.push PySem.W.emptyDict).push (PySem.W.instObj C s.heap.objs.size) } (Value.ref (s.heap.objs.size + 1) :: us) I2.kIn (by rw [List.cons_append]; exact hl)
  rw [List.cons_append] at b
  refine wpAny_call (make_map (f := f) I.kIn M.makes M.init (beq_iff_eq.mp M.fn) (codeAny_mono (F.run _ X.stack _ _ ⟨Value.ref (s.heap.objs.size + 1) :: us, []⟩ (Value.ref (s.heap.objs.size + 1) :: (us ++ ds)) _ _ E (hr.make C us [])
    (I2.env0.make C us []) b r2 hq) fun r s' hq' => ?_))
  cases r with
  | error e => exact hx pins _ _ e s' I2 hq'
  | ok fl =>
    cases fl with
    | ret u =>
      obtain ⟨v, H', I3, rv, ev, q3⟩ := I2.after hq'
      subst ev
      exact ⟨rv, ⟨V.ref (s.heap.objs.size + 1), H', I3, rfl, q3⟩⟩
    | next => exact False.elim hq'
    | brk => exact False.elim hq'
    | cont => exact False.elim hq'

/-- the defaults behind the written values -/
def dflOf (T : Tb) (f : FId) (n : Nat) : List W := match T.dfls.lookup f with
  | some (m, ds) => if n = m then ds.map .d else []
  | none => []
def dflOk (T : Tb) (f : FId) (n : Nat) : Bool := match T.dfls.lookup f with
  | some (m, _) => decide (n = m) || !T.nopos.contains f
  | none => !T.nopos.contains f
theorem rpl_w {c : Cf} : ∀ {dvs : List V} {ds : List PyData}, RpL G.K c dvs ds → RWL G c dvs (ds.map .d)
  | _, _, .nil => .nil
  | _, _, .cons h r => .cons h (rpl_w r)
theorem dfl_at {X : Cx} {f : FId} {fd : FuncData} {ps : List Str} {n : Nat} (B : BindsD T G X.K f fd ps) (h : dflOk T f n = true) : ∃ dvs us, Vals dvs us ∧ (∀ c, RWL G c dvs (dflOf T f n)) ∧ Binds X.K fd ps us := by
  unfold dflOk at h
  unfold dflOf
  split at h
  · rename_i m ds e
    by_cases q : n = m
    · simp only [if_pos q]
      obtain ⟨_, dvs, us, h1, h2, h3⟩ := B.dfl m ds e
      exact ⟨dvs, us, h1, fun c => rpl_w (h2 c), h3⟩
    · rw [decide_eq_false q, Bool.false_or] at h
      simp only [if_neg q]
      exact ⟨[], [], .nil, fun c => .nil, B.pos (by simpa using h)⟩
  · rename_i e
    exact ⟨[], [], .nil, fun c => .nil, B.pos (by simpa using h)⟩
/-- C(..): a new instance without attributes, then __init__ -/
def eNew (CM : FId → List W → M W) (x : Str) (ds : List W) (a : EnvW → M (List W)) : ME := fun env => mbind (a env) fun ws => fun h => match CM (x, "__init__") (.r h.length :: (ws ++ ds)) (h ++ [.ins x []]) with
  | .ok (.d .none) h' => .ok (.r h.length) h'
  | .ex c h' => .ex c h'
  | _ => .no
theorem new_sem {nn : Nat} {X : Cx} {Wx : WX} (F : Fits T G CM k X sc Wx) {Ca fi : Addr} (hCa : G.ca x = some Ca) (hM : Mk X.K Ca fi) (hfi : G.fa (x, "__init__") = some fi) {pins : List (Addr × Obj)} {s : Shared} {σ : L2.St} {c : Cf} {vs : List V} {ws : List W} {us : List Value} {Q : VK} (I : Inv X pins σ c.H s) (ok : c.ok G)
    (rv : RWL G c vs ws) (ru : Vals vs us) (hdf : dflOk T (x, "__init__") nn = true) (q : Po G (match CM (x, "__init__") (.r c.ah.length :: (ws ++ dflOf T (x, "__init__") nn)) (c.ah ++ [.ins x []]) with
      | .ok (.d .none) h' => R.ok (W.r c.ah.length) h'
      | .ex c h' => .ex c h'
      | _ => .no) c (VQ G Q) (fun e c' => WEx G Wx e σ c'.H)) : wpAny (model X.prog X.w) X.A (call (.ref Ca) us) (EP X pins σ Q) X.xe s := by
  obtain ⟨fd, ps, hF, hb, hk, hno⟩ := F.top.fn (x, "__init__") fi hfi
  have hl : (W.r c.ah.length :: (ws ++ dflOf T (x, "__init__") nn)).length = ps.length := Classical.byContradiction fun hn => by
    rw [hno _ _ hn] at q
    exact q.elim
  obtain ⟨dvs, dus, d1, d2, d3⟩ := dfl_at hb hdf
  refine run_makeS (E := WE Wx σ) hM hF F.room d3 d1 (passAt F.takes σ) I ru fun p dx hp hdx hne => ?_
  have hdx1 : c.H dx = none := hdx
  have ok1 := Cf.lay_ok (o := .own p) ok hdx1
  have ex1 := Cf.lay_ext (c := c) (o := .own p) hdx1
  have hp1 : (c.lay dx (.own p)).H p = none := by show upd c.H dx (.own p) p = none; rw [upd_ne (Ne.symm hne)]; exact hp
  have ex2 := Cf.new_ext (o := .ins Ca dx []) (ao := .ins x []) ok1 hp1
  have ok2 : ((c.lay dx (.own p)).new p (.ins Ca dx []) (.ins x [])).ok G := Cf.new_ok ok1 hp1 ⟨Ca, dx, [], upd_same, hCa, .nil⟩
  have rp : RW G ((c.lay dx (.own p)).new p (.ins Ca dx []) (.ins x [])) (.ref p) (.r c.ah.length) := ⟨p, rfl, by show (c.μ ++ [p])[c.ah.length]? = some p; rw [← ok.len]; simp⟩
  have ex := ex1.trans ex2
  have rall : RWL G c (vs ++ dvs) (ws ++ dflOf T (x, "__init__") nn) := RWL.append rv (d2 c)
  refine ⟨by rw [List.length_cons, Paired.length rall]; exact hl, _, W.r c.ah.length :: (ws ++ dflOf T (x, "__init__") nn), rfl, ok2, .cons rp (RWL.mono ex rall), ?_⟩
  show Po G (CM (x, "__init__") (.r c.ah.length :: (ws ++ dflOf T (x, "__init__") nn)) (c.ah ++ [.ins x []])) ((c.lay dx (.own p)).new p (.ins Ca dx []) (.ins x [])) _ _
  split at q
  · rename_i h' e
    rw [e]
    intro c3 ex3 ok3 e3 v hv
    refine ⟨rNon hv, q c3 (ex.trans ex3) ok3 e3 _ (RW.mono ex3 rp)⟩
  · rename_i cx h' e
    rw [e]
    exact fun c3 ex3 ok3 e3 => q c3 (ex.trans ex3) ok3 e3
  · exact q.elim
theorem se_new {nn : Nat} (hdf : dflOk T (x, "__init__") nn = true) (hg : isGlob sc x = true) (hx : x ∈ T.clss) (ha : SA T G CM k sc (e :: es) mr) (hs : (e :: es).all noStar = true) : SE T G CM k sc (.Call (.Name x p) (e :: es) [] pos) (eNew CM x (dflOf T (x, "__init__") nn) mr) := fun X Wx F => by
  obtain ⟨Ca, fi, h1, h2, h3, h4⟩ := F.top.cls x hx
  rw [List.all_cons, Bool.and_eq_true] at hs
  refine ⟨fun pins s σ H Q I ⟨c, env, e0, ok, re, q⟩ => ?_⟩
  subst e0
  refine wpAny_Call_Name_kw (ld_glob I (F.gl hg) h2 ?_ (glob_ok hg).2.1)
  refine PySem.W.callWith_K (h₀ := X.base) I.ok.mod.kin h3.kp (thn ((ha X Wx F).run pos pins s σ c.H (fun vs H1 => ∃ c1 ws, c1.H = H1 ∧ c1.ok G ∧ RWL G c1 vs ws ∧ Po G (match CM (x, "__init__") (.r c1.ah.length :: (ws ++ dflOf T (x, "__init__") nn)) (c1.ah ++ [.ins x []]) with
      | .ok (.d .none) h' => R.ok (W.r c1.ah.length) h'
      | .ex c h' => .ex c h'
      | _ => .no) c1 (VQ G Q) (fun e c' => WEx G Wx e σ c'.H)) I (tA.step ok re q fun ws c1 vs e1 ok1 re1 rvs q1 => ⟨c1, ws, rfl, ok1, rvs, q1⟩)) fun us s1 ⟨vs, H1, I1, r, c1, ws, e1, ok1, rvs, q1⟩ => ?_) (noStar_each hs.1 es X.env) (noStar_any hs.2 pos X.env)
  subst e1
  exact ⟨I1.kIn, new_sem F h1 h3 h4 I1 ok1 rvs r hdf q1⟩
theorem se_new0 {nn : Nat} (hdf : dflOk T (x, "__init__") nn = true) (hg : isGlob sc x = true) (hx : x ∈ T.clss) : SE T G CM k sc (.Call (.Name x p) [] [] pos) (eNew CM x (dflOf T (x, "__init__") nn) aNil) := fun X Wx F => by
  obtain ⟨Ca, fi, h1, h2, h3, h4⟩ := F.top.cls x hx
  refine ⟨fun pins s σ H Q I ⟨c, env, e0, ok, re, q⟩ => ?_⟩
  subst e0
  refine wpAny_Call_Name_kw (ld_glob I (F.gl hg) h2 ?_ (glob_ok hg).2.1)
  exact PySem.W.callWith_K0 I.kIn h3.kp (new_sem (ws := []) F h1 h3 h4 I ok .nil .nil hdf q)
end
end Ev
set_option Elab.async false
set_option linter.all false
set_option maxRecDepth 100000
set_option maxHeartbeats 2000000
/-! E9: methods of built-in objects. -/
namespace Ev
open PySem PySem.Spec PyProof.Rows L2

def MtS (G : GA) (f : W → List W → M W) (r : V → List V → Hp → VK → Prop) : Prop := ∀ (c : Cf) (x : V) (xs : List V) (w : W) (ws : List W) (Q : VK) (E : Str → Cf → Prop), c.ok G → RW G c x w → RWL G c xs ws → Po G (f w ws c.ah) c (VQ G Q) E → r x xs c.H Q
/-- a tracked list is changed -/
theorem put_list {G : GA} {c : Cf} {i : Nat} {a : Addr} {old ws : List W} {us : List V} (k : c.ok G) (h : c.μ[i]? = some a) (ho : c.ah[i]? = some (.lst old)) (r : RWL G c us ws) : c.ext (c.put i a (.lst us) (.lst ws)) ∧ (c.put i a (.lst us) (.lst ws)).ok G := by
  have ex := Cf.put_ext (o := .lst us) (ao := .lst ws) k h ho (by intro e; cases e)
  exact ⟨ex, Cf.put_ok k h ho (by intro e; cases e) ⟨us, upd_same, RWL.mono ex r⟩⟩
def appM (w : W) (ws : List W) : M W := fun h => match w, ws with
  | .r i, [y] => (match h[i]? with
    | some (.lst xs) => if xs.length < sizeLine then .ok (.d .none) (h.set i (.lst (xs ++ [y]))) else .no
    | _ => .no)
  | _, _ => .no
theorem app_ok {X : Cx} {G : GA} : ∃ r, MtR X "list.append" r ∧ MtS G appM r := by
  refine ⟨_, mt_append, fun c x xs w ws Q E k rx rs h => ?_⟩
  unfold appM at h
  split at h
  · rename_i i y
    split at h
    · rename_i us e
      obtain ⟨p, rfl, h1, vs, hv, rv⟩ := rRef k rx e
      obtain ⟨v, rfl, ry⟩ := rwl1 rs
      split at h
      · rename_i hz
        obtain ⟨ex, ok⟩ := put_list k h1 e (RWL.append rv (.cons ry .nil))
        exact ⟨p, vs, v, rfl, rfl, hv, by rw [Paired.length rv]; exact hz, h _ ex ok rfl _ .non⟩
      · exact h.elim
    · exact h.elim
  · exact h.elim
def popM (w : W) (ws : List W) : M W := fun h => match w, ws with
  | .r i, [] => (match h[i]? with
    | some (.lst xs) => (match xs[xs.length - 1]? with
      | some y => .ok y (h.set i (.lst xs.dropLast))
      | none => .no)
    | _ => .no)
  | _, _ => .no
theorem dropLast_rwl {G : GA} {c : Cf} {us : List V} {ws : List W} (r : RWL G c us ws) : RWL G c us.dropLast ws.dropLast := by
  rw [List.dropLast_eq_take, List.dropLast_eq_take, Paired.length r]
  exact Paired.takeP _ r
theorem pop_ok {X : Cx} {G : GA} : ∃ r, MtR X "list.pop" r ∧ MtS G popM r := by
  refine ⟨_, mt_pop, fun c x xs w ws Q E k rx rs h => ?_⟩
  unfold popM at h
  split at h
  · rename_i i
    split at h
    · rename_i us e
      obtain ⟨p, rfl, h1, vs, hv, rv⟩ := rRef k rx e
      cases rs
      split at h
      · rename_i y hy
        obtain ⟨v, hv2, ry⟩ := RWL.get rv hy
        obtain ⟨ex, ok⟩ := put_list k h1 e (dropLast_rwl rv)
        exact ⟨p, vs, v, rfl, rfl, hv, by rw [Paired.length rv]; exact hv2, h _ ex ok rfl _ (RW.mono ex ry)⟩
      · exact h.elim
    · exact h.elim
  · exact h.elim
/-- list.index, list.count of flat data -/
def idxD (x : PyData) : List PyData → Nat → Option Nat
  | [], _ => none
  | y :: r, n => if PyData.eqv y x then some n else idxD x r (n + 1)
def idxM (w : W) (ws : List W) : M W := fun h => match ws with
  | [.d x] => (match listD h w with
    | some ds => if flatD x && ds.all flatD then (match idxD x ds 0 with
      | some n => .ok (wI n) h
      | none => .no) else .no
    | none => .no)
  | _ => .no
theorem idxD_ok {K : PySem.W.Frag} {c : Cf} {u : V} {x : PyData} (hx : Rp K c u x) (fx : flatD x = true) : ∀ {ds : List PyData} {xs : List V} {n j : Nat}, RpL K c xs ds → ds.all flatD = true → idxD x ds n = some j → n ≤ j ∧ (∃ z, xs[j - n]? = some z ∧ eqV z u = true) ∧ ∀ (m : Nat) (z : V), m < j - n → xs[m]? = some z → eqV z u = false
  | [], _, _, _, .nil, _, h => by cases h
  | y :: ds, v :: xs, n, j, .cons hy r, f, h => by
    rw [List.all_cons, Bool.and_eq_true] at f
    unfold idxD at h
    have e := flat_eq hy hx f.1 fx
    split at h
    · rename_i ht
      cases h
      refine ⟨Nat.le_refl _, ⟨v, by simp, by rw [e]; exact ht⟩, fun m z hm => by omega⟩
    · rename_i hf
      obtain ⟨h1, ⟨z, h2, h3⟩, h4⟩ := idxD_ok hx fx r f.2 h
      refine ⟨by omega, ⟨z, ?_, h3⟩, fun m z hm hz => ?_⟩
      · rw [show j - n = (j - (n + 1)) + 1 by omega, List.getElem?_cons_succ]; exact h2
      · cases m with
        | zero =>
          simp at hz
          subst hz
          rw [e]
          simpa using hf
        | succ m => exact h4 m z (by omega) (by simpa using hz)
theorem idx_ok {X : Cx} {G : GA} (hK : X.K = G.K) : ∃ r, MtR X "list.index" r ∧ MtS G idxM r := by
  refine ⟨_, mt_index, fun c x xs w ws Q E k rx rs h => ?_⟩
  unfold idxM at h
  split at h
  · rename_i y
    obtain ⟨v, rfl, ry⟩ := rwl1 rs
    split at h
    · rename_i ds e
      obtain ⟨p, ys, rfl, h1, r2⟩ := listD_ok k rx e
      split at h
      · rename_i hf
        obtain ⟨f1, f2⟩ := Bool.and_eq_true_iff.mp hf
        split at h
        · rename_i n hn
          obtain ⟨_, ⟨z, h2, h3⟩, h4⟩ := idxD_ok ry f1 r2 f2 hn
          rw [Nat.sub_zero] at h2 h4
          exact ⟨p, ys, v, n, z, rfl, rfl, by rw [hK]; exact h1, flat_rp ry f1, (flat_any ry f1 r2 f2).1, h2, h3, h4, h.here k _ (.int _)⟩
        · exact h.elim
      · exact h.elim
    · exact h.elim
  · exact h.elim
theorem countP_V {K : PySem.W.Frag} {c : Cf} {u : V} {x : PyData} (hx : Rp K c u x) (fx : flatD x = true) : ∀ {ds : List PyData} {xs : List V} {us : List Value}, RpL K c xs ds → ds.all flatD = true → Vals xs us → us.countP (eqU u) = ds.countP fun y => PyData.eqv y x
  | [], _, _, .nil, _, .nil => rfl
  | y :: ds, v :: xs, w :: us, .cons hy r, f, .cons rv t => by
    rw [List.all_cons, Bool.and_eq_true] at f
    rw [List.countP_cons, List.countP_cons, countP_V hx fx r f.2 t, eqU_of rv (flat_rp hy f.1), flat_eq hy hx f.1 fx]
def rCntF (K : PySem.W.Frag) : V → List V → Hp → VK → Prop := fun x xs H Q => ∃ (a : Addr) (ys : List V) (y : V), x = V.ref a ∧ xs = [y] ∧ SqL K H a ys ∧ flatV y = true ∧ ys.all flatV = true ∧ ∀ n : Nat, (∀ us, Vals ys us → us.countP (eqU y) = n) → Q (.int n) H
theorem mt_countF {X : Cx} : MtR X "list.count" (rCntF X.K) := by
  intro pins s σ H x xs v us Q I rx rxs h
  obtain ⟨a, ys, y, rfl, rfl, hs, fy, fys, q⟩ := h
  cases rx
  obtain ⟨uy, rfl, ry⟩ := rxs.one
  obtain ⟨its, rv, ⟨⟨cls, dd, data, sl⟩, n, ho, hc, hdn, hd⟩, hlen⟩ := I.list hs
  simp only at hc hd
  subst hc hd
  refine call_meets PySem.F.slot_list_count ⟨_, ho, rfl⟩ PySem.F.entry_list_count (PySem.F.args_list_count_2 _ _)
    (SeqAt.list_countAt a its.toArray n dd sl uy (eqU y)) ⟨ho, fun u' hu' => mem_eqAt ry fy rv fys u' (by simpa using hu'), ?_⟩
  refine ⟨.int (its.countP (eqU y) : Nat), H, I.tok _, ⟨s.toks, rfl⟩, q _ fun us hu => ?_⟩
  clear q
  have : ∀ {ys : List V} {us ws : List Value}, Vals ys us → Vals ys ws → ys.all flatV = true → us.countP (eqU y) = ws.countP (eqU y) := by
    intro ys us ws h1
    induction h1 generalizing ws with
    | nil => intro h2 _; cases h2; rfl
    | cons r t ih =>
      intro h2 f
      cases h2 with
      | cons r2 t2 =>
        rw [List.all_cons, Bool.and_eq_true] at f
        rw [List.countP_cons, List.countP_cons, ih t2 f.2, eqU_of r f.1, eqU_of r2 f.1]
  exact this hu rv fys
def cntM (w : W) (ws : List W) : M W := fun h => match ws with
  | [.d x] => (match listD h w with
    | some ds => if flatD x && ds.all flatD then .ok (wI (ds.countP fun y => PyData.eqv y x)) h else .no
    | none => .no)
  | _ => .no
theorem cnt_ok {X : Cx} {G : GA} (hK : X.K = G.K) : ∃ r, MtR X "list.count" r ∧ MtS G cntM r := by
  refine ⟨_, mt_countF, fun c x xs w ws Q E k rx rs h => ?_⟩
  unfold cntM at h
  split at h
  · rename_i y
    obtain ⟨v, rfl, ry⟩ := rwl1 rs
    split at h
    · rename_i ds e
      obtain ⟨p, ys, rfl, h1, r2⟩ := listD_ok k rx e
      split at h
      · rename_i hf
        obtain ⟨f1, f2⟩ := Bool.and_eq_true_iff.mp hf
        refine ⟨p, ys, v, rfl, rfl, by rw [hK]; exact h1, flat_rp ry f1, (flat_any ry f1 r2 f2).1, fun n hn => ?_⟩
        have q := h.here k _ (.int _)
        by_cases hu : ∃ us, Vals ys us
        · obtain ⟨us, hu⟩ := hu
          rw [← hn us hu, countP_V ry f1 r2 f2 hu]
          exact q
        · exact (hu (vals_ex r2 f2)).elim
      · exact h.elim
    · exact h.elim
  · exact h.elim
where
  vals_ex {K : PySem.W.Frag} {c : Cf} : ∀ {ys : List V} {ds : List PyData}, RpL K c ys ds → ds.all flatD = true → ∃ us, Vals ys us
    | _, _, .nil, _ => ⟨[], .nil⟩
    | _, _, .cons h r, f => by
      rw [List.all_cons, Bool.and_eq_true] at f
      obtain ⟨us, hu⟩ := vals_ex r f.2
      cases h with
      | non => exact ⟨_ :: us, .cons rfl hu⟩
      | bl b => exact ⟨_ :: us, .cons rfl hu⟩
      | int i => exact ⟨Value.int i 0 :: us, .cons ⟨_, rfl⟩ hu⟩
      | str i => exact ⟨Value.str i 0 :: us, .cons ⟨_, rfl⟩ hu⟩
      | lst _ _ _ => cases f.1
      | tup _ _ _ => cases f.1
      | tupK _ _ => cases f.1
      | dic _ _ _ => cases f.1
/-- sep.join(texts) -/
def sjoinM (w : W) (ws : List W) : M W := fun h => match w, ws with
  | .d (.str a), [y] => (match ((peek h y).bind seqD).bind strsD with
    | some ys => if (ys.map (·.length)).sum + ys.length * a.length ≤ 16777216 then .ok (wS (Txt.join a ys)) h else .no
    | none => .no)
  | _, _ => .no
theorem sjoin_ok {X : Cx} {G : GA} (hK : X.K = G.K) : ∃ r, MtR X "str.join" r ∧ MtS G sjoinM r := by
  refine ⟨_, mt_join, fun c x xs w ws Q E k rx rs h => ?_⟩
  unfold sjoinM at h
  split at h
  · rename_i a y
    obtain ⟨v, rfl, ry⟩ := rwl1 rs
    rw [rStr rx]
    split at h
    · rename_i ys e
      obtain ⟨ds, e1, e2⟩ := bind_some_ok e
      obtain ⟨p, us, rfl, hq, r⟩ := peek_seq k ry e1
      rw [strsD_ok e2 r] at hq
      split at h
      · rename_i hz
        exact ⟨a, p, ys, rfl, rfl, by rw [hK]; exact hq, hz, h.here k _ (.str _)⟩
      · exact h.elim
    · exact h.elim
  · exact h.elim

/-! ### the calls -/
inductive BT | list | str
def BT.chk (h : AH) : BT → W → Bool
  | .list, .d (.list _) => true
  | .list, .r i => (match h[i]? with
    | some (.lst _) => true
    | _ => false)
  | .str, .d (.str _) => true
  | _, _ => false
def BT.name : BT → String
  | .list => "list"
  | .str => "str"
theorem BT.ty {X : Cx} {G : GA} (hK : X.K = G.K) {c : Cf} {t : BT} {w : W} {v : V} (k : c.ok G) (r : RW G c v w) (h : t.chk c.ah w = true) : tyV X.K t.name v c.H := by
  cases t with
  | list =>
    cases w with
    | d x =>
      cases x with
      | list ds =>
        obtain ⟨p, xs, rfl, h1, _⟩ := rLst r
        exact .inl ⟨rfl, xs, by rw [hK]; exact h1⟩
      | _ => cases h
    | r i =>
      simp only [BT.chk] at h
      split at h
      · rename_i ws e
        obtain ⟨p, rfl, h1, xs, hx, _⟩ := rRef k r e
        exact .inl ⟨rfl, xs, .inl (.inl hx)⟩
      · cases h
    | fn f => cases h
    | ex f => cases h
  | str =>
    cases w with
    | d x =>
      cases x with
      | str ds => rw [rStr r]; exact rfl
      | _ => cases h
    | _ => cases h
/-- a method by its name and how many arguments it has -/
def bmeth (m : Str) (n : Nat) : Option (BT × (W → List W → M W)) :=
  if m == "append" && n == 1 then some (.list, appM) else if m == "pop" && n == 0 then some (.list, popM) else if m == "index" && n == 1 then some (.list, idxM) else if m == "count" && n == 1 then some (.list, cntM) else if m == "join" && n == 1 then some (.str, sjoinM) else none
theorem bmeth_ok {X : Cx} {G : GA} (hK : X.K = G.K) {m : Str} {n : Nat} {t : BT} {f : W → List W → M W} (h : bmeth m n = some (t, f)) : ∃ id r, PlainAttrs t.name ∧ Slot t.name m id ∧ typeOf (.builtin id) = pure (.type "method_descriptor") ∧ MtR X id r ∧ MtS G f r := by
  unfold bmeth at h
  split at h
  · rename_i e; cases h; rw [eq_of_beq (Bool.and_eq_true_iff.mp e).1]
    obtain ⟨r, h1, h2⟩ := app_ok (X := X) (G := G); exact ⟨_, r, PySem.F.plainAttrs_list, PySem.F.slot_list_append, PySem.F.type_list_append, h1, h2⟩
  · split at h
    · rename_i e; cases h; rw [eq_of_beq (Bool.and_eq_true_iff.mp e).1]
      obtain ⟨r, h1, h2⟩ := pop_ok (X := X) (G := G); exact ⟨_, r, PySem.F.plainAttrs_list, PySem.F.slot_list_pop, PySem.F.type_list_pop, h1, h2⟩
    · split at h
      · rename_i e; cases h; rw [eq_of_beq (Bool.and_eq_true_iff.mp e).1]
        obtain ⟨r, h1, h2⟩ := idx_ok (X := X) hK; exact ⟨_, r, PySem.F.plainAttrs_list, PySem.F.slot_list_index, PySem.F.type_list_index, h1, h2⟩
      · split at h
        · rename_i e; cases h; rw [eq_of_beq (Bool.and_eq_true_iff.mp e).1]
          obtain ⟨r, h1, h2⟩ := cnt_ok (X := X) hK; exact ⟨_, r, PySem.F.plainAttrs_list, PySem.F.slot_list_count, PySem.F.type_list_count, h1, h2⟩
        · split at h
          · rename_i e; cases h; rw [eq_of_beq (Bool.and_eq_true_iff.mp e).1]
            obtain ⟨r, h1, h2⟩ := sjoin_ok (X := X) hK; exact ⟨_, r, PySem.F.plainAttrs_str, PySem.F.slot_str_join, PySem.F.type_str_join, h1, h2⟩
          · cases h
def eBM (t : BT) (f : W → List W → M W) (o : ME) (a : EnvW → M (List W)) : ME := fun env => mbind (o env) fun w => fun h => if t.chk h w then mbind (a env) (f w) h else .no
section
variable {T : Tb} {G : GA} {CM : FId → List W → M W} {k : Nat} {sc : Sc} {e o : Expr} {es : List Expr} {mr : EnvW → M (List W)} {mo : ME} {pos apos : Pos} {m : Str} {t : BT} {f : W → List W → M W}
theorem se_bm0 (hm : bmeth m 0 = some (t, f)) (hb : okBase o = true) (hline : (apos.endLine == pos.line) = true) (ho : SE T G CM k sc o mo) : SE T G CM k sc (.Call (.Attribute o m apos) [] [] pos) (eBM t f mo aNil) := fun X Wx F => by
  obtain ⟨id, r, h1, h2, h3, h4, h5⟩ := bmeth_ok (X := X) F.K hm
  refine PE.imp (pe_bm0 h1 h2 h3 h4 (ho X Wx F) (okBase_ok hb m X.env) hline) fun σ H Q ⟨c, env, e, ok, re, q⟩ => ?_
  subst e
  refine tE.step ok re q fun w c1 v e1 ok1 re1 rv q1 => ?_
  by_cases hc : t.chk c1.ah w = true
  · rw [if_pos hc] at q1
    exact ⟨t.ty F.K ok1 rv hc, h5 c1 v [] w [] Q _ ok1 rv .nil q1⟩
  · rw [if_neg hc] at q1
    exact q1.elim
theorem se_bm (hm : bmeth m (e :: es).length = some (t, f)) (hb : okBase o = true) (hline : (apos.endLine == pos.line) = true) (ho : SE T G CM k sc o mo) (ha : SA T G CM k sc (e :: es) mr) (hs : (e :: es).all noStar = true) (hl : (e :: es).length < 30) : SE T G CM k sc (.Call (.Attribute o m apos) (e :: es) [] pos) (eBM t f mo mr) := fun X Wx F => by
  obtain ⟨id, r, h1, h2, h3, h4, h5⟩ := bmeth_ok (X := X) F.K hm
  have hs' := hs
  rw [List.all_cons, Bool.and_eq_true] at hs'
  refine PE.imp (pe_bm h1 h2 h3 h4 (ho X Wx F) (ha X Wx F) (okBase_ok hb m X.env) (few_ok hs hl pos X.env) hline (noStar_each hs'.1 es X.env) (noStar_any hs'.2 pos X.env)) fun σ H Q ⟨c, env, e, ok, re, q⟩ => ?_
  subst e
  refine tE.step ok re q fun w c1 v e1 ok1 re1 rv q1 => ?_
  by_cases hc : t.chk c1.ah w = true
  · rw [if_pos hc] at q1
    refine ⟨t.ty F.K ok1 rv hc, tA.step ok1 re1 q1 fun ws c2 vs e2 ok2 re2 rvs q2 => ?_⟩
    exact h5 c2 v vs w ws Q _ ok2 (RW.mono e2 rv) rvs q2
  · rw [if_neg hc] at q1
    exact q1.elim
end
end Ev
set_option Elab.async false
set_option linter.all false
set_option maxRecDepth 100000
set_option maxHeartbeats 2000000
/-! E10: statements. -/
namespace Ev
open PySem PySem.Spec PyProof.Rows L2

def sNil : MS := fun env => mpure (.nx env)
def sSeq (a b : MS) : MS := fun env => mbind (a env) fun fl => match fl with
  | .nx env' => b env'
  | fl => mpure fl
def sExpr (a : ME) : MS := fun env => mbind (a env) fun _ => mpure (.nx env)
def sRet (a : ME) : MS := fun env => mbind (a env) fun w => mpure (.rt w)
def sRetN : MS := fun _ => mpure (.rt (.d .none))
def sBreak : MS := fun env => mpure (.bk env)
def sCont : MS := fun env => mpure (.ct env)
def sIf (t : EnvW → M Bool) (a b : MS) : MS := fun env => mbind (t env) fun c => if c then a env else b env
def sSet (i : Nat) (a : ME) : MS := fun env => mbind (a env) fun w => mpure (.nx (env.set i (some w)))
def sRaise (c : Str) : MS := fun _ => mraise c
def wloop (t : EnvW → M Bool) (b : MS) : Nat → MS
  | 0 => fun _ => mno
  | n + 1 => fun env => mbind (t env) fun c => if c then mbind (b env) fun fl => match fl with
      | .nx e => wloop t b n e
      | .ct e => wloop t b n e
      | .bk e => mpure (.nx e)
      | .rt w => mpure (.rt w)
    else mpure (.nx env)
def sWhile (t : EnvW → M Bool) (b : MS) : MS := wloop t b 1000000

section
variable {T : Tb} {G : GA} {CM : FId → List W → M W} {k : Nat} {sc : Sc} {e : Expr} {st : Stmt} {rest : List Stmt} {ma : ME} {ms mr : MS} {mt : EnvW → M Bool} {pos p p2 : Pos}
theorem ss_no : SS T G CM k sc st (fun _ => mno) := fun X Ex F hp hs hf => ⟨fun p s σ H D I ⟨c, env, _, _, _, h⟩ => h.elim⟩
theorem sss_nil : SSs T G CM k sc [] sNil := fun X Ex F hp hs hf => PSs.imp pss_nil fun D σ H ⟨c, env, e, ok, re, q⟩ => by
  subst e
  exact Po.here (a := Fl.nx env) q ok σ re
theorem sss_cons (h1 : SS T G CM k sc st ms) (h2 : SSs T G CM k sc rest mr) : SSs T G CM k sc (st :: rest) (sSeq ms mr) := fun X Ex F hp hs hf => by
  refine PSs.imp (pss_cons (h1 X Ex F hp hs hf) (h2 X Ex F hp hs hf)) fun D σ H ⟨c, env, e, ok, re, q⟩ => ?_
  subst e
  refine ⟨c, env, rfl, ok, re, Po.mono (Po.bind q) (fun fl c1 e1 ok1 q1 => ?_) fun _ _ _ _ q => q⟩
  cases fl with
  | nx env' => exact fun σ' re' => ⟨c1, env', rfl, ok1, re', q1⟩
  | rt w => exact fun v rv => Po.here (a := Fl.rt w) q1 ok1 v rv
  | bk w => exact fun v rv => Po.here (a := Fl.bk w) q1 ok1 v rv
  | ct w => exact fun v rv => Po.here (a := Fl.ct w) q1 ok1 v rv
theorem sss_one (h1 : SS T G CM k sc st ms) : SSs T G CM k sc [st] ms := fun X Ex F hp hs hf => pss_one (h1 X Ex F hp hs hf)
/-- the block of statements; the last without the empty one behind it -/
def sBlock : List MS → MS
  | [] => sNil
  | [m] => m
  | m :: ms => sSeq m (sBlock ms)
theorem sss_list {P : Stmt → MS} (hP : ∀ s, SS T G CM k sc s (P s)) : ∀ sts : List Stmt, SSs T G CM k sc sts (sBlock (sts.map P))
  | [] => sss_nil
  | [s] => sss_one (hP s)
  | s :: s2 :: r => sss_cons (hP s) (sss_list hP (s2 :: r))
def noComp : Expr → Bool
  | .ListComp .. => false
  | .SetComp .. => false
  | .DictComp .. => false
  | _ => true
theorem noComp_ok (h : noComp e = true) (t : Option Expr) (l : Nat) (env : Env) : swapsWith e t l env = pure false := by
  cases e <;> first | rfl | cases h
theorem ss_expr (he : SE T G CM k sc e ma) (hn : noComp e = true) : SS T G CM k sc (.Expr e pos) (sExpr ma) := fun X Ex F hp hs hf => by
  refine PS.imp (ps_expr (he X _ F) (noComp_ok hn _ _ _)) fun D σ H ⟨c, env, e, ok, re, q⟩ => ?_
  subst e
  exact tE.step ok re q fun w c1 v e1 ok1 re1 rv q1 => Po.here (a := Fl.nx env) q1 ok1 σ re1
theorem ss_ret (he : SE T G CM k sc e ma) : SS T G CM k sc (.Return (some e) pos) (sRet ma) := fun X Ex F hp hs hf => by
  refine PS.imp (ps_ret (he X _ F)) fun D σ H ⟨c, env, e, ok, re, q⟩ => ?_
  subst e
  exact tE.step ok re q fun w c1 v e1 ok1 re1 rv q1 => Po.here (a := Fl.rt w) q1 ok1 v rv
theorem ss_retN : SS T G CM k sc (.Return none pos) sRetN := fun X Ex F hp hs hf => PS.imp ps_retN fun D σ H ⟨c, env, e, ok, re, q⟩ => by
  subst e
  exact Po.here (a := Fl.rt (.d .none)) q ok _ .non
theorem ss_pass : SS T G CM k sc (.Pass pos) sNil := fun X Ex F hp hs hf => PS.imp ps_pass fun D σ H ⟨c, env, e, ok, re, q⟩ => by
  subst e
  exact Po.here (a := Fl.nx env) q ok σ re
theorem ss_break : SS T G CM k sc (.Break pos) sBreak := fun X Ex F hp hs hf => PS.imp ps_break fun D σ H ⟨c, env, e, ok, re, q⟩ => by
  subst e
  exact Po.here (a := Fl.bk env) q ok σ re
theorem ss_cont : SS T G CM k sc (.Continue pos) sCont := fun X Ex F hp hs hf => PS.imp ps_continue fun D σ H ⟨c, env, e, ok, re, q⟩ => by
  subst e
  exact Po.here (a := Fl.ct env) q ok σ re
theorem ss_if {a b : List Stmt} (ht : ST T G CM k sc e mt) (ha : SSs T G CM k sc a ms) (hb : SSs T G CM k sc b mr) : SS T G CM k sc (.If e a b pos) (sIf mt ms mr) := fun X Ex F hp hs hf => by
  refine PS.imp (ps_if (ht X _ F) (ha X Ex F hp hs hf) (hb X Ex F hp hs hf)) fun D σ H ⟨c, env, e, ok, re, q⟩ => ?_
  subst e
  refine tT.step ok re q fun t c1 e1 ok1 re1 q1 => ?_
  cases t with
  | true => exact ⟨c1, env, rfl, ok1, re1, q1⟩
  | false => exact ⟨c1, env, rfl, ok1, re1, q1⟩
/-- where a name may be stored -/
def slotS (sc : Sc) (x : Str) : Option Nat := match sc.scope.names.lookup x with
  | some .local => sc.N.idxOf? x
  | some .cell => if sc.own x then sc.N.idxOf? x else none
  | _ => none
theorem idx_at {N : List Str} {x : Str} {i : Nat} (q : N.idxOf? x = some i) : N[i]? = some x := by
  unfold List.idxOf? at q
  obtain ⟨hl, h1, _⟩ := List.findIdx?_eq_some_iff_getElem.mp q
  rw [List.getElem?_eq_getElem hl]
  exact congrArg some (by simpa using h1)
theorem slotS_ok {x : Str} {i : Nat} {X : Cx} {Wx : WX} (F : Fits T G CM k X sc Wx) (h : slotS sc x = some i) : X.N[i]? = some x ∧ Loc X.env.scope x ∧ (X.fn x = true ∨ X.env.scope.names.lookup x = some .local) := by
  unfold slotS at h
  rw [F.N, F.scope]
  split at h
  · rename_i hk; exact ⟨idx_at h, .inl hk, .inr hk⟩
  · rename_i hk
    split at h
    · rename_i ho; exact ⟨idx_at h, .inr hk, .inl (F.own x ho)⟩
    · cases h
  · cases h
theorem Fits.ndN {X : Cx} {Wx : WX} (F : Fits T G CM k X sc Wx) : X.N.Nodup := by rw [F.N]; exact F.nd
theorem ss_set {x : Str} {i : Nat} (hx : slotS sc x = some i) (he : SE T G CM k sc e ma) (hn : noComp e = true) : SS T G CM k sc (.Assign [.Name x p] e pos) (sSet i ma) := fun X Ex F hp hs hf => by
  obtain ⟨h1, h2, h3⟩ := slotS_ok F hx
  refine PS.imp (ps_set F.ndN h1 h2 (he X _ F) (noComp_ok hn _ _ _) h3) fun D σ H ⟨c, env, e, ok, re, q⟩ => ?_
  subst e
  exact tE.step ok re q fun w c1 v e1 ok1 re1 rv q1 => Po.here (a := Fl.nx (env.set i (some w))) q1 ok1 _ (re1.set rv)
theorem ss_raise {x m : Str} {j : Nat} (hg : isGlob sc x = true) (hx : x ∈ T.excs) : SS T G CM k sc (.Raise (some (.Call (.Name x p) [.Constant (.str m) j p2] [] pos)) none pos) (sRaise x) := fun X Ex F hp hs hf => by
  obtain ⟨Ca, h1, h2, h3, h4, h5⟩ := F.top.exc x hx
  refine PS.imp (ps_raise F.calm F.takes (pmk_own PySem.F.excBase_LookupError h3 h2 h4 h5 (F.gl hg) (glob_ok hg).2.1)) fun D σ H ⟨c, env, e, ok, re, q⟩ => ?_
  subst e
  exact q c (Cf.ext.refl c) ok rfl Ca h1
theorem ss_raise' {x m : Str} {j : Nat} {pos' : Pos} (hg : isGlob sc x = true) (hx : x ∈ T.excs) : SS T G CM k sc (.Raise (some (.Call (.Name x p) [.Constant (.str m) j p2] [] pos)) none pos') (sRaise x) := fun X Ex F hp hs hf => by
  obtain ⟨Ca, h1, h2, h3, h4, h5⟩ := F.top.exc x hx
  refine PS.imp (ps_raise F.calm F.takes (pmk_own PySem.F.excBase_LookupError h3 h2 h4 h5 (F.gl hg) (glob_ok hg).2.1)) fun D σ H ⟨c, env, e, ok, re, q⟩ => ?_
  subst e
  exact q c (Cf.ext.refl c) ok rfl Ca h1
theorem ss_while {body : List Stmt} (ht : ST T G CM k sc e mt) (hb : SSs T G CM k sc body ms) : SS T G CM k sc (.While e body [] pos) (sWhile mt ms) := fun X Ex F hp hs hf => by
  refine PS.imp (ps_while hp (ht X _ F) (hb X Ex F hp hs hf)) fun D σ H ⟨c, env, e, ok, re, q⟩ => ?_
  subst e
  refine ⟨fun m σ H => ∃ c env, c.H = H ∧ c.ok G ∧ EnvR G c env σ ∧ Po G (wloop mt ms m env c.ah) c (FlP G D) (fun e c' => ∀ C, G.xa e = some C → Ex (.ref C) none c'.H), ⟨1000000, c, env, rfl, ok, re, q⟩, ?_⟩
  rintro m σ H ⟨c, env, rfl, ok, re, q⟩
  cases m with
  | zero => exact q.elim
  | succ n =>
    refine tT.step ok re q fun t c1 e1 ok1 re1 q1 => ?_
    cases t with
    | false => exact iteF (Po.here (a := Fl.nx env) q1 ok1 σ re1)
    | true =>
      refine iteT ⟨_, fun σ' H' h => ⟨n, Nat.lt_succ_self n, h⟩, c1, env, rfl, ok1, re1, Po.mono (Po.bind q1) (fun fl c2 e2 ok2 q2 => ?_) fun _ _ _ _ q => q⟩
      cases fl with
      | nx env' => exact fun σ' re' => ⟨c2, env', rfl, ok2, re', q2⟩
      | ct env' => exact fun σ' re' => ⟨c2, env', rfl, ok2, re', q2⟩
      | bk env' => exact fun σ' re' => Po.here (a := Fl.nx env') q2 ok2 σ' re'
      | rt w => exact fun v rv => Po.here (a := Fl.rt w) q2 ok2 v rv
end
end Ev
set_option Elab.async false
set_option linter.all false
set_option maxRecDepth 100000
set_option maxHeartbeats 2000000
/-! E11: targets, what is walked, for, list comprehensions. -/
namespace Ev
open PySem PySem.Spec PyProof.Rows L2

/-! ### targets -/
inductive Tg where
  | n (i : Nat)
  | t (is : List Nat)
def setAll : EnvW → List Nat → List PyData → EnvW
  | env, i :: is, d :: ds => setAll (env.set i (some (.d d))) is ds
  | env, _, _ => env
def setAllV : L2.St → List Nat → List V → L2.St
  | σ, i :: is, x :: xs => setAllV (σ.set i (some x)) is xs
  | σ, _, _ => σ
def tgM : Tg → W → EnvW → Option EnvW
  | .n i, w, env => some (env.set i (some w))
  | .t is, .d (.tuple ds), env => if ds.length = is.length then some (setAll env is ds) else none
  | _, _, _ => none
def nameSlot (sc : Sc) : Expr → Option Nat
  | .Name x _ => slotS sc x
  | _ => none
def nameSlots (sc : Sc) : List Expr → Option (List Nat)
  | [] => some []
  | e :: es => match nameSlot sc e, nameSlots sc es with
    | some i, some is => some (i :: is)
    | _, _ => none
def tgOf (sc : Sc) : Expr → Option Tg
  | .Name x _ => (slotS sc x).map .n
  | .Tuple es _ _ => (nameSlots sc es).map .t
  | _ => none
def gNames : List Nat → TGs
  | [] => gNil
  | i :: is => gCons (gName i) (gNames is)
def gTg (K : PySem.W.Frag) : Tg → TG
  | .n i => gName i
  | .t is => gTup K is.length (gNames is)
section
variable {T : Tb} {G : GA} {CM : FId → List W → M W} {k : Nat} {sc : Sc} {X : Cx} {Wx : WX}
theorem pg_slot (F : Fits T G CM k X sc Wx) {x : Str} {i : Nat} {pos : Pos} (h : slotS sc x = some i) : PG X (.Name x pos) (gName i) := by
  obtain ⟨h1, h2, h3⟩ := slotS_ok F h
  exact pg_name F.ndN h1 h2 h3
theorem nameSlots_ok (F : Fits T G CM k X sc Wx) : ∀ {es : List Expr} {is : List Nat}, nameSlots sc es = some is → PGs X es (gNames is) ∧ (assignEach es X.env).length = is.length ∧ (assignEach es X.env).findIdx? (·.1) = none
  | [], is, h => by
    cases h
    exact ⟨pgs_nil, rfl, rfl⟩
  | e :: es, is, h => by
    unfold nameSlots at h
    split at h
    · rename_i i js h1 h2
      cases h
      obtain ⟨p1, p2, p3⟩ := nameSlots_ok F h2
      cases e with
      | Name x p =>
        refine ⟨pgs_cons (pg_slot F h1) p1, by show (assignEach es X.env).length + 1 = js.length + 1; rw [p2], ?_⟩
        show List.findIdx? (·.1) ((false, assign (.Name x p) X.env) :: assignEach es X.env) = none
        rw [List.findIdx?_cons, p3]
        rfl
      | _ => cases h1
    · cases h
theorem pg_tg (F : Fits T G CM k X sc Wx) {tg : Expr} {t : Tg} (h : tgOf sc tg = some t) : PG X tg (gTg X.K t) := by
  cases tg with
  | Name x p =>
    cases q : slotS sc x with
    | none => simp only [tgOf, q] at h; cases h
    | some i =>
      simp only [tgOf, q] at h
      cases h
      exact pg_slot F q
  | Tuple es kk p =>
    cases q : nameSlots sc es with
    | none => simp only [tgOf, q] at h; cases h
    | some is =>
      simp only [tgOf, q] at h
      cases h
      obtain ⟨p1, p2, p3⟩ := nameSlots_ok F q
      exact pg_tup F.calm p1 p2 p3
  | _ => cases h
end
def Tg.slots : Tg → List Nat
  | .n i => [i]
  | .t is => is
theorem wipe_set {σ : L2.St} {i : Nat} {x : Option V} : ∀ {vs : List Nat}, i ∈ vs → wipe (σ.set i x) vs = wipe σ vs
  | [], h => by cases h
  | v :: vs, h => by
    unfold wipe
    by_cases hv : i ∈ vs
    · rw [wipe_set hv]
    · have e : i = v := by
        rcases List.mem_cons.mp h with e | e
        · exact e
        · exact absurd e hv
      subst e
      have : ∀ (vs : List Nat) (σ : L2.St), i ∉ vs → wipe (σ.set i x) vs = (wipe σ vs).set i x := by
        intro vs
        induction vs with
        | nil => intro σ _; rfl
        | cons v vs ih =>
          intro σ hn
          rw [List.mem_cons, not_or] at hn
          unfold wipe
          rw [ih σ hn.2, List.set_comm _ _ hn.1]
      rw [this vs σ hv, List.set_set]
section
variable {G : GA} {c : Cf}
theorem gNames_ok {env : EnvW} : ∀ {is : List Nat} {ds : List PyData} {xs : List V} {env : EnvW} {σ : L2.St} {Q : L2.St → Hp → Prop} {vs : List Nat}, ds.length = is.length → RpL G.K c xs ds → EnvR G c env σ → (∀ i ∈ is, i ∈ vs) →
    (∀ σ2, EnvR G c (setAll env is ds) σ2 → wipe σ2 vs = wipe σ vs → Q σ2 c.H) → gNames is xs σ c.H Q
  | [], ds, xs, env, σ, Q, vs, hl, r, re, hv, q => by
    cases ds with
    | nil => cases r; exact ⟨rfl, q σ re rfl⟩
    | cons d ds => simp at hl
  | i :: is, ds, xs, env, σ, Q, vs, hl, r, re, hv, q => by
    cases ds with
    | nil => simp at hl
    | cons d ds =>
      cases r with
      | cons r1 r2 =>
        refine ⟨_, _, rfl, ?_⟩
        refine gNames_ok (env := env.set i (some (.d d))) (vs := vs) (by simpa using hl) r2 (re.set (w := .d d) r1) (fun j hj => hv j (List.mem_cons_of_mem _ hj)) fun σ2 re2 hw => q σ2 re2 ?_
        rw [hw, wipe_set (hv i List.mem_cons_self)]
theorem gTg_ok {K : PySem.W.Frag} (hK : K = G.K) {t : Tg} {v : V} {w : W} {env env2 : EnvW} {σ : L2.St} {Q : L2.St → Hp → Prop} {vs : List Nat} (h : tgM t w env = some env2) (re : EnvR G c env σ) (rv : RW G c v w) (hv : ∀ i ∈ t.slots, i ∈ vs)
    (q : ∀ σ2, EnvR G c env2 σ2 → wipe σ2 vs = wipe σ vs → Q σ2 c.H) : gTg K t v σ c.H Q := by
  cases t with
  | n i =>
    cases h
    exact q _ (re.set rv) (wipe_set (hv i (by simp [Tg.slots])))
  | t is =>
    cases w with
    | d x =>
      cases x with
      | tuple ds =>
        simp only [tgM] at h
        split at h
        · rename_i hl
          cases h
          obtain ⟨a, xs, rfl, h1, r1⟩ := rTup rv
          exact ⟨a, xs, rfl, by rw [hK]; exact h1, by rw [r1.length]; exact hl, gNames_ok (env := env) hl r1 re hv q⟩
        · cases h
      | _ => cases h
    | _ => cases h
end

/-! ### what is walked -/
structure IterOk (G : GA) (J : It) (ws : List W) (c1 : Cf) : Prop where
  go : ∀ i c2, i < ws.length → c1.ext c2 → c2.ok G → J.go i c2.H
  stop : ∀ c2, c1.ext c2 → c2.ok G → J.stop ws.length c2.H
  yld : ∀ i c2 x H', i < ws.length → c1.ext c2 → c2.ok G → J.yld i c2.H x H' → ∃ c3 w, c2.ext c3 ∧ c3.ok G ∧ c3.H = H' ∧ c3.ah = c2.ah ∧ ws[i]? = some w ∧ RW G c3 x w
/-- the items, and the tracked list that is walked -/
abbrev Src := List W × Option Nat
def lockC (p : Src) (c : Cf) : Cf := match p.2 with
  | none => c
  | some i => c.obj i .dead
def unlockC (p : Src) (c : Cf) : Cf := match p.2 with
  | none => c
  | some i => c.obj i (.lst p.1)
def over {α : Type} (p : Src) (f : List W → M α) : M α := match p.2 with
  | none => f p.1
  | some i => fun h => match f p.1 (h.set i .dead) with
    | .ok a h' => .ok a (h'.set i (.lst p.1))
    | .ex c h' => .ex c (h'.set i (.lst p.1))
    | .no => .no
/-- the list that is walked is the tracked one -/
def SrcOk (G : GA) (p : Src) (c : Cf) : Prop := ∀ i, p.2 = some i → ∃ a xs, c.μ[i]? = some a ∧ c.ah[i]? = some (.lst p.1) ∧ c.H a = some (.lst xs) ∧ RWL G c xs p.1
theorem over_po {α : Type} {G : GA} {p : Src} {f : List W → M α} {c : Cf} {F : α → Cf → Prop} {E : Str → Cf → Prop} (ok : c.ok G) (hs : SrcOk G p c) (h : Po G (over p f c.ah) c F E) : Po G (f p.1 (lockC p c).ah) (lockC p c) (fun a c3 => F a (unlockC p c3)) (fun e c3 => E e (unlockC p c3)) := by
  obtain ⟨ws, l⟩ := p
  cases l with
  | none => exact h
  | some i =>
    obtain ⟨a, xs, h1, h2, h3, h4⟩ := hs i rfl
    have un : ∀ c3 : Cf, (c.obj i .dead).ext c3 → c3.ok G → c.ext (c3.obj i (.lst ws)) ∧ (c3.obj i (.lst ws)).ok G := fun c3 ex k3 =>
      Cf.unlock ok h1 h2 (by intro e; cases e) h3 (fun c' hc ex' => ⟨xs, hc, RWL.mono ex' h4⟩) ex k3
    show Po G (f ws (c.ah.set i .dead)) (c.obj i .dead) _ _
    have h' : Po G (match f ws (c.ah.set i .dead) with
      | .ok a h' => R.ok a (h'.set i (.lst ws))
      | .ex c h' => .ex c (h'.set i (.lst ws))
      | .no => .no) c F E := h
    cases q : f ws (c.ah.set i .dead) with
    | ok a h'' =>
      rw [q] at h'
      intro c3 ex3 ok3 e3
      obtain ⟨u1, u2⟩ := un c3 ex3 ok3
      exact h' _ u1 u2 (by show c3.ah.set i (.lst ws) = _; rw [e3])
    | ex e h'' =>
      rw [q] at h'
      intro c3 ex3 ok3 e3
      obtain ⟨u1, u2⟩ := un c3 ex3 ok3
      exact h' _ u1 u2 (by show c3.ah.set i (.lst ws) = _; rw [e3])
    | no =>
      rw [q] at h'
      exact h'
theorem lockC_H {p : Src} {c : Cf} : (lockC p c).H = c.H := by unfold lockC; split <;> rfl
theorem lockC_mu {p : Src} {c : Cf} : (lockC p c).μ = c.μ := by unfold lockC; split <;> rfl
theorem unlockC_H {p : Src} {c : Cf} : (unlockC p c).H = c.H := by unfold unlockC; split <;> rfl
theorem unlockC_mu {p : Src} {c : Cf} : (unlockC p c).μ = c.μ := by unfold unlockC; split <;> rfl
theorem lockC_len {p : Src} {c : Cf} : (lockC p c).ah.length = c.ah.length := by
  unfold lockC; split
  · rfl
  · show (List.set _ _ _).length = _; rw [List.length_set]
theorem lockC_ok {G : GA} {p : Src} {c : Cf} (k : c.ok G) : (lockC p c).ok G := by
  unfold lockC; split
  · exact k
  · exact Cf.lock_ok k
theorem lockC_ext {p : Src} {c : Cf} : c.ext (lockC p c) := by
  unfold lockC; split
  · exact Cf.ext.refl c
  · exact Cf.lock_ext
theorem EnvR.same {G : GA} {c c' : Cf} (hH : c'.H = c.H) (hm : c'.μ = c.μ) {env : EnvW} {σ : L2.St} (h : EnvR G c env σ) : EnvR G c' env σ :=
  ⟨h.1, fun i w q => let ⟨v, h1, h2⟩ := h.2 i w q; ⟨v, h1, RW.same hH hm h2⟩⟩
def tI (G : GA) (Wx : WX) (m : EnvW → M Src) : TI := fun σ H R => ∃ c env, c.H = H ∧ c.ok G ∧ EnvR G c env σ ∧ Po G (m env c.ah) c (fun p c1 => SrcOk G p c1 → ∀ J, IterOk G J p.1 (lockC p c1) → R J c1.H) (fun e c' => WEx G Wx e σ c'.H)
def SI (T : Tb) (G : GA) (CM : FId → List W → M W) (k : Nat) (sc : Sc) (tg e : Expr) (m : EnvW → M Src) : Prop := ∀ X Wx, Fits T G CM k X sc Wx → PI X tg e (tI G Wx m)
theorem PI.imp {X : Cx} {tg e : Expr} {t t' : TI} (h : PI X tg e t) (i : ∀ σ H Q, t' σ H Q → t σ H Q) : PI X tg e t' := ⟨fun p s σ H Q I q => h.run p s σ H Q I (i _ _ _ q)⟩

/-! ### for -/
def floop (t : Tg) (b : MS) : List W → MS
  | [] => fun env => mpure (.nx env)
  | w :: ws => fun env => match tgM t w env with
    | none => mno
    | some env1 => mbind (b env1) fun fl => match fl with
      | .nx e => floop t b ws e
      | .ct e => floop t b ws e
      | .bk e => mpure (.nx e)
      | .rt w => mpure (.rt w)
def sFor (t : Tg) (mi : EnvW → M Src) (b : MS) : MS := fun env => mbind (mi env) fun p => over p fun ws => floop t b ws env
def noSetE : Expr → Bool
  | .Set .. => false
  | _ => true
theorem noSetE_ok {e : Expr} (h : noSetE e = true) (env : Env) : ∀ x, foldedSetIterable e env x = pure x := fun x => by
  cases e <;> first | rfl | cases h
section
variable {T : Tb} {G : GA} {CM : FId → List W → M W} {k : Nat} {sc : Sc} {tg e : Expr} {body : List Stmt} {t : Tg} {mi : EnvW → M Src} {ms : MS} {pos : Pos}
theorem ss_for (ht : tgOf sc tg = some t) (hi : SI T G CM k sc tg e mi) (hb : SSs T G CM k sc body ms) (hn : noSetE e = true) : SS T G CM k sc (.For tg e body [] pos) (sFor t mi ms) := fun X Ex F hp hs hf => by
  refine PS.imp (ps_for hp F.calm (hi X _ F) (pg_tg F ht) (hb X Ex F hp hs hf) (noSetE_ok hn _)) fun D σ H ⟨c, env, e, ok, re, q⟩ => ?_
  subst e
  refine ⟨c, env, rfl, ok, re, Po.mono (Po.bind q) (fun p c1 e1 ok1 q1 hsrc J hJ => ?_) fun _ _ _ _ q => q⟩
  have q2 := over_po ok1 hsrc q1
  have okL := lockC_ok (p := p) ok1
  refine ⟨fun i m σ H => m = p.1.length - i ∧ i ≤ p.1.length ∧ ∃ c2 env2, c2.H = H ∧ c2.ok G ∧ (lockC p c1).ext c2 ∧ EnvR G c2 env2 σ ∧ Po G (floop t ms (p.1.drop i) env2 c2.ah) c2 (fun a c3 => FlP G D a (unlockC p c3)) (fun e c3 => ∀ C, G.xa e = some C → Ex (.ref C) none (unlockC p c3).H),
    ⟨p.1.length, by simp, Nat.zero_le _, lockC p c1, env, lockC_H, okL, Cf.ext.refl _, (re.mono e1).same lockC_H lockC_mu, q2⟩, ?_⟩
  rintro i m σ1 H1 ⟨rfl, hi1, c2, env2, rfl, ok2, ex2, re2, q3⟩
  by_cases hlt : i < p.1.length
  · refine .inr ⟨hJ.go i c2 hlt ex2 ok2, fun σ' H' => ∃ c3 env3, c3.H = H' ∧ c3.ok G ∧ (lockC p c1).ext c3 ∧ EnvR G c3 env3 σ' ∧ Po G (floop t ms (p.1.drop (i + 1)) env3 c3.ah) c3 (fun a c3 => FlP G D a (unlockC p c3)) (fun e c3 => ∀ C, G.xa e = some C → Ex (.ref C) none (unlockC p c3).H),
      fun σ' H' h => ⟨p.1.length - (i + 1), by omega, rfl, hlt, h⟩, fun x H' hy => ?_⟩
    obtain ⟨c3, w, ex3, ok3, rfl, eah, hw, rw3⟩ := hJ.yld i c2 x H' hlt ex2 ok2 hy
    rw [List.drop_eq_getElem_cons hlt] at q3
    have hw2 : p.1[i] = w := by
      rw [List.getElem?_eq_getElem hlt] at hw
      exact Option.some.inj hw
    rw [hw2] at q3
    have q4 : Po G (floop t ms (w :: p.1.drop (i + 1)) env2 c3.ah) c3 (fun a c3 => FlP G D a (unlockC p c3)) (fun e c3 => ∀ C, G.xa e = some C → Ex (.ref C) none (unlockC p c3).H) := by
      rw [eah]
      exact Po.bind.Po.later ex3 q3
    cases hm : tgM t w env2 with
    | none =>
      simp only [floop, hm] at q4
      exact q4.elim
    | some env3 =>
      simp only [floop, hm] at q4
      refine gTg_ok (c := c3) F.K (vs := t.slots) hm (re2.mono ex3) rw3 (fun _ h => h) fun σ2 re4 _ => ?_
      refine ⟨c3, env3, rfl, ok3, re4, Po.mono (Po.bind q4) (fun fl c4 e4 ok4 q5 => ?_) fun e' c4 e4 ok4 q5 C hC => by rw [← unlockC_H (p := p)]; exact q5 C hC⟩
      have ex4 := (ex2.trans ex3).trans e4
      cases fl with
      | nx env' => exact fun σ' re' => ⟨c4, env', rfl, ok4, ex4, re', q5⟩
      | ct env' => exact fun σ' re' => ⟨c4, env', rfl, ok4, ex4, re', q5⟩
      | bk env' =>
        intro σ' re'
        have q6 := Po.here (a := Fl.nx env') q5 ok4 σ' (re'.same unlockC_H unlockC_mu)
        rw [unlockC_H] at q6
        exact q6
      | rt w =>
        intro v rv
        have q6 := Po.here (a := Fl.rt w) q5 ok4 v (RW.same unlockC_H unlockC_mu rv)
        rw [unlockC_H] at q6
        exact q6
  · have e : i = p.1.length := by omega
    subst e
    refine .inl ⟨hJ.stop c2 ex2 ok2, ?_⟩
    rw [List.drop_length] at q3
    have q6 := Po.here (a := Fl.nx env2) q3 ok2 σ1 (re2.same unlockC_H unlockC_mu)
    rw [unlockC_H] at q6
    exact q6

/-! ### list comprehensions -/
def noEx {α : Type} (m : M α) : M α := fun h => match m h with
  | .ok a h' => .ok a h'
  | _ => .no
theorem noEx_po {α : Type} {m : M α} {c : Cf} {F : α → Cf → Prop} {E E0 : Str → Cf → Prop} (h : Po G (noEx m c.ah) c F E) : Po G (m c.ah) c F E0 := by
  unfold noEx at h
  cases q : m c.ah with
  | ok a h' => rw [q] at h; exact h
  | ex e h' => rw [q] at h; exact h.elim
  | no => rw [q] at h; exact h
def pushM (i : Nat) (y : W) : M Unit := fun h => match h[i]? with
  | some (.lst xs) => if xs.length < sizeLine then .ok () (h.set i (.lst (xs ++ [y]))) else .no
  | _ => .no
def cLoop (id : Nat) (t : Tg) (tt : EnvW → M Bool) (el : ME) : List W → EnvW → M Unit
  | [], _ => mpure ()
  | w :: ws, env => match tgM t w env with
    | none => mno
    | some e1 => mbind (noEx (tt e1)) fun b => if b then mbind (noEx (el e1)) fun y => mbind (pushM id y) fun _ => cLoop id t tt el ws env else cLoop id t tt el ws env
def wipeW (env : EnvW) : List Nat → EnvW
  | [] => env
  | v :: vs => (wipeW env vs).set v none
theorem EnvR.wipe {c : Cf} {env : EnvW} {σ : L2.St} (h : EnvR G c env σ) : ∀ vs : List Nat, EnvR G c (wipeW env vs) (L2.wipe σ vs)
  | [] => h
  | v :: vs => (EnvR.wipe h vs).unset
def eLC (t : Tg) (mi : EnvW → M Src) (tt : EnvW → M Bool) (el : ME) : ME := fun env => mbind (mi env) fun p => over p fun ws => fun h => mbind (cLoop h.length t tt el ws (wipeW env t.slots)) (fun _ => mpure (.r h.length)) (h ++ [.lst []])
/-- the names of the block -/
def ownOf (sc : Sc) : Expr → Option (List (Str × Nat))
  | .Name x _ => (sc.N.idxOf? x).map fun i => [(x, i)]
  | .Tuple es _ _ => go es
  | _ => none
where
  go : List Expr → Option (List (Str × Nat))
    | [] => some []
    | .Name x _ :: es => match sc.N.idxOf? x, go es with
      | some i, some r => some ((x, i) :: r)
      | _, _ => none
    | _ => none
def blkSc (sc : Sc) (scope : Scope) : Sc := ⟨sc.N, relS scope sc.scope, fun x => scope.names.lookup x == some .cell⟩
def tTrue : EnvW → M Bool := fun _ => mpure true
theorem Fits.blk {X : Cx} {Wx : WX} (F : Fits T G CM k X sc Wx) (scope : Scope) (s : Shared) (H : Hp) (C : Addr) (cl : List (Str × Addr)) (fp : List Addr) : Fits T G CM k (X.blk s H scope (compEnvC scope cl C X.env) fp) (blkSc sc scope) (fun _ _ _ _ => False) := by
  refine ⟨F.N, F.nd, ?_, F.K, fun x h => h, F.calm, F.room, fun u s' ⟨_, _, _, _, _, _, _, _, _, _, _, _, _, _, _, _, w⟩ => w.elim, ?_⟩
  · show relS scope X.env.scope = relS scope sc.scope
    rw [F.scope]
  · exact ⟨F.top.fn, F.top.def_, F.top.con, F.top.free, fun x hx => F.top.exc x hx, F.top.cls, F.top.own, F.top.meth, F.top.isx, F.top.catch_⟩
def ST0 (T : Tb) (G : GA) (CM : FId → List W → M W) (k : Nat) (sc : Sc) (ifs : List Expr) (m : EnvW → M Bool) : Prop := ∀ X Wx, Fits T G CM k X sc Wx → PTs X ifs (tT G Wx m)
theorem PTs.imp {X : Cx} {e : List Expr} {t t' : TT} (h : PTs X e t) (i : ∀ σ H Q, t' σ H Q → t σ H Q) : PTs X e t' := ⟨fun p s σ H Q I q => h.run p s σ H Q I (i _ _ _ q)⟩
theorem st0_nil : ST0 T G CM k sc [] tTrue := fun X Wx F => PTs.imp pts_nil fun σ H Q ⟨c, env, e, ok, re, q⟩ => by
  subst e
  exact Po.here (a := true) q ok
theorem st0_one {mt : EnvW → M Bool} (h : ST T G CM k sc e mt) : ST0 T G CM k sc [e] mt := fun X Wx F => pts_one (h X Wx F)
/-- the reading of a comprehension -/
theorem lc_read {mt : EnvW → M Bool} {me : ME} {Wx : WX} {σ : L2.St} {H : Hp} {Q : VK} {K : PySem.W.Frag} (hK : K = G.K) (h : tE G Wx (eLC t mi mt me) σ H Q) : tLc (tI G Wx mi) (gTg K t) (tT G (fun _ _ _ _ => False) mt) (tE G (fun _ _ _ _ => False) me) t.slots σ H Q := by
  obtain ⟨c, env, e, ok, re, q⟩ := h
  subst e
  refine ⟨c, env, rfl, ok, re, Po.mono (Po.bind q) (fun p c1 e1 ok1 q1 hsrc J hJ D hD => ?_) fun _ _ _ _ q => q⟩
  have q2 := over_po ok1 hsrc q1
  have okL := lockC_ok (p := p) ok1
  have hDL : (lockC p c1).H D = none := by rw [lockC_H]; exact hD
  have exD := Cf.new_ext (o := .lst []) (ao := .lst []) okL hDL
  have okD : ((lockC p c1).new D (.lst []) (.lst [])).ok G := Cf.new_ok okL hDL ⟨[], upd_same, .nil⟩
  have q3 := Po.bind (c := (lockC p c1).new D (.lst []) (.lst [])) (Po.bind.Po.later exD q2)
  have rD : ∀ c3 : Cf, ((lockC p c1).new D (.lst []) (.lst [])).ext c3 → c3.μ[(lockC p c1).ah.length]? = some D := fun c3 ex => ex.pre _ _ (by show ((lockC p c1).μ ++ [D])[(lockC p c1).ah.length]? = some D; rw [← okL.len]; simp)
  have re0 : EnvR G ((lockC p c1).new D (.lst []) (.lst [])) (wipeW env t.slots) (L2.wipe σ t.slots) := (((re.mono e1).same lockC_H lockC_mu).mono exD).wipe _
  refine ⟨fun i m H => m = p.1.length - i ∧ i ≤ p.1.length ∧ ∃ c2, c2.H = H ∧ c2.ok G ∧ ((lockC p c1).new D (.lst []) (.lst [])).ext c2 ∧ Po G (cLoop (lockC p c1).ah.length t mt me (p.1.drop i) (wipeW env t.slots) c2.ah) c2 (fun _ c3 => VQ G Q (.r (lockC p c1).ah.length) (unlockC p c3)) (fun _ _ => True),
    ⟨p.1.length, by simp, Nat.zero_le _, (lockC p c1).new D (.lst []) (.lst []), by show upd (lockC p c1).H D _ = _; rw [lockC_H], okD, Cf.ext.refl _, Po.mono q3 (fun _ c3 e3 ok3 q4 => Po.here (a := W.r (lockC p c1).ah.length) (F := fun a c3 => VQ G Q a (unlockC p c3)) q4 ok3) fun _ _ _ _ _ => trivial⟩, ?_⟩
  rintro i m H1 ⟨rfl, hi1, c2, rfl, ok2, ex2, q4⟩
  by_cases hlt : i < p.1.length
  · refine .inr ⟨hJ.go i c2 hlt (exD.trans ex2) ok2, fun H' => ∃ c3, c3.H = H' ∧ c3.ok G ∧ ((lockC p c1).new D (.lst []) (.lst [])).ext c3 ∧ Po G (cLoop (lockC p c1).ah.length t mt me (p.1.drop (i + 1)) (wipeW env t.slots) c3.ah) c3 (fun _ c3 => VQ G Q (.r (lockC p c1).ah.length) (unlockC p c3)) (fun _ _ => True),
      fun H' h => ⟨p.1.length - (i + 1), by omega, rfl, hlt, h⟩, fun x H' hy => ?_⟩
    obtain ⟨c3, w, ex3, ok3, rfl, eah, hw, rw3⟩ := hJ.yld i c2 x H' hlt (exD.trans ex2) ok2 hy
    rw [List.drop_eq_getElem_cons hlt] at q4
    have hw2 : p.1[i] = w := by
      rw [List.getElem?_eq_getElem hlt] at hw
      exact Option.some.inj hw
    rw [hw2] at q4
    have q5 : Po G (cLoop (lockC p c1).ah.length t mt me (w :: p.1.drop (i + 1)) (wipeW env t.slots) c3.ah) c3 (fun _ c3 => VQ G Q (.r (lockC p c1).ah.length) (unlockC p c3)) (fun _ _ => True) := by
      rw [eah]
      exact Po.bind.Po.later ex3 q4
    cases hm : tgM t w (wipeW env t.slots) with
    | none =>
      simp only [cLoop, hm] at q5
      exact q5.elim
    | some env3 =>
      simp only [cLoop, hm] at q5
      refine gTg_ok (c := c3) hK (vs := t.slots) hm ((re0.mono ex2).mono ex3) rw3 (fun _ h => h) fun σ2 re4 hwp => ⟨by rw [hwp]; exact wipe_wipe _ _, ?_⟩
      refine ⟨c3, env3, rfl, ok3, re4, Po.mono (noEx_po (Po.bind q5)) (fun b c4 e4 ok4 q6 => ?_) fun _ _ _ _ q => q⟩
      have ex4 := (ex2.trans ex3).trans e4
      cases b with
      | false => exact iteF ⟨c4, rfl, ok4, ex4, q6⟩
      | true =>
        refine iteT ⟨c4, env3, rfl, ok4, re4.mono e4, Po.mono (noEx_po (Po.bind q6)) (fun y c5 e5 ok5 q7 v rv => ?_) fun _ _ _ _ q => q⟩
        have ex5 := ex4.trans e5
        have q8 := Po.bind q7
        unfold pushM at q8
        split at q8
        · rename_i xs hx
          have hd := rD c5 ex5
          obtain ⟨us, hu, ru⟩ := ok5.obj _ D _ hd hx
          split at q8
          · rename_i hz
            obtain ⟨exP, okP⟩ := put_list ok5 hd hx (RWL.append ru (.cons rv .nil))
            exact ⟨us, hu, by rw [Paired.length ru]; exact hz, _, rfl, okP, ex5.trans exP, q8 _ exP okP rfl⟩
          · exact q8.elim
        · exact q8.elim
  · have e : i = p.1.length := by omega
    subst e
    refine .inl ⟨hJ.stop c2 (exD.trans ex2) ok2, ?_⟩
    rw [List.drop_length] at q4
    have q6 := Po.here (a := ()) q4 ok2 (.ref D) ⟨D, rfl, by rw [unlockC_mu]; exact rD c2 ex2⟩
    rw [unlockC_H] at q6
    exact q6
where
  wipe_wipe (σ : L2.St) (vs : List Nat) : L2.wipe (L2.wipe σ vs) vs = L2.wipe σ vs := by
    have h : ∀ (us : List Nat) (τ : L2.St), (∀ u ∈ us, ∀ x, τ[u]? = some x → x = none) → L2.wipe τ us = τ := by
      intro us
      induction us with
      | nil => intro τ _; rfl
      | cons u us ih =>
        intro τ ht
        unfold L2.wipe
        rw [ih τ fun u' hu' => ht u' (List.mem_cons_of_mem _ hu')]
        by_cases hl : u < τ.length
        · have := ht u List.mem_cons_self _ (List.getElem?_eq_getElem hl)
          rw [← this, List.set_getElem_self]
        · exact List.set_eq_of_length_le (by omega)
    refine h vs _ fun u hu x hx => ?_
    cases x with
    | none => rfl
    | some v => exact absurd hu (wipe_some hx).2
end
end Ev
set_option Elab.async false
set_option linter.all false
set_option maxRecDepth 100000
set_option maxHeartbeats 2000000
/-! E12: comprehensions as expressions, sources. -/
namespace Ev
open PySem PySem.Spec PyProof.Rows L2

def lcT (sc : Sc) (scope : Scope) (tg : Expr) : Option Tg := match ownOf sc tg, tgOf (blkSc sc scope) tg with
  | some own, some t => if blkC sc.N sc.scope scope own && decide (own.map (·.2) = t.slots) then some t else none
  | _, _ => none
theorem lcT_ok {sc : Sc} {scope : Scope} {tg : Expr} {t : Tg} (h : lcT sc scope tg = some t) : ∃ own, BlkOk sc.N sc.scope scope own ∧ own.map (·.2) = t.slots ∧ tgOf (blkSc sc scope) tg = some t := by
  unfold lcT at h
  split at h
  · rename_i own t' h1 h2
    split at h
    · rename_i hc
      cases h
      obtain ⟨c1, c2⟩ := Bool.and_eq_true_iff.mp hc
      exact ⟨own, blkOk_by c1, of_decide_eq_true c2, h2⟩
    · cases h
  · cases h
section
variable {T : Tb} {G : GA} {CM : FId → List W → M W} {k : Nat} {sc : Sc} {tg it e elt : Expr} {ifs : List Expr} {scope : Scope} {t : Tg} {mi : EnvW → M Src} {mt : EnvW → M Bool} {me : ME} {pos py spos : Pos}
theorem se_lc (ht : lcT sc scope tg = some t) (hi : SI T G CM k sc tg it mi) (hn : noSetE it = true) (hif : ST0 T G CM k (blkSc sc scope) ifs mt) (he : SE T G CM k (blkSc sc scope) elt me) : SE T G CM k sc (.ListComp elt [⟨tg, it, ifs, 0⟩] scope pos) (eLC t mi mt me) := fun X Wx F => by
  obtain ⟨own, h1, h2, h3⟩ := lcT_ok ht
  have hb : BlkOk X.N X.env.scope scope own := by rw [F.N, F.scope]; exact h1
  refine PE.imp (pe_lc (g := gTg X.K t) F.calm F.ndN (hi X Wx F) hb (fun s H C cl fp => pg_tg (F.blk scope s H C cl fp) h3) (fun s H C cl fp => hif _ _ (F.blk scope s H C cl fp)) (fun s H C cl fp => he _ _ (F.blk scope s H C cl fp)) (noSetE_ok hn _)) fun σ H Q q => ?_
  rw [h2]
  exact lc_read F.K q
/-- name = [..], on one line -/
theorem ss_setLc {y : Str} {i : Nat} (hy : sc.scope.names.lookup y = some .local) (hi2 : sc.N.idxOf? y = some i) (hk : sc.scope.kind = .function) (hl : (py.line == pos.line) = true) (hany : (scope.names.any fun (n, k) => n == y && (k == .local || k == .cell)) = false)
    (ht : lcT sc scope tg = some t) (hi : SI T G CM k sc tg it mi) (hn : noSetE it = true) (hif : ST0 T G CM k (blkSc sc scope) ifs mt) (he : SE T G CM k (blkSc sc scope) elt me) : SS T G CM k sc (.Assign [.Name y py] (.ListComp elt [⟨tg, it, ifs, 0⟩] scope pos) spos) (sSet i (eLC t mi mt me)) := fun X Ex F hp hs hf => by
  obtain ⟨own, h1, h2, h3⟩ := lcT_ok ht
  have hb : BlkOk X.N X.env.scope scope own := by rw [F.N, F.scope]; exact h1
  have hyX : X.env.scope.names.lookup y = some .local := by rw [F.scope]; exact hy
  refine PS.imp (ps_setLc (g := gTg X.K t) (i := i) F.calm F.ndN (by rw [F.N]; exact idx_at hi2) hyX (sw_true (by rw [F.scope]; exact hk) hyX hl hany) (hi X _ F) hb (fun s H C cl fp => pg_tg (F.blk scope s H C cl fp) h3) (fun s H C cl fp => hif _ _ (F.blk scope s H C cl fp)) (fun s H C cl fp => he _ _ (F.blk scope s H C cl fp)) (noSetE_ok hn _)) fun D σ H ⟨c, env, e, ok, re, q⟩ => ?_
  subst e
  rw [h2]
  refine lc_read F.K (tE.step ok re q fun w c1 v e1 ok1 re1 rv q1 => ?_)
  exact Po.here (a := Fl.nx (env.set i (some w))) q1 ok1 _ (re1.set rv)

/-! ### sources -/
def srcM (w : W) : M Src := fun h => match w with
  | .d (.tuple ds) => .ok (ds.map .d, none) h
  | .d (.list ds) => .ok (ds.map .d, none) h
  | .d (.str z) => .ok (z.cps.toList.map fun c => wS ⟨#[c]⟩, none) h
  | .r i => (match h[i]? with
    | some (.lst ws) => .ok (ws, some i) h
    | _ => .no)
  | _ => .no
def iVal (a : ME) : EnvW → M Src := fun env => mbind (a env) srcM
def iAny (K : PySem.W.Frag) (tl : TE) : TI := fun σ H R => tl σ H fun x H1 => (∃ a, x = .ref a ∧ (∃ xs, SqL K H1 a xs) ∧ R (Itl K a) H1) ∨ (∃ a, x = .ref a ∧ (∃ xs, SqT K H1 a xs) ∧ R (Itt K a) H1) ∨ ∃ z, x = .str z ∧ R (Its z) H1
theorem pi_any {X : Cx} {l : Expr} {tl : TE} (hl : PE X l tl) : PI X tg l (iAny X.K tl) := by
  refine ⟨fun pins s σ H R I h => ?_⟩
  refine thn (hl.run pins s σ H _ I h) fun v s1 ⟨x, H1, I1, r1, q1⟩ => ?_
  rcases q1 with ⟨a, e, ⟨xs, hq⟩, q⟩ | ⟨a, e, ⟨xs, hq⟩, q⟩ | ⟨z, e, q⟩
  · subst e
    cases r1
    obtain ⟨its, rv, p, hz⟩ := I1.list hq
    refine wpAny_pyIter_list p.isList ?_
    exact pi_one (tk := s1.toks) I1 _ (turn_list a _) ⟨_, Heap.get?_push_size _ rfl, rfl, rfl⟩ q
  · subst e
    cases r1
    obtain ⟨its, rv, p, hz⟩ := I1.tuple hq
    refine wpAny_pyIter_tuple (show s1.heap.IsTuple a its.toArray from p) ?_
    exact pi_one (tk := s1.toks) I1 _ (turn_tuple a _) ⟨_, Heap.get?_push_size _ rfl, rfl, rfl⟩ q
  · subst e
    obtain ⟨t, rfl⟩ := r1
    cases ha : z.cps.all (· < 128)
    · exact wpAny_pyIter_wide ha (pi_one (tk := s1.toks) I1 _ (turn_str _ z t "str_iterator" (.inr rfl)) ⟨_, Heap.get?_push_size _ rfl, rfl, rfl⟩ q)
    · exact wpAny_pyIter_ascii ha (pi_one (tk := s1.toks) I1 _ (turn_str _ z t "str_ascii_iterator" (.inl rfl)) ⟨_, Heap.get?_push_size _ rfl, rfl, rfl⟩ q)
theorem RpL.mapd {c : Cf} {xs : List V} {ds : List PyData} (h : RpL G.K c xs ds) {i : Nat} (hi : i < (ds.map W.d).length) : ∃ v d, xs[i]? = some v ∧ ds[i]? = some d ∧ Rp G.K c v d ∧ (ds.map W.d)[i]? = some (W.d d) := by
  have hi2 : i < ds.length := by simpa using hi
  obtain ⟨v, h1, h2⟩ := h.get (List.getElem?_eq_getElem hi2)
  exact ⟨v, ds[i], h1, List.getElem?_eq_getElem hi2, h2, by simp [hi2]⟩
theorem iter_tup {K : PySem.W.Frag} (hK : K = G.K) {c : Cf} {a : Addr} {xs : List V} {ds : List PyData} (hs : ∀ c2, c.ext c2 → SqT K c2.H a xs) (r : RpL G.K c xs ds) : IterOk G (Itt K a) (ds.map W.d) c where
  go := fun i c2 hi ex _ => by
    obtain ⟨v, d, h1, _⟩ := r.mapd hi
    exact ⟨xs, v, hs c2 ex, h1⟩
  stop := fun c2 ex _ => ⟨xs, hs c2 ex, by rw [List.length_map, r.length]; exact Nat.le_refl _⟩
  yld := fun i c2 x H' hi ex ok2 y => by
    obtain ⟨e, y⟩ := y
    subst e
    obtain ⟨v, d, h1, h2, h3, h4⟩ := r.mapd hi
    have := y xs (hs c2 ex)
    rw [h1] at this
    cases this
    exact ⟨c2, _, Cf.ext.refl c2, ok2, rfl, rfl, h4, Rp.mono ex h3⟩
theorem iter_lst {K : PySem.W.Frag} (hK : K = G.K) {c : Cf} {a : Addr} {xs : List V} {ds : List PyData} (hs : ∀ c2, c.ext c2 → SqL K c2.H a xs) (r : RpL G.K c xs ds) : IterOk G (Itl K a) (ds.map W.d) c where
  go := fun i c2 hi ex _ => by
    obtain ⟨v, d, h1, _⟩ := r.mapd hi
    exact ⟨xs, v, hs c2 ex, h1⟩
  stop := fun c2 ex _ => ⟨xs, hs c2 ex, by rw [List.length_map, r.length]; exact Nat.le_refl _⟩
  yld := fun i c2 x H' hi ex ok2 y => by
    obtain ⟨e, y⟩ := y
    subst e
    obtain ⟨v, d, h1, h2, h3, h4⟩ := r.mapd hi
    have := y xs (hs c2 ex)
    rw [h1] at this
    cases this
    exact ⟨c2, _, Cf.ext.refl c2, ok2, rfl, rfl, h4, Rp.mono ex h3⟩
theorem iter_lstW {K : PySem.W.Frag} {c : Cf} {a : Addr} {xs : List V} {ws : List W} (hs : ∀ c2, c.ext c2 → SqL K c2.H a xs) (r : RWL G c xs ws) : IterOk G (Itl K a) ws c where
  go := fun i c2 hi ex _ => by
    obtain ⟨v, h1, _⟩ := RWL.get r (List.getElem?_eq_getElem hi)
    exact ⟨xs, v, hs c2 ex, h1⟩
  stop := fun c2 ex _ => ⟨xs, hs c2 ex, by rw [Paired.length r]; exact Nat.le_refl _⟩
  yld := fun i c2 x H' hi ex ok2 y => by
    obtain ⟨e, y⟩ := y
    subst e
    obtain ⟨v, h1, h2⟩ := RWL.get r (List.getElem?_eq_getElem hi)
    have := y xs (hs c2 ex)
    rw [h1] at this
    cases this
    exact ⟨c2, _, Cf.ext.refl c2, ok2, rfl, rfl, List.getElem?_eq_getElem hi, RW.mono ex h2⟩
theorem iter_str {c : Cf} (z : Str) : IterOk G (Its z) (z.cps.toList.map fun c => wS ⟨#[c]⟩) c where
  go := fun i c2 hi _ _ => by show i < z.cps.size; simpa using hi
  stop := fun c2 _ _ => by show z.cps.size ≤ _; simp
  yld := fun i c2 x H' hi _ ok2 y => by
    obtain ⟨e, ch, h1, h2⟩ := y
    subst e h2
    exact ⟨c2, wS ⟨#[ch]⟩, Cf.ext.refl c2, ok2, rfl, rfl, by simp [h1], .str _⟩
theorem tup_stays {c : Cf} {v : V} {ds : List PyData} (h : RW G c v (.d (.tuple ds))) : ∃ a xs, v = .ref a ∧ RpL G.K c xs ds ∧ ∀ c2, c.ext c2 → SqT G.K c2.H a xs := by
  cases (show Rp G.K c v (.tuple ds) from h) with
  | tup l1 h1 r1 => exact ⟨_, _, rfl, r1, fun c2 ex => .inl (ex.rd h1 l1).1⟩
  | tupK h1 r1 => exact ⟨_, _, rfl, r1, fun c2 ex => .inr h1⟩
theorem lst_stays {c : Cf} {v : V} {ds : List PyData} (h : RW G c v (.d (.list ds))) : ∃ a xs, v = .ref a ∧ RpL G.K c xs ds ∧ ∀ c2, c.ext c2 → SqL G.K c2.H a xs := by
  cases (show Rp G.K c v (.list ds) from h) with
  | lst l1 h1 r1 => exact ⟨_, _, rfl, r1, fun c2 ex => .inl (ex.rd h1 l1).1⟩
theorem si_val (he : SE T G CM k sc e me) : SI T G CM k sc tg e (iVal me) := fun X Wx F => by
  refine PI.imp (pi_any (he X Wx F)) fun σ H R ⟨c, env, e0, ok, re, q⟩ => ?_
  subst e0
  refine tE.step ok re q fun w c1 v e1 ok1 re1 rv q1 => ?_
  unfold srcM at q1
  split at q1
  · rename_i ds
    obtain ⟨a, xs, rfl, r1, hs⟩ := tup_stays rv
    refine .inr (.inl ⟨a, rfl, ⟨xs, by rw [F.K]; exact hs c1 (Cf.ext.refl _)⟩, ?_⟩)
    rw [F.K]
    exact q1.here ok1 (fun i h => by cases h) _ (iter_tup rfl hs r1)
  · rename_i ds
    obtain ⟨a, xs, rfl, r1, hs⟩ := lst_stays rv
    refine .inl ⟨a, rfl, ⟨xs, by rw [F.K]; exact hs c1 (Cf.ext.refl _)⟩, ?_⟩
    rw [F.K]
    exact q1.here ok1 (fun i h => by cases h) _ (iter_lst rfl hs r1)
  · rename_i z
    exact .inr (.inr ⟨z, rStr rv, q1.here ok1 (fun i h => by cases h) _ (iter_str z)⟩)
  · rename_i i
    split at q1
    · rename_i ws ew
      obtain ⟨a, rfl, h1, xs, hx, rx⟩ := rRef ok1 rv ew
      refine .inl ⟨a, rfl, ⟨xs, .inl (.inl hx)⟩, ?_⟩
      refine q1.here ok1 (fun j h => ?_) _ (iter_lstW (c := lockC (ws, some i) c1) (xs := xs) (fun c2 ex => ?_) (L2.Paired.mapP rx fun _ _ q => RW.same lockC_H lockC_mu q))
      · cases h
        exact ⟨a, xs, h1, ew, hx, rx⟩
      · have := ex.dead i a (.lst xs) (by rw [lockC_mu]; exact h1) (by show (c1.ah.set i .dead)[i]? = _; exact List.getElem?_set_self (List.getElem?_eq_some_iff.mp ew).1) (by rw [lockC_H]; exact hx)
        exact .inl (.inl this.1)
    · exact q1.elim
  · exact q1.elim
/-! range -/
def rangeL (lo : Int) (n : Nat) : List W := (List.range n).map fun (i : Nat) => wI (lo + (i : Int))
theorem iter_range {c : Cf} (lo : Int) (n : Nat) : IterOk G (Itr lo n) (rangeL lo n) c where
  go := fun i c2 hi _ _ => by show i < n; simpa [rangeL] using hi
  stop := fun c2 _ _ => by show n ≤ _; simp [rangeL]
  yld := fun i c2 x H' hi _ ok2 y => by
    obtain ⟨e, h2⟩ := y
    subst e h2
    have hi' : i < n := by simpa [rangeL] using hi
    exact ⟨c2, wI (lo + i), Cf.ext.refl c2, ok2, rfl, rfl, by simp [rangeL, hi'], .int _⟩
def small62 (j : Int) : Bool := decide (j.natAbs < 4611686018427387904)
theorem small62_ok {i : Int} (h : small62 i = true) : -(2 ^ 62) ≤ i ∧ i < 2 ^ 62 := by
  have h := of_decide_eq_true h
  omega
def rng1 (ws : List W) : M Src := fun h => match ws with
  | [.d (.int j)] => if small62 j then .ok (rangeL 0 j.toNat, none) h else .no
  | _ => .no
def rng2 (ws : List W) : M Src := fun h => match ws with
  | [.d (.int i), .d (.int j)] => if small62 i && small62 j then .ok (rangeL i (j - i).toNat, none) h else .no
  | _ => .no
def iFun (f : List W → M Src) (a : EnvW → M (List W)) : EnvW → M Src := fun env => mbind (a env) f
theorem si_range1 {a : Expr} {p : Pos} {mr : EnvW → M (List W)} (hg : isGlob sc "range" = true) (hf : ("range" : Str) ∈ T.free) (ha : SA T G CM k sc [a] mr) (hs : noStar a = true) : SI T G CM k sc tg (.Call (.Name "range" p) [a] [] pos) (iFun rng1 mr) := fun X Wx F => by
  refine PI.imp (pi_range1 (F.gl hg) (F.top.free _ hf) (ha X Wx F) (noStar_each hs [] X.env)) fun σ H R ⟨c, env, e0, ok, re, q⟩ => ?_
  subst e0
  refine tA.step ok re q fun ws c1 vs e1 ok1 re1 rvs q1 => ?_
  unfold rng1 at q1
  split at q1
  · rename_i j
    obtain ⟨v, rfl, r1⟩ := rwl1 rvs
    rw [rInt r1]
    split at q1
    · rename_i hz
      exact ⟨j, rfl, (small62_ok hz).1, (small62_ok hz).2, q1.here ok1 (fun i h => by cases h) _ (iter_range 0 _)⟩
    · exact q1.elim
  · exact q1.elim
theorem si_range2 {a b : Expr} {p : Pos} {mr : EnvW → M (List W)} (hg : isGlob sc "range" = true) (hf : ("range" : Str) ∈ T.free) (ha : SA T G CM k sc [a, b] mr) (hs : noStar a = true) (hs2 : noStar b = true) : SI T G CM k sc tg (.Call (.Name "range" p) [a, b] [] pos) (iFun rng2 mr) := fun X Wx F => by
  refine PI.imp (pi_range2 (F.gl hg) (F.top.free _ hf) (ha X Wx F) (by rw [noStar_each hs, noStar_each hs2]; rfl) (noStar_each hs2 [] X.env)) fun σ H R ⟨c, env, e0, ok, re, q⟩ => ?_
  subst e0
  refine tA.step ok re q fun ws c1 vs e1 ok1 re1 rvs q1 => ?_
  unfold rng2 at q1
  split at q1
  · rename_i i j
    obtain ⟨v, v', rfl, r1, r2⟩ := rwl2 rvs
    rw [rInt r1, rInt r2]
    split at q1
    · rename_i hz
      obtain ⟨hz1, hz2⟩ := Bool.and_eq_true_iff.mp hz
      exact ⟨i, j, rfl, ⟨(small62_ok hz1).1, (small62_ok hz1).2, (small62_ok hz2).1, (small62_ok hz2).2⟩, q1.here ok1 (fun i h => by cases h) _ (iter_range _ _)⟩
    · exact q1.elim
  · exact q1.elim
/-! zip of two tuples, of two lists -/
def zipD (xs ys : List PyData) : List W := List.zipWith (fun x y => W.d (.tuple [x, y])) xs ys
def zipM (ws : List W) : M Src := fun h => match ws with
  | [.d (.tuple xs), .d (.tuple ys)] => .ok (zipD xs ys, none) h
  | [.d (.list xs), .d (.list ys)] => .ok (zipD xs ys, none) h
  | _ => .no
theorem new_pair {c2 : Cf} {x y : V} {dx dy : PyData} {Tp : Addr} (ok2 : c2.ok G) (hT : c2.H Tp = none) (rx : Rp G.K c2 x dx) (ry : Rp G.K c2 y dy) : ∃ c3, c2.ext c3 ∧ c3.ok G ∧ c3.H = upd c2.H Tp (.tup [x, y]) ∧ c3.ah = c2.ah ∧ RW G c3 (.ref Tp) (.d (.tuple [dx, dy])) := by
  have ex := Cf.lay_ext (c := c2) (o := .tup [x, y]) hT
  exact ⟨c2.lay Tp (.tup [x, y]), ex, Cf.lay_ok ok2 hT, rfl, rfl, .tup (Cf.lay_live ok2 hT) (.inl upd_same) (.cons (Rp.mono ex rx) (.cons (Rp.mono ex ry) .nil))⟩
theorem zipD_at {xs ys : List V} {ds es : List PyData} {c : Cf} (r1 : RpL G.K c xs ds) (r2 : RpL G.K c ys es) {i : Nat} (hi : i < (zipD ds es).length) : ∃ x y dx dy, xs[i]? = some x ∧ ys[i]? = some y ∧ Rp G.K c x dx ∧ Rp G.K c y dy ∧ (zipD ds es)[i]? = some (.d (.tuple [dx, dy])) := by
  have hl : i < min ds.length es.length := by simpa [zipD] using hi
  have h1 : i < ds.length := by omega
  have h2 : i < es.length := by omega
  obtain ⟨x, a1, a2⟩ := r1.get (List.getElem?_eq_getElem h1)
  obtain ⟨y, b1, b2⟩ := r2.get (List.getElem?_eq_getElem h2)
  exact ⟨x, y, _, _, a1, b1, a2, b2, by simp [zipD, List.getElem?_zipWith, h1, h2]⟩
theorem iter_zipT {c : Cf} {a b : Addr} {xs ys : List V} {ds es : List PyData} (hs1 : ∀ c2, c.ext c2 → SqT G.K c2.H a xs) (hs2 : ∀ c2, c.ext c2 → SqT G.K c2.H b ys) (r1 : RpL G.K c xs ds) (r2 : RpL G.K c ys es) : IterOk G (RZ.ItzT G.K a b) (zipD ds es) c where
  go := fun i c2 hi ex _ => by
    obtain ⟨x, y, dx, dy, h1, h2, _⟩ := zipD_at r1 r2 hi
    exact ⟨xs, ys, x, y, hs1 c2 ex, hs2 c2 ex, h1, h2⟩
  stop := fun c2 ex _ => ⟨xs, ys, hs1 c2 ex, hs2 c2 ex, by rw [r1.length, r2.length]; simp [zipD]; omega⟩
  yld := fun i c2 x H' hi ex ok2 y => by
    obtain ⟨Tp, x', y', h1, h2, h3, h4, h5⟩ := y
    obtain ⟨x2, y2, dx, dy, a1, a2, a3, a4, a5⟩ := zipD_at r1 r2 hi
    have e1 := h4 xs (hs1 c2 ex)
    have e2 := h5 ys (hs2 c2 ex)
    rw [a1] at e1; rw [a2] at e2
    cases e1; cases e2
    subst h1
    obtain ⟨c3, q1, q2, q3, q4, q5⟩ := new_pair ok2 h2 (Rp.mono ex a3) (Rp.mono ex a4)
    exact ⟨c3, _, q1, q2, by rw [q3, h3], q4, a5, q5⟩
theorem iter_zipL {c : Cf} {a b : Addr} {xs ys : List V} {ds es : List PyData} (hs1 : ∀ c2, c.ext c2 → SqL G.K c2.H a xs) (hs2 : ∀ c2, c.ext c2 → SqL G.K c2.H b ys) (r1 : RpL G.K c xs ds) (r2 : RpL G.K c ys es) : IterOk G (Itz G.K a b) (zipD ds es) c where
  go := fun i c2 hi ex _ => by
    obtain ⟨x, y, dx, dy, h1, h2, _⟩ := zipD_at r1 r2 hi
    exact ⟨xs, ys, x, y, hs1 c2 ex, hs2 c2 ex, h1, h2⟩
  stop := fun c2 ex _ => ⟨xs, ys, hs1 c2 ex, hs2 c2 ex, by rw [r1.length, r2.length]; simp [zipD]; omega⟩
  yld := fun i c2 x H' hi ex ok2 y => by
    obtain ⟨Tp, x', y', h1, h2, h3, h4, h5⟩ := y
    obtain ⟨x2, y2, dx, dy, a1, a2, a3, a4, a5⟩ := zipD_at r1 r2 hi
    have e1 := h4 xs (hs1 c2 ex)
    have e2 := h5 ys (hs2 c2 ex)
    rw [a1] at e1; rw [a2] at e2
    cases e1; cases e2
    subst h1
    obtain ⟨c3, q1, q2, q3, q4, q5⟩ := new_pair ok2 h2 (Rp.mono ex a3) (Rp.mono ex a4)
    exact ⟨c3, _, q1, q2, by rw [q3, h3], q4, a5, q5⟩
theorem si_zip {a b : Expr} {elts : List Expr} {kk : Nat} {tpos p : Pos} {mr : EnvW → M (List W)} (hg : isGlob sc "zip" = true) (hf : ("zip" : Str) ∈ T.free) (ha : SA T G CM k sc [a, b] mr) (hs : noStar a = true) (hs2 : noStar b = true) : SI T G CM k sc (.Tuple elts kk tpos) (.Call (.Name "zip" p) [a, b] [] pos) (iFun zipM mr) := fun X Wx F => by
  refine PI.imp (RZ.pi_zipA (F.gl hg) (F.top.free _ hf) (ha X Wx F) (noStar_each hs _ X.env) (noStar_any (es := [b]) (by simp [hs2]) pos X.env)) fun σ H R ⟨c, env, e0, ok, re, q⟩ => ?_
  subst e0
  refine tA.step ok re q fun ws c1 vs e1 ok1 re1 rvs q1 => ?_
  unfold zipM at q1
  split at q1
  · rename_i ds es
    obtain ⟨v, v', rfl, r1, r2⟩ := rwl2 rvs
    obtain ⟨p1, xs, rfl, u1, s1⟩ := tup_stays r1
    obtain ⟨p2, ys, rfl, u2, s2⟩ := tup_stays r2
    refine ⟨p1, p2, xs, ys, rfl, .inr ⟨by rw [F.K]; exact s1 c1 (Cf.ext.refl _), by rw [F.K]; exact s2 c1 (Cf.ext.refl _), ?_⟩⟩
    rw [F.K]
    exact q1.here ok1 (fun i h => by cases h) _ (iter_zipT s1 s2 u1 u2)
  · rename_i ds es
    obtain ⟨v, v', rfl, r1, r2⟩ := rwl2 rvs
    obtain ⟨p1, xs, rfl, u1, s1⟩ := lst_stays r1
    obtain ⟨p2, ys, rfl, u2, s2⟩ := lst_stays r2
    refine ⟨p1, p2, xs, ys, rfl, .inl ⟨by rw [F.K]; exact s1 c1 (Cf.ext.refl _), by rw [F.K]; exact s2 c1 (Cf.ext.refl _), ?_⟩⟩
    rw [F.K]
    exact q1.here ok1 (fun i h => by cases h) _ (iter_zipL s1 s2 u1 u2)
  · exact q1.elim
end
end Ev
set_option Elab.async false
set_option linter.all false
set_option maxRecDepth 100000
set_option maxHeartbeats 2000000
/-! E13: stores to attributes and places, several names, op=; lists that are data. -/
namespace Ev
open PySem PySem.Spec PyProof.Rows L2

section
variable {T : Tb} {G : GA} {CM : FId → List W → M W} {k : Nat} {sc : Sc} {a b e o i : Expr} {es : List Expr} {mr : EnvW → M (List W)} {ma mb mo mi : ME} {pos p p2 : Pos} {f x : Str}
/-! ### a list display that is data (it stands within another display, or is compared) -/
def eLstD (a : EnvW → M (List W)) : ME := fun env => mbind (a env) fun ws => match allD ws with
  | some ds => if ds.length ≤ sizeLine then mpure (.d (.list ds)) else mno
  | none => mno
theorem se_lstD (hr : SA T G CM k sc es mr) : SE T G CM k sc (.List es pos) (eLstD mr) := fun X Wx F => by
  refine PE.imp (pe_lst (hr X Wx F)) fun σ H Q ⟨c, env, e, ok, re, q⟩ => ?_
  subst e
  refine tA.step ok re q fun ws c1 vs e1 ok1 re1 rvs q1 => ?_
  cases hd : allD ws with
  | none =>
    simp only [hd] at q1
    exact q1.elim
  | some ds =>
    simp only [hd] at q1
    by_cases hz : ds.length ≤ sizeLine
    · rw [if_pos hz] at q1
      have r := allD_ok hd rvs
      refine ⟨by rw [r.length]; exact hz, fun p hp => ?_⟩
      have ex := Cf.lay_ext (o := .lst vs) hp
      exact Po.at (c' := c1.lay p (.lst vs)) q1 ex (Cf.lay_ok ok1 hp) (.ref p) (.lst (Cf.lay_live ok1 hp) (.inl upd_same) (RpL.mono ex r))
    · rw [if_neg hz] at q1
      exact q1.elim

/-! ### o.f = e -/
def putW (f : Str) (v : W) : List (Str × W) → List (Str × W)
  | [] => [(f, v)]
  | (g, x) :: r => if g = f then (g, v) :: r else (g, x) :: putW f v r
theorem putF_rel {c : Cf} {f : Str} {v : V} {w : W} (rv : RW G c v w) : ∀ {xs : List (Str × V)} {fs : List (Str × W)}, Paired (fun (p : Str × V) (q : Str × W) => p.1 = q.1 ∧ RW G c p.2 q.2) xs fs → Paired (fun (p : Str × V) (q : Str × W) => p.1 = q.1 ∧ RW G c p.2 q.2) (putF f v xs) (putW f w fs)
  | _, _, .nil => .cons ⟨rfl, rv⟩ .nil
  | (g, x) :: xs, (g', y) :: fs, .cons h r => by
    obtain ⟨h1, h2⟩ := h
    have h1' : g = g' := h1
    subst h1'
    show Paired _ (if g = f then (g, v) :: xs else (g, x) :: putF f v xs) (if g = f then (g, w) :: fs else (g, y) :: putW f w fs)
    by_cases e : g = f
    · rw [if_pos e, if_pos e]; exact .cons ⟨rfl, rv⟩ r
    · rw [if_neg e, if_neg e]; exact .cons ⟨rfl, h2⟩ (putF_rel rv r)
def setFldM (f : Str) (o v : W) : M Unit := fun h => match o with
  | .r i => (match h[i]? with
    | some (.ins c fs) => if fs.length < 1000 then .ok () (h.set i (.ins c (putW f v fs))) else .no
    | _ => .no)
  | _ => .no
def sFldW (f : Str) (o v : ME) : MS := fun env => mbind (v env) fun y => mbind (o env) fun x => mbind (setFldM f x y) fun _ => mpure (.nx env)
theorem swA (v o : Expr) (f : Str) (p : Pos) (l : Nat) (env : Env) : swapsWith v (some (.Attribute o f p)) l env = pure false := by
  unfold swapsWith
  split
  · rfl
  · rfl
theorem swT (v : Expr) (es : List Expr) (kk : Nat) (p : Pos) (l : Nat) (env : Env) : swapsWith v (some (.Tuple es kk p)) l env = pure false := by
  unfold swapsWith
  split
  · rfl
  · rfl
theorem swS (v o i : Expr) (p : Pos) (l : Nat) (env : Env) : swapsWith v (some (.Subscript o i p)) l env = pure false := by
  unfold swapsWith
  split
  · rfl
  · rfl
theorem put_ins {c : Cf} {i : Nat} {a C dx : Addr} {cn : Str} {old fs : List (Str × W)} {xs : List (Str × V)} (k : c.ok G) (h : c.μ[i]? = some a) (ho : c.ah[i]? = some (.ins cn old)) (hC : G.ca cn = some C) (r : Paired (fun (p : Str × V) (q : Str × W) => p.1 = q.1 ∧ RW G c p.2 q.2) xs fs) : c.ext (c.put i a (.ins C dx xs) (.ins cn fs)) ∧ (c.put i a (.ins C dx xs) (.ins cn fs)).ok G := by
  have ex := Cf.put_ext (o := .ins C dx xs) (ao := .ins cn fs) k h ho (by intro e; cases e)
  exact ⟨ex, Cf.put_ok k h ho (by intro e; cases e) ⟨C, dx, xs, upd_same, hC, L2.Paired.mapP r fun _ _ q => ⟨q.1, RW.mono ex q.2⟩⟩⟩
theorem setFld_at {X : Cx} {Wx : WX} (F : Fits T G CM k X sc Wx) (hf : f ∈ T.flds) {c : Cf} {v vo : V} {w wo : W} {β : Type} {g : Unit → M β} {FF : β → Cf → Prop} {E : Str → Cf → Prop} (ok : c.ok G) (rv : RW G c v w) (ro : RW G c vo wo) (q : Po G (mbind (setFldM f wo w) g c.ah) c FF E) :
    ∃ a C dx fs, vo = .ref a ∧ c.H a = some (.ins C dx fs) ∧ Cls X.K C ∧ NoAttr X.K C f ∧ fs.length < 1000 ∧ ∃ c', c.ext c' ∧ c'.ok G ∧ c'.H = upd c.H a (.ins C dx (putF f v fs)) ∧ Po G (g () c'.ah) c' FF E := by
  have q0 := Po.bind q
  unfold setFldM at q0
  split at q0
  · rename_i i
    split at q0
    · rename_i cn fs e2
      split at q0
      · rename_i hz
        obtain ⟨p, rfl, h1, C, dx, xs, hx, hC, r2⟩ := rRef ok ro e2
        obtain ⟨hc, hn⟩ := F.top.own cn C hC
        obtain ⟨ex, okP⟩ := put_ins (dx := dx) ok h1 e2 hC (putF_rel (f := f) rv r2)
        exact ⟨p, C, dx, xs, rfl, hx, hc, hn f hf, by rw [Paired.length r2]; exact hz, _, ex, okP, rfl, q0 _ ex okP rfl⟩
      · exact q0.elim
    · exact q0.elim
  · exact q0.elim
theorem ss_fld (hf : f ∈ T.flds) (ho : SE T G CM k sc o mo) (he : SE T G CM k sc e ma) : SS T G CM k sc (.Assign [.Attribute o f p] e pos) (sFldW f mo ma) := fun X Ex F hp hs hfr => by
  refine PS.imp (ps_fld (ho X _ F) (he X _ F) (swA _ _ _ _ _ _)) fun D σ H ⟨c, env, e, ok, re, q⟩ => ?_
  subst e
  refine tE.step ok re q fun w c1 v e1 ok1 re1 rv q1 => tE.step ok1 re1 q1 fun w2 c2 v2 e2 ok2 re2 rv2 q2 => ?_
  obtain ⟨a, C, dx, fs, h1, h2, h3, h4, h5, c', ex, okc, hH, q3⟩ := setFld_at F hf ok2 (RW.mono e2 rv) rv2 q2
  refine ⟨a, C, dx, fs, h1, h2, h3, h4, h5, ?_⟩
  rw [← hH]
  exact Po.here (a := Fl.nx env) q3 okc σ (re2.mono ex)

/-! ### o[i] = e -/
def putDW (k : Key) (w : W) (ds : List (PyData × W)) : List (PyData × W) :=
  if ds.any fun p => keyIsD k p.1 then ds.map fun p => if keyIsD k p.1 then (p.1, w) else p else ds ++ [(keyD k, w)]
abbrev PDW (G : GA) (c : Cf) : List (Key × V) → List (PyData × W) → Prop := Paired (fun (p : Key × V) (q : PyData × W) => q.1 = keyD p.1 ∧ RW G c p.2 q.2)
theorem pdw_any {c : Cf} {k : Key} : ∀ {xs : List (Key × V)} {ds : List (PyData × W)}, PDW G c xs ds → (ds.any fun p => keyIsD k p.1) = xs.any fun kv => decide (kv.1 = k)
  | _, _, .nil => rfl
  | (j, x) :: xs, (d, w) :: ds, .cons h r => by
    have h1 : d = keyD j := h.1
    subst h1
    rw [List.any_cons, List.any_cons, pdw_any r, keyIsD_ok]
theorem pdw_map {c : Cf} {k : Key} {v : V} {w : W} (rv : RW G c v w) : ∀ {xs : List (Key × V)} {ds : List (PyData × W)}, PDW G c xs ds → PDW G c (xs.map fun kv => if kv.1 = k then (kv.1, v) else kv) (ds.map fun p => if keyIsD k p.1 then (p.1, w) else p)
  | _, _, .nil => .nil
  | (j, x) :: xs, (d, w') :: ds, .cons h r => by
    obtain ⟨h1, h2⟩ := h
    have h1' : d = keyD j := h1
    subst h1'
    rw [List.map_cons, List.map_cons]
    refine .cons ?_ (pdw_map rv r)
    show (if keyIsD k (keyD j) = true then (keyD j, w) else (keyD j, w')).1 = keyD (if j = k then (j, v) else (j, x)).1 ∧ _
    rw [keyIsD_ok]
    by_cases e : j = k
    · rw [decide_eq_true e, if_pos rfl, if_pos e]; exact ⟨rfl, rv⟩
    · rw [decide_eq_false e, if_neg Bool.false_ne_true, if_neg e]; exact ⟨rfl, h2⟩
theorem paired_snoc {α β : Type} {P : α → β → Prop} {x : α} {y : β} (h : P x y) : ∀ {xs : List α} {ys : List β}, Paired P xs ys → Paired P (xs ++ [x]) (ys ++ [y])
  | _, _, .nil => .cons h .nil
  | _, _, .cons a r => .cons a (paired_snoc h r)
theorem pdw_put {c : Cf} {k : Key} {v : V} {w : W} (rv : RW G c v w) {xs : List (Key × V)} {ds : List (PyData × W)} (r : PDW G c xs ds) : PDW G c (putK xs k v) (putDW k w ds) := by
  unfold putK putDW
  rw [pdw_any r]
  by_cases e : (xs.any fun kv => decide (kv.1 = k)) = true
  · rw [if_pos e, if_pos e]; exact pdw_map rv r
  · rw [if_neg e, if_neg e]; exact paired_snoc (P := fun (p : Key × V) (q : PyData × W) => q.1 = keyD p.1 ∧ RW G c p.2 q.2) ⟨rfl, rv⟩ r
theorem put_dic {c : Cf} {i : Nat} {a : Addr} {old ws : List (PyData × W)} {us : List (Key × V)} (k : c.ok G) (h : c.μ[i]? = some a) (ho : c.ah[i]? = some (.dic old)) (r : PDW G c us ws) : c.ext (c.put i a (.dK us) (.dic ws)) ∧ (c.put i a (.dK us) (.dic ws)).ok G := by
  have ex := Cf.put_ext (o := .dK us) (ao := .dic ws) k h ho (by intro e; cases e)
  exact ⟨ex, Cf.put_ok k h ho (by intro e; cases e) ⟨us, upd_same, L2.Paired.mapP r fun _ _ q => ⟨q.1, RW.mono ex q.2⟩⟩⟩
def setIxM (o i v : W) : M Unit := fun h => match o with
  | .r j => (match h[j]?, i with
    | some (.lst ws), .d (.int n) => (match ixN ws.length n with
      | some m => .ok () (h.set j (.lst (ws.set m v)))
      | none => .no)
    | some (.dic ws), .d key => (match keyOf key with
      | some kk => if ws.length < sizeLine then .ok () (h.set j (.dic (putDW kk v ws))) else .no
      | none => .no)
    | _, _ => .no)
  | _ => .no
theorem paired_set {α β : Type} {P : α → β → Prop} {x : α} {y : β} (h : P x y) : ∀ {xs : List α} {ys : List β} (n : Nat), Paired P xs ys → Paired P (xs.set n x) (ys.set n y)
  | _, _, _, .nil => .nil
  | _, _, 0, .cons _ r => .cons h r
  | _, _, n + 1, .cons a r => .cons a (paired_set h n r)
theorem set_dict {X : Cx} (hu : X.A.units + 1 < cLine) : PSet X (fun o i v H Q => ∃ p H', o = .ref p ∧ DPut H p i v H' ∧ Q H') := by
  intro pins s σ H o i v ov iv u Q I r1 r2 r3 h
  obtain ⟨p, H', rfl, g, q⟩ := h
  cases r1
  exact d_setItem hu I g r2 r3 fun s' I' => ⟨H', I', q⟩
theorem PSet.or {X : Cx} {t t' : TSet} (h : PSet X t) (h' : PSet X t') : PSet X (fun o i v H Q => t o i v H Q ∨ t' o i v H Q) := by
  intro pins s σ H o i v ov iv u Q I r1 r2 r3 q
  rcases q with q | q
  · exact h pins s σ H o i v ov iv u Q I r1 r2 r3 q
  · exact h' pins s σ H o i v ov iv u Q I r1 r2 r3 q
def sIxW (o i v : ME) : MS := fun env => mbind (v env) fun y => mbind (o env) fun x => mbind (i env) fun z => mbind (setIxM x z y) fun _ => mpure (.nx env)
theorem swSole (t v : Expr) (l : Nat) (env : Env) : swapsWithSole [t] v l env = swapsWith v (some t) l env := rfl
theorem ss_ix (hpi : plainIx i = true) (ho : SE T G CM k sc o mo) (hi : SE T G CM k sc i mi) (he : SE T G CM k sc e ma) : SS T G CM k sc (.Assign [.Subscript o i p] e pos) (sIxW mo mi ma) := fun X Ex F hp hs hfr => by
  have hne : ∀ env : Env, swappedStores [.Subscript o i p] e env = pure none := fun env => by cases e <;> rfl
  refine PS.imp (ps_asg (he X _ F) (pg_sub (ho X _ F) (hi X _ F) (Ev.PSet.or set_list (set_dict (hu_of F.room))) (fun v => by cases i <;> first | rfl | cases hpi)) (by rw [swSole]; exact swS _ _ _ _ _ _) (hne _)) fun D σ H ⟨c, env, e, ok, re, q⟩ => ?_
  subst e
  refine tE.step ok re q fun w c1 v e1 ok1 re1 rv q1 => tE.step ok1 re1 q1 fun w2 c2 v2 e2 ok2 re2 rv2 q2 => tE.step ok2 re2 q2 fun w3 c3 v3 e3 ok3 re3 rv3 q3 => ?_
  have q4 := Po.bind q3
  have rv' := RW.mono e3 (RW.mono e2 rv)
  have rv2' := RW.mono e3 rv2
  unfold setIxM at q4
  split at q4
  · rename_i j
    split at q4
    · rename_i ws n ew
      obtain ⟨a, rfl, h1, xs, hx, r2⟩ := rRef ok3 rv2' ew
      split at q4
      · rename_i m hm
        obtain ⟨exP, okP⟩ := put_list ok3 h1 ew (paired_set (P := RW G c3) rv' m r2)
        refine .inl ⟨a, xs, n, m, rfl, rInt rv3, hx, by rw [Paired.length r2]; exact hm, ?_⟩
        exact Po.here (a := Fl.nx env) (q4 _ exP okP rfl) okP σ (re3.mono exP)
      · exact q4.elim
    · rename_i ws key ew
      obtain ⟨a, rfl, h1, xs, hx, r2⟩ := rRef ok3 rv2' ew
      split at q4
      · rename_i kk hk
        split at q4
        · rename_i hz
          obtain ⟨exP, okP⟩ := put_dic ok3 h1 ew (pdw_put (k := kk) rv' r2)
          rw [rKey rv3 hk]
          refine .inr ⟨a, _, rfl, DPut.k hx (by rw [Paired.length r2]; exact hz), ?_⟩
          exact Po.here (a := Fl.nx env) (q4 _ exP okP rfl) okP σ (re3.mono exP)
        · exact q4.elim
      · exact q4.elim
    · exact q4.elim
  · exact q4.elim

/-! ### a, b = e -/
def setAllW : EnvW → List Nat → List W → EnvW
  | env, i :: is, d :: ds => setAllW (env.set i (some d)) is ds
  | env, _, _ => env
theorem gNamesW_ok {c : Cf} : ∀ {is : List Nat} {ws : List W} {xs : List V} {env : EnvW} {σ : L2.St} {Q : L2.St → Hp → Prop}, ws.length = is.length → RWL G c xs ws → EnvR G c env σ →
    (∀ σ2, EnvR G c (setAllW env is ws) σ2 → Q σ2 c.H) → gNames is xs σ c.H Q
  | [], ws, xs, env, σ, Q, hl, r, re, q => by
    cases ws with
    | nil => cases r; exact ⟨rfl, q σ re⟩
    | cons d ds => simp at hl
  | i :: is, ws, xs, env, σ, Q, hl, r, re, q => by
    cases ws with
    | nil => simp at hl
    | cons d ds =>
      cases r with
      | cons r1 r2 =>
        refine ⟨_, _, rfl, ?_⟩
        exact gNamesW_ok (env := env.set i (some d)) (by simpa using hl) r2 (re.set r1) q
/-- the names behind the target: of data, of a tuple or a list that holds objects -/
def tgH (t : Tg) (w : W) (env : EnvW) (h : AH) : Option EnvW := match t, w with
  | .t is, .r i => (match h[i]? with
    | some (.tup ws) => if ws.length = is.length then some (setAllW env is ws) else none
    | _ => none)
  | t, w => tgM t w env
def kTg (t : Tg) (env : EnvW) (w : W) : M Fl := fun h => match tgH t w env h with
  | some e => .ok (.nx e) h
  | none => .no
def sTgW (t : Tg) (v : ME) : MS := fun env => mbind (v env) (kTg t env)
def noTup : Expr → Bool
  | .Tuple .. => false
  | _ => true
theorem ss_tup {tes : List Expr} {kk : Nat} {t : Tg} (ht : tgOf sc (.Tuple tes kk p) = some t) (he : SE T G CM k sc e ma) (hn : noTup e = true) : SS T G CM k sc (.Assign [.Tuple tes kk p] e pos) (sTgW t ma) := fun X Ex F hp hs hfr => by
  have hne : ∀ env : Env, swappedStores [.Tuple tes kk p] e env = pure none := fun env => by
    cases e <;> first | rfl | cases hn
  refine PS.imp (ps_asg (he X _ F) (pg_tg F ht) (by rw [swSole]; exact swT _ _ _ _ _ _) (hne _)) fun D σ H ⟨c, env, e, ok, re, q⟩ => ?_
  subst e
  refine tE.step ok re q fun w c1 v e1 ok1 re1 rv q1 => ?_
  unfold kTg at q1
  cases hm : tgH t w env c1.ah with
  | none =>
    simp only [hm] at q1
    exact q1.elim
  | some env1 =>
    simp only [hm] at q1
    unfold tgH at hm
    split at hm
    · rename_i is
      split at hm
      · rename_i ws hw
        split at hm
        · rename_i hl
          cases hm
          obtain ⟨a, rfl, h1, xs, hx, rx⟩ := rRef ok1 rv hw
          exact ⟨a, xs, rfl, .inl (.inl hx), by rw [Paired.length rx]; exact hl, gNamesW_ok (env := env) hl rx re1 fun σ2 re2 => Po.here (a := Fl.nx (setAllW env _ ws)) q1 ok1 σ2 re2⟩
        · cases hm
      · cases hm
    · exact gTg_ok (c := c1) F.K (vs := t.slots) hm re1 rv (fun _ h => h) fun σ2 re2 _ => Po.here (a := Fl.nx env1) q1 ok1 σ2 re2
/-- a, b = x, y -/
def sPar (i j : Nat) (a b : ME) : MS := fun env => mbind (a env) fun x => mbind (b env) fun y => mpure (.nx ((env.set i (some x)).set j (some y)))
theorem aCons2 (env : EnvW) : aCons ma (aCons mb aNil) env = mbind (ma env) fun x => mbind (mb env) fun y => mpure [x, y] := by
  funext h
  simp only [aCons, aNil, mbind, mpure]
  cases ma env h with
  | ok w h1 =>
    simp only
    cases mb env h1 <;> rfl
  | ex e h1 => rfl
  | no => rfl
theorem po_two {α β : Type} {m1 m2 : M W} {f : W → W → α} {g : W → W → β} {c : Cf} {F : α → Cf → Prop} {F' : β → Cf → Prop} {E : Str → Cf → Prop} (h : Po G (mbind m1 (fun x => mbind m2 fun y => mpure (f x y)) c.ah) c F E) (hf : ∀ x y c', c.ext c' → c'.ok G → F (f x y) c' → F' (g x y) c') : Po G (mbind m1 (fun x => mbind m2 fun y => mpure (g x y)) c.ah) c F' E := by
  unfold mbind at h ⊢
  cases q1 : m1 c.ah with
  | no => rw [q1] at h; exact h
  | ex e h1 => rw [q1] at h; exact h
  | ok w h1 =>
    rw [q1] at h
    simp only at h ⊢
    cases q2 : m2 h1 with
    | no => rw [q2] at h; exact h
    | ex e h2 => rw [q2] at h; exact h
    | ok w2 h2 =>
      rw [q2] at h
      exact fun c' ex ok e => hf w w2 c' ex ok (h c' ex ok e)
theorem ss_par {x y : Str} {i j : Nat} {px py pt pt2 : Pos} {kt k2 : Nat} (hk : sc.scope.kind = .function) (hx : sc.scope.names.lookup x = some .local) (hy : sc.scope.names.lookup y = some .local) (hi : sc.N.idxOf? x = some i) (hj : sc.N.idxOf? y = some j) (hij : i ≠ j)
    (ha : SE T G CM k sc a ma) (hb : SE T G CM k sc b mb) (hsa : noStar a = true) (hsb : noStar b = true) (hw : ∀ env : Env, env.scope = sc.scope → swappedStores [.Tuple [.Name x px, .Name y py] kt pt] (.Tuple [a, b] k2 pt2) env = pure (some [x, y])) :
    SS T G CM k sc (.Assign [.Tuple [.Name x px, .Name y py] kt pt] (.Tuple [a, b] k2 pt2) pos) (sPar i j ma mb) := fun X Ex F hp hs hfr => by
  have hA : PA X [a, b] (tA G _ (aCons ma (aCons mb aNil))) := sa_cons ha (sa_cons hb sa_nil hsb) hsa X _ F
  refine PS.imp (ps_par (i := i) (j := j) F.calm F.ndN (by rw [F.N]; exact idx_at hi) (by rw [F.N]; exact idx_at hj) hij (by rw [F.scope]; exact hx) (by rw [F.scope]; exact hy) hA (hw X.env F.scope) (by rw [swSole]; exact swT _ _ _ _ _ _)) fun D σ H ⟨c, env, e, ok, re, q⟩ => ?_
  subst e
  refine ⟨c, env, rfl, ok, re, ?_⟩
  rw [aCons2]
  refine po_two q fun w1 w2 c' ex' ok' q2 vs rvs => ?_
  obtain ⟨v, v', rfl, r1, r2⟩ := rwl2 rvs
  exact ⟨v, v', rfl, q2 _ (((re.mono ex').set r1).set r2)⟩

/-! ### x += e -/
def iopM (a b : W) : M W := fun h => match a, b with
  | .d (.int i), .d (.int j) => .ok (wI (i + j)) h
  | .d (.str x), .d (.str y) => if x.length + y.length ≤ sizeLine then .ok (wS (x ++ y)) h else .no
  | _, _ => .no
theorem iop_ok {X : Cx} : ∃ r, OpR X (inplaceOp .Add) r ∧ Op2 G iopM r := by
  refine ⟨_, iop_add.or iop_add_str, fun c x y a b Q E k rx ry h => ?_⟩
  unfold iopM at h
  split at h
  · rename_i i j
    rw [rInt rx, rInt ry]
    exact .inl ⟨i, j, rfl, rfl, h.here k _ (.int _)⟩
  · rename_i i j
    rw [rStr rx, rStr ry]
    split at h
    · rename_i hz
      exact .inr ⟨i, j, rfl, rfl, hz, h.here k _ (.str _)⟩
    · exact h.elim
  · exact h.elim
def sAug (i : Nat) (a : ME) : MS := fun env => mbind (mVar i env) fun x => mbind (a env) fun y => mbind (iopM x y) fun z => mpure (.nx (env.set i (some z)))
theorem ss_aug {i : Nat} (hx : slotS sc x = some i) (he : SE T G CM k sc e ma) : SS T G CM k sc (.AugAssign (.Name x p) .Add e pos) (sAug i ma) := fun X Ex F hp hs hfr => by
  obtain ⟨h1, h2, h3⟩ := slotS_ok F hx
  obtain ⟨r, g1, g2⟩ := iop_ok (X := X) (G := G)
  refine PS.imp (ps_aug (ti := r) F.ndN h1 h2 (he X _ F) g1 h3) fun D σ H ⟨c, env, e, ok, re, q⟩ => ?_
  subst e
  have q1 := Po.bind q
  unfold mVar at q1
  split at q1
  · rename_i w hw
    obtain ⟨v, hv, rv⟩ := re.2 i w hw
    refine ⟨v, hv, tE.step ok re (Po.here (a := w) q1 ok) fun w2 c1 v2 e1 ok1 re1 rv2 q2 => ?_⟩
    refine g2 c1 v v2 w w2 _ _ ok1 (RW.mono e1 rv) rv2 (Po.mono (Po.bind q2) (fun z c3 e3 ok3 q3 v3 rv3 => ?_) fun _ _ _ _ q => q)
    exact Po.here (a := Fl.nx (env.set i (some z))) q3 ok3 _ ((re1.mono e3).set rv3)
  · exact q1.elim
def fldC (f : Str) (w : W) : M (Str × W) := fun h => match w with
  | .r i => (match h[i]? with
    | some (.ins c fs) => (match fs.lookup f with
      | some v => .ok (c, v) h
      | none => .no)
    | _ => .no)
  | _ => .no
def setFldC (cn f : Str) (o v : W) : M Unit := fun h => match o with
  | .r i => (match h[i]? with
    | some (.ins c fs) => if c = cn ∧ fs.length < 1000 then .ok () (h.set i (.ins c (putW f v fs))) else .no
    | _ => .no)
  | _ => .no
def sFldAugW (f : Str) (o v : ME) : MS := fun env => mbind (o env) fun x => mbind (fldC f x) fun cu => mbind (v env) fun y => mbind (iopM cu.2 y) fun z => mbind (setFldC cu.1 f x z) fun _ => mpure (.nx env)
theorem ss_fldaug (hf : f ∈ T.flds) (ho : SE T G CM k sc o mo) (he : SE T G CM k sc e ma) : SS T G CM k sc (.AugAssign (.Attribute o f p) .Add e pos) (sFldAugW f mo ma) := fun X Ex F hp hs hfr => by
  obtain ⟨r, g1, g2⟩ := iop_ok (X := X) (G := G)
  refine PS.imp (ps_fldaug (rd := r) (ho X _ F) (he X _ F) g1) fun D σ H ⟨c, env, e, ok, re, q⟩ => ?_
  subst e
  refine tE.step ok re q fun w c1 v e1 ok1 re1 rv q1 => ?_
  have q2 := Po.bind q1
  unfold fldC at q2
  split at q2
  · rename_i i
    split at q2
    · rename_i cn fs e2
      split at q2
      · rename_i w2 e3
        obtain ⟨a, rfl, h1, C, dx, xs, hx, hC, r2⟩ := rRef ok1 rv e2
        have q3 := fs_look (f := f) r2
        rw [e3] at q3
        cases e4 : xs.lookup f with
        | none => rw [e4] at q3; exact q3.elim
        | some v2 =>
          rw [e4] at q3
          obtain ⟨hc, hn⟩ := F.top.own cn C hC
          refine ⟨a, C, dx, xs, v2, rfl, hx, hc, hn f hf, e4, tE.step ok1 re1 (Po.here (a := (cn, w2)) q2 ok1) fun w3 c3 v3 e5 ok3 re3 rv3 q5 => ?_⟩
          refine g2 c3 v2 v3 w2 w3 _ _ ok3 (RW.mono e5 q3) rv3 (Po.mono (Po.bind q5) (fun z c4 e6 ok4 q6 v4 rv4 => ?_) fun _ _ _ _ q => q)
          have q8 := Po.bind q6
          unfold setFldC at q8
          simp only at q8
          split at q8
          · rename_i cn2 fs2 e9
            split at q8
            · rename_i hz
              obtain ⟨rfl, hz⟩ := hz
              have hi4 := e6.pre i a (e5.pre i a h1)
              obtain ⟨C2, dx2, xs2, hx2, hC2, r4⟩ := ok4.obj i a _ hi4 e9
              rw [hC] at hC2
              cases hC2
              obtain ⟨ex, okP⟩ := put_ins (dx := dx2) ok4 hi4 e9 hC (putF_rel (f := f) rv4 r4)
              exact ⟨dx2, xs2, hx2, by rw [Paired.length r4]; exact hz, Po.here (a := Fl.nx env) (q8 _ ex okP rfl) okP σ ((re3.mono e6).mono ex)⟩
            · exact q8.elim
          · exact q8.elim
      · exact q2.elim
    · exact q2.elim
  · exact q2.elim
end
end Ev
set_option Elab.async false
set_option linter.all false
set_option maxRecDepth 100000
set_option maxHeartbeats 4000000
/-! E14: try .. except X as n whose exception is kept; isinstance of a kept exception. -/
namespace Ev
open PySem PySem.Spec PyProof.Rows L2

/-- an exception's object, pinned, is tracked from here on -/
theorem track {X : Cx} {pins : List (Addr × Obj)} {σ : L2.St} {H : Hp} {s : Shared} {a C : Addr} {oe : Obj} {vs : Array Value} (I : Inv X ((a, oe) :: pins) σ H s) (hc : oe.cls = .ref C) (hd : oe.dict = none) (hv : oe.data = .fields vs)
    (new : X.s_0.heap.get? a = none) (np : ∀ q ∈ X.pn ++ pins, q.1 ≠ a) : Inv X pins σ (upd H a (.ext (ExO a C))) s := by
  obtain ⟨hget, hnone, hloc, hfs, hcell⟩ := I.pin (a, oe) (List.mem_append_right _ List.mem_cons_self)
  have ne : ∀ {b : Addr} {u : HO}, H b = some u → b ≠ a := fun {b u} e z => by
    rw [z] at e
    exact absurd (e.symm.trans hnone) (by simp)
  have kp : ∀ {b : Addr} {u : HO}, H b = some u → upd H a (.ext (ExO a C)) b = some u := fun {b u} e => by rw [upd_ne (ne e)]; exact e
  have B := I.base
  refine ⟨I.ok, I.os, I.bare, ⟨B.keep, B.slot, fun b o h1 h2 h3 => ?_, B.there, fun b xs q => kp (B.tups b xs q), fun b o u q => kp (B.frzs b o u q), fun b ps q => ?_⟩, I.loc, I.cell, ?_, fun y c e => ?_, fun p hp => ?_, fun b u e => ?_, I.len⟩
  · have nb : b ≠ a := fun z => by rw [z, new] at h1; cases h1
    rw [upd_ne nb]
    exact B.free b o h1 h2 h3
  · obtain ⟨m, q1⟩ := B.tbls b ps q
    exact ⟨m, kp q1⟩
  · rw [upd_ne (Ne.symm hloc)]
    exact I.free
  · have nb : c ≠ a := fun z => by
      obtain ⟨w, ob, q1, q2⟩ := I.cell y c e
      rw [z, hget] at q1
      cases q1
      exact hcell w q2
    rw [upd_ne nb]
    exact I.freeC y c e
  · have hp2 : p ∈ X.pn ++ (a, oe) :: pins := by
      rcases List.mem_append.mp hp with z | z
      · exact List.mem_append_left _ z
      · exact List.mem_append_right _ (List.mem_cons_of_mem _ z)
    obtain ⟨g1, g2, g3⟩ := I.pin p hp2
    exact ⟨g1, by rw [upd_ne (np p hp)]; exact g2, g3⟩
  · by_cases z : b = a
    · subst z
      rw [upd_same] at e
      cases e
      refine ⟨⟨oe, vs, hget, hc, hd, hv⟩, ⟨oe, hget⟩, fun h1 h2 ⟨o, w, q1, q2⟩ q3 => ⟨o, w, q3 o q1, q2⟩⟩
    · rw [upd_ne z] at e
      exact (I.hok b u e).stay (fun _ _ _ q => q) (fun _ q => kp q) fun _ _ q => kp q

/-- what the clause wishes of an exception of the body: its object is tracked behind the suite -/
def wKeep (K : PySem.W.Frag) (c : Value) (i : Nat) (ts : Addr → Value → Option Addr → TS) (Wout : WX) (D : Ends) : WX := fun cls d σ H =>
  ∃ b, PySem.W.exmOne K cls c = some b ∧ (b = true → d = none ∧ ∃ C, cls = .ref C ∧ ∀ a, H a = none → ts a cls d ⟨fun σ' H' => D.nx (σ'.set i none) (upd H' a (.ext (ExO a C))), fun _ _ => False, fun _ _ => False, fun _ _ => False⟩ (σ.set i (some (.ref a))) H) ∧ (b = false → Wout cls d σ H)

section
variable {X : Cx} {x n : Str} {c : Value} {i : Nat} {body suite : List Stmt} {b₀ : Stmt} {np pos pos' : Pos} {tb : WX → TS} {ts : Addr → Value → Option Addr → TS} {Wout : WX}
theorem ps_try_keep (stk : X.stack = X.env :: X.outer) (fr : X.env.frame = some X.env.locals) (hex : X.ex = []) (nd : X.N.Nodup) (ni : X.N[i]? = some n) (nl : X.env.kindOf n = some .local) (cn : Names X x c) (tk : Takes X Wout)
    (hB : ∀ (W : WX) (pn : List (Addr × Obj)) (xe : Value → Shared → Prop), Takes (X.tr pn xe) W → PassesOwn (model X.prog X.w) X.A X.env xe → PSs (X.tr pn xe) body (tb W))
    (hS : ∀ (a : Addr) (oe : Obj) (cls : Value) (d : Option Addr) (pn : List (Addr × Obj)), Zc cls d oe → (∃ vs, oe.data = .fields vs) → PSs (X.suite a ((a, oe) :: pn)) (b₀ :: suite) (ts a cls d)) :
    PS X (.Try body [.ExceptHandler (some (.Name x np)) (some n) (b₀ :: suite) pos'] [] [] pos) (fun D σ H => tb (wKeep X.K c i ts Wout D) D σ H) := by
  refine ⟨fun pins s σ H D I0 rd => ?_⟩
  have okX := I0.ok
  have frs0 : X.A.frames = some (X.env :: X.outer) := by rw [okX.frames, stk]
  refine wpAny_Try_except ?_
  have run := (hB (wKeep X.K c i ts Wout D) (X.pn ++ pins) (fun e s₁ => wpAny (model X.prog X.w) X.A (noteFrame e X.env) (fun _ s₂ => wpAny (model X.prog X.w) X.A (setFlight e none) (fun _ s₃ =>
      wpAny (model X.prog X.w) X.A (handleBy e X.env [.ExceptHandler (some (.Name x np)) (some n) (b₀ :: suite) pos']) (SP X pins D) X.xe s₃) X.xe s₂) X.xe s₁)
    (fun u sx air => ?caught) PassesOwn.looking).run [] s σ H D (I0.toTry _) rd
  case caught =>
    obtain ⟨a, B, sI, pp, σ1, H1, cls, d, eu, J1, inB, up, sky, na, eos, gen, b, hb, yes, no⟩ := air
    subst eu
    have J : Inv X pins σ1 H1 sI := J1.ofTry okX
    rw [show (X.tr (X.pn ++ pins) _).stack = X.env :: X.outer from stk] at sky
    show wpAny (model X.prog X.w) X.A (noteFrame (.ref a) X.env) _ _ _
    refine Sky.land Zc.steady frs0 fr sky fun h3 fly up3 => ?_
    have J3 : Inv X pins σ1 H1 { sx with heap := h3 } := J.landed inB fly.1 (up.trans up3) eos gen
    obtain ⟨o3, v3, g3, z3, d3⟩ := fly.there
    have out : a ∉ frs (X.env :: X.outer) := fun hm => by
      obtain ⟨_, o', e', nf⟩ := fly.2.2.1.mem hm
      rw [g3] at e'
      cases e'
      exact nf _ d3
    have aL : a ≠ X.env.locals := fun z => out (List.mem_filterMap.mpr ⟨X.env, List.mem_cons_self, by rw [fr, z]⟩)
    have aF : a ∉ X.fs := fun hm => by
      obtain ⟨e, he, q⟩ := List.mem_filterMap.mp hm
      exact out (List.mem_filterMap.mpr ⟨e, List.mem_cons_of_mem _ he, q⟩)
    -- it is younger than what stood ahead of it
    have anew : sI.heap.get? a = none := by
      cases q : sI.heap.get? a with
      | none => rfl
      | some o =>
        have z := inB a o q (by rw [show (X.tr (X.pn ++ pins) _).stack = X.env :: X.outer from stk]; exact out)
        rw [fly.2.1] at z
        cases z
    have a0 : X.s_0.heap.get? a = none := by
      cases q : X.s_0.heap.get? a with
      | none => rfl
      | some o =>
        have nex : a ∉ X.ex := by rw [hex]; simp
        obtain ⟨o', e'⟩ := J.base.there a o q nex
        rw [anew] at e'
        cases e'
    have apin : ∀ q ∈ X.pn ++ pins, q.1 ≠ a := fun q hq z => by
      have := (J.pin q hq).1
      rw [z, anew] at this
      cases this
    have S3 := J3.suite g3 d3 na aL aF
    refine wpAny_handleBy_cons (codeAny_handlers_test ?_) (by intro q; cases q)
    have ty : PySem.W.Looks (model X.prog X.w) h3 (typeOf (.ref a)) cls := fun A Q E s k q => wpAny_typeOf_ref (k _ _ g3) (by rw [z3.1]; exact q)
    have look := PySem.W.exm_one (M := model X.prog X.w) (J3.kIn) ty hb
    have clause : ∀ {Q : Value → Shared → Prop} {E : Value → Shared → Prop}, Q c { sx with heap := h3 } → wpAny (model X.prog X.w) (X.A.mark (some (.ref a))) (eval (.Name x np) X.env) Q E { sx with heap := h3 } := fun {Q E} q => by
      obtain ⟨k1, k2, k3 | ⟨k3, k4, k5⟩⟩ := cn
      · exact ld_glob (X := X.suite a ((a, o3) :: (X.pn ++ pins))) S3 k1 k3 q k2
      · exact ld_blt (X := X.suite a ((a, o3) :: (X.pn ++ pins))) S3 k1 k3 k4 q k5 k2
    refine clause (look.here ?_)
    cases b with
    | true =>
      obtain ⟨ed, C, ec, yes⟩ := yes rfl
      subst ed ec
      refine codeAny_handlers_suite_as (HandSPX.lands_againZ fly fun h4 fly4 up4 => ?_)
      have J4 : Inv X pins σ1 H1 { sx with heap := h4 } := J.landed inB fly4.1 ((up.trans up3).trans up4) eos gen
      obtain ⟨o4, v4, g4, z4, d4⟩ := fly4.there
      have S4 := J4.suite g4 d4 na aL aF
      refine store_ok (X := X.suite a ((a, o4) :: (X.pn ++ pins))) (v := .ref a) S4 nd ni (.inl nl) rfl (fun s5 S5 => ?_) (.inr nl)
      refine wpAny_mono ((hS a o4 (.ref C) none (X.pn ++ pins) z4 ⟨_, d4⟩).run [] s5 _ H1 _ S5 (yes a na)) (fun fl s6 out6 => ?_) (fun _ _ z => False.elim z)
      cases fl with
      | next =>
        obtain ⟨σ6, H6, S6, q6⟩ := out6
        have P6 : Inv X ((a, o4) :: pins) σ6 H6 s6 := ⟨okX, S6.os, S6.bare, S6.base, S6.loc, S6.cell, S6.free, S6.freeC, fun p hp => S6.pin p (by
          rw [List.append_nil]
          rcases List.mem_append.mp hp with z | z
          · exact List.mem_cons_of_mem _ (List.mem_append_left _ z)
          · rcases List.mem_cons.mp z with z | z
            · rw [z]; exact List.mem_cons_self
            · exact List.mem_cons_of_mem _ (List.mem_append_right _ z)), S6.hok, S6.len⟩
        exact gone_ok P6 nd ni nl fun s7 P7 => ⟨_, _, track P7 z4.1 z4.2 d4 a0 apin, q6⟩
      | brk => obtain ⟨_, _, _, q6⟩ := out6; exact q6.elim
      | cont => obtain ⟨_, _, _, q6⟩ := out6; exact q6.elim
      | ret u => obtain ⟨_, _, _, _, _, q6⟩ := out6; exact q6.elim
    | false =>
      show wpAny _ X.A (handleBy (.ref a) X.env []) _ _ _
      refine wpAny_handleBy_nil ?_
      obtain ⟨k1, k2, k3, oe, vs, Tb, oT, ts', g, z, dd, f1, more⟩ := id fly
      unfold PySem.passOn
      refine wpAny_bind (wpAny_field g dd f1 ?_)
      rw [if_neg (show ¬ ((Value.ref Tb == Value.none) = true) from by simp)]
      have on : wpAny (model X.prog X.w) X.A (setFlight (.ref a) X.env.frame) (fun _ s4 => wpAny (model X.prog X.w) X.A (throw (.ref a) : Sem Flow) (SP X pins D) X.xe s4) X.xe { sx with heap := h3 } := by
        rw [fr]
        refine HandSPX.setFlight_upZ fly fun h4 held up4 => wpAny_throw (tk _ _ ?_)
        exact ⟨a, B, sI, pins, σ1, H1, cls, d, rfl, J, inB, (up.trans up3).trans up4, .inr (.inr (by rw [stk]; exact held)), na, eos, gen, no rfl⟩
      first
        | exact wpAny_bind (wpAny_pure (wpAny_bind on))
        | exact wpAny_bind on
  refine wpAny_mono run (fun fl s1 out1 => ?_) (fun e s1 he => he)
  cases fl with
  | next => obtain ⟨σ', H', J', q⟩ := out1; exact wpAny_execs_nil ⟨σ', H', J'.ofTry okX, q⟩
  | brk => obtain ⟨σ', H', J', q⟩ := out1; exact ⟨σ', H', J'.ofTry okX, q⟩
  | cont => obtain ⟨σ', H', J', q⟩ := out1; exact ⟨σ', H', J'.ofTry okX, q⟩
  | ret u => obtain ⟨v, σ', H', J', r, q⟩ := out1; exact ⟨v, σ', H', J'.ofTry okX, r, q⟩
end

/-! ### found = e, and the exception kept -/
/-- try: found = e  except x as n: kept = n -/
def sTry (cat : Str → Bool) (i j n : Nat) (a : ME) : MS := fun env h => match a env h with
  | .ok w h' => .ok (.nx (env.set i (some w))) h'
  | .ex c h' => if cat c then (if n < env.length then .ok (.nx (((env.set n none).set j (some (.ex c))).set n none)) h' else .no) else .ex c h'
  | .no => .no
section
variable {T : Tb} {G : GA} {CM : FId → List W → M W} {k : Nat} {sc : Sc} {e : Expr} {ma : ME} {pos p1 p2 p3 p4 p5 np pos' : Pos} {x n f g : Str} {i j m : Nat}
theorem Fits.tr {X : Cx} {Wx : WX} (F : Fits T G CM k X sc Wx) {W : WX} {pn : List (Addr × Obj)} {xe : Value → Shared → Prop} (tk : Takes (X.tr pn xe) W) : Fits T G CM k (X.tr pn xe) sc W :=
  ⟨F.N, F.nd, F.scope, F.K, F.own, F.calm, F.room, tk, ⟨F.top.fn, F.top.def_, F.top.con, F.top.free, fun x hx => F.top.exc x hx, F.top.cls, F.top.own, F.top.meth, F.top.isx, F.top.catch_⟩⟩
theorem ss_try (hf : slotS sc f = some i) (hg : slotS sc g = some j) (hn : sc.scope.names.lookup n = some .local) (hn2 : sc.N.idxOf? n = some m) (hnd : (n == ("__debug__" : Str)) = false) (hnc : (n == ("__classdict__" : Str)) = false) (hgl : isGlob sc x = true) (hx : x ∈ T.excs) (he : SE T G CM k sc e ma) (hc : noComp e = true) (hmj : m ≠ j) :
    SS T G CM k sc (.Try [.Assign [.Name f p1] e p2] [.ExceptHandler (some (.Name x np)) (some n) [.Assign [.Name g p3] (.Name n p4) p5] pos'] [] [] pos) (sTry (fun c => T.catches c x) i j m ma) := fun X Ex F hp hs hfr => by
  obtain ⟨Ca, h1, h2, h3, h4, h5⟩ := F.top.exc x hx
  obtain ⟨f1, f2, f3⟩ := slotS_ok F hf
  obtain ⟨g1, g2, g3⟩ := slotS_ok F hg
  have nN : X.N[m]? = some n := by rw [F.N]; exact idx_at hn2
  have nK : X.env.scope.names.lookup n = some .local := by rw [F.scope]; exact hn
  refine PS.imp (ps_try_keep (i := m) (ts := fun _ _ _ => tAsg (tVar m) (gName j)) (tb := fun W => tAsg (tE G W ma) (gName i)) hs hfr.1 hfr.2 F.ndN nN nK ⟨F.gl hgl, (glob_ok hgl).2.1, .inl h2⟩ F.takes
    (fun W pn xe tk _ => pss_one (ps_set (X := X.tr pn xe) F.ndN f1 f2 (he _ W (F.tr tk)) (noComp_ok hc _ _ _) f3))
    (fun a oe cls d pn _ _ => pss_one (ps_set (X := X.suite a ((a, oe) :: pn)) F.ndN g1 g2 (pe_var nN (.inl nK) hnd hnc) rfl g3))) fun D σ H ⟨c, env, e0, ok, re, q⟩ => ?_
  subst e0
  refine ⟨c, env, rfl, ok, re, ?_⟩
  unfold sTry at q
  cases r : ma env c.ah with
  | no => rw [r] at q; exact q.elim
  | ok w h' =>
    rw [r] at q
    exact fun c' ex ok' e' v rv => q c' ex ok' e' _ ((re.mono ex).set rv)
  | ex cc h' =>
    rw [r] at q
    intro c' ex ok' e' C hC
    obtain ⟨b, hb, hb2⟩ := F.top.catch_ cc C x Ca hC h1 hx
    refine ⟨b, by rw [F.K] at hb ⊢; exact hb, fun hbt => ⟨rfl, C, rfl, fun a ha => ?_⟩, fun hbf => ?_⟩
    · subst hbt
      simp only [← hb2, if_true] at q
      by_cases ml0 : m < env.length
      · rw [if_pos ml0] at q
        have ex2 := Cf.lay_ext (c := c') (o := .ext (ExO a C)) ha
        have ok2 := Cf.lay_ok (o := .ext (ExO a C)) ok' ha
        have ml : m < σ.length := by rw [← re.1]; exact ml0
        refine ⟨.ref a, List.getElem?_set_self ml, ?_⟩
        have r2 : RW G (c'.lay a (.ext (ExO a C))) (.ref a) (.ex cc) := ⟨a, C, rfl, hC, Cf.lay_live ok' ha, upd_same⟩
        have re2 := (((re.mono ex).mono ex2).unset (i := m) (s := some (.ref a))).set (i := j) r2
        exact q (c'.lay a (.ext (ExO a C))) (ex.trans ex2) ok2 e' _ (re2.unset (s := none))
      · rw [if_neg ml0] at q
        exact q.elim
    · subst hbf
      simp only [← hb2, Bool.false_eq_true, if_false] at q
      exact q c' ex ok' e' C hC

/-! ### isinstance(kept, X) -/
def isxM (T : Tb) (x : Str) (w : W) : M W := fun h => match w with
  | .ex c => .ok (wB (T.catches c x)) h
  | _ => .no
def eIsx (T : Tb) (a : ME) (x : Str) : ME := fun env => mbind (a env) (isxM T x)
theorem call_isX {X : Cx} : CallR X (.builtin "isinstance") (fun xs H Q => ∃ (a C : Addr) (c : V) (u : Value) (b : Bool), xs = [.ref a, c] ∧ H a = some (.ext (ExO a C)) ∧ ExcC X.K C ∧ ClsV c u ∧ PySem.W.kitOne X.K (.ref C) u = some b ∧ Q (.bl b) H) := by
  intro pins s σ H xs us Q I r h
  obtain ⟨a, C, cv, u, b, rfl, hH, ec, kc, kb, q⟩ := h
  obtain ⟨u1, u2, rfl, r1, r2⟩ := vals2 r
  cases r1
  have e2 := kc.eq r2
  subst e2
  obtain ⟨⟨oe, vs, g1, g2, g3, g4⟩, _⟩ := I.hok a _ hH
  have J : PySem.W.InstAt s.heap a oe C none := by
    obtain ⟨oc, od, oda, osl⟩ := oe
    dsimp only at g2 g3 g4
    subst g2 g3 g4
    exact ⟨g1, rfl, rfl, trivial⟩
  exact PySem.W.kia_one (PySem.W.handS_kitx_exc ec.hg ec.hk ec.hs ec.hd ec.ha ec.hn ec.ht ec.hm) I.kIn J kb (fun z => nomatch z) fun tk => ⟨.bl b, H, I.tok tk, rfl, q⟩
theorem se_isx (hg : isGlob sc "isinstance" = true) (hf : ("isinstance" : Str) ∈ T.free) (hg2 : isGlob sc x = true) (hx : x ∈ T.xt) (ha : SE T G CM k sc e ma) (hs : noStar e = true) : SE T G CM k sc (.Call (.Name "isinstance" pos') [e, .Name x p2] [] pos) (eIsx T ma x) := fun X Wx F => by
  obtain ⟨v, u, hmg, kc, rv, hall⟩ := F.top.isx x hx
  have hN : PE X (.Name x p2) (tC v) := by
    rcases hmg with h | ⟨h, hb⟩
    · exact pe_glob (F.gl hg2) h rv (glob_ok hg2).2.1
    · exact pe_bltn (F.gl hg2) h hb rv (glob_ok hg2).2.2 (glob_ok hg2).2.1
  have hA : PA X [e, .Name x p2] (tCons (tE G Wx ma) (tCons (tC v) tNil)) := pa_cons (ha X Wx F) (pa_cons hN pa_nil) (noStar_each hs _ _)
  refine PE.imp (pe_callB call_isX (F.gl hg) (F.top.free _ hf) boot_isinstance hA (glob_ok hg).2.2 (glob_ok hg).2.1 (noStar_each hs _ _)) fun σ H Q ⟨c, env, e0, ok, re, q⟩ => ?_
  subst e0
  refine tE.step ok re q fun w c1 vv e1 ok1 re1 rvv q1 => ?_
  unfold isxM at q1
  split at q1
  · rename_i cc
    obtain ⟨a, C, rfl, hC, _, hH⟩ := rvv
    obtain ⟨ec, kb⟩ := hall cc C hC
    exact ⟨a, C, v, u, _, rfl, hH, ec, kc, kb, q1.here ok1 _ (.bl _)⟩
  · exact q1.elim
end
end Ev
set_option Elab.async false
set_option linter.all false
set_option maxRecDepth 100000
set_option maxHeartbeats 2000000
/-! E14b: {} -/
namespace Ev
open PySem PySem.Spec PyProof.Rows L2
section
variable {T : Tb} {G : GA} {CM : FId → List W → M W} {k : Nat} {sc : Sc} {c : Cf}
theorem new_dic {p : Addr} {Q : VK} {E : Str → Cf → Prop} (k : c.ok G) (hp : c.H p = none) (h : Po G (.ok (W.r c.ah.length) (c.ah ++ [.dic []])) c (VQ G Q) E) : Q (.ref p) (upd c.H p (.dK [])) := by
  have ex := Cf.new_ext (o := .dK []) (ao := .dic []) k hp
  have ok : (c.new p (.dK []) (.dic [])).ok G := Cf.new_ok k hp ⟨[], upd_same, .nil⟩
  refine Po.at (c' := c.new p (.dK []) (.dic [])) h ex ok (.ref p) ⟨p, rfl, ?_⟩
  show (c.μ ++ [p])[c.ah.length]? = some p
  rw [← k.len]; simp
def eDict0 : ME := fun _ h => .ok (.r h.length) (h ++ [.dic []])
theorem se_dict0 {pos : Pos} : SE T G CM k sc (.Dict [] [] pos) eDict0 := fun X Wx F => by
  refine PE.imp pe_dnewK fun σ H Q ⟨c, env, e, ok, re, q⟩ => ?_
  subst e
  exact fun p hp => new_dic ok hp q
/-! ### d.get(k, x) -/
def isDic (h : AH) : W → Bool
  | .d (.dict _) => true
  | .r i => (match h[i]? with
    | some (.dic _) => true
    | _ => false)
  | _ => false
theorem isDic_ok {c : Cf} {w : W} {v : V} (ok : c.ok G) (h : isDic c.ah w = true) (rv : RW G c v w) : ∃ a, v = .ref a ∧ IsD c.H a := by
  unfold isDic at h
  split at h
  · rename_i ds
    cases (show Rp G.K c v (.dict ds) from rv) with
    | dic l1 h1 r1 => exact ⟨_, rfl, .inl ⟨_, h1⟩⟩
  · split at h
    · rename_i ds e
      obtain ⟨a, rfl, h1, xs, hx, rx⟩ := rRef ok rv e
      exact ⟨a, rfl, .inl ⟨xs, .inl hx⟩⟩
    · cases h
  · cases h
def getM (x y z : W) : M W := fun h => match y with
  | .d key => (match (keyOf key).bind (dictAt h x) with
    | some (some d) => .ok d h
    | some none => .ok z h
    | none => .no)
  | _ => .no
def eGet (a b d : ME) : ME := fun env => mbind (a env) fun x => fun h => if isDic h x then mbind (b env) (fun y => mbind (d env) fun z => getM x y z) h else .no
theorem se_get {o e f : Expr} {apos cpos : Pos} {ma mb_ mf : ME} (hb : okBase o = true) (hline : (apos.endLine == cpos.line) = true) (ho : SE T G CM k sc o ma) (he : SE T G CM k sc e mb_) (hf : SE T G CM k sc f mf) (s1 : noStar e = true) (s2 : noStar f = true) :
    SE T G CM k sc (.Call (.Attribute o "get" apos) [e, f] [] cpos) (eGet ma mb_ mf) := fun X Wx F => by
  have m : M2 X o "get" apos e f cpos := ⟨okBase_ok hb _ _, by rw [noStar_each s1, noStar_each s2]; rfl, hline, by rw [noStar_each s1, noStar_each s2]; rfl⟩
  refine PE.imp (pe_dget2 (hu_of F.room) (ho X Wx F) (he X Wx F) (hf X Wx F) m) fun σ H Q ⟨c, env, e0, ok, re, q⟩ => ?_
  subst e0
  refine tE.step ok re q fun w c1 v e1 ok1 re1 rv q1 => ?_
  split at q1
  · rename_i hd
    obtain ⟨a, rfl, d⟩ := isDic_ok ok1 hd rv
    refine ⟨a, rfl, d, ?_⟩
    refine tE.step ok1 re1 q1 fun w2 c2 v2 e2 ok2 re2 rv2 q2 => ?_
    refine tE.step ok2 re2 q2 fun w3 c3 v3 e3 ok3 re3 rv3 q3 => ?_
    have rv' : RW G c3 (.ref a) w := RW.mono e3 (RW.mono e2 rv)
    have rv2' := RW.mono e3 rv2
    unfold getM at q3
    split at q3
    · rename_i key
      split at q3
      · rename_i dd hk
        obtain ⟨kk, hk1, hk2⟩ := bind_some_ok hk
        obtain ⟨a', o', h1, h2, h3⟩ := dictAt_ok ok3 hk2 rv'
        cases h1
        rw [rKey rv2' hk1]
        refine ⟨o', h2, ?_⟩
        cases o' with
        | none => exact h3.elim
        | some u => exact q3.here ok3 _ h3
      · rename_i hk
        obtain ⟨kk, hk1, hk2⟩ := bind_some_ok hk
        obtain ⟨a', o', h1, h2, h3⟩ := dictAt_ok ok3 hk2 rv'
        cases h1
        rw [rKey rv2' hk1]
        refine ⟨o', h2, ?_⟩
        cases o' with
        | none => exact q3.here ok3 _ rv3
        | some u => exact h3.elim
      · exact q3.elim
    · exact q3.elim
  · exact q1.elim
end
end Ev
set_option Elab.async false
set_option linter.all false
set_option maxRecDepth 100000
set_option maxHeartbeats 4000000
/-! E14c: min and max of two names, targets with a star. -/
namespace Ev
open PySem PySem.Spec PyProof.Rows L2

/-! ### min, max of two tuples (text, number) with one text -/
theorem tup_si {x : Str} {i : Int} {its : List Value} (r : Vals [.str x, .int i] its) : ∃ t u, its = [Value.str x t, Value.int i u] := by
  cases r with
  | cons h1 r =>
    cases r with
    | cons h2 r =>
      cases r
      obtain ⟨t, rfl⟩ := h1
      obtain ⟨u, rfl⟩ := h2
      exact ⟨t, u, rfl⟩
theorem eq_str_str {A : Around} {s : Shared} {x : Str} {t u : Tok} : SeqAt.EqAt A s (.str x t) (.str x u) true := fun prog w E Q h => wpAny_eqBool_str (by simpa using h)
theorem eq_int_int {A : Around} {s : Shared} {i j : Int} {t u : Tok} : SeqAt.EqAt A s (.int i t) (.int j u) (decide (i = j)) := fun prog w E Q h => wpAny_eqBool_int (by rw [Bool.beq_eq_decide_eq]; exact h)
theorem lt_si {A : Around} {s : Shared} {l b : Addr} {x : Str} {i j : Int} {t u t' u' : Tok} (hl : s.heap.IsTuple l #[.str x t, .int i u]) (hb : s.heap.IsTuple b #[.str x t', .int j u']) (hu : A.units < cLine) : Ob.RcOp .Lt A s (.ref l) (.ref b) (decide (i < j)) := by
  have h := Ob.RcOp.tuples_lt (A := A) (e := fun k => if k = 0 then true else decide (i = j)) (r := fun _ => decide (i < j)) hl hb hu
    (fun k h1 h2 => by
      match k, h1 with
      | 0, _ => exact eq_str_str
      | 1, _ => exact eq_int_int)
    (fun k h1 h2 he => by
      match k, h1 with
      | 0, _ => cases he
      | 1, _ => exact Ob.RcOp.lt_int i j _ _)
  have e : Ob.lexAt (fun k => if k = 0 then true else decide (i = j)) (fun _ => decide (i < j)) (decide ((#[Value.str x t, .int i u] : Array Value).size < (#[Value.str x t', .int j u'] : Array Value).size)) 0 (min (#[Value.str x t, .int i u] : Array Value).size (#[Value.str x t', .int j u'] : Array Value).size) = decide (i < j) := by
    show Ob.lexAt _ _ _ 0 2 = _
    by_cases q : i = j
    · subst q; simp [Ob.lexAt]
    · simp [Ob.lexAt, q]
  rw [e] at h
  exact h
theorem gt_si {A : Around} {s : Shared} {l b : Addr} {x : Str} {i j : Int} {t u t' u' : Tok} (hl : s.heap.IsTuple l #[.str x t, .int i u]) (hb : s.heap.IsTuple b #[.str x t', .int j u']) (hu : A.units < cLine) : Ob.RcOp .Gt A s (.ref l) (.ref b) (decide (j < i)) := by
  have h := Ob.RcOp.tuples_gt (A := A) (e := fun k => if k = 0 then true else decide (i = j)) (r := fun _ => decide (j < i)) hl hb hu
    (fun k h1 h2 => by
      match k, h1 with
      | 0, _ => exact eq_str_str
      | 1, _ => exact eq_int_int)
    (fun k h1 h2 he => by
      match k, h1 with
      | 0, _ => cases he
      | 1, _ => exact Ob.RcOp.gt_int i j _ _)
  have e : Ob.lexAt (fun k => if k = 0 then true else decide (i = j)) (fun _ => decide (j < i)) (decide ((#[Value.str x t, .int i u] : Array Value).size > (#[Value.str x t', .int j u'] : Array Value).size)) 0 (min (#[Value.str x t, .int i u] : Array Value).size (#[Value.str x t', .int j u'] : Array Value).size) = decide (j < i) := by
    show Ob.lexAt _ _ _ 0 2 = _
    by_cases q : i = j
    · subst q; simp [Ob.lexAt]
    · simp [Ob.lexAt, q]
  rw [e] at h
  exact h
section
variable {X : Cx}
/-- what two tuples at a, b hold, by their place -/
def Two (h : Heap) (a b : Addr) (x : Str) (i j : Int) : Prop := (∃ t u, h.IsTuple a #[.str x t, .int i u]) ∧ ∃ t u, h.IsTuple b #[.str x t, .int j u]
theorem IsTuple.kept {h h' : Heap} {a : Addr} {its : Array Value} (p : h.IsTuple a its) (k : ∀ b o, h.get? b = some o → h'.get? b = some o) : h'.IsTuple a its := by
  obtain ⟨o, e, q⟩ := p
  exact ⟨o, k _ _ e, q⟩
theorem cmp_two {op : CmpOp} {prog : Program} {w : World} {A : Around} {h : Heap} {a b : Addr} {x : Str} {i j : Int} (T : Two h a b x i j) (f : Int → Int → Bool)
    (hf : ∀ (s : Shared) (l b : Addr) (i j : Int) (t u t' u' : Tok), s.heap.IsTuple l #[.str x t, .int i u] → s.heap.IsTuple b #[.str x t', .int j u'] → Ob.RcOp op A s (.ref l) (.ref b) (f i j)) :
    CmpIn prog w A op h (fun k v => (#[Value.ref a, Value.ref b] : Array Value)[k]? = some v) (fun k m => f (if k = 0 then i else j) (if m = 0 then i else j)) := fun k m vk vm s Q E hk h1 h2 hq => by
  obtain ⟨⟨t, u, p1⟩, t', u', p2⟩ := T
  have p1 := IsTuple.kept p1 hk
  have p2 := IsTuple.kept p2 hk
  match k, m, h1, h2 with
  | 0, 0, h1, h2 => cases h1; cases h2; exact hf s a a i i _ _ _ _ p1 p1 prog w E Q hq
  | 0, 1, h1, h2 => cases h1; cases h2; exact hf s a b i j _ _ _ _ p1 p2 prog w E Q hq
  | 1, 0, h1, h2 => cases h1; cases h2; exact hf s b a j i _ _ _ _ p2 p1 prog w E Q hq
  | 1, 1, h1, h2 => cases h1; cases h2; exact hf s b b j j _ _ _ _ p2 p2 prog w E Q hq
  | k + 2, _, h1, _ => simp at h1
  | 0, m + 2, _, h2 => simp at h2
  | 1, m + 2, _, h2 => simp at h2
theorem two_of {pins : List (Addr × Obj)} {σ : L2.St} {H : Hp} {s : Shared} {a b : Addr} {x : Str} {i j : Int} (I : Inv X pins σ H s) (h1 : SqT X.K H a [.str x, .int i]) (h2 : SqT X.K H b [.str x, .int j]) : Two s.heap a b x i j := by
  obtain ⟨its, rv, p1, _⟩ := I.tuple h1
  obtain ⟨its', rv', p2, _⟩ := I.tuple h2
  obtain ⟨t, u, rfl⟩ := tup_si rv
  obtain ⟨t', u', rfl⟩ := tup_si rv'
  exact ⟨⟨t, u, p1⟩, t', u', p2⟩
theorem call_min2T (hc : X.calm = true) (hu : X.A.units + 64 < cLine) : CallR X (.builtin "min") (fun vs H Q => ∃ a b x i j, vs = [.ref a, .ref b] ∧ SqT X.K H a [.str x, .int i] ∧ SqT X.K H b [.str x, .int j] ∧ Q (if j < i then .ref b else .ref a) H) := by
  intro pins s σ H xs us Q I r h
  obtain ⟨a, b, x, i, j, rfl, h1, h2, q⟩ := h
  obtain ⟨ua, ub, rfl, ra, rb⟩ := vals2 r
  cases ra; cases rb
  have T := two_of I h1 h2
  have hh := I.ok.hd hc
  have nm : (toString "min" ++ toString ".loop" : String) = "min.loop" := by decide
  refine call_function_tree F.kind_min F.plain_min F.entry_min (F.args_min2 _ _) ?_
  show wpAny _ X.A.in1 (Builtin.Builtins.bindParams "min" ["key", "default"] 0 ⟨[], []⟩ >>= _) _ _ s
  refine wpAny_bind (wpAny_of_eq (a := [none, none]) rfl ?_)
  show wpAny _ X.A.in1 (newTuple [.ref a, .ref b] >>= _) _ _ s
  refine wpAny_bind (wpAny_newObj_type ?_)
  have hT : (s.heap.push { cls := .type "tuple", data := .seq #[.ref a, .ref b] }).IsTuple s.heap.objs.size #[.ref a, .ref b] := ⟨_, Heap.get?_push_size _ rfl, rfl, 0, rfl⟩
  have T2 : Two (s.heap.push { cls := .type "tuple", data := .seq #[.ref a, .ref b] }) a b x i j := by
    obtain ⟨⟨t, u, p1⟩, t', u', p2⟩ := T
    exact ⟨⟨t, u, p1.push _⟩, t', u', p2.push _⟩
  refine wpAny_bind (PySem.W.iter_tupleW (s := { s with heap := s.heap.push { cls := .type "tuple", data := .seq #[.ref a, .ref b] } }) hh hT fun s₂ e W st hfp hw hk => ?_)
  refine wpAny_bind (wpAny_newObj_type ?_)
  have hSf : s₂.heap.objs.size ∉ [(s.heap.push { cls := .type "tuple", data := .seq #[.ref a, .ref b] }).objs.size, s.heap.objs.size] := fun hm => Nat.lt_irrefl _ (hfp _ hm)
  rw [nm]
  refine wpAny_pure ⟨plainId_quiet F.plain_min_loop _, codeAny_min_loop_firstH W _ hw _ (cmp_two T2 (fun i j => decide (i < j)) fun s l b i j t u t' u' p1 p2 => lt_si p1 p2 (by show X.A.units + 1 < _; omega)) s₂.heap.objs.size hSf (fresh_in hk) _ (show 0 < 2 by decide)
    (fun c o eo => Heap.get?_push_of_some _ (hk c o eo)) (W.frame 0 s₂ _ s₂.toks st (Nat.le_refl _) fun c _ o eo => Heap.get?_push_of_some _ eo) (Heap.get?_push_size _ rfl) fun v s' hP hm => ?_⟩
  obtain ⟨h', tk, es, hk'⟩ := PySem.W.moved_old e rfl (Moved.drop_new (tk := s₂.toks) hm (Nat.le_refl _))
  subst es
  have hv : v = Value.ref (if j < i then b else a) := by
    by_cases hji : j < i
    · have e2 : argBest (fun k m => decide ((if k = 0 then i else j) < (if m = 0 then i else j))) ((#[Value.ref a, Value.ref b] : Array Value).size - 1) = 1 := by
        show argBest _ 1 = 1
        simp [argBest, hji]
      rw [e2] at hP
      rw [if_pos hji]
      exact (Option.some.inj hP).symm
    · have e2 : argBest (fun k m => decide ((if k = 0 then i else j) < (if m = 0 then i else j))) ((#[Value.ref a, Value.ref b] : Array Value).size - 1) = 0 := by
        show argBest _ 1 = 0
        simp [argBest, hji]
      rw [e2] at hP
      rw [if_neg hji]
      exact (Option.some.inj hP).symm
  subst hv
  refine ⟨V.ref (if j < i then b else a), H, I.kept (t' := tk) fun c o eo => hk' c o (Heap.get?_push_of_some _ eo), rfl, ?_⟩
  by_cases hji : j < i
  · rw [if_pos hji] at q ⊢; exact q
  · rw [if_neg hji] at q ⊢; exact q
theorem call_max2T (hc : X.calm = true) (hu : X.A.units + 64 < cLine) : CallR X (.builtin "max") (fun vs H Q => ∃ a b x i j, vs = [.ref a, .ref b] ∧ SqT X.K H a [.str x, .int i] ∧ SqT X.K H b [.str x, .int j] ∧ Q (if i < j then .ref b else .ref a) H) := by
  intro pins s σ H xs us Q I r h
  obtain ⟨a, b, x, i, j, rfl, h1, h2, q⟩ := h
  obtain ⟨ua, ub, rfl, ra, rb⟩ := vals2 r
  cases ra; cases rb
  have T := two_of I h1 h2
  have hh := I.ok.hd hc
  have nm : (toString "max" ++ toString ".loop" : String) = "max.loop" := by decide
  refine call_function_tree F.kind_max F.plain_max F.entry_max (F.args_max2 _ _) ?_
  show wpAny _ X.A.in1 (Builtin.Builtins.bindParams "max" ["key", "default"] 0 ⟨[], []⟩ >>= _) _ _ s
  refine wpAny_bind (wpAny_of_eq (a := [none, none]) rfl ?_)
  show wpAny _ X.A.in1 (newTuple [.ref a, .ref b] >>= _) _ _ s
  refine wpAny_bind (wpAny_newObj_type ?_)
  have hT : (s.heap.push { cls := .type "tuple", data := .seq #[.ref a, .ref b] }).IsTuple s.heap.objs.size #[.ref a, .ref b] := ⟨_, Heap.get?_push_size _ rfl, rfl, 0, rfl⟩
  have T2 : Two (s.heap.push { cls := .type "tuple", data := .seq #[.ref a, .ref b] }) a b x i j := by
    obtain ⟨⟨t, u, p1⟩, t', u', p2⟩ := T
    exact ⟨⟨t, u, p1.push _⟩, t', u', p2.push _⟩
  refine wpAny_bind (PySem.W.iter_tupleW (s := { s with heap := s.heap.push { cls := .type "tuple", data := .seq #[.ref a, .ref b] } }) hh hT fun s₂ e W st hfp hw hk => ?_)
  refine wpAny_bind (wpAny_newObj_type ?_)
  have hSf : s₂.heap.objs.size ∉ [(s.heap.push { cls := .type "tuple", data := .seq #[.ref a, .ref b] }).objs.size, s.heap.objs.size] := fun hm => Nat.lt_irrefl _ (hfp _ hm)
  rw [nm]
  refine wpAny_pure ⟨plainId_quiet F.plain_max_loop _, codeAny_max_loop_firstH W _ hw _ (cmp_two T2 (fun i j => decide (j < i)) fun s l b i j t u t' u' p1 p2 => gt_si p1 p2 (by show X.A.units + 1 < _; omega)) s₂.heap.objs.size hSf (fresh_in hk) _ (show 0 < 2 by decide)
    (fun c o eo => Heap.get?_push_of_some _ (hk c o eo)) (W.frame 0 s₂ _ s₂.toks st (Nat.le_refl _) fun c _ o eo => Heap.get?_push_of_some _ eo) (Heap.get?_push_size _ rfl) fun v s' hP hm => ?_⟩
  obtain ⟨h', tk, es, hk'⟩ := PySem.W.moved_old e rfl (Moved.drop_new (tk := s₂.toks) hm (Nat.le_refl _))
  subst es
  have hv : v = Value.ref (if i < j then b else a) := by
    by_cases hji : i < j
    · have e2 : argBest (fun k m => decide ((if m = 0 then i else j) < (if k = 0 then i else j))) ((#[Value.ref a, Value.ref b] : Array Value).size - 1) = 1 := by
        show argBest _ 1 = 1
        simp [argBest, hji]
      rw [e2] at hP
      rw [if_pos hji]
      exact (Option.some.inj hP).symm
    · have e2 : argBest (fun k m => decide ((if m = 0 then i else j) < (if k = 0 then i else j))) ((#[Value.ref a, Value.ref b] : Array Value).size - 1) = 0 := by
        show argBest _ 1 = 0
        simp [argBest, hji]
      rw [e2] at hP
      rw [if_neg hji]
      exact (Option.some.inj hP).symm
  subst hv
  refine ⟨V.ref (if i < j then b else a), H, I.kept (t' := tk) fun c o eo => hk' c o (Heap.get?_push_of_some _ eo), rfl, ?_⟩
  by_cases hji : i < j
  · rw [if_pos hji] at q ⊢; exact q
  · rw [if_neg hji] at q ⊢; exact q
end

/-! ### a list, a tuple taken apart by a target with a star -/
theorem star_list {prog : Program} {w : World} {A : Around} {E : Value → Shared → Prop} {s : Shared} {l : Addr} {items : Array Value} {n i : Nat} {Q : List Value → Shared → Prop} (hl : s.heap.IsList l items) (hh : A.handled = none) (hi : i < n) (hn : n ≤ items.size + 1) (hz : items.size ≤ sizeLine)
    (h : ∀ (h' : Heap) (tk : Nat), (∀ b o, s.heap.get? b = some o → h'.get? b = some o) → Q (items.toList.take i ++ [.ref h'.objs.size] ++ items.toList.drop (items.size + 1 - n + i)) { s with heap := h'.push { cls := .type "list", data := .seq ((items.toList.drop i).take (items.size + 1 - n)).toArray }, toks := tk }) : wpAny (model prog w) A (unpackItems (.ref l) n (some i)) Q E s := by
  obtain ⟨o0, ho0, _⟩ := id hl
  have ll : l < s.heap.objs.size := Heap.lt_size ho0
  have ln : l ≠ s.heap.objs.size := Nat.ne_of_lt ll
  have len : items.toList.length = items.size := Array.length_toList
  unfold unpackItems notIterableAtAll
  refine wpAny_bind (wpAny_bind (wpAny_specialOf hl.typeIs slot_list_iter.lookup (wpAny_pure ?_)))
  simp only [Bool.false_eq_true, if_false]
  refine wpAny_bind (wpAny_holding (wpAny_pyIter_list hl ?_))
  refine wpAny_bind (wpAny_holding (PySem.W.kun_draw ln i 0 _ _ ⟨_, Heap.get?_push_size _ rfl, rfl, rfl⟩ (hl.push _) (by omega) fun g1 it1 sb1 => ?_))
  rw [Nat.zero_add] at it1
  rw [List.drop_zero]
  have l1 : g1.IsList l items := (hl.push _).extBut sb1.extBut ln
  obtain ⟨oi, hoi, _⟩ := id it1
  obtain ⟨ol, hol, _⟩ := id l1
  have e1 : (items.toList.take i).length = i := by rw [List.length_take]; omega
  rw [if_neg (by rw [e1]; omega)]
  refine wpAny_bind (wpAny_holding (PySem.W.kun_collect (s := { s with heap := g1 }) (T := "list_iterator") (.inr (.inr (.inl rfl))) (Walks.list (A := A.in1) hh s.heap.objs.size l ln items) (fun j u st => st.1.typeIs) (k := i) (by omega) ⟨it1, l1⟩ (Heap.lt_size hoi) (Heap.lt_size hol) (fun g2 tk hk => ?_) hz))
  have e2 : (items.toList.drop i).length = items.size - i := by rw [List.length_drop, len]
  have e3 : (items.toList.drop i).length - (n - 1 - i) = items.size + 1 - n := by omega
  show wpAny _ _ (if (items.toList.drop i).length < n - 1 - i then _ else _) _ _ _
  rw [if_neg (by omega)]
  show wpAny _ _ (newList ((items.toList.drop i).take ((items.toList.drop i).length - (n - 1 - i))) >>= fun d => pure (items.toList.take i ++ [d] ++ (items.toList.drop i).drop ((items.toList.drop i).length - (n - 1 - i)))) _ _ _
  rw [e3, List.drop_drop]
  refine wpAny_bind (wpAny_newObj_type (hd := by show ((items.toList.drop i).take (items.size + 1 - n)).toArray.size ≤ sizeLine; rw [List.size_toArray, List.length_take]; omega) (wpAny_pure ?_))
  have := h g2 tk fun b o e => hk b o (Nat.ne_of_lt (Heap.lt_size e)) (sb1.extBut b o (Nat.ne_of_lt (Heap.lt_size e)) (Heap.get?_push_of_some _ e))
  rw [show i + (items.size + 1 - n) = items.size + 1 - n + i from Nat.add_comm _ _]
  exact this
def gStar (K : PySem.W.Frag) (n i : Nat) (t : TGs) : TG := fun v σ H Q => ∃ a xs, v = .ref a ∧ SqL K H a xs ∧ i < n ∧ n ≤ xs.length + 1 ∧ ∀ p, H p = none → t (xs.take i ++ [.ref p] ++ xs.drop (xs.length + 1 - n + i)) σ (upd H p (.lst ((xs.drop i).take (xs.length + 1 - n)))) Q
section
variable {X : Cx} {pos : Pos}
theorem pgs_star {e : Expr} {es : List Expr} {t : TG} {u : TGs} {p : Pos} (h1 : PG X e t) (h2 : PGs X es u) : PGs X (.Starred e p :: es) (gCons t u) := by
  refine ⟨fun pins s σ H vs us Q I r h => ?_⟩
  obtain ⟨v, vr, rfl, h⟩ := h
  cases r with
  | cons r rr =>
    show wpAny _ _ (assignInOrder (assign e X.env :: (assignEach es X.env).map (·.2)) _) _ _ _
    exact assignInOrder_cons (thn (h1.run pins s σ H _ _ _ I r h) fun _ s1 ⟨σ1, H1, I1, q1⟩ => h2.run pins s1 σ1 H1 _ _ Q I1 rr q1)
theorem pg_star {es : List Expr} {k : Nat} {t : TGs} {n i : Nat} (hc : X.calm = true) (h : PGs X es t) (hn : (assignEach es X.env).length = n) (hst : (assignEach es X.env).findIdx? (·.1) = some i) : PG X (.Tuple es k pos) (gStar X.K n i t) := by
  refine ⟨fun pins s σ H v u Q I r hw => ?_⟩
  obtain ⟨a, xs, rfl, hq, hi, hl, hw⟩ := hw
  cases r
  obtain ⟨its, rv, pl, hz⟩ := I.list hq
  have e0 : its.toArray.size = xs.length := by simp [rv.length]
  rw [PyProof.Rows.assign_Tuple]
  refine wpAny_bind (wpAny_standAt ?_)
  unfold unpack
  rw [hn, hst]
  refine wpAny_bind (wpAny_holding (star_list pl.isList (I.ok.hd hc) hi (by omega) (by rw [e0]; exact hz) fun h' tk hk => ?_))
  have I1 : Inv X pins σ H { s with heap := h', toks := tk } := I.kept (t' := tk) hk
  have hp := I1.hok.fresh (Nat.le_refl _)
  have rm : Vals ((xs.drop i).take (xs.length + 1 - n)) ((its.drop i).take (its.length + 1 - n)) := by rw [rv.length]; exact (rv.drop i).take _
  have I2 : Inv X pins σ (upd H h'.objs.size (.lst ((xs.drop i).take (xs.length + 1 - n)))) { s with heap := h'.push { cls := .type "list", data := .seq ((its.drop i).take (its.length + 1 - n)).toArray }, toks := tk } := by
    refine I1.laid (t' := tk) (fun b u e => Heap.get?_push_of_some _ e) (Nat.le_refl _) ?_
    exact ⟨by rw [List.length_take, List.length_drop]; omega, _, 0, rm, Heap.get?_push_size _ rfl⟩
  have := h.run pins _ σ _ _ (its.take i ++ [.ref h'.objs.size] ++ its.drop (its.length + 1 - n + i)) Q I2 (((rv.take i).append (.cons (show RelV (.ref h'.objs.size) (.ref h'.objs.size) from rfl) .nil)).append (by rw [rv.length]; exact rv.drop _)) (hw _ hp)
  simpa using this
end
end Ev
set_option Elab.async false
set_option linter.all false
set_option maxRecDepth 100000
set_option maxHeartbeats 4000000
/-! E14d: list(zip(a, b)) of two tuples. -/
namespace Ev
open PySem PySem.Spec PyProof.Rows L2
section
variable {prog : Program} {w : World} {A : Around} {E : Value → Shared → Prop} {s : Shared}
/-- one turn of a zip of two tuples whose first pair is still held -/
theorem held_item {z TI TO T p1 p2 t1 t2 : Addr} {f : Bool} {oT : Obj} {m1 m2 : Nat} {xs ys : Array Value} {x y : Value} {Q : Value → Shared → Prop} (D : ZipApart z TI TO p1 p2 t1 t2)
    (hz : IsZipHeld s.heap z TI TO T f) (hT : s.heap.get? T = some oT) (hTI : IsPair s.heap TI (.ref p1) (.ref p2)) (i1 : s.heap.IsTupleIter p1 t1 m1) (i2 : s.heap.IsTupleIter p2 t2 m2) (l1 : s.heap.IsTuple t1 xs) (l2 : s.heap.IsTuple t2 ys) (hx : xs[m1]? = some x) (hy : ys[m2]? = some y)
    (hQ : ∀ h' : Heap, IsZipHeld h' z TI TO T true → h'.IsTupleIter p1 t1 (m1 + 1) → h'.IsTupleIter p2 t2 (m2 + 1) → IsPair h' s.heap.objs.size x y → h'.objs.size = s.heap.objs.size + 1 → (∀ c o, c ≠ z → c ≠ p1 → c ≠ p2 → s.heap.get? c = some o → h'.get? c = some o) → Q (.ref s.heap.objs.size) { s with heap := h' }) :
    wpAny (model prog w) A (Builtin.«zip.__next__» ⟨[.ref z], []⟩) (fun fin s' => ∃ v, fin = .done (.ret v) ∧ Q v s') E s := by
  refine wpAny_bind (m := field (.ref z) 2) (wpAny_field hz rfl (x := .bool false) rfl (wpAny_bind (m := field (.ref z) 3) (wpAny_field hz rfl (x := .ref TI) rfl (wpAny_bind (wpAny_seqItems hTI rfl (wpAny_bind (m := Builtin.SmallTypes.ownedTupleIsFree (.ref z)) (wpAny_tupleHeld_zip hz hT fun g1 z1 b1 => ?_)))))))
  simp only [Bool.false_eq_true, if_false]
  refine wpAny_bind ?_
  rw [← Array.forIn_toList]; simp only [List.forIn_cons, List.forIn_nil]
  refine wpAny_bind (wpAny_bind (wpAny_holding (wpAny_bind (m := Builtin.SmallTypes.nextOf (.ref p1)) (RZ.nextOf_tuple_item (s := { s with heap := g1 }) (i1.extBut b1.extBut D.i1z) (l1.extBut b1.extBut D.l1z) hx fun g2 j1 b2 => wpAny_pure (wpAny_pure ?_)))))
  refine wpAny_bind (wpAny_bind (wpAny_holding (wpAny_bind (m := Builtin.SmallTypes.nextOf (.ref p2)) (RZ.nextOf_tuple_item (s := { s with heap := g2 }) ((i2.extBut b1.extBut D.i2z).extBut b2.extBut D.i12.symm) ((l2.extBut b1.extBut D.l2z).extBut b2.extBut D.l2i1) hy fun g3 j2 b3 => wpAny_pure (wpAny_pure (wpAny_pure ?_))))))
  refine wpAny_bind (m := newTuple [x, y]) (wpAny_newTuple (wpAny_pure ⟨_, rfl, ?_⟩))
  have sz : g3.objs.size = s.heap.objs.size := by rw [b3.1, b2.1, b1.1]
  have kp : ∀ c o, c ≠ z → c ≠ p1 → c ≠ p2 → s.heap.get? c = some o → g3.get? c = some o := fun c o n1 n2 n3 e => b3.extBut _ _ n3 (b2.extBut _ _ n2 (b1.extBut _ _ n1 e))
  have pr : IsPair (g3.push { cls := .type "tuple", data := .seq #[x, y] }) g3.objs.size x y := Heap.get?_push_size _ rfl
  have s4 : (g3.push { cls := .type "tuple", data := .seq #[x, y] }).objs.size = g3.objs.size + 1 := Heap.size_push ..
  show Q (.ref g3.objs.size) _
  rw [sz] at pr s4 ⊢
  exact hQ _ (Heap.get?_push_of_some _ (b3.extBut _ _ D.i2z.symm (b2.extBut _ _ D.i1z.symm z1))) ((j1.extBut b3.extBut D.i12).at fun o e => Heap.get?_push_of_some _ e) (j2.at fun o e => Heap.get?_push_of_some _ e) pr s4 fun c o n1 n2 n3 e => Heap.get?_push_of_some _ (kp c o n1 n2 n3 e)
theorem held_end {z TI TO T p1 p2 t1 t2 : Addr} {f : Bool} {oT : Obj} {m1 m2 : Nat} {xs ys : Array Value} {Q : Fin → Shared → Prop} (hh : A.handled = none) (D : ZipApart z TI TO p1 p2 t1 t2)
    (hz : IsZipHeld s.heap z TI TO T f) (hT : s.heap.get? T = some oT) (hTI : IsPair s.heap TI (.ref p1) (.ref p2)) (i1 : s.heap.IsTupleIter p1 t1 m1) (i2 : s.heap.IsTupleIter p2 t2 m2) (l1 : s.heap.IsTuple t1 xs) (l2 : s.heap.IsTuple t2 ys) (hend : xs[m1]? = none ∨ ys[m2]? = none)
    (hE : ∀ (h' : Heap) (e : Addr), (∀ c o, c ≠ z → c ≠ p1 → c ≠ p2 → s.heap.get? c = some o → h'.get? c = some o) → (∃ o, h'.get? e = some o ∧ o.cls = .type "StopIteration") → E (.ref e) { s with heap := h' }) :
    wpAny (model prog w) A (Builtin.«zip.__next__» ⟨[.ref z], []⟩) Q E s := by
  refine wpAny_bind (m := field (.ref z) 2) (wpAny_field hz rfl (x := .bool false) rfl (wpAny_bind (m := field (.ref z) 3) (wpAny_field hz rfl (x := .ref TI) rfl (wpAny_bind (wpAny_seqItems hTI rfl (wpAny_bind (m := Builtin.SmallTypes.ownedTupleIsFree (.ref z)) (wpAny_tupleHeld_zip hz hT fun g1 z1 b1 => ?_)))))))
  simp only [Bool.false_eq_true, if_false]
  refine wpAny_bind ?_
  rw [← Array.forIn_toList]; simp only [List.forIn_cons, List.forIn_nil]
  cases hx : xs[m1]? with
  | none => exact wpAny_bind (wpAny_bind (wpAny_holding (wpAny_bind (m := Builtin.SmallTypes.nextOf (.ref p1)) (RZ.nextOf_tuple_end (s := { s with heap := g1 }) hh (i1.extBut b1.extBut D.i1z) (l1.extBut b1.extBut D.l1z) hx fun g2 e b2 he => hE g2 e (fun c o n1 n2 _ q => b2 _ _ n2 (b1.extBut _ _ n1 q)) he))))
  | some x =>
    have hy : ys[m2]? = none := hend.resolve_left (by rw [hx]; simp)
    refine wpAny_bind (wpAny_bind (wpAny_holding (wpAny_bind (m := Builtin.SmallTypes.nextOf (.ref p1)) (RZ.nextOf_tuple_item (s := { s with heap := g1 }) (i1.extBut b1.extBut D.i1z) (l1.extBut b1.extBut D.l1z) hx fun g2 j1 b2 => wpAny_pure (wpAny_pure ?_)))))
    exact wpAny_bind (wpAny_bind (wpAny_holding (wpAny_bind (m := Builtin.SmallTypes.nextOf (.ref p2)) (RZ.nextOf_tuple_end (s := { s with heap := g2 }) hh ((i2.extBut b1.extBut D.i2z).extBut b2.extBut D.i12.symm) ((l2.extBut b1.extBut D.l2z).extBut b2.extBut D.l2i1) hy fun g3 e b3 he => hE g3 e (fun c o n1 n2 n3 q => b3 _ _ n3 (b2.extBut _ _ n2 (b1.extBut _ _ n1 q))) he))))
/-- a zip amid its walk: at place m; behind the first turn its pair is held -/
def ZipAt (h : Heap) (z TI TO p1 p2 t1 t2 : Addr) (m : Nat) : Prop := IsPair h TI (.ref p1) (.ref p2) ∧ h.IsTupleIter p1 t1 m ∧ h.IsTupleIter p2 t2 m ∧
  ((m = 0 ∧ IsZip h z TI TO .none ∧ IsPair h TO .none .none) ∨ (0 < m ∧ ∃ T oT, h.get? T = some oT ∧ T ≠ z ∧ T ≠ p1 ∧ T ≠ p2 ∧ ∃ f, IsZipHeld h z TI TO T f))
theorem zip_turn {z TI TO p1 p2 t1 t2 : Addr} {m : Nat} {xs ys : Array Value} {x y : Value} {Q : Option Value → Shared → Prop} (D : ZipApart z TI TO p1 p2 t1 t2) (Z : ZipAt s.heap z TI TO p1 p2 t1 t2 m) (l1 : s.heap.IsTuple t1 xs) (l2 : s.heap.IsTuple t2 ys) (hx : xs[m]? = some x) (hy : ys[m]? = some y)
    (hQ : ∀ h' : Heap, ZipAt h' z TI TO p1 p2 t1 t2 (m + 1) → IsPair h' s.heap.objs.size x y → h'.objs.size = s.heap.objs.size + 1 → (∀ c o, c ≠ z → c ≠ TO → c ≠ p1 → c ≠ p2 → s.heap.get? c = some o → h'.get? c = some o) → Q (some (.ref s.heap.objs.size)) { s with heap := h' }) :
    wpAny (model prog w) A (pyNext (.ref z)) Q E s := by
  obtain ⟨hTI, i1, i2, Z⟩ := Z
  obtain ⟨o1, e1, _⟩ := id i1
  obtain ⟨o2, e2, _⟩ := id i2
  rcases Z with ⟨rfl, hz, hTO⟩ | ⟨hm, T, oT, hT, n1, n2, n3, f, hz⟩
  · refine RZ.pyNext_zipT_item D hz hTI hTO i1 i2 l1 l2 hx hy fun h' a1 a2 a3 a4 a5 a6 a7 => ?_
    have sz : s.heap.objs.size ≠ z ∧ s.heap.objs.size ≠ p1 ∧ s.heap.objs.size ≠ p2 := ⟨(Nat.ne_of_lt (Heap.lt_size hz)).symm, (Nat.ne_of_lt (Heap.lt_size e1)).symm, (Nat.ne_of_lt (Heap.lt_size e2)).symm⟩
    exact hQ h' ⟨a7 _ _ D.TIz D.TITO D.TIi1 D.TIi2 hTI, a3, a4, .inr ⟨Nat.succ_pos _, _, _, a5, sz.1, sz.2.1, sz.2.2, false, a1⟩⟩ a5 a6 a7
  · have hTy : s.TypeIs (.ref z) "zip" := ⟨_, hz, rfl⟩
    unfold pyNext
    refine wpAny_bind (wpAny_attempt (wpAny_callSpecial?_slot (name := Str.ofString "__next__") hTy F.slot_zip_next (wpAny_call_entry F.slot_zip_next hTy F.entry_zip_next (held_item D hz hT hTI i1 i2 l1 l2 hx hy fun h' a1 a3 a4 a5 a6 a7 => wpAny_pure ?_) (F.args_zip_next_1 _))))
    exact hQ h' ⟨a7 _ _ D.TIz D.TIi1 D.TIi2 hTI, a3, a4, .inr ⟨Nat.succ_pos _, T, oT, a7 _ _ n1 n2 n3 hT, n1, n2, n3, true, a1⟩⟩ a5 a6 fun c o c1 _ c3 c4 e => a7 c o c1 c3 c4 e
theorem zip_stop {z TI TO p1 p2 t1 t2 : Addr} {m : Nat} {xs ys : Array Value} {Q : Option Value → Shared → Prop} (hh : A.handled = none) (D : ZipApart z TI TO p1 p2 t1 t2) (Z : ZipAt s.heap z TI TO p1 p2 t1 t2 m) (l1 : s.heap.IsTuple t1 xs) (l2 : s.heap.IsTuple t2 ys) (hend : xs[m]? = none ∨ ys[m]? = none)
    (hQ : ∀ h' : Heap, (∀ c o, c ≠ z → c ≠ TO → c ≠ p1 → c ≠ p2 → s.heap.get? c = some o → h'.get? c = some o) → Q none { s with heap := h' }) : wpAny (model prog w) A (pyNext (.ref z)) Q E s := by
  obtain ⟨hTI, i1, i2, Z⟩ := Z
  rcases Z with ⟨rfl, hz, hTO⟩ | ⟨hm, T, oT, hT, n1, n2, n3, f, hz⟩
  · exact RZ.pyNext_zipT_end hh D hz hTI hTO i1 i2 l1 l2 hend hQ
  · have hTy : s.TypeIs (.ref z) "zip" := ⟨_, hz, rfl⟩
    unfold pyNext
    refine wpAny_bind (wpAny_attempt (wpAny_callSpecial?_slot (name := Str.ofString "__next__") hTy F.slot_zip_next (wpAny_call_entry F.slot_zip_next hTy F.entry_zip_next (held_end hh D hz hT hTI i1 i2 l1 l2 hend fun h' e hk he => ?_) (F.args_zip_next_1 _))))
    obtain ⟨o, ho, hc⟩ := he
    exact wpAny_bind (wpAny_isInstance (T := "StopIteration") (b := true) ⟨o, ho, hc⟩ isSubtype_stop (wpAny_pure (hQ _ fun c o c1 _ c3 c4 e => hk c o c1 c3 c4 e)))
end
end Ev
set_option Elab.async false
set_option linter.all false
set_option maxRecDepth 100000
set_option maxHeartbeats 4000000
/-! E14e: list(zip(a, b)), the loop and the call. -/
namespace Ev
open PySem PySem.Spec PyProof.Rows L2
/-- pairs at the addresses as -/
def PairsAt (h : Heap) (B : Nat) (as : List Addr) (xs ys : Array Value) : Prop := ∀ (j : Nat) (a : Addr), as[j]? = some a → B ≤ a ∧ ∃ x y, xs[j]? = some x ∧ ys[j]? = some y ∧ IsPair h a x y
section
variable {prog : Program} {w : World} {A : Around} {R : Result → Shared → Prop} {z TI TO p1 p2 t1 t2 S : Addr} {xs ys : Array Value} {res : Value} {B : Nat}
theorem zip_loop (hh : A.handled = none) (D : ZipApart z TI TO p1 p2 t1 t2) (hS : S ≠ z ∧ S ≠ TO ∧ S ≠ p1 ∧ S ≠ p2 ∧ S ≠ TI ∧ S ≠ t1 ∧ S ≠ t2) (hB : z < B ∧ TO < B ∧ p1 < B ∧ p2 < B ∧ S < B) (hn : min xs.size ys.size ≤ sizeLine) :
    ∀ (k m : Nat) (s : Shared) (as : List Addr) (c : Nat), min xs.size ys.size - m = k → m ≤ min xs.size ys.size → as.length = m → B ≤ s.heap.objs.size → ZipAt s.heap z TI TO p1 p2 t1 t2 m → s.heap.IsTuple t1 xs → s.heap.IsTuple t2 ys → PairsAt s.heap B as xs ys → (as.Nodup ∧ ∀ a ∈ as, a < s.heap.objs.size) →
    s.heap.get? S = some { cls := .type "list", dict := none, data := .seq (as.map Value.ref).toArray c, slots := #[] } →
    (∀ (h' : Heap) (as' : List Addr) (c' : Nat), as'.length = min xs.size ys.size → as'.Nodup → PairsAt h' B as' xs ys → h'.get? S = some { cls := .type "list", dict := none, data := .seq (as'.map Value.ref).toArray c', slots := #[] } →
      (∀ b o, b ≠ S → b ≠ z → b ≠ TO → b ≠ p1 → b ≠ p2 → s.heap.get? b = some o → h'.get? b = some o) → R (.ok (.ret res)) { s with heap := h' }) →
    codeAny (model prog w) A (.builtin "list.extend.loop" ⟨[.ref S, .ref z, res], []⟩) R s := by
  have stay : ∀ {h h' : Heap} {as : List Addr}, (∀ c o, c ≠ z → c ≠ TO → c ≠ p1 → c ≠ p2 → h.get? c = some o → h'.get? c = some o) → PairsAt h B as xs ys → PairsAt h' B as xs ys := fun kp P j a ha => by
    obtain ⟨q1, x, y, q2, q3, q4⟩ := P j a ha
    exact ⟨q1, x, y, q2, q3, kp a _ (Nat.ne_of_gt (Nat.lt_of_lt_of_le hB.1 q1)) (Nat.ne_of_gt (Nat.lt_of_lt_of_le hB.2.1 q1)) (Nat.ne_of_gt (Nat.lt_of_lt_of_le hB.2.2.1 q1)) (Nat.ne_of_gt (Nat.lt_of_lt_of_le hB.2.2.2.1 q1)) q4⟩
  intro k
  induction k with
  | zero =>
    intro m s as c hk hm hl hb Z l1 l2 P nd hL hR
    have e : m = min xs.size ys.size := by omega
    refine codeAny_builtin F.entry_extend_loop ?_
    rw [Around.under_plainId F.plain_extend_loop _]
    have hend : xs[m]? = none ∨ ys[m]? = none := by
      rcases Nat.le_total xs.size ys.size with q | q
      · left; exact Array.getElem?_eq_none (by omega)
      · right; exact Array.getElem?_eq_none (by omega)
    refine wpAny_bind (m := pyNext (.ref z)) (zip_stop (A := A.in1) hh D Z l1 l2 hend fun h' kp => wpAny_pure ?_)
    exact hR h' as c (by omega) nd.1 (stay kp P) (kp S _ hS.1 hS.2.1 hS.2.2.1 hS.2.2.2.1 hL) fun b o n1 n2 n3 n4 n5 q => kp b o n2 n3 n4 n5 q
  | succ k ih =>
    intro m s as c hk hm hl hb Z l1 l2 P nd hL hR
    have m1 : m < xs.size := by omega
    have m2 : m < ys.size := by omega
    refine codeAny_builtin F.entry_extend_loop ?_
    rw [Around.under_plainId F.plain_extend_loop _]
    refine wpAny_bind (m := pyNext (.ref z)) (zip_turn (A := A.in1) D Z l1 l2 (Array.getElem?_eq_getElem m1) (Array.getElem?_eq_getElem m2) fun h' Z' pr sz kp => ?_)
    have hL' := kp S _ hS.1 hS.2.1 hS.2.2.1 hS.2.2.2.1 hL
    have oth : ∀ (f : Obj → Obj) (b : Addr) (o : Obj), b ≠ S → h'.get? b = some o → (h'.update S f).get? b = some o := fun f b o nb q => (Heap.get?_update_other _ _ (Ne.symm nb)).trans q
    refine wpAny_bind (m := updateSeq S (·.push (.ref s.heap.objs.size))) (wpAny_updateSeq hL' rfl (wpAny_pure ⟨plainId_quiet F.plain_extend_loop _, ih (m + 1) _ (as ++ [s.heap.objs.size]) _ (by omega) (by omega) (by simp [hl]) ?_ ?_ ?_ ?_ ?_ ?_ (by rw [List.map_append]; have q := Heap.get?_update_self (Obj.mapSeq (·.push (.ref s.heap.objs.size))) hL' rfl; simpa [Obj.mapSeq] using q) fun h2 as' c' e1 nd2 P2 q2 k2 => ?_⟩) ?_ ?_)
    · show B ≤ (h'.update S _).objs.size
      rw [Heap.size_update, sz]; omega
    · obtain ⟨a1, a2, a3, a4⟩ := Z'
      refine ⟨oth _ _ _ (Ne.symm hS.2.2.2.2.1) a1, a2.at fun o q => oth _ _ _ (Ne.symm hS.2.2.1) q, a3.at fun o q => oth _ _ _ (Ne.symm hS.2.2.2.1) q, ?_⟩
      rcases a4 with ⟨q, _⟩ | ⟨q, T, oT, b1, b2, b3, b4, f, b5⟩
      · omega
      · refine .inr ⟨q, T, ?_⟩
        by_cases hTS : T = S
        · subst hTS
          exact ⟨_, Heap.get?_update_self _ hL' rfl, b2, b3, b4, f, oth _ _ _ (Ne.symm hS.1) b5⟩
        · exact ⟨oT, oth _ _ _ hTS b1, b2, b3, b4, f, oth _ _ _ (Ne.symm hS.1) b5⟩
    · obtain ⟨o, q, q2⟩ := l1
      exact ⟨o, oth _ _ _ (Ne.symm hS.2.2.2.2.2.1) (kp _ _ D.l1z D.l1TO D.l1i1 D.l1i2 q), q2⟩
    · obtain ⟨o, q, q2⟩ := l2
      exact ⟨o, oth _ _ _ (Ne.symm hS.2.2.2.2.2.2) (kp _ _ D.l2z D.l2TO D.l2i1 D.l2i2 q), q2⟩
    · intro j a ha
      by_cases hj : j < as.length
      · rw [List.getElem?_append_left hj] at ha
        obtain ⟨q1, x, y, q2, q3, q4⟩ := stay kp P j a ha
        exact ⟨q1, x, y, q2, q3, oth _ _ _ (Nat.ne_of_gt (Nat.lt_of_lt_of_le hB.2.2.2.2 q1)) q4⟩
      · have hjm : j = m := by
          have := (List.getElem?_eq_some_iff.mp ha).1
          simp at this; omega
        subst hjm
        rw [List.getElem?_append_right (by omega)] at ha
        have ea : s.heap.objs.size = a := by simpa [hl] using ha
        subst ea
        exact ⟨hb, _, _, Array.getElem?_eq_getElem m1, Array.getElem?_eq_getElem m2, oth _ _ _ (Nat.ne_of_gt (Nat.lt_of_lt_of_le hB.2.2.2.2 hb)) pr⟩
    · refine ⟨?_, fun a ha => ?_⟩
      · rw [List.nodup_append]
        exact ⟨nd.1, by simp, fun a ha b hb => by rw [List.mem_singleton.mp hb]; exact Nat.ne_of_lt (nd.2 a ha)⟩
      · show a < (h'.update S _).objs.size
        rw [Heap.size_update, sz]
        rcases List.mem_append.mp ha with q | q
        · exact Nat.lt_succ_of_lt (nd.2 a q)
        · rw [List.mem_singleton.mp q]; exact Nat.lt_succ_self _
    · refine hR h2 as' c' e1 nd2 P2 q2 fun b o n1 n2 n3 n4 n5 q => k2 b o n1 n2 n3 n4 n5 (oth _ _ _ n1 (kp b o n2 n3 n4 n5 q))
    · simp [hl]; omega
    · show ((as.map Value.ref).toArray.push _).size ≤ sizeLine + 1
      simp [hl]; omega
end
/-! ### many new objects -/
theorem Inv.many {X : Cx} {pins : List (Addr × Obj)} {σ : L2.St} {H H' : Hp} {s : Shared} {h' : Heap} {tk : Nat} (I : Inv X pins σ H s) (hk : ∀ b o, s.heap.get? b = some o → h'.get? b = some o) (kp : ∀ b u, H b = some u → H' b = some u)
    (hn : ∀ b, b < s.heap.objs.size → H' b = H b) (hob : ∀ b u, s.heap.objs.size ≤ b → H' b = some u → ObjOk X.prog X.w H' h' b u) : Inv X pins σ H' { s with heap := h', toks := tk } := by
  refine I.call' (ch := []) rfl ⟨fun b o q _ _ _ => hk b o q, fun b o q _ _ _ => ⟨o.slots, hk b o q⟩, fun b o q n _ => ?_, fun b o q _ => ⟨o, hk b o q⟩, fun b xs q => kp b _ q, fun b o u q => kp b _ q, fun b ps q => ⟨#[], by rw [kp b _ q]; simp⟩⟩ (fun b u q => ?_) I.bare fun b z => by simp at z
  · rw [hn b (Heap.lt_size q)]; exact n
  · rcases Nat.lt_or_ge b s.heap.objs.size with hb | hb
    · rw [hn b hb] at q
      exact (I.hok b u q).stay (fun d v _ y => hk d v y) (fun d y => kp d _ y) fun d xs y => kp d _ y
    · exact hob b u hb q
def putP : Hp → List Addr → List (V × V) → Hp
  | H, a :: as, p :: ps => putP (upd H a (.tup [p.1, p.2])) as ps
  | H, _, _ => H
theorem putP_off {b : Addr} : ∀ (as : List Addr) (ps : List (V × V)) (H : Hp), b ∉ as → putP H as ps b = H b
  | [], _, _, _ => rfl
  | _ :: _, [], _, _ => rfl
  | a :: as, p :: ps, H, h => by
    rw [List.mem_cons, not_or] at h
    exact (putP_off as ps _ h.2).trans (upd_ne h.1)
theorem putP_at : ∀ (as : List Addr) (ps : List (V × V)) (H : Hp) (j : Nat) (a : Addr) (p : V × V), as.Nodup → as[j]? = some a → ps[j]? = some p → putP H as ps a = some (.tup [p.1, p.2])
  | [], _, _, _, _, _, _, h, _ => by simp at h
  | _ :: _, [], _, _, _, _, _, _, h => by simp at h
  | a :: as, p :: ps, H, 0, b, q, nd, h1, h2 => by
    cases h1; cases h2
    exact (putP_off as ps _ (List.nodup_cons.mp nd).1).trans upd_same
  | a :: as, p :: ps, H, j + 1, b, q, nd, h1, h2 => putP_at as ps _ j b q (List.nodup_cons.mp nd).2 (by simpa using h1) (by simpa using h2)
end Ev
set_option Elab.async false
set_option linter.all false
set_option maxRecDepth 100000
set_option maxHeartbeats 400000
/-! E14f: list(zip(a, b)) as an expression. -/
namespace Ev
open PySem PySem.Spec PyProof.Rows L2
theorem nolen_zip : typeLookup (.type "zip") "__len__" = pure none := by rw [typeLookup_type, builtinLookup_eq_fast]; kernel_rfl
theorem nohint_zip : typeLookup (.type "zip") "__length_hint__" = pure none := by rw [typeLookup_type, builtinLookup_eq_fast]; kernel_rfl
/-- a new zip, with all that it needs -/
structure Zip0 (h : Heap) (z TI TO p1 p2 t1 t2 : Addr) (xs ys : Array Value) : Prop where
  D : ZipApart z TI TO p1 p2 t1 t2
  hz : IsZip h z TI TO .none
  hTI : IsPair h TI (.ref p1) (.ref p2)
  hTO : IsPair h TO .none .none
  i1 : h.IsTupleIter p1 t1 0
  i2 : h.IsTupleIter p2 t2 0
  l1 : h.IsTuple t1 xs
  l2 : h.IsTuple t2 ys
theorem Zip0.kept {h h' : Heap} {z TI TO p1 p2 t1 t2 : Addr} {xs ys : Array Value} (Z : Zip0 h z TI TO p1 p2 t1 t2 xs ys) (k : ∀ b o, h.get? b = some o → h'.get? b = some o) : Zip0 h' z TI TO p1 p2 t1 t2 xs ys :=
  ⟨Z.D, k _ _ Z.hz, k _ _ Z.hTI, k _ _ Z.hTO, Z.i1.at fun o q => k _ o q, Z.i2.at fun o q => k _ o q, IsTuple.kept Z.l1 k, IsTuple.kept Z.l2 k⟩
theorem Zip0.apart {h : Heap} {z TI TO p1 p2 t1 t2 S : Addr} {xs ys : Array Value} (Z : Zip0 h z TI TO p1 p2 t1 t2 xs ys) (hS : h.objs.size ≤ S) : (S ≠ z ∧ S ≠ TO ∧ S ≠ p1 ∧ S ≠ p2 ∧ S ≠ TI ∧ S ≠ t1 ∧ S ≠ t2) ∧ (z < h.objs.size ∧ TO < h.objs.size ∧ p1 < h.objs.size ∧ p2 < h.objs.size) := by
  obtain ⟨o1, e1, _⟩ := Z.i1
  obtain ⟨o2, e2, _⟩ := Z.i2
  obtain ⟨o3, e3, _⟩ := Z.l1
  obtain ⟨o4, e4, _⟩ := Z.l2
  have lt : ∀ {a : Addr} {o : Obj}, h.get? a = some o → S ≠ a := fun q => Nat.ne_of_gt (Nat.lt_of_lt_of_le (Heap.lt_size q) hS)
  exact ⟨⟨lt Z.hz, lt Z.hTO, lt e1, lt e2, lt Z.hTI, lt e3, lt e4⟩, Heap.lt_size Z.hz, Heap.lt_size Z.hTO, Heap.lt_size e1, Heap.lt_size e2⟩
section
variable {prog : Program} {w : World} {A : Around} {E : Value → Shared → Prop} {s : Shared} {R : Result → Shared → Prop} {z TI TO p1 p2 t1 t2 S : Addr} {xs ys : Array Value} {B c : Nat}
/-- what is left behind the walk -/
def ZipEnd (S z TO p1 p2 : Addr) (B : Nat) (xs ys : Array Value) (s : Shared) (P : Shared → Prop) : Prop := ∀ (h' : Heap) (as : List Addr) (c : Nat), as.length = min xs.size ys.size → as.Nodup → PairsAt h' B as xs ys → h'.get? S = some { cls := .type "list", dict := none, data := .seq (as.map Value.ref).toArray c, slots := #[] } →
      (∀ b o, b ≠ S → b ≠ z → b ≠ TO → b ≠ p1 → b ≠ p2 → s.heap.get? b = some o → h'.get? b = some o) → P { s with heap := h' }
theorem zip_extend (hh : A.handled = none) (Z : Zip0 s.heap z TI TO p1 p2 t1 t2 xs ys) (hSa : S ≠ z ∧ S ≠ TO ∧ S ≠ p1 ∧ S ≠ p2 ∧ S ≠ TI ∧ S ≠ t1 ∧ S ≠ t2) (hB : z < B ∧ TO < B ∧ p1 < B ∧ p2 < B ∧ S < B) (hB2 : B ≤ s.heap.objs.size) (hn : min xs.size ys.size ≤ sizeLine)
    (hS : s.heap.get? S = some { cls := .type "list", data := .seq #[] c }) (hR : ZipEnd S z TO p1 p2 B xs ys s (R (.ok (.ret .none)))) :
    wpAny (model prog w) A.in1 (Builtin.List.listExtendWith (.ref S) (.ref z) .none) (fun fin s' => match fin with | .done f => R (.ok f) s' | .again c' => c'.quiet = true ∧ codeAny (model prog w) A c' R s') (fun e s' => R (.error e) s') s := by
  have ty : s.TypeIs (.ref z) "zip" := ⟨_, Z.hz, rfl⟩
  unfold Builtin.List.listExtendWith
  refine wpAny_bind (wpAny_typeOf ty ?_)
  have ne : Builtin.List.listSameRef (.ref S) (.ref z) = false := by simp [Builtin.List.listSameRef, hSa.1]
  have n2 : (Value.type "zip" == Value.type "list") = false := by decide
  have n3 : (Value.type "zip" == Value.type "tuple") = false := by decide
  simp only [ne, n2, n3, Bool.or_false, Bool.false_eq_true, if_false]
  refine wpAny_bind (wpAny_pyIter_zip Z.hz (wpAny_bind (wpAny_holding ?_)))
  unfold Builtin.List.listLengthHint
  refine wpAny_bind (wpAny_specialOf ty nolen_zip ?_)
  show wpAny _ A.in1 (specialOf (Value.ref z) (Str.ofString "__length_hint__") >>= _) _ _ _
  refine wpAny_bind (wpAny_specialOf ty nohint_zip (wpAny_pure ?_))
  show wpAny _ A.in1 (rule "list.extend.makes-room" >>= fun _ => Builtin.List.listTouch (.ref S) >>= fun _ => again (.builtin "list.extend.loop" ⟨[.ref S, .ref z, .none], []⟩)) _ _ _
  refine wpAny_bind (wpAny_rule (wpAny_bind ?_))
  show wpAny _ A.in1 (updateSeq S (·.push .none) >>= fun _ => updateSeq S (·.pop)) _ _ _
  refine wpAny_bind (wpAny_updateSeq hS rfl ?_)
  have hS3 := Heap.get?_update_self (Obj.mapSeq (·.push Value.none)) hS rfl
  refine wpAny_updateSeq (hz := by seq_fits) hS3 rfl ?_
  have hS4 := Heap.get?_update_self (Obj.mapSeq (·.pop)) hS3 rfl
  have up : ∀ b o, b ≠ S → s.heap.get? b = some o → ((s.heap.update S (Obj.mapSeq (·.push Value.none))).update S (Obj.mapSeq (·.pop))).get? b = some o := fun b o nb q => (Heap.get?_update_other _ _ (Ne.symm nb)).trans ((Heap.get?_update_other _ _ (Ne.symm nb)).trans q)
  obtain ⟨m1, m2, m3, m4, m5, m6, m7⟩ := id hSa
  refine wpAny_pure ⟨plainId_quiet F.plain_extend_loop _, zip_loop (B := B) hh Z.D hSa hB hn _ 0 _ [] _ rfl (Nat.zero_le _) rfl ?_ ⟨up _ _ m5.symm Z.hTI, Z.i1.at fun o q => up _ o m3.symm q, Z.i2.at fun o q => up _ o m4.symm q, .inl ⟨rfl, up _ _ m1.symm Z.hz, up _ _ m2.symm Z.hTO⟩⟩ ?_ ?_ (fun j a h => by simp at h) ⟨List.nodup_nil, fun a h => by simp at h⟩ hS4 fun h' as c e1 nd P q k => hR h' as c e1 nd P q fun b o a1 a2 a3 a4 a5 r => k b o a1 a2 a3 a4 a5 (up b o a1 r)⟩
  · show B ≤ ((s.heap.update S (Obj.mapSeq (·.push Value.none))).update S (Obj.mapSeq (·.pop))).objs.size
    rw [Heap.size_update, Heap.size_update]; exact hB2
  · obtain ⟨o, e, q⟩ := Z.l1; exact ⟨o, up _ _ m6.symm e, q⟩
  · obtain ⟨o, e, q⟩ := Z.l2; exact ⟨o, up _ _ m7.symm e, q⟩
theorem zip_init (hh : A.handled = none) (Z : Zip0 s.heap z TI TO p1 p2 t1 t2 xs ys) (hSa : S ≠ z ∧ S ≠ TO ∧ S ≠ p1 ∧ S ≠ p2 ∧ S ≠ TI ∧ S ≠ t1 ∧ S ≠ t2) (hB : z < B ∧ TO < B ∧ p1 < B ∧ p2 < B ∧ S < B) (hB2 : B ≤ s.heap.objs.size) (hn : min xs.size ys.size ≤ sizeLine)
    (hS : s.heap.get? S = some { cls := .type "list", data := .seq #[] }) (hR : ZipEnd S z TO p1 p2 B xs ys s (R (.ok (.ret .none)))) :
    wpAny (model prog w) A.in1 (Builtin.«list.__init__» ⟨[.ref S, .ref z], []⟩) (fun fin s' => match fin with | .done f => R (.ok f) s' | .again c' => c'.quiet = true ∧ codeAny (model prog w) A c' R s') (fun e s' => R (.error e) s') s := by
  show wpAny _ A.in1 (do
    let old ← Builtin.List.listItems (.ref S)
    Builtin.List.listUpdate (.ref S) (fun _ => #[])
    letGo old.toList.reverse
    Builtin.List.listExtendWith (.ref S) (.ref z) .none) _ _ s
  refine wpAny_bind ?_
  unfold Builtin.List.listItems
  refine wpAny_bind (wpAny_seqItems hS rfl (wpAny_pure ?_))
  show wpAny _ A.in1 (updateSeq S (fun _ => #[]) >>= fun _ => letGo (#[] : Array Value).toList.reverse >>= fun _ => Builtin.List.listExtendWith (.ref S) (.ref z) .none) _ _ s
  refine wpAny_bind (wpAny_updateSeq hS rfl (wpAny_bind (wpAny_letGo ?_)))
  have hS2 := Heap.get?_update_self (Obj.mapSeq (fun _ => (#[] : Array Value))) hS rfl
  have up : ∀ b o, b ≠ S → s.heap.get? b = some o → (s.heap.update S (Obj.mapSeq (fun _ => (#[] : Array Value)))).get? b = some o := fun b o nb q => (Heap.get?_update_other _ _ (Ne.symm nb)).trans q
  obtain ⟨m1, m2, m3, m4, m5, m6, m7⟩ := id hSa
  refine zip_extend (s := { s with heap := s.heap.update S (Obj.mapSeq (fun _ => (#[] : Array Value))) }) hh ⟨Z.D, up _ _ m1.symm Z.hz, up _ _ m5.symm Z.hTI, up _ _ m2.symm Z.hTO, Z.i1.at fun o q => up _ o m3.symm q, Z.i2.at fun o q => up _ o m4.symm q, ?_, ?_⟩ hSa hB ?_ hn hS2 fun h' as c e1 nd P q k => hR h' as c e1 nd P q fun b o a1 a2 a3 a4 a5 r => k b o a1 a2 a3 a4 a5 (up b o a1 r)
  · obtain ⟨o, e, q⟩ := Z.l1; exact ⟨o, up _ _ m6.symm e, q⟩
  · obtain ⟨o, e, q⟩ := Z.l2; exact ⟨o, up _ _ m7.symm e, q⟩
  · show B ≤ (s.heap.update S (Obj.mapSeq (fun _ => (#[] : Array Value)))).objs.size
    rw [Heap.size_update]; exact hB2
theorem call_listZip {Q : Value → Shared → Prop} (hh : A.handled = none) (Z : Zip0 s.heap z TI TO p1 p2 t1 t2 xs ys) (hn : min xs.size ys.size ≤ sizeLine)
    (hQ : ZipEnd s.heap.objs.size z TO p1 p2 (s.heap.objs.size + 1) xs ys { s with heap := s.heap.push { cls := .type "list", data := .seq #[] } } (Q (.ref s.heap.objs.size))) : wpAny (model prog w) A (call (.type "list") [.ref z]) Q E s := by
  refine callType_codes (Q₁ := fun obj u => obj = .ref s.heap.objs.size ∧ u = { s with heap := s.heap.push { cls := .type "list", data := .seq #[] } }) F.called_list (F.typeCall_list_1 _) F.entry_list_init (code_list_new _ ⟨rfl, rfl⟩) fun obj u hu => ?_
  obtain ⟨rfl, rfl⟩ := hu
  have hS : (s.heap.push { cls := .type "list", data := .seq #[] }).get? s.heap.objs.size = some { cls := .type "list", data := .seq #[] } := Heap.get?_push_size _ rfl
  obtain ⟨a1, b1, b2, b3, b4⟩ := Z.apart (Nat.le_refl _)
  refine ⟨⟨_, hS, rfl⟩, F.args_list_init_2 _ _, zip_init (s := { s with heap := s.heap.push { cls := .type "list", data := .seq #[] } }) hh (Z.kept fun b o q => Heap.get?_push_of_some _ q) a1 ⟨Nat.lt_succ_of_lt b1, Nat.lt_succ_of_lt b2, Nat.lt_succ_of_lt b3, Nat.lt_succ_of_lt b4, Nat.lt_succ_self _⟩ (by show _ ≤ (s.heap.push _).objs.size; rw [Heap.size_push]; exact Nat.le_refl _) hn hS fun h' as c e1 nd P q k => ⟨rfl, hQ h' as c e1 nd P q k⟩⟩
end
/-! ### as a rule -/
def rZipL (K : PySem.W.Frag) : List V → Hp → VK → Prop := fun vs H Q => ∃ (a b : Addr) (xs ys : List V), vs = [.ref a, .ref b] ∧ SqT K H a xs ∧ SqT K H b ys ∧
  ∀ (H' : Hp) (p : Addr) (as : List Addr), (∀ b o, H b = some o → H' b = some o) → H p = none → (∀ t ∈ as, H t = none) → p ∉ as → H' p = some (.lst (as.map V.ref)) → as.length = min xs.length ys.length →
    (∀ (j : Nat) (t : Addr), as[j]? = some t → ∃ x y, xs[j]? = some x ∧ ys[j]? = some y ∧ H' t = some (.tup [x, y])) → Q (.ref p) H'
section
variable {X : Cx} {a b : Expr} {t : TA} {p p2 pos pos2 : Pos}
theorem min_get {α : Type} {xs : List α} {j : Nat} (h : j < xs.length) : xs[j]? = some xs[j] := List.getElem?_eq_getElem h
theorem pe_listZip (hc : X.calm = true) (hg : Gl X "list") (hm : X.mg "list" = none) (hg2 : Gl X "zip") (hm2 : X.mg "zip" = none) (ha : PA X [a, b] t) (hs : starEach [a, b] X.env = (false, eval a X.env) :: starEach [b] X.env) (hpl : (backTo pos2 (starEach [b] X.env)).any (·.1) = false) :
    PE X (.Call (.Name "list" p) [.Call (.Name "zip" p2) [a, b] [] pos2] [] pos) (fun σ H Q => t σ H fun vs H1 => rZipL X.K vs H1 Q) := by
  refine ⟨fun pins s σ H Q I h => ?_⟩
  refine Call_ (ld_blt I hg hm PyProof.Rows.boot_list (PyProof.Rows.callWith_type1 (args_cons (Call_ (ld_blt I hg2 hm2 PyProof.Rows.boot_zip (PyProof.Rows.callWith_type1 (thn (ha.run pos2 pins s σ H _ I h) fun us s1 ⟨vs, H1, I1, r1, q1⟩ => ?_) hs hpl))) rfl) rfl rfl))
  obtain ⟨ta, tb, xs, ys, rfl, h1, h2, q⟩ := q1
  obtain ⟨ua, ub, rfl, ra, rb⟩ := vals2 r1
  cases ra; cases rb
  obtain ⟨its, rx, px, zx⟩ := I1.tuple h1
  obtain ⟨jts, ry, py, zy⟩ := I1.tuple h2
  obtain ⟨oa, ea, _⟩ := id px
  obtain ⟨ob, eb, _⟩ := id py
  have la : ta < s1.heap.objs.size := Heap.lt_size ea
  have lb : tb < s1.heap.objs.size := Heap.lt_size eb
  refine RZ.call_zipT (show s1.heap.IsTuple ta its.toArray from px) (show s1.heap.IsTuple tb jts.toArray from py) fun g z1 z2 z3 z4 z5 z6 z7 => args_nil ?_
  have D : ZipApart (s1.heap.objs.size + 4) (s1.heap.objs.size + 2) (s1.heap.objs.size + 3) s1.heap.objs.size (s1.heap.objs.size + 1) ta tb := by
    constructor <;> (intro e; simp only [Addr] at *; omega)
  have Z : Zip0 g (s1.heap.objs.size + 4) (s1.heap.objs.size + 2) (s1.heap.objs.size + 3) s1.heap.objs.size (s1.heap.objs.size + 1) ta tb its.toArray jts.toArray := ⟨D, z1, z2, z3, z4, z5, IsTuple.kept px z7, IsTuple.kept py z7⟩
  have sx : its.toArray.size = xs.length := by rw [List.size_toArray, rx.length]
  have sy : jts.toArray.size = ys.length := by rw [List.size_toArray, ry.length]
  refine call_listZip (s := { s1 with heap := g }) (I1.ok.hd hc) Z (by rw [sx]; exact Nat.le_trans (Nat.min_le_left _ _) zx) fun h' as c el nd P hS k => ?_
  rw [sx, sy] at el
  have low : ∀ t' ∈ as, g.objs.size + 1 ≤ t' := fun t' ht => by
    obtain ⟨j, hj⟩ := List.getElem?_of_mem ht
    exact (P j t' hj).1
  have kk : ∀ b o, s1.heap.get? b = some o → h'.get? b = some o := fun b o e => by
    have hb := Heap.lt_size e
    have ne : ∀ n, s1.heap.objs.size ≤ n → b ≠ n := fun n hn => Nat.ne_of_lt (Nat.lt_of_lt_of_le hb hn)
    exact k b o (ne _ (by show _ ≤ g.objs.size; rw [z6]; exact Nat.le_add_right _ _)) (ne _ (Nat.le_add_right _ _)) (ne _ (Nat.le_add_right _ _)) (ne _ (Nat.le_refl _)) (ne _ (Nat.le_add_right _ _)) (Heap.get?_push_of_some _ (z7 b o e))
  have hpn : g.objs.size ∉ as := fun hm => Nat.lt_irrefl _ (low _ hm)
  have ge : s1.heap.objs.size ≤ g.objs.size := by rw [z6]; omega
  have fr : ∀ t' ∈ as, H1 t' = none := fun t' ht => I1.hok.fresh (Nat.le_trans ge (Nat.le_trans (Nat.le_succ _) (low t' ht)))
  have frp : H1 g.objs.size = none := I1.hok.fresh ge
  let ps := xs.zip ys
  let H' := putP (upd H1 g.objs.size (.lst (as.map V.ref))) as ps
  have off : ∀ b, b ∉ as → b ≠ g.objs.size → H' b = H1 b := fun b n1 n2 => (putP_off as ps _ n1).trans (upd_ne n2)
  have kp : ∀ b u, H1 b = some u → H' b = some u := fun b u e => by
    rw [off b (fun z => by rw [fr b z] at e; cases e) (fun z => by rw [z, frp] at e; cases e)]
    exact e
  have atS : H' g.objs.size = some (.lst (as.map V.ref)) := (putP_off as ps _ hpn).trans upd_same
  have atP : ∀ (j : Nat) (t' : Addr), as[j]? = some t' → ∃ x y, xs[j]? = some x ∧ ys[j]? = some y ∧ H' t' = some (.tup [x, y]) := fun j t' hj => by
    have hl := (List.getElem?_eq_some_iff.mp hj).1
    have h3 : j < xs.length := by omega
    have h4 : j < ys.length := by omega
    refine ⟨xs[j], ys[j], min_get h3, min_get h4, ?_⟩
    exact putP_at as ps _ j t' (xs[j], ys[j]) nd hj (by rw [List.getElem?_zip_eq_some]; exact ⟨min_get h3, min_get h4⟩)
  have hob : ∀ b u, s1.heap.objs.size ≤ b → H' b = some u → ObjOk X.prog X.w H' h' b u := fun b u hb e => by
    by_cases hb2 : b = g.objs.size
    · subst hb2
      rw [atS] at e; cases e
      refine ⟨by rw [List.length_map]; omega, as.map Value.ref, c, refs as, hS⟩
    · by_cases hb3 : b ∈ as
      · obtain ⟨j, hj⟩ := List.getElem?_of_mem hb3
        obtain ⟨x, y, e1, e2, e3⟩ := atP j b hj
        rw [e3] at e; cases e
        obtain ⟨_, u, v, f1, f2, f3⟩ := P j b hj
        obtain ⟨u', g1, g2⟩ := Vals.get rx e1
        obtain ⟨v', g3, g4⟩ := Vals.get ry e2
        have : u = u' := by have := f1; simp at this; rw [g1] at this; exact (Option.some.inj this).symm
        subst this
        have : v = v' := by have := f2; simp at this; rw [g3] at this; exact (Option.some.inj this).symm
        subst this
        exact ⟨by show 2 ≤ sizeLine; decide, [u, v], .cons g2 (.cons g4 .nil), ⟨_, f3, rfl, _, rfl⟩⟩
      · rw [off b hb3 hb2, I1.hok.fresh hb] at e; cases e
  have J : Inv X pins σ H' { s1 with heap := h', toks := s1.toks } := by
    refine Inv.many (s := s1) I1 kk kp (fun b hb => off b (fun z => Nat.lt_irrefl _ (Nat.lt_of_lt_of_le hb (Nat.le_trans ge (Nat.le_trans (Nat.le_succ _) (low b z))))) (Nat.ne_of_lt (Nat.lt_of_lt_of_le hb ge))) (fun b u hb e => ?_)
    exact hob b u hb e
  exact ⟨.ref g.objs.size, H', J, rfl, q H' _ as kp frp fr hpn atS el atP⟩
where
  refs : ∀ as : List Addr, Vals (as.map V.ref) (as.map Value.ref)
    | [] => .nil
    | _ :: as => .cons rfl (refs as)
end
end Ev
set_option Elab.async false
set_option linter.all false
set_option maxRecDepth 100000
set_option maxHeartbeats 4000000
/-! E14g: min, max, len of an own object, list(zip(..)), targets with a star, in the evaluator. -/
namespace Ev
open PySem PySem.Spec PyProof.Rows L2
/-! ### min, max -/
def fMin (ws : List W) : M W := fun h => match ws with
  | [.d (.int i), .d (.int j)] => .ok (wI (if j < i then j else i)) h
  | [.d (.tuple [.str x, .int i]), .d (.tuple [.str y, .int j])] => if x = y then .ok (if j < i then .d (.tuple [.str y, .int j]) else .d (.tuple [.str x, .int i])) h else .no
  | _ => .no
def fMax (ws : List W) : M W := fun h => match ws with
  | [.d (.int i), .d (.int j)] => .ok (wI (if j > i then j else i)) h
  | [.d (.tuple [.str x, .int i]), .d (.tuple [.str y, .int j])] => if x = y then .ok (if i < j then .d (.tuple [.str y, .int j]) else .d (.tuple [.str x, .int i])) h else .no
  | _ => .no
section
variable {X : Cx} {G : GA} (hK : X.K = G.K)
include hK
theorem tup2 {c : Cf} {v : V} {x : Str} {i : Int} (h : RW G c v (.d (.tuple [.str x, .int i]))) : ∃ a, v = .ref a ∧ SqT X.K c.H a [.str x, .int i] := by
  obtain ⟨a, xs, rfl, h1, r⟩ := rTup h
  cases r with
  | cons r1 r =>
    cases r with
    | cons r2 r =>
      cases r
      cases r1; cases r2
      exact ⟨a, rfl, by rw [hK]; exact h1⟩
theorem min_ok (hc : X.calm = true) (hu : X.A.units + 64 < cLine) : ∃ r, CallR X (.builtin "min") r ∧ CallS G fMin r := by
  refine ⟨_, (call_min2 hc).or (call_min2T hc hu), fun c xs ws Q E k rx h => ?_⟩
  unfold fMin at h
  split at h
  · rename_i i j
    obtain ⟨v, v', rfl, r1, r2⟩ := rwl2 rx
    rw [rInt r1, rInt r2]
    exact .inl ⟨i, j, rfl, h.here k _ (.int _)⟩
  · rename_i x i y j
    obtain ⟨v, v', rfl, r1, r2⟩ := rwl2 rx
    split at h
    · rename_i e
      subst e
      obtain ⟨a, rfl, h1⟩ := tup2 hK r1
      obtain ⟨b, rfl, h2⟩ := tup2 hK r2
      refine .inr ⟨a, b, x, i, j, rfl, h1, h2, ?_⟩
      by_cases q : j < i
      · rw [if_pos q] at h ⊢; exact h.here k _ r2
      · rw [if_neg q] at h ⊢; exact h.here k _ r1
    · exact h.elim
  · exact h.elim
theorem max_ok (hc : X.calm = true) (hu : X.A.units + 64 < cLine) : ∃ r, CallR X (.builtin "max") r ∧ CallS G fMax r := by
  refine ⟨_, (call_max2 hc).or (call_max2T hc hu), fun c xs ws Q E k rx h => ?_⟩
  unfold fMax at h
  split at h
  · rename_i i j
    obtain ⟨v, v', rfl, r1, r2⟩ := rwl2 rx
    rw [rInt r1, rInt r2]
    exact .inl ⟨i, j, rfl, h.here k _ (.int _)⟩
  · rename_i x i y j
    obtain ⟨v, v', rfl, r1, r2⟩ := rwl2 rx
    split at h
    · rename_i e
      subst e
      obtain ⟨a, rfl, h1⟩ := tup2 hK r1
      obtain ⟨b, rfl, h2⟩ := tup2 hK r2
      refine .inr ⟨a, b, x, i, j, rfl, h1, h2, ?_⟩
      by_cases q : i < j
      · rw [if_pos q] at h ⊢; exact h.here k _ r2
      · rw [if_neg q] at h ⊢; exact h.here k _ r1
    · exact h.elim
  · exact h.elim
def bfun2 (x : Str) : Option (List W → M W) := if x == "min" then some fMin else if x == "max" then some fMax else none
theorem bfun2_ok (hc : X.calm = true) (hu : X.A.units + 64 < cLine) {x : Str} {f : List W → M W} (h : bfun2 x = some f) : ∃ id r, bootBuiltins x = some (.builtin id) ∧ CallR X (.builtin id) r ∧ CallS G f r := by
  unfold bfun2 at h
  split at h
  · rename_i e; cases h; rw [eq_of_beq e]
    obtain ⟨r, h1, h2⟩ := min_ok (X := X) hK hc hu; exact ⟨_, r, by decide +kernel, h1, h2⟩
  · split at h
    · rename_i e; cases h; rw [eq_of_beq e]
      obtain ⟨r, h1, h2⟩ := max_ok (X := X) hK hc hu; exact ⟨_, r, by decide +kernel, h1, h2⟩
    · cases h
end
section
variable {T : Tb} {G : GA} {CM : FId → List W → M W} {k : Nat} {sc : Sc} {a b e : Expr} {es : List Expr} {mr : EnvW → M (List W)} {ma : ME} {pos p p2 pos2 : Pos} {x : Str} {f : List W → M W}
theorem se_bfun2 (hg : isGlob sc x = true) (hf : x ∈ T.free) (hb : bfun2 x = some f) (ha : SA T G CM k sc (e :: es) mr) (hs : (e :: es).all noStar = true) : SE T G CM k sc (.Call (.Name x p) (e :: es) [] pos) (eFun f mr) := fun X Wx F => by
  obtain ⟨id, r, h1, h2, h3⟩ := bfun2_ok (X := X) F.K F.calm F.room.units hb
  rw [List.all_cons, Bool.and_eq_true] at hs
  refine PE.imp (pe_callB h2 (F.gl hg) (F.top.free x hf) h1 (ha X Wx F) (glob_ok hg).2.2 (glob_ok hg).2.1 (noStar_each hs.1 es X.env) (noStar_any hs.2 pos X.env)) fun σ H Q ⟨c, env, e, ok, re, q⟩ => ?_
  subst e
  exact tA.step ok re q fun ws c1 vs e1 ok1 re1 rvs q1 => h3 c1 vs ws Q _ ok1 rvs q1
/-! ### list(zip(a, b)) -/
def zipL (ws : List W) : M W := fun h => match ws with
  | [.d (.tuple xs), .d (.tuple ys)] => .ok (.r h.length) (h ++ [.lst (zipD xs ys)])
  | _ => .no
theorem Cf.grow_ext {c : Cf} {H' : Hp} (kp : ∀ b o, c.H b = some o → H' b = some o) : c.ext { c with H := H' } := ⟨fun _ _ h => h, fun b o h l => ⟨kp b o h, l⟩, fun i b o h1 h2 h3 => ⟨kp b o h3, h2⟩⟩
theorem Cf.grow_ok {c : Cf} {H' : Hp} (k : c.ok G) (kp : ∀ b o, c.H b = some o → H' b = some o) : ({ c with H := H' } : Cf).ok G := ⟨k.len, k.nd, fun i b o h1 h2 => by
  obtain ⟨u, hu⟩ := k.there h1
  exact (k.obj i b o h1 h2).mono (Cf.grow_ext kp) (by show H' b = c.H b; rw [kp b u hu, hu])⟩
theorem zipL_ok {X : Cx} (hK : X.K = G.K) : CallS G zipL (rZipL X.K) := fun c xs ws Q E k rx h => by
  unfold zipL at h
  split at h
  · rename_i ds es
    obtain ⟨v, v', rfl, r1, r2⟩ := rwl2 rx
    obtain ⟨pa, us, rfl, h1, s1⟩ := rTup r1
    obtain ⟨pb, vs, rfl, h2, s2⟩ := rTup r2
    refine ⟨pa, pb, us, vs, rfl, by rw [hK]; exact h1, by rw [hK]; exact h2, fun H' p as kp hp has hpn atS el atP => ?_⟩
    let H0 : Hp := fun b => if b = p then none else H' b
    have kp0 : ∀ b o, c.H b = some o → H0 b = some o := fun b o e => by
      show (if b = p then none else H' b) = some o
      rw [if_neg (fun z => by rw [z, hp] at e; cases e)]; exact kp b o e
    have eH : upd H0 p (.lst (as.map V.ref)) = H' := by
      funext b
      unfold upd
      by_cases hb : b = p
      · rw [if_pos hb, hb, atS]
      · rw [if_neg hb]; show (if b = p then none else H' b) = _; rw [if_neg hb]
    have ok0 := Cf.grow_ok k kp0
    have ex0 := Cf.grow_ext kp0
    have hp0 : ({ c with H := H0 } : Cf).H p = none := if_pos rfl
    have ex1 := Cf.new_ext (o := .lst (as.map V.ref)) (ao := .lst (zipD ds es)) ok0 hp0
    have exA := ex0.trans ex1
    have items : RWL G (({ c with H := H0 } : Cf).new p (.lst (as.map V.ref)) (.lst (zipD ds es))) (as.map V.ref) (zipD ds es) := by
      have hlen : as.length = (zipD ds es).length := by rw [el, s1.length, s2.length]; simp [zipD]
      refine paired_of (by simpa using hlen) fun j x y e1 e2 => ?_
      rw [List.getElem?_map] at e1
      cases ea : as[j]? with
      | none => rw [ea] at e1; cases e1
      | some t =>
        rw [ea] at e1
        cases e1
        obtain ⟨x', y', g1, g2, g3⟩ := atP j t ea
        obtain ⟨x2, y2, dx, dy, f1, f2, f3, f4, f5⟩ := zipD_at s1 s2 (List.getElem?_eq_some_iff.mp e2).1
        rw [g1] at f1; cases f1
        rw [g2] at f2; cases f2
        rw [e2] at f5; cases f5
        have nl : ¬ (({ c with H := H0 } : Cf).new p (.lst (as.map V.ref)) (.lst (zipD ds es))).live t := fun ⟨i, hi⟩ => by
          have hi : (c.μ ++ [p])[i]? = some t := hi
          have hm : t ∈ as := List.mem_of_getElem? ea
          have := List.mem_of_getElem? hi
          rcases List.mem_append.mp this with q | q
          · obtain ⟨i', hi'⟩ := List.getElem?_of_mem q
            obtain ⟨u, hu⟩ := k.there hi'
            rw [has t hm] at hu; cases hu
          · rw [List.mem_singleton.mp q] at hm; exact hpn hm
        exact .tup nl (.inl (by show upd H0 p _ t = _; rw [eH]; exact g3)) (.cons (Rp.mono exA f3) (.cons (Rp.mono exA f4) .nil))
    have ok1 : (({ c with H := H0 } : Cf).new p (.lst (as.map V.ref)) (.lst (zipD ds es))).ok G := Cf.new_ok ok0 hp0 ⟨_, upd_same, items⟩
    have := h _ exA ok1 rfl (.ref p) ⟨p, rfl, by show (c.μ ++ [p])[c.ah.length]? = some p; rw [← k.len]; simp⟩
    rw [show (({ c with H := H0 } : Cf).new p (.lst (as.map V.ref)) (.lst (zipD ds es))).H = H' from eH] at this
    exact this
  · exact h.elim
where
  paired_of {α β : Type} {R : α → β → Prop} : ∀ {xs : List α} {ys : List β}, xs.length = ys.length → (∀ (j : Nat) (x : α) (y : β), xs[j]? = some x → ys[j]? = some y → R x y) → Paired R xs ys
    | [], [], _, _ => .nil
    | [], _ :: _, h, _ => by simp at h
    | _ :: _, [], h, _ => by simp at h
    | x :: xs, y :: ys, h, f => .cons (f 0 x y rfl rfl) (paired_of (by simpa using h) fun j a b h1 h2 => f (j + 1) a b (by simpa using h1) (by simpa using h2))
theorem se_zipL (hg : isGlob sc "list" = true) (hf : ("list" : Str) ∈ T.free) (hg2 : isGlob sc "zip" = true) (hf2 : ("zip" : Str) ∈ T.free) (ha : SA T G CM k sc [a, b] mr) (hs : noStar a = true) (hs2 : noStar b = true) : SE T G CM k sc (.Call (.Name "list" p) [.Call (.Name "zip" p2) [a, b] [] pos2] [] pos) (eFun zipL mr) := fun X Wx F => by
  refine PE.imp (pe_listZip F.calm (F.gl hg) (F.top.free _ hf) (F.gl hg2) (F.top.free _ hf2) (ha X Wx F) (noStar_each hs [b] X.env) (noStar_any (es := [b]) (by simp [hs2]) pos2 X.env)) fun σ H Q ⟨c, env, e, ok, re, q⟩ => ?_
  subst e
  exact tA.step ok re q fun ws c1 vs e1 ok1 re1 rvs q1 => zipL_ok F.K c1 vs ws Q _ ok1 rvs q1
end
end Ev
set_option Elab.async false
set_option linter.all false
set_option maxRecDepth 100000
set_option maxHeartbeats 4000000
/-! E14i: new objects that come to an end: data of them; that a value made anew may be read as data. -/
namespace Ev
open PySem PySem.Spec PyProof.Rows L2
/-- no object of it is a new one -/
def W.clos (n : Nat) : W → Prop
  | .r i => i < n
  | _ => True
def AO.clos (n : Nat) : AO → Prop
  | .lst ws => ∀ w ∈ ws, w.clos n
  | .dic kvs => ∀ p ∈ kvs, p.2.clos n
  | .ins _ fs => ∀ p ∈ fs, p.2.clos n
  | .tup ws => ∀ w ∈ ws, w.clos n
  | .dead => False
def Fine (h0 h1 : AH) : Prop := ∀ (i : Nat) (o : AO), i < h0.length → h1[i]? = some o → h0[i]? = some o ∨ o.clos h0.length
/-! ### that it is decided -/
mutual
def eqD : PyData → PyData → Bool
  | .none, .none => true
  | .bool a, .bool b => decide (a = b)
  | .int a, .int b => decide (a = b)
  | .str a, .str b => decide (a = b)
  | .list a, .list b => eqDs a b
  | .tuple a, .tuple b => eqDs a b
  | .dict a, .dict b => eqKv a b
  | _, _ => false
def eqDs : List PyData → List PyData → Bool
  | [], [] => true
  | a :: r, b :: s => eqD a b && eqDs r s
  | _, _ => false
def eqKv : List (PyData × PyData) → List (PyData × PyData) → Bool
  | [], [] => true
  | (a, c) :: r, (b, d) :: s => (eqD a b && eqD c d) && eqKv r s
  | _, _ => false
end
mutual
theorem eqD_ok : ∀ {a b : PyData}, eqD a b = true → a = b
  | a, b, h => by
    unfold eqD at h
    split at h
    · rfl
    · rw [of_decide_eq_true h]
    · rw [of_decide_eq_true h]
    · rw [of_decide_eq_true h]
    · rw [eqDs_ok h]
    · rw [eqDs_ok h]
    · rw [eqKv_ok h]
    · cases h
theorem eqDs_ok : ∀ {a b : List PyData}, eqDs a b = true → a = b
  | [], [], _ => rfl
  | [], _ :: _, h => by unfold eqDs at h; cases h
  | _ :: _, [], h => by unfold eqDs at h; cases h
  | a :: r, b :: s, h => by
    unfold eqDs at h
    obtain ⟨h1, h2⟩ := Bool.and_eq_true_iff.mp h
    rw [eqD_ok h1, eqDs_ok h2]
theorem eqKv_ok : ∀ {a b : List (PyData × PyData)}, eqKv a b = true → a = b
  | [], [], _ => rfl
  | [], _ :: _, h => by unfold eqKv at h; cases h
  | _ :: _, [], h => by unfold eqKv at h; cases h
  | (a, c) :: r, (b, d) :: s, h => by
    unfold eqKv at h
    obtain ⟨h1, h2⟩ := Bool.and_eq_true_iff.mp h
    obtain ⟨h0, h1⟩ := Bool.and_eq_true_iff.mp h1
    rw [eqD_ok h0, eqD_ok h1, eqKv_ok h2]
end
mutual
theorem eqD_rfl : ∀ a : PyData, eqD a a = true
  | .none => by simp [eqD]
  | .bool a => by simp [eqD]
  | .int a => by simp [eqD]
  | .str a => by simp [eqD]
  | .list a => by simp only [eqD]; exact eqDs_rfl a
  | .tuple a => by simp only [eqD]; exact eqDs_rfl a
  | .dict a => by simp only [eqD]; exact eqKv_rfl a
theorem eqDs_rfl : ∀ a : List PyData, eqDs a a = true
  | [] => by simp [eqDs]
  | a :: r => by simp only [eqDs, eqD_rfl a, eqDs_rfl r, Bool.and_self]
theorem eqKv_rfl : ∀ a : List (PyData × PyData), eqKv a a = true
  | [] => by simp [eqKv]
  | (a, c) :: r => by simp only [eqKv, eqD_rfl a, eqD_rfl c, eqKv_rfl r, Bool.and_self]
end
def eqW : W → W → Bool
  | .d a, .d b => eqD a b
  | .r i, .r j => decide (i = j)
  | .fn a, .fn b => decide (a = b)
  | .ex a, .ex b => decide (a = b)
  | _, _ => false
theorem eqW_ok {a b : W} (h : eqW a b = true) : a = b := by
  unfold eqW at h
  split at h
  · rw [eqD_ok h]
  · rw [of_decide_eq_true h]
  · rw [of_decide_eq_true h]
  · rw [of_decide_eq_true h]
  · cases h
theorem eqW_rfl (a : W) : eqW a a = true := by cases a <;> simp [eqW, eqD_rfl]
def eqL {α : Type} (f : α → α → Bool) : List α → List α → Bool
  | [], [] => true
  | a :: r, b :: s => f a b && eqL f r s
  | _, _ => false
theorem eqL_ok {α : Type} {f : α → α → Bool} (hf : ∀ a b, f a b = true → a = b) : ∀ {a b : List α}, eqL f a b = true → a = b
  | [], [], _ => rfl
  | [], _ :: _, h => by cases h
  | _ :: _, [], h => by cases h
  | a :: r, b :: s, h => by
    obtain ⟨h1, h2⟩ := Bool.and_eq_true_iff.mp (show (f a b && eqL f r s) = true from h)
    rw [hf a b h1, eqL_ok hf h2]
theorem eqL_rfl {α : Type} {f : α → α → Bool} (hf : ∀ a, f a a = true) : ∀ a : List α, eqL f a a = true
  | [] => rfl
  | a :: r => by show (f a a && eqL f r r) = true; rw [hf a, eqL_rfl hf r]; rfl
def eqAO : AO → AO → Bool
  | .lst a, .lst b => eqL eqW a b
  | .dic a, .dic b => eqL (fun p q => eqD p.1 q.1 && eqW p.2 q.2) a b
  | .ins c a, .ins d b => decide (c = d) && eqL (fun p q => decide (p.1 = q.1) && eqW p.2 q.2) a b
  | .tup a, .tup b => eqL eqW a b
  | .dead, .dead => true
  | _, _ => false
theorem eqAO_ok {a b : AO} (h : eqAO a b = true) : a = b := by
  unfold eqAO at h
  split at h
  · rw [eqL_ok (fun _ _ => eqW_ok) h]
  · rw [eqL_ok (fun p q h => by
      obtain ⟨h1, h2⟩ := Bool.and_eq_true_iff.mp h
      exact Prod.ext (eqD_ok h1) (eqW_ok h2)) h]
  · obtain ⟨h1, h2⟩ := Bool.and_eq_true_iff.mp h
    rw [of_decide_eq_true h1, eqL_ok (fun p q h => by
      obtain ⟨h1, h2⟩ := Bool.and_eq_true_iff.mp h
      exact Prod.ext (of_decide_eq_true h1) (eqW_ok h2)) h2]
  · rw [eqL_ok (fun _ _ => eqW_ok) h]
  · rfl
  · cases h
theorem eqAO_rfl (a : AO) : eqAO a a = true := by
  cases a with
  | lst ws => exact eqL_rfl eqW_rfl ws
  | dic ws => exact eqL_rfl (fun p => by simp [eqD_rfl, eqW_rfl]) ws
  | ins c ws => show (decide (c = c) && _) = true; rw [decide_eq_true rfl, Bool.true_and]; exact eqL_rfl (fun p => by simp [eqW_rfl]) ws
  | tup ws => exact eqL_rfl eqW_rfl ws
  | dead => rfl
def W.closB (n : Nat) : W → Bool
  | .r i => decide (i < n)
  | _ => true
theorem W.closB_iff {n : Nat} {w : W} : w.closB n = true ↔ w.clos n := by cases w <;> simp [W.closB, W.clos]
def AO.closB (n : Nat) : AO → Bool
  | .lst ws => ws.all (W.closB n)
  | .dic kvs => kvs.all fun p => p.2.closB n
  | .ins _ fs => fs.all fun p => p.2.closB n
  | .tup ws => ws.all (W.closB n)
  | .dead => false
theorem AO.closB_iff {n : Nat} {o : AO} : o.closB n = true ↔ o.clos n := by
  cases o <;> simp [AO.closB, AO.clos, W.closB_iff]
def fineGo (n : Nat) : AH → AH → Bool
  | o0 :: r0, o1 :: r1 => (eqAO o0 o1 || o1.closB n) && fineGo n r0 r1
  | _, _ => true
theorem fineGo_iff {n : Nat} : ∀ {h0 h1 : AH}, fineGo n h0 h1 = true ↔ ∀ (i : Nat) (o : AO), i < h0.length → h1[i]? = some o → h0[i]? = some o ∨ o.clos n
  | [], h1 => by simp [fineGo]
  | o0 :: r0, [] => by simp [fineGo]
  | o0 :: r0, o1 :: r1 => by
    rw [show fineGo n (o0 :: r0) (o1 :: r1) = ((eqAO o0 o1 || o1.closB n) && fineGo n r0 r1) from rfl, Bool.and_eq_true_iff, fineGo_iff, Bool.or_eq_true_iff, AO.closB_iff]
    constructor
    · intro ⟨h1, h2⟩ i o hi e
      cases i with
      | zero =>
        cases e
        rcases h1 with h1 | h1
        · left; rw [eqAO_ok h1]; rfl
        · exact .inr h1
      | succ i => exact h2 i o (by simpa using hi) (by simpa using e)
    · intro h
      refine ⟨?_, fun i o hi e => by simpa using h (i + 1) o (by simpa using hi) (by simpa using e)⟩
      rcases h 0 o1 (by simp) rfl with q | q
      · left; cases q; exact eqAO_rfl _
      · exact .inr q
def fineB (h0 h1 : AH) : Bool := fineGo h0.length h0 h1
theorem fineB_iff {h0 h1 : AH} : fineB h0 h1 = true ↔ Fine h0 h1 := fineGo_iff
def frzLw (f : W → Option PyData) : List W → Option (List PyData)
  | [] => some []
  | w :: ws => match f w, frzLw f ws with
    | some d, some ds => some (d :: ds)
    | _, _ => none
def frzDw (f : W → Option PyData) : List (PyData × W) → Option (List (PyData × PyData))
  | [] => some []
  | p :: ws => match f p.2, frzDw f ws with
    | some d, some ds => some ((p.1, d) :: ds)
    | _, _ => none
/-- a new list or dict as data -/
def frz (n : Nat) (h : AH) : Nat → W → Option PyData
  | 0, w => (match w with
    | .d x => some x
    | _ => none)
  | k + 1, w => match w with
    | .d x => some x
    | .r i => if n ≤ i then (match h[i]? with
      | some (.lst ws) => (frzLw (frz n h k) ws).map PyData.list
      | some (.dic kvs) => (frzDw (frz n h k) kvs).map PyData.dict
      | _ => none) else none
    | _ => none
abbrev frzL (n : Nat) (h : AH) (k : Nat) := frzLw (frz n h k)
abbrev frzD (n : Nat) (h : AH) (k : Nat) := frzDw (frz n h k)
def frzW (n : Nat) (h : AH) (w : W) : Option W := match w with
  | .r i => if i < n then some (.r i) else (frz n h 4 (.r i)).map W.d
  | w => some w
def outM (h0 : AH) (w : W) (h1 : AH) : R W := if fineB h0 h1 then (match frzW h0.length h1 w with
  | some w' => .ok w' (h1.take h0.length)
  | none => .ok w h1) else .ok w h1
/-! ### the state cut off -/
def Cf.cut (c : Cf) (n : Nat) : Cf := ⟨c.H, c.μ.take n, c.ah.take n⟩
theorem cut_live {c : Cf} {n : Nat} {a : Addr} (h : (c.cut n).live a) : c.live a := by
  obtain ⟨i, h⟩ := h
  have h : (c.μ.take n)[i]? = some a := h
  rw [List.getElem?_take] at h
  split at h
  · exact ⟨i, h⟩
  · cases h
theorem getE_take {α : Type} {l : List α} {n i : Nat} {x : α} : (l.take n)[i]? = some x ↔ i < n ∧ l[i]? = some x := by
  rw [List.getElem?_take]
  split
  · rename_i h; simp [h]
  · rename_i h; simp [h]
mutual
theorem Rp.cut {K : PySem.W.Frag} {c : Cf} {n : Nat} : ∀ {d : PyData} {v : V}, Rp K c v d → Rp K (c.cut n) v d
  | _, _, .non => .non
  | _, _, .bl b => .bl b
  | _, _, .int i => .int i
  | _, _, .str x => .str x
  | _, _, .lst l h r => .lst (fun q => l (cut_live q)) h (RpL.cut r)
  | _, _, .tup l h r => .tup (fun q => l (cut_live q)) h (RpL.cut r)
  | _, _, .tupK h r => .tupK h (RpL.cut r)
  | _, _, .dic l h r => .dic (fun q => l (cut_live q)) h (RpD.cut r)
theorem RpL.cut {K : PySem.W.Frag} {c : Cf} {n : Nat} : ∀ {ds : List PyData} {vs : List V}, RpL K c vs ds → RpL K (c.cut n) vs ds
  | _, _, .nil => .nil
  | _, _, .cons h r => .cons (Rp.cut h) (RpL.cut r)
theorem RpD.cut {K : PySem.W.Frag} {c : Cf} {n : Nat} : ∀ {ds : List (PyData × PyData)} {vs : List (Key × V)}, RpD K c vs ds → RpD K (c.cut n) vs ds
  | _, _, .nil => .nil
  | _, _, .cons h r => .cons (Rp.cut h) (RpD.cut r)
end
theorem RW.cut {G : GA} {c : Cf} {n : Nat} {v : V} : ∀ {w : W}, w.clos n → RW G c v w → RW G (c.cut n) v w
  | .d _, _, h => Rp.cut h
  | .r i, q, ⟨a, h1, h2⟩ => ⟨a, h1, getE_take.mpr ⟨q, h2⟩⟩
  | .fn _, _, h => h
  | .ex _, _, ⟨a, C, h1, h2, h3, h4⟩ => ⟨a, C, h1, h2, fun q => h3 (cut_live q), h4⟩
theorem Paired.cutP {α β : Type} {R R' : α → β → Prop} : ∀ {xs : List α} {ys : List β}, Paired R xs ys → (∀ x y, y ∈ ys → R x y → R' x y) → Paired R' xs ys
  | _, _, .nil, _ => .nil
  | _, _, .cons h r, f => .cons (f _ _ (List.mem_cons_self ..) h) (Paired.cutP r fun x y m => f x y (List.mem_cons_of_mem _ m))
theorem OR.cut {G : GA} {c : Cf} {n : Nat} {a : Addr} : ∀ {o : AO}, o.clos n → OR G c a o → OR G (c.cut n) a o
  | .lst _, q, ⟨xs, h1, r⟩ => ⟨xs, h1, Paired.cutP r fun x y m h => RW.cut (q y m) h⟩
  | .dic _, q, ⟨xs, h1, r⟩ => ⟨xs, h1, Paired.cutP r fun x y m h => ⟨h.1, RW.cut (q y m) h.2⟩⟩
  | .ins _ _, q, ⟨C, dx, xs, h1, h2, r⟩ => ⟨C, dx, xs, h1, h2, Paired.cutP r fun x y m h => ⟨h.1, RW.cut (q y m) h.2⟩⟩
  | .tup _, q, ⟨xs, h1, r⟩ => ⟨xs, h1, Paired.cutP r fun x y m h => RW.cut (q y m) h⟩
  | .dead, q, _ => q.elim
/-- what a state's object holds is of the state -/
theorem RW.in_ {G : GA} {c : Cf} (k : c.ok G) {v : V} : ∀ {w : W}, RW G c v w → w.clos c.ah.length
  | .d _, _ => trivial
  | .r i, ⟨a, h1, h2⟩ => by
    show i < c.ah.length
    rw [← k.len]; exact (List.getElem?_eq_some_iff.mp h2).1
  | .fn _, _ => trivial
  | .ex _, _ => trivial
theorem Paired.in_ {α β : Type} {R : α → β → Prop} {P : β → Prop} : ∀ {xs : List α} {ys : List β}, Paired R xs ys → (∀ x y, R x y → P y) → ∀ y ∈ ys, P y
  | _, _, .nil, _, y, m => by cases m
  | _, _, .cons h r, f, y, m => by
    cases m with
    | head => exact f _ _ h
    | tail _ m => exact Paired.in_ r f y m
theorem OR.in_ {G : GA} {c : Cf} (k : c.ok G) {a : Addr} : ∀ {o : AO}, OR G c a o → o = .dead ∨ o.clos c.ah.length
  | .lst _, ⟨xs, h1, r⟩ => .inr (Paired.in_ r fun x y h => RW.in_ k h)
  | .dic _, ⟨xs, h1, r⟩ => .inr (Paired.in_ r fun x y h => RW.in_ k h.2)
  | .ins _ _, ⟨C, dx, xs, h1, h2, r⟩ => .inr (Paired.in_ r fun x y h => RW.in_ k h.2)
  | .tup _, ⟨xs, h1, r⟩ => .inr (Paired.in_ r fun x y h => RW.in_ k h)
  | .dead, _ => .inl rfl
theorem cut_ok {G : GA} {c c1 : Cf} (k : c.ok G) (e : c.ext c1) (k1 : c1.ok G) (f : Fine c.ah c1.ah) : c.ext (c1.cut c.ah.length) ∧ (c1.cut c.ah.length).ok G := by
  refine ⟨⟨fun i a h => ?_, fun a o h l => ?_, fun i a o h1 h2 h3 => ?_⟩, ⟨?_, ?_, fun i a o h1 h2 => ?_⟩⟩
  · exact getE_take.mpr ⟨by rw [← k.len]; exact (List.getElem?_eq_some_iff.mp h).1, e.pre i a h⟩
  · exact ⟨(e.keep a o h l).1, fun q => (e.keep a o h l).2 (cut_live q)⟩
  · exact ⟨(e.dead i a o h1 h2 h3).1, getE_take.mpr ⟨(List.getElem?_eq_some_iff.mp h2).1, (e.dead i a o h1 h2 h3).2⟩⟩
  · show (c1.μ.take _).length = (c1.ah.take _).length
    rw [List.length_take, List.length_take, k1.len]
  · exact List.Sublist.nodup (List.take_sublist _ _) k1.nd
  · obtain ⟨hi, h1⟩ := getE_take.mp h1
    obtain ⟨_, h2⟩ := getE_take.mp h2
    have q := k1.obj i a o h1 h2
    rcases f i o hi h2 with h0 | h0
    · obtain ⟨a0, m0, o0⟩ := k.at h0
      rcases OR.in_ k o0 with rfl | hc
      · obtain ⟨u, hu⟩ := q
        exact ⟨u, hu⟩
      · exact OR.cut hc q
    · exact OR.cut h0 q
theorem frzLw_ok {G : GA} {c : Cf} {n : Nat} {f : W → Option PyData} (hf : ∀ (w : W) (d : PyData) (v : V), f w = some d → RW G c v w → Rp G.K (c.cut n) v d) : ∀ (ws : List W) (ds : List PyData) (vs : List V), frzLw f ws = some ds → RWL G c vs ws → RpL G.K (c.cut n) vs ds
  | [], ds, vs, h, r => by
    cases r
    cases h; exact .nil
  | w :: ws, ds, vs, h, r => by
    cases r with
    | cons r1 r2 =>
      unfold frzLw at h
      split at h
      · rename_i d ds' e1 e2
        cases h
        exact .cons (hf w d _ e1 r1) (frzLw_ok hf ws ds' _ e2 r2)
      · cases h
theorem frzDw_ok {G : GA} {c : Cf} {n : Nat} {f : W → Option PyData} (hf : ∀ (w : W) (d : PyData) (v : V), f w = some d → RW G c v w → Rp G.K (c.cut n) v d) : ∀ (ws : List (PyData × W)) (ds : List (PyData × PyData)) (vs : List (Key × V)), frzDw f ws = some ds → Paired (fun (p : Key × V) (q : PyData × W) => q.1 = keyD p.1 ∧ RW G c p.2 q.2) vs ws → RpD G.K (c.cut n) vs ds
  | [], ds, vs, h, r => by
    cases r
    cases h; exact .nil
  | w :: ws, ds, vs, h, r => by
    cases r with
    | @cons x y xs ys r1 r2 =>
      unfold frzDw at h
      split at h
      · rename_i d ds' e1 e2
        cases h
        obtain ⟨kk, v⟩ := x
        rw [show w.1 = keyD kk from r1.1]
        exact .cons (hf w.2 d _ e1 r1.2) (frzDw_ok hf ws ds' _ e2 r2)
      · cases h
theorem frz_ok {G : GA} {c : Cf} (ok : c.ok G) {n : Nat} : ∀ (k : Nat) (w : W) (d : PyData) (v : V), frz n c.ah k w = some d → RW G c v w → Rp G.K (c.cut n) v d
  | 0, w, d, v, h, r => by
    unfold frz at h
    split at h
    · cases h; exact Rp.cut r
    · cases h
  | k + 1, w, d, v, h, r => by
    unfold frz at h
    split at h
    · cases h; exact Rp.cut r
    · rename_i i
      obtain ⟨a, rfl, hm⟩ := r
      split at h
      · rename_i hn
        have nl : ¬ (c.cut n).live a := fun ⟨j, q⟩ => by
          obtain ⟨hj, q⟩ := getE_take.mp q
          have := ok.inj hm q
          omega
        split at h
        · rename_i ws hw
          obtain ⟨xs, h1, r1⟩ := ok.obj i a _ hm hw
          cases q : frzLw (frz n c.ah k) ws with
          | none => rw [q] at h; cases h
          | some ds =>
            rw [q] at h; cases h
            exact .lst nl (.inl h1) (frzLw_ok (frz_ok ok k) ws ds xs q r1)
        · rename_i ws hw
          obtain ⟨xs, h1, r1⟩ := ok.obj i a _ hm hw
          cases q : frzDw (frz n c.ah k) ws with
          | none => rw [q] at h; cases h
          | some ds =>
            rw [q] at h; cases h
            exact .dic nl (.inl h1) (frzDw_ok (frz_ok ok k) ws ds xs q r1)
        · cases h
      · cases h
    · cases h
theorem frzW_ok {G : GA} {c : Cf} (ok : c.ok G) {n : Nat} {w w' : W} {v : V} (h : frzW n c.ah w = some w') (r : RW G c v w) : RW G (c.cut n) v w' := by
  unfold frzW at h
  split at h
  · split at h
    · rename_i hi; cases h; exact RW.cut (w := .r _) hi r
    · rename_i i hi
      cases q : frz n c.ah 4 (.r i) with
      | none => rw [q] at h; cases h
      | some d => rw [q] at h; cases h; exact frz_ok ok 4 _ d v q r
  · cases h
    rename_i hne
    cases w with
    | r i => exact absurd rfl (hne i)
    | d x => exact RW.cut (w := .d x) trivial r
    | fn x => exact RW.cut (w := .fn x) trivial r
    | ex x => exact RW.cut (w := .ex x) trivial r
/-- what is wanted of the call is wanted of its body -/
theorem po_out {G : GA} {c c1 : Cf} {w : W} {v : V} {Q : V → Hp → Prop} {E : Str → Cf → Prop} (k : c.ok G) (e : c.ext c1) (k1 : c1.ok G) (h : Po G (outM c.ah w c1.ah) c (fun w c' => ∀ v, RW G c' v w → Q v c'.H) E) (r : RW G c1 v w) : Q v c1.H := by
  unfold outM at h
  split at h
  · rename_i hf
    split at h
    · rename_i w' hw
      obtain ⟨e2, k2⟩ := cut_ok k e k1 (fineB_iff.mp hf)
      exact h _ e2 k2 rfl v (frzW_ok k1 hw r)
    · exact h c1 e k1 rfl v r
  · exact h c1 e k1 rfl v r

/-! ### a value frozen as soon as it is made -/
def eOut (m : ME) : ME := fun env h => match m env h with
  | .ok w h1 => outM h w h1
  | r => r
theorem se_out {T : Tb} {G : GA} {CM : FId → List W → M W} {k : Nat} {sc : Sc} {e : Expr} {m : ME} (he : SE T G CM k sc e m) : SE T G CM k sc e (eOut m) := fun X Wx F => by
  refine PE.imp (he X Wx F) fun σ H Q ⟨c, env, e, ok, re, q⟩ => ⟨c, env, e, ok, re, ?_⟩
  unfold eOut at q
  cases r : m env c.ah with
  | no => rw [r] at q; exact q
  | ex x h' => rw [r] at q; exact q
  | ok w h1 =>
    rw [r] at q
    intro c1 e1 k1 q1
    subst q1
    exact fun v rv => po_out ok e1 k1 q rv
/-! ### targets with a star -/
def tgAll : List Tg → List W → EnvW → Option EnvW
  | [], [], env => some env
  | t :: ts, w :: ws, env => match tgM t w env with
    | some e => tgAll ts ws e
    | none => none
  | _, _, _ => none
def listW (h : AH) : W → Option (List W)
  | .d (.list ds) => some (ds.map .d)
  | .r i => (match h[i]? with
    | some (.lst ws) => some ws
    | _ => none)
  | _ => none
def sStar (i : Nat) (ts : List Tg) (m : ME) : MS := fun env => mbind (m env) fun w h => match listW h w with
  | some ws => if i < ts.length ∧ ts.length ≤ ws.length + 1 then (match tgAll ts (ws.take i ++ [.r h.length] ++ ws.drop (ws.length + 1 - ts.length + i)) env with
    | some e => .ok (.nx e) (h ++ [.lst ((ws.drop i).take (ws.length + 1 - ts.length))])
    | none => .no) else .no
  | none => .no
def starTgs (sc : Sc) : List Expr → Option (List Tg)
  | [] => some []
  | .Starred (.Name x p) _ :: es => (match slotS sc x, starTgs sc es with
    | some i, some ts => some (.n i :: ts)
    | _, _ => none)
  | e :: es => (match tgOf sc e, starTgs sc es with
    | some t, some ts => some (t :: ts)
    | _, _ => none)
def isStar : Expr → Bool
  | .Starred .. => true
  | _ => false
def gTgs (K : PySem.W.Frag) : List Tg → TGs
  | [] => gNil
  | t :: ts => gCons (gTg K t) (gTgs K ts)
section
variable {T : Tb} {G : GA} {CM : FId → List W → M W} {k : Nat} {sc : Sc} {X : Cx} {Wx : WX}
theorem starTgs_ok (F : Fits T G CM k X sc Wx) : ∀ {es : List Expr} {ts : List Tg}, starTgs sc es = some ts → PGs X es (gTgs X.K ts) ∧ (assignEach es X.env).length = ts.length ∧ (assignEach es X.env).findIdx? (·.1) = es.findIdx? isStar
  | [], ts, h => by
    cases h
    exact ⟨pgs_nil, rfl, rfl⟩
  | e :: es, ts, h => by
    unfold starTgs at h
    split at h
    · rename_i h0; cases h0
    · rename_i x p p2 es' h0
      cases h0
      split at h
      · rename_i i ts' h1 h2
        cases h
        obtain ⟨a1, a2, a3⟩ := starTgs_ok F h2
        refine ⟨pgs_star (pg_slot F h1) a1, by show (assignEach es X.env).length + 1 = ts'.length + 1; rw [a2], ?_⟩
        show List.findIdx? (·.1) ((true, _) :: assignEach es X.env) = _
        rw [List.findIdx?_cons, List.findIdx?_cons]
        rfl
      · cases h
    · rename_i e' es' hne h0
      cases h0
      split at h
      · rename_i t ts' h1 h2
        cases h
        obtain ⟨a1, a2, a3⟩ := starTgs_ok F h2
        have hs : isStar e = false ∧ assignEach (e :: es) X.env = (false, assign e X.env) :: assignEach es X.env := by
          cases e <;> first | exact ⟨rfl, rfl⟩ | (cases h1; done)
        refine ⟨pgs_cons (pg_tg F h1) a1 (by rw [hs.2]; rfl), by rw [hs.2]; show (assignEach es X.env).length + 1 = ts'.length + 1; rw [a2], ?_⟩
        rw [hs.2, List.findIdx?_cons, List.findIdx?_cons, hs.1, a3]

      · cases h
theorem gTgs_ok {K : PySem.W.Frag} (hK : K = G.K) {c : Cf} : ∀ {ts : List Tg} {ws : List W} {vs : List V} {env env2 : EnvW} {σ : L2.St} {Q : L2.St → Hp → Prop}, tgAll ts ws env = some env2 → EnvR G c env σ → RWL G c vs ws → (∀ σ2, EnvR G c env2 σ2 → Q σ2 c.H) → gTgs K ts vs σ c.H Q
  | [], [], _, env, env2, σ, Q, h, re, .nil, q => by
    cases h
    exact ⟨rfl, q σ re⟩
  | [], _ :: _, _, _, _, _, _, h, _, _, _ => by cases h
  | _ :: _, [], _, _, _, _, _, h, _, _, _ => by cases h
  | t :: ts, w :: ws, _, env, env2, σ, Q, h, re, .cons r1 r2, q => by
    unfold tgAll at h
    split at h
    · rename_i e he
      exact ⟨_, _, rfl, gTg_ok (c := c) hK (vs := t.slots) he re r1 (fun _ h => h) fun σ2 re2 _ => gTgs_ok hK h re2 r2 q⟩
    · cases h
theorem listW_ok {c : Cf} {w : W} {ws : List W} {v : V} (ok : c.ok G) (h : listW c.ah w = some ws) (r : RW G c v w) : ∃ a xs, v = .ref a ∧ SqL G.K c.H a xs ∧ RWL G c xs ws := by
  unfold listW at h
  split at h
  · cases h
    obtain ⟨a, xs, rfl, h1, r1⟩ := rLst r
    exact ⟨a, xs, rfl, h1, rpl_rwl r1⟩
  · split at h
    · rename_i ws' e
      cases h
      obtain ⟨a, rfl, h1, xs, hx, rx⟩ := rRef ok r e
      exact ⟨a, xs, rfl, .inl (.inl hx), rx⟩
    · cases h
  · cases h
theorem ss_star {tes : List Expr} {kk i : Nat} {ts : List Tg} {e : Expr} {ma : ME} {p pos : Pos} (ht : starTgs sc tes = some ts) (hi : tes.findIdx? isStar = some i) (he : SE T G CM k sc e ma) (hn : noTup e = true) : SS T G CM k sc (.Assign [.Tuple tes kk p] e pos) (sStar i ts ma) := fun X Ex F hp hs hfr => by
  have hne : ∀ env : Env, swappedStores [.Tuple tes kk p] e env = pure none := fun env => by
    cases e <;> first | rfl | cases hn
  obtain ⟨a1, a2, a3⟩ := starTgs_ok F ht
  refine PS.imp (ps_asg (he X _ F) (pg_star F.calm a1 a2 (a3.trans hi)) (by rw [swSole]; exact swT _ _ _ _ _ _) (hne _)) fun D σ H ⟨c, env, e, ok, re, q⟩ => ?_
  subst e
  refine tE.step ok re q fun w c1 v e1 ok1 re1 rv q1 => ?_
  split at q1
  · rename_i ws hw
    obtain ⟨a, xs, rfl, h1, r1⟩ := listW_ok ok1 hw rv
    have hl : xs.length = ws.length := Paired.length r1
    split at q1
    · rename_i hc
      split at q1
      · rename_i env2 hg
        refine ⟨a, xs, rfl, by rw [F.K]; exact h1, hc.1, by rw [hl]; exact hc.2, fun p hp0 => ?_⟩
        rw [hl]
        have rm : RWL G c1 ((xs.drop i).take (ws.length + 1 - ts.length)) ((ws.drop i).take (ws.length + 1 - ts.length)) := Paired.takeP _ (Paired.dropP _ r1)
        have ex := Cf.new_ext (o := .lst ((xs.drop i).take (ws.length + 1 - ts.length))) (ao := .lst ((ws.drop i).take (ws.length + 1 - ts.length))) ok1 hp0
        have ok2 : (c1.new p (.lst ((xs.drop i).take (ws.length + 1 - ts.length))) (.lst ((ws.drop i).take (ws.length + 1 - ts.length)))).ok G := Cf.new_ok ok1 hp0 ⟨_, upd_same, RWL.mono ex rm⟩
        have rp : RW G (c1.new p (.lst ((xs.drop i).take (ws.length + 1 - ts.length))) (.lst ((ws.drop i).take (ws.length + 1 - ts.length)))) (.ref p) (.r c1.ah.length) := ⟨p, rfl, by show (c1.μ ++ [p])[c1.ah.length]? = some p; rw [← ok1.len]; simp⟩
        refine gTgs_ok (c := c1.new p (.lst ((xs.drop i).take (ws.length + 1 - ts.length))) (.lst ((ws.drop i).take (ws.length + 1 - ts.length)))) F.K hg (re1.mono ex) (RWL.append (RWL.append (RWL.mono ex (Paired.takeP i r1)) (.cons rp .nil)) (RWL.mono ex (Paired.dropP _ r1))) fun σ2 re2 => ?_
        exact q1 _ ex ok2 rfl σ2 re2
      · exact q1.elim
    · exact q1.elim
  · exact q1.elim
/-! ### len of an own object -/
def kLen (T : Tb) (CM : FId → List W → M W) (w : W) : M W := fun h => match w with
  | .r i => (match h[i]? with
    | some (.ins c fs) => if T.meths.contains (c, "__len__") && !T.nopos.contains (c, "__len__") then (match CM (c, "__len__") [.r i] h with
      | .ok (.d (.int n)) h' => if 0 ≤ n ∧ n < 2 ^ 63 then .ok (wI n) h' else .no
      | .ex e h' => .ex e h'
      | _ => .no) else .no
    | _ => fLen [.r i] h)
  | w => fLen [w] h
def eLen (T : Tb) (CM : FId → List W → M W) (a : ME) : ME := fun env => mbind (a env) (kLen T CM)
theorem own_len {pins : List (Addr × Obj)} {σ : L2.St} {H : Hp} {s : Shared} {a C dx f : Addr} {fs : List (Str × V)} {Q : Value → Shared → Prop} (I : Inv X pins σ H s) (e : H a = some (.ins C dx fs)) (hm : Meth X.K C "__len__" f)
    (h : wpAny (model X.prog X.w) X.A.in1 (call (.ref f) [.ref a]) (PySem.W.LenBack Q) X.xe s) : wpAny (model X.prog X.w) X.A (call (.builtin "len") [.ref a]) Q X.xe s := by
  obtain ⟨mA, O, _⟩ := ins_get I.hok e
  obtain ⟨od, J, _⟩ := O.look
  refine Calls.call_function_entry kind_len plain_len entry_len (args_len1 _) ?_
  unfold Builtin.«len»
  refine wpAny_bind (m := oneArg "len" _) (wpAny_pure (wpAny_bind (m := callSpecial? (.ref a) (Str.ofString "__len__")) (PySem.W.special_fn I.kIn J hm.at_ (beq_iff_eq.mp hm.fn) (wpAny_mono h (fun r s' hr => ?_) fun _ _ y => y))))
  cases r <;> first | exact hr.elim | skip
  obtain ⟨⟨h0, h1⟩, hq⟩ := hr
  refine wpAny_bind (wpAny_holding (wpAny_pure (wpAny_bind (wpAny_letGo ?_))))
  rename_i n u
  show wpAny _ _ (if n < 0 then _ else (if n ≥ 2 ^ 63 then _ else _)) _ _ _
  rw [if_neg (by omega), if_neg (by omega)]
  exact wpAny_bind (wpAny_mkInt (wpAny_pure ⟨_, rfl, hq⟩))
/-- the def's call within the built-in function -/
theorem call_in1 {X : Cx} {Wx : WX} (F : Fits T G CM k X sc Wx) {f : FId} {fa : Addr} (hf : G.fa f = some fa) (hnp : T.nopos.contains f = false) {pins : List (Addr × Obj)} {s : Shared} {σ : L2.St} {c : Cf} {vs : List V} {ws : List W} {us : List Value} {Q : VK} (I : Inv X pins σ c.H s) (ok : c.ok G)
    (rv : RWL G c vs ws) (ru : Vals vs us) (q : Po G (CM f ws c.ah) c (VQ G Q) (fun e c' => WEx G Wx e σ c'.H)) : wpAny (model X.prog X.w) X.A.in1 (call (.ref fa) us) (EP X pins σ Q) X.xe s := by
  obtain ⟨fd, ps, hF, hb, hk, hno⟩ := F.top.fn f fa hf
  have hl : ws.length = ps.length := Classical.byContradiction fun hn => by
    rw [hno ws c.ah hn] at q
    exact q.elim
  have hlv : vs.length = ps.length := by rw [Paired.length rv]; exact hl
  have b := hb.pos hnp s us I.kIn (by rw [List.append_nil, ← ru.length]; exact hlv)
  rw [List.append_nil] at b
  refine wpAny_call (codeAny_mono (hF.run X.A.in1 X.stack s c.H ⟨us, []⟩ us vs Q (WE Wx σ) F.room.in1 I.env0.in1 b ru ⟨hlv, c, ws, rfl, ok, rv, q⟩) fun r s' hq => ?_)
  cases r with
  | error e => exact passAt F.takes σ pins c.H s e s' I hq
  | ok fl =>
    cases fl with
    | ret u => exact I.after hq
    | next => exact False.elim hq
    | brk => exact False.elim hq
    | cont => exact False.elim hq
theorem len_sem {X : Cx} {Wx : WX} (F : Fits T G CM k X sc Wx) {pins : List (Addr × Obj)} {s : Shared} {σ : L2.St} {c : Cf} {v : V} {w : W} {u : Value} {Q : VK} (I : Inv X pins σ c.H s) (ok : c.ok G) (rv : RW G c v w) (ru : RelV v u)
    (q : Po G (kLen T CM w c.ah) c (VQ G Q) (fun e c' => WEx G Wx e σ c'.H)) : wpAny (model X.prog X.w) X.A (call (.builtin "len") [u]) (EP X pins σ Q) X.xe s := by
  have plain : Po G (fLen [w] c.ah) c (VQ G Q) (fun e c' => WEx G Wx e σ c'.H) → wpAny (model X.prog X.w) X.A (call (.builtin "len") [u]) (EP X pins σ Q) X.xe s := fun q => by
    obtain ⟨r, h1, h2⟩ := len_ok (X := X) F.K
    exact h1 pins s σ c.H [v] [u] Q I (.cons ru .nil) (h2 c [v] [w] Q _ ok (.cons rv .nil) q)
  unfold kLen at q
  split at q
  · rename_i i
    split at q
    · rename_i cn fs e2
      split at q
      · rename_i hm
        obtain ⟨hm, hnp⟩ := Bool.and_eq_true_iff.mp hm
        obtain ⟨p, rfl, h1, C, dx, xs, hx, hC, r2⟩ := rRef ok rv e2
        obtain ⟨Ca, fa, h2, hfa, hM⟩ := F.top.meth cn "__len__" (by simpa using hm)
        rw [hC] at h2; cases h2
        cases ru
        refine own_len I hx hM (wpAny_mono (call_in1 F hfa ((Bool.not_eq_true' _).mp hnp) I ok (vs := [.ref p]) (ws := [.r i]) (Q := fun v' H' => ∃ n : Int, v' = .int n ∧ (0 ≤ n ∧ n < 2 ^ 63) ∧ Q (.int n) H') (.cons rv .nil) (.cons rfl .nil) ?_) (fun u' s' ⟨v', H', I', r', n, e, hn, q'⟩ => ?_) fun _ _ z => z)
        · split at q
          · rename_i n h' e
            rw [e]
            split at q
            · rename_i hn
              intro c' ex ok' e' v' rv'
              exact ⟨n, rInt rv', hn, q c' ex ok' e' _ (.int n)⟩
            · exact q.elim
          · rename_i ee h' e
            rw [e]
            exact q
          · exact q.elim
        · subst e
          obtain ⟨t, rfl⟩ := r'
          exact ⟨hn, .int n, H', I'.tok _, ⟨_, rfl⟩, q'⟩
      · exact q.elim
    · exact plain q
  · exact plain q
theorem se_len {a : Expr} {ma : ME} {p pos : Pos} (hg : isGlob sc "len" = true) (hf : ("len" : Str) ∈ T.free) (ha : SE T G CM k sc a ma) (hs : noStar a = true) : SE T G CM k sc (.Call (.Name "len" p) [a] [] pos) (eLen T CM ma) := fun X Wx F => by
  refine ⟨fun pins s σ H Q I ⟨c, env, e0, ok, re, q⟩ => ?_⟩
  subst e0
  have hA : PA X [a] (tCons (tE G Wx ma) tNil) := pa_cons (ha X Wx F) pa_nil (noStar_each hs [] X.env)
  refine wpAny_Call_Name_kw (ld_blt I (F.gl hg) (F.top.free _ hf) PySem.boot_len ?_ (glob_ok hg).2.2 (glob_ok hg).2.1)
  refine PyProof.Rows.callWith_builtin1 (thn (hA.run pos pins s σ c.H (fun vs H1 => ∃ c1 v w, vs = [v] ∧ c1.H = H1 ∧ c1.ok G ∧ RW G c1 v w ∧ Po G (kLen T CM w c1.ah) c1 (VQ G Q) (fun e c' => WEx G Wx e σ c'.H)) I (tE.step ok re q fun w c1 v e1 ok1 re1 rv q1 => ⟨c1, v, w, rfl, rfl, ok1, rv, q1⟩)) fun us s1 ⟨vs, H1, I1, r1, c1, v, w, e2, e1, ok1, rv, q1⟩ => ?_) (noStar_each hs [] X.env) rfl
  subst e1 e2
  obtain ⟨u, rfl, ru⟩ := vals1 r1
  exact len_sem F I1 ok1 rv ru q1
end
end Ev
set_option Elab.async false
set_option linter.all false
set_option maxRecDepth 100000
set_option maxHeartbeats 4000000
/-! E15: the evaluator over the syntax, and that it is sound. -/
namespace Ev
open PySem PySem.Spec PyProof.Rows L2

structure Pk where
  e : Sc → Expr → ME
  d : Sc → Expr → ME
  t : Sc → Expr → EnvW → M Bool
  s : Sc → Stmt → MS
def nope : ME := fun _ => mno
structure SPk (T : Tb) (G : GA) (CM : FId → List W → M W) (k : Nat) (P : Pk) : Prop where
  e : ∀ sc e, SE T G CM k sc e (P.e sc e)
  d : ∀ sc e, SE T G CM k sc e (P.d sc e)
  t : ∀ sc e, ST T G CM k sc e (P.t sc e)
  s : ∀ sc st, SS T G CM k sc st (P.s sc st)
section
variable (T : Tb) (CM : FId → List W → M W) (P : Pk) (sc : Sc)
def args (es : List Expr) : EnvW → M (List W) := aList (es.map (P.e sc))
def argsD (es : List Expr) : EnvW → M (List W) := aList (es.map (P.d sc))
def boolE (op : BoolOp) : List ME → ME
  | [] => nope
  | [m] => m
  | m :: ms => match op with
    | .And => eAnd m (boolE op ms)
    | .Or => eOr m (boolE op ms)
def boolT (op : BoolOp) : List (EnvW → M Bool) → EnvW → M Bool
  | [] => fun _ => mno
  | [m] => m
  | m :: ms => match op with
    | .And => tAndM m (boolT op ms)
    | .Or => tOrM m (boolT op ms)
def optE : Option Expr → EnvW → M (Option Int)
  | none => pNo
  | some e => pSome (P.e sc e)
def isiE (a b : Expr) : ME := match b with
  | .Name y _ => if isGlob sc y && noStar a then (match tyTest y, T.free.contains y with
      | some t, true => eIsi (P.e sc a) t
      | _, _ => if T.xt.contains y then eIsx T (P.e sc a) y else nope) else nope
  | _ => nope
def callB (x : Str) (es : List Expr) : ME := match es with
  | [] => nope
  | _ => (match bfun x, btyp x, bfun2 x with
    | some f, _, _ => eFun f (argsD P sc es)
    | none, some f, _ => eFun f (argsD P sc es)
    | none, none, some f => eFun f (args P sc es)
    | _, _, _ => nope)
def zipE (es : List Expr) : Option (Expr × Expr) := match es with
  | [.Call (.Name z _) [a, b] [] _] => if (z == ("zip" : Str)) && isGlob sc z && T.free.contains z && noStar a && noStar b then some (a, b) else none
  | _ => none
def callF (x : Str) (es : List Expr) : ME := if x == ("isinstance" : Str) then (match es with
        | [a, b] => isiE T P sc a b
        | _ => nope)
      else if x == ("len" : Str) then (match es with
        | [a] => eLen T CM (P.d sc a)
        | _ => nope)
      else if x == ("list" : Str) then (match zipE T sc es with
        | some (a, b) => eFun zipL (args P sc [a, b])
        | none => callB P sc x es)
      else callB P sc x es
def callName (x : Str) (es : List Expr) : ME := if !es.all noStar then nope else match slot sc x with
  | some i => (match es with
    | [] => nope
    | _ => eCallV T CM i (args P sc es))
  | none => if !isGlob sc x then nope
    else if T.defs.contains x then (if T.nopos.contains (pl x) then nope else match es with
      | [] => nope
      | _ => eCall CM (pl x) (args P sc es))
    else if T.clss.contains x then (if dflOk T (x, "__init__") (es.length + 1) then eNew CM x (dflOf T (x, "__init__") (es.length + 1)) (args P sc es) else nope)
    else if T.free.contains x then callF T CM P sc x es
    else nope
def callMeth (o : Expr) (m : Str) (apos pos : Pos) (es : List Expr) : ME := if es.all noStar && decide (es.length < 30) && okBase o && (apos.endLine == pos.line) then (if m == ("get" : Str) then (match es with
    | [e, f] => eGet (P.e sc o) (P.e sc e) (P.e sc f)
    | _ => nope) else match bmeth m es.length with
    | some (t, f) => if (m == ("append" : Str)) then eBM t f (P.e sc o) (args P sc es) else eBM t f (P.e sc o) (argsD P sc es)
    | none => eMeth T CM m (P.e sc o) (args P sc es)) else nope
def iterE (tg it : Expr) : EnvW → M Src := match it with
  | .Call (.Name x _) es [] _ => if (slot sc x).isNone && isGlob sc x && T.free.contains x then
      (if x == ("range" : Str) then (match es with
        | [a] => if noStar a then iFun rng1 (args P sc es) else fun _ => mno
        | [a, b] => if noStar a && noStar b then iFun rng2 (args P sc es) else fun _ => mno
        | _ => fun _ => mno)
      else if x == ("zip" : Str) then (match tg, es with
        | .Tuple _ _ _, [a, b] => if noStar a && noStar b then iFun zipM (args P sc es) else fun _ => mno
        | _, _ => fun _ => mno)
      else iVal (P.d sc it)) else iVal (P.d sc it)
  | _ => iVal (P.d sc it)
def lcE (elt : Expr) (gens : List Comprehension) (scope : Scope) : ME := match gens with
  | [⟨tg, it, ifs, asy⟩] => if asy = 0 ∧ noSetE it = true then (match lcT sc scope tg, ifs with
    | some t, [] => eLC t (iterE T P sc tg it) tTrue (P.e (blkSc sc scope) elt)
    | some t, [c] => eLC t (iterE T P sc tg it) (P.t (blkSc sc scope) c) (P.e (blkSc sc scope) elt)
    | _, _ => nope) else nope
  | _ => nope
def stepE (ex : Expr) : ME := match ex with
  | .Name x _ => evName T sc x
  | .Constant c _ _ => evConst c
  | .BinOp a op b _ => eBin op (P.e sc a) (P.e sc b)
  | .UnaryOp op a _ => (match op with
    | .Not => eNot (P.e sc a)
    | .USub => eNeg (P.e sc a)
    | _ => nope)
  | .BoolOp op es _ => boolE op (es.map (P.e sc))
  | .Compare a ops cs _ => (match ops, cs with
    | [op], [b] => if noSet b then eCmp op (P.d sc a) (P.d sc b) else nope
    | [op, op'], [b, c] => if noSet c then eCmp2 op op' (P.d sc a) (P.d sc b) (P.d sc c) else nope
    | _, _ => nope)
  | .IfExp c a b _ => eIf (P.t sc c) (P.e sc a) (P.e sc b)
  | .Tuple es _ _ => if es.all noStar then eTup (aList (es.map (P.d sc))) else nope
  | .List es _ => if es.all noStar then eLst (aList (es.map (P.d sc))) else nope
  | .Subscript a b _ => (match b with
    | .Slice lo hi st _ => (match st with
      | none => eSl (P.e sc a) (optE P sc lo) (optE P sc hi)
      | _ => nope)
    | b => eIx (P.e sc a) (P.e sc b))
  | .JoinedStr es _ => (match es with
    | v1 :: v2 :: r => joinM ((v1 :: v2 :: r).map (P.e sc)) Str.empty
    | _ => nope)
  | .FormattedValue a cv fs _ => (match fs with
    | none => if cv = -1 then eFmt (P.e sc a) else nope
    | _ => nope)
  | .Attribute o f _ => if okBase o && T.flds.contains f then eFld (P.e sc o) f else nope
  | .Call f es kws pos => (match f, kws with
    | .Name x _, [] => callName T CM P sc x es
    | .Attribute o m apos, [] => callMeth T CM P sc o m apos pos es
    | _, _ => nope)
  | .ListComp elt gens scope _ => lcE T P sc elt gens scope
  | .Dict ks vs _ => (match ks, vs with
    | [], [] => eDict0
    | _, _ => nope)
  | _ => nope
def stepD (ex : Expr) : ME := match ex with
  | .List es _ => if es.all noStar then eLstD (aList (es.map (P.d sc))) else nope
  | .ListComp elt gens scope _ => eOut (lcE T P sc elt gens scope)
  | ex => stepE T CM P sc ex
def stepT (ex : Expr) : EnvW → M Bool := match ex with
  | .UnaryOp op a _ => (match op with
    | .Not => tNotM (P.t sc a)
    | _ => fun _ => mno)
  | .BoolOp op es _ => boolT op (es.map (P.t sc))
  | .IfExp _ _ _ _ => fun _ => mno
  | ex => tst (stepE T CM P sc ex)
def swapOk (a b : Expr) (px py : Pos) (x y : Str) : Bool := (py.line == px.line) && !(x == y) && !(foldedForSure 8 a && foldedForSure 8 b) && !(constantsAlone 8 a && constantsAlone 8 b) && noStar a && noStar b
def blk (sts : List Stmt) : MS := sBlock (sts.map (P.s sc))
def assignE (tg e : Expr) : MS := match tg with
  | .Name x px => (match e with
    | .ListComp elt gens scope lpos => (match sc.scope.names.lookup x, sc.N.idxOf? x, sc.scope.kind with
      | some .local, some i, .function => if (px.line == lpos.line) && !(scope.names.any fun (n, k) => n == x && (k == .local || k == .cell)) then sSet i (lcE T P sc elt gens scope) else fun _ => mno
      | _, _, _ => fun _ => mno)
    | e => if noComp e then (match slotS sc x with
      | some i => sSet i (P.e sc e)
      | none => fun _ => mno) else fun _ => mno)
  | .Attribute o f _ => if T.flds.contains f then sFldW f (P.e sc o) (P.e sc e) else fun _ => mno
  | .Subscript o i _ => if plainIx i then sIxW (P.e sc o) (P.e sc i) (P.e sc e) else fun _ => mno
  | .Tuple tes kk p => if noTup e then (match tgOf sc (.Tuple tes kk p) with
      | some t => sTgW t (P.e sc e)
      | none => (match starTgs sc tes, tes.findIdx? isStar with
        | some ts, some i => sStar i ts (P.e sc e)
        | _, _ => fun _ => mno))
    else (match tes, e with
      | [.Name x px, .Name y py], .Tuple [a, b] _ _ => (match sc.scope.kind, sc.scope.names.lookup x, sc.scope.names.lookup y, sc.N.idxOf? x, sc.N.idxOf? y with
        | .function, some .local, some .local, some i, some j => if decide (i ≠ j) && swapOk a b px py x y then sPar i j (P.e sc a) (P.e sc b) else fun _ => mno
        | _, _, _, _, _ => fun _ => mno)
      | _, _ => fun _ => mno)
  | _ => fun _ => mno
def tryE (body : List Stmt) (hs : List ExceptHandler) : MS := match body, hs with
  | [.Assign [.Name f _] e _], [.ExceptHandler (some (.Name x _)) (some n) [.Assign [.Name g _] (.Name n' _) _] _] =>
    (match slotS sc f, slotS sc g, sc.scope.names.lookup n, sc.N.idxOf? n with
      | some i, some j, some .local, some m => if n = n' ∧ (n == ("__debug__" : Str)) = false ∧ (n == ("__classdict__" : Str)) = false ∧ isGlob sc x = true ∧ T.excs.contains x = true ∧ noComp e = true ∧ m ≠ j then sTry (fun c => T.catches c x) i j m (P.e sc e) else fun _ => mno
      | _, _, _, _ => fun _ => mno)
  | _, _ => fun _ => mno
def raiseE (e : Expr) : MS := match e with
  | .Call (.Name x _) [.Constant (.str _) _ _] [] _ => if isGlob sc x && T.excs.contains x then sRaise x else fun _ => mno
  | _ => fun _ => mno
def stepS (st : Stmt) : MS := match st with
  | .Expr e _ => if noComp e then sExpr (P.e sc e) else fun _ => mno
  | .Return v _ => (match v with
    | some e => sRet (P.e sc e)
    | none => sRetN)
  | .Pass _ => sNil
  | .Break _ => sBreak
  | .Continue _ => sCont
  | .If c a b _ => sIf (P.t sc c) (blk P sc a) (blk P sc b)
  | .While c b o _ => (match o with
    | [] => sWhile (P.t sc c) (blk P sc b)
    | _ => fun _ => mno)
  | .For tg it b o _ => (match o, tgOf sc tg with
    | [], some t => if noSetE it then sFor t (iterE T P sc tg it) (blk P sc b) else fun _ => mno
    | _, _ => fun _ => mno)
  | .Assign tgs e _ => (match tgs with
    | [tg] => assignE T P sc tg e
    | _ => fun _ => mno)
  | .AugAssign tg op e _ => (match tg, op with
    | .Name x _, .Add => (match slotS sc x with
      | some i => sAug i (P.e sc e)
      | none => fun _ => mno)
    | .Attribute o f _, .Add => if T.flds.contains f then sFldAugW f (P.e sc o) (P.e sc e) else fun _ => mno
    | _, _ => fun _ => mno)
  | .Raise e c _ => (match e, c with
    | some e, none => raiseE T sc e
    | _, _ => fun _ => mno)
  | .Try b hs o f _ => (match o, f with
    | [], [] => tryE T P sc b hs
    | _, _ => fun _ => mno)
  | _ => fun _ => mno
end
def step (T : Tb) (CM : FId → List W → M W) (P : Pk) : Pk := ⟨stepE T CM P, stepD T CM P, stepT T CM P, stepS T P⟩
def ev (T : Tb) (CM : FId → List W → M W) : Nat → Pk
  | 0 => ⟨fun _ _ => nope, fun _ _ => nope, fun _ _ _ => mno, fun _ _ _ => mno⟩
  | n + 1 => step T CM (ev T CM n)

/-! ### sound -/
section
variable {T : Tb} {G : GA} {CM : FId → List W → M W} {k : Nat} {P : Pk} (S : SPk T G CM k P)
theorem sa_args {sc : Sc} (S : SPk T G CM k P) {es : List Expr} (h : es.all noStar = true) : SA T G CM k sc es (args P sc es) := sa_list (fun e => S.e sc e) h
theorem sa_argsD {sc : Sc} (S : SPk T G CM k P) {es : List Expr} (h : es.all noStar = true) : SA T G CM k sc es (argsD P sc es) := sa_list (fun e => S.d sc e) h
theorem nope_ok {sc : Sc} {e : Expr} : SE T G CM k sc e nope := se_no
theorem boolE_ok {sc : Sc} {op : BoolOp} {pos : Pos} (S : SPk T G CM k P) : ∀ es : List Expr, SE T G CM k sc (.BoolOp op es pos) (boolE op (es.map (P.e sc)))
  | [] => nope_ok
  | [a] => se_one (S.e sc a)
  | a :: b :: r => by
    cases op with
    | And => exact se_and (S.e sc a) (boolE_ok S (b :: r))
    | Or => exact se_or (S.e sc a) (boolE_ok S (b :: r))
theorem boolT_ok {sc : Sc} {pos : Pos} (S : SPk T G CM k P) {op : BoolOp} : ∀ es : List Expr, SW T G CM k sc (.BoolOp op es pos) (boolT op (es.map (P.t sc)))
  | [] => fun X Wx F => ⟨fun wh p s σ H Q I ⟨c, env, _, _, _, h⟩ => h.elim⟩
  | [a] => by
    cases op with
    | And => exact sw_and1 (S.t sc a)
    | Or => exact sw_or1 (S.t sc a)
  | a :: b :: r => by
    cases op with
    | And => exact sw_and (S.t sc a) (boolT_ok S (b :: r))
    | Or => exact sw_or (S.t sc a) (boolT_ok S (b :: r))
theorem optE_ok {sc : Sc} (S : SPk T G CM k P) (o : Option Expr) : SO T G CM k sc o (optE P sc o) := by
  cases o with
  | none => exact so_none
  | some e => exact so_some (S.e sc e)
theorem isiE_ok {sc : Sc} {p pos : Pos} (S : SPk T G CM k P) (hg : isGlob sc "isinstance" = true) (hf : ("isinstance" : Str) ∈ T.free) (a b : Expr) : SE T G CM k sc (.Call (.Name "isinstance" p) [a, b] [] pos) (isiE T P sc a b) := by
  unfold isiE
  split
  · rename_i y p2
    split
    · rename_i hc
      obtain ⟨h1, h2⟩ := Bool.and_eq_true_iff.mp hc
      split
      · rename_i t e1 e2
        exact se_isi hg hf h1 (by simpa using e2) e1 (S.e sc a) h2
      · split
        · rename_i hx
          exact se_isx hg hf h1 (by simpa using hx) (S.e sc a) h2
        · exact nope_ok
    · exact nope_ok
  · exact nope_ok
theorem callB_ok {sc : Sc} {p pos : Pos} (S : SPk T G CM k P) {x : Str} {es : List Expr} (hs : es.all noStar = true) (hg : isGlob sc x = true) (hf : x ∈ T.free) : SE T G CM k sc (.Call (.Name x p) es [] pos) (callB P sc x es) := by
  cases es with
  | nil => exact nope_ok
  | cons e es =>
    show SE T G CM k sc _ (match bfun x, btyp x, bfun2 x with
      | some f, _, _ => eFun f (argsD P sc (e :: es))
      | none, some f, _ => eFun f (argsD P sc (e :: es))
      | none, none, some f => eFun f (args P sc (e :: es))
      | _, _, _ => nope)
    split
    · rename_i f _ _ hb
      exact se_bfun hg hf hb (sa_argsD S hs) hs
    · rename_i f _ hb1 hb
      exact se_btyp hg hf hb (sa_argsD S hs) hs
    · rename_i f hb1 hb2 hb
      exact se_bfun2 hg hf hb (sa_args S hs) hs
    · exact nope_ok
theorem callF_ok {sc : Sc} {p pos : Pos} (S : SPk T G CM k P) {x : Str} {es : List Expr} (hs : es.all noStar = true) (hg : isGlob sc x = true) (hf : x ∈ T.free) : SE T G CM k sc (.Call (.Name x p) es [] pos) (callF T CM P sc x es) := by
  unfold callF
  split
  · rename_i hx
    have hx : x = "isinstance" := eq_of_beq hx
    subst hx
    split
    · exact isiE_ok S hg hf _ _
    · exact nope_ok
  · split
    · rename_i hx
      have hx : x = "len" := eq_of_beq hx
      subst hx
      split
      · exact se_len hg hf (S.d sc _) (by simpa using hs)
      · exact nope_ok
    · split
      · rename_i hx
        have hx : x = "list" := eq_of_beq hx
        subst hx
        split
        · rename_i a b hz
          unfold zipE at hz
          split at hz
          · split at hz
            · rename_i hc
              cases hz
              simp only [Bool.and_eq_true] at hc
              obtain ⟨⟨⟨⟨c1, c2⟩, c3⟩, c4⟩, c5⟩ := hc
              have c1 := eq_of_beq c1
              subst c1
              exact se_zipL hg hf c2 (by simpa using c3) (sa_args S (by simp [c4, c5])) c4 c5
            · cases hz
          · cases hz
        · exact callB_ok S hs hg hf
      · exact callB_ok S hs hg hf
theorem callName_ok {sc : Sc} {p pos : Pos} (S : SPk T G CM k P) (x : Str) (es : List Expr) : SE T G CM k sc (.Call (.Name x p) es [] pos) (callName T CM P sc x es) := by
  unfold callName
  split
  · exact nope_ok
  · rename_i hs
    have hs : es.all noStar = true := by simpa using hs
    split
    · rename_i i hi
      cases es with
      | nil => exact nope_ok
      | cons e es => exact se_callV hi (sa_args S hs) hs
    · split
      · exact nope_ok
      · rename_i hg
        have hg : isGlob sc x = true := by simpa using hg
        split
        · rename_i hd
          split
          · exact nope_ok
          · rename_i hnp
            cases es with
            | nil => exact nope_ok
            | cons e es => exact se_call hg (by simpa using hd) (by simpa using hnp) (sa_args S hs) hs
        · split
          · rename_i hc
            split
            · rename_i hdf
              cases es with
              | nil => exact se_new0 hdf hg (by simpa using hc)
              | cons e es => exact se_new hdf hg (by simpa using hc) (sa_args S hs) hs
            · exact nope_ok
          · split
            · rename_i hf
              exact callF_ok S hs hg (by simpa using hf)
            · exact nope_ok
theorem callMeth_ok {sc : Sc} {apos pos : Pos} (S : SPk T G CM k P) (o : Expr) (m : Str) (es : List Expr) : SE T G CM k sc (.Call (.Attribute o m apos) es [] pos) (callMeth T CM P sc o m apos pos es) := by
  unfold callMeth
  split
  · rename_i hc
    simp only [Bool.and_eq_true, decide_eq_true_eq] at hc
    obtain ⟨⟨⟨hs, hl⟩, hb⟩, hline⟩ := hc
    split
    · rename_i hg
      have hg : m = "get" := eq_of_beq hg
      subst hg
      split
      · rename_i e f
        have h2 : noStar e = true ∧ noStar f = true := by simpa using hs
        exact se_get hb hline (S.e sc o) (S.e sc e) (S.e sc f) h2.1 h2.2
      · exact nope_ok
    split
    · rename_i t f hm
      split
      · cases es with
        | nil => exact se_bm0 hm hb hline (S.e sc o)
        | cons e es => exact se_bm hm hb hline (S.e sc o) (sa_args S hs) hs hl
      · cases es with
        | nil => exact se_bm0 hm hb hline (S.e sc o)
        | cons e es => exact se_bm hm hb hline (S.e sc o) (sa_argsD S hs) hs hl
    · cases es with
      | nil => exact se_meth0 hb hline (S.e sc o)
      | cons e es => exact se_meth hb hline (S.e sc o) (sa_args S hs) hs hl
  · exact nope_ok
theorem si_no {sc : Sc} {tg it : Expr} : SI T G CM k sc tg it (fun _ => mno) := fun X Wx F => ⟨fun p s σ H R I ⟨c, env, _, _, _, h⟩ => h.elim⟩
theorem iterE_ok {sc : Sc} (S : SPk T G CM k P) (tg it : Expr) : SI T G CM k sc tg it (iterE T P sc tg it) := by
  unfold iterE
  split
  · rename_i x p es pos
    split
    · rename_i hc
      simp only [Bool.and_eq_true] at hc
      obtain ⟨⟨_, hg⟩, hf⟩ := hc
      have hf : x ∈ T.free := by simpa using hf
      split
      · rename_i hx
        have hx : x = "range" := eq_of_beq hx
        subst hx
        split
        · rename_i a
          split
          · rename_i hs
            exact si_range1 hg hf (sa_args S (by simp [hs])) hs
          · exact si_no
        · rename_i a b
          split
          · rename_i hs
            obtain ⟨h1, h2⟩ := Bool.and_eq_true_iff.mp hs
            exact si_range2 hg hf (sa_args S (by simp [h1, h2])) h1 h2
          · exact si_no
        · exact si_no
      · split
        · rename_i hx
          have hx : x = "zip" := eq_of_beq hx
          subst hx
          split
          · rename_i a b
            split
            · rename_i hs
              obtain ⟨h1, h2⟩ := Bool.and_eq_true_iff.mp hs
              exact si_zip hg hf (sa_args S (by simp [h1, h2])) h1 h2
            · exact si_no
          · exact si_no
        · exact si_val (S.d sc _)
    · exact si_val (S.d sc _)
  · exact si_val (S.d sc _)
theorem lcE_ok {sc : Sc} {pos : Pos} (S : SPk T G CM k P) (elt : Expr) (gens : List Comprehension) (scope : Scope) : SE T G CM k sc (.ListComp elt gens scope pos) (lcE T P sc elt gens scope) := by
  unfold lcE
  split
  · rename_i tg it ifs asy
    split
    · rename_i hc
      obtain ⟨rfl, hn⟩ := hc
      split
      · rename_i t ht
        exact se_lc ht (iterE_ok S tg it) hn st0_nil (S.e _ elt)
      · rename_i t c ht
        exact se_lc ht (iterE_ok S tg it) hn (st0_one (S.t _ c)) (S.e _ elt)
      · exact nope_ok
    · exact nope_ok
  · exact nope_ok
theorem stepE_ok {sc : Sc} (S : SPk T G CM k P) (e : Expr) : SE T G CM k sc e (stepE T CM P sc e) := by
  cases e with
  | Name x p => exact se_name
  | Constant c j p => exact se_const
  | BinOp a op b p => exact se_bin (S.e sc a) (S.e sc b)
  | UnaryOp op a p =>
    cases op with
    | Not => exact se_not (S.e sc a)
    | USub => exact se_neg (S.e sc a)
    | _ => exact nope_ok
  | BoolOp op es p => exact boolE_ok S es
  | Compare a ops cs p =>
    show SE T G CM k sc _ (match ops, cs with
      | [op], [b] => if noSet b then eCmp op (P.d sc a) (P.d sc b) else nope
      | [op, op'], [b, c] => if noSet c then eCmp2 op op' (P.d sc a) (P.d sc b) (P.d sc c) else nope
      | _, _ => nope)
    split
    · split
      · rename_i hn; exact se_cmp (S.d sc _) (S.d sc _) hn
      · exact nope_ok
    · split
      · rename_i hn; exact se_cmp2 (S.d sc _) (S.d sc _) (S.d sc _) hn
      · exact nope_ok
    · exact nope_ok
  | IfExp c a b p => exact se_if (S.t sc c) (S.e sc a) (S.e sc b)
  | Tuple es j p =>
    show SE T G CM k sc _ (if es.all noStar then eTup (aList (es.map (P.d sc))) else nope)
    split
    · rename_i h; exact se_tup (sa_list (fun e => S.d sc e) h)
    · exact nope_ok
  | List es p =>
    show SE T G CM k sc _ (if es.all noStar then eLst (aList (es.map (P.d sc))) else nope)
    split
    · rename_i h; exact se_lst (sa_list (fun e => S.d sc e) h)
    · exact nope_ok
  | Subscript a b p =>
    cases b with
    | Slice lo hi st p2 =>
      cases st with
      | none => exact se_slice (S.e sc a) (optE_ok S lo) (optE_ok S hi)
      | some e => exact nope_ok
    | _ => exact se_ix (S.e sc a) (S.e sc _) rfl
  | JoinedStr es p =>
    match es with
    | [] => exact nope_ok
    | [_] => exact nope_ok
    | v1 :: v2 :: r => exact se_join (fun e => S.e sc e)
  | FormattedValue a cv fs p =>
    cases fs with
    | some e => exact nope_ok
    | none =>
      show SE T G CM k sc _ (if cv = -1 then eFmt (P.e sc a) else nope)
      split
      · rename_i h; subst h; exact se_fmt (S.e sc a)
      · exact nope_ok
  | Attribute o f p =>
    show SE T G CM k sc _ (if okBase o && T.flds.contains f then eFld (P.e sc o) f else nope)
    split
    · rename_i h
      obtain ⟨h1, h2⟩ := Bool.and_eq_true_iff.mp h
      exact se_fld h1 (by simpa using h2) (S.e sc o)
    · exact nope_ok
  | Call f es kws pos =>
    cases kws with
    | cons _ _ => cases f <;> exact nope_ok
    | nil =>
      cases f with
      | Name x p => exact callName_ok S x es
      | Attribute o m apos => exact callMeth_ok S o m es
      | _ => exact nope_ok
  | ListComp elt gens scope p => exact lcE_ok S elt gens scope
  | Dict ks vs p =>
    match ks, vs with
    | [], [] => exact se_dict0
    | [], _ :: _ => exact nope_ok
    | _ :: _, _ => exact nope_ok
  | _ => exact nope_ok
theorem stepD_ok {sc : Sc} (S : SPk T G CM k P) (e : Expr) : SE T G CM k sc e (stepD T CM P sc e) := by
  unfold stepD
  split
  · split
    · rename_i h; exact se_lstD (sa_list (fun e => S.d sc e) h)
    · exact nope_ok
  · exact se_out (lcE_ok S _ _ _)
  · exact stepE_ok S _
theorem stepT_ok {sc : Sc} (S : SPk T G CM k P) (e : Expr) : ST T G CM k sc e (stepT T CM P sc e) := by
  cases e with
  | UnaryOp op a p =>
    cases op with
    | Not => exact st_not (S.t sc a)
    | _ => exact st_no
  | BoolOp op es p => exact st_w (boolT_ok S es)
  | IfExp c a b p => exact st_no
  | Compare a ops cs p =>
    show ST T G CM k sc _ (tst (match ops, cs with
      | [op], [b] => if noSet b then eCmp op (P.d sc a) (P.d sc b) else nope
      | [op, op'], [b, c] => if noSet c then eCmp2 op op' (P.d sc a) (P.d sc b) (P.d sc c) else nope
      | _, _ => nope))
    have no : ∀ {e : Expr}, ST T G CM k sc e (tst nope) := fun {e} X Wx F => ⟨fun p s σ H Q I ⟨c, env, _, _, _, h⟩ => h.elim⟩
    split
    · split
      · rename_i hn; exact st_cmp (S.d sc _) (S.d sc _) hn
      · exact no
    · split
      · rename_i hn; exact st_cmp2 (S.d sc _) (S.d sc _) (S.d sc _) hn
      · exact no
    · exact no
  | _ => exact st_val (stepE_ok S _) (fun _ _ => rfl)
theorem blk_ok {sc : Sc} (S : SPk T G CM k P) (sts : List Stmt) : SSs T G CM k sc sts (blk P sc sts) := sss_list (fun s => S.s sc s) sts
theorem swap_ok {sc : Sc} {a b : Expr} {px py pt pt2 : Pos} {x y : Str} {kt k2 : Nat} (h : swapOk a b px py x y = true) (hk : sc.scope.kind = .function) (hx : sc.scope.names.lookup x = some .local) (hy : sc.scope.names.lookup y = some .local) (env : Env) (he : env.scope = sc.scope) :
    swappedStores [.Tuple [.Name x px, .Name y py] kt pt] (.Tuple [a, b] k2 pt2) env = pure (some [x, y]) := by
  unfold swapOk at h
  simp only [Bool.and_eq_true] at h
  obtain ⟨⟨⟨⟨⟨h1, h2⟩, h3⟩, h4⟩, h5⟩, h6⟩ := h
  have hbk : (env.blockKind != ScopeKind.function) = false := by
    unfold Env.blockKind; rw [he, hk]; rfl
  have hkx : (env.kindOf x == some .local) = true := by
    show (env.scope.names.lookup x == some .local) = true
    rw [he, hx]; rfl
  have hky : (env.kindOf y == some .local) = true := by
    show (env.scope.names.lookup y == some .local) = true
    rw [he, hy]; rfl
  have hst : ([a, b].any fun | .Starred .. => true | _ => false) = false := by
    have one : ∀ e : Expr, noStar e = true → (match e with | .Starred .. => true | _ => false) = false := fun e h => by
      cases e <;> first | rfl | exact Bool.noConfusion (show false = true from h)
    rw [List.any_cons, List.any_cons, List.any_nil]
    have q1 := one a h5
    have q2 := one b h6
    exact (by rw [Bool.or_false]; exact (Bool.or_eq_false_iff.mpr ⟨q1, q2⟩))
  have hxy : ([x, y].eraseDups.length != [x, y].length) = false := by
    have : (x == y) = false := by simpa using h2
    have hyx : (y == x) = false := by
      rw [Bool.eq_false_iff] at this ⊢
      intro q; exact this (by rw [eq_of_beq q]; exact beq_self_eq_true x)
    simp [List.eraseDups_cons, hyx]
  unfold swappedStores
  simp only [List.length_cons, List.length_nil, hbk, hst, Expr.pos, List.head?, Option.map, Option.getD, hkx, hky, List.filterMap, h1, beq_self_eq_true, Bool.and_true, if_true, hxy]
  have e1 : ([a, b].all (foldedForSure 8)) = false := by rw [List.all_cons, List.all_cons, List.all_nil, Bool.and_true]; exact (Bool.not_eq_true' _).mp h3
  have e2 : ([a, b].all (constantsAlone 8)) = false := by rw [List.all_cons, List.all_cons, List.all_nil, Bool.and_true]; exact (Bool.not_eq_true' _).mp h4
  have hlen : [x, y].eraseDups.length = 2 := by simpa using hxy
  have one : ∀ e : Expr, noStar e = true → (match e with | .Starred .. => true | _ => false) = false := fun e h => by
    cases e <;> first | rfl | exact Bool.noConfusion (show false = true from h)
  have q1 := one a h5
  have q2 := one b h6
  simp [e1, e2]
  rw [if_neg (fun q => q.elim (fun q => Bool.noConfusion (q1.symm.trans q)) fun q => Bool.noConfusion (q2.symm.trans q)), if_pos hlen]
theorem ss_nope {sc : Sc} {st : Stmt} {i : Nat} : SS T G CM k sc st (sSet i nope) := fun X Ex F hp hs hf => ⟨fun p s σ H D I ⟨c, env, _, _, _, h⟩ => h.elim⟩
theorem assignE_ok {sc : Sc} {pos : Pos} (S : SPk T G CM k P) (tg e : Expr) : SS T G CM k sc (.Assign [tg] e pos) (assignE T P sc tg e) := by
  unfold assignE
  split
  · rename_i x px
    split
    · rename_i elt gens scope lpos
      split
      · rename_i i h1 h2 h3
        split
        · rename_i hc
          obtain ⟨g1, g2⟩ := Bool.and_eq_true_iff.mp hc
          unfold lcE
          split
          · rename_i tg it ifs asy
            split
            · rename_i hc2
              obtain ⟨rfl, hn⟩ := hc2
              split
              · rename_i t ht
                exact ss_setLc h1 h2 h3 g1 (by simpa using g2) ht (iterE_ok S tg it) hn st0_nil (S.e _ elt)
              · rename_i t c ht
                exact ss_setLc h1 h2 h3 g1 (by simpa using g2) ht (iterE_ok S tg it) hn (st0_one (S.t _ c)) (S.e _ elt)
              · exact ss_nope
            · exact ss_nope
          · exact ss_nope
        · exact ss_no
      · exact ss_no
    · split
      · rename_i hn
        split
        · rename_i i hi; exact ss_set hi (S.e sc _) hn
        · exact ss_no
      · exact ss_no
  · split
    · rename_i hf; exact ss_fld (by simpa using hf) (S.e sc _) (S.e sc _)
    · exact ss_no
  · split
    · rename_i hp; exact ss_ix hp (S.e sc _) (S.e sc _) (S.e sc _)
    · exact ss_no
  · split
    · rename_i hn
      split
      · rename_i t ht; exact ss_tup ht (S.e sc _) hn
      · split
        · rename_i ts i h1 h2; exact ss_star h1 h2 (S.e sc _) hn
        · exact ss_no
    · split
      · split
        · rename_i i j hk hx hy hi hj
          split
          · rename_i hc
            obtain ⟨c1, c2⟩ := Bool.and_eq_true_iff.mp hc
            have hs := c2
            unfold swapOk at hs
            simp only [Bool.and_eq_true] at hs
            exact ss_par hk hx hy hi hj (by simpa using c1) (S.e sc _) (S.e sc _) hs.1.2 hs.2 (swap_ok c2 hk hx hy)
          · exact ss_no
        · exact ss_no
      · exact ss_no
  · exact ss_no
theorem tryE_ok {sc : Sc} {pos : Pos} (S : SPk T G CM k P) (body : List Stmt) (hs : List ExceptHandler) : SS T G CM k sc (.Try body hs [] [] pos) (tryE T P sc body hs) := by
  unfold tryE
  split
  · split
    · rename_i i j m h1 h2 h3 h4
      split
      · rename_i hc
        obtain ⟨rfl, g1, g2, g3, g4, g5, g6⟩ := hc
        exact ss_try h1 h2 h3 h4 g1 g2 g3 (by simpa using g4) (S.e sc _) g5 g6
      · exact ss_no
    · exact ss_no
  · exact ss_no
theorem raiseE_ok {sc : Sc} {pos : Pos} (e : Expr) : SS T G CM k sc (.Raise (some e) none pos) (raiseE T sc e) := by
  unfold raiseE
  split
  · split
    · rename_i hc
      obtain ⟨h1, h2⟩ := Bool.and_eq_true_iff.mp hc
      exact ss_raise' h1 (by simpa using h2)
    · exact ss_no
  · exact ss_no
theorem stepS_ok {sc : Sc} (S : SPk T G CM k P) (st : Stmt) : SS T G CM k sc st (stepS T P sc st) := by
  unfold stepS
  split
  · split
    · rename_i h; exact ss_expr (S.e sc _) h
    · exact ss_no
  · split
    · exact ss_ret (S.e sc _)
    · exact ss_retN
  · exact ss_pass
  · exact ss_break
  · exact ss_cont
  · exact ss_if (S.t sc _) (blk_ok S _) (blk_ok S _)
  · split
    · exact ss_while (S.t sc _) (blk_ok S _)
    · exact ss_no
  · split
    · rename_i t ht
      split
      · rename_i hn; exact ss_for ht (iterE_ok S _ _) (blk_ok S _) hn
      · exact ss_no
    · exact ss_no
  · split
    · exact assignE_ok S _ _
    · exact ss_no
  · split
    · split
      · rename_i i hi; exact ss_aug hi (S.e sc _)
      · exact ss_no
    · split
      · rename_i hf; exact ss_fldaug (by simpa using hf) (S.e sc _) (S.e sc _)
      · exact ss_no
    · exact ss_no
  · split
    · exact raiseE_ok _
    · exact ss_no
  · split
    · exact tryE_ok S _ _
    · exact ss_no
  · exact ss_no
theorem step_ok (S : SPk T G CM k P) : SPk T G CM k (step T CM P) := ⟨fun _ e => stepE_ok S e, fun _ e => stepD_ok S e, fun _ e => stepT_ok S e, fun _ s => stepS_ok S s⟩
theorem ev_ok : ∀ n, SPk T G CM k (ev T CM n)
  | 0 => ⟨fun _ _ => nope_ok, fun _ _ => nope_ok, fun _ _ => st_no, fun _ _ => ss_no⟩
  | n + 1 => step_ok (ev_ok n)
end
end Ev
set_option Elab.async false
set_option linter.all false
set_option maxRecDepth 100000
set_option maxHeartbeats 4000000
/-! E16: defs: what a call gives, and that it keeps its promise. -/
namespace Ev
open PySem PySem.Spec PyProof.Rows L2

def endM (h0 : AH) : R Fl → R W
  | .ok (.rt w) h1 => outM h0 w h1
  | .ok (.nx _) h1 => outM h0 (.d .none) h1
  | .ok _ _ => .no
  | .ex e h1 => if fineB h0 h1 then .ex e (h1.take h0.length) else .ex e h1
  | .no => .no
def startW (N : List Str) (ws : List W) : EnvW := ws.map some ++ List.replicate (N.length - ws.length) none
structure FI where
  sc : Sc
  body : List Stmt
  ps : List Str
  keep : Bool
/-- a def whose new objects stay -/
def keepM : R Fl → R W
  | .ok (.rt w) h1 => .ok w h1
  | .ok (.nx _) h1 => .ok (.d .none) h1
  | .ok _ _ => .no
  | .ex e h1 => .ex e h1
  | .no => .no
def endK (kp : Bool) (h : AH) (r : R Fl) : R W := if kp then keepM r else endM h r
def callM (T : Tb) (D : FId → Option FI) (n : Nat) : Nat → FId → List W → M W
  | 0, _, _ => mno
  | k + 1, f, ws => match D f with
    | none => mno
    | some i => if ws.length = i.ps.length then fun h => endK i.keep h (blk (ev T (callM T D n k) n) i.sc i.body (startW i.sc.N ws) h) else mno

theorem callM_at {T : Tb} {D : FId → Option FI} {n k : Nat} {f : FId} {ws : List W} {h : AH} {i : FI} (hi : D f = some i) (hl : ws.length = i.ps.length) :
    callM T D n (k + 1) f ws h = endK i.keep h (blk (ev T (callM T D n k) n) i.sc i.body (startW i.sc.N ws) h) := by
  simp only [callM, hi, hl, if_true]
theorem po_end {G : GA} {c : Cf} {r : R Fl} {Q : V → Hp → Prop} {E : Str → Hp → Prop} (k : c.ok G) (h : Po G (endM c.ah r) c (fun w c' => ∀ v, RW G c' v w → Q v c'.H) (fun e c' => E e c'.H)) :
    Po G r c (FlP G { nx := fun _ H' => Q .non H', rt := Q }) (fun e c' => E e c'.H) := by
  cases r with
  | no => exact h
  | ok fl h1 =>
    intro c1 e1 k1 q1
    subst q1
    cases fl with
    | nx env => exact fun σ' _ => po_out k e1 k1 h (v := .non) .non
    | rt w => exact fun v rv => po_out k e1 k1 h rv
    | bk env => exact h.elim
    | ct env => exact h.elim
  | ex e h1 =>
    intro c1 e1 k1 q1
    subst q1
    unfold endM at h
    split at h
    · cases ‹R.ex _ _ = R.ok _ _›
    · cases ‹R.ex _ _ = R.ok _ _›
    · cases ‹R.ex _ _ = R.ok _ _›
    · rename_i hq
      cases hq
      by_cases hf : fineB c.ah c1.ah = true
      · rw [if_pos hf] at h
        obtain ⟨e2, k2⟩ := cut_ok k e1 k1 (fineB_iff.mp hf)
        exact h (c1.cut c.ah.length) e2 k2 rfl
      · rw [if_neg hf] at h
        exact h c1 e1 k1 rfl
    · exact h.elim
theorem po_keep {G : GA} {c : Cf} {r : R Fl} {Q : V → Hp → Prop} {E : Str → Hp → Prop} (k : c.ok G) (h : Po G (keepM r) c (fun w c' => ∀ v, RW G c' v w → Q v c'.H) (fun e c' => E e c'.H)) :
    Po G r c (FlP G { nx := fun _ H' => Q .non H', rt := Q }) (fun e c' => E e c'.H) := by
  cases r with
  | no => exact h
  | ok fl h1 =>
    intro c1 e1 k1 q1
    cases fl with
    | nx env => exact fun σ' _ => h c1 e1 k1 q1 .non .non
    | rt w => exact fun v rv => h c1 e1 k1 q1 v rv
    | bk env => exact h.elim
    | ct env => exact h.elim
  | ex e h1 => exact fun c1 e1 k1 q1 => h c1 e1 k1 q1
theorem po_endK {G : GA} {c : Cf} {r : R Fl} {kp : Bool} {Q : V → Hp → Prop} {E : Str → Hp → Prop} (k : c.ok G) (h : Po G (endK kp c.ah r) c (fun w c' => ∀ v, RW G c' v w → Q v c'.H) (fun e c' => E e c'.H)) :
    Po G r c (FlP G { nx := fun _ H' => Q .non H', rt := Q }) (fun e c' => E e c'.H) := by
  cases kp with
  | true => exact po_keep k h
  | false => exact po_end k h
theorem start_ok {G : GA} {c : Cf} {N : List Str} {ws : List W} {vs : List V} (r : RWL G c vs ws) : EnvR G c (startW N ws) (start N vs) := by
  have hl : vs.length = ws.length := r.length
  refine ⟨by simp [startW, L2.start, hl], fun i w q => ?_⟩
  unfold startW at q
  unfold L2.start
  by_cases hi : i < ws.length
  · rw [List.getElem?_append_left (by simpa using hi)] at q
    rw [List.getElem?_append_left (by simpa [hl] using hi)]
    rw [List.getElem?_map] at q ⊢
    cases qq : ws[i]? with
    | none => rw [qq] at q; cases q
    | some w' =>
      rw [qq] at q
      have : w' = w := by simpa using q
      subst this
      obtain ⟨v, hv, rv⟩ := paired_at r qq
      exact ⟨v, by rw [hv]; rfl, rv⟩
  · rw [List.getElem?_append_right (by simpa using hi)] at q
    rw [List.getElem?_replicate] at q
    split at q <;> cases q
where
  paired_at {α β : Type} {R : α → β → Prop} : ∀ {xs : List α} {ys : List β} {i : Nat} {y : β}, Paired R xs ys → ys[i]? = some y → ∃ x, xs[i]? = some x ∧ R x y
    | _, _, 0, _, .cons h _, q => ⟨_, rfl, by cases q; exact h⟩
    | _, _, i + 1, _, .cons _ r, q => by
      obtain ⟨x, h1, h2⟩ := paired_at r (by simpa using q)
      exact ⟨x, by simpa using h1, h2⟩

/-! ### the top -/
structure TopS (T : Tb) (G : GA) (mg : Str → Option Value) : Prop where
  def_ : ∀ f, f ∈ T.defs → ∃ a, G.fa (pl f) = some a ∧ mg f = some (.ref a)
  con : ∀ x d, T.cons.lookup x = some d → ∃ u v, mg x = some u ∧ RelV v u ∧ ∀ c, Rp G.K c v d
  free : ∀ x, x ∈ T.free → mg x = none
  exc : ∀ x, x ∈ T.excs → ∃ Ca, G.xa x = some Ca ∧ mg x = some (.ref Ca) ∧ PySem.W.excIn G.K Ca [.type "LookupError", .type "Exception", .type "BaseException", .type "object"] "LookupError.__new__" = true ∧ PySem.W.keepIn G.K (.ref Ca) = true ∧ PySem.W.subIn G.K (.ref Ca) (.type "BaseException") = some true ∧ PySem.W.typeIn G.K (.ref Ca) = some (.type "type")
  cls : ∀ x, x ∈ T.clss → ∃ Ca fi, G.ca x = some Ca ∧ mg x = some (.ref Ca) ∧ Mk G.K Ca fi ∧ G.fa (x, "__init__") = some fi
  own : ∀ x Ca, G.ca x = some Ca → Cls G.K Ca ∧ ∀ f, f ∈ T.flds → NoAttr G.K Ca f
  meth : ∀ x m, (x, m) ∈ T.meths → ∃ Ca a, G.ca x = some Ca ∧ G.fa (x, m) = some a ∧ Meth G.K Ca m a
  isx : ∀ x, x ∈ T.xt → ∃ v u, (mg x = some u ∨ (mg x = none ∧ bootBuiltins x = some u)) ∧ ClsV v u ∧ RelV v u ∧ ∀ c C, G.xa c = some C → ExcC G.K C ∧ PySem.W.kitOne G.K (.ref C) u = some (T.catches c x)
  catch_ : ∀ c C x Ca, G.xa c = some C → G.xa x = some Ca → x ∈ T.excs → PySem.W.exmOne G.K (.ref C) (.ref Ca) = some (T.catches c x)
/-- a def of the program -/
structure DefF (T : Tb) (G : GA) (f : FId) (a : Addr) (i : FI) : Prop where
  ex : ∃ x qual params fd dvs kws, FunD G.K x qual params i.body i.sc.scope dvs kws a fd ∧ BindsD T G G.K f fd i.ps
  scope : FnScope i.sc.N i.ps i.sc.scope
theorem top_of {T : Tb} {G : GA} {CM : FId → List W → M W} {k : Nat} {X : Cx} {mg : Str → Option Value} (hK : X.K = G.K) (hm : X.mg = mg) (S : TopS T G mg)
    (hfn : ∀ f a, G.fa f = some a → ∃ fd ps, FnOk X.prog X.w X.K X.mg X.base (CX X.prog X.w) (2 * k) a fd ps (spM G (CM f) ps.length) ∧ BindsD T G X.K f fd ps ∧ PySem.W.keepIn X.K (.ref a) = true ∧ ∀ ws h, ws.length ≠ ps.length → CM f ws h = .no) : Top T G CM k X := by
  refine ⟨hfn, ?_, ?_, ?_, ?_, ?_, ?_, ?_, ?_, ?_⟩
  · rw [hm]; exact S.def_
  · rw [hm]; exact S.con
  · rw [hm]; exact S.free
  · rw [hm, hK]
    intro x hx
    obtain ⟨Ca, h1, h2, h3, h4, h5, h6⟩ := S.exc x hx
    exact ⟨Ca, h1, h2, h3, h4, raises_own (by rw [hK]; exact h5) (by rw [hK]; exact h6)⟩
  · rw [hm, hK]; exact S.cls
  · rw [hK]; exact S.own
  · rw [hK]; exact S.meth
  · rw [hm, hK]; exact S.isx
  · rw [hK]; intro c C x Ca h1 h2 h3; exact ⟨_, S.catch_ c C x Ca h1 h2 h3, rfl⟩
theorem fn_one {T : Tb} {G : GA} {D : FId → Option FI} {n : Nat} {P : Program} {w : World} {mg : Str → Option Value} {base : Heap} (S : TopS T G mg) {k : Nat}
    (ih : ∀ f a, G.fa f = some a → ∃ fd ps, FnOk P w G.K mg base (CX P w) (2 * k) a fd ps (spM G (callM T D n k f) ps.length) ∧ BindsD T G G.K f fd ps ∧ PySem.W.keepIn G.K (.ref a) = true ∧ ∀ ws h, ws.length ≠ ps.length → callM T D n k f ws h = .no)
    {f : FId} {a : Addr} {i : FI} (hi : D f = some i) (sc : FnScope i.sc.N i.ps i.sc.scope) {x qual : Str} {params : Arguments} {fd : FuncData} {dvs : List V} {kws : List (Str × V)} (F1 : FunD G.K x qual params i.body i.sc.scope dvs kws a fd) :
    FnOk P w G.K mg base (CX P w) (2 * (k + 1)) a fd i.ps (spM G (callM T D n (k + 1) f) i.ps.length) := by
  refine FunD.ok (k := 2 * k + 1) F1 sc (fun vs H Q E h => h.1) fun cdv A outer s H vs Q E hr h => ?_
  have hS := (ev_ok (T := T) (G := G) (CM := callM T D n k) (k := k) n)
  let X := cxOf (CX P w) P w G.K mg base i.sc.N qual i.sc.scope a cdv A outer s H E
  have hFit : Fits T G (callM T D n k) k X i.sc (fun cls d _ H => E cls d H) := by
    refine ⟨rfl, sc.nd, rfl, rfl, fun _ _ => rfl, rfl, hr, takes_of rfl rfl rfl rfl, top_of rfl rfl S ih⟩
  refine ⟨_, blk_ok hS i.body X E hFit (passes_of rfl) rfl ⟨rfl, rfl⟩, ?_⟩
  obtain ⟨hl, c, ws, rfl, ok, rws, q⟩ := h
  have hlw : ws.length = i.ps.length := by rw [← rws.length]; exact hl
  refine ⟨c, startW i.sc.N ws, rfl, ok, start_ok rws, ?_⟩
  simp only [callM, hi, hlw, if_true] at q
  exact po_endK (E := fun e H => ∀ C, G.xa e = some C → E (.ref C) none H) ok q
theorem fn_all {T : Tb} {G : GA} {D : FId → Option FI} {n : Nat} {P : Program} {w : World} {mg : Str → Option Value} {base : Heap} (S : TopS T G mg) (hD : ∀ f a, G.fa f = some a → ∃ i, D f = some i ∧ DefF T G f a i) :
    ∀ k f a, G.fa f = some a → ∃ fd ps, FnOk P w G.K mg base (CX P w) (2 * k) a fd ps (spM G (callM T D n k f) ps.length) ∧ BindsD T G G.K f fd ps ∧ PySem.W.keepIn G.K (.ref a) = true ∧ ∀ ws h, ws.length ≠ ps.length → callM T D n k f ws h = .no := by
  intro k
  induction k with
  | zero =>
    intro f a ha
    obtain ⟨i, hi, F⟩ := hD f a ha
    obtain ⟨x, qual, params, fd, dvs, kws, F1, B⟩ := F.ex
    exact ⟨fd, i.ps, ⟨fun vs H Q E h => h.1, fun A outer s H args us vs Q E hr e0 hb hv ⟨_, c, ws, _, _, _, h⟩ => h.elim⟩, B, F1.kp, fun ws h _ => rfl⟩
  | succ k ih =>
    intro f a ha
    obtain ⟨i, hi, F⟩ := hD f a ha
    obtain ⟨x, qual, params, fd, dvs, kws, F1, B⟩ := F.ex
    refine ⟨fd, i.ps, fn_one S ih hi F.scope F1, B, F1.kp, fun ws h hl => ?_⟩
    simp only [callM, hi, if_neg hl]; rfl
end Ev
set_option Elab.async false
set_option linter.all false
set_option maxRecDepth 100000
set_option maxHeartbeats 4000000
/-! E17: the head: the module's facts, checked in its heap. -/
namespace Ev
open PySem PySem.Spec PyProof.Rows L2 He

/-! ### the part of the heap, no list in it -/
def notLst (q : Addr × Obj) : Bool := match q.2.cls with
  | .type c => !(decide (c = "list"))
  | _ => true
def frN (g : Addr → Option Obj) (as : List Addr) : PySem.W.Frag := (frG g as).filter notLst
theorem lk_mem {a : Addr} {o : Obj} : ∀ {l : List (Addr × Obj)}, l.lookup a = some o → (a, o) ∈ l
  | [], h => by cases h
  | (b, u) :: r, h => by
    rw [List.lookup_cons] at h
    cases q : (a == b) with
    | true =>
      rw [q] at h
      rw [beq_iff_eq.mp q, ← Option.some.inj h]
      exact List.mem_cons_self ..
    | false =>
      rw [q] at h
      exact List.mem_cons_of_mem _ (lk_mem h)
theorem frN_at {g : Addr → Option Obj} {as : List Addr} {a : Addr} {o : Obj} (h : (frN g as).lookup a = some o) : g a = some o ∧ notLst (a, o) = true := by
  obtain ⟨h1, h2⟩ := List.mem_filter.mp (lk_mem h)
  refine ⟨?_, h2⟩
  unfold frG at h1
  obtain ⟨b, hb, e⟩ := List.mem_filterMap.mp h1
  cases q : g b with
  | none => rw [q] at e; cases e
  | some u =>
    rw [q] at e
    have e' := Option.some.inj e
    cases e'
    exact q
theorem frN_in {as : List Addr} {h : Heap} : (frN h.get? as).In h := fun _ _ e => (frN_at e).1
def NoL (K : PySem.W.Frag) : Prop := ∀ a o, K.lookup a = some o → o.cls ≠ .type "list"
theorem frN_no {g : Addr → Option Obj} {as : List Addr} : NoL (frN g as) := fun a o h e => by
  have := (frN_at h).2
  unfold notLst at this
  rw [show (a, o).2.cls = o.cls from rfl, e] at this
  simp at this

/-! ### constants -/
mutual
def conB (K : PySem.W.Frag) : Nat → PyData → Value → Bool
  | _, .int i, .int j _ => decide (i = j)
  | _, .str x, .str y _ => decide (x = y)
  | _, .none, .none => true
  | _, .bool b, .bool c => decide (b = c)
  | n + 1, .tuple ds, .ref a => (match K.lookup a with
    | some ⟨.type c, _, .seq its _, _⟩ => decide (c = "tuple") && (decide (its.size ≤ sizeLine) && conL K n ds its.toList)
    | _ => false)
  | _, _, _ => false
def conL (K : PySem.W.Frag) : Nat → List PyData → List Value → Bool
  | _, [], [] => true
  | n, d :: ds, u :: us => conB K n d u && conL K n ds us
  | _, _, _ => false
end
mutual
theorem conB_ok {K : PySem.W.Frag} : ∀ (n : Nat) (d : PyData) (u : Value), conB K n d u = true → ∃ v, RelV v u ∧ ∀ c, Rp K c v d
  | n, d, u, h => by
    unfold conB at h
    split at h
    · have e := of_decide_eq_true h; subst e; exact ⟨.int _, ⟨_, rfl⟩, fun c => .int _⟩
    · have e := of_decide_eq_true h; subst e; exact ⟨.str _, ⟨_, rfl⟩, fun c => .str _⟩
    · exact ⟨.non, rfl, fun c => .non⟩
    · have e := of_decide_eq_true h; subst e; exact ⟨.bl _, rfl, fun c => .bl _⟩
    · rename_i n ds a
      split at h
      · rename_i c od its m osl q
        obtain ⟨h1, h2⟩ := ba h
        obtain ⟨h3, h4⟩ := ba h2
        obtain ⟨vs, r, hv⟩ := conL_ok n ds its.toList h4
        exact ⟨.ref a, rfl, fun c => .tupK ⟨_, its, m, q, congrArg Value.type (of_decide_eq_true h1), rfl, of_decide_eq_true h3, r⟩ (hv c)⟩
      · cases h
    · cases h
theorem conL_ok {K : PySem.W.Frag} : ∀ (n : Nat) (ds : List PyData) (us : List Value), conL K n ds us = true → ∃ vs, Vals vs us ∧ ∀ c, RpL K c vs ds
  | n, [], [], h => ⟨[], .nil, fun c => .nil⟩
  | n, [], _ :: _, h => by unfold conL at h; cases h
  | n, _ :: _, [], h => by unfold conL at h; cases h
  | n, d :: ds, u :: us, h => by
    unfold conL at h
    obtain ⟨h1, h2⟩ := ba h
    obtain ⟨v, r, hv⟩ := conB_ok n d u h1
    obtain ⟨vs, rs, hvs⟩ := conL_ok n ds us h2
    exact ⟨v :: vs, .cons r rs, fun c => .cons (hv c) (hvs c)⟩
end

/-! ### the facts -/
def adOf (f : FId) : Str × Option Str := if f.1 == Str.empty then (f.2, none) else (f.1, some f.2)
def gaOf (ids : List FId) (cs xs : List Str) (K : PySem.W.Frag) : GA where
  K := K
  fa := fun f => if ids.contains f then some (fAd K (adOf f)) else none
  ca := fun x => if cs.contains x then some (ga K x) else none
  xa := fun x => if xs.contains x then some (ga K x) else none
def leBase : List Value := [.type "LookupError", .type "Exception", .type "BaseException", .type "object"]
def excB (K : PySem.W.Frag) (x : Str) : Bool := PySem.W.excIn K (ga K x) leBase "LookupError.__new__" && (PySem.W.keepIn K (.ref (ga K x)) && (decide (PySem.W.subIn K (.ref (ga K x)) (.type "BaseException") = some true) && decide (PySem.W.typeIn K (.ref (ga K x)) = some (.type "type"))))
def excCB (K : PySem.W.Frag) (D : Addr) : Bool := eqO (PySem.W.findIn K (.ref D) "__getattribute__") (some (some (.builtin "BaseException.__getattribute__"))) && (eqO (PySem.W.findIn K (.ref D) "__getattr__") (some none) && (decide (PySem.W.subIn K (.ref D) (.type "BaseException") = some true) && (PySem.W.hasDictIn K D
  && (eqO (PySem.W.findIn K (.ref D) "__class__") (some (some (.builtin "object.__class__"))) && (eqO (PySem.W.specialIn K (.builtin "object.__class__") "__get__") (some (some (.builtin "getset_descriptor.__get__"))) && (decide (PySem.W.takesIn K (.builtin "object.__class__") = some true) && decide (PySem.W.mroIn K D (.type "object") = some true)))))))
theorem excCB_ok {K : PySem.W.Frag} {D : Addr} (h : excCB K D = true) : ExcC K D := by
  obtain ⟨h1, h⟩ := ba h
  obtain ⟨h2, h⟩ := ba h
  obtain ⟨h3, h⟩ := ba h
  obtain ⟨h4, h⟩ := ba h
  obtain ⟨h5, h⟩ := ba h
  obtain ⟨h6, h⟩ := ba h
  obtain ⟨h7, h8⟩ := ba h
  exact ⟨eqO_ok h1, eqO_ok h2, of_decide_eq_true h3, h4, eqO_ok h5, eqO_ok h6, of_decide_eq_true h7, of_decide_eq_true h8⟩
/-- a class that isinstance asks for -/
def isxU (K : PySem.W.Frag) (x : Str) : Value := if x == ("LookupError" : Str) then .type "LookupError" else .ref (ga K x)
def isxB (T : Tb) (xs : List Str) (K : PySem.W.Frag) (x : Str) : Bool := (if x == ("LookupError" : Str) then (Fa.free x).ok K && decide (bootBuiltins x = some (.type "LookupError")) else (Fa.glo x).ok K) && xs.all fun c => excCB K (ga K c) && decide (PySem.W.kitOne K (.ref (ga K c)) (isxU K x) = some (T.catches c x))
def topB (T : Tb) (ids : List FId) (cs xs : List Str) (K : PySem.W.Frag) : Bool :=
  (T.defs.all fun f => ids.contains (pl f) && (Fa.glo f).ok K)
  && ((T.cons.all fun q => match PySem.W.nsIn K mainGlobals q.1 with
    | some (some u) => conB K 5 q.2 u
    | _ => false)
  && ((T.free.all fun x => (Fa.free x).ok K)
  && ((T.excs.all fun x => xs.contains x && ((Fa.glo x).ok K && excB K x))
  && ((T.clss.all fun x => cs.contains x && ((Fa.glo x).ok K && ((Fa.mkr x).ok K && (ids.contains (x, "__init__") && !(x == Str.empty)))))
  && ((cs.all fun x => (Fa.cls x).ok K && T.flds.all fun f => (Fa.noat x f).ok K)
  && ((T.meths.all fun q => cs.contains q.1 && (ids.contains q && ((Fa.meth q.1 q.2).ok K && !(q.1 == Str.empty))))
  && ((T.xt.all fun x => isxB T xs K x)
  && (xs.all fun c => T.excs.all fun x => decide (PySem.W.exmOne K (.ref (ga K c)) (.ref (ga K x)) = some (T.catches c x))))))))))
theorem lookup_in {α β : Type} [BEq α] [LawfulBEq α] {x : α} {d : β} : ∀ {l : List (α × β)}, l.lookup x = some d → (x, d) ∈ l
  | [], h => by cases h
  | (b, u) :: r, h => by
    rw [List.lookup_cons] at h
    cases q : (x == b) with
    | true =>
      rw [q] at h
      rw [beq_iff_eq.mp q, ← Option.some.inj h]
      exact List.mem_cons_self ..
    | false =>
      rw [q] at h
      exact List.mem_cons_of_mem _ (lookup_in h)
theorem top_ok {T : Tb} {ids : List FId} {cs xs : List Str} {K : PySem.W.Frag} {h : Heap} {mg : Str → Option Value} (X : K.In h) (G : h.Ns mainGlobals mg) (c : topB T ids cs xs K = true) : TopS T (gaOf ids cs xs K) mg := by
  obtain ⟨c1, c⟩ := ba c
  obtain ⟨c2, c⟩ := ba c
  obtain ⟨c3, c⟩ := ba c
  obtain ⟨c4, c⟩ := ba c
  obtain ⟨c5, c⟩ := ba c
  obtain ⟨c6, c⟩ := ba c
  obtain ⟨c7, c⟩ := ba c
  obtain ⟨c8, c9⟩ := ba c
  have xin : ∀ c C, (gaOf ids cs xs K).xa c = some C → c ∈ xs ∧ C = ga K c := fun c C e => by
    have e : (if xs.contains c then some (ga K c) else none) = some C := e
    split at e
    · rename_i hq
      exact ⟨by simpa using hq, (Option.some.inj e).symm⟩
    · cases e
  refine ⟨fun f hf => ?_, fun x d hx => ?_, fun x hx => ?_, fun x hx => ?_, fun x hx => ?_, fun x Ca hx => ?_, fun x m hx => ?_, fun x hx => ?_, fun c C x Ca h1 h2 h3 => ?_⟩
  · obtain ⟨h1, h2⟩ := ba (List.all_eq_true.mp c1 f hf)
    refine ⟨ga K f, ?_, glo_ok X G h2⟩
    show (if ids.contains (pl f) then some (fAd K (adOf (pl f))) else none) = some (ga K f)
    rw [if_pos h1]
    rfl
  · have h1 := List.all_eq_true.mp c2 (x, d) (lookup_in hx)
    simp only at h1
    split at h1
    · rename_i u hu
      obtain ⟨v, r, hv⟩ := conB_ok 5 d u h1
      exact ⟨u, v, PySem.W.mg_of X G hu, r, hv⟩
    · cases h1
  · exact free_ok X G (List.all_eq_true.mp c3 x hx)
  · obtain ⟨h1, h2⟩ := ba (List.all_eq_true.mp c4 x hx)
    obtain ⟨h2, h3⟩ := ba h2
    obtain ⟨h3, h4⟩ := ba h3
    obtain ⟨h4, h5⟩ := ba h4
    obtain ⟨h5, h6⟩ := ba h5
    exact ⟨ga K x, if_pos h1, glo_ok X G h2, h3, h4, of_decide_eq_true h5, of_decide_eq_true h6⟩
  · obtain ⟨h1, h2⟩ := ba (List.all_eq_true.mp c5 x hx)
    obtain ⟨h2, h3⟩ := ba h2
    obtain ⟨h3, h4⟩ := ba h3
    obtain ⟨h4, h5⟩ := ba h4
    refine ⟨ga K x, _, if_pos h1, glo_ok X G h2, mkr_ok h3, ?_⟩
    show (if ids.contains (x, "__init__") then some (fAd K (adOf (x, "__init__"))) else none) = _
    rw [if_pos h4]
    unfold adOf
    rw [if_neg (by simpa using h5)]
    rfl
  · have hx : (if cs.contains x then some (ga K x) else none) = some Ca := hx
    split at hx
    · rename_i hq
      cases hx
      obtain ⟨h1, h2⟩ := ba (List.all_eq_true.mp c6 x (by simpa using hq))
      exact ⟨cls_ok h1, fun f hf => noat_ok (List.all_eq_true.mp h2 f hf)⟩
    · cases hx
  · obtain ⟨h1, h2⟩ := ba (List.all_eq_true.mp c7 (x, m) hx)
    obtain ⟨h2, h3⟩ := ba h2
    obtain ⟨h3, h4⟩ := ba h3
    refine ⟨ga K x, _, if_pos h1, ?_, meth_ok h3⟩
    show (if ids.contains (x, m) then some (fAd K (adOf (x, m))) else none) = _
    rw [if_pos h2]
    unfold adOf
    rw [if_neg (by simpa using h4)]
    rfl
  · obtain ⟨h1, h2⟩ := ba (show (_ && _) = true from List.all_eq_true.mp c8 x hx)
    have rest : ∀ c C, (gaOf ids cs xs K).xa c = some C → ExcC K C ∧ PySem.W.kitOne K (.ref C) (isxU K x) = some (T.catches c x) := fun c C e => by
      obtain ⟨hc, rfl⟩ := xin c C e
      obtain ⟨g1, g2⟩ := ba (List.all_eq_true.mp h2 c hc)
      exact ⟨excCB_ok g1, of_decide_eq_true g2⟩
    unfold isxU at rest
    by_cases hq : (x == ("LookupError" : Str)) = true
    · rw [if_pos hq] at h1 rest
      obtain ⟨g1, g2⟩ := ba h1
      exact ⟨.ty "LookupError", .type "LookupError", .inr ⟨free_ok X G g1, of_decide_eq_true g2⟩, .ty _, rfl, rest⟩
    · rw [if_neg hq] at h1 rest
      exact ⟨.ref (ga K x), .ref (ga K x), .inl (glo_ok X G h1), .own _, rfl, rest⟩
  · obtain ⟨hc, rfl⟩ := xin c C h1
    obtain ⟨_, rfl⟩ := xin x Ca h2
    exact of_decide_eq_true (List.all_eq_true.mp (List.all_eq_true.mp c9 c hc) x h3)

/-! ### the defs -/
structure Ent where
  id : FId
  st : Stmt
  N : List Str
  ps : List Str
  name : Str
  qual : Str
  dfl : List Dv := []
  kwd : List (Str × Dv) := []
  keep : Bool := false
def Ent.i (e : Ent) : FI := ⟨⟨e.N, defScope e.st, fun _ => true⟩, defBody e.st, e.ps, e.keep⟩
def Ent.d (e : Ent) : DefD := ⟨adOf e.id, e.name, e.qual, defArgs e.st, defBody e.st, defScope e.st, e.dfl, e.kwd⟩
structure Ent.good (T : Tb) (e : Ent) : Prop where
  scope : FnScope e.N e.ps (defScope e.st)
  binds : T.nopos.contains e.id = false → ∀ K a fd, FunD K e.name e.qual (defArgs e.st) (defBody e.st) (defScope e.st) (e.d.dvs K) (e.d.kws K) a fd → Binds K fd e.ps []
  dfl : ∀ n ds, T.dfls.lookup e.id = some (n, ds) → e.ps.length = n + ds.length ∧ ∀ K a fd, FunD K e.name e.qual (defArgs e.st) (defBody e.st) (defScope e.st) (e.d.dvs K) (e.d.kws K) a fd → ∃ dvs us, Vals dvs us ∧ (∀ c, RpL K c dvs ds) ∧ Binds K fd e.ps us
  kwd : ∀ n ks, T.kwds.lookup e.id = some (n, ks) → e.ps.length = n + ks.length ∧ ∀ K a fd, FunD K e.name e.qual (defArgs e.st) (defBody e.st) (defScope e.st) (e.d.dvs K) (e.d.kws K) a fd → KBn K fd e.ps n ks (fun us ws => us ++ ws) (fun vs zs => vs ++ zs)
theorem no_look {α β γ : Type} [BEq α] {l : List (α × β × γ)} {x : α} {P : β → γ → Prop} (h : (l.lookup x).isNone = true) : ∀ y z, l.lookup x = some (y, z) → P y z := fun y z e => by rw [e] at h; cases h
def AllG (T : Tb) : List Ent → Prop
  | [] => True
  | e :: es => e.good T ∧ AllG T es
theorem AllG.of {T : Tb} : ∀ {es : List Ent}, AllG T es → ∀ e ∈ es, e.good T
  | [], _, _, m => by cases m
  | a :: es, h, e, m => by
    cases m with
    | head => exact h.1
    | tail _ m => exact AllG.of h.2 e m
def lookE (es : List Ent) (f : FId) : Option FI := (es.find? fun e => e.id == f).map Ent.i
structure Hd where
  T : Tb
  es : List Ent
  cs : List Str
  xs : List Str
def Hd.ids (d : Hd) : List FId := d.es.map Ent.id
def Hd.G (d : Hd) (K : PySem.W.Frag) : GA := gaOf d.ids d.cs d.xs K
abbrev AlE : Type := Bool × List FnW
def obsE (d : Hd) (K : PySem.W.Frag) : AlE := (topB d.T d.ids d.cs d.xs K && d.es.all fun e => e.d.ok K, d.es.map fun e => fnW K e.d.at_)
def valE (d : Hd) : AlE := (true, d.es.map fun e => e.d.val)
def obsEG (n : Nat) (d : Hd) (g : Addr → Option Obj) : AlE := obsE d (frN g (asD g n))
def hookE (n : Nat) (d : Hd) : PySem.W.Hook where
  α := AlE
  obs := fun s => obsEG n d s.heap.get?
  val := fun _ => valE d
  says := fun _ h => ∃ K : PySem.W.Frag, K.In h ∧ NoL K ∧ obsE d K = valE d
  of := fun _ _ e => ⟨_, frN_in, frN_no, e⟩
  keeps := fun _ _ _ ⟨K, hK, n, c⟩ k => ⟨K, PySem.W.Frag.In.keeps hK k, n, c⟩
theorem obsEG_eq {n : Nat} {d : Hd} {g : Addr → Option Obj} {s : Shared} (h : ∀ a, g a = s.heap.get? a) : obsEG n d g = (hookE n d).obs s := by
  have e : g = s.heap.get? := funext h
  rw [e] <;> rfl
theorem defs_ok {d : Hd} {K : PySem.W.Frag} (hg : AllG d.T d.es) (c : obsE d K = valE d) : ∀ f a, (d.G K).fa f = some a → ∃ i, lookE d.es f = some i ∧ DefF d.T (d.G K) f a i := by
  intro f a h
  have h : (if d.ids.contains f then some (fAd K (adOf f)) else none) = some a := h
  split at h
  · rename_i hf
    cases h
    have hf : f ∈ d.es.map Ent.id := by simpa [Hd.ids] using hf
    obtain ⟨e0, m0, q0⟩ := List.mem_map.mp hf
    cases q : d.es.find? fun e => e.id == f with
    | none =>
      have := List.find?_eq_none.mp q e0 m0
      rw [q0] at this
      simp at this
    | some e =>
      have me := List.mem_of_find?_eq_some q
      have ei : e.id = f := by simpa using List.find?_some q
      subst ei
      refine ⟨e.i, by unfold lookE; rw [q]; rfl, ?_⟩
      have c2 := (ba (show (_ && _) = true from congrArg (fun z : AlE => z.1) c)).2
      have e1 : d.es.map (fun e => fnW K e.d.at_) = d.es.map fun e => e.d.val := congrArg (fun z : AlE => z.2) c
      have e2 : fnW K e.d.at_ = e.d.val := List.map_inj_left.mp e1 e me
      obtain ⟨fd, F⟩ := DefD.funD e2 (List.all_eq_true.mp c2 e me)
      have g := hg.of e me
      exact ⟨⟨_, _, _, fd, _, _, F, ⟨fun hn => g.binds hn K _ fd F, fun n ds e => ⟨(g.dfl n ds e).1, (g.dfl n ds e).2 K _ fd F⟩, fun n ks e => ⟨(g.kwd n ks e).1, (g.kwd n ks e).2 K _ fd F⟩⟩⟩, g.scope⟩
  · cases h

/-! ### the law -/
theorem walk_ofC {l : PySem.W.OpenLaw} {n k : Nat} {q : Program} {loose : List Str} {XP : (Str → Option Value) → Heap → Prop} {YP : World → Heap → Prop} {d : DefRec} {CX : World → CXT} {x : Str}
    (hn : l.most = some n) (hn2 : n ≤ sizeLine) (hdf : d.params.defaults = []) (hr : Room k callerA)
    (F : ∀ (w : World) (mg : Str → Option Value) (fa : Addr) (h : Heap), YP w h → h.Ns mainGlobals mg → mg d.name = some (.ref fa) →
      ∃ (K : PySem.W.Frag) (fd : FuncData) (sp : Sp), K.In h ∧ (∀ (s : Shared) (u : Value), BindsTo s fd ⟨[u], []⟩ [(x, u)]) ∧
        (∀ (H : Hp) (a : Addr) (ns : List Int), ns.length ≤ n → SqL K H a (ns.map V.int) → sp [.ref a] H (fun v _ => v = .bl true) fun _ _ _ => False) ∧
        ∀ base : Heap, K.In base → base.Ns mainGlobals mg → FnOk l.prog w K mg base (CX w) k fa fd [x] sp)
    (hCX : ∀ (w : World) (H : Hp) (s : Shared) (e : Value) (s' : Shared), CX w [] H s (fun _ _ _ => False) e s' → False) :
    PySem.W.WalkO q loose XP YP l.row.toRowW d [] (fun f vs => PySem.call f vs) := by
  refine Att.attach_call hn hdf fun w s₀ s₁ mg mb fa o pm cd doc a vs ns G Y ho hd hcd hmg hobj hints hlen hg => ?_
  obtain ⟨K, fd, sp, h1, h2, h3, h4⟩ := F w mg fa _ Y G.T.g hmg
  exact law_call h1 G.T.g G.T.b G.T.builtins G.T.nolimit hg hobj hints (Nat.le_trans hlen hn2) hr h4 h2 (fun H _ hS => h3 H a ns hlen hS) fun H e s' => hCX w H s₁ e s'
theorem rpl_ints {K : PySem.W.Frag} {c : Cf} : ∀ ns : List Int, RpL K c (ns.map V.int) (ns.map PyData.int)
  | [] => .nil
  | n :: ns => .cons (.int n) (rpl_ints ns)
theorem law_of {l : PySem.W.OpenLaw} {m n k dp : Nat} {d : Hd} {q : Program} {loose : List Str} {XP : (Str → Option Value) → Heap → Prop} {dr : DefRec} {e : Ent} (hg : AllG d.T d.es)
    (hn : l.most = some n) (hn2 : n ≤ sizeLine) (hdf : dr.params.defaults = []) (hr : Room (2 * (k + 1)) callerA) (hname : dr.name = ("law" : Str)) (hin : ("law" : Str) ∈ d.T.defs)
    (he : (d.es.find? fun e => e.id == pl "law") = some e) (hps : e.ps = [("script" : Str)])
    (hb : ∀ K a fd, FunD K e.name e.qual (defArgs e.st) (defBody e.st) (defScope e.st) (e.d.dvs K) (e.d.kws K) a fd → ∀ (s : Shared) (u : Value), BindsTo s fd ⟨[u], []⟩ [(("script" : Str), u)])
    (hl : ∀ ns : List Int, ns.length ≤ n → ∃ h, callM d.T (lookE d.es) dp (k + 1) (pl "law") [.d (.list (ns.map PyData.int))] [] = .ok (.d (.bool true)) h) :
    PySem.W.WalkO q loose XP (hookE m d).says l.row.toRowW dr [] (fun f vs => PySem.call f vs) := by
  refine walk_ofC (k := 2 * (k + 1)) (CX := fun w => CX l.prog w) (x := "script") hn hn2 hdf hr ?_ (fun w H s e s' ⟨_, _, _, _, _, _, _, _, _, _, _, _, z⟩ => z)
  intro w mg fa h ⟨K, KX, nl, c⟩ G hmg
  rw [hname] at hmg
  have c0 := ba (show (_ && _) = true from congrArg (fun z : AlE => z.1) c)
  have S : TopS d.T (d.G K) mg := top_ok KX G c0.1
  obtain ⟨a', h1, h2⟩ := S.def_ "law" hin
  rw [hmg] at h2
  cases h2
  have hD := defs_ok hg c
  have me := List.mem_of_find?_eq_some he
  have ei : e.id = pl "law" := by simpa using List.find?_some he
  have hi : lookE d.es (pl "law") = some e.i := by unfold lookE; rw [he]; rfl
  have e1 : d.es.map (fun e => fnW K e.d.at_) = d.es.map fun e => e.d.val := congrArg (fun z : AlE => z.2) c
  have e2 : fnW K e.d.at_ = e.d.val := List.map_inj_left.mp e1 e me
  obtain ⟨fd, F⟩ := DefD.funD e2 (List.all_eq_true.mp c0.2 e me)
  have g := hg.of e me
  have ea : fAd K e.d.at_ = fa := by
    have h1 : (if d.ids.contains (pl "law") then some (fAd K (adOf (pl "law"))) else none) = some fa := h1
    split at h1
    · rw [← ei] at h1; exact Option.some.inj h1
    · cases h1
  rw [ea] at F
  refine ⟨K, fd, spM (d.G K) (callM d.T (lookE d.es) dp (k + 1) (pl "law")) 1, KX, hb K fa fd F, fun H a ns hlen hS => ?_, fun base hKb hB => ?_⟩
  · have hRd : Rd H a (.lst (ns.map V.int)) := by
      rcases hS with hS | ⟨o, its, n, h1, h2, _⟩
      · exact hS
      · exact absurd h2 (nl a o h1)
    refine ⟨rfl, ⟨H, [], []⟩, [.d (.list (ns.map PyData.int))], rfl, ⟨rfl, List.Pairwise.nil, fun i a o h => by simp at h⟩, .cons ?_ .nil, ?_⟩
    · exact .lst (fun ⟨i, h⟩ => by simp at h) hRd (rpl_ints ns)
    · obtain ⟨h', hh⟩ := hl ns hlen
      show Po _ (callM d.T (lookE d.es) dp (k + 1) (pl "law") [.d (.list (ns.map PyData.int))] []) _ _ _
      rw [hh]
      intro c' _ _ _ v rv
      exact rBool rv
  · have z := fn_one (P := l.prog) (w := w) (base := base) (n := dp) S (fn_all (n := dp) (P := l.prog) (w := w) (base := base) S hD k) hi g.scope F
    have hp1 : e.i.ps = [("script" : Str)] := hps
    rw [hp1] at z
    exact z
end Ev
set_option Elab.async false
set_option linter.all false
set_option maxRecDepth 100000
set_option maxHeartbeats 4000000
/-! E17b: the law by a reading of its body of one's own; objects that are forgotten on the way. -/
namespace Ev
open PySem PySem.Spec PyProof.Rows L2 He
def killN (n : Nat) (h : AH) : AH := (h.take n).map (fun _ => AO.dead) ++ h.drop n
theorem killN_at {n : Nat} {h : AH} {i : Nat} {o : AO} (q : (killN n h)[i]? = some o) : (i < n ∧ o = .dead ∧ ∃ u, h[i]? = some u) ∨ (n ≤ i ∧ h[i]? = some o) := by
  unfold killN at q
  by_cases hi : i < (h.take n).length
  · rw [List.getElem?_append_left (by simpa using hi), List.getElem?_map] at q
    have hi2 : i < n ∧ i < h.length := by rw [List.length_take] at hi; omega
    rw [List.getElem?_take, if_pos hi2.1, List.getElem?_eq_getElem hi2.2] at q
    exact .inl ⟨hi2.1, by simpa using q.symm, _, List.getElem?_eq_getElem hi2.2⟩
  · rw [List.getElem?_append_right (by simpa using hi)] at q
    rw [List.getElem?_drop] at q
    have hl : ((h.take n).map (fun _ => AO.dead)).length = min n h.length := by simp
    rw [hl] at q
    have hlt : n + (i - min n h.length) < h.length := (List.getElem?_eq_some_iff.mp q).1
    have hi2 : ¬ (i < n ∧ i < h.length) := by rw [List.length_take] at hi; omega
    have hn : n ≤ i := by omega
    rw [show n + (i - min n h.length) = i by omega] at q
    exact .inr ⟨hn, q⟩
theorem killN_dead {n : Nat} {h : AH} {i : Nat} (q : h[i]? = some .dead) : (killN n h)[i]? = some .dead := by
  have hl : i < h.length := (List.getElem?_eq_some_iff.mp q).1
  have hk : (killN n h).length = h.length := by unfold killN; simp; omega
  cases e : (killN n h)[i]? with
  | none => rw [List.getElem?_eq_none_iff] at e; omega
  | some o =>
    rcases killN_at e with ⟨_, h2, _⟩ | ⟨_, h2⟩
    · rw [h2]
    · rw [q] at h2; rw [← h2]
theorem killN_len {n : Nat} {h : AH} : (killN n h).length = h.length := by unfold killN; simp; omega
section
variable {T : Tb} {G : GA} {CM : FId → List W → M W} {k : Nat} {sc : Sc}
theorem kill_ok {c : Cf} {n : Nat} (ok : c.ok G) : c.ext ⟨c.H, c.μ, killN n c.ah⟩ ∧ (⟨c.H, c.μ, killN n c.ah⟩ : Cf).ok G := by
  refine ⟨⟨fun _ _ h => h, fun _ _ h l => ⟨h, l⟩, fun i a o h1 h2 h3 => ⟨h3, killN_dead h2⟩⟩, ⟨by show c.μ.length = (killN n c.ah).length; rw [killN_len]; exact ok.len, ok.nd, fun i a o h1 h2 => ?_⟩⟩
  rcases killN_at h2 with ⟨_, rfl, u, hu⟩ | ⟨_, h2⟩
  · exact (ok.there h1)
  · exact OR.same (c := c) (c' := ⟨c.H, c.μ, killN n c.ah⟩) rfl rfl (ok.obj i a o h1 h2)
def mKill (n : Nat) (m : MS) : MS := fun env h => m env (killN n h)
theorem sss_kill {sts : List Stmt} {m : MS} {n : Nat} (hm : SSs T G CM k sc sts m) : SSs T G CM k sc sts (mKill n m) := fun X Ex F hp hs hf => by
  refine PSs.imp (hm X Ex F hp hs hf) fun D σ H ⟨c, env, e, ok, re, q⟩ => ?_
  subst e
  obtain ⟨ex, ok2⟩ := kill_ok (n := n) ok
  exact ⟨⟨c.H, c.μ, killN n c.ah⟩, env, rfl, ok2, re.mono ex, Po.bind.Po.later ex q⟩
theorem sss_nilSeq {sts : List Stmt} {m : MS} (hm : SSs T G CM k sc sts m) : SSs T G CM k sc sts (sSeq sNil m) := fun X Ex F hp hs hf => by
  refine PSs.imp (hm X Ex F hp hs hf) fun D σ H ⟨c, env, e, ok, re, q⟩ => ⟨c, env, e, ok, re, q⟩
theorem sSeq_assoc (a b c : MS) : sSeq (sSeq a b) c = sSeq a (sSeq b c) := by
  funext env h
  simp only [sSeq, mbind]
  cases a env h with
  | ok fl h1 => cases fl <;> rfl
  | ex e h1 => rfl
  | no => rfl
theorem sss_append {P : Stmt → MS} (hP : ∀ s, SS T G CM k sc s (P s)) {b : List Stmt} {mb : MS} (hb : SSs T G CM k sc b mb) : ∀ a : List Stmt, SSs T G CM k sc (a ++ b) (sSeq (sBlock (a.map P)) mb)
  | [] => sss_nilSeq hb
  | [s] => sss_cons (hP s) hb
  | s :: s2 :: r => by
    show SSs T G CM k sc (s :: (s2 :: r ++ b)) (sSeq (sSeq (P s) (sBlock ((s2 :: r).map P))) mb)
    rw [sSeq_assoc]
    exact sss_cons (hP s) (sss_append hP hb (s2 :: r))
end
/-- a law's body by such a reading -/
theorem fn_body {T : Tb} {G : GA} {D : FId → Option FI} {n : Nat} {P : Program} {w : World} {mg : Str → Option Value} {base : Heap} (S : TopS T G mg) {k : Nat}
    (ih : ∀ f a, G.fa f = some a → ∃ fd ps, FnOk P w G.K mg base (CX P w) (2 * k) a fd ps (spM G (callM T D n k f) ps.length) ∧ BindsD T G G.K f fd ps ∧ PySem.W.keepIn G.K (.ref a) = true ∧ ∀ ws h, ws.length ≠ ps.length → callM T D n k f ws h = .no)
    {a : Addr} {i : FI} {m : MS} (sc : FnScope i.sc.N i.ps i.sc.scope) {x qual : Str} {params : Arguments} {fd : FuncData} {dvs : List V} {kws : List (Str × V)} (F1 : FunD G.K x qual params i.body i.sc.scope dvs kws a fd) (hown : i.sc.own = fun _ => true)
    (hm : SSs T G (callM T D n k) k i.sc i.body m) : FnOk P w G.K mg base (CX P w) (2 * (k + 1)) a fd i.ps (spM G (fun ws h => if ws.length = i.ps.length then keepM (m (startW i.sc.N ws) h) else .no) i.ps.length) := by
  refine FunD.ok (k := 2 * k + 1) F1 sc (fun vs H Q E h => h.1) fun cdv A outer s H vs Q E hr h => ?_
  let X := cxOf (CX P w) P w G.K mg base i.sc.N qual i.sc.scope a cdv A outer s H E
  have hFit : Fits T G (callM T D n k) k X i.sc (fun cls d _ H => E cls d H) := by
    refine ⟨rfl, sc.nd, rfl, rfl, fun _ _ => rfl, rfl, hr, takes_of rfl rfl rfl rfl, top_of rfl rfl S ih⟩
  refine ⟨_, hm X E hFit (passes_of rfl) rfl ⟨rfl, rfl⟩, ?_⟩
  obtain ⟨hl, c, ws, rfl, ok, rws, q⟩ := h
  have hlw : ws.length = i.ps.length := by rw [← rws.length]; exact hl
  refine ⟨c, startW i.sc.N ws, rfl, ok, start_ok rws, ?_⟩
  simp only [hlw, if_true] at q
  exact po_keep (E := fun e H => ∀ C, G.xa e = some C → E (.ref C) none H) ok q
theorem law_ofM {l : PySem.W.OpenLaw} {m n k dp : Nat} {d : Hd} {q : Program} {loose : List Str} {XP : (Str → Option Value) → Heap → Prop} {dr : DefRec} {e : Ent} {M : MS} (hg : AllG d.T d.es)
    (hn : l.most = some n) (hn2 : n ≤ sizeLine) (hdf : dr.params.defaults = []) (hr : Room (2 * (k + 1)) callerA) (hname : dr.name = ("law" : Str)) (hin : ("law" : Str) ∈ d.T.defs)
    (he : (d.es.find? fun e => e.id == pl "law") = some e) (hps : e.ps = [("script" : Str)])
    (hb : ∀ K a fd, FunD K e.name e.qual (defArgs e.st) (defBody e.st) (defScope e.st) (e.d.dvs K) (e.d.kws K) a fd → ∀ (s : Shared) (u : Value), BindsTo s fd ⟨[u], []⟩ [(("script" : Str), u)])
    (hM : ∀ G : GA, SSs d.T G (callM d.T (lookE d.es) dp k) k e.i.sc e.i.body M)
    (hl : ∀ ns : List Int, ns.length ≤ n → ∃ h, M (startW e.N [.d (.list (ns.map PyData.int))]) [] = .ok (.rt (.d (.bool true))) h) :
    PySem.W.WalkO q loose XP (hookE m d).says l.row.toRowW dr [] (fun f vs => PySem.call f vs) := by
  refine walk_ofC (k := 2 * (k + 1)) (CX := fun w => CX l.prog w) (x := "script") hn hn2 hdf hr ?_ (fun w H s e s' ⟨_, _, _, _, _, _, _, _, _, _, _, _, z⟩ => z)
  intro w mg fa h ⟨K, KX, nl, c⟩ G hmg
  rw [hname] at hmg
  have c0 := ba (show (_ && _) = true from congrArg (fun z : AlE => z.1) c)
  have S : TopS d.T (d.G K) mg := top_ok KX G c0.1
  obtain ⟨a', h1, h2⟩ := S.def_ "law" hin
  rw [hmg] at h2
  cases h2
  have hD := defs_ok hg c
  have me := List.mem_of_find?_eq_some he
  have ei : e.id = pl "law" := by simpa using List.find?_some he
  have e1 : d.es.map (fun e => fnW K e.d.at_) = d.es.map fun e => e.d.val := congrArg (fun z : AlE => z.2) c
  have e2 : fnW K e.d.at_ = e.d.val := List.map_inj_left.mp e1 e me
  obtain ⟨fd, F⟩ := DefD.funD e2 (List.all_eq_true.mp c0.2 e me)
  have g := hg.of e me
  have ea : fAd K e.d.at_ = fa := by
    have h1 : (if d.ids.contains (pl "law") then some (fAd K (adOf (pl "law"))) else none) = some fa := h1
    split at h1
    · rw [← ei] at h1; exact Option.some.inj h1
    · cases h1
  rw [ea] at F
  refine ⟨K, fd, spM (d.G K) (fun ws h => if ws.length = e.i.ps.length then keepM (M (startW e.i.sc.N ws) h) else .no) 1, KX, hb K fa fd F, fun H a ns hlen hS => ?_, fun base hKb hB => ?_⟩
  · have hRd : Rd H a (.lst (ns.map V.int)) := by
      rcases hS with hS | ⟨o, its, n, h1, h2, _⟩
      · exact hS
      · exact absurd h2 (nl a o h1)
    refine ⟨rfl, ⟨H, [], []⟩, [.d (.list (ns.map PyData.int))], rfl, ⟨rfl, List.Pairwise.nil, fun i a o h => by simp at h⟩, .cons ?_ .nil, ?_⟩
    · exact .lst (fun ⟨i, h⟩ => by simp at h) hRd (rpl_ints ns)
    · obtain ⟨h', hh⟩ := hl ns hlen
      have hp1 : e.i.ps.length = 1 := by show e.ps.length = 1; rw [hps]; rfl
      show Po _ (if [W.d (.list (ns.map PyData.int))].length = e.i.ps.length then keepM (M (startW e.i.sc.N [.d (.list (ns.map PyData.int))]) []) else .no) _ _ _
      rw [if_pos (by rw [hp1]; rfl), show M (startW e.i.sc.N [.d (.list (ns.map PyData.int))]) [] = _ from hh]
      intro c' _ _ _ v rv
      exact rBool rv
  · have z := fn_body (P := l.prog) (w := w) (base := base) (n := dp) (i := e.i) S (fn_all (n := dp) (P := l.prog) (w := w) (base := base) S hD k) g.scope F rfl (hM (d.G K))
    have hp1 : e.i.ps = [("script" : Str)] := hps
    rw [hp1] at z
    rw [hp1]
    exact z
end Ev
set_option Elab.async false
set_option linter.all false
set_option maxRecDepth 100000
set_option maxHeartbeats 4000000
/-! E18: reading terms: rules by the front, and what a def's end makes of it. -/
namespace Ev
open PySem PySem.Spec PyProof.Rows L2 He
def mb {α β : Type} (r : R α) (f : α → M β) : R β := match r with
  | .ok a h' => f a h'
  | .ex c h' => .ex c h'
  | .no => .no
def kA {β : Type} (y : ME) (env : EnvW) (F : W → W → M β) (a : W) : M β := mbind (y env) (F a)
def kIf {β : Type} (p q : M β) (c : Bool) : M β := if c then p else q
def kOk {β γ : Type} (g : β → γ) (b : β) : M γ := mpure (g b)
def kNx {β : Type} (fl : Fl) (_ : β) : M Fl := mpure fl
def kC4 (op' : CmpOp) (b : W) (z : ME) (env : EnvW) (t : Bool) : M W := if t then mbind (z env) (cmp op' b) else mpure (wB false)
def kC3 (op' : CmpOp) (b : W) (z : ME) (env : EnvW) (c : W) : M W := mbind (asB c) (kC4 op' b z env)
def kC2 (op op' : CmpOp) (z : ME) (env : EnvW) (a b : W) : M W := mbind (cmp op a b) (kC3 op' b z env)
def kL2 (a : W) (as : List W) : M (List W) := mpure (a :: as)
def kL1 (r : EnvW → M (List W)) (env : EnvW) (a : W) : M (List W) := mbind (r env) (kL2 a)
def kTup (ws : List W) : M W := match allD ws with
  | some ds => if ds.length ≤ sizeLine then mpure (.d (.tuple ds)) else mno
  | none => if ws.length ≤ sizeLine then fun h => .ok (.r h.length) (h ++ [.tup ws]) else mno
def kLst (ws : List W) : M W := if ws.length ≤ sizeLine then fun h => .ok (.r h.length) (h ++ [.lst ws]) else mno
def kLstD (ws : List W) : M W := match allD ws with
  | some ds => if ds.length ≤ sizeLine then mpure (.d (.list ds)) else mno
  | none => mno
def kNeg (w : W) : M W := match w with
  | .d (.int i) => mpure (wI (-i))
  | _ => mno
def kSo (a : W) : M (Option Int) := mbind (asI a) fun i => mpure (some i)
def kS2 (a : W) (l : Option Int) (u : Option Int) : M W := slM a l u
def kS1 (a : W) (o' : EnvW → M (Option Int)) (env : EnvW) (l : Option Int) : M W := mbind (o' env) (kS2 a l)
def kS0 (o o' : EnvW → M (Option Int)) (env : EnvW) (a : W) : M W := mbind (o env) (kS1 a o' env)
def kJ2 (ms : List ME) (acc : Str) (env : EnvW) (y : Str) : M W := if (acc ++ y).length ≤ sizeLine then joinM ms (acc ++ y) env else mno
def kJ1 (ms : List ME) (acc : Str) (env : EnvW) (w : W) : M W := mbind (asS w) (kJ2 ms acc env)
def kV (T : Tb) (CM : FId → List W → M W) (as : EnvW → M (List W)) (env : EnvW) (w : W) : M W := match w with
  | .fn f => if T.nopos.contains (pl f) then mno else mbind (as env) (CM (pl f))
  | _ => mno
def kM (T : Tb) (CM : FId → List W → M W) (f : Str) (as : EnvW → M (List W)) (env : EnvW) (w : W) : M W := methM T CM f w (as env)
def kB (bt : BT) (q : W → List W → M W) (as : EnvW → M (List W)) (env : EnvW) (w : W) : M W := fun h => if bt.chk h w then mbind (as env) (q w) h else .no
def kNew (CM : FId → List W → M W) (x : Str) (ds ws : List W) : M W := fun h => match CM (x, "__init__") (.r h.length :: (ws ++ ds)) (h ++ [.ins x []]) with
  | .ok (.d .none) h' => .ok (.r h.length) h'
  | .ex c h' => .ex c h'
  | _ => .no
def kRt (w : W) : M Fl := mpure (.rt w)
def kSet (i : Nat) (env : EnvW) (w : W) : M Fl := mpure (.nx (env.set i (some w)))
def kFor (tg : Tg) (s : MS) (env : EnvW) (p : Src) : M Fl := over p fun ws => floop tg s ws env
def kF2 (f : Str) (env : EnvW) (b a : W) : M Fl := mbind (setFldM f a b) (kNx (.nx env))
def kX2 (env : EnvW) (v a b : W) : M Fl := mbind (setIxM a b v) (kNx (.nx env))
def kX1 (y : ME) (env : EnvW) (v a : W) : M Fl := mbind (y env) (kX2 env v a)
def kP2 (i j : Nat) (env : EnvW) (a b : W) : M Fl := mpure (.nx ((env.set i (some a)).set j (some b)))
def kG2 (i : Nat) (env : EnvW) (a b : W) : M Fl := mbind (iopM a b) (kSet i env)
def kRef (n : Nat) (_ : Unit) : M W := mpure (.r n)
def kLC (tg : Tg) (t : EnvW → M Bool) (el : ME) (env : EnvW) (p : Src) : M W := over p fun ws => fun h => mb (cLoop h.length tg t el ws (wipeW env tg.slots) (h ++ [.lst []])) (kRef h.length)
section
variable {α β : Type} {a : α} {f : α → M β} {h : AH} {c : Str} {m : M α}
@[simp] theorem mb_ok : mb (.ok a h) f = f a h := rfl
@[simp] theorem mb_ex : mb (.ex c h : R α) f = .ex c h := rfl
@[simp] theorem mb_no : mb (.no : R α) f = .no := rfl
@[simp ↓] theorem mbind_ap : mbind m f h = mb (m h) f := rfl
@[simp] theorem mpure_ap : mpure a h = .ok a h := rfl
@[simp] theorem mno_ap : (mno : M α) h = .no := rfl
@[simp] theorem mraise_ap : (mraise c : M α) h = .ex c h := rfl
end
section
variable {env : EnvW} {h : AH} {i j n : Nat} {w : W} {x y z : ME} {e : EnvW} {t u : EnvW → M Bool} {as : EnvW → M (List W)} {f g : Str} {s s' : MS} {ty : String} {op op' : CmpOp} {bo : Operator} {CM : FId → List W → M W} {fi : FId} {T : Tb} {o o' : EnvW → M (Option Int)} {tg : Tg} {mi : EnvW → M Src} {bt : BT} {q : W → List W → M W} {fn : List W → M W} {fs : List W → M Src}
@[simp ↓] theorem mVar_0 : mVar 0 (some w :: e) h = .ok w h := rfl
@[simp ↓] theorem mVar_s {o : Option W} : mVar (n + 1) (o :: e) h = mVar n e h := rfl
@[simp] theorem mC_ap : mC w env h = .ok w h := rfl
@[simp ↓] theorem eBin_ap : eBin bo x y env h = mb (x env h) (kA y env (bop bo)) := rfl
@[simp ↓] theorem eCmp_ap : eCmp op x y env h = mb (x env h) (kA y env (cmp op)) := rfl
@[simp ↓] theorem eCmp2_ap : eCmp2 op op' x y z env h = mb (x env h) (kA y env (kC2 op op' z env)) := rfl
@[simp ↓] theorem tst_ap : tst x env h = mb (x env h) asB := rfl
@[simp ↓] theorem wI_eq {i : Int} : wI i = .d (.int i) := rfl
@[simp ↓] theorem wB_eq {b : Bool} : wB b = .d (.bool b) := rfl
@[simp ↓] theorem wS_eq {x : Str} : wS x = .d (.str x) := rfl
@[simp] theorem asB_ap' {b : Bool} : asB (.d (.bool b)) h = .ok b h := rfl
theorem ite_ap {α β : Type} {b : Prop} [Decidable b] {p q : α → β} {a : α} : (if b then p else q) a = if b then p a else q a := by split <;> rfl
@[simp ↓] theorem eAnd_ap : eAnd x y env h = mb (tst x env h) (kIf (y env) (mpure (wB false))) := rfl
@[simp ↓] theorem eOr_ap : eOr x y env h = mb (tst x env h) (kIf (mpure (wB true)) (y env)) := rfl
@[simp ↓] theorem eNot_ap : eNot x env h = mb (tst x env h) (kOk fun t => wB (!t)) := rfl
@[simp ↓] theorem eNeg_ap : eNeg x env h = mb (x env h) kNeg := rfl
@[simp ↓] theorem eIf_ap : eIf t x y env h = mb (t env h) (kIf (x env) (y env)) := rfl
@[simp ↓] theorem tAnd_ap : tAndM t u env h = mb (t env h) (kIf (u env) (mpure false)) := rfl
@[simp ↓] theorem tOr_ap : tOrM t u env h = mb (t env h) (kIf (mpure true) (u env)) := rfl
@[simp ↓] theorem tNot_ap : tNotM t env h = mb (t env h) (kOk not) := rfl
@[simp ↓] theorem aList_nil : aList [] env h = .ok [] h := rfl
@[simp ↓] theorem aList_cons {ms : List ME} : aList (x :: ms) env h = mb (x env h) (kL1 (aList ms) env) := rfl
@[simp ↓] theorem eTup_ap : eTup as env h = mb (as env h) kTup := rfl
@[simp ↓] theorem eLst_ap : eLst as env h = mb (as env h) kLst := rfl
@[simp ↓] theorem eLstD_ap : eLstD as env h = mb (as env h) kLstD := rfl
@[simp ↓] theorem eIx_ap : eIx x y env h = mb (x env h) (kA y env ixM) := rfl
@[simp ↓] theorem pNo_ap : pNo env h = .ok none h := rfl
@[simp ↓] theorem pSome_ap : pSome x env h = mb (x env h) kSo := rfl
@[simp] theorem asI_ap {i : Int} : asI (.d (.int i)) h = .ok i h := rfl
@[simp ↓] theorem eSl_ap : eSl x o o' env h = mb (x env h) (kS0 o o' env) := rfl
@[simp ↓] theorem eFmt_ap : eFmt x env h = mb (x env h) fmtM := rfl
@[simp ↓] theorem joinM_nil {acc : Str} : joinM [] acc env h = .ok (wS acc) h := rfl
@[simp ↓] theorem joinM_cons {ms : List ME} {acc : Str} : joinM (x :: ms) acc env h = mb (x env h) (kJ1 ms acc env) := rfl
@[simp] theorem asS_ap {i : Str} : asS (.d (.str i)) h = .ok i h := rfl
@[simp ↓] theorem eFun_ap : eFun fn as env h = mb (as env h) fn := rfl
@[simp ↓] theorem eIsi_ap : eIsi x ty env h = mb (x env h) (isiM ty) := rfl
@[simp ↓] theorem eIsx_ap : eIsx T x f env h = mb (x env h) (isxM T f) := rfl
@[simp ↓] theorem eCall_ap : eCall CM fi as env h = mb (as env h) (CM fi) := rfl
@[simp ↓] theorem eCallV_ap : eCallV T CM i as env h = mb (mVar i env h) (kV T CM as env) := by unfold eCallV; rfl
@[simp ↓] theorem eNew_ap {ds : List W} : eNew CM f ds as env h = mb (as env h) (kNew CM f ds) := rfl
@[simp ↓] theorem eFld_ap : eFld x f env h = mb (x env h) (fldM f) := rfl
@[simp ↓] theorem eMeth_ap : eMeth T CM f x as env h = mb (x env h) (kM T CM f as env) := rfl
@[simp ↓] theorem eBM_ap : eBM bt q x as env h = mb (x env h) (kB bt q as env) := rfl
@[simp ↓] theorem sNil_ap : sNil env h = .ok (.nx env) h := rfl
@[simp ↓] theorem sBlock_nil : sBlock [] env h = .ok (.nx env) h := rfl
@[simp ↓] theorem sBlock_one : sBlock [s] env h = s env h := rfl
def fnext (s : MS) : Fl → M Fl
  | .nx e => s e
  | fl => mpure fl
@[simp] theorem fnext_nx : fnext s (.nx e) h = s e h := rfl
@[simp] theorem fnext_rt : fnext s (.rt w) h = .ok (.rt w) h := rfl
@[simp] theorem fnext_bk : fnext s (.bk e) h = .ok (.bk e) h := rfl
@[simp] theorem fnext_ct : fnext s (.ct e) h = .ok (.ct e) h := rfl
@[simp ↓] theorem sBlock_two {ss : List MS} : sBlock (s :: s' :: ss) env h = mb (s env h) (fnext (sBlock (s' :: ss))) := by
  show sSeq s (sBlock (s' :: ss)) env h = _
  unfold sSeq mbind mb
  cases s env h with
  | ok fl h' => cases fl <;> rfl
  | ex c h' => rfl
  | no => rfl
@[simp ↓] theorem sExpr_ap : sExpr x env h = mb (x env h) (kNx (.nx env)) := rfl
@[simp ↓] theorem sRet_ap : sRet x env h = mb (x env h) kRt := rfl
@[simp ↓] theorem sRetN_ap : sRetN env h = .ok (.rt (.d .none)) h := rfl
@[simp ↓] theorem sBreak_ap : sBreak env h = .ok (.bk env) h := rfl
@[simp ↓] theorem sCont_ap : sCont env h = .ok (.ct env) h := rfl
@[simp ↓] theorem sIf_ap : sIf t s s' env h = mb (t env h) (kIf (s env) (s' env)) := rfl
@[simp ↓] theorem sSet_ap : sSet i x env h = mb (x env h) (kSet i env) := rfl
@[simp ↓] theorem sRaise_ap : sRaise f env h = .ex f h := rfl
@[simp ↓] theorem sFor_ap : sFor tg mi s env h = mb (mi env h) (kFor tg s env) := rfl
@[simp ↓] theorem iVal_ap : iVal x env h = mb (x env h) srcM := rfl
@[simp ↓] theorem iFun_ap : iFun fs as env h = mb (as env h) fs := rfl
@[simp ↓] theorem sFldW_ap : sFldW f x y env h = mb (y env h) (kA x env (kF2 f env)) := rfl
@[simp ↓] theorem sIxW_ap : sIxW x y z env h = mb (z env h) (kA x env (kX1 y env)) := rfl
@[simp ↓] theorem sTgW_ap : sTgW tg x env h = mb (x env h) (kTg tg env) := rfl
@[simp ↓] theorem sPar_ap : sPar i j x y env h = mb (x env h) (kA y env (kP2 i j env)) := rfl
@[simp ↓] theorem sAug_ap : sAug i x env h = mb (mVar i env h) (kA x env (kG2 i env)) := rfl
@[simp ↓] theorem eLC_ap {el : ME} : eLC tg mi t el env h = mb (mi env h) (kLC tg t el env) := rfl
@[simp] theorem over_none {α : Type} {ws : List W} {f : List W → M α} : over (ws, none) f h = f ws h := rfl
@[simp ↓] theorem tTrue_ap : tTrue env h = .ok true h := rfl
@[simp ↓] theorem kA_ap {β : Type} {F : W → W → M β} : kA y env F w h = mb (y env h) (F w) := rfl
@[simp ↓] theorem kIf_t {β : Type} {p q : M β} : kIf p q true h = p h := rfl
@[simp ↓] theorem kIf_f {β : Type} {p q : M β} : kIf p q false h = q h := rfl
@[simp] theorem kOk_ap {β γ : Type} {g : β → γ} {b : β} : kOk g b h = .ok (g b) h := rfl
@[simp] theorem kNx_ap {β : Type} {fl : Fl} {b : β} : kNx fl b h = .ok fl h := rfl
@[simp ↓] theorem kC2_ap {a b : W} : kC2 op op' z env a b h = mb (cmp op a b h) (kC3 op' b z env) := rfl
@[simp ↓] theorem kC3_ap {b : W} {c : Bool} : kC3 op' b z env (.d (.bool c)) h = kC4 op' b z env c h := rfl
@[simp ↓] theorem kC4_t {b : W} : kC4 op' b z env true h = mb (z env h) (cmp op' b) := rfl
@[simp ↓] theorem kC4_f {b : W} : kC4 op' b z env false h = .ok (wB false) h := rfl
@[simp ↓] theorem kL1_ap {r : EnvW → M (List W)} : kL1 r env w h = mb (r env h) (kL2 w) := rfl
@[simp] theorem kL2_ap {ws : List W} : kL2 w ws h = .ok (w :: ws) h := rfl
@[simp] theorem kSo_ap {i : Int} : kSo (.d (.int i)) h = .ok (some i) h := rfl
@[simp ↓] theorem kS0_ap : kS0 o o' env w h = mb (o env h) (kS1 w o' env) := rfl
@[simp ↓] theorem kS1_ap {l : Option Int} : kS1 w o' env l h = mb (o' env h) (kS2 w l) := rfl
@[simp] theorem kS2_ap {l u : Option Int} : kS2 w l u h = slM w l u h := rfl
@[simp ↓] theorem kJ1_ap {ms : List ME} {acc y : Str} : kJ1 ms acc env (.d (.str y)) h = kJ2 ms acc env y h := rfl
@[simp ↓] theorem kV_ap (hn : T.nopos.contains (pl f) = false) : kV T CM as env (.fn f) h = mb (as env h) (CM (pl f)) := by
  show (if T.nopos.contains (pl f) = true then mno else mbind (as env) (CM (pl f))) h = _
  rw [hn]; rfl
@[simp ↓] theorem eLen_ap : eLen T CM x env h = mb (x env h) (kLen T CM) := rfl
@[simp] theorem kLen_d {d : PyData} : kLen T CM (.d d) h = fLen [.d d] h := rfl
theorem kLen_l {ws : List W} (hi : h[i]? = some (.lst ws)) : kLen T CM (.r i) h = .ok (wI ws.length) h := by
  unfold kLen fLen; simp only [hi]
theorem eOut_ap {w : W} {h1 : AH} (hm : x env h = .ok w h1) : eOut x env h = outM h w h1 := by unfold eOut; rw [hm]
@[simp] theorem kM_ap : kM T CM f as env w h = methM T CM f w (as env) h := rfl
@[simp] theorem kRt_ap : kRt w h = .ok (.rt w) h := rfl
@[simp] theorem kSet_ap : kSet i env w h = .ok (.nx (env.set i (some w))) h := rfl
@[simp] theorem kFor_ap {ws : List W} : kFor tg s env (ws, none) h = floop tg s ws env h := rfl
@[simp ↓] theorem kF2_ap {a b : W} : kF2 f env b a h = mb (setFldM f a b h) (kNx (.nx env)) := rfl
@[simp ↓] theorem kX1_ap {v a : W} : kX1 y env v a h = mb (y env h) (kX2 env v a) := rfl
@[simp ↓] theorem kX2_ap {v a b : W} : kX2 env v a b h = mb (setIxM a b v h) (kNx (.nx env)) := rfl
@[simp] theorem kP2_ap {a b : W} : kP2 i j env a b h = .ok (.nx ((env.set i (some a)).set j (some b))) h := rfl
@[simp ↓] theorem kG2_ap {a b : W} : kG2 i env a b h = mb (iopM a b h) (kSet i env) := rfl
@[simp] theorem kRef_ap {u : Unit} : kRef n u h = .ok (.r n) h := rfl
@[simp] theorem kNeg_ap {i : Int} : kNeg (.d (.int i)) h = .ok (wI (-i)) h := rfl
end
/-! ### ends -/
theorem fine_app {h j : AH} : Fine h (h ++ j) := fun i o hi e => by
  rw [List.getElem?_append_left hi] at e; exact .inl e
theorem take_app {h j : AH} : (h ++ j).take h.length = h := by simp
theorem end_d {h j : AH} {x : PyData} : endM h (.ok (.rt (.d x)) (h ++ j)) = .ok (.d x) h := by
  show outM h (.d x) (h ++ j) = _
  unfold outM
  rw [if_pos (fineB_iff.mpr fine_app)]
  show R.ok (W.d x) ((h ++ j).take h.length) = _
  rw [take_app]
@[simp] theorem end_d0 {h : AH} {x : PyData} : endM h (.ok (.rt (.d x)) h) = .ok (.d x) h := by
  have := end_d (h := h) (j := []) (x := x)
  rwa [List.append_nil] at this
theorem end_nx {h j : AH} {e : EnvW} : endM h (.ok (.nx e) (h ++ j)) = .ok (.d .none) h := end_d
@[simp] theorem end_nx0 {h : AH} {e : EnvW} : endM h (.ok (.nx e) h) = .ok (.d .none) h := by
  have := end_nx (h := h) (j := []) (e := e)
  rwa [List.append_nil] at this
theorem end_ex {h j : AH} {c : Str} : endM h (.ex c (h ++ j)) = .ex c h := by
  unfold endM
  simp only
  rw [if_pos (fineB_iff.mpr fine_app), take_app]
@[simp] theorem end_ex0 {h : AH} {c : Str} : endM h (.ex c h) = .ex c h := by
  have := end_ex (h := h) (j := []) (c := c)
  rwa [List.append_nil] at this
theorem frzL_data {n : Nat} {h : AH} {k : Nat} : ∀ ds : List PyData, frzL n h k (ds.map .d) = some ds
  | [] => rfl
  | d :: ds => by
    have e1 : frz n h k (.d d) = some d := by cases k <;> simp [frz]
    simp only [List.map_cons, frzLw, e1, frzL_data ds]
/-- a new list of data comes back as data -/
theorem end_l {h j : AH} {i : Nat} {ds : List PyData} (hi : h.length ≤ i) (hj : (h ++ j)[i]? = some (.lst (ds.map .d))) : endM h (.ok (.rt (.r i)) (h ++ j)) = .ok (.d (.list ds)) h := by
  show outM h (.r i) (h ++ j) = _
  unfold outM
  rw [if_pos (fineB_iff.mpr fine_app)]
  have e : frzW h.length (h ++ j) (.r i) = some (.d (.list ds)) := by
    show (if i < h.length then some (W.r i) else (frz h.length (h ++ j) 4 (.r i)).map W.d) = _
    rw [if_neg (by omega)]
    have e3 : frz h.length (h ++ j) (3 + 1) (.r i) = some (.list ds) := by
      show (if h.length ≤ i then (match (h ++ j)[i]? with
        | some (.lst ws) => (frzLw (frz h.length (h ++ j) 3) ws).map PyData.list
        | some (.dic kvs) => (frzDw (frz h.length (h ++ j) 3) kvs).map PyData.dict
        | _ => none) else none) = _
      rw [if_pos hi, hj]
      show (frzL h.length (h ++ j) 3 (ds.map .d)).map PyData.list = _
      rw [frzL_data]; rfl
    rw [e3]; rfl
  rw [e]
  show R.ok _ ((h ++ j).take h.length) = _
  rw [take_app]
theorem end_l1 {h j : AH} {ds : List PyData} : endM h (.ok (.rt (.r h.length)) (h ++ (.lst (ds.map .d) :: j))) = .ok (.d (.list ds)) h := end_l (Nat.le_refl _) (by simp)
/-- one old object changed -/
theorem fine_set {h j : AH} {t : Nat} {o : AO} (ho : o.clos h.length) (ht : t < h.length) : Fine h (h.set t o ++ j) := fun i u hi e => by
  rw [List.getElem?_append_left (by rw [List.length_set]; exact hi)] at e
  by_cases q : t = i
  · subst q
    rw [List.getElem?_set_self ht] at e
    cases e; exact .inr ho
  · rw [List.getElem?_set_ne q] at e; exact .inl e
theorem end_set {h j : AH} {t : Nat} {o : AO} {x : PyData} (ho : o.clos h.length) (ht : t < h.length) : endM h (.ok (.rt (.d x)) (h.set t o ++ j)) = .ok (.d x) (h.set t o) := by
  show outM h (.d x) (h.set t o ++ j) = _
  unfold outM
  rw [if_pos (fineB_iff.mpr (fine_set ho ht))]
  show R.ok (W.d x) ((h.set t o ++ j).take h.length) = _
  rw [show (h.set t o ++ j).take h.length = h.set t o from by rw [← List.length_set (i := t) (a := o)]; simp]
theorem end_set0 {h : AH} {t : Nat} {o : AO} {x : PyData} (ho : o.clos h.length) (ht : t < h.length) : endM h (.ok (.rt (.d x)) (h.set t o)) = .ok (.d x) (h.set t o) := by
  have := end_set (j := []) (x := x) ho ht
  rwa [List.append_nil] at this
theorem clos_data {n : Nat} {ds : List PyData} : (AO.lst (ds.map .d)).clos n := fun w hw => by
  obtain ⟨d, _, rfl⟩ := List.mem_map.mp hw
  trivial
/-! ### comprehensions whose items change nothing -/
theorem lc_go {id : Nat} {t : Tg} {tt : EnvW → M Bool} {el : ME} {env : EnvW} {h : AH} {f : W → Option W} (hid : id = h.length) : ∀ (ws : List W) (acc : List W),
    (∀ w ∈ ws, ∀ acc : List W, ∃ e1, tgM t w env = some e1 ∧ (match f w with
      | some y => tt e1 (h ++ [.lst acc]) = .ok true (h ++ [.lst acc]) ∧ el e1 (h ++ [.lst acc]) = .ok y (h ++ [.lst acc])
      | none => tt e1 (h ++ [.lst acc]) = .ok false (h ++ [.lst acc]))) → acc.length + ws.length ≤ sizeLine →
    cLoop id t tt el ws env (h ++ [.lst acc]) = .ok () (h ++ [.lst (acc ++ ws.filterMap f)])
  | [], acc, _, _ => by simp [cLoop, mpure]
  | w :: ws, acc, hw, hl => by
    obtain ⟨e1, h1, h2⟩ := hw w (List.mem_cons_self ..) acc
    have ih := fun a hl => lc_go hid ws a (fun x hx => hw x (List.mem_cons_of_mem _ hx)) hl
    unfold cLoop
    rw [h1]
    simp only [mbind_ap]
    cases q : f w with
    | none =>
      rw [q] at h2
      simp only at h2
      rw [show noEx (tt e1) (h ++ [.lst acc]) = .ok false (h ++ [.lst acc]) from by unfold noEx; rw [h2]]
      simp only [mb_ok, Bool.false_eq_true, if_false]
      rw [ih acc (by simp at hl; omega), List.filterMap_cons, q]
    | some y =>
      rw [q] at h2
      simp only at h2
      rw [show noEx (tt e1) (h ++ [.lst acc]) = .ok true (h ++ [.lst acc]) from by unfold noEx; rw [h2.1]]
      simp only [mb_ok, if_true, mbind_ap]
      rw [show noEx (el e1) (h ++ [.lst acc]) = .ok y (h ++ [.lst acc]) from by unfold noEx; rw [h2.2]]
      simp only [mb_ok, mbind_ap]
      have e2 : pushM id y (h ++ [.lst acc]) = .ok () (h ++ [.lst (acc ++ [y])]) := by
        unfold pushM
        subst hid
        rw [show (h ++ [AO.lst acc])[h.length]? = some (.lst acc) from by simp]
        simp only
        rw [if_pos (by simp at hl; omega)]
        simp
      rw [e2]
      simp only [mb_ok]
      rw [ih (acc ++ [y]) (by simp at hl ⊢; omega), List.filterMap_cons, q]
      simp
/-- a comprehension over a source that is not locked -/
theorem lc_ap {t : Tg} {mi : EnvW → M Src} {tt : EnvW → M Bool} {el : ME} {env : EnvW} {h : AH} {f : W → Option W} {ws : List W} (hs : mi env h = .ok (ws, none) h) (hl : ws.length ≤ sizeLine)
    (hw : ∀ w ∈ ws, ∀ acc : List W, ∃ e1, tgM t w (wipeW env t.slots) = some e1 ∧ (match f w with
      | some y => tt e1 (h ++ [.lst acc]) = .ok true (h ++ [.lst acc]) ∧ el e1 (h ++ [.lst acc]) = .ok y (h ++ [.lst acc])
      | none => tt e1 (h ++ [.lst acc]) = .ok false (h ++ [.lst acc]))) :
    eLC t mi tt el env h = .ok (.r h.length) (h ++ [.lst (ws.filterMap f)]) := by
  rw [eLC_ap, hs, mb_ok]
  show mb (cLoop h.length t tt el ws (wipeW env t.slots) (h ++ [.lst []])) (kRef h.length) = _
  rw [lc_go rfl ws [] hw (by simpa using hl)]
  simp
/-- a comprehension over a list that is locked -/
theorem lc_lock {t : Tg} {mi : EnvW → M Src} {tt : EnvW → M Bool} {el : ME} {env : EnvW} {h : AH} {f : W → Option W} {ws : List W} {i : Nat} (hs : mi env h = .ok (ws, some i) h) (hi : h[i]? = some (.lst ws)) (hl : ws.length ≤ sizeLine)
    (hw : ∀ w ∈ ws, ∀ acc : List W, ∃ e1, tgM t w (wipeW env t.slots) = some e1 ∧ (match f w with
      | some y => tt e1 (h.set i .dead ++ [.lst acc]) = .ok true (h.set i .dead ++ [.lst acc]) ∧ el e1 (h.set i .dead ++ [.lst acc]) = .ok y (h.set i .dead ++ [.lst acc])
      | none => tt e1 (h.set i .dead ++ [.lst acc]) = .ok false (h.set i .dead ++ [.lst acc]))) :
    eLC t mi tt el env h = .ok (.r h.length) (h ++ [.lst (ws.filterMap f)]) := by
  rw [eLC_ap, hs, mb_ok]
  unfold kLC over
  simp only
  rw [lc_go rfl ws [] hw (by simpa using hl)]
  simp only [mb_ok, kRef_ap, List.length_set, List.nil_append]
  have hil : i < h.length := (List.getElem?_eq_some_iff.mp hi).1
  rw [List.set_append_left _ _ (by rw [List.length_set]; exact hil), List.set_set]
  congr 2
  exact List.set_getElem?_self hi
where
  List.set_getElem?_self {h : AH} {i : Nat} {o : AO} (hi : h[i]? = some o) : h.set i o = h := by
    obtain ⟨hl, e⟩ := List.getElem?_eq_some_iff.mp hi
    rw [← e]; simp
end Ev
set_option Elab.async false
set_option linter.all false
set_option maxRecDepth 100000
set_option maxHeartbeats 4000000
/-! E19: loops by the front. -/
namespace Ev
open PySem PySem.Spec PyProof.Rows L2 He
def kLoop (t : Tg) (b : MS) (ws : List W) (fl : Fl) : M Fl := match fl with
  | .nx e => floop t b ws e
  | .ct e => floop t b ws e
  | .bk e => mpure (.nx e)
  | .rt w => mpure (.rt w)
section
variable {t : Tg} {b : MS} {ws : List W} {w : W} {env e : EnvW} {h : AH} {i : Nat}
@[simp] theorem floop_nil : floop t b [] env h = .ok (.nx env) h := rfl
@[simp] theorem floop_n : floop (.n i) b (w :: ws) env h = mb (b (env.set i (some w)) h) (kLoop (.n i) b ws) := rfl
theorem floop_c {e1 : EnvW} (q : tgM t w env = some e1) : floop t b (w :: ws) env h = mb (b e1 h) (kLoop t b ws) := by
  show (match tgM t w env with
    | none => mno
    | some env1 => mbind (b env1) (kLoop t b ws)) h = _
  rw [q]; rfl
@[simp ↓] theorem kLoop_nx : kLoop t b ws (.nx e) h = floop t b ws e h := rfl
@[simp ↓] theorem kLoop_ct : kLoop t b ws (.ct e) h = floop t b ws e h := rfl
@[simp ↓] theorem kLoop_bk : kLoop t b ws (.bk e) h = .ok (.nx e) h := rfl
@[simp ↓] theorem kLoop_rt : kLoop t b ws (.rt w) h = .ok (.rt w) h := rfl
end
/-- a list item given back, old or changed in place -/
theorem end_ri {h j : AH} {i : Nat} {o : AO} (hi : i < h.length) (ho : o.clos h.length) : endM h (.ok (.rt (.r i)) (h.set i o ++ j)) = .ok (.r i) (h.set i o) := by
  show outM h (.r i) (h.set i o ++ j) = _
  unfold outM
  rw [if_pos (fineB_iff.mpr (fine_set ho hi))]
  have e : frzW h.length (h.set i o ++ j) (.r i) = some (.r i) := if_pos hi
  rw [e]
  show R.ok _ ((h.set i o ++ j).take h.length) = _
  rw [show (h.set i o ++ j).take h.length = h.set i o from by rw [← List.length_set (i := i) (a := o)]; simp]
theorem end_r0 {h j : AH} {i : Nat} (hi : i < h.length) : endM h (.ok (.rt (.r i)) (h ++ j)) = .ok (.r i) h := by
  show outM h (.r i) (h ++ j) = _
  unfold outM
  rw [if_pos (fineB_iff.mpr fine_app)]
  have e : frzW h.length (h ++ j) (.r i) = some (.r i) := if_pos hi
  rw [e]
  show R.ok _ ((h ++ j).take h.length) = _
  rw [take_app]
theorem end_r00 {h : AH} {i : Nat} (hi : i < h.length) : endM h (.ok (.rt (.r i)) h) = .ok (.r i) h := by
  have := end_r0 (j := []) hi
  rwa [List.append_nil] at this
end Ev
set_option Elab.async false
set_option linter.all false
set_option maxRecDepth 100000
set_option maxHeartbeats 400000
namespace Ev
open PySem PySem.Spec PyProof.Rows L2 He
theorem allD_map (ds : List PyData) : allD (ds.map .d) = some ds := by
  induction ds with
  | nil => rfl
  | cons d ds ih => simp [allD, ih]
theorem boolsD_map (bs : List Bool) : boolsD (bs.map PyData.bool) = some bs := by
  induction bs with
  | nil => rfl
  | cons d ds ih => simp [boolsD, ih]
theorem intsD_map (bs : List Int) : intsD (bs.map PyData.int) = some bs := by
  induction bs with
  | nil => rfl
  | cons d ds ih => simp [intsD, ih]
theorem strsD_map (bs : List Str) : strsD (bs.map PyData.str) = some bs := by
  induction bs with
  | nil => rfl
  | cons d ds ih => simp [strsD, ih]
theorem peek_last {h : AH} {ds : List PyData} : peek (h ++ [.lst (ds.map .d)]) (.r h.length) = some (.list ds) := by
  simp [peek, allD_map]
theorem listD_last {h : AH} {ds : List PyData} : listD (h ++ [.lst (ds.map .d)]) (.r h.length) = some ds := by
  simp [listD, peek_last]
theorem filterMap_some {α β : Type} (f : α → β) (l : List α) : l.filterMap (fun x => some (f x)) = l.map f := by
  induction l with
  | nil => rfl
  | cons a l ih => simp
theorem boolsMap {α : Type} (f : α → Bool) (l : List α) : boolsD (l.map fun x => PyData.bool (f x)) = some (l.map f) := by
  rw [← boolsD_map, List.map_map]; rfl
theorem canAll {xs : List PyData} (h : ∀ y ∈ xs, y.canLay0 = true) : PyData.canLayAll0 xs = true := by
  induction xs with
  | nil => rfl
  | cons x xs ih => simp [PyData.canLayAll0, h x (by simp), ih fun y hy => h y (by simp [hy])]
theorem depAll {n : Nat} {xs : List PyData} (h : ∀ y ∈ xs, y.depth ≤ n) : PyData.depthAll xs ≤ n := by
  induction xs with
  | nil => simp [PyData.depthAll]
  | cons x xs ih =>
    have h1 := h x (by simp)
    have h2 := ih fun y hy => h y (by simp [hy])
    simp only [PyData.depthAll]; omega
theorem sh_int {i : Int} : SeqAt.shaped (.int i) = true := by simp [SeqAt.shaped, PyData.canLay0, PyData.depth]
theorem sh_bool {i : Bool} : SeqAt.shaped (.bool i) = true := by simp [SeqAt.shaped, PyData.canLay0, PyData.depth]
theorem sh_q : SeqAt.shaped (.str "?") = true := by decide +kernel
theorem eqv_ii {i j : Int} : PyData.eqv (.int i) (.int j) = decide (i = j) := by simp [PyData.eqv]; exact Bool.beq_eq_decide_eq i j
theorem eqv_bb {i j : Bool} : PyData.eqv (.bool i) (.bool j) = (i == j) := by simp [PyData.eqv]
theorem eqv_ss {i j : Str} : PyData.eqv (.str i) (.str j) = (i == j) := by simp [PyData.eqv]
theorem at0 {α : Type} {a : α} {r : List α} : atI (a :: r) 0 = some a := by simp [atI, ixN]
theorem at1 {α : Type} {a b : α} {r : List α} : atI (a :: b :: r) 1 = some b := by
  have q : (1 : Int) < ((a :: b :: r).length : Int) := by simp; omega
  unfold atI ixN; rw [if_pos (by decide), if_pos q]; rfl
theorem cut1 {α : Type} {a : α} {r : List α} : cutL (a :: r) (some 1) none = r := by
  have e : HT.sIx (a :: r).length 0 (some 1) = 1 := by
    rw [show (1 : Int) = ((1 : Nat) : Int) from rfl, HT.sIx_nat]; simp
  unfold cutL
  rw [e, HT.sIx_none]
  simp
theorem eqv_nil {ds : List PyData} : PyData.eqv (.list ds) (.list []) = ds.isEmpty := by
  cases ds <;> simp [PyData.eqv, PyData.eqvAll]
def LI (is : List Int) : AO := .lst ((is.map PyData.int).map .d)
theorem set_same {h : AH} {i : Nat} {o : AO} (hi : h[i]? = some o) : h.set i o = h := by
  obtain ⟨hl, e⟩ := List.getElem?_eq_some_iff.mp hi
  rw [← e]; simp
theorem peek_LI {h : AH} {i : Nat} {is : List Int} (hi : h[i]? = some (LI is)) : peek h (.r i) = some (.list (is.map PyData.int)) := by
  simp only [peek, hi, LI, allD_map]; rfl
theorem any_int {i : Int} : ∀ is : List Int, ((is.map PyData.int).any fun y => PyData.eqv y (.int i)) = is.contains i
  | [] => rfl
  | j :: is => by
    have ih := any_int (i := i) is
    rw [List.map_cons, List.any_cons, ih, eqv_ii, List.contains_cons]
    congr 1
    rw [Bool.beq_eq_decide_eq]
    exact decide_eq_decide.mpr ⟨fun e => e.symm, fun e => e.symm⟩
theorem flat_ints (is : List Int) : (is.map PyData.int).all flatD = true := by
  rw [List.all_map]; exact List.all_eq_true.mpr fun _ _ => rfl
theorem in_LI {h : AH} {i : Nat} {is : List Int} {j : Int} {neg : Bool} (hi : h[i]? = some (LI is)) : cIn neg (.d (.int j)) (.r i) h = .ok (.d (.bool (if neg then !is.contains j else is.contains j))) h := by
  unfold cIn
  simp only [peek_LI hi]
  show (if (flatD (.int j) && (is.map PyData.int).all flatD) = true then R.ok (wB (if neg then !(is.map PyData.int).any fun y => PyData.eqv y (.int j) else (is.map PyData.int).any fun y => PyData.eqv y (.int j))) h else R.no) = _
  rw [if_pos (by rw [flat_ints]; rfl), any_int]; rfl
theorem clos_LI {n : Nat} {is : List Int} : (LI is).clos n := clos_data
def dI (is : List Int) : PyData := .list (is.map PyData.int)
theorem sh_ints {is : List Int} : SeqAt.shaped (dI is) = true := by
  have q1 : ∀ y ∈ is.map PyData.int, y.canLay0 = true := fun y hy => by
    obtain ⟨c, hc, rfl⟩ := List.mem_map.mp hy; rfl
  have q2 : ∀ y ∈ is.map PyData.int, y.depth ≤ 0 := fun y hy => by
    obtain ⟨c, hc, rfl⟩ := List.mem_map.mp hy
    simp [PyData.depth]
  have := depAll q2
  unfold SeqAt.shaped dI
  simp only [PyData.canLay0, canAll q1, PyData.depth, Bool.true_and]
  exact decide_eq_true (by omega)
theorem eqv_dI {is : List Int} : PyData.eqv (dI is) (dI is) = true := SeqAt.eqv_refl _ (by
  have := sh_ints (is := is)
  unfold SeqAt.shaped at this
  exact (Bool.and_eq_true_iff.mp this).1)
theorem eqv_dI_nil {is : List Int} : PyData.eqv (dI is) (.list []) = is.isEmpty := by
  unfold dI; rw [eqv_nil]; cases is <;> rfl
theorem sh_nil : SeqAt.shaped (.list []) = true := by decide +kernel
theorem bAdd_l {H : AH} {i j : Nat} {a b : List W} (h1 : H[i]? = some (.lst a)) (h2 : H[j]? = some (.lst b)) (hl : a.length + b.length ≤ sizeLine) : bAdd (.r i) (.r j) H = .ok (.r H.length) (H ++ [.lst (a ++ b)]) := by
  unfold bAdd; simp only [h1, h2, if_pos hl]
theorem kLst_ap {ws : List W} {h : AH} (hl : ws.length ≤ 1000) : kLst ws h = .ok (.r h.length) (h ++ [.lst ws]) := by
  unfold kLst; rw [if_pos (Nat.le_trans hl (by decide))]
theorem at_n {h l : AH} {i : Nat} : (h ++ l)[h.length + i]? = l[i]? := by
  rw [List.getElem?_append_right (by omega)]; simp
theorem at_l {h l : AH} : (h ++ l)[h.length]? = l[0]? := by
  rw [List.getElem?_append_right (Nat.le_refl _)]; simp
theorem at_l1 {h l : AH} : (h ++ l)[h.length + 1]? = l[1]? := by
  rw [List.getElem?_append_right (by omega)]; simp
theorem cpl4 {h : AH} {t : Nat} {o : AO} {l : AH} (ht : t < h.length) : (h ++ l).set t o = h.set t o ++ l := by
  rw [List.set_append_left _ _ ht]
theorem atI_get {α : Type} {xs : List α} {i : Int} (h0 : 0 ≤ i) (h1 : i < xs.length) : atI xs i = xs[i.toNat]? := by
  unfold atI ixN; rw [if_pos h0, if_pos h1]; rfl
theorem getD_int {ts : List Int} {p : Nat} (h : p < ts.length) : ((ts.map PyData.int).map W.d)[p]? = some (.d (.int (ts.getD p 0))) := by
  simp [h]
theorem ix_LI {h : AH} {t : Nat} {ts : List Int} {i : Int} (ht : h[t]? = some (LI ts)) (h0 : 0 ≤ i) (h1 : i < ts.length) : ixM (.r t) (.d (.int i)) h = .ok (.d (.int (ts.getD i.toNat 0))) h := by
  have e : atI ((ts.map PyData.int).map W.d) i = some (.d (.int (ts.getD i.toNat 0))) := by
    rw [atI_get h0 (by simpa using h1), getD_int (by omega)]
  unfold ixM
  have ht' : h[t]? = some (.lst ((ts.map PyData.int).map W.d)) := ht
  simp only [ht', e]
theorem ix_dI {h : AH} {ns : List Int} {i : Int} (h0 : 0 ≤ i) (h1 : i < ns.length) : ixM (.d (dI ns)) (.d (.int i)) h = .ok (.d (.int (ns.getD i.toNat 0))) h := by
  have e : atI (ns.map PyData.int) i = some (.int (ns.getD i.toNat 0)) := by
    rw [atI_get h0 (by simpa using h1)]
    have : i.toNat < ns.length := by omega
    simp [this]
  show (match atI (ns.map PyData.int) i with
    | some d => R.ok (W.d d) h
    | none => R.no) = _
  rw [e]
theorem set_LI {h : AH} {t : Nat} {ts : List Int} {i v : Int} (ht : h[t]? = some (LI ts)) (h0 : 0 ≤ i) (h1 : i < ts.length) : setIxM (.r t) (.d (.int i)) (.d (.int v)) h = .ok () (h.set t (LI (ts.set i.toNat v))) := by
  unfold setIxM
  have ht' : h[t]? = some (.lst ((ts.map PyData.int).map W.d)) := ht
  have e : ixN ((ts.map PyData.int).map W.d).length i = some i.toNat := by
    unfold ixN; rw [if_pos h0, if_pos (by simpa using h1)]
  simp only [ht', e]
  congr 2
  simp [LI, List.map_set]
structure Tw (ns : List Int) (c : Int) (ts : List Int) : Prop where
  len : ts.length = ns.length + 1
  lo : 0 ≤ ts.getD 0 0
  hi : ts.getD 0 0 ≤ c
theorem Tw.up {ns ts : List Int} {c c' : Int} (T : Tw ns c ts) (h : c ≤ c') : Tw ns c' ts := ⟨T.len, T.lo, by have := T.hi; omega⟩
end Ev
set_option Elab.async false
set_option linter.all false
set_option maxRecDepth 100000
set_option maxHeartbeats 0
namespace Ev
open PySem PySem.Spec PyProof.Rows L2 He
abbrev PROG : Program := PySem.Challenge.pw_toldnames_k23_refused_stores
abbrev ROW : PySem.W.OpenLaw := PySem.Challenge.rw_toldnames_k23_refused_stores
def topS (i : Nat) : Stmt := PROG.main.body.getD i (.Pass ⟨0, 0, 0, 0⟩)
def topM (i j : Nat) : Stmt := match topS i with
  | .ClassDef _ _ _ b _ _ _ _ _ _ _ => b.getD j (.Pass ⟨0, 0, 0, 0⟩)
  | _ => .Pass ⟨0, 0, 0, 0⟩
def TT : Tb where
  defs := ["_law_draw", "_law_one", "_law_refused", "_law_told", "_law_town", "_law_whole", "_law_word", "add_names", "count_parts", "is_int", "is_name", "is_number", "is_term", "is_tree", "is_word", "law", "look_term"]
  clss := ["Store"]
  excs := ["ToldError", "BadTerm", "BadText", "BadProgram", "BadNumber", "BadOrder", "NoName", "NoWord", "NoHand", "NoChoice", "Clash", "TooLong"]
  cons := [("LETTERS", .str "abcdefghijklmnopqrstuvwxyz"), ("MOST_PARTS", .int 300)]
  free := ["LookupError", "all", "any", "bool", "int", "isinstance", "len", "list", "max", "min", "range", "str", "tuple", "zip"]
  flds := ["found"]
  meths := [("Store", "__len__"), ("Store", "make"), ("Store", "look"), ("Store", "head"), ("Store", "holds"), ("Store", "bound"), ("Store", "merge"), ("Store", "joined"), ("Store", "tell"), ("Store", "full"), ("Store", "value"), ("Store", "same"), ("Store", "known"), ("Store", "twin")]
  sups := [("ToldError", ["ToldError", "LookupError"]), ("BadTerm", ["BadTerm", "ToldError", "LookupError"]), ("BadText", ["BadText", "ToldError", "LookupError"]), ("BadProgram", ["BadProgram", "ToldError", "LookupError"]), ("BadNumber", ["BadNumber", "ToldError", "LookupError"]), ("BadOrder", ["BadOrder", "ToldError", "LookupError"]), ("NoName", ["NoName", "ToldError", "LookupError"]), ("NoWord", ["NoWord", "ToldError", "LookupError"]), ("NoHand", ["NoHand", "ToldError", "LookupError"]), ("NoChoice", ["NoChoice", "ToldError", "LookupError"]), ("Clash", ["Clash", "ToldError", "LookupError"]), ("TooLong", ["TooLong", "ToldError", "LookupError"])]
  xt := ["BadNumber", "BadOrder", "BadProgram", "BadTerm", "BadText", "Clash", "LookupError", "NoChoice", "NoHand", "NoName", "NoWord", "TooLong"]
  dfls := [(("Store", "__init__"), 1, [.int 0])]
def e_is_number : Ent := { id := ("", "is_number"), st := topS 16, N := ["thing", "least", "most"], ps := ["thing", "least", "most"], name := "is_number", qual := "is_number" }
theorem g_is_number : e_is_number.good TT := ⟨⟨rfl, rfl, rfl, by decide +kernel, rfl, by decide +kernel, by decide +kernel⟩, fun _ K a fd F => FunD.bindsN F fun _ _ _ _ _ _ us hl => match us, hl with | [_, _, _], _ => rfl, no_look (by decide +kernel), no_look (by decide +kernel)⟩
def e_is_int : Ent := { id := ("", "is_int"), st := topS 17, N := ["thing"], ps := ["thing"], name := "is_int", qual := "is_int" }
theorem g_is_int : e_is_int.good TT := ⟨⟨rfl, rfl, rfl, by decide +kernel, rfl, by decide +kernel, by decide +kernel⟩, fun _ K a fd F => FunD.bindsN F fun _ _ _ _ _ _ us hl => match us, hl with | [_], _ => rfl, no_look (by decide +kernel), no_look (by decide +kernel)⟩
def e_is_word : Ent := { id := ("", "is_word"), st := topS 18, N := ["thing", "sign"], ps := ["thing"], name := "is_word", qual := "is_word" }
theorem g_is_word : e_is_word.good TT := ⟨⟨rfl, rfl, rfl, by decide +kernel, rfl, by decide +kernel, by decide +kernel⟩, fun _ K a fd F => FunD.bindsN F fun _ _ _ _ _ _ us hl => match us, hl with | [_], _ => rfl, no_look (by decide +kernel), no_look (by decide +kernel)⟩
def e_is_name : Ent := { id := ("", "is_name"), st := topS 19, N := ["thing"], ps := ["thing"], name := "is_name", qual := "is_name" }
theorem g_is_name : e_is_name.good TT := ⟨⟨rfl, rfl, rfl, by decide +kernel, rfl, by decide +kernel, by decide +kernel⟩, fun _ K a fd F => FunD.bindsN F fun _ _ _ _ _ _ us hl => match us, hl with | [_], _ => rfl, no_look (by decide +kernel), no_look (by decide +kernel)⟩
def e_count_parts : Ent := { id := ("", "count_parts"), st := topS 20, N := ["thing", "is_leaf", "found", "one"], ps := ["thing", "is_leaf"], name := "count_parts", qual := "count_parts" }
theorem g_count_parts : e_count_parts.good TT := ⟨⟨rfl, rfl, rfl, by decide +kernel, rfl, by decide +kernel, by decide +kernel⟩, fun _ K a fd F => FunD.bindsN F fun _ _ _ _ _ _ us hl => match us, hl with | [_, _], _ => rfl, no_look (by decide +kernel), no_look (by decide +kernel)⟩
def e_is_term : Ent := { id := ("", "is_term"), st := topS 21, N := ["thing"], ps := ["thing"], name := "is_term", qual := "is_term" }
theorem g_is_term : e_is_term.good TT := ⟨⟨rfl, rfl, rfl, by decide +kernel, rfl, by decide +kernel, by decide +kernel⟩, fun _ K a fd F => FunD.bindsN F fun _ _ _ _ _ _ us hl => match us, hl with | [_], _ => rfl, no_look (by decide +kernel), no_look (by decide +kernel)⟩
def e_look_term : Ent := { id := ("", "look_term"), st := topS 22, N := ["term"], ps := ["term"], name := "look_term", qual := "look_term" }
theorem g_look_term : e_look_term.good TT := ⟨⟨rfl, rfl, rfl, by decide +kernel, rfl, by decide +kernel, by decide +kernel⟩, fun _ K a fd F => FunD.bindsN F fun _ _ _ _ _ _ us hl => match us, hl with | [_], _ => rfl, no_look (by decide +kernel), no_look (by decide +kernel)⟩
def e_is_tree : Ent := { id := ("", "is_tree"), st := topS 23, N := ["term"], ps := ["term"], name := "is_tree", qual := "is_tree" }
theorem g_is_tree : e_is_tree.good TT := ⟨⟨rfl, rfl, rfl, by decide +kernel, rfl, by decide +kernel, by decide +kernel⟩, fun _ K a fd F => FunD.bindsN F fun _ _ _ _ _ _ us hl => match us, hl with | [_], _ => rfl, no_look (by decide +kernel), no_look (by decide +kernel)⟩
def e_add_names : Ent := { id := ("", "add_names"), st := topS 24, N := ["term", "found", "one"], ps := ["term", "found"], name := "add_names", qual := "add_names" }
theorem g_add_names : e_add_names.good TT := ⟨⟨rfl, rfl, rfl, by decide +kernel, rfl, by decide +kernel, by decide +kernel⟩, fun _ K a fd F => FunD.bindsN F fun _ _ _ _ _ _ us hl => match us, hl with | [_, _], _ => rfl, no_look (by decide +kernel), no_look (by decide +kernel)⟩
def e_Store___init : Ent := { id := ("Store", "__init__"), st := topM 26 0, N := ["self", "many", "k"], ps := ["self", "many"], name := "__init__", qual := "Store.__init__", dfl := [.int 0], keep := true }
theorem g_Store___init : e_Store___init.good TT := ⟨⟨rfl, rfl, rfl, by decide +kernel, rfl, by decide +kernel, by decide +kernel⟩, fun _ K a fd F => by
  obtain ⟨ds, h1, h2⟩ := FunD.binds1 (ps := e_Store___init.ps) F 2 1 (fun z => nomatch z) rfl fun T kV doc pm an cdv ct us its hu hi => by
    match us, its, hu, hi with
    | [u0, u1], [v0], _, _ => exact ⟨_, rfl, rfl⟩
  cases h1
  exact h2, fun n ds h => by
  cases (show some (1, [.int 0]) = some (n, ds) from h)
  refine ⟨rfl, fun K a fd F => ?_⟩
  obtain ⟨us, h1, h2⟩ := FunD.binds1 (ps := e_Store___init.ps) F 1 0 (fun z => nomatch z) rfl fun T kV doc pm an cdv ct us its hu hi => by
    match us, its, hu, hi with
    | [u0], [v0], _, _ => exact ⟨_, rfl, rfl⟩
  exact ⟨_, us, h1, fun c => .cons (.int 0) (.nil), h2⟩, no_look (by decide +kernel)⟩
def e_Store___len : Ent := { id := ("Store", "__len__"), st := topM 26 1, N := ["self"], ps := ["self"], name := "__len__", qual := "Store.__len__" }
theorem g_Store___len : e_Store___len.good TT := ⟨⟨rfl, rfl, rfl, by decide +kernel, rfl, by decide +kernel, by decide +kernel⟩, fun _ K a fd F => FunD.bindsN F fun _ _ _ _ _ _ us hl => match us, hl with | [_], _ => rfl, no_look (by decide +kernel), no_look (by decide +kernel)⟩
def e_Store_make : Ent := { id := ("Store", "make"), st := topM 26 2, N := ["self"], ps := ["self"], name := "make", qual := "Store.make" }
theorem g_Store_make : e_Store_make.good TT := ⟨⟨rfl, rfl, rfl, by decide +kernel, rfl, by decide +kernel, by decide +kernel⟩, fun _ K a fd F => FunD.bindsN F fun _ _ _ _ _ _ us hl => match us, hl with | [_], _ => rfl, no_look (by decide +kernel), no_look (by decide +kernel)⟩
def e_Store_look : Ent := { id := ("Store", "look"), st := topM 26 3, N := ["self", "term", "number"], ps := ["self", "term"], name := "look", qual := "Store.look" }
theorem g_Store_look : e_Store_look.good TT := ⟨⟨rfl, rfl, rfl, by decide +kernel, rfl, by decide +kernel, by decide +kernel⟩, fun _ K a fd F => FunD.bindsN F fun _ _ _ _ _ _ us hl => match us, hl with | [_, _], _ => rfl, no_look (by decide +kernel), no_look (by decide +kernel)⟩
def e_Store_head : Ent := { id := ("Store", "head"), st := topM 26 4, N := ["self", "term"], ps := ["self", "term"], name := "head", qual := "Store.head" }
theorem g_Store_head : e_Store_head.good TT := ⟨⟨rfl, rfl, rfl, by decide +kernel, rfl, by decide +kernel, by decide +kernel⟩, fun _ K a fd F => FunD.bindsN F fun _ _ _ _ _ _ us hl => match us, hl with | [_, _], _ => rfl, no_look (by decide +kernel), no_look (by decide +kernel)⟩
def e_Store_holds : Ent := { id := ("Store", "holds"), st := topM 26 5, N := ["self", "term", "name", "now", "one"], ps := ["self", "term", "name"], name := "holds", qual := "Store.holds" }
theorem g_Store_holds : e_Store_holds.good TT := ⟨⟨rfl, rfl, rfl, by decide +kernel, rfl, by decide +kernel, by decide +kernel⟩, fun _ K a fd F => FunD.bindsN F fun _ _ _ _ _ _ us hl => match us, hl with | [_, _, _], _ => rfl, no_look (by decide +kernel), no_look (by decide +kernel)⟩
def e_Store_bound : Ent := { id := ("Store", "bound"), st := topM 26 6, N := ["self", "name", "term", "low", "high"], ps := ["self", "name", "term"], name := "bound", qual := "Store.bound" }
theorem g_Store_bound : e_Store_bound.good TT := ⟨⟨rfl, rfl, rfl, by decide +kernel, rfl, by decide +kernel, by decide +kernel⟩, fun _ K a fd F => FunD.bindsN F fun _ _ _ _ _ _ us hl => match us, hl with | [_, _, _], _ => rfl, no_look (by decide +kernel), no_look (by decide +kernel)⟩
def e_Store_merge : Ent := { id := ("Store", "merge"), st := topM 26 7, N := ["self", "one", "other", "left", "good"], ps := ["self", "one", "other"], name := "merge", qual := "Store.merge" }
theorem g_Store_merge : e_Store_merge.good TT := ⟨⟨rfl, rfl, rfl, by decide +kernel, rfl, by decide +kernel, by decide +kernel⟩, fun _ K a fd F => FunD.bindsN F fun _ _ _ _ _ _ us hl => match us, hl with | [_, _, _], _ => rfl, no_look (by decide +kernel), no_look (by decide +kernel)⟩
def e_Store_joined : Ent := { id := ("Store", "joined"), st := topM 26 8, N := ["self", "one", "other", "kept"], ps := ["self", "one", "other"], name := "joined", qual := "Store.joined" }
theorem g_Store_joined : e_Store_joined.good TT := ⟨⟨rfl, rfl, rfl, by decide +kernel, rfl, by decide +kernel, by decide +kernel⟩, fun _ K a fd F => FunD.bindsN F fun _ _ _ _ _ _ us hl => match us, hl with | [_, _, _], _ => rfl, no_look (by decide +kernel), no_look (by decide +kernel)⟩
def e_Store_tell : Ent := { id := ("Store", "tell"), st := topM 26 9, N := ["self", "one", "other"], ps := ["self", "one", "other"], name := "tell", qual := "Store.tell" }
theorem g_Store_tell : e_Store_tell.good TT := ⟨⟨rfl, rfl, rfl, by decide +kernel, rfl, by decide +kernel, by decide +kernel⟩, fun _ K a fd F => FunD.bindsN F fun _ _ _ _ _ _ us hl => match us, hl with | [_, _, _], _ => rfl, no_look (by decide +kernel), no_look (by decide +kernel)⟩
def e_Store_full : Ent := { id := ("Store", "full"), st := topM 26 10, N := ["self", "term", "now", "one"], ps := ["self", "term"], name := "full", qual := "Store.full" }
theorem g_Store_full : e_Store_full.good TT := ⟨⟨rfl, rfl, rfl, by decide +kernel, rfl, by decide +kernel, by decide +kernel⟩, fun _ K a fd F => FunD.bindsN F fun _ _ _ _ _ _ us hl => match us, hl with | [_, _], _ => rfl, no_look (by decide +kernel), no_look (by decide +kernel)⟩
def e_Store_value : Ent := { id := ("Store", "value"), st := topM 26 11, N := ["self", "term"], ps := ["self", "term"], name := "value", qual := "Store.value" }
theorem g_Store_value : e_Store_value.good TT := ⟨⟨rfl, rfl, rfl, by decide +kernel, rfl, by decide +kernel, by decide +kernel⟩, fun _ K a fd F => FunD.bindsN F fun _ _ _ _ _ _ us hl => match us, hl with | [_, _], _ => rfl, no_look (by decide +kernel), no_look (by decide +kernel)⟩
def e_Store_same : Ent := { id := ("Store", "same"), st := topM 26 12, N := ["self", "one", "other"], ps := ["self", "one", "other"], name := "same", qual := "Store.same" }
theorem g_Store_same : e_Store_same.good TT := ⟨⟨rfl, rfl, rfl, by decide +kernel, rfl, by decide +kernel, by decide +kernel⟩, fun _ K a fd F => FunD.bindsN F fun _ _ _ _ _ _ us hl => match us, hl with | [_, _, _], _ => rfl, no_look (by decide +kernel), no_look (by decide +kernel)⟩
def e_Store_known : Ent := { id := ("Store", "known"), st := topM 26 13, N := ["self", "k"], ps := ["self"], name := "known", qual := "Store.known" }
theorem g_Store_known : e_Store_known.good TT := ⟨⟨rfl, rfl, rfl, by decide +kernel, rfl, by decide +kernel, by decide +kernel⟩, fun _ K a fd F => FunD.bindsN F fun _ _ _ _ _ _ us hl => match us, hl with | [_], _ => rfl, no_look (by decide +kernel), no_look (by decide +kernel)⟩
def e_Store_twin : Ent := { id := ("Store", "twin"), st := topM 26 14, N := ["self", "made"], ps := ["self"], name := "twin", qual := "Store.twin", keep := true }
theorem g_Store_twin : e_Store_twin.good TT := ⟨⟨rfl, rfl, rfl, by decide +kernel, rfl, by decide +kernel, by decide +kernel⟩, fun _ K a fd F => FunD.bindsN F fun _ _ _ _ _ _ us hl => match us, hl with | [_], _ => rfl, no_look (by decide +kernel), no_look (by decide +kernel)⟩
def e_law_town : Ent := { id := ("", "_law_town"), st := topS 28, N := ["script"], ps := ["script"], name := "_law_town", qual := "_law_town", keep := true }
theorem g_law_town : e_law_town.good TT := ⟨⟨rfl, rfl, rfl, by decide +kernel, rfl, by decide +kernel, by decide +kernel⟩, fun _ K a fd F => FunD.bindsN F fun _ _ _ _ _ _ us hl => match us, hl with | [_], _ => rfl, no_look (by decide +kernel), no_look (by decide +kernel)⟩
def e_law_draw : Ent := { id := ("", "_law_draw"), st := topS 29, N := ["script", "town", "many", "at", "left", "number"], ps := ["script", "town", "many"], name := "_law_draw", qual := "_law_draw" }
theorem g_law_draw : e_law_draw.good TT := ⟨⟨rfl, rfl, rfl, by decide +kernel, rfl, by decide +kernel, by decide +kernel⟩, fun _ K a fd F => FunD.bindsN F fun _ _ _ _ _ _ us hl => match us, hl with | [_, _, _], _ => rfl, no_look (by decide +kernel), no_look (by decide +kernel)⟩
def e_law_whole : Ent := { id := ("", "_law_whole"), st := topS 30, N := ["thing"], ps := ["thing"], name := "_law_whole", qual := "_law_whole" }
theorem g_law_whole : e_law_whole.good TT := ⟨⟨rfl, rfl, rfl, by decide +kernel, rfl, by decide +kernel, by decide +kernel⟩, fun _ K a fd F => FunD.bindsN F fun _ _ _ _ _ _ us hl => match us, hl with | [_], _ => rfl, no_look (by decide +kernel), no_look (by decide +kernel)⟩
def e_law_word : Ent := { id := ("", "_law_word"), st := topS 31, N := ["caught", "kinds"], ps := ["caught"], name := "_law_word", qual := "_law_word" }
theorem g_law_word : e_law_word.good TT := ⟨⟨rfl, rfl, rfl, by decide +kernel, rfl, by decide +kernel, by decide +kernel⟩, fun _ K a fd F => FunD.bindsN F fun _ _ _ _ _ _ us hl => match us, hl with | [_], _ => rfl, no_look (by decide +kernel), no_look (by decide +kernel)⟩
def e_law_refused : Ent := { id := ("", "_law_refused"), st := topS 32, N := ["word", "words"], ps := ["word"], name := "_law_refused", qual := "_law_refused" }
theorem g_law_refused : e_law_refused.good TT := ⟨⟨rfl, rfl, rfl, by decide +kernel, rfl, by decide +kernel, by decide +kernel⟩, fun _ K a fd F => FunD.bindsN F fun _ _ _ _ _ _ us hl => match us, hl with | [_], _ => rfl, no_look (by decide +kernel), no_look (by decide +kernel)⟩
def e_law_told : Ent := { id := ("", "_law_told"), st := topS 33, N := ["way", "some", "caught", "found", "e"], ps := ["way", "some"], name := "_law_told", qual := "_law_told" }
theorem g_law_told : e_law_told.good TT := ⟨⟨rfl, rfl, rfl, by decide +kernel, rfl, by decide +kernel, by decide +kernel⟩, fun _ K a fd F => FunD.bindsN F fun _ _ _ _ _ _ us hl => match us, hl with | [_, _], _ => rfl, no_look (by decide +kernel), no_look (by decide +kernel)⟩
def e_law_one : Ent := { id := ("", "_law_one"), st := topS 34, N := ["way", "some", "store", "one", "other"], ps := ["way", "some"], name := "_law_one", qual := "_law_one" }
theorem g_law_one : e_law_one.good TT := ⟨⟨rfl, rfl, rfl, by decide +kernel, rfl, by decide +kernel, by decide +kernel⟩, fun _ K a fd F => FunD.bindsN F fun _ _ _ _ _ _ us hl => match us, hl with | [_, _], _ => rfl, no_look (by decide +kernel), no_look (by decide +kernel)⟩
def e_law : Ent := { id := ("", "law"), st := topS 35, N := ["script", "town", "many", "store", "made", "odd", "lacking", "way", "name", "twin", "good", "k"], ps := ["script"], name := "law", qual := "law" }
theorem g_law : e_law.good TT := ⟨⟨rfl, rfl, rfl, by decide +kernel, rfl, by decide +kernel, by decide +kernel⟩, fun _ K a fd F => FunD.bindsN F fun _ _ _ _ _ _ us hl => match us, hl with | [_], _ => rfl, no_look (by decide +kernel), no_look (by decide +kernel)⟩
def ents : List Ent := [e_is_number, e_is_int, e_is_word, e_is_name, e_count_parts, e_is_term, e_look_term, e_is_tree, e_add_names, e_Store___init, e_Store___len, e_Store_make, e_Store_look, e_Store_head, e_Store_holds, e_Store_bound, e_Store_merge, e_Store_joined, e_Store_tell, e_Store_full, e_Store_value, e_Store_same, e_Store_known, e_Store_twin, e_law_town, e_law_draw, e_law_whole, e_law_word, e_law_refused, e_law_told, e_law_one, e_law]
theorem goods : AllG TT ents := ⟨g_is_number, g_is_int, g_is_word, g_is_name, g_count_parts, g_is_term, g_look_term, g_is_tree, g_add_names, g_Store___init, g_Store___len, g_Store_make, g_Store_look, g_Store_head, g_Store_holds, g_Store_bound, g_Store_merge, g_Store_joined, g_Store_tell, g_Store_full, g_Store_value, g_Store_same, g_Store_known, g_Store_twin, g_law_town, g_law_draw, g_law_whole, g_law_word, g_law_refused, g_law_told, g_law_one, g_law, trivial⟩
def hd : Hd := ⟨TT, ents, ["Store"], ["ToldError", "BadTerm", "BadText", "BadProgram", "BadNumber", "BadOrder", "NoName", "NoWord", "NoHand", "NoChoice", "Clash", "TooLong"]⟩
end Ev
set_option Elab.async false
set_option linter.all false
set_option maxRecDepth 100000
set_option maxHeartbeats 0
namespace Ev
open PySem PySem.Spec PyProof.Rows L2 He
noncomputable def call (k : Nat) : FId → List W → M W := callM TT (lookE ents) 40 k
def t_is_number (CM : FId → List W → M W) : MS := sBlock [sRet (eAnd (eIsi (mVar 0) "int") (eAnd (eNot (eIsi (mVar 0) "bool")) (eCmp2 .LtE .LtE (mVar 1) (mVar 0) (mVar 2))))]
theorem l_is_number : lookE ents (pl "is_number") = some e_is_number.i := by rfl
theorem b_is_number (CM : FId → List W → M W) : blk (ev TT CM 40) e_is_number.i.sc e_is_number.i.body = t_is_number CM := by rfl
theorem c_is_number {k : Nat} {w0 w1 w2 : W} {h : AH} : call (k + 1) (pl "is_number") [w0, w1, w2] h = endM h (t_is_number (call k) [some w0, some w1, some w2] h) := by
  exact (callM_at l_is_number rfl).trans (by rw [b_is_number]; rfl)
def t_is_int (CM : FId → List W → M W) : MS := sBlock [sRet (eAnd (eIsi (mVar 0) "int") (eNot (eIsi (mVar 0) "bool")))]
theorem l_is_int : lookE ents (pl "is_int") = some e_is_int.i := by rfl
theorem b_is_int (CM : FId → List W → M W) : blk (ev TT CM 40) e_is_int.i.sc e_is_int.i.body = t_is_int CM := by rfl
theorem c_is_int {k : Nat} {w0 : W} {h : AH} : call (k + 1) (pl "is_int") [w0] h = endM h (t_is_int (call k) [some w0] h) := by
  exact (callM_at l_is_int rfl).trans (by rw [b_is_int]; rfl)
def t_is_word (CM : FId → List W → M W) : MS := sBlock [sRet (eAnd (eIsi (mVar 0) "str") (eAnd (eCmp2 .LtE .LtE (mC (.d (.int 1))) (eLen TT CM (mVar 0)) (mC (.d (.int 8)))) (eFun fAll (aList [eOut (eLC (.n 1) (iVal (mVar 0)) tTrue (eCmp .In (mVar 1) (mC (.d (.str "abcdefghijklmnopqrstuvwxyz")))))]))))]
theorem l_is_word : lookE ents (pl "is_word") = some e_is_word.i := by rfl
theorem b_is_word (CM : FId → List W → M W) : blk (ev TT CM 40) e_is_word.i.sc e_is_word.i.body = t_is_word CM := by rfl
theorem c_is_word {k : Nat} {w0 : W} {h : AH} : call (k + 1) (pl "is_word") [w0] h = endM h (t_is_word (call k) [some w0, none] h) := by
  exact (callM_at l_is_word rfl).trans (by rw [b_is_word]; rfl)
def t_is_name (CM : FId → List W → M W) : MS := sBlock [sRet (eAnd (eIsi (mVar 0) "tuple") (eAnd (eCmp .Eq (eLen TT CM (mVar 0)) (mC (.d (.int 2)))) (eAnd (eCmp .Eq (eIx (mVar 0) (mC (.d (.int 0)))) (mC (.d (.str "?")))) (eAnd (eCall CM (pl "is_int") (aList [eIx (mVar 0) (mC (.d (.int 1)))])) (eCmp .GtE (eIx (mVar 0) (mC (.d (.int 1)))) (mC (.d (.int 0))))))))]
theorem l_is_name : lookE ents (pl "is_name") = some e_is_name.i := by rfl
theorem b_is_name (CM : FId → List W → M W) : blk (ev TT CM 40) e_is_name.i.sc e_is_name.i.body = t_is_name CM := by rfl
theorem c_is_name {k : Nat} {w0 : W} {h : AH} : call (k + 1) (pl "is_name") [w0] h = endM h (t_is_name (call k) [some w0] h) := by
  exact (callM_at l_is_name rfl).trans (by rw [b_is_name]; rfl)
def t_count_parts (CM : FId → List W → M W) : MS := sBlock [sIf (tOrM (tst (eCall CM (pl "is_int") (aList [mVar 0]))) (tOrM (tst (eCall CM (pl "is_word") (aList [mVar 0]))) (tst (eCallV TT CM 1 (aList [mVar 0]))))) (sBlock [sRet (mC (.d (.int 1)))]) (sBlock []), sIf (tOrM (tNotM (tst (eIsi (mVar 0) "tuple"))) (tOrM (tNotM (tst (eCmp2 .LtE .LtE (mC (.d (.int 2))) (eLen TT CM (mVar 0)) (mC (.d (.int 5)))))) (tNotM (tst (eCall CM (pl "is_word") (aList [eIx (mVar 0) (mC (.d (.int 0)))])))))) (sBlock [sRet (eBin .Add (mC (.d (.int 300))) (mC (.d (.int 1))))]) (sBlock []), sSet 2 (mC (.d (.int 1))), sFor (.n 3) (iVal (eSl (mVar 0) (pSome (mC (.d (.int 1)))) pNo)) (sBlock [sAug 2 (eCall CM (pl "count_parts") (aList [mVar 3, mVar 1])), sIf (tst (eCmp .Gt (mVar 2) (mC (.d (.int 300))))) (sBlock [sRet (mVar 2)]) (sBlock [])]), sRet (mVar 2)]
theorem l_count_parts : lookE ents (pl "count_parts") = some e_count_parts.i := by rfl
theorem b_count_parts (CM : FId → List W → M W) : blk (ev TT CM 40) e_count_parts.i.sc e_count_parts.i.body = t_count_parts CM := by rfl
theorem c_count_parts {k : Nat} {w0 w1 : W} {h : AH} : call (k + 1) (pl "count_parts") [w0, w1] h = endM h (t_count_parts (call k) [some w0, some w1, none, none] h) := by
  exact (callM_at l_count_parts rfl).trans (by rw [b_count_parts]; rfl)
def t_is_term (CM : FId → List W → M W) : MS := sBlock [sRet (eCmp .LtE (eCall CM (pl "count_parts") (aList [mVar 0, mC (.fn "is_name")])) (mC (.d (.int 300))))]
theorem l_is_term : lookE ents (pl "is_term") = some e_is_term.i := by rfl
theorem b_is_term (CM : FId → List W → M W) : blk (ev TT CM 40) e_is_term.i.sc e_is_term.i.body = t_is_term CM := by rfl
theorem c_is_term {k : Nat} {w0 : W} {h : AH} : call (k + 1) (pl "is_term") [w0] h = endM h (t_is_term (call k) [some w0] h) := by
  exact (callM_at l_is_term rfl).trans (by rw [b_is_term]; rfl)
def t_look_term (CM : FId → List W → M W) : MS := sBlock [sIf (tNotM (tst (eCall CM (pl "is_term") (aList [mVar 0])))) (sBlock [sRaise "BadTerm"]) (sBlock [])]
theorem l_look_term : lookE ents (pl "look_term") = some e_look_term.i := by rfl
theorem b_look_term (CM : FId → List W → M W) : blk (ev TT CM 40) e_look_term.i.sc e_look_term.i.body = t_look_term CM := by rfl
theorem c_look_term {k : Nat} {w0 : W} {h : AH} : call (k + 1) (pl "look_term") [w0] h = endM h (t_look_term (call k) [some w0] h) := by
  exact (callM_at l_look_term rfl).trans (by rw [b_look_term]; rfl)
def t_is_tree (CM : FId → List W → M W) : MS := sBlock [sRet (eAnd (eIsi (mVar 0) "tuple") (eCmp .NotEq (eIx (mVar 0) (mC (.d (.int 0)))) (mC (.d (.str "?")))))]
theorem l_is_tree : lookE ents (pl "is_tree") = some e_is_tree.i := by rfl
theorem b_is_tree (CM : FId → List W → M W) : blk (ev TT CM 40) e_is_tree.i.sc e_is_tree.i.body = t_is_tree CM := by rfl
theorem c_is_tree {k : Nat} {w0 : W} {h : AH} : call (k + 1) (pl "is_tree") [w0] h = endM h (t_is_tree (call k) [some w0] h) := by
  exact (callM_at l_is_tree rfl).trans (by rw [b_is_tree]; rfl)
def t_add_names (CM : FId → List W → M W) : MS := sBlock [sIf (tst (eCall CM (pl "is_name") (aList [mVar 0]))) (sBlock [sIf (tst (eCmp .NotIn (eIx (mVar 0) (mC (.d (.int 1)))) (mVar 1))) (sBlock [sExpr (eBM .list appM (mVar 1) (aList [eIx (mVar 0) (mC (.d (.int 1)))]))]) (sBlock [])]) (sBlock [sIf (tst (eCall CM (pl "is_tree") (aList [mVar 0]))) (sBlock [sFor (.n 2) (iVal (eSl (mVar 0) (pSome (mC (.d (.int 1)))) pNo)) (sBlock [sExpr (eCall CM (pl "add_names") (aList [mVar 2, mVar 1]))])]) (sBlock [])]), sRet (mVar 1)]
theorem l_add_names : lookE ents (pl "add_names") = some e_add_names.i := by rfl
theorem b_add_names (CM : FId → List W → M W) : blk (ev TT CM 40) e_add_names.i.sc e_add_names.i.body = t_add_names CM := by rfl
theorem c_add_names {k : Nat} {w0 w1 : W} {h : AH} : call (k + 1) (pl "add_names") [w0, w1] h = endM h (t_add_names (call k) [some w0, some w1, none] h) := by
  exact (callM_at l_add_names rfl).trans (by rw [b_add_names]; rfl)
def t_Store___init (CM : FId → List W → M W) : MS := sBlock [sIf (tNotM (tst (eCall CM (pl "is_number") (aList [mVar 1, mC (.d (.int 0)), mC (.d (.int 1000))])))) (sBlock [sRaise "BadNumber"]) (sBlock []), sFldW "found" (mVar 0) (eLC (.n 2) (iFun rng1 (aList [mVar 1])) tTrue (mC (.d (.none))))]
theorem l_Store___init : lookE ents ("Store", "__init__") = some e_Store___init.i := by rfl
theorem b_Store___init (CM : FId → List W → M W) : blk (ev TT CM 40) e_Store___init.i.sc e_Store___init.i.body = t_Store___init CM := by rfl
theorem c_Store___init {k : Nat} {w0 w1 : W} {h : AH} : call (k + 1) ("Store", "__init__") [w0, w1] h = keepM (t_Store___init (call k) [some w0, some w1, none] h) := by
  exact (callM_at l_Store___init rfl).trans (by rw [b_Store___init]; rfl)
def t_Store___len (CM : FId → List W → M W) : MS := sBlock [sRet (eLen TT CM (eFld (mVar 0) "found"))]
theorem l_Store___len : lookE ents ("Store", "__len__") = some e_Store___len.i := by rfl
theorem b_Store___len (CM : FId → List W → M W) : blk (ev TT CM 40) e_Store___len.i.sc e_Store___len.i.body = t_Store___len CM := by rfl
theorem c_Store___len {k : Nat} {w0 : W} {h : AH} : call (k + 1) ("Store", "__len__") [w0] h = endM h (t_Store___len (call k) [some w0] h) := by
  exact (callM_at l_Store___len rfl).trans (by rw [b_Store___len]; rfl)
def t_Store_make (CM : FId → List W → M W) : MS := sBlock [sExpr (eBM .list appM (eFld (mVar 0) "found") (aList [mC (.d (.none))])), sRet (eTup (aList [mC (.d (.str "?")), eBin .Sub (eLen TT CM (eFld (mVar 0) "found")) (mC (.d (.int 1)))]))]
theorem l_Store_make : lookE ents ("Store", "make") = some e_Store_make.i := by rfl
theorem b_Store_make (CM : FId → List W → M W) : blk (ev TT CM 40) e_Store_make.i.sc e_Store_make.i.body = t_Store_make CM := by rfl
theorem c_Store_make {k : Nat} {w0 : W} {h : AH} : call (k + 1) ("Store", "make") [w0] h = endM h (t_Store_make (call k) [some w0] h) := by
  exact (callM_at l_Store_make rfl).trans (by rw [b_Store_make]; rfl)
def t_Store_look (CM : FId → List W → M W) : MS := sBlock [sExpr (eCall CM (pl "look_term") (aList [mVar 1])), sIf (tst (eFun fAny (aList [eOut (eLC (.n 2) (iVal (eCall CM (pl "add_names") (aList [mVar 1, eLst (aList [])]))) tTrue (eCmp .GtE (mVar 2) (eLen TT CM (eFld (mVar 0) "found"))))]))) (sBlock [sRaise "NoName"]) (sBlock [])]
theorem l_Store_look : lookE ents ("Store", "look") = some e_Store_look.i := by rfl
theorem b_Store_look (CM : FId → List W → M W) : blk (ev TT CM 40) e_Store_look.i.sc e_Store_look.i.body = t_Store_look CM := by rfl
theorem c_Store_look {k : Nat} {w0 w1 : W} {h : AH} : call (k + 1) ("Store", "look") [w0, w1] h = endM h (t_Store_look (call k) [some w0, some w1, none] h) := by
  exact (callM_at l_Store_look rfl).trans (by rw [b_Store_look]; rfl)
def t_Store_head (CM : FId → List W → M W) : MS := sBlock [sWhile (tAndM (tst (eCall CM (pl "is_name") (aList [mVar 1]))) (tst (eCmp .IsNot (eIx (eFld (mVar 0) "found") (eIx (mVar 1) (mC (.d (.int 1))))) (mC (.d (.none)))))) (sBlock [sSet 1 (eIx (eFld (mVar 0) "found") (eIx (mVar 1) (mC (.d (.int 1)))))]), sRet (mVar 1)]
theorem l_Store_head : lookE ents ("Store", "head") = some e_Store_head.i := by rfl
theorem b_Store_head (CM : FId → List W → M W) : blk (ev TT CM 40) e_Store_head.i.sc e_Store_head.i.body = t_Store_head CM := by rfl
theorem c_Store_head {k : Nat} {w0 w1 : W} {h : AH} : call (k + 1) ("Store", "head") [w0, w1] h = endM h (t_Store_head (call k) [some w0, some w1] h) := by
  exact (callM_at l_Store_head rfl).trans (by rw [b_Store_head]; rfl)
def t_Store_holds (CM : FId → List W → M W) : MS := sBlock [sSet 3 (eMeth TT CM "head" (mVar 0) (aList [mVar 1])), sIf (tst (eCall CM (pl "is_name") (aList [mVar 3]))) (sBlock [sRet (eCmp .Eq (mVar 3) (mVar 2))]) (sBlock []), sRet (eAnd (eCall CM (pl "is_tree") (aList [mVar 3])) (eFun fAny (aList [eOut (eLC (.n 4) (iVal (eSl (mVar 3) (pSome (mC (.d (.int 1)))) pNo)) tTrue (eMeth TT CM "holds" (mVar 0) (aList [mVar 4, mVar 2])))])))]
theorem l_Store_holds : lookE ents ("Store", "holds") = some e_Store_holds.i := by rfl
theorem b_Store_holds (CM : FId → List W → M W) : blk (ev TT CM 40) e_Store_holds.i.sc e_Store_holds.i.body = t_Store_holds CM := by rfl
theorem c_Store_holds {k : Nat} {w0 w1 w2 : W} {h : AH} : call (k + 1) ("Store", "holds") [w0, w1, w2] h = endM h (t_Store_holds (call k) [some w0, some w1, some w2, none, none] h) := by
  exact (callM_at l_Store_holds rfl).trans (by rw [b_Store_holds]; rfl)
def t_Store_bound (CM : FId → List W → M W) : MS := sBlock [sIf (tst (eCall CM (pl "is_name") (aList [mVar 2]))) (sBlock [sIf (tst (eCmp .NotEq (mVar 1) (mVar 2))) (sBlock [sPar 3 4 (eFun fMin (aList [mVar 1, mVar 2])) (eFun fMax (aList [mVar 1, mVar 2])), sIxW (eFld (mVar 0) "found") (eIx (mVar 4) (mC (.d (.int 1)))) (mVar 3)]) (sBlock []), sRet (mC (.d (.bool true)))]) (sBlock []), sIf (tst (eMeth TT CM "holds" (mVar 0) (aList [mVar 2, mVar 1]))) (sBlock [sRet (mC (.d (.bool false)))]) (sBlock []), sIxW (eFld (mVar 0) "found") (eIx (mVar 1) (mC (.d (.int 1)))) (mVar 2), sRet (mC (.d (.bool true)))]
theorem l_Store_bound : lookE ents ("Store", "bound") = some e_Store_bound.i := by rfl
theorem b_Store_bound (CM : FId → List W → M W) : blk (ev TT CM 40) e_Store_bound.i.sc e_Store_bound.i.body = t_Store_bound CM := by rfl
theorem c_Store_bound {k : Nat} {w0 w1 w2 : W} {h : AH} : call (k + 1) ("Store", "bound") [w0, w1, w2] h = endM h (t_Store_bound (call k) [some w0, some w1, some w2, none, none] h) := by
  exact (callM_at l_Store_bound rfl).trans (by rw [b_Store_bound]; rfl)
def t_Store_merge (CM : FId → List W → M W) : MS := sBlock [sSet 3 (eLst (aList [eTup (aList [mVar 1, mVar 2])])), sWhile (tst (eCmp .NotEq (mVar 3) (eLstD (aList [])))) (sBlock [sStar 0 [(.n 3), (.t [1, 2])] (mVar 3), sPar 1 2 (eMeth TT CM "head" (mVar 0) (aList [mVar 1])) (eMeth TT CM "head" (mVar 0) (aList [mVar 2])), sIf (tOrM (tst (eCall CM (pl "is_name") (aList [mVar 1]))) (tst (eCall CM (pl "is_name") (aList [mVar 2])))) (sBlock [sSet 4 (eIf (tst (eCall CM (pl "is_name") (aList [mVar 1]))) (eMeth TT CM "bound" (mVar 0) (aList [mVar 1, mVar 2])) (eMeth TT CM "bound" (mVar 0) (aList [mVar 2, mVar 1]))), sIf (tNotM (tst (mVar 4))) (sBlock [sRet (mC (.d (.bool false)))]) (sBlock [])]) (sBlock [sIf (tAndM (tst (eCall CM (pl "is_tree") (aList [mVar 1]))) (tAndM (tst (eCall CM (pl "is_tree") (aList [mVar 2]))) (tAndM (tst (eCmp .Eq (eIx (mVar 1) (mC (.d (.int 0)))) (eIx (mVar 2) (mC (.d (.int 0)))))) (tst (eCmp .Eq (eLen TT CM (mVar 1)) (eLen TT CM (mVar 2))))))) (sBlock [sSet 3 (eBin .Add (mVar 3) (eFun zipL (aList [eSl (mVar 1) (pSome (mC (.d (.int 1)))) pNo, eSl (mVar 2) (pSome (mC (.d (.int 1)))) pNo])))]) (sBlock [sIf (tst (eCmp .NotEq (mVar 1) (mVar 2))) (sBlock [sRet (mC (.d (.bool false)))]) (sBlock [])])])]), sRet (mC (.d (.bool true)))]
theorem l_Store_merge : lookE ents ("Store", "merge") = some e_Store_merge.i := by rfl
theorem b_Store_merge (CM : FId → List W → M W) : blk (ev TT CM 40) e_Store_merge.i.sc e_Store_merge.i.body = t_Store_merge CM := by rfl
theorem c_Store_merge {k : Nat} {w0 w1 w2 : W} {h : AH} : call (k + 1) ("Store", "merge") [w0, w1, w2] h = endM h (t_Store_merge (call k) [some w0, some w1, some w2, none, none] h) := by
  exact (callM_at l_Store_merge rfl).trans (by rw [b_Store_merge]; rfl)
def t_Store_joined (CM : FId → List W → M W) : MS := sBlock [sSet 3 (eFun fList (aList [eFld (mVar 0) "found"])), sIf (tst (eMeth TT CM "merge" (mVar 0) (aList [mVar 1, mVar 2]))) (sBlock [sRet (mC (.d (.bool true)))]) (sBlock []), sFldW "found" (mVar 0) (mVar 3), sRet (mC (.d (.bool false)))]
theorem l_Store_joined : lookE ents ("Store", "joined") = some e_Store_joined.i := by rfl
theorem b_Store_joined (CM : FId → List W → M W) : blk (ev TT CM 40) e_Store_joined.i.sc e_Store_joined.i.body = t_Store_joined CM := by rfl
theorem c_Store_joined {k : Nat} {w0 w1 w2 : W} {h : AH} : call (k + 1) ("Store", "joined") [w0, w1, w2] h = endM h (t_Store_joined (call k) [some w0, some w1, some w2, none] h) := by
  exact (callM_at l_Store_joined rfl).trans (by rw [b_Store_joined]; rfl)
def t_Store_tell (CM : FId → List W → M W) : MS := sBlock [sExpr (eMeth TT CM "look" (mVar 0) (aList [mVar 1])), sExpr (eMeth TT CM "look" (mVar 0) (aList [mVar 2])), sIf (tNotM (tst (eMeth TT CM "joined" (mVar 0) (aList [mVar 1, mVar 2])))) (sBlock [sRaise "Clash"]) (sBlock [])]
theorem l_Store_tell : lookE ents ("Store", "tell") = some e_Store_tell.i := by rfl
theorem b_Store_tell (CM : FId → List W → M W) : blk (ev TT CM 40) e_Store_tell.i.sc e_Store_tell.i.body = t_Store_tell CM := by rfl
theorem c_Store_tell {k : Nat} {w0 w1 w2 : W} {h : AH} : call (k + 1) ("Store", "tell") [w0, w1, w2] h = endM h (t_Store_tell (call k) [some w0, some w1, some w2] h) := by
  exact (callM_at l_Store_tell rfl).trans (by rw [b_Store_tell]; rfl)
def t_Store_full (CM : FId → List W → M W) : MS := sBlock [sSet 2 (eMeth TT CM "head" (mVar 0) (aList [mVar 1])), sIf (tst (eCall CM (pl "is_tree") (aList [mVar 2]))) (sBlock [sRet (eBin .Add (eTup (aList [eIx (mVar 2) (mC (.d (.int 0)))])) (eFun fTuple (aList [eOut (eLC (.n 3) (iVal (eSl (mVar 2) (pSome (mC (.d (.int 1)))) pNo)) tTrue (eMeth TT CM "full" (mVar 0) (aList [mVar 3])))])))]) (sBlock []), sRet (mVar 2)]
theorem l_Store_full : lookE ents ("Store", "full") = some e_Store_full.i := by rfl
theorem b_Store_full (CM : FId → List W → M W) : blk (ev TT CM 40) e_Store_full.i.sc e_Store_full.i.body = t_Store_full CM := by rfl
theorem c_Store_full {k : Nat} {w0 w1 : W} {h : AH} : call (k + 1) ("Store", "full") [w0, w1] h = endM h (t_Store_full (call k) [some w0, some w1, none, none] h) := by
  exact (callM_at l_Store_full rfl).trans (by rw [b_Store_full]; rfl)
def t_Store_value (CM : FId → List W → M W) : MS := sBlock [sExpr (eMeth TT CM "look" (mVar 0) (aList [mVar 1])), sRet (eMeth TT CM "full" (mVar 0) (aList [mVar 1]))]
theorem l_Store_value : lookE ents ("Store", "value") = some e_Store_value.i := by rfl
theorem b_Store_value (CM : FId → List W → M W) : blk (ev TT CM 40) e_Store_value.i.sc e_Store_value.i.body = t_Store_value CM := by rfl
theorem c_Store_value {k : Nat} {w0 w1 : W} {h : AH} : call (k + 1) ("Store", "value") [w0, w1] h = endM h (t_Store_value (call k) [some w0, some w1] h) := by
  exact (callM_at l_Store_value rfl).trans (by rw [b_Store_value]; rfl)
def t_Store_same (CM : FId → List W → M W) : MS := sBlock [sExpr (eMeth TT CM "look" (mVar 0) (aList [mVar 1])), sExpr (eMeth TT CM "look" (mVar 0) (aList [mVar 2])), sIf (tst (eCmp .Eq (eMeth TT CM "full" (mVar 0) (aList [mVar 1])) (eMeth TT CM "full" (mVar 0) (aList [mVar 2])))) (sBlock [sRet (mC (.d (.bool true)))]) (sBlock []), sRet (eIf (tst (eMeth TT CM "joined" (eMeth TT CM "twin" (mVar 0) (aList [])) (aList [mVar 1, mVar 2]))) (mC (.d (.none))) (mC (.d (.bool false))))]
theorem l_Store_same : lookE ents ("Store", "same") = some e_Store_same.i := by rfl
theorem b_Store_same (CM : FId → List W → M W) : blk (ev TT CM 40) e_Store_same.i.sc e_Store_same.i.body = t_Store_same CM := by rfl
theorem c_Store_same {k : Nat} {w0 w1 w2 : W} {h : AH} : call (k + 1) ("Store", "same") [w0, w1, w2] h = endM h (t_Store_same (call k) [some w0, some w1, some w2] h) := by
  exact (callM_at l_Store_same rfl).trans (by rw [b_Store_same]; rfl)
def t_Store_known (CM : FId → List W → M W) : MS := sBlock [sRet (eLen TT CM (eOut (eLC (.n 1) (iFun rng1 (aList [eLen TT CM (eFld (mVar 0) "found")])) (tNotM (tst (eCall CM (pl "is_name") (aList [eMeth TT CM "head" (mVar 0) (aList [eTup (aList [mC (.d (.str "?")), mVar 1])])])))) (mVar 1))))]
theorem l_Store_known : lookE ents ("Store", "known") = some e_Store_known.i := by rfl
theorem b_Store_known (CM : FId → List W → M W) : blk (ev TT CM 40) e_Store_known.i.sc e_Store_known.i.body = t_Store_known CM := by rfl
theorem c_Store_known {k : Nat} {w0 : W} {h : AH} : call (k + 1) ("Store", "known") [w0] h = endM h (t_Store_known (call k) [some w0, none] h) := by
  exact (callM_at l_Store_known rfl).trans (by rw [b_Store_known]; rfl)
def t_Store_twin (CM : FId → List W → M W) : MS := sBlock [sSet 1 (eNew CM "Store" [.d (.int 0)] (aList [])), sFldW "found" (mVar 1) (eFun fList (aList [eFld (mVar 0) "found"])), sRet (mVar 1)]
theorem l_Store_twin : lookE ents ("Store", "twin") = some e_Store_twin.i := by rfl
theorem b_Store_twin (CM : FId → List W → M W) : blk (ev TT CM 40) e_Store_twin.i.sc e_Store_twin.i.body = t_Store_twin CM := by rfl
theorem c_Store_twin {k : Nat} {w0 : W} {h : AH} : call (k + 1) ("Store", "twin") [w0] h = keepM (t_Store_twin (call k) [some w0, none] h) := by
  exact (callM_at l_Store_twin rfl).trans (by rw [b_Store_twin]; rfl)
def t_law_town (CM : FId → List W → M W) : MS := sBlock [sRet (eBin .Add (eLst (aList [mC (.d (.int 0))])) (eFun fList (aList [mVar 0])))]
theorem l_law_town : lookE ents (pl "_law_town") = some e_law_town.i := by rfl
theorem b_law_town (CM : FId → List W → M W) : blk (ev TT CM 40) e_law_town.i.sc e_law_town.i.body = t_law_town CM := by rfl
theorem c_law_town {k : Nat} {w0 : W} {h : AH} : call (k + 1) (pl "_law_town") [w0] h = keepM (t_law_town (call k) [some w0] h) := by
  exact (callM_at l_law_town rfl).trans (by rw [b_law_town]; rfl)
def t_law_draw (CM : FId → List W → M W) : MS := sBlock [sIxW (mVar 1) (mC (.d (.int 0))) (eBin .Add (eIx (mVar 1) (mC (.d (.int 0)))) (mC (.d (.int 1)))), sIf (tst (eCmp .Eq (mVar 0) (eLstD (aList [])))) (sBlock [sRet (eBin .Mod (eBin .FloorDiv (eBin .Mult (eBin .Mult (eIx (mVar 1) (mC (.d (.int 0)))) (eIx (mVar 1) (mC (.d (.int 0))))) (mC (.d (.int 7)))) (mC (.d (.int 3)))) (mVar 2))]) (sBlock []), sSet 3 (eBin .Mod (eIx (mVar 1) (mC (.d (.int 0)))) (eLen TT CM (mVar 0))), sSet 4 (eIx (mVar 1) (eBin .Add (mC (.d (.int 1))) (mVar 3))), sIf (tAndM (tst (eCmp .GtE (eIx (mVar 0) (mVar 3)) (eBin .Pow (mC (.d (.int 10))) (mC (.d (.int 18)))))) (tst (eCmp .Gt (mVar 4) (mC (.d (.int 0)))))) (sBlock [sIxW (mVar 1) (eBin .Add (mC (.d (.int 1))) (mVar 3)) (eBin .FloorDiv (mVar 4) (mVar 2)), sRet (eBin .Mod (mVar 4) (mVar 2))]) (sBlock []), sSet 5 (eBin .Mod (eBin .Add (eIx (mVar 0) (mVar 3)) (eBin .Mult (mC (.d (.int 104729))) (eIx (mVar 1) (mC (.d (.int 0)))))) (mC (.d (.int 4294967291)))), sSet 5 (eBin .Mod (eBin .Pow (mVar 5) (mC (.d (.int 5)))) (mC (.d (.int 4294967279)))), sRet (eBin .Mod (eBin .FloorDiv (eBin .Mod (eBin .Add (eBin .Mult (eBin .FloorDiv (mVar 5) (mC (.d (.int 64)))) (mC (.d (.int 69621)))) (mVar 5)) (mC (.d (.int 4294967231)))) (mC (.d (.int 8)))) (mVar 2))]
theorem l_law_draw : lookE ents (pl "_law_draw") = some e_law_draw.i := by rfl
theorem b_law_draw (CM : FId → List W → M W) : blk (ev TT CM 40) e_law_draw.i.sc e_law_draw.i.body = t_law_draw CM := by rfl
theorem c_law_draw {k : Nat} {w0 w1 w2 : W} {h : AH} : call (k + 1) (pl "_law_draw") [w0, w1, w2] h = endM h (t_law_draw (call k) [some w0, some w1, some w2, none, none, none] h) := by
  exact (callM_at l_law_draw rfl).trans (by rw [b_law_draw]; rfl)
def t_law_whole (CM : FId → List W → M W) : MS := sBlock [sRet (eAnd (eIsi (mVar 0) "int") (eNot (eIsi (mVar 0) "bool")))]
theorem l_law_whole : lookE ents (pl "_law_whole") = some e_law_whole.i := by rfl
theorem b_law_whole (CM : FId → List W → M W) : blk (ev TT CM 40) e_law_whole.i.sc e_law_whole.i.body = t_law_whole CM := by rfl
theorem c_law_whole {k : Nat} {w0 : W} {h : AH} : call (k + 1) (pl "_law_whole") [w0] h = endM h (t_law_whole (call k) [some w0] h) := by
  exact (callM_at l_law_whole rfl).trans (by rw [b_law_whole]; rfl)
def t_law_word (CM : FId → List W → M W) : MS := sBlock [sIf (tNotM (tst (eIsx TT (mVar 0) "LookupError"))) (sBlock [sRet (eNeg (mC (.d (.int 1))))]) (sBlock []), sSet 1 (eLst (aList [eIsx TT (mVar 0) "BadTerm", eIsx TT (mVar 0) "BadText", eIsx TT (mVar 0) "BadProgram"])), sSet 1 (eBin .Add (mVar 1) (eLst (aList [eIsx TT (mVar 0) "BadNumber", eIsx TT (mVar 0) "BadOrder", eIsx TT (mVar 0) "NoName"]))), sSet 1 (eBin .Add (mVar 1) (eLst (aList [eIsx TT (mVar 0) "NoWord", eIsx TT (mVar 0) "NoHand", eIsx TT (mVar 0) "NoChoice"]))), sSet 1 (eBin .Add (mVar 1) (eLst (aList [eIsx TT (mVar 0) "Clash", eIsx TT (mVar 0) "TooLong"]))), sRet (eIf (tst (eCmp .Eq (eBM .list cntM (mVar 1) (aList [mC (.d (.bool true))])) (mC (.d (.int 1))))) (eBM .list idxM (mVar 1) (aList [mC (.d (.bool true))])) (eNeg (mC (.d (.int 1)))))]
theorem l_law_word : lookE ents (pl "_law_word") = some e_law_word.i := by rfl
theorem b_law_word (CM : FId → List W → M W) : blk (ev TT CM 40) e_law_word.i.sc e_law_word.i.body = t_law_word CM := by rfl
theorem c_law_word {k : Nat} {w0 : W} {h : AH} : call (k + 1) (pl "_law_word") [w0] h = endM h (t_law_word (call k) [some w0, none] h) := by
  exact (callM_at l_law_word rfl).trans (by rw [b_law_word]; rfl)
def t_law_refused (CM : FId → List W → M W) : MS := sBlock [sSet 1 (eLst (aList [mC (.d (.str "term")), mC (.d (.str "text")), mC (.d (.str "program")), mC (.d (.str "number")), mC (.d (.str "order")), mC (.d (.str "name")), mC (.d (.str "no word")), mC (.d (.str "hand")), mC (.d (.str "choice")), mC (.d (.str "clash")), mC (.d (.str "long"))])), sRet (eTup (aList [mC (.d (.str "refused")), eBM .list idxM (mVar 1) (aList [mVar 0])]))]
theorem l_law_refused : lookE ents (pl "_law_refused") = some e_law_refused.i := by rfl
theorem b_law_refused (CM : FId → List W → M W) : blk (ev TT CM 40) e_law_refused.i.sc e_law_refused.i.body = t_law_refused CM := by rfl
theorem c_law_refused {k : Nat} {w0 : W} {h : AH} : call (k + 1) (pl "_law_refused") [w0] h = endM h (t_law_refused (call k) [some w0, none] h) := by
  exact (callM_at l_law_refused rfl).trans (by rw [b_law_refused]; rfl)
def t_law_told (CM : FId → List W → M W) : MS := sBlock [sSet 2 (mC (.d (.none))), sSet 3 (mC (.d (.none))), sTry (fun c => TT.catches c "ToldError") 3 2 4 (eCall CM (pl "_law_one") (aList [mVar 0, mVar 1])), sIf (tst (eCmp .Is (mVar 2) (mC (.d (.none))))) (sBlock [sRet (eTup (aList [mC (.d (.str "found")), mVar 3]))]) (sBlock []), sRet (eTup (aList [mC (.d (.str "refused")), eCall CM (pl "_law_word") (aList [mVar 2])]))]
theorem l_law_told : lookE ents (pl "_law_told") = some e_law_told.i := by rfl
theorem b_law_told (CM : FId → List W → M W) : blk (ev TT CM 40) e_law_told.i.sc e_law_told.i.body = t_law_told CM := by rfl
theorem c_law_told {k : Nat} {w0 w1 : W} {h : AH} : call (k + 1) (pl "_law_told") [w0, w1] h = endM h (t_law_told (call k) [some w0, some w1, none, none, none] h) := by
  exact (callM_at l_law_told rfl).trans (by rw [b_law_told]; rfl)
def t_law_one (CM : FId → List W → M W) : MS := sBlock [sTgW (.t [2, 3, 4]) (mVar 1), sIf (tst (eCmp .Eq (mVar 0) (mC (.d (.int 0))))) (sBlock [sRet (eLen TT CM (eNew CM "Store" [] (aList [mVar 3])))]) (sBlock []), sIf (tst (eCmp .Eq (mVar 0) (mC (.d (.int 1))))) (sBlock [sRet (eMeth TT CM "tell" (mVar 2) (aList [mVar 3, mVar 4]))]) (sBlock []), sRet (eIf (tst (eCmp .Eq (mVar 0) (mC (.d (.int 2))))) (eMeth TT CM "value" (mVar 2) (aList [mVar 3])) (eMeth TT CM "same" (mVar 2) (aList [mVar 3, mVar 4])))]
theorem l_law_one : lookE ents (pl "_law_one") = some e_law_one.i := by rfl
theorem b_law_one (CM : FId → List W → M W) : blk (ev TT CM 40) e_law_one.i.sc e_law_one.i.body = t_law_one CM := by rfl
theorem c_law_one {k : Nat} {w0 w1 : W} {h : AH} : call (k + 1) (pl "_law_one") [w0, w1] h = endM h (t_law_one (call k) [some w0, some w1, none, none, none] h) := by
  exact (callM_at l_law_one rfl).trans (by rw [b_law_one]; rfl)
def t_law (CM : FId → List W → M W) : MS := sBlock [sSet 1 (eCall CM (pl "_law_town") (aList [mVar 0])), sSet 2 (eCall CM (pl "_law_draw") (aList [mVar 0, mVar 1, mC (.d (.int 5))])), sSet 3 (eNew CM "Store" [] (aList [mVar 2])), sSet 4 (eLC (.n 11) (iFun rng1 (aList [eCall CM (pl "_law_draw") (aList [mVar 0, mVar 1, mC (.d (.int 3))])])) tTrue (eMeth TT CM "make" (mVar 3) (aList []))), sIf (tOrM (tst (eCmp .NotEq (mVar 4) (eOut (eLC (.n 11) (iFun rng1 (aList [eLen TT CM (mVar 4)])) tTrue (eTup (aList [mC (.d (.str "?")), eBin .Add (mVar 2) (mVar 11)])))))) (tOrM (tst (eCmp .NotEq (eLen TT CM (mVar 3)) (eBin .Add (mVar 2) (eLen TT CM (mVar 4))))) (tst (eCmp .NotEq (eMeth TT CM "known" (mVar 3) (aList [])) (mC (.d (.int 0))))))) (sBlock [sRet (mC (.d (.bool false)))]) (sBlock []), sFor (.n 5) (iVal (eTup (aList [eNeg (mC (.d (.int 1))), mC (.d (.int 1001)), mC (.d (.bool true)), mC (.d (.none)), mC (.d (.str "1")), mC (.d (.int 1000)), mC (.d (.int 0))]))) (sBlock [sSet 10 (eAnd (eCall CM (pl "_law_whole") (aList [mVar 5])) (eCmp2 .LtE .LtE (mC (.d (.int 0))) (mVar 5) (mC (.d (.int 1000))))), sIf (tst (eCmp .NotEq (eCall CM (pl "_law_told") (aList [mC (.d (.int 0)), eTup (aList [mVar 3, mVar 5, mC (.d (.int 0))])])) (eIf (tst (mVar 10)) (eTup (aList [mC (.d (.str "found")), mVar 5])) (eCall CM (pl "_law_refused") (aList [mC (.d (.str "number"))]))))) (sBlock [sRet (mC (.d (.bool false)))]) (sBlock [])]), sSet 6 (eTup (aList [mC (.d (.str "f")), mC (.d (.int 1)), eTup (aList [mC (.d (.str "?")), eLen TT CM (mVar 3)])])), sFor (.n 7) (iVal (eTup (aList [mC (.d (.int 1)), mC (.d (.int 2)), mC (.d (.int 3))]))) (sBlock [sIf (tst (eCmp .NotEq (eCall CM (pl "_law_told") (aList [mVar 7, eTup (aList [mVar 3, mC (.d (.str "A")), mVar 6])])) (eCall CM (pl "_law_refused") (aList [mC (.d (.str "term"))])))) (sBlock [sRet (mC (.d (.bool false)))]) (sBlock []), sIf (tst (eCmp .NotEq (eCall CM (pl "_law_told") (aList [mVar 7, eTup (aList [mVar 3, mVar 6, mC (.d (.int 1))])])) (eCall CM (pl "_law_refused") (aList [mC (.d (.str "name"))])))) (sBlock [sRet (mC (.d (.bool false)))]) (sBlock []), sIf (tAndM (tst (eCmp .NotEq (mVar 7) (mC (.d (.int 2))))) (tst (eCmp .NotEq (eCall CM (pl "_law_told") (aList [mVar 7, eTup (aList [mVar 3, mC (.d (.int 1)), eTup (aList [mC (.d (.str "f"))])])])) (eCall CM (pl "_law_refused") (aList [mC (.d (.str "term"))]))))) (sBlock [sRet (mC (.d (.bool false)))]) (sBlock [])]), sSet 8 (eMeth TT CM "make" (mVar 3) (aList [])), sSet 9 (eMeth TT CM "twin" (mVar 3) (aList [])), sIf (tOrM (tst (eCmp .NotEq (eCall CM (pl "_law_told") (aList [mC (.d (.int 1)), eTup (aList [mVar 3, eTup (aList [mC (.d (.str "f")), mVar 8, mC (.d (.int 1))]), eTup (aList [mC (.d (.str "f")), mC (.d (.int 5)), mC (.d (.int 2))])])])) (eCall CM (pl "_law_refused") (aList [mC (.d (.str "clash"))])))) (tst (eCmp .NotEq (eMeth TT CM "value" (mVar 3) (aList [mVar 8])) (mVar 8)))) (sBlock [sRet (mC (.d (.bool false)))]) (sBlock []), sIf (tOrM (tst (eCmp .NotEq (eCall CM (pl "_law_told") (aList [mC (.d (.int 1)), eTup (aList [mVar 3, mVar 8, eTup (aList [mC (.d (.str "g")), mVar 8])])])) (eCall CM (pl "_law_refused") (aList [mC (.d (.str "clash"))])))) (tst (eCmp .IsNot (eMeth TT CM "same" (mVar 3) (aList [mVar 8, eTup (aList [mC (.d (.str "g")), mVar 8])])) (mC (.d (.bool false)))))) (sBlock [sRet (mC (.d (.bool false)))]) (sBlock []), sExpr (eMeth TT CM "tell" (mVar 9) (aList [mVar 8, mC (.d (.int 7))])), sExpr (eMeth TT CM "make" (mVar 9) (aList [])), sIf (tOrM (tst (eCmp .NotEq (eMeth TT CM "value" (mVar 3) (aList [mVar 8])) (mVar 8))) (tOrM (tst (eCmp .NotEq (eBin .Add (eLen TT CM (mVar 3)) (mC (.d (.int 1)))) (eLen TT CM (mVar 9)))) (tst (eCmp .NotEq (eMeth TT CM "value" (mVar 9) (aList [eTup (aList [mC (.d (.str "f")), mVar 8])])) (eTup (aList [mC (.d (.str "f")), mC (.d (.int 7))])))))) (sBlock [sRet (mC (.d (.bool false)))]) (sBlock []), sExpr (eMeth TT CM "tell" (mVar 3) (aList [mVar 8, mC (.d (.str "a"))])), sRet (eAnd (eCmp .Eq (eMeth TT CM "value" (mVar 9) (aList [mVar 8])) (mC (.d (.int 7)))) (eAnd (eCmp .Eq (eMeth TT CM "value" (mVar 3) (aList [mVar 8])) (mC (.d (.str "a")))) (eAnd (eCmp .Eq (eLen TT CM (eNew CM "Store" [.d (.int 0)] (aList []))) (mC (.d (.int 0)))) (eCmp .Eq (eMeth TT CM "known" (mVar 3) (aList [])) (mC (.d (.int 1)))))))]
theorem l_law : lookE ents (pl "law") = some e_law.i := by rfl
theorem b_law (CM : FId → List W → M W) : blk (ev TT CM 40) e_law.i.sc e_law.i.body = t_law CM := by rfl
theorem c_law {k : Nat} {w0 : W} {h : AH} : call (k + 1) (pl "law") [w0] h = endM h (t_law (call k) [some w0, none, none, none, none, none, none, none, none, none, none, none] h) := by
  exact (callM_at l_law rfl).trans (by rw [b_law]; rfl)
def t_lawA (CM : FId → List W → M W) : MS := sBlock [sSet 1 (eCall CM (pl "_law_town") (aList [mVar 0])), sSet 2 (eCall CM (pl "_law_draw") (aList [mVar 0, mVar 1, mC (.d (.int 5))])), sSet 3 (eNew CM "Store" [] (aList [mVar 2])), sSet 4 (eLC (.n 11) (iFun rng1 (aList [eCall CM (pl "_law_draw") (aList [mVar 0, mVar 1, mC (.d (.int 3))])])) tTrue (eMeth TT CM "make" (mVar 3) (aList [])))]
def t_lawB (CM : FId → List W → M W) : MS := sBlock [sIf (tOrM (tst (eCmp .NotEq (mVar 4) (eOut (eLC (.n 11) (iFun rng1 (aList [eLen TT CM (mVar 4)])) tTrue (eTup (aList [mC (.d (.str "?")), eBin .Add (mVar 2) (mVar 11)])))))) (tOrM (tst (eCmp .NotEq (eLen TT CM (mVar 3)) (eBin .Add (mVar 2) (eLen TT CM (mVar 4))))) (tst (eCmp .NotEq (eMeth TT CM "known" (mVar 3) (aList [])) (mC (.d (.int 0))))))) (sBlock [sRet (mC (.d (.bool false)))]) (sBlock []), sFor (.n 5) (iVal (eTup (aList [eNeg (mC (.d (.int 1))), mC (.d (.int 1001)), mC (.d (.bool true)), mC (.d (.none)), mC (.d (.str "1")), mC (.d (.int 1000)), mC (.d (.int 0))]))) (sBlock [sSet 10 (eAnd (eCall CM (pl "_law_whole") (aList [mVar 5])) (eCmp2 .LtE .LtE (mC (.d (.int 0))) (mVar 5) (mC (.d (.int 1000))))), sIf (tst (eCmp .NotEq (eCall CM (pl "_law_told") (aList [mC (.d (.int 0)), eTup (aList [mVar 3, mVar 5, mC (.d (.int 0))])])) (eIf (tst (mVar 10)) (eTup (aList [mC (.d (.str "found")), mVar 5])) (eCall CM (pl "_law_refused") (aList [mC (.d (.str "number"))]))))) (sBlock [sRet (mC (.d (.bool false)))]) (sBlock [])]), sSet 6 (eTup (aList [mC (.d (.str "f")), mC (.d (.int 1)), eTup (aList [mC (.d (.str "?")), eLen TT CM (mVar 3)])])), sFor (.n 7) (iVal (eTup (aList [mC (.d (.int 1)), mC (.d (.int 2)), mC (.d (.int 3))]))) (sBlock [sIf (tst (eCmp .NotEq (eCall CM (pl "_law_told") (aList [mVar 7, eTup (aList [mVar 3, mC (.d (.str "A")), mVar 6])])) (eCall CM (pl "_law_refused") (aList [mC (.d (.str "term"))])))) (sBlock [sRet (mC (.d (.bool false)))]) (sBlock []), sIf (tst (eCmp .NotEq (eCall CM (pl "_law_told") (aList [mVar 7, eTup (aList [mVar 3, mVar 6, mC (.d (.int 1))])])) (eCall CM (pl "_law_refused") (aList [mC (.d (.str "name"))])))) (sBlock [sRet (mC (.d (.bool false)))]) (sBlock []), sIf (tAndM (tst (eCmp .NotEq (mVar 7) (mC (.d (.int 2))))) (tst (eCmp .NotEq (eCall CM (pl "_law_told") (aList [mVar 7, eTup (aList [mVar 3, mC (.d (.int 1)), eTup (aList [mC (.d (.str "f"))])])])) (eCall CM (pl "_law_refused") (aList [mC (.d (.str "term"))]))))) (sBlock [sRet (mC (.d (.bool false)))]) (sBlock [])]), sSet 8 (eMeth TT CM "make" (mVar 3) (aList [])), sSet 9 (eMeth TT CM "twin" (mVar 3) (aList [])), sIf (tOrM (tst (eCmp .NotEq (eCall CM (pl "_law_told") (aList [mC (.d (.int 1)), eTup (aList [mVar 3, eTup (aList [mC (.d (.str "f")), mVar 8, mC (.d (.int 1))]), eTup (aList [mC (.d (.str "f")), mC (.d (.int 5)), mC (.d (.int 2))])])])) (eCall CM (pl "_law_refused") (aList [mC (.d (.str "clash"))])))) (tst (eCmp .NotEq (eMeth TT CM "value" (mVar 3) (aList [mVar 8])) (mVar 8)))) (sBlock [sRet (mC (.d (.bool false)))]) (sBlock []), sIf (tOrM (tst (eCmp .NotEq (eCall CM (pl "_law_told") (aList [mC (.d (.int 1)), eTup (aList [mVar 3, mVar 8, eTup (aList [mC (.d (.str "g")), mVar 8])])])) (eCall CM (pl "_law_refused") (aList [mC (.d (.str "clash"))])))) (tst (eCmp .IsNot (eMeth TT CM "same" (mVar 3) (aList [mVar 8, eTup (aList [mC (.d (.str "g")), mVar 8])])) (mC (.d (.bool false)))))) (sBlock [sRet (mC (.d (.bool false)))]) (sBlock []), sExpr (eMeth TT CM "tell" (mVar 9) (aList [mVar 8, mC (.d (.int 7))])), sExpr (eMeth TT CM "make" (mVar 9) (aList [])), sIf (tOrM (tst (eCmp .NotEq (eMeth TT CM "value" (mVar 3) (aList [mVar 8])) (mVar 8))) (tOrM (tst (eCmp .NotEq (eBin .Add (eLen TT CM (mVar 3)) (mC (.d (.int 1)))) (eLen TT CM (mVar 9)))) (tst (eCmp .NotEq (eMeth TT CM "value" (mVar 9) (aList [eTup (aList [mC (.d (.str "f")), mVar 8])])) (eTup (aList [mC (.d (.str "f")), mC (.d (.int 7))])))))) (sBlock [sRet (mC (.d (.bool false)))]) (sBlock []), sExpr (eMeth TT CM "tell" (mVar 3) (aList [mVar 8, mC (.d (.str "a"))])), sRet (eAnd (eCmp .Eq (eMeth TT CM "value" (mVar 9) (aList [mVar 8])) (mC (.d (.int 7)))) (eAnd (eCmp .Eq (eMeth TT CM "value" (mVar 3) (aList [mVar 8])) (mC (.d (.str "a")))) (eAnd (eCmp .Eq (eLen TT CM (eNew CM "Store" [.d (.int 0)] (aList []))) (mC (.d (.int 0)))) (eCmp .Eq (eMeth TT CM "known" (mVar 3) (aList [])) (mC (.d (.int 1)))))))]
theorem b_lawA (CM : FId → List W → M W) : sBlock ((e_law.i.body.take 4).map ((ev TT CM 40).s e_law.i.sc)) = t_lawA CM := by rfl
theorem b_lawB (CM : FId → List W → M W) : blk (ev TT CM 40) e_law.i.sc (e_law.i.body.drop 4) = t_lawB CM := by rfl
noncomputable def m_law (k : Nat) : MS := sSeq (t_lawA (call k)) (mKill 3 (t_lawB (call k)))
theorem hM_law (k : Nat) (G : GA) : SSs TT G (callM TT (lookE ents) 40 k) k e_law.i.sc e_law.i.body (m_law k) := by
  have h := sss_append (P := (ev TT (callM TT (lookE ents) 40 k) 40).s e_law.i.sc) (fun s => (ev_ok (G := G) (k := k) 40).s e_law.i.sc s) (sss_kill (n := 3) (blk_ok (ev_ok (G := G) (k := k) 40) (e_law.i.body.drop 4))) (e_law.i.body.take 4)
  rw [List.take_append_drop, b_lawA, b_lawB] at h
  exact h
end Ev
set_option Elab.async false
set_option linter.all false
set_option maxRecDepth 100000
set_option maxHeartbeats 400000
namespace Ev
open PySem PySem.Spec PyProof.Rows L2 He
theorem r_town {k : Nat} {ns : List Int} (hn : ns.length ≤ 63) : call (k + 1) (pl "_law_town") [.d (dI ns)] [] = .ok (.r 2) [LI [0], LI ns, LI (0 :: ns)] := by
  rw [c_law_town]
  have e1 : kLst [.d (.int 0)] [] = .ok (.r 0) [LI [0]] := rfl
  have e2 : fList [.d (dI ns)] [LI [0]] = .ok (.r 1) [LI [0], LI ns] := by simp [fList, dI, LI]
  have e3 : bAdd (.r 0) (.r 1) [LI [0], LI ns] = .ok (.r 2) [LI [0], LI ns, LI (0 :: ns)] := by
    refine (bAdd_l (a := [.d (.int 0)]) (b := (ns.map PyData.int).map .d) rfl rfl (by simp; exact Nat.le_trans (by omega : 1 + ns.length ≤ 1000) (by decide))).trans ?_
    simp [LI]
  simp [t_law_town, e1, e2, bop, e3, keepM]
theorem r_draw {k : Nat} {ns ts : List Int} {t : Nat} {m c : Int} {h : AH} (ht : h[t]? = some (LI ts)) (T : Tw ns c ts) (hc : c ≤ 1000000) (m0 : 0 < m) (m1 : m < 1000000) :
    ∃ v ts', call (k + 1) (pl "_law_draw") [.d (dI ns), .r t, .d (.int m)] h = .ok (.d (.int v)) (h.set t (LI ts')) ∧ 0 ≤ v ∧ v < m ∧ Tw ns (c + 1) ts' := by
  have htl : t < h.length := (List.getElem?_eq_some_iff.mp ht).1
  rw [c_law_draw]
  obtain ⟨T1, T2, T3⟩ := T
  obtain ⟨q, hq⟩ : ∃ q, q = ts.getD 0 0 := ⟨_, rfl⟩
  rw [← hq] at T2 T3
  have i0 := ix_LI (i := 0) ht (by decide) (by omega)
  rw [show (0 : Int).toNat = 0 from rfl, ← hq] at i0
  have s0 := set_LI (v := q + 1) (i := 0) ht (by decide) (by omega)
  rw [show (0 : Int).toNat = 0 from rfl] at s0
  obtain ⟨t1, ht1⟩ : ∃ t1, t1 = ts.set 0 (q + 1) := ⟨_, rfl⟩
  rw [← ht1] at s0
  have l1 : t1.length = ns.length + 1 := by rw [ht1, List.length_set]; exact T1
  have g1 : t1.getD 0 0 = q + 1 := by
    rw [ht1]
    cases ts with
    | nil => simp at T1
    | cons a b => simp
  have W1 : Tw ns (c + 1) t1 := ⟨l1, by rw [g1]; omega, by rw [g1]; omega⟩
  obtain ⟨h1, hh1⟩ : ∃ h1, h1 = h.set t (LI t1) := ⟨_, rfl⟩
  rw [← hh1] at s0
  have ht2 : h1[t]? = some (LI t1) := by rw [hh1]; exact List.getElem?_set_self htl
  have j0 := ix_LI (i := 0) ht2 (by decide) (by omega)
  rw [show (0 : Int).toNat = 0 from rfl, g1] at j0
  have sm : small64 (q + 1) = true := by simp [small64]; omega
  have sm7 : small64 7 = true := by decide
  have smk : small64 104729 = true := by decide
  have smh : small64 69621 = true := by decide
  have e1 : ∀ x : PyData, endM h (.ok (.rt (.d x)) h1) = .ok (.d x) h1 := fun x => by rw [hh1]; exact end_set0 clos_LI htl
  have m2 : m < 1073741824 := by omega
  cases hn : ns.isEmpty with
  | true =>
    have : ns = [] := by simpa using hn
    subst this
    refine ⟨(q + 1) * (q + 1) * 7 / 3 % m, t1, ?_, Int.emod_nonneg _ (by omega), Int.emod_lt_of_pos _ m0, W1⟩
    have hsh := sh_ints (is := [])
    have hev := eqv_dI_nil (is := [])
    rw [← hh1]
    simp [t_law_draw, i0, bop, bAdd, s0, kLstD, allD, sizeLine, cmp, cEq, peek, hsh, sh_nil, hev, j0, bMul, sm, sm7, bDiv, bMod, m0, e1]
  | false =>
    have hl : 0 < ns.length := by cases ns with
      | nil => cases hn
      | cons a b => simp
    obtain ⟨p, hp⟩ : ∃ p, p = (q + 1) % (ns.length : Int) := ⟨_, rfl⟩
    have p0 : 0 ≤ p := by rw [hp]; exact Int.emod_nonneg _ (by omega)
    have p1 : p < ns.length := by rw [hp]; exact Int.emod_lt_of_pos _ (by omega)
    have j1 := ix_LI (i := 1 + p) ht2 (by omega) (by omega)
    obtain ⟨lf, hlf⟩ : ∃ lf, lf = t1.getD (1 + p).toNat 0 := ⟨_, rfl⟩
    rw [← hlf] at j1
    have j2 := fun h => ix_dI (h := h) (i := p) p0 p1
    obtain ⟨sp, hsp⟩ : ∃ sp, sp = ns.getD p.toNat 0 := ⟨_, rfl⟩
    rw [← hsp] at j2
    have hln : ∀ h, fLen [.d (dI ns)] h = .ok (.d (.int ns.length)) h := fun h => by simp [fLen, dI]
    have hlp : (0 : Int) < (ns.length : Int) := by omega
    have hpw : ∀ h, bPow (.d (.int 10)) (.d (.int 18)) h = .ok (.d (.int (10 ^ 18))) h := fun h => rfl
    have hsh := sh_ints (is := ns)
    have hev := eqv_dI_nil (is := ns)
    rw [hn] at hev
    by_cases big : 10 ^ 18 ≤ sp ∧ 0 < lf
    · have s1 := set_LI (v := lf / m) (i := 1 + p) ht2 (by omega) (by omega)
      refine ⟨lf % m, t1.set (1 + p).toNat (lf / m), ?_, Int.emod_nonneg _ (by omega), Int.emod_lt_of_pos _ m0, ?_⟩
      · have e2 : ∀ x : PyData, endM h (.ok (.rt (.d x)) (h1.set t (LI (t1.set (1 + p).toNat (lf / m))))) = .ok (.d x) (h.set t (LI (t1.set (1 + p).toNat (lf / m)))) := fun x => by
          rw [hh1, List.set_set]; exact end_set0 clos_LI htl
        have b1 : decide (10 ^ 18 ≤ sp) = true := decide_eq_true big.1
        have b2 : decide (0 < lf) = true := decide_eq_true big.2
        simp [-Int.reducePow, t_law_draw, i0, bop, bAdd, s0, kLstD, allD, sizeLine, cmp, cEq, peek, hsh, sh_nil, hev, j0, hln, bMod, hl, hlp, ← hp, j1, j2, hpw, cInt, b1, b2, big.1, big.2, bDiv, m0, m2, s1, e2]
      · refine ⟨by rw [List.length_set]; exact l1, ?_, ?_⟩
        · rw [show (t1.set (1 + p).toNat (lf / m)).getD 0 0 = t1.getD 0 0 from getD_set0 (by omega)]; exact W1.lo
        · rw [show (t1.set (1 + p).toNat (lf / m)).getD 0 0 = t1.getD 0 0 from getD_set0 (by omega)]; exact W1.hi
    · obtain ⟨u, hu⟩ : ∃ u, u = (sp + 104729 * (q + 1)) % 4294967291 := ⟨_, rfl⟩
      have u0 : 0 ≤ u := by rw [hu]; exact Int.emod_nonneg _ (by decide)
      have u1 : u < 4294967291 := by rw [hu]; exact Int.emod_lt_of_pos _ (by decide)
      have hpu : ∀ h, bPow (.d (.int u)) (.d (.int 5)) h = .ok (.d (.int (u ^ 5))) h := fun h => by
        unfold bPow
        simp only
        rw [if_pos (by simp; omega)]; rfl
      obtain ⟨v, hv⟩ : ∃ v, v = u ^ 5 % 4294967279 := ⟨_, rfl⟩
      refine ⟨(v / 64 * 69621 + v) % 4294967231 / 8 % m, t1, ?_, Int.emod_nonneg _ (by omega), Int.emod_lt_of_pos _ m0, W1⟩
      rw [← hh1]
      by_cases b1 : 10 ^ 18 ≤ sp
      · have b2 : ¬ 0 < lf := fun z => big ⟨b1, z⟩
        simp [-Int.reducePow, t_law_draw, i0, bop, bAdd, s0, kLstD, allD, sizeLine, cmp, cEq, peek, hsh, sh_nil, hev, j0, hln, bMod, hl, hlp, ← hp, j1, j2, hpw, cInt, b1, b2, bDiv, m0, m2, bMul, smk, smh, ← hu, hpu, ← hv, e1]
      · simp [-Int.reducePow, t_law_draw, i0, bop, bAdd, s0, kLstD, allD, sizeLine, cmp, cEq, peek, hsh, sh_nil, hev, j0, hln, bMod, hl, hlp, ← hp, j1, j2, hpw, cInt, b1, bDiv, m0, m2, bMul, smk, smh, ← hu, hpu, ← hv, e1]
where
  getD_set0 {l : List Int} {i : Nat} {v : Int} (h : 0 < i) : (l.set i v).getD 0 0 = l.getD 0 0 := by
    cases l with
    | nil => rfl
    | cons a b => cases i with
      | zero => omega
      | succ i => rfl
end Ev
set_option Elab.async false
set_option linter.all false
set_option maxRecDepth 100000
set_option maxHeartbeats 400000
namespace Ev
open PySem PySem.Spec PyProof.Rows L2 He
/-- a store and its list -/
structure StAt (h : AH) (i j : Nat) (ds : List PyData) : Prop where
  ob : h[i]? = some (.ins "Store" [("found", .r j)])
  ls : h[j]? = some (.lst (ds.map .d))
theorem StAt.lt {h : AH} {i j : Nat} {ds : List PyData} (s : StAt h i j ds) : i < h.length ∧ j < h.length ∧ i ≠ j := by
  have h1 := (List.getElem?_eq_some_iff.mp s.ob).1
  have h2 := (List.getElem?_eq_some_iff.mp s.ls).1
  refine ⟨h1, h2, fun e => ?_⟩
  subst e
  have := s.ob.symm.trans s.ls
  cases this
theorem r_is_number {k : Nat} {m : Int} {h : AH} (h0 : 0 ≤ m) (h1 : m ≤ 1000) : call (k + 1) (pl "is_number") [.d (.int m), .d (.int 0), .d (.int 1000)] h = .ok (.d (.bool true)) h := by
  rw [c_is_number]
  simp [t_is_number, isiM, tyName, isSub, cmp, cLe, h0, h1]
theorem sm62 {m : Nat} (hm : m ≤ 100000) : small62 (m : Int) = true := decide_eq_true (by rw [Int.natAbs_natCast]; omega)
theorem le_sz {m : Nat} (hm : m ≤ 100000) : m ≤ sizeLine := Nat.le_trans hm (by decide)
theorem r_rng1 {m : Nat} {h : AH} (hm : m ≤ 100000) : rng1 [.d (.int m)] h = .ok (rangeL 0 m, none) h := by
  unfold rng1; simp only [sm62 hm, if_true]; rfl
theorem rangeL_len {a : Int} {m : Nat} : (rangeL a m).length = m := by simp [rangeL]
theorem r_init {k m : Nat} {h : AH} (hm : m ≤ 1000) : call (k + 2) ("Store", "__init__") [.r h.length, .d (.int m)] (h ++ [.ins "Store" []]) = .ok (.d .none) (h ++ [.ins "Store" [("found", .r (h.length + 1))], .lst (List.replicate m (.d .none))]) := by
  rw [c_Store___init]
  have e1 : call (k + 1) (pl "is_number") [.d (.int m), .d (.int 0), .d (.int 1000)] (h ++ [.ins "Store" []]) = .ok (.d (.bool true)) (h ++ [.ins "Store" []]) := r_is_number (by omega) (by omega)
  have hlc : eLC (.n 2) (iFun rng1 (aList [mVar 1])) tTrue (mC (.d .none)) [some (.r h.length), some (.d (.int m)), none] (h ++ [.ins "Store" []]) = .ok (.r (h ++ [AO.ins "Store" []]).length) (h ++ [.ins "Store" []] ++ [.lst (List.replicate m (.d .none))]) := by
    refine (lc_ap (f := fun _ => some (.d .none)) (ws := rangeL 0 m) (by simp [r_rng1 (show m ≤ 100000 by omega)]) (by rw [rangeL_len]; exact le_sz (by omega)) ?_).trans ?_
    · intro w hw acc
      exact ⟨_, rfl, by simp⟩
    · have e : (rangeL 0 m).filterMap (fun _ => some (W.d .none)) = List.replicate m (.d .none) := by
        rw [filterMap_some, List.map_const', rangeL, List.length_map, List.length_range]
      rw [e]
  simp [-eLC_ap, t_Store___init, e1, ↓hlc, setFldM, at_l, putW, keepM]
theorem r_new {k m : Nat} {h : AH} (hm : m ≤ 1000) : kNew (call (k + 2)) "Store" [] [.d (.int m)] h = .ok (.r h.length) (h ++ [.ins "Store" [("found", .r (h.length + 1))], .lst (List.replicate m (.d .none))]) := by
  unfold kNew; simp only [List.append_nil, r_init hm]
theorem clos_ds {n : Nat} {ds : List PyData} : (AO.lst (ds.map .d)).clos n := clos_data
theorem r_make {k : Nat} {h : AH} {i j : Nat} {ds : List PyData} (s : StAt h i j ds) (hl : ds.length < 100000) : call (k + 1) ("Store", "make") [.r i] h = .ok (.d (.tuple [.str "?", .int ds.length])) (h.set j (.lst ((ds ++ [PyData.none]).map .d))) := by
  obtain ⟨l1, l2, l3⟩ := s.lt
  rw [c_Store_make]
  have f1 : ∀ h' : AH, h'[i]? = some (.ins "Store" [("found", .r j)]) → fldM "found" (.r i) h' = .ok (.r j) h' := fun h' e => by simp [fldM, e]
  have a1 : appM (.r j) [.d .none] h = .ok (.d .none) (h.set j (.lst ((ds ++ [PyData.none]).map .d))) := by
    unfold appM
    simp only [s.ls, List.length_map]
    rw [if_pos (Nat.lt_of_lt_of_le hl (by decide))]
    simp
  have c1 : BT.chk h .list (.r j) = true := by simp [BT.chk, s.ls]
  have o2 : (h.set j (.lst ((ds ++ [PyData.none]).map .d)))[i]? = some (.ins "Store" [("found", .r j)]) := by rw [List.getElem?_set_ne (Ne.symm l3)]; exact s.ob
  have s2 : (h.set j (.lst ((ds ++ [PyData.none]).map .d)))[j]? = some (.lst ((ds ++ [PyData.none]).map .d)) := List.getElem?_set_self l2
  have k1 := kLen_l (T := TT) (CM := call k) s2
  have e1 : ∀ x : PyData, endM h (.ok (.rt (.d x)) (h.set j (.lst ((ds ++ [PyData.none]).map .d)))) = .ok (.d x) (h.set j (.lst ((ds ++ [PyData.none]).map .d))) := fun x => end_set0 clos_ds l2
  obtain ⟨hh, ehh⟩ : ∃ hh, hh = h.set j (.lst ((ds ++ [PyData.none]).map .d)) := ⟨_, rfl⟩
  rw [← ehh] at a1 o2 s2 k1 e1 ⊢
  have sz : (2 : Nat) ≤ sizeLine := by decide
  simp [t_Store_make, f1 h s.ob, f1 hh o2, kB, c1, a1, k1, bop, bSub, kTup, allD, sz, e1]
end Ev
set_option Elab.async false
set_option linter.all false
set_option maxRecDepth 100000
set_option maxHeartbeats 400000
namespace Ev
open PySem PySem.Spec PyProof.Rows L2 He
theorem l_meth {CM : FId → List W → M W} {m : Str} {a : M (List W)} {h : AH} {i j : Nat} {ds : List PyData} (s : StAt h i j ds) (hm : TT.meths.contains ("Store", m) = true) (hn : TT.nopos.contains ("Store", m) = false) (hf : (m == ("found" : Str)) = false) : methM TT CM m (.r i) a h = mb (a h) (fun ws => CM ("Store", m) (.r i :: ws)) := by
  unfold methM
  have e : List.lookup m [(("found" : Str), W.r j)] = none := by rw [List.lookup_cons, hf]; rfl
  simp only [s.ob, e, hm, hn, Bool.not_false, Bool.and_self, if_true]
  rfl
theorem m_make : TT.meths.contains ("Store", "make") = true ∧ TT.nopos.contains ("Store", "make") = false ∧ (("make" : Str) == ("found" : Str)) = false := by decide +kernel
/-- what `made` is: the store's next names -/
def madeL (m n : Nat) : List PyData := (List.range n).map fun i => .tuple [.str "?", .int ((m + i : Nat) : Int)]
theorem madeL_succ (m n : Nat) : madeL m (n + 1) = madeL m n ++ [.tuple [.str "?", .int ((m + n : Nat) : Int)]] := by simp [madeL, List.range_succ]
theorem mk_loop {k : Nat} {env : EnvW} {i j id : Nat} : ∀ (ws : List W) (h : AH) (ds : List PyData) (acc : List PyData), StAt h i j ds → h[id]? = some (.lst (acc.map .d)) → j ≠ id → i ≠ id → ds.length + ws.length < 1000 → acc.length + ws.length < 1000 →
    (∀ w ∈ ws, ∃ e1, tgM (.n 11) w env = some e1 ∧ ∀ h, mVar 3 e1 h = .ok (.r i) h) →
    cLoop id (.n 11) tTrue (eMeth TT (call (k + 1)) "make" (mVar 3) (aList [])) ws env h = .ok () ((h.set j (.lst ((ds ++ List.replicate ws.length PyData.none).map .d))).set id (.lst ((acc ++ madeL ds.length ws.length).map .d)))
  | [], h, ds, acc, s, hid, ne, ne2, _, _, _ => by
    have e1 := set_same s.ls
    have e2 := set_same hid
    simp [cLoop, madeL, e1, e2]
  | w :: ws, h, ds, acc, s, hid, ne, ne2, hl, hl2, hw => by
    obtain ⟨e1, q1, q2⟩ := hw w (by simp)
    obtain ⟨l1, l2, l3⟩ := s.lt
    have l4 := (List.getElem?_eq_some_iff.mp hid).1
    have mk := r_make (k := k) s (by simp at hl; omega)
    obtain ⟨h1, eh1⟩ : ∃ h1, h1 = h.set j (.lst ((ds ++ [PyData.none]).map .d)) := ⟨_, rfl⟩
    rw [← eh1] at mk
    have id1 : h1[id]? = some (.lst (acc.map .d)) := by rw [eh1, List.getElem?_set_ne ne]; exact hid
    have pu : pushM id (.d (.tuple [.str "?", .int ds.length])) h1 = .ok () (h1.set id (.lst ((acc ++ [PyData.tuple [.str "?", .int ds.length]]).map .d))) := by
      unfold pushM
      rw [id1]
      simp only [List.length_map]
      rw [if_pos (Nat.lt_of_lt_of_le (by simp at hl2; omega : acc.length < 1000) (by decide))]
      simp
    obtain ⟨h2, eh2⟩ : ∃ h2, h2 = h1.set id (.lst ((acc ++ [PyData.tuple [.str "?", .int ds.length]]).map .d)) := ⟨_, rfl⟩
    rw [← eh2] at pu
    have s2 : StAt h2 i j (ds ++ [PyData.none]) := by
      refine ⟨?_, ?_⟩
      · rw [eh2, List.getElem?_set_ne (Ne.symm ne2), eh1, List.getElem?_set_ne (Ne.symm l3)]; exact s.ob
      · rw [eh2, List.getElem?_set_ne (Ne.symm ne), eh1]; exact List.getElem?_set_self l2
    have hid2 : h2[id]? = some (.lst ((acc ++ [PyData.tuple [.str "?", .int ds.length]]).map .d)) := by rw [eh2]; exact List.getElem?_set_self (by rw [eh1, List.length_set]; exact l4)
    have ih := mk_loop (k := k) (env := env) ws h2 (ds ++ [PyData.none]) (acc ++ [PyData.tuple [.str "?", .int ds.length]]) s2 hid2 ne ne2 (by simp at hl ⊢; omega) (by simp at hl2 ⊢; omega) fun x hx => hw x (by simp [hx])
    have el : ∀ h' : AH, StAt h' i j ds → eMeth TT (call (k + 1)) "make" (mVar 3) (aList []) e1 h' = call (k + 1) ("Store", "make") [.r i] h' := fun h' s' => by
      rw [eMeth_ap, q2, mb_ok, kM_ap, l_meth s' m_make.1 m_make.2.1 m_make.2.2]; rfl
    unfold cLoop
    rw [q1]
    simp only [mbind_ap]
    rw [show noEx (tTrue e1) h = .ok true h from rfl]
    simp only [mb_ok, if_true, mbind_ap]
    rw [show noEx (eMeth TT (call (k + 1)) "make" (mVar 3) (aList []) e1) h = .ok (.d (.tuple [.str "?", .int ds.length])) h1 from by unfold noEx; rw [el h s, mk]]
    simp only [mb_ok, mbind_ap, pu]
    rw [ih]
    congr 1
    have c1 : ds ++ [PyData.none] ++ List.replicate ws.length PyData.none = ds ++ List.replicate (w :: ws).length PyData.none := by simp [List.replicate_succ]
    have c2 : acc ++ [PyData.tuple [.str "?", .int ds.length]] ++ madeL (ds ++ [PyData.none]).length ws.length = acc ++ madeL ds.length (w :: ws).length := by
      simp [madeL, List.range_succ_eq_map, Function.comp_def]
      intro a ha; omega
    rw [c1, c2, eh2, eh1]
    have ne' := ne
    apply List.ext_getElem?
    intro m
    by_cases m1 : m = id
    · subst m1; simp [List.getElem?_set, l4]
    · by_cases m2 : m = j
      · subst m2
        simp [List.getElem?_set, l2, Ne.symm m1]
      · simp [List.getElem?_set, Ne.symm m1, Ne.symm m2]
end Ev
set_option Elab.async false
set_option linter.all false
set_option maxRecDepth 100000
set_option maxHeartbeats 0
namespace Ev
open PySem PySem.Spec PyProof.Rows L2 He
def isRT (r : R Fl) : Bool := match r with
  | .ok (.rt (.d (.bool b))) _ => b
  | _ => false
theorem isRT_ok {r : R Fl} (h : isRT r = true) : ∃ h', r = .ok (.rt (.d (.bool true))) h' := by
  unfold isRT at h
  split at h
  · subst h; exact ⟨_, rfl⟩
  · cases h
def env23 (w0 : Option W) (v : Int) : EnvW := [w0, some (.r 2), some (.d (.int v)), some (.r 3), some (.r 5), none, none, none, none, none, none, none]
def heap23 (a b : Nat) : AH := [.dead, .dead, .dead, .ins "Store" [("found", .r 4)], .lst ((List.replicate (a + b) PyData.none).map .d), .lst ((madeL a b).map .d)]
theorem q00 (w0 : Option W) : isRT (t_lawB (call 59) (env23 w0 0) (heap23 0 0)) = true := by kernel_rfl
theorem q01 (w0 : Option W) : isRT (t_lawB (call 59) (env23 w0 0) (heap23 0 1)) = true := by kernel_rfl
theorem q02 (w0 : Option W) : isRT (t_lawB (call 59) (env23 w0 0) (heap23 0 2)) = true := by kernel_rfl
theorem q10 (w0 : Option W) : isRT (t_lawB (call 59) (env23 w0 1) (heap23 1 0)) = true := by kernel_rfl
theorem q11 (w0 : Option W) : isRT (t_lawB (call 59) (env23 w0 1) (heap23 1 1)) = true := by kernel_rfl
theorem q12 (w0 : Option W) : isRT (t_lawB (call 59) (env23 w0 1) (heap23 1 2)) = true := by kernel_rfl
theorem q20 (w0 : Option W) : isRT (t_lawB (call 59) (env23 w0 2) (heap23 2 0)) = true := by kernel_rfl
theorem q21 (w0 : Option W) : isRT (t_lawB (call 59) (env23 w0 2) (heap23 2 1)) = true := by kernel_rfl
theorem q22 (w0 : Option W) : isRT (t_lawB (call 59) (env23 w0 2) (heap23 2 2)) = true := by kernel_rfl
theorem q30 (w0 : Option W) : isRT (t_lawB (call 59) (env23 w0 3) (heap23 3 0)) = true := by kernel_rfl
theorem q31 (w0 : Option W) : isRT (t_lawB (call 59) (env23 w0 3) (heap23 3 1)) = true := by kernel_rfl
theorem q32 (w0 : Option W) : isRT (t_lawB (call 59) (env23 w0 3) (heap23 3 2)) = true := by kernel_rfl
theorem q40 (w0 : Option W) : isRT (t_lawB (call 59) (env23 w0 4) (heap23 4 0)) = true := by kernel_rfl
theorem q41 (w0 : Option W) : isRT (t_lawB (call 59) (env23 w0 4) (heap23 4 1)) = true := by kernel_rfl
theorem q42 (w0 : Option W) : isRT (t_lawB (call 59) (env23 w0 4) (heap23 4 2)) = true := by kernel_rfl
theorem q_all (w0 : Option W) : ∀ a b : Nat, a < 5 → b < 3 → isRT (t_lawB (call 59) (env23 w0 a) (heap23 a b)) = true
  | 0, 0, _, _ => q00 w0
  | 0, 1, _, _ => q01 w0
  | 0, 2, _, _ => q02 w0
  | 1, 0, _, _ => q10 w0
  | 1, 1, _, _ => q11 w0
  | 1, 2, _, _ => q12 w0
  | 2, 0, _, _ => q20 w0
  | 2, 1, _, _ => q21 w0
  | 2, 2, _, _ => q22 w0
  | 3, 0, _, _ => q30 w0
  | 3, 1, _, _ => q31 w0
  | 3, 2, _, _ => q32 w0
  | 4, 0, _, _ => q40 w0
  | 4, 1, _, _ => q41 w0
  | 4, 2, _, _ => q42 w0
  | a + 5, _, h, _ => absurd h (by omega)
  | _, b + 3, _, h => absurd h (by omega)
end Ev
set_option Elab.async false
set_option linter.all false
set_option maxRecDepth 100000
set_option maxHeartbeats 400000
namespace Ev
open PySem PySem.Spec PyProof.Rows L2 He
theorem law_true (ns : List Int) (hn : ns.length ≤ 63) : ∃ h, m_law 59 (startW e_law.N [.d (.list (ns.map PyData.int))]) [] = .ok (.rt (.d (.bool true))) h := by
  have e0 : startW e_law.N [.d (.list (ns.map PyData.int))] = [some (.d (dI ns)), none, none, none, none, none, none, none, none, none, none, none] := rfl
  rw [e0]
  have a1 := r_town (k := 58) hn
  obtain ⟨h0, eh0⟩ : ∃ h0, h0 = [LI [0], LI ns, LI (0 :: ns)] := ⟨_, rfl⟩
  rw [← eh0] at a1
  have T0 : Tw ns 0 (0 :: ns) := ⟨by simp, by simp, by simp⟩
  obtain ⟨v, t1, a2, v0, v1, T1⟩ := r_draw (k := 58) (m := 5) (h := h0) (t := 2) (by rw [eh0]; rfl) T0 (by decide) (by decide) (by decide)
  obtain ⟨h1, eh1⟩ : ∃ h1, h1 = h0.set 2 (LI t1) := ⟨_, rfl⟩
  have eh1' : h1 = [LI [0], LI ns, LI t1] := by rw [eh1, eh0]; rfl
  rw [← eh1] at a2
  obtain ⟨a, ea⟩ : ∃ a : Nat, v = (a : Int) := ⟨v.toNat, by omega⟩
  subst ea
  have ha : a < 5 := by omega
  have a3 := r_new (k := 57) (m := a) (h := h1) (by omega)
  have hl1 : h1.length = 3 := by rw [eh1']; rfl
  obtain ⟨h2, eh2⟩ : ∃ h2, h2 = h1 ++ [.ins "Store" [("found", .r (h1.length + 1))], .lst (List.replicate a (.d .none))] := ⟨_, rfl⟩
  rw [← eh2, hl1] at a3
  have eh2' : h2 = [LI [0], LI ns, LI t1, .ins "Store" [("found", .r 4)], .lst ((List.replicate a PyData.none).map .d)] := by rw [eh2, eh1']; simp
  obtain ⟨u, t2, a4, u0, u1, T2⟩ := r_draw (k := 58) (m := 3) (h := h2) (t := 2) (by rw [eh2']; rfl) T1 (by decide) (by decide) (by decide)
  obtain ⟨h3, eh3⟩ : ∃ h3, h3 = h2.set 2 (LI t2) := ⟨_, rfl⟩
  have eh3' : h3 = [LI [0], LI ns, LI t2, .ins "Store" [("found", .r 4)], .lst ((List.replicate a PyData.none).map .d)] := by rw [eh3, eh2']; rfl
  rw [← eh3] at a4
  obtain ⟨b, eb⟩ : ∃ b : Nat, u = (b : Int) := ⟨u.toNat, by omega⟩
  subst eb
  have hb : b < 3 := by omega
  have hl3 : h3.length = 5 := by rw [eh3']; rfl
  have s3 : StAt (h3 ++ [.lst []]) 3 4 (List.replicate a PyData.none) := by rw [eh3']; exact ⟨rfl, rfl⟩
  obtain ⟨E3, eE3⟩ : ∃ E3 : EnvW, E3 = [some (.d (dI ns)), some (.r 2), some (.d (.int a)), some (.r 3), none, none, none, none, none, none, none, none] := ⟨_, rfl⟩
  have lp := mk_loop (k := 58) (env := wipeW E3 [11]) (i := 3) (j := 4) (id := 5) (rangeL 0 b) (h3 ++ [.lst []]) (List.replicate a PyData.none) [] s3 (by rw [eh3']; rfl) (by decide) (by decide) (by rw [rangeL_len, List.length_replicate]; omega) (by rw [rangeL_len]; simp; omega) fun w hw => by
    refine ⟨_, rfl, fun h => ?_⟩
    rw [eE3]; rfl
  rw [rangeL_len] at lp
  have lc : eLC (.n 11) (iFun rng1 (aList [eCall (call 59) (pl "_law_draw") (aList [mVar 0, mVar 1, mC (.d (.int 3))])])) tTrue (eMeth TT (call 59) "make" (mVar 3) (aList [])) E3 h2 = .ok (.r 5) (([LI [0], LI ns, LI t2] : AH) ++ (heap23 a b).drop 3) := by
    rw [eLC_ap]
    have e1 : iFun rng1 (aList [eCall (call 59) (pl "_law_draw") (aList [mVar 0, mVar 1, mC (.d (.int 3))])]) E3 h2 = .ok (rangeL 0 b, none) h3 := by
      rw [eE3]
      simp [a4, r_rng1 (show b ≤ 100000 by omega)]
    rw [e1, mb_ok]
    show mb (cLoop h3.length (.n 11) tTrue (eMeth TT (call 59) "make" (mVar 3) (aList [])) (rangeL 0 b) (wipeW E3 [11]) (h3 ++ [.lst []])) (kRef h3.length) = _
    rw [hl3, lp]
    simp only [mb_ok, kRef_ap]
    congr 1
    rw [eh3']
    simp [heap23]
  have hA : t_lawA (call 59) [some (.d (dI ns)), none, none, none, none, none, none, none, none, none, none, none] [] = .ok (.nx (env23 (some (.d (dI ns))) a)) (([LI [0], LI ns, LI t2] : AH) ++ (heap23 a b).drop 3) := by
    have lc' := lc
    rw [eE3] at lc'
    simp [-eLC_ap, t_lawA, a1, a2, a3, ↓lc', env23]
  obtain ⟨h', e'⟩ := isRT_ok (q_all (some (.d (dI ns))) a b ha hb)
  refine ⟨h', ?_⟩
  show mbind (t_lawA (call 59) _) _ [] = _
  rw [mbind_ap, hA, mb_ok]
  exact e'
end Ev
set_option Elab.async false
set_option linter.all false
set_option maxRecDepth 100000
set_option maxHeartbeats 0
namespace Ev
open PySem PySem.Spec PyProof.Rows L2 He
abbrev RR : PySem.W.OpenRow := PySem.W.OpenLaw.row ROW
def loose : List Str := (["ToldError", "BadTerm", "BadText", "BadProgram", "BadNumber", "BadOrder", "NoName", "NoWord", "NoHand", "NoChoice", "Clash", "TooLong", "LETTERS", "MOST_PARTS", "is_number", "is_int", "is_word", "is_name", "count_parts", "is_term", "look_term", "is_tree", "add_names", "Store", "_law_town", "_law_draw", "_law_whole", "_law_word", "_law_refused", "_law_told"] : List PySem.Str) ++ (["_law_one"] : List PySem.Str)
def ob (s : PySem.W.SharedT) : AlE := obsEG 5 hd (HandSHeadRun.getT s)
theorem ob_eq (s : PySem.W.SharedT) : ob s = (hookE 5 hd).obs s.abs := obsEG_eq (HandSHeadRun.getT_eq s)
theorem run (w : World) : HandSHeadRun.RunEq RR (PySem.W.view RR.prog [35]) (hookE 5 hd) ob 20000 loose w := by
  intro os
  kernel_rfl
end Ev
open PySem PySem.W PySem.Calls PyProof.Rows
theorem PySem.Challenge.cw_toldnames_k23_refused_stores_holds : PySem.Challenge.rw_toldnames_k23_refused_stores.Holds := by
  w_on; o_law
  refine HandSHeadRun.head_any (r := OpenLaw.row PySem.Challenge.rw_toldnames_k23_refused_stores) (q := view (OpenLaw.row PySem.Challenge.rw_toldnames_k23_refused_stores).prog [35]) (H := Ev.hookE 5 Ev.hd) (ob := Ev.ob) (M := 20000) (loose := Ev.loose) (d := HandSHeadRun.topDef (OpenLaw.row PySem.Challenge.rw_toldnames_k23_refused_stores).prog 35) (kwd := []) Ev.ob_eq
    (by kernel_rfl) (fun s => by kernel_rfl) Ev.run (by kernel_rfl) (by kernel_rfl) (by kernel_rfl) (by rfl) (by first | assumption | decide +kernel) (by decide +kernel) ⟨rfl, rfl, rfl, rfl, rfl, by decide +kernel⟩ ?hw ?hc
  case hw => w_witness2
  case hc =>
    exact Ev.law_ofM (l := PySem.Challenge.rw_toldnames_k23_refused_stores) (n := 63) (k := 59) (dp := 40) (e := Ev.e_law) Ev.goods rfl (by decide) (by kernel_rfl) ⟨rfl, by decide, by decide⟩ (by kernel_rfl) (by decide +kernel) rfl rfl
      (fun K a fd F s u => L2.FunD.bindsA (ps := ["script"]) F (fun _ _ _ _ _ _ us hl => match us, hl with | [_], _ => rfl) s [u] rfl) (Ev.hM_law 59) Ev.law_true
