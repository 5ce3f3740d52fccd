import PyProof.Rows.All
import HandS.ForMost
import HandS.ForExc
import HandS.IsInst
import HandS.Style
import HandS.CallLocal
import HandS.Defaults
import HandS.FStr
import HandS.TupAny
import HandS.Conv
import KE.KeyNested
import HandS.More
import HandS.ExcOwn
import HandS.Ends
import HandS.ExcIs
import PyProof.Rows.TupTab
import KE.KDictKeyed
import KE.KEqDict
import PyProof.ReprRoads
import HandS.RaiseMore
import HandS.SetFor
import HandS.Walk
import HandS.Zip
import HandS.TryOnly
import HandS.TupLe
import KE.DataMinMax
import KE.KUnpackStar
import KE.KDictZip
import HandS.ListItems
import HandS.Iter
import HandS.DictComp
import HandS.Strs
import KE.KDictCopyH
import KE.KDictWalk
import PyProof.Rows.FactsT3
import HandS.Words
import HandS.HeadEnd
import HandS.HeadHook1
import HandS.HeadHook2
import HandS.HeadHook3
import HandS.Head0
import HandS.Head1
import HandS.Head2
import PySem.Challenge.RW_toldnames_k11_whole_common
import PyProof.StrLawsRepr
import PyProof.Rows.StrIntSpec
import KE.KIntText
set_option Elab.async false
set_option linter.all false
set_option maxRecDepth 100000
set_option maxHeartbeats 2000000
/-! E1: values, objects, results of a small evaluator, and how they stand in the layer's heap. -/
namespace Ev
open PySem PySem.Spec PyProof.Rows L2

/-- a value: data, a tracked object, a def, a caught exception -/
inductive W where
  | d (x : PyData)
  | r (i : Nat)
  | fn (f : Str)
  | ex (c : Str)
/-- a tracked object -/
inductive AO where
  | lst (xs : List W)
  | dic (kvs : List (PyData × W))
  | ins (c : Str) (fs : List (Str × W))
  | tup (xs : List W)
  | dead
  | rod (kvs : List (PyData × W))
  | dcn (kvs : List (PyData × W))
  | dcb (b : Bool) (w : W)
abbrev AH := List AO
inductive R (α : Type) where
  | ok (a : α) (h : AH)
  | ex (c : Str) (h : AH)
  | no
abbrev M (α : Type) := AH → R α
abbrev EnvW := List (Option W)
abbrev ME := EnvW → M W
inductive Fl where
  | nx (e : EnvW)
  | rt (w : W)
  | bk (e : EnvW)
  | ct (e : EnvW)
abbrev MS := EnvW → M Fl
def mno {α : Type} : M α := fun _ => .no
def mpure {α : Type} (a : α) : M α := fun h => .ok a h
def mbind {α β : Type} (m : M α) (f : α → M β) : M β := fun h => match m h with
  | .ok a h' => f a h'
  | .ex c h' => .ex c h'
  | .no => .no
def mraise {α : Type} (c : Str) : M α := fun h => .ex c h
def mget (i : Nat) : M AO := fun h => match h[i]? with
  | some o => .ok o h
  | none => .no
def mset (i : Nat) (o : AO) : M Unit := fun h => .ok () (h.set i o)
def mnew (o : AO) : M Nat := fun h => .ok h.length (h ++ [o])

/-! ### what is fixed: the written part, the defs' and classes' places -/
abbrev FId := Str × Str
/-- a def of the module -/
abbrev pl (f : Str) : FId := (Str.empty, f)
structure GA where
  K : PySem.W.Frag
  w : World
  fa : FId → Option Addr
  ca : Str → Option Addr
  xa : Str → Option Addr

/-- a state: the abstract heap, the tracked objects' places, the objects -/
structure Cf where
  H : Hp
  μ : List Addr
  ah : AH
def Cf.live (c : Cf) (a : Addr) : Prop := ∃ i : Nat, c.μ[i]? = some a

/-- a tuple of the module's own -/
def TK (K : PySem.W.Frag) (a : Addr) (xs : List V) : Prop := ∃ (o : Obj) (its : Array Value) (n : Nat), K.lookup a = some o ∧ o.cls = .type "tuple" ∧ o.data = .seq its n ∧ its.size ≤ sizeLine ∧ Vals xs its.toList
def keyD : Key → PyData
  | .inl i => .int i
  | .inr x => .str x
mutual
/-- data at a value -/
inductive Rp (K : PySem.W.Frag) (c : Cf) : V → PyData → Prop
  | non : Rp K c .non .none
  | bl (b : Bool) : Rp K c (.bl b) (.bool b)
  | int (i : Int) : Rp K c (.int i) (.int i)
  | str (x : Str) : Rp K c (.str x) (.str x)
  | lst {a : Addr} {xs : List V} {ds : List PyData} : ¬ c.live a → Rd c.H a (.lst xs) → RpL K c xs ds → Rp K c (.ref a) (.list ds)
  | tup {a : Addr} {xs : List V} {ds : List PyData} : ¬ c.live a → Rd c.H a (.tup xs) → RpL K c xs ds → Rp K c (.ref a) (.tuple ds)
  | tupK {a : Addr} {xs : List V} {ds : List PyData} : TK K a xs → RpL K c xs ds → Rp K c (.ref a) (.tuple ds)
  | dic {a : Addr} {xs : List (Key × V)} {ds : List (PyData × PyData)} : ¬ c.live a → Rd c.H a (.dK xs) → RpD K c xs ds → Rp K c (.ref a) (.dict ds)
inductive RpL (K : PySem.W.Frag) (c : Cf) : List V → List PyData → Prop
  | nil : RpL K c [] []
  | cons {v : V} {vs : List V} {d : PyData} {ds : List PyData} : Rp K c v d → RpL K c vs ds → RpL K c (v :: vs) (d :: ds)
inductive RpD (K : PySem.W.Frag) (c : Cf) : List (Key × V) → List (PyData × PyData) → Prop
  | nil : RpD K c [] []
  | cons {k : Key} {v : V} {vs : List (Key × V)} {d : PyData} {ds : List (PyData × PyData)} : Rp K c v d → RpD K c vs ds → RpD K c ((k, v) :: vs) ((keyD k, d) :: ds)
end
/-- an exception object of the class C at a -/
def ExO (a C : Addr) : Heap → Prop := fun h => ∃ oe vs, h.get? a = some oe ∧ oe.cls = .ref C ∧ oe.dict = none ∧ oe.data = .fields vs
/-- a value -/
def RW (G : GA) (c : Cf) (v : V) : W → Prop
  | .d x => Rp G.K c v x
  | .r i => ∃ a, v = .ref a ∧ c.μ[i]? = some a
  | .fn f => ∃ a, v = .ref a ∧ G.fa (pl f) = some a
  | .ex k => ∃ a C, v = .ref a ∧ G.xa k = some C ∧ ¬ c.live a ∧ c.H a = some (.ext (ExO a C))
abbrev RWL (G : GA) (c : Cf) : List V → List W → Prop := Paired (RW G c)
/-! ### dicts whose keys are tuples; a dict of one key, a truth -/
mutual
def nkOf : PyData → Option NestedKey
  | .none => some .none
  | .int i => some (.num i)
  | .str x => some (.text x)
  | .tuple ds => (nkOfL ds).map .tup
  | _ => none
def nkOfL : List PyData → Option (List NestedKey)
  | [] => some []
  | d :: ds => match nkOf d, nkOfL ds with
    | some k, some ks => some (k :: ks)
    | _, _ => none
end
def NDO (w : World) (a : Addr) (xs : List (NestedKey × Addr × Value)) : Heap → Prop := fun h => ∃ o es ep, h.get? a = some o ∧ o.ExactDict ∧ o.data = .dict es ep ∧ es.toList = xs.map fun x => (⟨x.1.hash w, .ref x.2.1, x.2.2⟩ : DictEntry)
def hashB (b : Bool) : Int := hashInt (if b = true then 1 else 0)
def AtO (a : Addr) (o : Obj) : Heap → Prop := fun h => h.get? a = some o
def BDo (b : Bool) (u : Value) (o : Obj) : Prop := o.ExactDict ∧ ∃ ep, o.data = .dict #[(⟨hashB b, .bool b, u⟩ : DictEntry)] ep
def NDR (G : GA) (c : Cf) : List (NestedKey × Addr × Value) → List (PyData × W) → Prop := Paired fun x q => nkOf q.1 = some x.1 ∧ x.1.depth ≤ 8 ∧ Rp G.K c (.ref x.2.1) q.1 ∧ ∃ v, RelV v x.2.2 ∧ RW G c v q.2
/-- an object -/
def OR (G : GA) (c : Cf) (a : Addr) : AO → Prop
  | .lst ws => ∃ xs, c.H a = some (.lst xs) ∧ RWL G c xs ws
  | .dic kvs => ∃ xs, c.H a = some (.dK xs) ∧ Paired (fun (p : Key × V) (q : PyData × W) => q.1 = keyD p.1 ∧ RW G c p.2 q.2) xs kvs
  | .ins k fs => ∃ C dx xs, c.H a = some (.ins C dx xs) ∧ G.ca k = some C ∧ Paired (fun (p : Str × V) (q : Str × W) => p.1 = q.1 ∧ RW G c p.2 q.2) xs fs
  | .tup ws => ∃ xs, c.H a = some (.tup xs) ∧ RWL G c xs ws
  | .dead => ∃ o, c.H a = some o
  | .rod kvs => ∃ xs od, c.H a = some (.frz od (.dK xs)) ∧ Paired (fun (p : Key × V) (q : PyData × W) => q.1 = keyD p.1 ∧ RW G c p.2 q.2) xs kvs
  | .dcn kvs => ∃ xs, c.H a = some (.ext (NDO G.w a xs)) ∧ (a == sysModules) = false ∧ xs.length ≤ sizeLine ∧ (xs.map (·.1)).Nodup ∧ NDR G c xs kvs
  | .dcb b w => ∃ o u v, c.H a = some (.ext (AtO a o)) ∧ BDo b u o ∧ (a == sysModules) = false ∧ RelV v u ∧ RW G c v w
structure Cf.ok (G : GA) (c : Cf) : Prop where
  len : c.μ.length = c.ah.length
  nd : c.μ.Nodup
  obj : ∀ (i : Nat) (a : Addr) (o : AO), c.μ[i]? = some a → c.ah[i]? = some o → OR G c a o

/-- what stays from state to state: the objects' places, what is not tracked, what is locked -/
structure Cf.ext (c c' : Cf) : Prop where
  pre : ∀ (i : Nat) (a : Addr), c.μ[i]? = some a → c'.μ[i]? = some a
  keep : ∀ (a : Addr) (o : HO), c.H a = some o → ¬ c.live a → c'.H a = some o ∧ ¬ c'.live a
  dead : ∀ (i : Nat) (a : Addr) (o : HO), c.μ[i]? = some a → c.ah[i]? = some .dead → c.H a = some o → c'.H a = some o ∧ c'.ah[i]? = some .dead
  rod : ∀ (i : Nat) (a : Addr) (kvs : List (PyData × W)) (o : HO), c.μ[i]? = some a → c.ah[i]? = some (.rod kvs) → c.H a = some o → c'.H a = some o ∧ c'.ah[i]? = some (.rod kvs)
theorem Cf.ext.rd {c c' : Cf} (e : c.ext c') {a : Addr} {u : HO} (h : Rd c.H a u) (l : ¬ c.live a) : Rd c'.H a u ∧ ¬ c'.live a := by
  rcases h with h | ⟨o, h⟩
  · exact ⟨.inl (e.keep a _ h l).1, (e.keep a _ h l).2⟩
  · exact ⟨.inr ⟨o, (e.keep a _ h l).1⟩, (e.keep a _ h l).2⟩
theorem Cf.ext.refl (c : Cf) : c.ext c := ⟨fun _ _ h => h, fun _ _ h l => ⟨h, l⟩, fun _ _ _ _ h1 h2 => ⟨h2, h1⟩, fun _ _ _ _ _ h1 h2 => ⟨h2, h1⟩⟩
theorem Cf.ext.trans {c c1 c2 : Cf} (a : c.ext c1) (b : c1.ext c2) : c.ext c2 :=
  ⟨fun i x h => b.pre i x (a.pre i x h), fun x u h l => by
    obtain ⟨h1, l1⟩ := a.keep x u h l
    exact b.keep x u h1 l1, fun i x o h1 h2 h3 => by
    obtain ⟨h4, h5⟩ := a.dead i x o h1 h2 h3
    exact b.dead i x o (a.pre i x h1) h5 h4, fun i x kvs o h1 h2 h3 => by
    obtain ⟨h4, h5⟩ := a.rod i x kvs o h1 h2 h3
    exact b.rod i x kvs o (a.pre i x h1) h5 h4⟩
mutual
theorem Rp.mono {K : PySem.W.Frag} {c c' : Cf} (e : c.ext c') : ∀ {d : PyData} {v : V}, Rp K c v d → Rp K c' v d
  | _, _, .non => .non
  | _, _, .bl b => .bl b
  | _, _, .int i => .int i
  | _, _, .str x => .str x
  | _, _, .lst l h r => .lst (e.rd h l).2 (e.rd h l).1 (RpL.mono e r)
  | _, _, .tup l h r => .tup (e.rd h l).2 (e.rd h l).1 (RpL.mono e r)
  | _, _, .tupK h r => .tupK h (RpL.mono e r)
  | _, _, .dic l h r => .dic (e.rd h l).2 (e.rd h l).1 (RpD.mono e r)
theorem RpL.mono {K : PySem.W.Frag} {c c' : Cf} (e : c.ext c') : ∀ {ds : List PyData} {vs : List V}, RpL K c vs ds → RpL K c' vs ds
  | _, _, .nil => .nil
  | _, _, .cons h r => .cons (Rp.mono e h) (RpL.mono e r)
theorem RpD.mono {K : PySem.W.Frag} {c c' : Cf} (e : c.ext c') : ∀ {ds : List (PyData × PyData)} {vs : List (Key × V)}, RpD K c vs ds → RpD K c' vs ds
  | _, _, .nil => .nil
  | _, _, .cons h r => .cons (Rp.mono e h) (RpD.mono e r)
end
theorem RW.mono {G : GA} {c c' : Cf} (e : c.ext c') {v : V} : ∀ {w : W}, RW G c v w → RW G c' v w
  | .d _, h => Rp.mono e h
  | .r _, ⟨a, h1, h2⟩ => ⟨a, h1, e.pre _ _ h2⟩
  | .fn _, h => h
  | .ex _, ⟨a, C, h1, h2, h3, h4⟩ => ⟨a, C, h1, h2, (e.keep a _ h4 h3).2, (e.keep a _ h4 h3).1⟩
theorem RWL.mono {G : GA} {c c' : Cf} (e : c.ext c') {vs : List V} {ws : List W} (h : RWL G c vs ws) : RWL G c' vs ws := L2.Paired.mapP h fun _ _ r => RW.mono e r

/-! ### what is wanted of a result -/
def Po {α : Type} (G : GA) (r : R α) (c : Cf) (F : α → Cf → Prop) (E : Str → Cf → Prop) : Prop := match r with
  | .ok a h => ∀ c', c.ext c' → c'.ok G → c'.ah = h → F a c'
  | .ex k h => ∀ c', c.ext c' → c'.ok G → c'.ah = h → E k c'
  | .no => False
theorem Po.mono {α : Type} {G : GA} {r : R α} {c : Cf} {F F' : α → Cf → Prop} {E E' : Str → Cf → Prop} (h : Po G r c F E) (hF : ∀ a c', c.ext c' → c'.ok G → F a c' → F' a c') (hE : ∀ k c', c.ext c' → c'.ok G → E k c' → E' k c') : Po G r c F' E' := by
  cases r with
  | ok a h' => exact fun c' e o q => hF a c' e o (h c' e o q)
  | ex k h' => exact fun c' e o q => hE k c' e o (h c' e o q)
  | no => exact h
theorem Po.bind {α β : Type} {G : GA} {m : M α} {f : α → M β} {c : Cf} {F : β → Cf → Prop} {E : Str → Cf → Prop} (h : Po G (mbind m f c.ah) c F E) : Po G (m c.ah) c (fun a c1 => Po G (f a c1.ah) c1 F E) E := by
  unfold mbind at h
  cases q : m c.ah with
  | ok a h' =>
    rw [q] at h
    intro c1 e1 o1 q1
    subst q1
    exact Po.later e1 h
  | ex k h' =>
    rw [q] at h
    exact h
  | no =>
    rw [q] at h
    exact h
where
  Po.later {α : Type} {G : GA} {r : R α} {c c1 : Cf} {F : α → Cf → Prop} {E : Str → Cf → Prop} (e : c.ext c1) (h : Po G r c F E) : Po G r c1 F E := by
    cases r with
    | ok a h' => exact fun c' e' o q => h c' (e.trans e') o q
    | ex k h' => exact fun c' e' o q => h c' (e.trans e') o q
    | no => exact h

/-! ### states made of states -/
theorem OR.mono {G : GA} {c c' : Cf} (e : c.ext c') {a : Addr} (h : c'.H a = c.H a) : ∀ {o : AO}, OR G c a o → OR G c' a o
  | .lst _, ⟨xs, h1, r⟩ => ⟨xs, h.trans h1, RWL.mono e r⟩
  | .dic _, ⟨xs, h1, r⟩ => ⟨xs, h.trans h1, L2.Paired.mapP r fun _ _ q => ⟨q.1, RW.mono e q.2⟩⟩
  | .ins _ _, ⟨C, dx, xs, h1, h2, r⟩ => ⟨C, dx, xs, h.trans h1, h2, L2.Paired.mapP r fun _ _ q => ⟨q.1, RW.mono e q.2⟩⟩
  | .tup _, ⟨xs, h1, r⟩ => ⟨xs, h.trans h1, RWL.mono e r⟩
  | .dead, ⟨o, h1⟩ => ⟨o, h.trans h1⟩
  | .rod _, ⟨xs, od, h1, r⟩ => ⟨xs, od, h.trans h1, L2.Paired.mapP r fun _ _ q => ⟨q.1, RW.mono e q.2⟩⟩
  | .dcn _, ⟨xs, h1, h2, h3, h4, r⟩ => ⟨xs, h.trans h1, h2, h3, h4, L2.Paired.mapP r fun _ _ ⟨q1, q2, q3, v, q4, q5⟩ => ⟨q1, q2, Rp.mono e q3, v, q4, RW.mono e q5⟩⟩
  | .dcb _ _, ⟨o, u, v, h1, h2, h3, h4, r⟩ => ⟨o, u, v, h.trans h1, h2, h3, h4, RW.mono e r⟩
theorem OR.there {G : GA} {c : Cf} {a : Addr} : ∀ {o : AO}, OR G c a o → ∃ u, c.H a = some u
  | .lst _, ⟨xs, h1, _⟩ => ⟨_, h1⟩
  | .dic _, ⟨xs, h1, _⟩ => ⟨_, h1⟩
  | .ins _ _, ⟨C, dx, xs, h1, _⟩ => ⟨_, h1⟩
  | .tup _, ⟨xs, h1, _⟩ => ⟨_, h1⟩
  | .dead, ⟨o, h1⟩ => ⟨_, h1⟩
  | .rod _, ⟨xs, od, h1, _⟩ => ⟨_, h1⟩
  | .dcn _, ⟨xs, h1, _⟩ => ⟨_, h1⟩
  | .dcb _ _, ⟨o, u, v, h1, _⟩ => ⟨_, h1⟩
theorem Cf.ok.there {G : GA} {c : Cf} (k : c.ok G) {i : Nat} {a : Addr} (h : c.μ[i]? = some a) : ∃ u, c.H a = some u := by
  obtain ⟨hl, _⟩ := List.getElem?_eq_some_iff.mp h
  have hl2 : i < c.ah.length := by rw [← k.len]; exact hl
  exact (k.obj i a _ h (List.getElem?_eq_getElem hl2)).there
theorem Cf.ok.at {G : GA} {c : Cf} (k : c.ok G) {i : Nat} {o : AO} (h : c.ah[i]? = some o) : ∃ a, c.μ[i]? = some a ∧ OR G c a o := by
  obtain ⟨hl, _⟩ := List.getElem?_eq_some_iff.mp h
  have hl2 : i < c.μ.length := by rw [k.len]; exact hl
  exact ⟨_, List.getElem?_eq_getElem hl2, k.obj i _ o (List.getElem?_eq_getElem hl2) h⟩
theorem Cf.ok.inj {G : GA} {c : Cf} (k : c.ok G) {i j : Nat} {a : Addr} (h : c.μ[i]? = some a) (h' : c.μ[j]? = some a) : i = j := by
  obtain ⟨h1, e1⟩ := List.getElem?_eq_some_iff.mp h
  obtain ⟨h2, e2⟩ := List.getElem?_eq_some_iff.mp h'
  exact (List.getElem_inj k.nd).mp (e1.trans e2.symm)
/-- an untracked new object -/
def Cf.lay (c : Cf) (p : Addr) (o : HO) : Cf := { c with H := upd c.H p o }
theorem Cf.lay_ext {c : Cf} {p : Addr} {o : HO} (hp : c.H p = none) : c.ext (c.lay p o) :=
  ⟨fun _ _ h => h, fun a u h l => ⟨by show upd c.H p o a = some u; rw [upd_ne (ne_of_none h hp)]; exact h, l⟩, fun i a u _ h2 h3 => ⟨by show upd c.H p o a = some u; rw [upd_ne (ne_of_none h3 hp)]; exact h3, h2⟩, fun i a kvs u _ h2 h3 => ⟨by show upd c.H p o a = some u; rw [upd_ne (ne_of_none h3 hp)]; exact h3, h2⟩⟩
theorem Cf.lay_ok {G : GA} {c : Cf} {p : Addr} {o : HO} (k : c.ok G) (hp : c.H p = none) : (c.lay p o).ok G :=
  ⟨k.len, k.nd, fun i a u h1 h2 => by
    obtain ⟨v, hv⟩ := k.there h1
    exact (k.obj i a u h1 h2).mono (Cf.lay_ext hp) (by show upd c.H p o a = c.H a; rw [upd_ne (ne_of_none hv hp)])⟩
theorem Cf.lay_live {G : GA} {c : Cf} {p : Addr} {o : HO} (k : c.ok G) (hp : c.H p = none) : ¬ (c.lay p o).live p := fun ⟨i, h1⟩ => by
  obtain ⟨v, hv⟩ := k.there (show c.μ[i]? = some p from h1)
  rw [hp] at hv; cases hv
/-- a tracked new object -/
def Cf.new (c : Cf) (p : Addr) (o : HO) (ao : AO) : Cf := ⟨upd c.H p o, c.μ ++ [p], c.ah ++ [ao]⟩
theorem Cf.new_ext {G : GA} {c : Cf} {p : Addr} {o : HO} {ao : AO} (k : c.ok G) (hp : c.H p = none) : c.ext (c.new p o ao) :=
  ⟨fun i a h => by
    show (c.μ ++ [p])[i]? = some a
    rw [List.getElem?_append_left (List.getElem?_eq_some_iff.mp h).1]; exact h,
   fun a u h l => ⟨by show upd c.H p o a = some u; rw [upd_ne (ne_of_none h hp)]; exact h, fun ⟨i, h1⟩ => by
    have h1' : (c.μ ++ [p])[i]? = some a := h1
    by_cases hi : i < c.μ.length
    · rw [List.getElem?_append_left hi] at h1'
      exact l ⟨i, h1'⟩
    · rw [List.getElem?_append_right (Nat.le_of_not_lt hi)] at h1'
      have e : p = a := by
        cases q : i - c.μ.length with
        | zero => rw [q] at h1'; simpa using h1'
        | succ n => rw [q] at h1'; simp at h1'
      rw [← e, hp] at h; cases h⟩,
   fun i a u h1 h2 h3 => ⟨by show upd c.H p o a = some u; rw [upd_ne (ne_of_none h3 hp)]; exact h3, by
    show (c.ah ++ [ao])[i]? = some .dead
    rw [List.getElem?_append_left (List.getElem?_eq_some_iff.mp h2).1]; exact h2⟩,
   fun i a kvs u h1 h2 h3 => ⟨by show upd c.H p o a = some u; rw [upd_ne (ne_of_none h3 hp)]; exact h3, by
    show (c.ah ++ [ao])[i]? = some (.rod kvs)
    rw [List.getElem?_append_left (List.getElem?_eq_some_iff.mp h2).1]; exact h2⟩⟩
theorem Cf.new_ok {G : GA} {c : Cf} {p : Addr} {o : HO} {ao : AO} (k : c.ok G) (hp : c.H p = none) (hn : OR G (c.new p o ao) p ao) : (c.new p o ao).ok G := by
  have ex := Cf.new_ext (o := o) (ao := ao) k hp
  refine ⟨by show (c.μ ++ [p]).length = (c.ah ++ [ao]).length; simp [k.len], ?_, fun i a u h1 h2 => ?_⟩
  · show (c.μ ++ [p]).Nodup
    rw [List.nodup_append]
    refine ⟨k.nd, by simp, fun a ha b hb => ?_⟩
    have e : b = p := by simpa using hb
    subst e
    obtain ⟨i, h⟩ := List.getElem?_of_mem ha
    obtain ⟨v, hv⟩ := k.there h
    exact ne_of_none hv hp
  · have h1' : (c.μ ++ [p])[i]? = some a := h1
    have h2' : (c.ah ++ [ao])[i]? = some u := h2
    by_cases hi : i < c.μ.length
    · rw [List.getElem?_append_left hi] at h1'
      rw [List.getElem?_append_left (by rw [← k.len]; exact hi)] at h2'
      obtain ⟨v, hv⟩ := k.there h1'
      exact (k.obj i a u h1' h2').mono ex (by show upd c.H p o a = c.H a; rw [upd_ne (ne_of_none hv hp)])
    · have hi2 : i = c.μ.length := by
        have : i < (c.μ ++ [p]).length := (List.getElem?_eq_some_iff.mp h1').1
        simp at this; omega
      subst hi2
      have e : p = a := by simpa using h1'
      rw [k.len] at h2'
      have e2 : ao = u := by simpa using h2'
      rw [← e, ← e2]; exact hn
/-- a tracked object changed -/
def Cf.put (c : Cf) (i : Nat) (a : Addr) (o : HO) (ao : AO) : Cf := ⟨upd c.H a o, c.μ, c.ah.set i ao⟩
theorem Cf.put_ext {G : GA} {c : Cf} {i : Nat} {a : Addr} {o : HO} {ao old : AO} (k : c.ok G) (h : c.μ[i]? = some a) (ho : c.ah[i]? = some old) (hd : old ≠ .dead) (hr : ∀ kvs, old ≠ .rod kvs := by intro kvs e; cases e) : c.ext (c.put i a o ao) :=
  ⟨fun _ _ h => h, fun b u hb l => by
    have ne : b ≠ a := fun e => l (e ▸ ⟨i, h⟩)
    exact ⟨by show upd c.H a o b = some u; rw [upd_ne ne]; exact hb, l⟩, fun j b u h1 h2 h3 => by
    have hj : i ≠ j := fun e => hd (by rw [← e, ho] at h2; exact Option.some.inj h2)
    have ne : b ≠ a := fun e => hj (k.inj h (e ▸ h1))
    exact ⟨by show upd c.H a o b = some u; rw [upd_ne ne]; exact h3, by show (c.ah.set i ao)[j]? = some .dead; rw [List.getElem?_set_ne hj]; exact h2⟩, fun j b kvs u h1 h2 h3 => by
    have hj : i ≠ j := fun e => hr kvs (by rw [← e, ho] at h2; exact Option.some.inj h2)
    have ne : b ≠ a := fun e => hj (k.inj h (e ▸ h1))
    exact ⟨by show upd c.H a o b = some u; rw [upd_ne ne]; exact h3, by show (c.ah.set i ao)[j]? = some (.rod kvs); rw [List.getElem?_set_ne hj]; exact h2⟩⟩
theorem Cf.put_ok {G : GA} {c : Cf} {i : Nat} {a : Addr} {o : HO} {ao old : AO} (k : c.ok G) (h : c.μ[i]? = some a) (ho : c.ah[i]? = some old) (hd : old ≠ .dead) (hn : OR G (c.put i a o ao) a ao) (hr : ∀ kvs, old ≠ .rod kvs := by intro kvs e; cases e) : (c.put i a o ao).ok G := by
  refine ⟨by show c.μ.length = (c.ah.set i ao).length; rw [List.length_set]; exact k.len, k.nd, fun j b u h1 h2 => ?_⟩
  have h1' : c.μ[j]? = some b := h1
  have h2' : (c.ah.set i ao)[j]? = some u := h2
  by_cases hj : i = j
  · subst hj
    rw [h] at h1'; cases h1'
    have hl : i < c.ah.length := (List.getElem?_eq_some_iff.mp ho).1
    rw [List.getElem?_set_self hl] at h2'
    cases h2'
    exact hn
  · rw [List.getElem?_set_ne hj] at h2'
    have ne : b ≠ a := fun e => hj (k.inj h (e ▸ h1'))
    exact (k.obj j b u h1' h2').mono (Cf.put_ext k h ho hd hr) (by show upd c.H a o b = c.H b; rw [upd_ne ne])
/-- states that differ in the objects alone: values are the same -/
theorem Rp.same {K : PySem.W.Frag} {c c' : Cf} (hH : c'.H = c.H) (hm : c'.μ = c.μ) {d : PyData} {v : V} (h : Rp K c v d) : Rp K c' v d := by
  obtain ⟨H, μ, ah⟩ := c
  obtain ⟨H', μ', ah'⟩ := c'
  simp only at hH hm
  subst hH hm
  exact Rp.same' h
where
  Rp.same' {K : PySem.W.Frag} {H : Hp} {μ : List Addr} {ah ah' : AH} : ∀ {d : PyData} {v : V}, Rp K ⟨H, μ, ah⟩ v d → Rp K ⟨H, μ, ah'⟩ v d
    | _, _, .non => .non
    | _, _, .bl b => .bl b
    | _, _, .int i => .int i
    | _, _, .str x => .str x
    | _, _, .lst l h r => .lst l h (RpL.same' r)
    | _, _, .tup l h r => .tup l h (RpL.same' r)
    | _, _, .tupK h r => .tupK h (RpL.same' r)
    | _, _, .dic l h r => .dic l h (RpD.same' r)
  RpL.same' {K : PySem.W.Frag} {H : Hp} {μ : List Addr} {ah ah' : AH} : ∀ {d : List PyData} {v : List V}, RpL K ⟨H, μ, ah⟩ v d → RpL K ⟨H, μ, ah'⟩ v d
    | _, _, .nil => .nil
    | _, _, .cons h r => .cons (Rp.same' h) (RpL.same' r)
  RpD.same' {K : PySem.W.Frag} {H : Hp} {μ : List Addr} {ah ah' : AH} : ∀ {d : List (PyData × PyData)} {v : List (Key × V)}, RpD K ⟨H, μ, ah⟩ v d → RpD K ⟨H, μ, ah'⟩ v d
    | _, _, .nil => .nil
    | _, _, .cons h r => .cons (Rp.same' h) (RpD.same' r)
theorem RW.same {G : GA} {c c' : Cf} (hH : c'.H = c.H) (hm : c'.μ = c.μ) {v : V} : ∀ {w : W}, RW G c v w → RW G c' v w
  | .d _, h => Rp.same hH hm h
  | .r _, ⟨a, h1, h2⟩ => ⟨a, h1, by rw [hm]; exact h2⟩
  | .fn _, h => h
  | .ex _, ⟨a, C, h1, h2, h3, h4⟩ => ⟨a, C, h1, h2, fun ⟨i, q⟩ => h3 ⟨i, by rw [← hm]; exact q⟩, by rw [hH]; exact h4⟩
theorem OR.same {G : GA} {c c' : Cf} (hH : c'.H = c.H) (hm : c'.μ = c.μ) {a : Addr} : ∀ {o : AO}, OR G c a o → OR G c' a o
  | .lst _, ⟨xs, h1, r⟩ => ⟨xs, by rw [hH]; exact h1, L2.Paired.mapP r fun _ _ q => RW.same hH hm q⟩
  | .dic _, ⟨xs, h1, r⟩ => ⟨xs, by rw [hH]; exact h1, L2.Paired.mapP r fun _ _ q => ⟨q.1, RW.same hH hm q.2⟩⟩
  | .ins _ _, ⟨C, dx, xs, h1, h2, r⟩ => ⟨C, dx, xs, by rw [hH]; exact h1, h2, L2.Paired.mapP r fun _ _ q => ⟨q.1, RW.same hH hm q.2⟩⟩
  | .tup _, ⟨xs, h1, r⟩ => ⟨xs, by rw [hH]; exact h1, L2.Paired.mapP r fun _ _ q => RW.same hH hm q⟩
  | .dead, ⟨o, h1⟩ => ⟨o, by rw [hH]; exact h1⟩
  | .rod _, ⟨xs, od, h1, r⟩ => ⟨xs, od, by rw [hH]; exact h1, L2.Paired.mapP r fun _ _ q => ⟨q.1, RW.same hH hm q.2⟩⟩
  | .dcn _, ⟨xs, h1, h2, h3, h4, r⟩ => ⟨xs, by rw [hH]; exact h1, h2, h3, h4, L2.Paired.mapP r fun _ _ ⟨q1, q2, q3, v, q4, q5⟩ => ⟨q1, q2, Rp.same hH hm q3, v, q4, RW.same hH hm q5⟩⟩
  | .dcb _ _, ⟨o, u, v, h1, h2, h3, h4, r⟩ => ⟨o, u, v, by rw [hH]; exact h1, h2, h3, h4, RW.same hH hm r⟩
/-- an object locked, and unlocked -/
def Cf.obj (c : Cf) (i : Nat) (ao : AO) : Cf := { c with ah := c.ah.set i ao }
theorem Cf.lock_ok {G : GA} {c : Cf} {i : Nat} (k : c.ok G) : (c.obj i .dead).ok G := by
  refine ⟨by show c.μ.length = (c.ah.set i .dead).length; rw [List.length_set]; exact k.len, k.nd, fun j b u h1 h2 => ?_⟩
  have h1' : c.μ[j]? = some b := h1
  have h2' : (c.ah.set i .dead)[j]? = some u := h2
  by_cases hj : i = j
  · subst hj
    have hl : i < c.ah.length := by
      have := (List.getElem?_eq_some_iff.mp h2').1
      rwa [List.length_set] at this
    rw [List.getElem?_set_self hl] at h2'
    cases h2'
    exact k.there h1'
  · rw [List.getElem?_set_ne hj] at h2'
    exact OR.same (c := c) (c' := c.obj i .dead) rfl rfl (k.obj j b u h1' h2')
theorem Cf.unlock {G : GA} {c c3 : Cf} {i : Nat} {ao : AO} {a : Addr} {o : HO} (k : c.ok G) (hi : c.μ[i]? = some a) (ho : c.ah[i]? = some ao) (hd : ao ≠ .dead) (hr : ∀ kvs, ao ≠ .rod kvs) (hH : c.H a = some o) (hor : ∀ c', c'.H a = some o → c.ext c' → OR G c' a ao) (ex : (c.obj i .dead).ext c3) (k3 : c3.ok G) :
    c.ext (c3.obj i ao) ∧ (c3.obj i ao).ok G := by
  have hl : i < c.ah.length := (List.getElem?_eq_some_iff.mp ho).1
  have hd3 := ex.dead i a o hi (by show (c.ah.set i .dead)[i]? = some .dead; exact List.getElem?_set_self hl) hH
  have exu : c.ext (c3.obj i ao) := by
    refine ⟨fun j b h => ex.pre j b h, fun b u h l => ex.keep b u h l, fun j b u h1 h2 h3 => ?_, fun j b kvs u h1 h2 h3 => by
      have hj : i ≠ j := fun e => hr kvs (by rw [← e, ho] at h2; exact Option.some.inj h2)
      obtain ⟨h4, h5⟩ := ex.rod j b kvs u h1 (by show (c.ah.set i .dead)[j]? = some (.rod kvs); rw [List.getElem?_set_ne hj]; exact h2) h3
      exact ⟨h4, by show (c3.ah.set i ao)[j]? = some (.rod kvs); rw [List.getElem?_set_ne hj]; exact h5⟩⟩
    have hj : i ≠ j := fun e => hd (by rw [← e, ho] at h2; exact Option.some.inj h2)
    obtain ⟨h4, h5⟩ := ex.dead j b u h1 (by show (c.ah.set i .dead)[j]? = some .dead; rw [List.getElem?_set_ne hj]; exact h2) h3
    exact ⟨h4, by show (c3.ah.set i ao)[j]? = some .dead; rw [List.getElem?_set_ne hj]; exact h5⟩
  refine ⟨exu, ⟨by show c3.μ.length = (c3.ah.set i ao).length; rw [List.length_set]; exact k3.len, k3.nd, fun j b u h1 h2 => ?_⟩⟩
  have h1' : c3.μ[j]? = some b := h1
  have h2' : (c3.ah.set i ao)[j]? = some u := h2
  by_cases hj : i = j
  · subst hj
    rw [ex.pre i a hi] at h1'; cases h1'
    rw [List.getElem?_set_self (List.getElem?_eq_some_iff.mp hd3.2).1] at h2'
    cases h2'
    exact hor _ hd3.1 exu
  · rw [List.getElem?_set_ne hj] at h2'
    exact OR.same (c := c3) (c' := c3.obj i ao) rfl rfl (k3.obj j b u h1' h2')
end Ev
set_option Elab.async false
set_option linter.all false
set_option maxRecDepth 100000
set_option maxHeartbeats 2000000
/-! E2g: a def's promise where no repr is under way above the call. -/
namespace Ev
open PySem PySem.Spec PyProof.Rows L2

/-- the promise of a def, asked only at calls that no repr stands above -/
structure FnG (P : Program) (w : World) (K : PySem.W.Frag) (mg : Str → Option Value) (hp0 : Heap) (cx : CXT) (k : Nat) (f : Addr) (fd : FuncData) (ps : List Str) (sp : Sp) : Prop where
  size : ∀ xs H Q E, sp xs H Q E → xs.length = ps.length
  go : ∀ (A : Around) (up : List Env) (s : Shared) (H : Hp) (args : Args) (us : List Value) (xs : List V) (Q : VK) (E : XK), A.guards = some [] → Room k A → Env0 P w K mg hp0 A up s H → BindsTo s fd args (ps.zip us) → Vals xs us →
    sp xs H Q E → codeAny (model P w) A (.call (.ref f) args) (CR cx up P w H s Q E) s

/-- what stands behind such a call -/
theorem cr_out {X : Cx} {cx : CXT} {pins : List (Addr × Obj)} {σ : L2.St} {H : Hp} {s : Shared} {Q : VK} {E : XK} (hx : PassesAt cx X σ E) (I : Inv X pins σ H s) {r : Result} {s' : Shared} (h : CR cx X.stack X.prog X.w H s Q E r s') :
    match (generalizing := false) r with
    | .ok (.ret u) => EP X pins σ Q u s'
    | .ok _ => False
    | .error e => X.xe e s' := by
  match r, h with
  | .error e, h => exact hx pins H s e s' I h
  | .ok (.ret u), h => exact I.after h
  | .ok .next, h => exact h
  | .ok .brk, h => exact h
  | .ok .cont, h => exact h

theorem go_call {X : Cx} {A : Around} {cx : CXT} {k : Nat} {f : Addr} {fd : FuncData} {ps : List Str} {sp : Sp} {E : XK} {pins : List (Addr × Obj)} {σ : L2.St} {H : Hp} {s : Shared} {Q : VK} {us : List Value} {xs : List V}
    (F : FnG X.prog X.w X.K X.mg X.base cx k f fd ps sp) (gA : A.guards = some []) (rA : Room k A) (eA : Env0 X.prog X.w X.K X.mg X.base A X.stack s H) (hb : Binds X.K fd ps []) (hx : PassesAt cx X σ E) (I : Inv X pins σ H s) (rv : Vals xs us)
    (h : sp xs H Q E) : wpAny (model X.prog X.w) A (call (.ref f) us) (EP X pins σ Q) X.xe s := by
  have e1 : (us ++ ([] : List Value)).length = ps.length := by
    rw [List.append_nil, ← rv.length]
    exact F.size _ _ _ _ h
  have e2 := hb s us I.kIn e1
  rw [List.append_nil] at e2
  refine wpAny_call (codeAny_mono (F.go A X.stack s H ⟨us, []⟩ us xs Q E gA rA eA e2 rv h) fun r s' q => ?_)
  have z := cr_out hx I q
  match r, z with
  | .error e, z => exact z
  | .ok (.ret u), z => exact z
  | .ok .next, z => exact z.elim
  | .ok .brk, z => exact z.elim
  | .ok .cont, z => exact z.elim

/-- a def of the top, by its body -/
theorem fun_go {P : Program} {w : World} {K : PySem.W.Frag} {mg : Str → Option Value} {hp0 : Heap} {x qual : Str} {params : Arguments} {body : List Stmt} {scope : Scope} {dvs : List V} {kws : List (Str × V)} {f : Addr} {fd : FuncData} {cx : CXT} {N ps : List Str} {k : Nat} {sp : Sp}
    (D : FunD K x qual params body scope dvs kws f fd) (S : FnScope N ps scope) (size : ∀ xs H Q E, sp xs H Q E → xs.length = ps.length)
    (inner : ∀ (cd : Value) (A : Around) (up : List Env) (s : Shared) (H : Hp) (xs : List V) (Q : VK) (E : XK), A.guards = some [] → Room k (A.deeper (envOfC qual scope s.heap.objs.size f cd)) → sp xs H Q E →
      ∃ t, PSs (cxOf cx P w K mg hp0 N qual scope f cd A up s H E) body t ∧ t { nx := fun _ H1 => Q .non H1, rt := Q } (start N xs) H) : FnG P w K mg hp0 cx (k + 1) f fd ps sp := by
  obtain ⟨c1, c2, c3, c4, c5, c6, c7, cd, c8, c9, rfl, at_, code, _, _⟩ := D.ex
  refine ⟨size, fun A up s H args us xs Q E gA rA eA bnd rv h => ?_⟩
  have old : ∀ b o, hp0.get? b = some o → s.heap.get? b = some o := fun b o e => (eA.bs b o e).1
  have inK := eA.mod.kin.keeps old
  have kinds : ∀ y ∈ ps.zip us, scope.names.lookup y.1 = some .local ∨ (scope.names.lookup y.1 = some .cell ∧ ((cellsFrom (s.heap.objs.size + 1) scope.names []).lookup y.1).isSome = true) := by
    rintro ⟨y, u⟩ hy
    exact (S.par y (List.of_mem_zip hy).1).imp id fun z => ⟨z, PySem.W.cellsFrom_some _ _ _ (.inl z)⟩
  refine codeAny_call_function rA.depth (inK _ _ at_) rfl S.co S.gen rfl (PySem.W.codeRec_of inK code) (bnd _ _ _ _ ?_)
  refine wpAny_newFunctionEnv_cells S.kind kinds fun env ee s1 ic => ?_
  cases ee
  refine ⟨(eA.mod.nolimit.keeps old).keeps ic.toInCall.keep, codeAny_func ?_⟩
  obtain ⟨t, p1, p2⟩ := inner cd A up s H xs Q E gA (rA.deeper _) h
  have J := inv_start (CX := cx) (E := E) S rA.hd eA (size _ _ _ _ h) rv ic
  refine wpAny_mono (p1.run [] s1 (start N xs) H _ J p2) (fun fl s2 z => ?_) fun _ _ z => z
  match fl, z with
  | .ret u, ⟨v, _, H2, J2, r2, q2⟩ => exact ⟨v, H2, J2.os, J2.bare, J2.base, J2.hok, r2, q2⟩
  | .next, ⟨_, H2, J2, q2⟩ => exact ⟨.non, H2, J2.os, J2.bare, J2.base, J2.hok, rfl, q2⟩
  | .brk, ⟨_, _, _, q2⟩ => exact False.elim q2
  | .cont, ⟨_, _, _, q2⟩ => exact False.elim q2

theorem under_guards {A : Around} {C : Addr} {us : List Value} (h : A.guards = some []) : (A.under (.builtin "type.__call__" ⟨.ref C :: us, []⟩)).guards = some [] := by
  simp [Around.under, Code.guards, Code.isGuard, pushGuards, h, guardIds]
end Ev
set_option Elab.async false
set_option linter.all false
set_option maxRecDepth 100000
set_option maxHeartbeats 2000000
/-! E2: what soundness says; the context. -/
namespace Ev
open PySem PySem.Spec PyProof.Rows L2

structure Sc where
  N : List Str
  scope : Scope
  own : Str → Bool
structure Tb where
  defs : List Str
  clss : List Str
  excs : List Str
  cons : List (Str × PyData)
  free : List Str
  flds : List Str
  meths : List FId
  sups : List (Str × List Str)
  xt : List Str
  dfls : List (FId × Nat × List PyData) := []
  kwds : List (FId × Nat × List Str) := []
  nopos : List FId := []
  dnames : List Str := []
  kds : List (Str × List (Str × PyData)) := []
  dlst : List Str := []
def Tb.catches (T : Tb) (c x : Str) : Bool := match T.sups.lookup c with
  | some l => l.contains x
  | none => false

def EnvR (G : GA) (c : Cf) (env : EnvW) (σ : L2.St) : Prop := env.length = σ.length ∧ ∀ (i : Nat) (w : W), env[i]? = some (some w) → ∃ v, σ[i]? = some (some v) ∧ RW G c v w
theorem EnvR.mono {G : GA} {c c' : Cf} {env : EnvW} {σ : L2.St} (e : c.ext c') (h : EnvR G c env σ) : EnvR G c' env σ :=
  ⟨h.1, fun i w q => let ⟨v, h1, h2⟩ := h.2 i w q; ⟨v, h1, RW.mono e h2⟩⟩
theorem EnvR.set {G : GA} {c : Cf} {env : EnvW} {σ : L2.St} (h : EnvR G c env σ) {i : Nat} {v : V} {w : W} (r : RW G c v w) : EnvR G c (env.set i (some w)) (σ.set i (some v)) := by
  refine ⟨by simp [h.1], fun j u q => ?_⟩
  by_cases hj : i = j
  · subst hj
    by_cases hl : i < env.length
    · rw [List.getElem?_set_self hl] at q
      cases q
      exact ⟨v, List.getElem?_set_self (by rw [← h.1]; exact hl), r⟩
    · rw [List.getElem?_eq_none (by simpa using hl)] at q; cases q
  · rw [List.getElem?_set_ne hj] at q ⊢
    exact h.2 j u q
theorem EnvR.unset {G : GA} {c : Cf} {env : EnvW} {σ : L2.St} (h : EnvR G c env σ) {i : Nat} {s : Option V} : EnvR G c (env.set i none) (σ.set i s) := by
  refine ⟨by simp [h.1], fun j u q => ?_⟩
  by_cases hj : i = j
  · subst hj
    by_cases hl : i < env.length
    · rw [List.getElem?_set_self hl] at q
      cases q
    · rw [List.getElem?_eq_none (by simpa using hl)] at q; cases q
  · rw [List.getElem?_set_ne hj] at q ⊢
    exact h.2 j u q

/-- an exception of the class called e -/
def WEx (G : GA) (Wx : WX) (e : Str) (σ : L2.St) (H : Hp) : Prop := ∀ C, G.xa e = some C → Wx (.ref C) none σ H
def tE (G : GA) (Wx : WX) (m : ME) : TE := fun σ H Q => ∃ c env, c.H = H ∧ c.ok G ∧ EnvR G c env σ ∧ Po G (m env c.ah) c (fun w c' => ∀ v, RW G c' v w → Q v c'.H) (fun e c' => WEx G Wx e σ c'.H)
def tT (G : GA) (Wx : WX) (m : EnvW → M Bool) : TT := fun σ H Q => ∃ c env, c.H = H ∧ c.ok G ∧ EnvR G c env σ ∧ Po G (m env c.ah) c (fun b c' => Q b c'.H) (fun e c' => WEx G Wx e σ c'.H)
def tA (G : GA) (Wx : WX) (m : EnvW → M (List W)) : TA := fun σ H Q => ∃ c env, c.H = H ∧ c.ok G ∧ EnvR G c env σ ∧ Po G (m env c.ah) c (fun ws c' => ∀ vs, RWL G c' vs ws → Q vs c'.H) (fun e c' => WEx G Wx e σ c'.H)
def FlP (G : GA) (D : Ends) (fl : Fl) (c' : Cf) : Prop := match fl with
  | .nx env' => ∀ σ', EnvR G c' env' σ' → D.nx σ' c'.H
  | .rt w => ∀ v, RW G c' v w → D.rt v c'.H
  | .bk env' => ∀ σ', EnvR G c' env' σ' → D.bk σ' c'.H
  | .ct env' => ∀ σ', EnvR G c' env' σ' → D.ct σ' c'.H
def tS (G : GA) (Ex : XK) (m : MS) : TS := fun D σ H => ∃ c env, c.H = H ∧ c.ok G ∧ EnvR G c env σ ∧ Po G (m env c.ah) c (FlP G D) (fun e c' => ∀ C, G.xa e = some C → Ex (.ref C) none c'.H)

/-- a def's promise by its result -/
def spM (G : GA) (m : List W → M W) (n : Nat) : Sp := fun vs H Q E => vs.length = n ∧ ∃ c ws, c.H = H ∧ c.ok G ∧ RWL G c vs ws ∧ Po G (m ws c.ah) c (fun w c' => ∀ v, RW G c' v w → Q v c'.H) (fun e c' => ∀ C, G.xa e = some C → E (.ref C) none c'.H)

/-- how a def's parameters are bound: all written, the last ones lacking, the last ones by their names -/
structure BindsD (T : Tb) (G : GA) (K : PySem.W.Frag) (f : FId) (fd : FuncData) (ps : List Str) : Prop where
  pos : T.nopos.contains f = false → Binds K fd ps []
  dfl : ∀ n ds, T.dfls.lookup f = some (n, ds) → ps.length = n + ds.length ∧ ∃ dvs us, Vals dvs us ∧ (∀ c, RpL G.K c dvs ds) ∧ Binds K fd ps us
  kwd : ∀ n ks, T.kwds.lookup f = some (n, ks) → ps.length = n + ks.length ∧ KBn K fd ps n ks (fun us ws => us ++ ws) (fun vs zs => vs ++ zs)
/-- at the global x stands a dict of the written part, of these entries -/
def KdT (G : GA) (w : World) (mg : Str → Option Value) (x : Str) (l : List (Str × PyData)) : Prop := ∃ d es n, mg x = some (.ref d) ∧ KDict G.K w d es n ∧
  ∀ z : Str, (l.lookup z = none → PySem.W.nsIn G.K d z = some none) ∧ ∀ dv, l.lookup z = some dv → ∃ u v, PySem.W.nsIn G.K d z = some (some u) ∧ RelV v u ∧ ∀ c, Rp G.K c v dv
/-- what the top has left, for a context -/
structure Top (T : Tb) (G : GA) (CM : FId → List W → M W) (k : Nat) (X : Cx) : Prop where
  fn : ∀ f a, G.fa f = some a → ∃ fd ps, FnG X.prog X.w X.K X.mg X.base (CX X.prog X.w) (2 * k) a fd ps (spM G (CM f) ps.length) ∧ BindsD T G X.K f fd ps ∧ PySem.W.keepIn X.K (.ref a) = true ∧ ∀ ws h, ws.length ≠ ps.length → CM f ws h = .no
  def_ : ∀ f, f ∈ T.defs → ∃ a, G.fa (pl f) = some a ∧ X.mg f = some (.ref a)
  con : ∀ x d, T.cons.lookup x = some d → ∃ u v, X.mg x = some u ∧ RelV v u ∧ ∀ c, Rp G.K c v d
  free : ∀ x, x ∈ T.free → X.mg x = none
  exc : ∀ x, x ∈ T.excs → ∃ Ca, G.xa x = some Ca ∧ X.mg x = some (.ref Ca) ∧ PySem.W.excIn X.K Ca [.type "LookupError", .type "Exception", .type "BaseException", .type "object"] "LookupError.__new__" = true ∧ PySem.W.keepIn X.K (.ref Ca) = true ∧ Raises X (.ref Ca)
  cls : ∀ x, x ∈ T.clss → ∃ Ca fi, G.ca x = some Ca ∧ X.mg x = some (.ref Ca) ∧ Mk X.K Ca fi ∧ G.fa (x, "__init__") = some fi
  own : ∀ x Ca, G.ca x = some Ca → Cls X.K Ca ∧ ∀ f, f ∈ T.flds → NoAttr X.K Ca f
  meth : ∀ x m, (x, m) ∈ T.meths → ∃ Ca a, G.ca x = some Ca ∧ G.fa (x, m) = some a ∧ Meth X.K Ca m a
  isx : ∀ x, x ∈ T.xt → ∃ v u, (X.mg x = some u ∨ (X.mg x = none ∧ bootBuiltins x = some u)) ∧ ClsV v u ∧ RelV v u ∧ ∀ c C, G.xa c = some C → ExcC X.K C ∧ PySem.W.kitOne X.K (.ref C) u = some (T.catches c x)
  catch_ : ∀ c C x Ca, G.xa c = some C → G.xa x = some Ca → x ∈ T.excs → ∃ b, PySem.W.exmOne X.K (.ref C) (.ref Ca) = some b ∧ b = T.catches c x
  kd : ∀ x l, T.kds.lookup x = some l → KdT G X.w X.mg x l
structure Fits (T : Tb) (G : GA) (CM : FId → List W → M W) (k : Nat) (X : Cx) (sc : Sc) (Wx : WX) : Prop where
  N : X.N = sc.N
  nd : sc.N.Nodup
  scope : X.env.scope = sc.scope
  K : X.K = G.K
  wd : X.w = G.w
  gd : X.A.guards = some []
  own : ∀ x, sc.own x = true → X.fn x = true
  calm : X.calm = true
  room : Room (2 * k + 1) X.A
  takes : Takes X Wx
  top : Top T G CM k X

section
variable (T : Tb) (G : GA) (CM : FId → List W → M W) (k : Nat) (sc : Sc)
def SE (e : Expr) (m : ME) : Prop := ∀ X Wx, Fits T G CM k X sc Wx → PE X e (tE G Wx m)
def ST (e : Expr) (m : EnvW → M Bool) : Prop := ∀ X Wx, Fits T G CM k X sc Wx → PT X e (tT G Wx m)
def SA (es : List Expr) (m : EnvW → M (List W)) : Prop := ∀ X Wx, Fits T G CM k X sc Wx → PA X es (tA G Wx m)
/-- statements: exceptions whatever the slots, in a frame of a def -/
def SS (st : Stmt) (m : MS) : Prop := ∀ X Ex, Fits T G CM k X sc (fun cls d _ H => Ex cls d H) → PassesOwn (model X.prog X.w) X.A X.env X.xe → X.stack = X.env :: X.outer → (X.env.frame = some X.env.locals ∧ X.ex = []) → PS X st (tS G Ex m)
def SSs (sts : List Stmt) (m : MS) : Prop := ∀ X Ex, Fits T G CM k X sc (fun cls d _ H => Ex cls d H) → PassesOwn (model X.prog X.w) X.A X.env X.xe → X.stack = X.env :: X.outer → (X.env.frame = some X.env.locals ∧ X.ex = []) → PSs X sts (tS G Ex m)
end

theorem PE.imp {X : Cx} {e : Expr} {t t' : TE} (h : PE X e t) (i : ∀ σ H Q, t' σ H Q → t σ H Q) : PE X e t' := ⟨fun p s σ H Q I q => h.run p s σ H Q I (i _ _ _ q)⟩
theorem PT.imp {X : Cx} {e : Expr} {t t' : TT} (h : PT X e t) (i : ∀ σ H Q, t' σ H Q → t σ H Q) : PT X e t' := ⟨fun p s σ H Q I q => h.run p s σ H Q I (i _ _ _ q)⟩
theorem PA.imp {X : Cx} {e : List Expr} {t t' : TA} (h : PA X e t) (i : ∀ σ H Q, t' σ H Q → t σ H Q) : PA X e t' := ⟨fun pos p s σ H Q I q => h.run pos p s σ H Q I (i _ _ _ q)⟩
theorem PS.imp {X : Cx} {e : Stmt} {t t' : TS} (h : PS X e t) (i : ∀ D σ H, t' D σ H → t D σ H) : PS X e t' := ⟨fun p s σ H D I q => h.run p s σ H D I (i _ _ _ q)⟩
theorem PSs.imp {X : Cx} {e : List Stmt} {t t' : TS} (h : PSs X e t) (i : ∀ D σ H, t' D σ H → t D σ H) : PSs X e t' := ⟨fun p s σ H D I q => h.run p s σ H D I (i _ _ _ q)⟩

/-! ### the state behind a part -/
section
variable {G : GA} {Wx : WX} {σ : L2.St}
/-- the reading of a part in the midst: m then f -/
theorem tE.step {m : ME} {c : Cf} {env : EnvW} {β : Type} {f : W → M β} {F : β → Cf → Prop} {Q : VK} (k : c.ok G) (r : EnvR G c env σ)
    (h : Po G (mbind (m env) f c.ah) c F (fun e c' => WEx G Wx e σ c'.H))
    (n : ∀ w c1 v, c.ext c1 → c1.ok G → EnvR G c1 env σ → RW G c1 v w → Po G (f w c1.ah) c1 F (fun e c' => WEx G Wx e σ c'.H) → Q v c1.H) : tE G Wx m σ c.H Q :=
  ⟨c, env, rfl, k, r, Po.mono (Po.bind h) (fun w c1 e o q v rv => n w c1 v e o (r.mono e) rv q) fun _ _ _ _ q => q⟩
theorem tT.step {m : EnvW → M Bool} {c : Cf} {env : EnvW} {β : Type} {f : Bool → M β} {F : β → Cf → Prop} {Q : Bool → Hp → Prop} (k : c.ok G) (r : EnvR G c env σ)
    (h : Po G (mbind (m env) f c.ah) c F (fun e c' => WEx G Wx e σ c'.H))
    (n : ∀ w c1, c.ext c1 → c1.ok G → EnvR G c1 env σ → Po G (f w c1.ah) c1 F (fun e c' => WEx G Wx e σ c'.H) → Q w c1.H) : tT G Wx m σ c.H Q :=
  ⟨c, env, rfl, k, r, Po.mono (Po.bind h) (fun w c1 e o q => n w c1 e o (r.mono e) q) fun _ _ _ _ q => q⟩
theorem tA.step {m : EnvW → M (List W)} {c : Cf} {env : EnvW} {β : Type} {f : List W → M β} {F : β → Cf → Prop} {Q : List V → Hp → Prop} (k : c.ok G) (r : EnvR G c env σ)
    (h : Po G (mbind (m env) f c.ah) c F (fun e c' => WEx G Wx e σ c'.H))
    (n : ∀ w c1 v, c.ext c1 → c1.ok G → EnvR G c1 env σ → RWL G c1 v w → Po G (f w c1.ah) c1 F (fun e c' => WEx G Wx e σ c'.H) → Q v c1.H) : tA G Wx m σ c.H Q :=
  ⟨c, env, rfl, k, r, Po.mono (Po.bind h) (fun w c1 e o q v rv => n w c1 v e o (r.mono e) rv q) fun _ _ _ _ q => q⟩
end
/-- a result that stays where it is -/
theorem Po.here {α : Type} {G : GA} {a : α} {c : Cf} {F : α → Cf → Prop} {E : Str → Cf → Prop} (h : Po G (.ok a c.ah) c F E) (k : c.ok G) : F a c := h c (Cf.ext.refl c) k rfl
theorem Po.at {α : Type} {G : GA} {a : α} {c c' : Cf} {F : α → Cf → Prop} {E : Str → Cf → Prop} (h : Po G (.ok a c'.ah) c F E) (e : c.ext c') (k : c'.ok G) : F a c' := h c' e k rfl

/-! ### names, constants -/
def slot (sc : Sc) (x : Str) : Option Nat := if x == ("__debug__" : Str) || x == ("__classdict__" : Str) then none else match sc.scope.names.lookup x with
  | some .local => sc.N.idxOf? x
  | some .cell => sc.N.idxOf? x
  | some .free => sc.N.idxOf? x
  | _ => none
def isGlob (sc : Sc) (x : Str) : Bool := !(x == ("__debug__" : Str)) && !(x == ("__name__" : Str)) && match sc.scope.names.lookup x with
  | some .globalImplicit => true
  | _ => false
def mVar (i : Nat) : ME := fun env h => match env[i]? with
  | some (some w) => .ok w h
  | _ => .no
def mC (w : W) : ME := fun _ h => .ok w h
def evName (T : Tb) (sc : Sc) (x : Str) : ME := match slot sc x with
  | some i => mVar i
  | none => if isGlob sc x then (match T.cons.lookup x with
    | some d => mC (.d d)
    | none => if T.defs.contains x then mC (.fn x) else fun _ => mno) else fun _ => mno
theorem slot_ok {sc : Sc} {x : Str} {i : Nat} (h : slot sc x = some i) : sc.N[i]? = some x ∧ Vis sc.scope x ∧ (x == ("__debug__" : Str)) = false ∧ (x == ("__classdict__" : Str)) = false := by
  unfold slot at h
  split at h
  · cases h
  · rename_i hd
    have hd' : (x == ("__debug__" : Str)) = false ∧ (x == ("__classdict__" : Str)) = false := by
      simpa [Bool.or_eq_false_iff] using hd
    have fin : ∀ {i}, sc.N.idxOf? x = some i → sc.N[i]? = some x := fun {i} q => by
      unfold List.idxOf? at q
      obtain ⟨hl, h1, _⟩ := List.findIdx?_eq_some_iff_getElem.mp q
      rw [List.getElem?_eq_getElem hl]
      exact congrArg some (by simpa using h1)
    split at h
    · rename_i hk; exact ⟨fin h, .inl hk, hd'⟩
    · rename_i hk; exact ⟨fin h, .inr (.inl hk), hd'⟩
    · rename_i hk; exact ⟨fin h, .inr (.inr hk), hd'⟩
    · cases h
theorem glob_ok {sc : Sc} {x : Str} (h : isGlob sc x = true) : sc.scope.names.lookup x = some .globalImplicit ∧ (x == ("__debug__" : Str)) = false ∧ x ≠ "__name__" := by
  unfold isGlob at h
  simp only [Bool.and_eq_true, Bool.not_eq_true'] at h
  obtain ⟨⟨h1, h2⟩, h3⟩ := h
  refine ⟨?_, h1, fun e => ?_⟩
  · split at h3
    · assumption
    · cases h3
  · rw [e] at h2
    simp at h2
section
variable {T : Tb} {G : GA} {CM : FId → List W → M W} {k : Nat} {sc : Sc}
theorem se_no {e : Expr} : SE T G CM k sc e (fun _ => mno) := fun X Wx F => ⟨fun p s σ H Q I h => by
  obtain ⟨c, env, _, _, _, h⟩ := h
  exact h.elim⟩
theorem se_var {x : Str} {pos : Pos} {i : Nat} (h : slot sc x = some i) : SE T G CM k sc (.Name x pos) (mVar i) := fun X Wx F => by
  obtain ⟨h1, h2, h3, h4⟩ := slot_ok h
  refine PE.imp (pe_var (X := X) (i := i) (pos := pos) (by rw [F.N]; exact h1) (by rw [F.scope]; exact h2) h3 h4) fun σ H Q q => ?_
  obtain ⟨c, env, rfl, ok, r, q⟩ := q
  unfold mVar at q
  split at q
  · rename_i w hw
    obtain ⟨v, hv, rv⟩ := r.2 i w hw
    exact ⟨v, hv, q.here ok v rv⟩
  · exact q.elim
theorem Fits.gl {X : Cx} {Wx : WX} (F : Fits T G CM k X sc Wx) {x : Str} (h : isGlob sc x = true) : Gl X x := by
  show X.env.scope.names.lookup x = some .globalImplicit
  rw [F.scope]; exact (glob_ok h).1
theorem se_name {x : Str} {pos : Pos} : SE T G CM k sc (.Name x pos) (evName T sc x) := by
  unfold evName
  split
  · rename_i i h; exact se_var h
  · split
    · rename_i hg
      split
      · rename_i d hd
        intro X Wx F
        obtain ⟨u, v, h1, h2, h3⟩ := F.top.con x d hd
        refine PE.imp (pe_glob (X := X) (pos := pos) (F.gl hg) h1 h2 (glob_ok hg).2.1) fun σ H Q q => ?_
        obtain ⟨c, env, rfl, ok, r, q⟩ := q
        exact Po.here (a := W.d d) q ok v (h3 c)
      · split
        · rename_i hc
          intro X Wx F
          obtain ⟨a, h1, h2⟩ := F.top.def_ x (by simpa using hc)
          refine PE.imp (pe_glob (X := X) (v := .ref a) (pos := pos) (F.gl hg) h2 rfl (glob_ok hg).2.1) fun σ H Q q => ?_
          obtain ⟨c, env, rfl, ok, r, q⟩ := q
          exact Po.here (a := W.fn x) q ok _ ⟨a, rfl, h1⟩
        · exact se_no
    · exact se_no
def evConst : Const → ME
  | .int i => mC (.d (.int i))
  | .str x => mC (.d (.str x))
  | .bool b => mC (.d (.bool b))
  | .none => mC (.d .none)
  | _ => fun _ => mno
theorem se_const {x : Const} {j : Nat} {pos : Pos} : SE T G CM k sc (.Constant x j pos) (evConst x) := by
  cases x with
  | int i => exact fun X Wx F => PE.imp pe_int fun σ H Q ⟨c, env, e, ok, r, q⟩ => by subst e; exact Po.here (a := W.d (.int i)) q ok _ (.int i)
  | str i => exact fun X Wx F => PE.imp pe_str fun σ H Q ⟨c, env, e, ok, r, q⟩ => by subst e; exact Po.here (a := W.d (.str i)) q ok _ (.str i)
  | bool i => exact fun X Wx F => PE.imp pe_bl fun σ H Q ⟨c, env, e, ok, r, q⟩ => by subst e; exact Po.here (a := W.d (.bool i)) q ok _ (.bl i)
  | none => exact fun X Wx F => PE.imp pe_non fun σ H Q ⟨c, env, e, ok, r, q⟩ => by subst e; exact Po.here (a := W.d .none) q ok _ .non
  | _ => exact se_no
end
end Ev
set_option Elab.async false
set_option linter.all false
set_option maxRecDepth 100000
set_option maxHeartbeats 2000000
/-! E3: operators, comparisons, and, or, not, if. -/
namespace Ev
open PySem PySem.Spec PyProof.Rows L2

def VQ (G : GA) (Q : VK) : W → Cf → Prop := fun w c' => ∀ v, RW G c' v w → Q v c'.H
def Op2 (G : GA) (f : W → W → M W) (r : R2) : Prop := ∀ (c : Cf) (x y : V) (a b : W) (Q : VK) (E : Str → Cf → Prop), c.ok G → RW G c x a → RW G c y b → Po G (f a b c.ah) c (VQ G Q) E → r x y c.H Q
def Op1 (G : GA) (f : W → M W) (r : V → Hp → VK → Prop) : Prop := ∀ (c : Cf) (x : V) (a : W) (Q : VK) (E : Str → Cf → Prop), c.ok G → RW G c x a → Po G (f a c.ah) c (VQ G Q) E → r x c.H Q
def wI (i : Int) : W := .d (.int i)
def wB (b : Bool) : W := .d (.bool b)
def wS (x : Str) : W := .d (.str x)

section
variable {G : GA} {c : Cf}
theorem rInt {v : V} {i : Int} (h : RW G c v (wI i)) : v = .int i := by cases (show Rp G.K c v (.int i) from h); rfl
theorem rBool {v : V} {i : Bool} (h : RW G c v (wB i)) : v = .bl i := by cases (show Rp G.K c v (.bool i) from h); rfl
theorem rStr {v : V} {i : Str} (h : RW G c v (wS i)) : v = .str i := by cases (show Rp G.K c v (.str i) from h); rfl
theorem rNon {v : V} (h : RW G c v (.d .none)) : v = .non := by cases (show Rp G.K c v .none from h); rfl
theorem rTup {v : V} {ds : List PyData} (h : RW G c v (.d (.tuple ds))) : ∃ a xs, v = .ref a ∧ SqT G.K c.H a xs ∧ RpL G.K c xs ds := by
  cases (show Rp G.K c v (.tuple ds) from h) with
  | tup l1 h1 r1 => exact ⟨_, _, rfl, .inl h1, r1⟩
  | tupK h1 r1 => exact ⟨_, _, rfl, .inr h1, r1⟩
theorem rLst {v : V} {ds : List PyData} (h : RW G c v (.d (.list ds))) : ∃ a xs, v = .ref a ∧ SqL G.K c.H a xs ∧ RpL G.K c xs ds := by
  cases (show Rp G.K c v (.list ds) from h) with
  | lst l1 h1 r1 => exact ⟨_, _, rfl, .inl h1, r1⟩
theorem rRef {v : V} {i : Nat} {o : AO} (k : c.ok G) (h : RW G c v (.r i)) (ho : c.ah[i]? = some o) : ∃ a, v = .ref a ∧ c.μ[i]? = some a ∧ OR G c a o := by
  obtain ⟨a, h1, h2⟩ := h
  exact ⟨a, h1, h2, k.obj i a o h2 ho⟩
theorem RpL.length {K : PySem.W.Frag} : ∀ {xs : List V} {ds : List PyData}, RpL K c xs ds → xs.length = ds.length
  | _, _, .nil => rfl
  | _, _, .cons _ r => by simp [RpL.length r]
theorem RpL.append {K : PySem.W.Frag} : ∀ {xs ys : List V} {ds es : List PyData}, RpL K c xs ds → RpL K c ys es → RpL K c (xs ++ ys) (ds ++ es)
  | _, _, _, _, .nil, s => s
  | _, _, _, _, .cons h r, s => .cons h (RpL.append r s)
theorem RpL.take {K : PySem.W.Frag} : ∀ {xs : List V} {ds : List PyData} (n : Nat), RpL K c xs ds → RpL K c (xs.take n) (ds.take n)
  | _, _, 0, _ => .nil
  | _, _, _ + 1, .nil => .nil
  | _, _, n + 1, .cons h r => .cons h (RpL.take n r)
theorem RpL.drop {K : PySem.W.Frag} : ∀ {xs : List V} {ds : List PyData} (n : Nat), RpL K c xs ds → RpL K c (xs.drop n) (ds.drop n)
  | _, _, 0, r => r
  | _, _, _ + 1, .nil => .nil
  | _, _, n + 1, .cons _ r => RpL.drop n r
theorem RpL.get {K : PySem.W.Frag} : ∀ {xs : List V} {ds : List PyData} {i : Nat} {d : PyData}, RpL K c xs ds → ds[i]? = some d → ∃ v, xs[i]? = some v ∧ Rp K c v d
  | _, _, _, _, .nil, e => by simp at e
  | _, _, 0, _, .cons h _, e => by simp at e; subst e; exact ⟨_, rfl, h⟩
  | _, _, i + 1, d, .cons _ t, e => by
    obtain ⟨v, h1, h2⟩ := RpL.get (i := i) (d := d) t (by simpa using e)
    exact ⟨v, by simpa using h1, h2⟩
theorem RWL.get : ∀ {xs : List V} {ws : List W} {i : Nat} {w : W}, RWL G c xs ws → ws[i]? = some w → ∃ v, xs[i]? = some v ∧ RW G c v w
  | _, _, _, _, .nil, e => by simp at e
  | _, _, 0, _, .cons h _, e => by simp at e; subst e; exact ⟨_, rfl, h⟩
  | _, _, i + 1, d, .cons _ t, e => by
    obtain ⟨v, h1, h2⟩ := RWL.get (i := i) (w := d) t (by simpa using e)
    exact ⟨v, by simpa using h1, h2⟩
theorem RWL.append : ∀ {xs ys : List V} {ds es : List W}, RWL G c xs ds → RWL G c ys es → RWL G c (xs ++ ys) (ds ++ es)
  | _, _, _, _, .nil, s => s
  | _, _, _, _, .cons h r, s => .cons h (RWL.append r s)
/-- a new list, tracked -/
theorem new_list {xs : List V} {ws : List W} {p : Addr} {Q : VK} {E : Str → Cf → Prop} (k : c.ok G) (r : RWL G c xs ws) (hp : c.H p = none) (h : Po G (.ok (W.r c.ah.length) (c.ah ++ [.lst ws])) c (VQ G Q) E) : Q (.ref p) (upd c.H p (.lst xs)) := by
  have ex := Cf.new_ext (o := .lst xs) (ao := .lst ws) k hp
  have ok : (c.new p (.lst xs) (.lst ws)).ok G := Cf.new_ok k hp ⟨xs, upd_same, RWL.mono ex r⟩
  refine Po.at (c' := c.new p (.lst xs) (.lst ws)) h ex ok (.ref p) ⟨p, rfl, ?_⟩
  show (c.μ ++ [p])[c.ah.length]? = some p
  rw [← k.len]; simp
/-- a new tuple that holds objects, tracked -/
theorem new_tupW {xs : List V} {ws : List W} {p : Addr} {Q : VK} {E : Str → Cf → Prop} (k : c.ok G) (r : RWL G c xs ws) (hp : c.H p = none) (h : Po G (.ok (W.r c.ah.length) (c.ah ++ [.tup ws])) c (VQ G Q) E) : Q (.ref p) (upd c.H p (.tup xs)) := by
  have ex := Cf.new_ext (o := .tup xs) (ao := .tup ws) k hp
  have ok : (c.new p (.tup xs) (.tup ws)).ok G := Cf.new_ok k hp ⟨xs, upd_same, RWL.mono ex r⟩
  refine Po.at (c' := c.new p (.tup xs) (.tup ws)) h ex ok (.ref p) ⟨p, rfl, ?_⟩
  show (c.μ ++ [p])[c.ah.length]? = some p
  rw [← k.len]; simp
/-- a new tuple -/
theorem new_tup {xs : List V} {ds : List PyData} {p : Addr} {Q : VK} {E : Str → Cf → Prop} (k : c.ok G) (r : RpL G.K c xs ds) (hp : c.H p = none) (h : Po G (.ok (W.d (.tuple ds)) c.ah) c (VQ G Q) E) : Q (.ref p) (upd c.H p (.tup xs)) := by
  have ex := Cf.lay_ext (o := .tup xs) hp
  exact Po.at (c' := c.lay p (.tup xs)) h ex (Cf.lay_ok k hp) (.ref p) (.tup (Cf.lay_live k hp) (.inl upd_same) (RpL.mono ex r))
end

/-! ### binary operators -/
def bAdd (a b : W) : M W := fun h => match a, b with
  | .d (.int i), .d (.int j) => .ok (wI (i + j)) h
  | .d (.str x), .d (.str y) => if x.length + y.length ≤ sizeLine then .ok (wS (x ++ y)) h else .no
  | .d (.tuple x), .d (.tuple y) => if x.length + y.length ≤ sizeLine then .ok (.d (.tuple (x ++ y))) h else .no
  | .r i, .r j => (match h[i]?, h[j]? with
    | some (.lst x), some (.lst y) => if x.length + y.length ≤ sizeLine then .ok (.r h.length) (h ++ [.lst (x ++ y)]) else .no
    | _, _ => .no)
  | .r i, .d (.list y) => (match h[i]? with
    | some (.lst x) => if x.length + y.length ≤ sizeLine then .ok (.r h.length) (h ++ [.lst (x ++ y.map .d)]) else .no
    | _ => .no)
  | .d (.list x), .r j => (match h[j]? with
    | some (.lst y) => if x.length + y.length ≤ sizeLine then .ok (.r h.length) (h ++ [.lst (x.map .d ++ y)]) else .no
    | _ => .no)
  | .d (.list x), .d (.list y) => if x.length + y.length ≤ sizeLine then .ok (.r h.length) (h ++ [.lst (x.map .d ++ y.map .d)]) else .no
  | _, _ => .no
def bSub (a b : W) : M W := fun h => match a, b with
  | .d (.int i), .d (.int j) => .ok (wI (i - j)) h
  | _, _ => .no
def small64 (i : Int) : Bool := decide (i.natAbs < 18446744073709551616)
theorem small64_ok {i : Int} (h : small64 i = true) : -(2 ^ 64) < i ∧ i < 2 ^ 64 := by
  have h := of_decide_eq_true h
  omega
def small63 (j : Int) : Bool := decide (j.natAbs < 9223372036854775808)
theorem small63_ok {i : Int} (h : small63 i = true) : -(2 ^ 63) ≤ i ∧ i < 2 ^ 63 := by
  have h := of_decide_eq_true h
  omega
def bMul (a b : W) : M W := fun h => match a, b with
  | .d (.int i), .d (.int j) => if small64 i || small64 j then .ok (wI (i * j)) h else .no
  | .r i, .d (.int j) => (match h[i]? with
    | some (.lst x) => if small63 j && decide (x.length * j.toNat ≤ sizeLine) then .ok (.r h.length) (h ++ [.lst (List.replicate j.toNat x).flatten]) else .no
    | _ => .no)
  | _, _ => .no
def bDiv (a b : W) : M W := fun h => match a, b with
  | .d (.int i), .d (.int j) => if decide (0 < j) && decide (j < 1073741824) then .ok (wI (i / j)) h else .no
  | _, _ => .no
def bMod (a b : W) : M W := fun h => match a, b with
  | .d (.int i), .d (.int j) => if 0 < j then .ok (wI (i % j)) h else .no
  | _, _ => .no
def bPow (a b : W) : M W := fun h => match a, b with
  | .d (.int i), .d (.int j) => if (decide (0 ≤ j) && decide (j ≤ 1000000)) && decide (i.natAbs < 2 ^ 64) then .ok (wI (i ^ j.toNat)) h else .no
  | _, _ => .no
def bop : Operator → W → W → M W
  | .Add => bAdd
  | .Sub => bSub
  | .Mult => bMul
  | .FloorDiv => bDiv
  | .Mod => bMod
  | .Pow => bPow
  | _ => fun _ _ => mno

def rCatS : V → V → Hp → VK → Prop := fun x y H Q => ∃ l b xs zs, x = .ref l ∧ y = .ref b ∧ Rd H l (.lst xs) ∧ Rd H b (.lst zs) ∧ xs.length + zs.length ≤ sizeLine ∧ ∀ p, H p = none → Q (.ref p) (upd H p (.lst (xs ++ zs)))
theorem op_catS {X : Cx} : OpR X (binaryOp .Add) rCatS := by
  intro pins s σ H x y v u Q I rx ry h
  obtain ⟨l, b, xs, zs, rfl, rfl, h1, h2, hz, q⟩ := h
  cases rx
  cases ry
  obtain ⟨z, its, n, r, e1⟩ := h1.ok I.hok
  obtain ⟨z2, its2, n2, r2, f1⟩ := h2.ok I.hok
  have l1 := Vals.length r
  have l2 := Vals.length r2
  refine P.add_list e1 f1 ?_ (by simp; omega)
  have ea : its.toArray ++ its2.toArray = (its ++ its2).toArray := by simp
  rw [ea]
  exact ⟨.ref s.heap.objs.size, upd H s.heap.objs.size (.lst (xs ++ zs)), Inv.lnew I (Vals.append r r2) (by rw [List.length_append]; exact hz), rfl, q _ (Inv.fresh I)⟩
theorem rLstR {G : GA} {c : Cf} {v : V} {ds : List PyData} (h : RW G c v (.d (.list ds))) : ∃ a xs, v = .ref a ∧ Rd c.H a (.lst xs) ∧ RpL G.K c xs ds := by
  cases (show Rp G.K c v (.list ds) from h) with
  | lst l1 h1 r1 => exact ⟨_, _, rfl, h1, r1⟩
theorem rpl_rwl0 {G : GA} {c : Cf} : ∀ {xs : List V} {ds : List PyData}, RpL G.K c xs ds → RWL G c xs (ds.map W.d)
  | _, _, .nil => .nil
  | _, _, .cons h r => .cons h (rpl_rwl0 r)
section
variable {X : Cx} {G : GA} (hK : X.K = G.K)
include hK
theorem add_ok : ∃ r, OpR X (binaryOp .Add) r ∧ Op2 G bAdd r := by
  refine ⟨_, (op_add.or (op_add_str.or (op_catA.or op_catS))), fun c x y a b Q E k rx ry h => ?_⟩
  unfold bAdd at h
  split at h
  · rename_i i j
    rw [rInt rx, rInt ry]
    exact .inl ⟨i, j, rfl, rfl, h.here k _ (.int _)⟩
  · rename_i i j
    rw [rStr rx, rStr ry]
    split at h
    · rename_i hz
      exact .inr (.inl ⟨i, j, rfl, rfl, hz, h.here k _ (.str _)⟩)
    · exact h.elim
  · rename_i i j
    split at h
    · rename_i hz
      obtain ⟨p, xs, rfl, h1, r1⟩ := rTup rx
      obtain ⟨q, ys, rfl, h2, r2⟩ := rTup ry
      refine .inr (.inr (.inl ⟨p, q, xs, ys, rfl, rfl, by rw [hK]; exact h1, by rw [hK]; exact h2, by rw [r1.length, r2.length]; exact hz, fun e => ?_, fun _ e => ?_, fun _ _ p hp => ?_⟩))
      · subst e
        cases r1
        exact h.here k _ ry
      · subst e
        cases r2
        rw [List.append_nil] at h
        exact h.here k _ rx
      · exact new_tup k (r1.append r2) hp h
    · exact h.elim
  · rename_i i j
    split at h
    · rename_i xs ys e1 e2
      obtain ⟨p, rfl, h1, us, hu, r1⟩ := rRef k rx e1
      obtain ⟨q, rfl, h2, vs, hv, r2⟩ := rRef k ry e2
      split at h
      · rename_i hz
        exact .inr (.inr (.inr ⟨p, q, us, vs, rfl, rfl, .inl hu, .inl hv, by rw [Paired.length r1, Paired.length r2]; exact hz, fun l hl => new_list k (RWL.append r1 r2) hl h⟩))
      · exact h.elim
    · exact h.elim
  · rename_i i y
    split at h
    · rename_i xs e1
      obtain ⟨p, rfl, h1, us, hu, r1⟩ := rRef k rx e1
      obtain ⟨q, vs, rfl, hv, r2⟩ := rLstR ry
      split at h
      · rename_i hz
        exact .inr (.inr (.inr ⟨p, q, us, vs, rfl, rfl, .inl hu, hv, by rw [Paired.length r1, r2.length]; exact hz, fun l hl => new_list k (RWL.append r1 (rpl_rwl0 r2)) hl h⟩))
      · exact h.elim
    · exact h.elim
  · rename_i x j
    split at h
    · rename_i ys e2
      obtain ⟨p, us, rfl, hu, r1⟩ := rLstR rx
      obtain ⟨q, rfl, h2, vs, hv, r2⟩ := rRef k ry e2
      split at h
      · rename_i hz
        exact .inr (.inr (.inr ⟨p, q, us, vs, rfl, rfl, hu, .inl hv, by rw [r1.length, Paired.length r2]; exact hz, fun l hl => new_list k (RWL.append (rpl_rwl0 r1) r2) hl h⟩))
      · exact h.elim
    · exact h.elim
  · rename_i x y
    obtain ⟨p, us, rfl, hu, r1⟩ := rLstR rx
    obtain ⟨q, vs, rfl, hv, r2⟩ := rLstR ry
    split at h
    · rename_i hz
      exact .inr (.inr (.inr ⟨p, q, us, vs, rfl, rfl, hu, hv, by rw [r1.length, r2.length]; exact hz, fun l hl => new_list k (RWL.append (rpl_rwl0 r1) (rpl_rwl0 r2)) hl h⟩))
    · exact h.elim
  · exact h.elim
theorem sub_ok : ∃ r, OpR X (binaryOp .Sub) r ∧ Op2 G bSub r := by
  refine ⟨_, op_sub, fun c x y a b Q E k rx ry h => ?_⟩
  unfold bSub at h
  split at h
  · rename_i i j
    rw [rInt rx, rInt ry]
    exact ⟨i, j, rfl, rfl, h.here k _ (.int _)⟩
  · exact h.elim
theorem RWL.rep {c : Cf} {xs : List V} {ws : List W} (h : RWL G c xs ws) : ∀ n : Nat, RWL G c (List.replicate n xs).flatten (List.replicate n ws).flatten
  | 0 => .nil
  | n + 1 => by
    rw [List.replicate_succ, List.replicate_succ, List.flatten_cons, List.flatten_cons]
    exact RWL.append h (RWL.rep h n)
theorem mul_ok : ∃ r, OpR X (binaryOp .Mult) r ∧ Op2 G bMul r := by
  refine ⟨_, op_mul.or op_rep, fun c x y a b Q E k rx ry h => ?_⟩
  unfold bMul at h
  split at h
  · rename_i i j
    rw [rInt rx, rInt ry]
    split at h
    · rename_i hz
      refine .inl ⟨i, j, rfl, rfl, ?_, h.here k _ (.int _)⟩
      rcases Bool.or_eq_true_iff.mp hz with q | q
      · exact .inl (small64_ok q)
      · exact .inr (small64_ok q)
    · exact h.elim
  · rename_i i j
    split at h
    · rename_i xs e1
      obtain ⟨p, rfl, h1, us, hu, r1⟩ := rRef k rx e1
      rw [rInt ry]
      split at h
      · rename_i hz
        obtain ⟨hz1, hz2⟩ := Bool.and_eq_true_iff.mp hz
        exact .inr ⟨p, j, us, rfl, rfl, hu, (small63_ok hz1).1, (small63_ok hz1).2, by rw [Paired.length r1]; exact of_decide_eq_true hz2, fun l hl => new_list k (RWL.rep hK r1 _) hl h⟩
      · exact h.elim
    · exact h.elim
  · exact h.elim
theorem div_ok : ∃ r, OpR X (binaryOp .FloorDiv) r ∧ Op2 G bDiv r := by
  refine ⟨_, op_fdiv, fun c x y a b Q E k rx ry h => ?_⟩
  unfold bDiv at h
  split at h
  · rename_i i j
    rw [rInt rx, rInt ry]
    split at h
    · rename_i hz
      simp only [Bool.and_eq_true, decide_eq_true_eq] at hz
      exact ⟨i, j, rfl, rfl, hz, h.here k _ (.int _)⟩
    · exact h.elim
  · exact h.elim
theorem mod_ok : ∃ r, OpR X (binaryOp .Mod) r ∧ Op2 G bMod r := by
  refine ⟨_, op_mod, fun c x y a b Q E k rx ry h => ?_⟩
  unfold bMod at h
  split at h
  · rename_i i j
    rw [rInt rx, rInt ry]
    split at h
    · rename_i hz
      exact ⟨i, j, rfl, rfl, hz, h.here k _ (.int _)⟩
    · exact h.elim
  · exact h.elim
theorem pow_ok : ∃ r, OpR X (binaryOp .Pow) r ∧ Op2 G bPow r := by
  refine ⟨_, op_pow, fun c x y a b Q E k rx ry h => ?_⟩
  unfold bPow at h
  split at h
  · rename_i i j
    rw [rInt rx, rInt ry]
    split at h
    · rename_i hz
      simp only [Bool.and_eq_true, decide_eq_true_eq] at hz
      exact ⟨i, j, rfl, rfl, ⟨hz.1.1, hz.1.2, hz.2⟩, h.here k _ (.int _)⟩
    · exact h.elim
  · exact h.elim
theorem bop_ok (op : Operator) : ∃ r, OpR X (binaryOp op) r ∧ Op2 G (bop op) r := by
  cases op with
  | Add => exact add_ok hK
  | Sub => exact sub_ok hK
  | Mult => exact mul_ok hK
  | FloorDiv => exact div_ok hK
  | Mod => exact mod_ok hK
  | Pow => exact pow_ok hK
  | _ => exact ⟨fun _ _ _ _ => False, fun _ _ _ _ _ _ _ _ _ _ _ _ z => z.elim, fun _ _ _ _ _ _ _ _ _ _ z => z.elim⟩
end
def eBin (op : Operator) (a b : ME) : ME := fun env => mbind (a env) fun x => mbind (b env) fun y => bop op x y
section
variable {T : Tb} {G : GA} {CM : FId → List W → M W} {k : Nat} {sc : Sc} {a b e : Expr} {ma mb mc : ME} {pos : Pos}
theorem se_bin {op : Operator} (ha : SE T G CM k sc a ma) (hb : SE T G CM k sc b mb) : SE T G CM k sc (.BinOp a op b pos) (eBin op ma mb) := fun X Wx F => by
  obtain ⟨r, h1, h2⟩ := bop_ok (X := X) (G := G) F.K op
  refine PE.imp (pe_op h1 (ha X Wx F) (hb X Wx F)) fun σ H Q ⟨c, env, e, ok, re, q⟩ => ?_
  subst e
  refine tE.step ok re q fun w c1 v e1 ok1 re1 rv q1 => tE.step ok1 re1 q1 fun w2 c2 v2 e2 ok2 re2 rv2 q2 => ?_
  exact h2 c2 v v2 w w2 Q _ ok2 (RW.mono e2 rv) rv2 q2
end
end Ev
set_option Elab.async false
set_option linter.all false
set_option maxRecDepth 100000
set_option maxHeartbeats 2000000
/-! E3d: dicts, read. -/
namespace Ev
open PySem PySem.Spec PyProof.Rows L2

/-! ### dicts of data -/
def keyOf : PyData → Option Key
  | .int i => some (.inl i)
  | .str x => some (.inr x)
  | _ => none
def keyIsD (k : Key) : PyData → Bool
  | .int i => decide (k = .inl i)
  | .str x => decide (k = .inr x)
  | _ => false
def lookD {α : Type} (k : Key) : List (PyData × α) → Option α
  | [] => none
  | (d, x) :: r => if keyIsD k d then some x else lookD k r
theorem keyIsD_ok (k j : Key) : keyIsD k (keyD j) = decide (j = k) := by
  cases j with
  | inl i => exact decide_eq_decide.mpr eq_comm
  | inr i => exact decide_eq_decide.mpr eq_comm
def ORel {α : Type} (P : V → α → Prop) : Option V → Option α → Prop
  | some v, some a => P v a
  | none, none => True
  | _, _ => False
theorem RpD.look {K : PySem.W.Frag} {c : Cf} {k : Key} : ∀ {xs : List (Key × V)} {ds : List (PyData × PyData)}, RpD K c xs ds → ORel (Rp K c) (valV xs k) (lookD k ds)
  | _, _, .nil => trivial
  | (j, v) :: xs, (_, d) :: ds, .cons h r => by
    have ih := RpD.look (k := k) r
    unfold lookD
    rw [keyIsD_ok]
    by_cases e : j = k
    · rw [decide_eq_true e, if_pos rfl, valV_pos e]
      exact h
    · rw [decide_eq_false e, if_neg Bool.false_ne_true, valV_neg e]
      exact ih
theorem pd_look {G : GA} {c : Cf} {k : Key} : ∀ {xs : List (Key × V)} {ds : List (PyData × W)}, Paired (fun (p : Key × V) (q : PyData × W) => q.1 = keyD p.1 ∧ RW G c p.2 q.2) xs ds → ORel (RW G c) (valV xs k) (lookD k ds)
  | _, _, .nil => trivial
  | (j, v) :: xs, (d0, d) :: ds, .cons h r => by
    have ih := pd_look (k := k) r
    obtain ⟨h1, h2⟩ := h
    have h1' : d0 = keyD j := h1
    subst h1'
    unfold lookD
    rw [keyIsD_ok]
    by_cases e : j = k
    · rw [decide_eq_true e, if_pos rfl, valV_pos e]
      exact h2
    · rw [decide_eq_false e, if_neg Bool.false_ne_true, valV_neg e]
      exact ih
theorem rKey {G : GA} {c : Cf} {v : V} {d : PyData} {k : Key} (h : RW G c v (.d d)) (hk : keyOf d = some k) : v = kV k := by
  cases d with
  | int i => cases hk; exact rInt h
  | str i => cases hk; exact rStr h
  | _ => cases hk
/-- what a value that is a dict holds at a key -/
def dictAt (h : AH) (w : W) (k : Key) : Option (Option W) := match w with
  | .d (.dict ds) => some ((lookD k ds).map .d)
  | .r i => (match h[i]? with
    | some (.dic ds) => some (lookD k ds)
    | some (.rod ds) => some (lookD k ds)
    | _ => none)
  | _ => none
theorem dictAt_ok {G : GA} {c : Cf} {w : W} {k : Key} {r : Option W} {v : V} (ok : c.ok G) (h : dictAt c.ah w k = some r) (rv : RW G c v w) : ∃ a o, v = .ref a ∧ DGet c.H a (kV k) o ∧ ORel (RW G c) o r := by
  cases w with
  | d x =>
    cases x with
    | dict ds =>
      cases h
      cases (show Rp G.K c v (.dict ds) from rv) with
      | dic l1 h1 r1 =>
        rename_i a xs
        refine ⟨a, valV xs k, rfl, .inl ⟨xs, k, h1, rfl, rfl⟩, ?_⟩
        have q := r1.look (k := k)
        cases e : lookD k ds with
        | none =>
          rw [e] at q
          cases e2 : valV xs k with
          | none => trivial
          | some v => rw [e2] at q; exact q.elim
        | some d =>
          rw [e] at q
          cases e2 : valV xs k with
          | none => rw [e2] at q; exact q.elim
          | some v => rw [e2] at q; exact q
    | _ => cases h
  | r i =>
    simp only [dictAt] at h
    split at h
    · rename_i ds e
      cases h
      obtain ⟨a, rfl, h1, xs, hx, rx⟩ := rRef ok rv e
      exact ⟨a, valV xs k, rfl, .inl ⟨xs, k, .inl hx, rfl, rfl⟩, pd_look (k := k) rx⟩
    · rename_i ds e
      cases h
      obtain ⟨a, rfl, h1, xs, od, hx, rx⟩ := rRef ok rv e
      exact ⟨a, valV xs k, rfl, .inl ⟨xs, k, .inr ⟨od, hx⟩, rfl, rfl⟩, pd_look (k := k) rx⟩
    · cases h
  | fn f => cases h
  | ex f => cases h
theorem dictAt_some {G : GA} {c : Cf} {w : W} {k : Key} {r : W} {v : V} (ok : c.ok G) (h : dictAt c.ah w k = some (some r)) (rv : RW G c v w) : ∃ a v', v = .ref a ∧ DGet c.H a (kV k) (some v') ∧ RW G c v' r := by
  obtain ⟨a, o, h1, h2, h3⟩ := dictAt_ok ok h rv
  cases o with
  | none => exact h3.elim
  | some v' => exact ⟨a, v', h1, h2, h3⟩
end Ev
set_option Elab.async false
set_option linter.all false
set_option maxRecDepth 100000
set_option maxHeartbeats 2000000
/-! E3n: dicts whose keys are tuples. -/
namespace Ev
open PySem PySem.Spec PyProof.Rows L2

section
variable {K : PySem.W.Frag} {c : Cf} {P : Program} {w : World} {h : Heap}
mutual
theorem Rp.nest (ok : HOk P w c.H h) (hK : K.In h) : ∀ {d : PyData} {v : V} {k : NestedKey} {u : Value}, Rp K c v d → nkOf d = some k → RelV v u → NestedIs h k u
  | _, _, k, u, .non, e, r => by
    have e := Option.some.inj (show some NestedKey.none = some k from e)
    subst e
    cases (show u = Value.none from r); exact .none
  | _, _, k, u, .bl b, e, r => by cases (show (none : Option NestedKey) = some k from e)
  | _, _, k, u, .int i, e, r => by
    have e := Option.some.inj (show some (NestedKey.num i) = some k from e)
    subst e
    obtain ⟨t, q⟩ := (show ∃ t, u = Value.int i t from r)
    subst q; exact .int _ _
  | _, _, k, u, .str x, e, r => by
    have e := Option.some.inj (show some (NestedKey.text x) = some k from e)
    subst e
    obtain ⟨t, q⟩ := (show ∃ t, u = Value.str x t from r)
    subst q; exact .text _ _
  | _, _, k, u, .lst l h1 r1, e, r => by cases (show (none : Option NestedKey) = some k from e)
  | _, _, k, u, @Rp.tup _ _ a xs ds l h1 r1, e, r => by
    have e : (nkOfL ds).map NestedKey.tup = some k := by rw [← e]; simp only [nkOf]
    obtain ⟨ks, e1, e2⟩ := Option.map_eq_some_iff.mp e
    subst e2
    cases (show u = Value.ref a from r)
    obtain ⟨_, its, rv, o, g1, g2, n, g3⟩ := h1.ok ok
    exact .tup g1 g2 g3 (by simpa using RpL.nest ok hK r1 e1 rv)
  | _, _, k, u, @Rp.tupK _ _ a xs ds h1 r1, e, r => by
    have e : (nkOfL ds).map NestedKey.tup = some k := by rw [← e]; simp only [nkOf]
    obtain ⟨ks, e1, e2⟩ := Option.map_eq_some_iff.mp e
    subst e2
    cases (show u = Value.ref a from r)
    obtain ⟨o, its, n, g1, g2, g3, _, rv⟩ := h1
    exact .tup (hK _ _ g1) g2 g3 (RpL.nest ok hK r1 e1 rv)
  | _, _, k, u, .dic l h1 r1, e, r => by cases (show (none : Option NestedKey) = some k from e)
theorem RpL.nest (ok : HOk P w c.H h) (hK : K.In h) : ∀ {ds : List PyData} {vs : List V} {ks : List NestedKey} {us : List Value}, RpL K c vs ds → nkOfL ds = some ks → Vals vs us → NestedAll h ks us
  | _, _, ks, us, .nil, e, r => by
    have e := Option.some.inj (show some ([] : List NestedKey) = some ks from e)
    subst e
    cases r; exact .nil
  | _, _, ks, us, @RpL.cons _ _ v vs d ds h1 r1, e, r => by
    simp only [nkOfL] at e
    split at e
    · rename_i k ks' q1 q2
      cases e
      cases r with
      | cons ra rb => exact .cons (Rp.nest ok hK h1 q1 ra) (RpL.nest ok hK r1 q2 rb)
    · cases e
end
end
/-- the key k stands at b -/
def KeyH (K : PySem.W.Frag) (H : Hp) (k : NestedKey) (b : Addr) : Prop := k.depth ≤ 8 ∧ ∀ (P : Program) (w : World) (h : Heap), HOk P w H h → K.In h → NestedIs h k (.ref b)
/-- a dict of such keys -/
def NDG (K : PySem.W.Frag) (w : World) (H : Hp) (a : Addr) (xs : List (NestedKey × Addr × Value)) : Prop :=
  (H a = some (.ext (NDO w a xs)) ∧ (xs.map (·.1)).Nodup ∧ (∀ x ∈ xs, KeyH K H x.1 x.2.1) ∧ (a == sysModules) = false ∧ xs.length ≤ sizeLine) ∨ (xs = [] ∧ H a = some (.dK []))
theorem NDG.ne {K : PySem.W.Frag} {w : World} {H : Hp} {a : Addr} {xs : List (NestedKey × Addr × Value)} {P : Program} {h : Heap} (g : NDG K w H a xs) (ok : HOk P w H h) : (a == sysModules) = false := by
  rcases g with ⟨_, _, _, g, _⟩ | ⟨_, e⟩
  · exact g
  · exact (show ObjOk P w H h a (.dK []) from ok a _ e).2.1
theorem NDG.le {K : PySem.W.Frag} {w : World} {H : Hp} {a : Addr} {xs : List (NestedKey × Addr × Value)} (g : NDG K w H a xs) : xs.length ≤ sizeLine := by
  rcases g with ⟨_, _, _, _, g⟩ | ⟨e, _⟩
  · exact g
  · rw [e]; exact Nat.zero_le _
theorem NDG.dict {K : PySem.W.Frag} {w : World} {H : Hp} {a : Addr} {xs : List (NestedKey × Addr × Value)} {P : Program} {h : Heap} (g : NDG K w H a xs) (ok : HOk P w H h) (hK : K.In h) : h.DictOfH (nestedKind P w) a xs := by
  rcases g with ⟨e, nd, ks, _⟩ | ⟨rfl, e⟩
  · obtain ⟨⟨o, es, ep, h1, h2, h3, h4⟩, _⟩ := (show ObjOk P w H h a (.ext (NDO w a xs)) from ok a _ e)
    exact ⟨o, es, ep, h1, h2, h3, h4, fun x hx => ⟨(ks x hx).2 P w h ok hK, (ks x hx).1⟩, nd⟩
  · obtain ⟨_, _, vs, r, o, es, ep, h1, h2, h3, _, h5, _⟩ := (show ObjOk P w H h a (.dK []) from ok a _ e)
    cases r
    have e0 : es.toList = [] := by
      cases q : es.toList with
      | nil => rfl
      | cons x r => rw [q] at h5; cases h5
    exact ⟨o, es, ep, h1, h2, h3, e0, (fun x hx => nomatch hx), List.nodup_nil⟩
section
variable {X : Cx} {pins : List (Addr × Obj)} {σ : L2.St} {H : Hp} {s : Shared} {a b : Addr} {k : NestedKey} {xs : List (NestedKey × Addr × Value)}
theorem KeyH.is (g : KeyH X.K H k b) (I : Inv X pins σ H s) : (nestedKind X.prog X.w).is s.heap k b := ⟨g.2 _ _ _ I.hok I.kIn, g.1⟩
theorem op_inN (hu : X.A.units + 64 < cLine) : OpR X (compareOp .In) (fun x y H Q => ∃ a b k xs, x = .ref b ∧ y = .ref a ∧ NDG X.K X.w H a xs ∧ KeyH X.K H k b ∧ Q (.bl (atKey xs k).isSome) H) := by
  intro pins s σ H x y v u Q I rx ry ⟨a, b, k, xs, ex, ey, g, kh, q⟩
  subst ex ey
  cases rx; cases ry
  exact wpAny_in_heap (show X.A.in1.units + 8 < cLine by rw [Around.in1_units]; omega) (kh.is I) (g.ne I.hok) (g.dict I.hok I.kIn) ⟨.bl _, H, I.tok _, rfl, q⟩
theorem op_notInN (hu : X.A.units + 64 < cLine) : OpR X (compareOp .NotIn) (fun x y H Q => ∃ a b k xs, x = .ref b ∧ y = .ref a ∧ NDG X.K X.w H a xs ∧ KeyH X.K H k b ∧ Q (.bl (!(atKey xs k).isSome)) H) := by
  intro pins s σ H x y v u Q I rx ry ⟨a, b, k, xs, ex, ey, g, kh, q⟩
  subst ex ey
  cases rx; cases ry
  exact wpAny_notIn_heap (show X.A.in1.units + 8 < cLine by rw [Around.in1_units]; omega) (kh.is I) (g.ne I.hok) (g.dict I.hok I.kIn) ⟨.bl _, H, I.tok _, rfl, q⟩
theorem ix_N (hu : X.A.units + 64 < cLine) : IxR X (fun x y H Q => ∃ a b k xs p v, x = .ref a ∧ y = .ref b ∧ NDG X.K X.w H a xs ∧ KeyH X.K H k b ∧ atKey xs k = some p ∧ RelV v p.2 ∧ Q v H) := by
  intro value slice pins s σ H x y v u Q I rx ry ⟨a, b, k, xs, p, v', ex, ey, g, kh, hp, rv, q⟩ hs
  subst ex ey
  cases rx; cases ry
  have dd := g.dict I.hok I.kIn
  exact tail_any dd.typeIs PySem.F.slot_dict_getitem.lookup (wpAny_getItem_heap (show X.A.in1.units + 8 < cLine by rw [Around.in1_units]; omega) (kh.is I) dd hp ⟨v', H, I.tok _, rv, q⟩) hs
theorem set_N (hu : X.A.units + 64 < cLine) : PSet X (fun o i v H Q => ∃ a b k xs, o = .ref a ∧ i = .ref b ∧ NDG X.K X.w H a xs ∧ xs.length < sizeLine ∧ KeyH X.K H k b ∧ ∀ u, RelV v u → (a == sysModules) = false → Q (upd H a (.ext (NDO X.w a (storedH xs k b u))))) := by
  intro pins s σ H o i v ov iv u Q I r1 r2 r3 ⟨a, b, k, xs, eo, ei, g, hz, kh, q⟩
  subst eo ei
  cases r1; cases r2
  have dd := g.dict I.hok I.kIn
  refine wpAny_setItem_heap (hsz := g.le) (show X.A.in1.units + 8 < cLine by rw [Around.in1_units]; omega) (kh.is I) dd fun h' dd' hs => ?_
  obtain ⟨o', es, ep, h1, h2, h3, h4, h5, h6⟩ := dd'
  have mu : Mut (H a) := by
    rcases g with ⟨e, _⟩ | ⟨_, e⟩
    · rw [e]; trivial
    · rw [e]; trivial
  refine ⟨_, d_write (ob := .ext (NDO X.w a (storedH xs k b u))) I mu hs ⟨o', h1⟩ ⟨⟨o', es, ep, h1, h2, h3, h4⟩, ⟨o', h1⟩, ?_⟩, q _ r3 (g.ne I.hok)⟩
  intro g1 g2 ⟨o1, es1, ep1, z1, z2⟩ hk
  exact ⟨o1, es1, ep1, hk _ z1, z2⟩
theorem call_lenN : CallR X (.builtin "len") (fun ys H Q => ∃ a xs, ys = [.ref a] ∧ NDG X.K X.w H a xs ∧ Q (.int xs.length) H) := by
  intro pins s σ H ys us Q I r ⟨a, xs, e, g, q⟩
  subst e
  rw [Vals.ref1 r]
  have dd := g.dict I.hok I.kIn
  obtain ⟨o, es, ep, h1, h2, h3, h4, _⟩ := dd
  have hl : es.size = xs.length := by rw [← Array.length_toList, h4, List.length_map]
  have hz := g.le
  rw [sizeLine_eq] at hz
  refine Calls.call_function_entry kind_len plain_len entry_len (args_len1 _) ?_
  unfold Builtin.«len»
  refine wpAny_bind (m := oneArg "len" _) (wpAny_pure ?_)
  refine wpAny_bind (m := callSpecial? (.ref a) (Str.ofString "__len__")) (wpAny_callSpecial?_slot (name := Str.ofString "__len__") (show s.TypeIs (.ref a) "dict" from ⟨o, h1, h2.1⟩) F.slot_dict_len
    (call_meetsIn F.slot_dict_len ⟨o, h1, h2.1⟩ F.entry_dict_len (F.args_dict_len_1 _) (meets_dict_len_raw a (g.ne I.hok)) ⟨es, ep, ⟨o, h1, h2, h3⟩, ?_⟩))
  rw [hl]
  show wpAny _ _ _ _ _ { s with toks := s.toks + 1 }
  refine wpAny_bind (wpAny_holding (wpAny_pure ?_))
  refine wpAny_bind (wpAny_letGo ?_)
  show wpAny _ _ (if ((xs.length : Nat) : Int) < 0 then _ else _) _ _ _
  rw [if_neg (by omega)]
  show wpAny _ _ (if ((xs.length : Nat) : Int) ≥ 2 ^ 63 then _ else _) _ _ _
  rw [if_neg (by omega)]
  exact wpAny_bind (wpAny_mkInt (wpAny_pure ⟨_, rfl, ⟨.int xs.length, H, (I.tok _).tok _, ⟨_, rfl⟩, q⟩⟩))
end
/-! ### in the evaluator -/
def nkT : PyData → Option NestedKey
  | .tuple ds => (match nkOf (.tuple ds) with
    | some k => if k.depth ≤ 8 then some k else none
    | none => none)
  | _ => none
theorem nkT_ok {d : PyData} {k : NestedKey} (h : nkT d = some k) : nkOf d = some k ∧ k.depth ≤ 8 ∧ ∃ ds, d = .tuple ds := by
  cases d with
  | tuple ds =>
    simp only [nkT] at h
    split at h
    · rename_i k' q
      split at h
      · rename_i hd
        cases h
        exact ⟨q, hd, ds, rfl⟩
      · cases h
    · cases h
  | _ => cases h
def lookN {α : Type} (k : NestedKey) : List (PyData × α) → Option α
  | [] => none
  | (d, x) :: r => if nkOf d = some k then some x else lookN k r
def putN {α : Type} (k : NestedKey) (d : PyData) (x : α) (kvs : List (PyData × α)) : List (PyData × α) :=
  if (lookN k kvs).isSome then kvs.map (fun p => if nkOf p.1 = some k then (p.1, x) else p) else kvs ++ [(d, x)]
def ndAt (h : AH) (w : W) (k : NestedKey) : Option (Option W) := match w with
  | .r i => (match h[i]? with
    | some (.dcn kvs) => some (lookN k kvs)
    | some (.dic []) => some none
    | _ => none)
  | _ => none
section
variable {G : GA} {c : Cf}
theorem key_rp {v : V} {d : PyData} {k : NestedKey} (h : RW G c v (.d d)) (hk : nkT d = some k) : ∃ b, v = .ref b ∧ KeyH G.K c.H k b ∧ Rp G.K c (.ref b) d := by
  obtain ⟨h1, h2, ds, rfl⟩ := nkT_ok hk
  obtain ⟨b, xs, rfl, _⟩ := rTup h
  exact ⟨b, rfl, ⟨h2, fun P w hp ok hK => Rp.nest ok hK (show Rp G.K c (.ref b) (.tuple ds) from h) h1 rfl⟩, h⟩
theorem NDR.keys {xs : List (NestedKey × Addr × Value)} {kvs : List (PyData × W)} (r : NDR G c xs kvs) : ∀ x ∈ xs, KeyH G.K c.H x.1 x.2.1 := by
  induction r with
  | nil => intro x hx; cases hx
  | cons h t ih =>
    intro x hx
    rcases List.mem_cons.mp hx with e | hx
    · subst e
      obtain ⟨q1, q2, q3, _⟩ := h
      exact ⟨q2, fun P w hp ok hK => Rp.nest ok hK q3 q1 rfl⟩
    · exact ih x hx
def ORelN (G : GA) (c : Cf) : Option (Addr × Value) → Option W → Prop
  | some p, some w => ∃ v, RelV v p.2 ∧ RW G c v w
  | none, none => True
  | _, _ => False
theorem NDR.look {k : NestedKey} {xs : List (NestedKey × Addr × Value)} {kvs : List (PyData × W)} (r : NDR G c xs kvs) : ORelN G c (atKey xs k) (lookN k kvs) := by
  induction r with
  | nil => trivial
  | @cons x q xs kvs h t ih =>
    obtain ⟨q1, q2, q3, q4⟩ := h
    obtain ⟨d, w⟩ := q
    unfold atKey lookN
    rw [List.find?_cons]
    have q1 : nkOf d = some x.1 := q1
    rw [q1]
    by_cases e : x.1 = k
    · rw [decide_eq_true e, if_pos (by rw [e])]
      exact q4
    · rw [decide_eq_false e, if_neg (fun z => e (Option.some.inj z))]
      exact ih
theorem ndAt_ok {w : W} {k : NestedKey} {r : Option W} {v : V} (ok : c.ok G) (h : ndAt c.ah w k = some r) (rv : RW G c v w) : ∃ a xs, v = .ref a ∧ NDG G.K G.w c.H a xs ∧ ORelN G c (atKey xs k) r := by
  cases w with
  | r i =>
    simp only [ndAt] at h
    split at h
    · rename_i kvs e
      cases h
      obtain ⟨a, rfl, h1, xs, hx, h2, h3, h4, rx⟩ := rRef ok rv e
      exact ⟨a, xs, rfl, .inl ⟨hx, h4, rx.keys, h2, h3⟩, rx.look⟩
    · rename_i e
      cases h
      obtain ⟨a, rfl, h1, xs, hx, rx⟩ := rRef ok rv e
      cases rx
      exact ⟨a, [], rfl, .inr ⟨rfl, hx⟩, trivial⟩
    · cases h
  | d x => cases h
  | fn f => cases h
  | ex f => cases h
theorem orelN_some {o : Option (Addr × Value)} {r : Option W} (h : ORelN G c o r) : o.isSome = r.isSome := by
  cases o with
  | none => cases r with
    | none => rfl
    | some w => exact h.elim
  | some p => cases r with
    | none => exact h.elim
    | some w => rfl
theorem ndr_put {k : NestedKey} {d : PyData} {b : Addr} {u : Value} {v : V} {w : W} (hk : nkOf d = some k) (hd : k.depth ≤ 8) (hb : Rp G.K c (.ref b) d) (hv : RelV v u) (rw : RW G c v w) {xs : List (NestedKey × Addr × Value)} {kvs : List (PyData × W)} (r : NDR G c xs kvs) : NDR G c (storedH xs k b u) (putN k d w kvs) := by
  have e := orelN_some (r.look (k := k))
  unfold storedH putN
  rw [← e]
  by_cases q : (atKey xs k).isSome = true
  · rw [if_pos q, if_pos q]
    clear e q
    induction r with
    | nil => exact .nil
    | @cons x p xs kvs h t ih =>
      obtain ⟨q1, q2, q3, q4⟩ := h
      refine .cons ?_ ih
      unfold putAt
      by_cases e : x.1 = k
      · have e2 : (fun p : PyData × W => if nkOf p.1 = some k then (p.1, w) else p) p = (p.1, w) := if_pos (by rw [q1, e])
        rw [if_pos e, e2]
        exact ⟨q1, q2, q3, v, hv, rw⟩
      · have e2 : (fun p : PyData × W => if nkOf p.1 = some k then (p.1, w) else p) p = p := if_neg (by rw [q1]; exact fun z => e (Option.some.inj z))
        rw [if_neg e, e2]
        exact ⟨q1, q2, q3, q4⟩
  · rw [if_neg q, if_neg q]
    exact Paired.snoc r ⟨hk, hd, hb, v, hv, rw⟩
theorem stored_nd {k : NestedKey} {b : Addr} {u : Value} {xs : List (NestedKey × Addr × Value)} (h : (xs.map (·.1)).Nodup) : ((storedH xs k b u).map (·.1)).Nodup := by
  unfold storedH
  split
  · rw [List.map_map, show ((fun x : NestedKey × Addr × Value => x.1) ∘ putAt k u) = (·.1) from by
      funext x
      simp only [Function.comp, putAt]
      split <;> rfl]
    exact h
  · rename_i q
    rw [List.map_append, List.nodup_append]
    refine ⟨h, by simp, fun a ha z hz e => q ?_⟩
    have hz : z = k := by simpa using hz
    rw [hz] at e
    subst e
    obtain ⟨x, hx, rfl⟩ := List.mem_map.mp ha
    unfold atKey
    rw [Option.isSome_map, List.find?_isSome]
    exact ⟨x, hx, decide_eq_true rfl⟩
theorem stored_len {k : NestedKey} {b : Addr} {u : Value} {xs : List (NestedKey × Addr × Value)} : (storedH xs k b u).length ≤ xs.length + 1 := by
  unfold storedH
  split <;> simp
end
end Ev
set_option Elab.async false
set_option linter.all false
set_option maxRecDepth 100000
set_option maxHeartbeats 2000000
/-! E4: comparisons, and, or, not, if. -/
namespace Ev
open PySem PySem.Spec PyProof.Rows L2

def allD : List W → Option (List PyData)
  | [] => some []
  | .d x :: r => (allD r).map (x :: ·)
  | _ => none
def peek (h : AH) : W → Option PyData
  | .d x => some x
  | .r i => (match h[i]? with
    | some (.lst ws) => (allD ws).map .list
    | _ => none)
  | _ => none
mutual
theorem Rp.dp {K : PySem.W.Frag} {c : Cf} : ∀ {d : PyData} {v : V}, Rp K c v d → d.canLay0 = true → Dp K c.H v d
  | _, _, .non, _ => .non
  | _, _, .bl b, _ => .bl b
  | _, _, .int i, _ => .int i
  | _, _, .str x, _ => .str x
  | .list ds, _, .lst _ h r, k => .lst (.inl h) (RpL.dp r (by simpa [PyData.canLay0] using k))
  | .tuple ds, _, .tup _ h r, k => .tup (.inl h) (RpL.dp r (by simpa [PyData.canLay0] using k))
  | .tuple ds, _, .tupK h r, k => .tup (.inr h) (RpL.dp r (by simpa [PyData.canLay0] using k))
  | .dict _, _, .dic _ _ _, k => by simp [PyData.canLay0] at k
theorem RpL.dp {K : PySem.W.Frag} {c : Cf} : ∀ {ds : List PyData} {vs : List V}, RpL K c vs ds → PyData.canLayAll0 ds = true → DpAll K c.H vs ds
  | _, _, .nil, _ => .nil
  | d :: ds, _, .cons h r, k => by
    have k' : d.canLay0 = true ∧ PyData.canLayAll0 ds = true := by simpa [PyData.canLayAll0] using k
    exact .cons (Rp.dp h k'.1) (RpL.dp r k'.2)
end
section
variable {G : GA} {c : Cf}
theorem allD_ok : ∀ {ws : List W} {ds : List PyData} {xs : List V}, allD ws = some ds → RWL G c xs ws → RpL G.K c xs ds
  | [], ds, xs, h, r => by
    cases h
    cases r
    exact .nil
  | .d x :: ws, ds, xs, h, r => by
    cases r with
    | cons r1 r2 =>
      unfold allD at h
      cases q : allD ws with
      | none => rw [q] at h; cases h
      | some es =>
        rw [q] at h
        cases h
        exact .cons r1 (allD_ok q r2)
  | .r _ :: _, _, _, h, _ => by cases h
  | .fn _ :: _, _, _, h, _ => by cases h
  | .ex _ :: _, _, _, h, _ => by cases h
/-- the data at a value, by what the layer reads -/
theorem peek_dp {w : W} {d : PyData} {v : V} (k : c.ok G) (r : RW G c v w) (h : peek c.ah w = some d) (hl : d.canLay0 = true) : Dp G.K c.H v d := by
  cases w with
  | d x =>
    cases h
    exact Rp.dp r hl
  | r i =>
    simp only [peek] at h
    split at h
    · rename_i ws e
      obtain ⟨a, rfl, h1, xs, hx, rx⟩ := rRef k r e
      cases q : allD ws with
      | none => rw [q] at h; cases h
      | some ds =>
        rw [q] at h
        cases h
        exact .lst (.inl (.inl hx)) (RpL.dp (allD_ok q rx) (by simpa [PyData.canLay0] using hl))
    · cases h
  | fn f => cases h
  | ex f => cases h
end

/-! ### dicts compared -/
/-- a dict's entries -/
def dictW (h : AH) (w : W) : Option (List (PyData × W)) := match w with
  | .d (.dict ds) => some (ds.map fun p => (p.1, .d p.2))
  | .r i => (match h[i]? with
    | some (.dic kvs) => some kvs
    | some (.rod kvs) => some kvs
    | _ => none)
  | _ => none
def eqGo (ls : List (PyData × W)) : List (PyData × W) → Option Bool
  | [] => some true
  | (k, w) :: r => match keyOf k with
    | none => none
    | some kk => match lookD kk ls with
      | none => some false
      | some w' => match w, w' with
        | .d x, .d y => if SeqAt.shaped x && SeqAt.shaped y && decide (x.depth ≤ 60) then (eqGo ls r).map (PyData.eqv x y && ·) else none
        | _, _ => none
def dEqB (ks ls : List (PyData × W)) : Option Bool := if ks.length = ls.length then eqGo ls ks else some false
def cEqD (neg : Bool) (a b : W) : M W := fun h => match dictW h a, dictW h b with
  | some ks, some ls => (match dEqB ks ls with
    | some r => .ok (wB (if neg then !r else r)) h
    | none => .no)
  | _, _ => .no
inductive HitsV (K : PySem.W.Frag) (H : Hp) (ls : List (Key × V)) : List (Key × V) → Bool → Prop
  | nil : HitsV K H ls [] true
  | miss {k : Key} {v : V} {r : List (Key × V)} : valV ls k = none → HitsV K H ls ((k, v) :: r) false
  | hit {k : Key} {v u : V} {x y : PyData} {r : List (Key × V)} {b : Bool} : valV ls k = some u → Dp K H v x → Dp K H u y → SeqAt.shaped x = true → SeqAt.shaped y = true → x.depth ≤ 60 → HitsV K H ls r b → HitsV K H ls ((k, v) :: r) (PyData.eqv x y && b)
theorem HitsV.run {X : Cx} {pins : List (Addr × Obj)} {σ : L2.St} {H : Hp} {s : Shared} (I : Inv X pins σ H s) (hu : X.A.units + 64 < cLine) {ls : List (Key × V)} {vb : List (Key × Value)} (rb : KV ls vb) {ks : List (Key × V)} {r : Bool} (h : HitsV X.K H ls ks r) :
    ∀ {va : List (Key × Value)}, KV ks va → PySem.W.KeqHits X.A.in1 s vb va r := by
  induction h with
  | nil => intro va ra; cases ra; exact .nil
  | miss hn =>
    intro va ra
    cases ra with
    | @cons _ q _ _ h t =>
      obtain ⟨k', v'⟩ := q
      have h1 := h.1
      simp only at h1
      subst h1
      exact .miss (RelO.none_of (by rw [← hn]; exact rb.val _))
  | @hit kk vv uu x y rr bb h1 h2 h3 h4 h5 h6 h7 ih =>
    intro va ra
    cases ra with
    | @cons _ q _ _ h t =>
      obtain ⟨k', v'⟩ := q
      have e1 : kk = k' := h.1
      subst e1
      have rr : RelO (some uu) (valueAt vb kk) := by rw [← h1]; exact rb.val kk
      obtain ⟨y', hy, ry⟩ := rr.some_of
      obtain ⟨as, r1⟩ := Dp.reads I x vv v' h2 h.2
      obtain ⟨bs, r2⟩ := Dp.reads I y uu y' h3 ry
      refine .hit hy (SeqAt.eqAt_reads x y X.A.in1 s v' y' as bs r1 r2 (SeqAt.canLay_of_shaped h4) (SeqAt.canLay_of_shaped h5) ?_) (ih t)
      have : min x.depth y.depth ≤ x.depth := Nat.min_le_left _ _
      rw [Around.in1_units]; omega
def rEqDD (K : PySem.W.Frag) (neg : Bool) : R2 := fun x y H Q => ∃ a b ks ls r, x = .ref a ∧ y = .ref b ∧ Rd H a (.dK ks) ∧ Rd H b (.dK ls) ∧ (ks.length = ls.length → HitsV K H ls ks r) ∧ Q (.bl (if neg then !(ks.length == ls.length && r) else (ks.length == ls.length && r))) H
theorem op_eqDD {X : Cx} (hu : X.A.units + 64 < cLine) : OpR X (compareOp .Eq) (rEqDD X.K false) := by
  intro pins s σ H x y v u Q I rx ry h
  obtain ⟨a, b, ks, ls, r, rfl, rfl, ea, eb, hp, q⟩ := h
  obtain rfl : v = Value.ref a := rx
  obtain rfl : u = Value.ref b := ry
  obtain ⟨_, ya, va, ra, da⟩ := ea.ok I.hok
  obtain ⟨_, yb, vb, rb, db⟩ := eb.ok I.hok
  have e1 := ra.length
  have e2 := rb.length
  exact PySem.W.keq_eq (knd := mixKind X.prog X.w) (r := r) ya yb da db (by omega) (fun he => (hp (by omega)).run I hu rb ra) (fin_bl I q (by rw [← e1, ← e2]; rfl))
theorem op_neDD {X : Cx} (hu : X.A.units + 64 < cLine) : OpR X (compareOp .NotEq) (rEqDD X.K true) := by
  intro pins s σ H x y v u Q I rx ry h
  obtain ⟨a, b, ks, ls, r, rfl, rfl, ea, eb, hp, q⟩ := h
  obtain rfl : v = Value.ref a := rx
  obtain rfl : u = Value.ref b := ry
  obtain ⟨_, ya, va, ra, da⟩ := ea.ok I.hok
  obtain ⟨_, yb, vb, rb, db⟩ := eb.ok I.hok
  have e1 := ra.length
  have e2 := rb.length
  exact PySem.W.keq_ne (knd := mixKind X.prog X.w) (r := r) ya yb da db (by omega) (fun he => (hp (by omega)).run I hu rb ra) (fin_bl I q (by rw [← e1, ← e2]; rfl))
section
variable {G : GA} {c : Cf}
theorem dat_pdw0 : ∀ {xs : List (Key × V)} {ds : List (PyData × PyData)}, RpD G.K c xs ds → Paired (fun (p : Key × V) (q : PyData × W) => q.1 = keyD p.1 ∧ RW G c p.2 q.2) xs (ds.map fun p => (p.1, .d p.2))
  | _, _, .nil => .nil
  | _, _, .cons h r => .cons ⟨rfl, h⟩ (dat_pdw0 r)
theorem dictW_ok {w : W} {v : V} {kvs : List (PyData × W)} (k : c.ok G) (h : dictW c.ah w = some kvs) (rv : RW G c v w) : ∃ a xs, v = .ref a ∧ Rd c.H a (.dK xs) ∧ Paired (fun (p : Key × V) (q : PyData × W) => q.1 = keyD p.1 ∧ RW G c p.2 q.2) xs kvs := by
  cases w with
  | d x =>
    cases x with
    | dict ds =>
      cases h
      cases (show Rp G.K c v (.dict ds) from rv) with
      | dic l1 h1 r1 => exact ⟨_, _, rfl, h1, dat_pdw0 r1⟩
    | _ => cases h
  | r i =>
    simp only [dictW] at h
    split at h
    · rename_i ds e
      cases h
      obtain ⟨a, rfl, h1, xs, hx, rx⟩ := rRef k rv e
      exact ⟨a, xs, rfl, .inl hx, rx⟩
    · rename_i ds e
      cases h
      obtain ⟨a, rfl, h1, xs, od, hx, rx⟩ := rRef k rv e
      exact ⟨a, xs, rfl, .inr ⟨od, hx⟩, rx⟩
    · cases h
  | fn f => cases h
  | ex f => cases h
theorem eqGo_ok {xl : List (Key × V)} {ls : List (PyData × W)} (rl : Paired (fun (p : Key × V) (q : PyData × W) => q.1 = keyD p.1 ∧ RW G c p.2 q.2) xl ls) : ∀ {xk : List (Key × V)} {ks : List (PyData × W)} {r : Bool}, Paired (fun (p : Key × V) (q : PyData × W) => q.1 = keyD p.1 ∧ RW G c p.2 q.2) xk ks → eqGo ls ks = some r → HitsV G.K c.H xl xk r
  | _, _, r, .nil, h => by cases h; exact .nil
  | (j, v) :: xs, (d0, w) :: ds, r, .cons hh t, h => by
    obtain ⟨h1, h2⟩ := hh
    have h1 : d0 = keyD j := h1
    subst h1
    unfold eqGo at h
    split at h
    · cases h
    · rename_i kk hk
      have ek : kk = j := by
        cases j <;> simp [keyD, keyOf] at hk <;> exact hk.symm
      subst ek
      have q := pd_look (k := kk) rl
      split at h
      · rename_i hl
        cases h
        rw [hl] at q
        refine .miss ?_
        cases e : valV xl kk with
        | none => rfl
        | some z => rw [e] at q; exact q.elim
      · rename_i w' hl
        rw [hl] at q
        cases e : valV xl kk with
        | none => rw [e] at q; exact q.elim
        | some z =>
          rw [e] at q
          split at h
          · rename_i x y
            split at h
            · rename_i hc
              simp only [Bool.and_eq_true, decide_eq_true_eq] at hc
              obtain ⟨⟨c1, c2⟩, c3⟩ := hc
              obtain ⟨b, hb, rfl⟩ := Option.map_eq_some_iff.mp h
              exact .hit e (Rp.dp h2 (SeqAt.canLay_of_shaped c1)) (Rp.dp q (SeqAt.canLay_of_shaped c2)) c1 c2 c3 (eqGo_ok rl t hb)
            · cases h
          · cases h
theorem eqD_ok' {neg : Bool} {K : PySem.W.Frag} (hK : K = G.K) {x y : V} {a b : W} {Q : VK} {E : Str → Cf → Prop} (k : c.ok G) (rx : RW G c x a) (ry : RW G c y b) (h : Po G (cEqD neg a b c.ah) c (VQ G Q) E) : rEqDD K neg x y c.H Q := by
  unfold cEqD at h
  split at h
  · rename_i ks ls h1 h2
    obtain ⟨p, xk, rfl, g1, r1⟩ := dictW_ok k h1 rx
    obtain ⟨q, xl, rfl, g2, r2⟩ := dictW_ok k h2 ry
    have e1 := Paired.length r1
    have e2 := Paired.length r2
    split at h
    · rename_i r hr
      unfold dEqB at hr
      split at hr
      · rename_i he
        refine ⟨p, q, xk, xl, r, rfl, rfl, g1, g2, fun _ => by rw [hK]; exact eqGo_ok r2 r1 hr, ?_⟩
        rw [show (xk.length == xl.length) = true from by rw [e1, e2, he]; simp, Bool.true_and]
        exact h.here k _ (.bl _)
      · rename_i he
        cases hr
        refine ⟨p, q, xk, xl, false, rfl, rfl, g1, g2, fun hh => absurd (by rw [← e1, ← e2]; exact hh) he, ?_⟩
        rw [Bool.and_false]
        exact h.here k _ (.bl _)
    · exact h.elim
  · exact h.elim
end
/-! ### comparisons -/
def cEq (neg : Bool) (a b : W) : M W := fun h => match peek h a, peek h b with
  | some x, some y => if SeqAt.shaped x && SeqAt.shaped y then .ok (wB (if neg then !PyData.eqv x y else PyData.eqv x y)) h else cEqD neg a b h
  | _, _ => cEqD neg a b h
def cInt (p : Int → Int → Bool) (a b : W) : M W := fun h => match a, b with
  | .d (.int i), .d (.int j) => .ok (wB (p i j)) h
  | _, _ => .no
def cLe (a b : W) : M W := fun h => match a, b with
  | .d (.int i), .d (.int j) => .ok (wB (decide (i ≤ j))) h
  | .d (.str i), .d (.str j) => .ok (wB (!decide (j.cps.toList < i.cps.toList))) h
  | _, _ => .no
def flatD : PyData → Bool
  | .none | .bool _ | .int _ | .str _ => true
  | _ => false
def seqD : PyData → Option (List PyData)
  | .list ds => some ds
  | .tuple ds => some ds
  | _ => none
def inStr (x z : Str) : Bool := match x.cps.toList with
  | [c] => decide (c ∈ z.cps.toList)
  | _ => !(Builtin.Str.occurrences z x 0 z.length 1).isEmpty
def cIn (neg : Bool) (a b : W) : M W := fun h => match a, b with
  | .d (.str x), .d (.str z) => .ok (wB (if neg then !inStr x z else inStr x z)) h
  | .d x, b => (match (peek h b).bind seqD with
    | some ds => if flatD x && ds.all flatD then .ok (wB (if neg then !ds.any fun y => PyData.eqv y x else ds.any fun y => PyData.eqv y x)) h else .no
    | none => (match (keyOf x).bind (dictAt h b) with
      | some o => .ok (wB (if neg then !o.isSome else o.isSome)) h
      | none => (match (nkT x).bind (ndAt h b) with
        | some o => .ok (wB (if neg then !o.isSome else o.isSome)) h
        | none => .no)))
  | _, _ => .no
def cIs (neg : Bool) (a b : W) : M W := fun h => match a, b with
  | .d (.bool x), .d (.bool y) => .ok (wB (if neg then !decide (x = y) else decide (x = y))) h
  | .d .none, .d .none => .ok (wB (!neg)) h
  | .d .none, .d (.bool _) => .ok (wB neg) h
  | _, .d .none => .ok (wB neg) h
  | _, _ => .no
def cmp : CmpOp → W → W → M W
  | .Eq => cEq false
  | .NotEq => cEq true
  | .Lt => cInt fun i j => decide (i < j)
  | .LtE => cLe
  | .Gt => cInt fun i j => decide (j < i)
  | .GtE => cInt fun i j => decide (j ≤ i)
  | .In => cIn false
  | .NotIn => cIn true
  | .Is => cIs false
  | .IsNot => cIs true

section
variable {X : Cx} {G : GA} (hK : X.K = G.K)
theorem int_ok {f : Value → Value → Sem Value} {p : Int → Int → Bool} (h : OpR X f (rI0 fun i j => .bl (p i j))) : ∃ r, OpR X f r ∧ Op2 G (cInt p) r := by
  refine ⟨_, h, fun c x y a b Q E k rx ry h => ?_⟩
  unfold cInt at h
  split at h
  · rename_i i j
    rw [rInt rx, rInt ry]
    exact ⟨i, j, rfl, rfl, h.here k _ (.bl _)⟩
  · exact h.elim
theorem le_ok : ∃ r, OpR X (compareOp .LtE) r ∧ Op2 G cLe r := by
  refine ⟨_, op_le.or op_le_str, fun c x y a b Q E k rx ry h => ?_⟩
  unfold cLe at h
  split at h
  · rename_i i j
    rw [rInt rx, rInt ry]
    exact .inl ⟨i, j, rfl, rfl, h.here k _ (.bl _)⟩
  · rename_i i j
    rw [rStr rx, rStr ry]
    exact .inr ⟨i, j, rfl, rfl, h.here k _ (.bl _)⟩
  · exact h.elim
include hK in
theorem eq_ok (hu : X.A.units + 64 < cLine) : (∃ r, OpR X (compareOp .Eq) r ∧ Op2 G (cEq false) r) ∧ ∃ r, OpR X (compareOp .NotEq) r ∧ Op2 G (cEq true) r := by
  refine ⟨⟨_, (op_eqD hu).or (op_eqDD hu), fun c x y a b Q E k rx ry h => ?_⟩, ⟨_, (op_neD hu).or (op_neDD hu), fun c x y a b Q E k rx ry h => ?_⟩⟩
  all_goals
    unfold cEq at h
    split at h
    · rename_i d e h1 h2
      split at h
      · rename_i hs
        obtain ⟨hs1, hs2⟩ := Bool.and_eq_true_iff.mp hs
        refine .inl ⟨d, e, ?_, ?_, hs1, hs2, h.here k _ (.bl _)⟩
        · rw [hK]; exact peek_dp k rx h1 (SeqAt.canLay_of_shaped hs1)
        · rw [hK]; exact peek_dp k ry h2 (SeqAt.canLay_of_shaped hs2)
      · exact .inr (eqD_ok' hK k rx ry h)
    · exact .inr (eqD_ok' hK k rx ry h)
/-- flat data stand as flat values -/
theorem flat_rp {K : PySem.W.Frag} {c : Cf} {v : V} {d : PyData} (h : Rp K c v d) (f : flatD d = true) : flatV v = true := by
  cases h <;> first | rfl | cases f
theorem flat_eq {K : PySem.W.Frag} {c : Cf} {v u : V} {d e : PyData} (h : Rp K c v d) (h' : Rp K c u e) (f : flatD d = true) (f' : flatD e = true) : eqV v u = PyData.eqv d e := by
  cases h <;> first | (cases f; done) | (cases h' <;> first | (cases f'; done) | rfl | simp [eqV, PyData.eqv])
theorem flat_any {K : PySem.W.Frag} {c : Cf} {u : V} {e : PyData} (h' : Rp K c u e) (f' : flatD e = true) : ∀ {xs : List V} {ds : List PyData}, RpL K c xs ds → ds.all flatD = true → xs.all flatV = true ∧ inV u xs = ds.any fun y => PyData.eqv y e
  | _, _, .nil, _ => ⟨rfl, rfl⟩
  | _, _, .cons h r, f => by
    rw [List.all_cons, Bool.and_eq_true] at f
    obtain ⟨i1, i2⟩ := flat_any h' f' r f.2
    refine ⟨by rw [List.all_cons, flat_rp h f.1, i1]; rfl, ?_⟩
    show (eqV _ u || inV u _) = _
    rw [i2, flat_eq h h' f.1 f', List.any_cons]
theorem peek_seq {c : Cf} {w : W} {ds : List PyData} {v : V} (k : c.ok G) (r : RW G c v w) (h : (peek c.ah w).bind seqD = some ds) : ∃ p xs, v = .ref p ∧ (SqL G.K c.H p xs ∨ SqT G.K c.H p xs) ∧ RpL G.K c xs ds := by
  cases w with
  | d x =>
    cases x with
    | list es =>
      cases h
      obtain ⟨p, xs, h1, h2, h3⟩ := rLst r
      exact ⟨p, xs, h1, .inl h2, h3⟩
    | tuple es =>
      cases h
      obtain ⟨p, xs, h1, h2, h3⟩ := rTup r
      exact ⟨p, xs, h1, .inr h2, h3⟩
    | _ => cases h
  | r i =>
    simp only [peek] at h
    split at h
    · rename_i ws e
      obtain ⟨a, rfl, h1, xs, hx, rx⟩ := rRef k r e
      cases q : allD ws with
      | none => rw [q] at h; cases h
      | some es =>
        rw [q] at h
        cases h
        exact ⟨a, xs, rfl, .inl (.inl (.inl hx)), allD_ok q rx⟩
    · cases h
  | fn f => cases h
  | ex f => cases h
theorem inStr_sign {x z : Str} {c : Nat} (h : x.cps.toList = [c]) : x = ⟨#[c]⟩ := by
  obtain ⟨a⟩ := x
  congr 1
  exact Array.toList_inj.mp (by simpa using h)
theorem inStr_cases (x z : Str) : (∃ c, x = ⟨#[c]⟩ ∧ inStr x z = decide (c ∈ z.cps.toList)) ∨ inStr x z = !(Builtin.Str.occurrences z x 0 z.length 1).isEmpty := by
  unfold inStr
  split
  · rename_i c hc
    exact .inl ⟨c, inStr_sign (z := z) hc, rfl⟩
  · exact .inr rfl
theorem op_dIn (hu : X.A.units + 1 < cLine) : OpR X (compareOp .In) (fun x y H Q => ∃ a o, y = .ref a ∧ DGet H a x o ∧ Q (.bl o.isSome) H) := by
  intro pins s σ H x y v u Q I rx ry ⟨a, o, ey, g, q⟩
  subst ey
  cases (show u = Value.ref a from ry)
  exact d_in hu I g rx fun s' I' => ⟨.bl o.isSome, H, I', rfl, q⟩
theorem op_dNotIn (hu : X.A.units + 1 < cLine) : OpR X (compareOp .NotIn) (fun x y H Q => ∃ a o, y = .ref a ∧ DGet H a x o ∧ Q (.bl (!o.isSome)) H) := by
  intro pins s σ H x y v u Q I rx ry ⟨a, o, ey, g, q⟩
  subst ey
  cases (show u = Value.ref a from ry)
  exact d_notIn hu I g rx fun s' I' => ⟨.bl (!o.isSome), H, I', rfl, q⟩
theorem orel_some {α : Type} {P : V → α → Prop} {o : Option V} {r : Option α} (h : ORel P o r) : o.isSome = r.isSome := by
  cases o <;> cases r <;> first | rfl | exact h.elim
theorem bindK {x : PyData} {h : AH} {b : W} {o : Option W} (e : (keyOf x).bind (dictAt h b) = some o) : ∃ k, keyOf x = some k ∧ dictAt h b k = some o := by
  cases q : keyOf x with
  | none => rw [q] at e; cases e
  | some k => rw [q] at e; exact ⟨k, rfl, e⟩
include hK in
theorem in_ok (hw : X.w = G.w) (hu : X.A.units + 64 < cLine) : (∃ r, OpR X (compareOp .In) r ∧ Op2 G (cIn false) r) ∧ ∃ r, OpR X (compareOp .NotIn) r ∧ Op2 G (cIn true) r := by
  refine ⟨⟨_, op_in_sign.or (op_in_str.or (op_in_seq.or ((op_dIn (by omega)).or (op_inN hu)))), fun c x y a b Q E k rx ry h => ?_⟩, ⟨_, op_notIn_sign.or (op_notin_str.or (op_notIn_seq.or ((op_dNotIn (by omega)).or (op_notInN hu)))), fun c x y a b Q E k rx ry h => ?_⟩⟩
  all_goals
    unfold cIn at h
    split at h
    · rename_i s z
      rw [rStr rx, rStr ry]
      have hq := h.here k _ (.bl _)
      rcases inStr_cases s z with ⟨ch, e1, e2⟩ | e2
      · subst e1
        rw [e2] at hq
        exact .inl ⟨ch, z, rfl, rfl, hq⟩
      · rw [e2] at hq
        exact .inr (.inl ⟨s, z, rfl, rfl, hq⟩)
    · rename_i d b' _
      split at h
      · rename_i ds hds
        split at h
        · rename_i hf
          obtain ⟨f1, f2⟩ := Bool.and_eq_true_iff.mp hf
          obtain ⟨p, xs, rfl, hq, r⟩ := peek_seq k ry hds
          obtain ⟨g1, g2⟩ := flat_any rx f1 r f2
          refine .inr (.inr (.inl ⟨p, xs, rfl, by rw [hK]; exact hq, flat_rp rx f1, g1, ?_⟩))
          rw [g2]
          exact h.here k _ (.bl _)
        · exact h.elim
      · split at h
        · rename_i o ho
          obtain ⟨kk, hk1, hk2⟩ := bindK ho
          obtain ⟨p, o', rfl, hg, hr⟩ := dictAt_ok k hk2 ry
          rw [rKey rx hk1]
          refine .inr (.inr (.inr (.inl ⟨p, o', rfl, hg, ?_⟩)))
          rw [orel_some hr]
          exact h.here k _ (.bl _)
        · split at h
          · rename_i o ho
            obtain ⟨kk, hk1, hk2⟩ := Option.bind_eq_some_iff.mp ho
            obtain ⟨b', rfl, kh, _⟩ := key_rp rx hk1
            obtain ⟨p, xs, rfl, hg, hr⟩ := ndAt_ok k hk2 ry
            refine .inr (.inr (.inr (.inr ⟨p, b', kk, xs, rfl, rfl, by rw [hK, hw]; exact hg, by rw [hK]; exact kh, ?_⟩)))
            rw [orelN_some hr]
            exact h.here k _ (.bl _)
          · exact h.elim
    · exact h.elim
theorem not_non {c : Cf} {v : V} {w : W} (h : RW G c v w) (hn : w ≠ .d .none) : decide (v = .non) = false := by
  refine decide_eq_false fun e => ?_
  subst e
  cases w with
  | d x =>
    cases (show Rp G.K c .non x from h)
    exact hn rfl
  | r i => obtain ⟨a, e, _⟩ := h; cases e
  | fn f => obtain ⟨a, e, _⟩ := h; cases e
  | ex f => obtain ⟨a, C, e, _⟩ := h; cases e
theorem op_isNB : OpR X (compareOp .Is) (fun x y H Q => ∃ b : Bool, x = .non ∧ y = .bl b ∧ Q (.bl false) H) := by
  intro pins s σ H x y v u Q I rx ry ⟨b, ex, ey, q⟩
  subst ex ey
  cases (show v = Value.none from rx)
  cases (show u = Value.bool b from ry)
  exact wpAny_is_other rfl (fun z => nomatch z) ⟨.bl false, H, I, rfl, q⟩
theorem op_notNB : OpR X (compareOp .IsNot) (fun x y H Q => ∃ b : Bool, x = .non ∧ y = .bl b ∧ Q (.bl true) H) := by
  intro pins s σ H x y v u Q I rx ry ⟨b, ex, ey, q⟩
  subst ex ey
  cases (show v = Value.none from rx)
  cases (show u = Value.bool b from ry)
  exact wpAny_isNot_other rfl (fun z => nomatch z) ⟨.bl true, H, I, rfl, q⟩
theorem is_ok : (∃ r, OpR X (compareOp .Is) r ∧ Op2 G (cIs false) r) ∧ ∃ r, OpR X (compareOp .IsNot) r ∧ Op2 G (cIs true) r := by
  refine ⟨⟨_, op_isBl.or (op_isN.or op_isNB), fun c x y a b Q E k rx ry h => ?_⟩, ⟨_, op_notBl.or (op_notN.or op_notNB), fun c x y a b Q E k rx ry h => ?_⟩⟩
  all_goals
    unfold cIs at h
    split at h
    · rename_i i j
      rw [rBool rx, rBool ry]
      exact .inl ⟨i, j, rfl, rfl, h.here k _ (.bl _)⟩
    · rw [rNon rx, rNon ry]
      exact .inr (.inl ⟨rfl, h.here k _ (.bl _)⟩)
    · rw [rNon rx, rBool ry]
      exact .inr (.inr ⟨_, rfl, rfl, h.here k _ (.bl _)⟩)
    · rename_i hn1
      rw [rNon ry]
      refine .inr (.inl ⟨rfl, ?_⟩)
      rw [not_non rx (by intro e; exact hn1 e)]
      exact h.here k _ (.bl _)
    · exact h.elim
include hK in
theorem cmp_ok (hw : X.w = G.w) (hu : X.A.units + 64 < cLine) (op : CmpOp) : ∃ r, OpR X (compareOp op) r ∧ Op2 G (cmp op) r := by
  cases op with
  | Eq => exact (eq_ok hK hu).1
  | NotEq => exact (eq_ok hK hu).2
  | Lt => exact int_ok op_lt
  | LtE => exact le_ok
  | Gt => exact int_ok op_gt
  | GtE => exact int_ok op_ge
  | In => exact (in_ok hK hw hu).1
  | NotIn => exact (in_ok hK hw hu).2
  | Is => exact is_ok.1
  | IsNot => exact is_ok.2
end
end Ev
set_option Elab.async false
set_option linter.all false
set_option maxRecDepth 100000
set_option maxHeartbeats 2000000
/-! E5: expressions of parts: comparisons, and, or, not, if, displays, subscripts. -/
namespace Ev
open PySem PySem.Spec PyProof.Rows L2

def noSet : Expr → Bool
  | .Set .. => false
  | _ => true
theorem noSet_ok {b : Expr} (h : noSet b = true) (op : CmpOp) : behindInMarks op b = false := by
  cases b <;> first | rfl | cases h
def eCmp (op : CmpOp) (a b : ME) : ME := fun env => mbind (a env) fun x => mbind (b env) fun y => cmp op x y
def asB (w : W) : M Bool := match w with
  | .d (.bool b) => mpure b
  | _ => mno
def eCmp2 (op op' : CmpOp) (a b c : ME) : ME := fun env => mbind (a env) fun x => mbind (b env) fun y => mbind (cmp op x y) fun z => mbind (asB z) fun t => if t then mbind (c env) fun w => cmp op' y w else mpure (wB false)
def tst (m : ME) : EnvW → M Bool := fun env => mbind (m env) asB
def eAnd (a : ME) (r : ME) : ME := fun env => mbind (tst a env) fun t => if t then r env else mpure (wB false)
def eOr (a : ME) (r : ME) : ME := fun env => mbind (tst a env) fun t => if t then mpure (wB true) else r env
def eNot (a : ME) : ME := fun env => mbind (tst a env) fun t => mpure (wB (!t))
def eNeg (a : ME) : ME := fun env => mbind (a env) fun x => match x with
  | .d (.int i) => mpure (wI (-i))
  | _ => mno
def eIf (t : EnvW → M Bool) (a b : ME) : ME := fun env => mbind (t env) fun c => if c then a env else b env
def tAndM (a r : EnvW → M Bool) : EnvW → M Bool := fun env => mbind (a env) fun t => if t then r env else mpure false
def tOrM (a r : EnvW → M Bool) : EnvW → M Bool := fun env => mbind (a env) fun t => if t then mpure true else r env
def tNotM (a : EnvW → M Bool) : EnvW → M Bool := fun env => mbind (a env) fun t => mpure (!t)

section
variable {T : Tb} {G : GA} {CM : FId → List W → M W} {k : Nat} {sc : Sc} {a b c e : Expr} {ma mb mc : ME} {pos : Pos}
theorem asB_po {w : W} {c1 : Cf} {β : Type} {f : Bool → M β} {F : β → Cf → Prop} {E : Str → Cf → Prop} {v : V} (ok : c1.ok G) (r : RW G c1 v w) (h : Po G (mbind (asB w) f c1.ah) c1 F E) : ∃ t, v = .bl t ∧ Po G (f t c1.ah) c1 F E := by
  unfold asB at h
  split at h
  · rename_i b
    exact ⟨b, rBool r, Po.here (a := b) (Po.bind h) ok⟩
  · exact h.elim
theorem se_cmp {op : CmpOp} (ha : SE T G CM k sc a ma) (hb : SE T G CM k sc b mb) (hn : noSet b = true) : SE T G CM k sc (.Compare a [op] [b] pos) (eCmp op ma mb) := fun X Wx F => by
  obtain ⟨r, h1, h2⟩ := cmp_ok (X := X) (G := G) F.K F.wd F.room.units op
  refine PE.imp (pe_cmpR h1 (ha X Wx F) (hb X Wx F) (noSet_ok hn op)) fun σ H Q ⟨c, env, e, ok, re, q⟩ => ?_
  subst e
  refine tE.step ok re q fun w c1 v e1 ok1 re1 rv q1 => tE.step ok1 re1 q1 fun w2 c2 v2 e2 ok2 re2 rv2 q2 => ?_
  exact h2 c2 v v2 w w2 Q _ ok2 (RW.mono e2 rv) rv2 q2
theorem se_cmp2 {op op' : CmpOp} (ha : SE T G CM k sc a ma) (hb : SE T G CM k sc b mb) (hc : SE T G CM k sc c mc) (hn : noSet c = true) : SE T G CM k sc (.Compare a [op, op'] [b, c] pos) (eCmp2 op op' ma mb mc) := fun X Wx F => by
  obtain ⟨r, h1, h2⟩ := cmp_ok (X := X) (G := G) F.K F.wd F.room.units op
  obtain ⟨r', h1', h2'⟩ := cmp_ok (X := X) (G := G) F.K F.wd F.room.units op'
  refine PE.imp (pe_chain h1 h1' (ha X Wx F) (hb X Wx F) (hc X Wx F) (by show behindInMarks op' c = false; exact noSet_ok hn op')) fun σ H Q ⟨c, env, e, ok, re, q⟩ => ?_
  subst e
  refine tE.step ok re q fun w c1 v e1 ok1 re1 rv q1 => tE.step ok1 re1 q1 fun w2 c2 v2 e2 ok2 re2 rv2 q2 => ?_
  refine h2 c2 v v2 w w2 _ _ ok2 (RW.mono e2 rv) rv2 (Po.mono (Po.bind q2) (fun z c3 e3 ok3 q3 v3 rv3 => ?_) fun _ _ _ _ q => q)
  obtain ⟨t, rfl, q4⟩ := asB_po ok3 rv3 q3
  refine ⟨t, rfl, ?_⟩
  cases t with
  | true =>
    refine iteT (tE.step ok3 (re2.mono e3) q4 fun w4 c4 v4 e4 ok4 re4 rv4 q5 => ?_)
    exact h2' c4 v2 v4 w2 w4 Q _ ok4 (RW.mono e4 (RW.mono e3 rv2)) rv4 q5
  | false => exact iteF (Po.here (a := wB false) q4 ok3 _ (.bl false))
/-- the value of a part as a bool -/
theorem tB_of {X : Cx} {Wx : WX} {σ : L2.St} {m : ME} {c : Cf} {env : EnvW} {β : Type} {f : Bool → M β} {F : β → Cf → Prop} {R : V → Hp → Prop} (ok : c.ok G) (re : EnvR G c env σ)
    (q : Po G (mbind (tst m env) f c.ah) c F (fun e c' => WEx G Wx e σ c'.H))
    (n : ∀ t c1, c.ext c1 → c1.ok G → EnvR G c1 env σ → Po G (f t c1.ah) c1 F (fun e c' => WEx G Wx e σ c'.H) → R (.bl t) c1.H) : tE G Wx m σ c.H R := by
  refine ⟨c, env, rfl, ok, re, ?_⟩
  have q1 := Po.bind q
  unfold tst at q1
  refine Po.mono (Po.bind q1) (fun w c1 e1 ok1 q2 v rv => ?_) fun _ _ _ _ q => q
  unfold asB at q2
  split at q2
  · rename_i b
    rw [rBool rv]
    exact n b c1 e1 ok1 (re.mono e1) (Po.here (a := b) q2 ok1)
  · exact q2.elim
theorem se_one {op : BoolOp} (ha : SE T G CM k sc a ma) : SE T G CM k sc (.BoolOp op [a] pos) ma := fun X Wx F => pe_one (ha X Wx F)
theorem se_and {rest : List Expr} (ha : SE T G CM k sc a ma) (hb : SE T G CM k sc (.BoolOp .And (b :: rest) pos) mb) : SE T G CM k sc (.BoolOp .And (a :: b :: rest) pos) (eAnd ma mb) := fun X Wx F => by
  refine PE.imp (pe_and (ha X Wx F) (hb X Wx F)) fun σ H Q ⟨c, env, e, ok, re, q⟩ => ?_
  subst e
  refine tB_of (X := X) (R := fun x H1 => ∃ c, x = .bl c ∧ if c = true then tE G Wx mb σ H1 Q else Q (.bl false) H1) ok re q fun t c1 e1 ok1 re1 q1 => ⟨t, rfl, ?_⟩
  cases t with
  | true => exact ⟨c1, env, rfl, ok1, re1, q1⟩
  | false => exact Po.here (a := wB false) q1 ok1 _ (.bl false)
theorem se_or {rest : List Expr} (ha : SE T G CM k sc a ma) (hb : SE T G CM k sc (.BoolOp .Or (b :: rest) pos) mb) : SE T G CM k sc (.BoolOp .Or (a :: b :: rest) pos) (eOr ma mb) := fun X Wx F => by
  refine PE.imp (pe_or (ha X Wx F) (hb X Wx F)) fun σ H Q ⟨c, env, e, ok, re, q⟩ => ?_
  subst e
  refine tB_of (X := X) (R := fun x H1 => ∃ c, x = .bl c ∧ if c = true then Q (.bl true) H1 else tE G Wx mb σ H1 Q) ok re q fun t c1 e1 ok1 re1 q1 => ⟨t, rfl, ?_⟩
  cases t with
  | true => exact Po.here (a := wB true) q1 ok1 _ (.bl true)
  | false => exact ⟨c1, env, rfl, ok1, re1, q1⟩
theorem se_not (ha : SE T G CM k sc a ma) : SE T G CM k sc (.UnaryOp .Not a pos) (eNot ma) := fun X Wx F => by
  refine PE.imp (pe_not (ha X Wx F)) fun σ H Q ⟨c, env, e, ok, re, q⟩ => ?_
  subst e
  exact tB_of (X := X) (R := fun x H1 => ∃ c, x = .bl c ∧ Q (.bl (!c)) H1) ok re q fun t c1 e1 ok1 re1 q1 => ⟨t, rfl, Po.here (a := wB (!t)) q1 ok1 _ (.bl _)⟩
theorem se_neg (ha : SE T G CM k sc a ma) : SE T G CM k sc (.UnaryOp .USub a pos) (eNeg ma) := fun X Wx F => by
  refine PE.imp (pe_un un_neg (ha X Wx F)) fun σ H Q ⟨c, env, e, ok, re, q⟩ => ?_
  subst e
  refine tE.step ok re q fun w c1 v e1 ok1 re1 rv q1 => ?_
  split at q1
  · rename_i i
    exact ⟨i, rInt rv, Po.here (a := wI (-i)) q1 ok1 _ (.int _)⟩
  · exact q1.elim
theorem se_if {mt : EnvW → M Bool} (ht : ST T G CM k sc c mt) (ha : SE T G CM k sc a ma) (hb : SE T G CM k sc b mb) : SE T G CM k sc (.IfExp c a b pos) (eIf mt ma mb) := fun X Wx F => by
  refine PE.imp (pe_ifExp (ht X Wx F) (ha X Wx F) (hb X Wx F)) fun σ H Q ⟨c, env, e, ok, re, q⟩ => ?_
  subst e
  refine tT.step ok re q fun t c1 e1 ok1 re1 q1 => ?_
  cases t with
  | true => exact ⟨c1, env, rfl, ok1, re1, q1⟩
  | false => exact ⟨c1, env, rfl, ok1, re1, q1⟩

/-! ### tests -/
theorem st_no : ST T G CM k sc e (fun _ => mno) := fun X Wx F => ⟨fun p s σ H Q I ⟨c, env, _, _, _, h⟩ => h.elim⟩
theorem tst_imp {X : Cx} {Wx : WX} {m : ME} {σ : L2.St} {H : Hp} {Q : Bool → Hp → Prop} (h : tT G Wx (tst m) σ H Q) : tE G Wx m σ H fun x H1 => ∃ c, x = .bl c ∧ Q c H1 := by
  obtain ⟨c, env, e, ok, re, q⟩ := h
  subst e
  refine ⟨c, env, rfl, ok, re, Po.mono (Po.bind q) (fun w c1 e1 ok1 q2 v rv => ?_) fun _ _ _ _ q => q⟩
  unfold asB at q2
  split at q2
  · rename_i b
    exact ⟨b, rBool rv, Po.here (a := b) q2 ok1⟩
  · exact q2.elim
theorem st_val (h : SE T G CM k sc e ma) (he : ∀ env whole, isTrue e env whole = (do let v ← whole; standAt e.pos; holding [v] (truthy v))) : ST T G CM k sc e (tst ma) := fun X Wx F =>
  PT.imp (pt_val (h X Wx F) (he _)) fun σ H Q q => tst_imp (X := X) q
theorem st_cmp {op : CmpOp} (ha : SE T G CM k sc a ma) (hb : SE T G CM k sc b mb) (hn : noSet b = true) : ST T G CM k sc (.Compare a [op] [b] pos) (tst (eCmp op ma mb)) := fun X Wx F => by
  obtain ⟨r, h1, h2⟩ := cmp_ok (X := X) (G := G) F.K F.wd F.room.units op
  refine PT.imp (pt_cmpR h1 (ha X Wx F) (hb X Wx F) (noSet_ok hn op)) fun σ H Q q0 => ?_
  obtain ⟨c, env, e, ok, re, q⟩ := tst_imp (X := X) q0
  subst e
  show tE G Wx ma σ c.H fun x H1 => tE G Wx mb σ H1 fun y H2 => r x y H2 fun z H3 => ∃ k, z = .bl k ∧ Q k H3
  refine tE.step ok re q fun w c1 v e1 ok1 re1 rv q1 => tE.step ok1 re1 q1 fun w2 c2 v2 e2 ok2 re2 rv2 q2 => ?_
  exact h2 c2 v v2 w w2 _ _ ok2 (RW.mono e2 rv) rv2 q2
theorem st_cmp2 {op op' : CmpOp} (ha : SE T G CM k sc a ma) (hb : SE T G CM k sc b mb) (hc : SE T G CM k sc c mc) (hn : noSet c = true) : ST T G CM k sc (.Compare a [op, op'] [b, c] pos) (tst (eCmp2 op op' ma mb mc)) := fun X Wx F => by
  obtain ⟨r, h1, h2⟩ := cmp_ok (X := X) (G := G) F.K F.wd F.room.units op
  obtain ⟨r', h1', h2'⟩ := cmp_ok (X := X) (G := G) F.K F.wd F.room.units op'
  refine PT.imp (pt_chain h1 h1' (ha X Wx F) (hb X Wx F) (hc X Wx F) (by show behindInMarks op' c = false; exact noSet_ok hn op')) fun σ H Q q0 => ?_
  obtain ⟨c, env, e, ok, re, q⟩ := tst_imp (X := X) q0
  subst e
  show tE G Wx ma σ c.H fun x H1 => tE G Wx mb σ H1 fun y H2 => r x y H2 fun z H3 => ∃ k, z = .bl k ∧ (if k = true then tE G Wx mc σ H3 fun w' H4 => r' y w' H4 (fun x H' => ∃ k, x = .bl k ∧ Q k H') else ∃ k, V.bl false = .bl k ∧ Q k H3)
  refine tE.step ok re q fun w c1 v e1 ok1 re1 rv q1 => tE.step ok1 re1 q1 fun w2 c2 v2 e2 ok2 re2 rv2 q2 => ?_
  refine h2 c2 v v2 w w2 _ _ ok2 (RW.mono e2 rv) rv2 (Po.mono (Po.bind q2) (fun z c3 e3 ok3 q3 v3 rv3 => ?_) fun _ _ _ _ q => q)
  obtain ⟨t, rfl, q4⟩ := asB_po ok3 rv3 q3
  refine ⟨t, rfl, ?_⟩
  cases t with
  | true =>
    refine iteT (tE.step ok3 (re2.mono e3) q4 fun w4 c4 v4 e4 ok4 re4 rv4 q5 => ?_)
    exact h2' c4 v2 v4 w2 w4 _ _ ok4 (RW.mono e4 (RW.mono e3 rv2)) rv4 q5
  | false => exact iteF (Po.here (a := wB false) q4 ok3 _ (.bl false))
def SW (T : Tb) (G : GA) (CM : FId → List W → M W) (k : Nat) (sc : Sc) (e : Expr) (m : EnvW → M Bool) : Prop := ∀ X Wx, Fits T G CM k X sc Wx → PW X e (tT G Wx m)
theorem PW.imp {X : Cx} {e : Expr} {t t' : TT} (h : PW X e t) (i : ∀ σ H Q, t' σ H Q → t σ H Q) : PW X e t' := ⟨fun wh p s σ H Q I q => h.run wh p s σ H Q I (i _ _ _ q)⟩
variable {mt mu : EnvW → M Bool} {rest : List Expr}
theorem sw_and1 (ha : ST T G CM k sc a mt) : SW T G CM k sc (.BoolOp .And [a] pos) mt := fun X Wx F => pw_and1 (ha X Wx F)
theorem sw_or1 (ha : ST T G CM k sc a mt) : SW T G CM k sc (.BoolOp .Or [a] pos) mt := fun X Wx F => pw_or1 (ha X Wx F)
theorem sw_and (ha : ST T G CM k sc a mt) (hb : SW T G CM k sc (.BoolOp .And (b :: rest) pos) mu) : SW T G CM k sc (.BoolOp .And (a :: b :: rest) pos) (tAndM mt mu) := fun X Wx F => by
  refine PW.imp (pw_and (ha X Wx F) (hb X Wx F)) fun σ H Q ⟨c, env, e, ok, re, q⟩ => ?_
  subst e
  refine tT.step ok re q fun t c1 e1 ok1 re1 q1 => ?_
  cases t with
  | true => exact ⟨c1, env, rfl, ok1, re1, q1⟩
  | false => exact Po.here (a := false) q1 ok1
theorem sw_or (ha : ST T G CM k sc a mt) (hb : SW T G CM k sc (.BoolOp .Or (b :: rest) pos) mu) : SW T G CM k sc (.BoolOp .Or (a :: b :: rest) pos) (tOrM mt mu) := fun X Wx F => by
  refine PW.imp (pw_or (ha X Wx F) (hb X Wx F)) fun σ H Q ⟨c, env, e, ok, re, q⟩ => ?_
  subst e
  refine tT.step ok re q fun t c1 e1 ok1 re1 q1 => ?_
  cases t with
  | true => exact Po.here (a := true) q1 ok1
  | false => exact ⟨c1, env, rfl, ok1, re1, q1⟩
theorem st_w (h : SW T G CM k sc e mt) : ST T G CM k sc e mt := fun X Wx F => (h X Wx F).pt
theorem st_not (ha : ST T G CM k sc a mt) : ST T G CM k sc (.UnaryOp .Not a pos) (tNotM mt) := fun X Wx F => by
  refine PT.imp (pt_not (ha X Wx F)) fun σ H Q ⟨c, env, e, ok, re, q⟩ => ?_
  subst e
  exact tT.step ok re q fun t c1 e1 ok1 re1 q1 => Po.here (a := !t) q1 ok1

/-! ### argument lists, displays -/
def noStar : Expr → Bool
  | .Starred .. => false
  | _ => true
theorem noStar_each {e : Expr} (h : noStar e = true) (es : List Expr) (env : Env) : starEach (e :: es) env = (false, eval e env) :: starEach es env := by
  cases e <;> first | rfl | cases h
theorem noStar_any {es : List Expr} (h : es.all noStar = true) (pos : Pos) (env : Env) : (backTo pos (starEach es env)).any (·.1) = false := by
  induction es with
  | nil => rfl
  | cons e es ih =>
    rw [List.all_cons, Bool.and_eq_true] at h
    rw [noStar_each h.1]
    show (false || (backTo pos (starEach es env)).any (·.1)) = false
    rw [ih h.2]; rfl
def aNil : EnvW → M (List W) := fun _ => mpure []
def aCons (a : ME) (r : EnvW → M (List W)) : EnvW → M (List W) := fun env => mbind (a env) fun x => mbind (r env) fun xs => mpure (x :: xs)
def aList : List ME → EnvW → M (List W)
  | [] => aNil
  | m :: ms => aCons m (aList ms)
theorem sa_nil : SA T G CM k sc [] aNil := fun X Wx F => PA.imp pa_nil fun σ H Q ⟨c, env, e, ok, re, q⟩ => by
  subst e
  exact Po.here (a := ([] : List W)) q ok [] .nil
theorem sa_cons {es : List Expr} {mr : EnvW → M (List W)} (ha : SE T G CM k sc a ma) (hr : SA T G CM k sc es mr) (hn : noStar a = true) : SA T G CM k sc (a :: es) (aCons ma mr) := fun X Wx F => by
  refine PA.imp (pa_cons (ha X Wx F) (hr X Wx F) (noStar_each hn es X.env)) fun σ H Q ⟨c, env, e, ok, re, q⟩ => ?_
  subst e
  refine tE.step ok re q fun w c1 v e1 ok1 re1 rv q1 => tA.step ok1 re1 q1 fun ws c2 vs e2 ok2 re2 rvs q2 => ?_
  exact Po.here (a := w :: ws) q2 ok2 _ (.cons (RW.mono e2 rv) rvs)
theorem sa_list {P : Expr → ME} (hP : ∀ e, SE T G CM k sc e (P e)) : ∀ {es : List Expr}, es.all noStar = true → SA T G CM k sc es (aList (es.map P))
  | [], _ => sa_nil
  | e :: es, h => by
    rw [List.all_cons, Bool.and_eq_true] at h
    exact sa_cons (hP e) (sa_list hP h.2) h.1
def eTup (a : EnvW → M (List W)) : ME := fun env => mbind (a env) fun ws => match allD ws with
  | some ds => if ds.length ≤ sizeLine then mpure (.d (.tuple ds)) else mno
  | none => if ws.length ≤ sizeLine then fun h => .ok (.r h.length) (h ++ [.tup ws]) else mno
def eLst (a : EnvW → M (List W)) : ME := fun env => mbind (a env) fun ws => if ws.length ≤ sizeLine then fun h => .ok (.r h.length) (h ++ [.lst ws]) else mno
theorem se_tup {es : List Expr} {mr : EnvW → M (List W)} {x1 : Nat} (hr : SA T G CM k sc es mr) : SE T G CM k sc (.Tuple es x1 pos) (eTup mr) := fun X Wx F => by
  refine PE.imp (pe_tup (hr X Wx F)) fun σ H Q ⟨c, env, e, ok, re, q⟩ => ?_
  subst e
  refine tA.step ok re q fun ws c1 vs e1 ok1 re1 rvs q1 => ?_
  cases hd : allD ws with
  | none =>
    simp only [hd] at q1
    by_cases hz : ws.length ≤ sizeLine
    · rw [if_pos hz] at q1
      exact ⟨by rw [Paired.length rvs]; exact hz, fun p hp => new_tupW ok1 rvs hp q1⟩
    · rw [if_neg hz] at q1
      exact q1.elim
  | some ds =>
    simp only [hd] at q1
    by_cases hz : ds.length ≤ sizeLine
    · rw [if_pos hz] at q1
      have r := allD_ok hd rvs
      exact ⟨by rw [r.length]; exact hz, fun p hp => new_tup ok1 r hp q1⟩
    · rw [if_neg hz] at q1
      exact q1.elim
theorem se_lst {es : List Expr} {mr : EnvW → M (List W)} (hr : SA T G CM k sc es mr) : SE T G CM k sc (.List es pos) (eLst mr) := fun X Wx F => by
  refine PE.imp (pe_lst (hr X Wx F)) fun σ H Q ⟨c, env, e, ok, re, q⟩ => ?_
  subst e
  refine tA.step ok re q fun ws c1 vs e1 ok1 re1 rvs q1 => ?_
  split at q1
  · rename_i hz
    exact ⟨by rw [Paired.length rvs]; exact hz, fun p hp => new_list ok1 rvs hp q1⟩
  · exact q1.elim
end
end Ev
set_option Elab.async false
set_option linter.all false
set_option maxRecDepth 100000
set_option maxHeartbeats 2000000
/-! E6: subscripts, slices, f-strings, built-in functions. -/
namespace Ev
open PySem PySem.Spec PyProof.Rows L2

/-! ### subscripts -/
def plainIx : Expr → Bool
  | .Slice .. => false
  | _ => true
theorem plainIx_ok {b : Expr} (h : plainIx b = true) : PlainIx b := fun o i => by
  cases b <;> first | rfl | cases h
def ixM (o i : W) : M W := fun h => match o, i with
  | .d (.str z), .d (.int n) => (match atI z.cps.toList n with
    | some c => if z.length ≤ sizeLine then .ok (wS ⟨#[c]⟩) h else .no
    | none => .no)
  | .d (.tuple ds), .d (.int n) => (match atI ds n with
    | some d => .ok (.d d) h
    | none => .no)
  | .d (.list ds), .d (.int n) => (match atI ds n with
    | some d => .ok (.d d) h
    | none => .no)
  | .r j, .d (.int n) => (match h[j]? with
    | some (.lst ws) => (match atI ws n with
      | some d => .ok d h
      | none => .no)
    | some (.dic ws) => (match lookD (.inl n) ws with
      | some d => .ok d h
      | none => .no)
    | some (.rod ws) => (match lookD (.inl n) ws with
      | some d => .ok d h
      | none => .no)
    | _ => .no)
  | o, .d key => (match (keyOf key).bind (dictAt h o) with
    | some (some d) => .ok d h
    | _ => (match (nkT key).bind (ndAt h o) with
      | some (some d) => .ok d h
      | _ => .no))
  | _, _ => .no
theorem atI_len {α β : Type} {xs : List α} {ys : List β} (h : xs.length = ys.length) (i : Int) : atI xs i = (ixN ys.length i).bind fun j => xs[j]? := by
  unfold atI; rw [h]
theorem atI_rel {α : Type} {P : V → α → Prop} {xs : List V} {ds : List α} {i : Int} {d : α} (hl : xs.length = ds.length) (hg : ∀ (j : Nat) (d : α), ds[j]? = some d → ∃ v, xs[j]? = some v ∧ P v d) (h : atI ds i = some d) : ∃ v, atI xs i = some v ∧ P v d := by
  unfold atI at h
  cases q : ixN ds.length i with
  | none => rw [q] at h; cases h
  | some j =>
    rw [q] at h
    obtain ⟨v, h1, h2⟩ := hg j d h
    exact ⟨v, by unfold atI; rw [hl, q]; exact h1, h2⟩
theorem ix_dict {X : Cx} (hu : X.A.units + 1 < cLine) : IxR X (fun x y H Q => ∃ a v, x = .ref a ∧ DGet H a y (some v) ∧ Q v H) := by
  intro value slice pins s σ H x y v u Q I rx ry q hs
  obtain ⟨a, v', rfl, g, q⟩ := q
  cases rx
  exact tail_any (dict_typeIs I g) PySem.F.slot_dict_getitem.lookup (d_getItem hu I g ry fun w' s3 I3 rw' => ⟨v', H, I3, rw', q⟩) hs
theorem ixM_ok {X : Cx} {G : GA} (hK : X.K = G.K) (hw : X.w = G.w) (hu' : X.A.units + 64 < cLine) (hu : X.A.units + 1 < cLine) : ∃ r, IxR X r ∧ Op2 G ixM r := by
  refine ⟨_, ix_seq.or ((ix_dict hu).or (ix_N hu')), fun c x y a b Q E k rx ry h => ?_⟩
  unfold ixM at h
  split at h
  · rename_i z n
    rw [rStr rx, rInt ry]
    split at h
    · rename_i ch hc
      split at h
      · rename_i hz
        exact .inl (.inr (.inr ⟨z, n, ch, rfl, rfl, hz, hc, h.here k _ (.str _)⟩))
      · exact h.elim
    · exact h.elim
  · rename_i ds n
    rw [rInt ry]
    obtain ⟨p, xs, rfl, h1, r1⟩ := rTup rx
    split at h
    · rename_i d hd
      obtain ⟨v, hv, rv⟩ := atI_rel (P := Rp G.K c) r1.length (fun j d q => r1.get q) hd
      exact .inl (.inr (.inl ⟨p, xs, n, v, rfl, rfl, by rw [hK]; exact h1, hv, h.here k _ rv⟩))
    · exact h.elim
  · rename_i ds n
    rw [rInt ry]
    obtain ⟨p, xs, rfl, h1, r1⟩ := rLst rx
    split at h
    · rename_i d hd
      obtain ⟨v, hv, rv⟩ := atI_rel (P := Rp G.K c) r1.length (fun j d q => r1.get q) hd
      exact .inl (.inl ⟨p, xs, n, v, rfl, rfl, by rw [hK]; exact h1, hv, h.here k _ rv⟩)
    · exact h.elim
  · rename_i j n
    rw [rInt ry]
    split at h
    · rename_i ws e
      obtain ⟨p, rfl, h1, xs, hx, r1⟩ := rRef k rx e
      split at h
      · rename_i d hd
        obtain ⟨v, hv, rv⟩ := atI_rel (P := RW G c) (Paired.length r1) (fun j d q => RWL.get r1 q) hd
        exact .inl (.inl ⟨p, xs, n, v, rfl, rfl, .inl (.inl hx), hv, h.here k _ rv⟩)
      · exact h.elim
    · rename_i ws e
      split at h
      · rename_i d hd
        have hd' : dictAt c.ah (.r j) (.inl n) = some (some d) := by
          simp only [dictAt, e, hd]
        obtain ⟨p, v, rfl, g, rv⟩ := dictAt_some k hd' rx
        exact .inr (.inl ⟨p, v, rfl, g, h.here k _ rv⟩)
      · exact h.elim
    · rename_i ws e
      split at h
      · rename_i d hd
        have hd' : dictAt c.ah (.r j) (.inl n) = some (some d) := by
          simp only [dictAt, e, hd]
        obtain ⟨p, v, rfl, g, rv⟩ := dictAt_some k hd' rx
        exact .inr (.inl ⟨p, v, rfl, g, h.here k _ rv⟩)
      · exact h.elim
    · exact h.elim
  · rename_i key _ _ _ _
    split at h
    · rename_i d hd
      cases hk : keyOf key with
      | none => rw [hk] at hd; cases hd
      | some kk =>
        rw [hk] at hd
        obtain ⟨p, v, rfl, g, rv⟩ := dictAt_some k hd rx
        rw [rKey ry hk]
        exact .inr (.inl ⟨p, v, rfl, g, h.here k _ rv⟩)
    · split at h
      · rename_i d hd
        obtain ⟨kk, hk1, hk2⟩ := Option.bind_eq_some_iff.mp hd
        obtain ⟨b', rfl, kh, _⟩ := key_rp ry hk1
        obtain ⟨p, xs, rfl, hg, hr⟩ := ndAt_ok k hk2 rx
        cases q : atKey xs kk with
        | none => rw [q] at hr; exact hr.elim
        | some z =>
          rw [q] at hr
          obtain ⟨v, rv, rw'⟩ := hr
          exact .inr (.inr ⟨p, b', kk, xs, z, v, rfl, rfl, by rw [hK, hw]; exact hg, by rw [hK]; exact kh, q, rv, h.here k _ rw'⟩)
      · exact h.elim
  · exact h.elim
def eIx (a b : ME) : ME := fun env => mbind (a env) fun x => mbind (b env) fun y => ixM x y

/-! ### slices -/
def cutL {α : Type} (xs : List α) (lo hi : Option Int) : List α := (xs.drop (HT.sIx xs.length 0 lo)).take (HT.sIx xs.length xs.length hi - HT.sIx xs.length 0 lo)
theorem cutL_rp {K : PySem.W.Frag} {c : Cf} {xs : List V} {ds : List PyData} (h : RpL K c xs ds) (lo hi : Option Int) : RpL K c (cutV xs lo hi) (cutL ds lo hi) := by
  unfold cutV cutL
  rw [h.length]
  exact (h.drop _).take _
theorem Paired.dropP {α β : Type} {P : α → β → Prop} : ∀ {xs : List α} {ys : List β} (n : Nat), Paired P xs ys → Paired P (xs.drop n) (ys.drop n)
  | _, _, 0, r => r
  | _, _, _ + 1, .nil => .nil
  | _, _, n + 1, .cons _ r => Paired.dropP n r
theorem Paired.takeP {α β : Type} {P : α → β → Prop} : ∀ {xs : List α} {ys : List β} (n : Nat), Paired P xs ys → Paired P (xs.take n) (ys.take n)
  | _, _, 0, _ => .nil
  | _, _, _ + 1, .nil => .nil
  | _, _, n + 1, .cons h r => .cons h (Paired.takeP n r)
theorem cutL_rw {G : GA} {c : Cf} {xs : List V} {ws : List W} (h : RWL G c xs ws) (lo hi : Option Int) : RWL G c (cutV xs lo hi) (cutL ws lo hi) := by
  unfold cutV cutL
  rw [Paired.length h]
  exact Paired.takeP _ (Paired.dropP _ h)
theorem rpl_rwl {G : GA} {c : Cf} : ∀ {xs : List V} {ds : List PyData}, RpL G.K c xs ds → RWL G c xs (ds.map W.d)
  | _, _, .nil => .nil
  | _, _, .cons h r => .cons h (rpl_rwl r)
def slM (o : W) (lo hi : Option Int) : M W := fun h => match o with
  | .d (.str z) => if z.length ≤ sizeLine then .ok (wS (cutS z lo hi)) h else .no
  | .d (.tuple ds) => .ok (.d (.tuple (cutL ds lo hi))) h
  | .d (.list ds) => .ok (.r h.length) (h ++ [.lst ((cutL ds lo hi).map .d)])
  | .r j => (match h[j]? with
    | some (.lst ws) => .ok (.r h.length) (h ++ [.lst (cutL ws lo hi)])
    | _ => .no)
  | _ => .no
def SlS (G : GA) (r : V → Option Int → Option Int → Hp → VK → Prop) : Prop := ∀ (c : Cf) (x : V) (a : W) (lo hi : Option Int) (Q : VK) (E : Str → Cf → Prop), c.ok G → RW G c x a → Po G (slM a lo hi c.ah) c (VQ G Q) E → r x lo hi c.H Q
theorem slM_ok {X : Cx} {G : GA} (hK : X.K = G.K) : ∃ r, SlR X r ∧ SlS G r := by
  refine ⟨_, sl_str.or (sl_tupA.or sl_list), fun c x a lo hi Q E k rx h => ?_⟩
  unfold slM at h
  split at h
  · rename_i z
    rw [rStr rx]
    split at h
    · rename_i hz
      exact .inl ⟨z, rfl, hz, h.here k _ (.str _)⟩
    · exact h.elim
  · rename_i ds
    obtain ⟨p, xs, rfl, h1, r1⟩ := rTup rx
    refine .inr (.inl ⟨p, xs, rfl, by rw [hK]; exact h1, fun hw => ?_, fun _ q hq => new_tup k (cutL_rp r1 lo hi) hq h⟩)
    have e : cutL ds lo hi = ds := by
      unfold cutL
      rw [← r1.length, hw.1, hw.2, List.drop_zero, Nat.sub_zero, r1.length, List.take_length]
    rw [e] at h
    exact h.here k _ rx
  · rename_i ds
    obtain ⟨p, xs, rfl, h1, r1⟩ := rLst rx
    refine .inr (.inr ⟨p, xs, rfl, by rw [hK]; exact h1, fun q hq => new_list k (rpl_rwl (cutL_rp r1 lo hi)) hq h⟩)
  · rename_i j
    split at h
    · rename_i ws e
      obtain ⟨p, rfl, h1, xs, hx, r1⟩ := rRef k rx e
      exact .inr (.inr ⟨p, xs, rfl, .inl (.inl hx), fun q hq => new_list k (cutL_rw r1 lo hi) hq h⟩)
    · exact h.elim
  · exact h.elim
def pNo : EnvW → M (Option Int) := fun _ => mpure none
def asI (w : W) : M Int := match w with
  | .d (.int i) => mpure i
  | _ => mno
def pSome (a : ME) : EnvW → M (Option Int) := fun env => mbind (a env) fun x => mbind (asI x) fun i => mpure (some i)
def eSl (a : ME) (lo hi : EnvW → M (Option Int)) : ME := fun env => mbind (a env) fun x => mbind (lo env) fun l => mbind (hi env) fun u => slM x l u
def tO (G : GA) (Wx : WX) (m : EnvW → M (Option Int)) : TO := fun σ H Q => ∃ c env, c.H = H ∧ c.ok G ∧ EnvR G c env σ ∧ Po G (m env c.ah) c (fun b c' => Q b c'.H) (fun e c' => WEx G Wx e σ c'.H)
theorem PO.imp {X : Cx} {e : Option Expr} {t t' : TO} (h : PO X e t) (i : ∀ σ H Q, t' σ H Q → t σ H Q) : PO X e t' := ⟨fun p s σ H Q I q => h.run p s σ H Q I (i _ _ _ q)⟩
theorem asI_po {G : GA} {w : W} {c1 : Cf} {β : Type} {f : Int → M β} {F : β → Cf → Prop} {E : Str → Cf → Prop} {v : V} (ok : c1.ok G) (r : RW G c1 v w) (h : Po G (mbind (asI w) f c1.ah) c1 F E) : ∃ t, v = .int t ∧ Po G (f t c1.ah) c1 F E := by
  unfold asI at h
  split at h
  · rename_i b
    exact ⟨b, rInt r, Po.here (a := b) (Po.bind h) ok⟩
  · exact h.elim
section
variable {T : Tb} {G : GA} {CM : FId → List W → M W} {k : Nat} {sc : Sc} {a b c e : Expr} {ma mb mc : ME} {pos p2 : Pos}
theorem se_ix (ha : SE T G CM k sc a ma) (hb : SE T G CM k sc b mb) (hp : plainIx b = true) : SE T G CM k sc (.Subscript a b pos) (eIx ma mb) := fun X Wx F => by
  obtain ⟨r, h1, h2⟩ := ixM_ok (X := X) (G := G) F.K F.wd F.room.units (hu_of F.room)
  refine PE.imp (pe_ix h1 (ha X Wx F) (hb X Wx F) (plainIx_ok hp)) fun σ H Q ⟨c, env, e, ok, re, q⟩ => ?_
  subst e
  refine tE.step ok re q fun w c1 v e1 ok1 re1 rv q1 => tE.step ok1 re1 q1 fun w2 c2 v2 e2 ok2 re2 rv2 q2 => ?_
  exact h2 c2 v v2 w w2 Q _ ok2 (RW.mono e2 rv) rv2 q2
def SO (T : Tb) (G : GA) (CM : FId → List W → M W) (k : Nat) (sc : Sc) (e : Option Expr) (m : EnvW → M (Option Int)) : Prop := ∀ X Wx, Fits T G CM k X sc Wx → PO X e (tO G Wx m)
theorem so_none : SO T G CM k sc none pNo := fun X Wx F => PO.imp po_none fun σ H Q ⟨c, env, e, ok, re, q⟩ => by
  subst e
  exact Po.here (a := none) q ok
theorem so_some (ha : SE T G CM k sc a ma) : SO T G CM k sc (some a) (pSome ma) := fun X Wx F => PO.imp (po_some (ha X Wx F)) fun σ H Q ⟨c, env, e, ok, re, q⟩ => by
  subst e
  refine tE.step ok re q fun w c1 v e1 ok1 re1 rv q1 => ?_
  obtain ⟨i, hi, q2⟩ := asI_po ok1 rv q1
  exact ⟨i, hi, Po.here (a := some i) q2 ok1⟩
theorem tO.step {Wx : WX} {σ : L2.St} {m : EnvW → M (Option Int)} {c : Cf} {env : EnvW} {β : Type} {f : Option Int → M β} {F : β → Cf → Prop} {Q : Option Int → Hp → Prop} (k : c.ok G) (r : EnvR G c env σ)
    (h : Po G (mbind (m env) f c.ah) c F (fun e c' => WEx G Wx e σ c'.H))
    (n : ∀ w c1, c.ext c1 → c1.ok G → EnvR G c1 env σ → Po G (f w c1.ah) c1 F (fun e c' => WEx G Wx e σ c'.H) → Q w c1.H) : tO G Wx m σ c.H Q :=
  ⟨c, env, rfl, k, r, Po.mono (Po.bind h) (fun w c1 e o q => n w c1 e o (r.mono e) q) fun _ _ _ _ q => q⟩
theorem se_slice {lo hi : Option Expr} {ml mh : EnvW → M (Option Int)} (ha : SE T G CM k sc a ma) (hl : SO T G CM k sc lo ml) (hh : SO T G CM k sc hi mh) : SE T G CM k sc (.Subscript a (.Slice lo hi none p2) pos) (eSl ma ml mh) := fun X Wx F => by
  obtain ⟨r, h1, h2⟩ := slM_ok (X := X) (G := G) F.K
  refine PE.imp (pe_slice h1 (ha X Wx F) (hl X Wx F) (hh X Wx F)) fun σ H Q ⟨c, env, e, ok, re, q⟩ => ?_
  subst e
  refine tE.step ok re q fun w c1 v e1 ok1 re1 rv q1 => tO.step ok1 re1 q1 fun l c2 e2 ok2 re2 q2 => tO.step ok2 re2 q2 fun u c3 e3 ok3 re3 q3 => ?_
  exact h2 c3 v w l u Q _ ok3 (RW.mono e3 (RW.mono e2 rv)) q3

/-! ### f-strings -/
def fmtM (w : W) : M W := fun h => match w with
  | .d (.str y) => if y.length ≤ sizeLine then .ok (wS y) h else .no
  | .d (.int i) => if i.natAbs.log2 < 1920 then .ok (wS (toString i)) h else .no
  | _ => .no
def eFmt (a : ME) : ME := fun env => mbind (a env) fmtM
theorem se_fmt (ha : SE T G CM k sc a ma) : SE T G CM k sc (.FormattedValue a (-1) none pos) (eFmt ma) := fun X Wx F => by
  refine PE.imp (pe_fmt (ha X Wx F)) fun σ H Q ⟨c, env, e, ok, re, q⟩ => ?_
  subst e
  refine tE.step ok re q fun w c1 v e1 ok1 re1 rv q1 => ?_
  unfold fmtM at q1
  split at q1
  · rename_i y
    split at q1
    · rename_i hz
      exact .inl ⟨y, rStr rv, hz, q1.here ok1 _ (.str _)⟩
    · exact q1.elim
  · rename_i i
    split at q1
    · rename_i hz
      exact .inr ⟨i, rInt rv, hz, q1.here ok1 _ (.str _)⟩
    · exact q1.elim
  · exact q1.elim
def asS (w : W) : M Str := match w with
  | .d (.str i) => mpure i
  | _ => mno
def joinM : List ME → Str → EnvW → M W
  | [], acc, _ => mpure (wS acc)
  | m :: ms, acc, env => mbind (m env) fun w => mbind (asS w) fun y => if (acc ++ y).length ≤ sizeLine then joinM ms (acc ++ y) env else mno
theorem asS_po {w : W} {c1 : Cf} {β : Type} {f : Str → M β} {F : β → Cf → Prop} {E : Str → Cf → Prop} {v : V} (ok : c1.ok G) (r : RW G c1 v w) (h : Po G (mbind (asS w) f c1.ah) c1 F E) : ∃ t, v = .str t ∧ Po G (f t c1.ah) c1 F E := by
  unfold asS at h
  split at h
  · rename_i b
    exact ⟨b, rStr r, Po.here (a := b) (Po.bind h) ok⟩
  · exact h.elim
theorem tJs_ok {Wx : WX} {σ : L2.St} : ∀ (ms : List ME) (acc : Str) (c : Cf) (env : EnvW) (Q : VK), c.ok G → EnvR G c env σ → Po G (joinM ms acc env c.ah) c (VQ G Q) (fun e c' => WEx G Wx e σ c'.H) → tJs (ms.map (tE G Wx)) acc σ c.H fun out H1 => Q (.str out) H1
  | [], acc, c, env, Q, ok, re, q => Po.here (a := wS acc) q ok _ (.str _)
  | m :: ms, acc, c, env, Q, ok, re, q => by
    refine tE.step ok re q fun w c1 v e1 ok1 re1 rv q1 => ?_
    obtain ⟨y, hy, q2⟩ := asS_po ok1 rv q1
    by_cases hz : (acc ++ y).length ≤ sizeLine
    · rw [if_pos hz] at q2
      exact ⟨y, hy, hz, tJs_ok ms (acc ++ y) c1 env Q ok1 re1 q2⟩
    · rw [if_neg hz] at q2
      exact q2.elim
theorem pj_of {P : Expr → ME} {X : Cx} {Wx : WX} (hP : ∀ e, SE T G CM k sc e (P e)) (F : Fits T G CM k X sc Wx) : ∀ es : List Expr, PJ X es ((es.map P).map (tE G Wx))
  | [] => .nil
  | e :: es => .cons (hP e X Wx F) (pj_of hP F es)
theorem se_join {P : Expr → ME} (hP : ∀ e, SE T G CM k sc e (P e)) {v1 v2 : Expr} {rest : List Expr} : SE T G CM k sc (.JoinedStr (v1 :: v2 :: rest) pos) (joinM ((v1 :: v2 :: rest).map P) Str.empty) := fun X Wx F => by
  refine PE.imp (pe_joined (pj_of hP F (v1 :: v2 :: rest))) fun σ H Q ⟨c, env, e, ok, re, q⟩ => ?_
  subst e
  exact tJs_ok _ _ c env Q ok re q
end
end Ev
set_option Elab.async false
set_option linter.all false
set_option maxRecDepth 100000
set_option maxHeartbeats 2000000
/-! E6f: the text of nested data in an f-string. -/
namespace Ev
open PySem PySem.Spec PyProof.Rows L2

mutual
theorem rp_reads {K : PySem.W.Frag} {c : Cf} {P : Program} {w : World} {h : Heap} (hok : HOk P w c.H h) (inK : K.In h) : ∀ {d : PyData} {v : V} {u : Value}, d.hasDict = false → Rp K c v d → RelV v u → ∃ as, Reads h u d as
  | _, _, _, _, .non, r => by cases (show _ = Value.none from r); exact ⟨_, .none⟩
  | _, _, _, _, .bl b, r => by cases (show _ = Value.bool b from r); exact ⟨_, .bool b⟩
  | _, _, _, _, .int i, r => by obtain ⟨t, rfl⟩ := r; exact ⟨_, .int i t⟩
  | _, _, _, _, .str x, r => by obtain ⟨t, rfl⟩ := r; exact ⟨_, .str x t⟩
  | .list ds, _, _, nd, .lst _ hr rl, r => by
    cases r
    obtain ⟨_, its, n, rv, e⟩ := hr.ok hok
    obtain ⟨as, q⟩ := rpl_reads hok inK (by simpa [PyData.hasDict] using nd) rl rv
    exact ⟨_, .list e rfl rfl (by simpa using q)⟩
  | .tuple ds, _, _, nd, .tup _ hr rl, r => by
    cases r
    obtain ⟨_, its, rv, o, e, e1, n, e2⟩ := hr.ok hok
    obtain ⟨as, q⟩ := rpl_reads hok inK (by simpa [PyData.hasDict] using nd) rl rv
    exact ⟨_, .tuple e e1 e2 (by simpa using q)⟩
  | .tuple ds, _, _, nd, .tupK ⟨o, its, n, e, e1, e2, _, rv⟩ rl, r => by
    cases r
    obtain ⟨as, q⟩ := rpl_reads hok inK (by simpa [PyData.hasDict] using nd) rl rv
    exact ⟨_, .tuple (inK _ _ e) e1 e2 q⟩
  | .dict _, _, _, nd, .dic _ _ _, _ => by simp [PyData.hasDict] at nd
theorem rpl_reads {K : PySem.W.Frag} {c : Cf} {P : Program} {w : World} {h : Heap} (hok : HOk P w c.H h) (inK : K.In h) : ∀ {ds : List PyData} {vs : List V} {us : List Value}, PyData.hasDictAll ds = false → RpL K c vs ds → Vals vs us → ∃ as, ReadsAll h us ds as
  | _, _, _, _, .nil, .nil => ⟨_, .nil⟩
  | _ :: _, _, _, nd, .cons r rl, .cons rv rvs => by
    simp only [PyData.hasDictAll, Bool.or_eq_false_iff] at nd
    obtain ⟨as, q⟩ := rp_reads hok inK nd.1 r rv
    obtain ⟨bs, q2⟩ := rpl_reads hok inK nd.2 rl rvs
    exact ⟨_, .cons q q2⟩
end
def isSq : PyData → Bool
  | .list _ => true
  | .tuple _ => true
  | _ => false
/-- the text of a value in an f-string -/
def fmtN (w : W) : M W := fun h => match w with
  | .d d => if isSq d then (if !d.hasDict && d.showable && decide (d.depth ≤ 190) && decide (d.shown.length ≤ sizeLine) then .ok (wS d.shown) h else .no) else fmtM w h
  | _ => .no
def eFmtN (a : ME) : ME := fun env => mbind (a env) fmtN
section
variable {T : Tb} {G : GA} {CM : FId → List W → M W} {k : Nat} {sc : Sc} {a : Expr} {ma : ME} {pos : Pos}
theorem se_fmtN (ha : SE T G CM k sc a ma) : SE T G CM k sc (.FormattedValue a (-1) none pos) (eFmtN ma) := fun X Wx F => by
  refine ⟨fun pins s σ H Q I ⟨c, env, e, ok, re, q⟩ => ?_⟩
  subst e
  refine wpAny_FormattedValue_plain (thn ((ha X Wx F).run pins s σ c.H (fun v H1 => ∃ c1 w, c1.H = H1 ∧ c1.ok G ∧ RW G c1 v w ∧ Po G (fmtN w c1.ah) c1 (VQ G Q) (fun e c' => WEx G Wx e σ c'.H)) I (tE.step ok re q fun w c1 v e1 ok1 re1 rv q1 => ⟨c1, w, rfl, ok1, rv, q1⟩)) fun u s1 ⟨v, H1, I1, r1, c1, w, e1, ok1, rv, q1⟩ => ?_)
  subst e1
  unfold fmtN at q1
  split at q1
  · rename_i d
    split at q1
    · rename_i hsq
      split at q1
      · rename_i hc
        simp only [Bool.and_eq_true, Bool.not_eq_true', decide_eq_true_eq] at hc
        obtain ⟨⟨⟨c1', c2⟩, c3⟩, c4⟩ := hc
        have hK : X.K = G.K := F.K
        obtain ⟨as, hr⟩ := rp_reads (P := X.prog) (w := X.w) (K := G.K) I1.hok (by rw [← hK]; exact I1.kIn) c1' rv r1
        obtain ⟨ad, rfl⟩ : ∃ ad, u = .ref ad := by
          cases hr <;> first | exact ⟨_, rfl⟩ | exact absurd hsq (by simp [isSq])
        have hu := F.room.un
        refine formatField_of_reads hr c2 (PyData.noDict_hsm c1') F.gd (by omega) (fun _ _ e => e) (fun h' t tk kp => ?_) c4
        exact ⟨.str d.shown, c1.H, I1.kept kp, ⟨t, rfl⟩, q1.here ok1 _ (.str _)⟩
      · exact q1.elim
    · unfold fmtM at q1
      split at q1
      · rename_i y e
        cases e
        split at q1
        · rename_i hz
          cases rStr rv
          obtain ⟨t, rfl⟩ := r1
          have z := q1.here ok1 _ (.str y)
          exact wpAny_formatField_str ⟨.str y, c1.H, I1, ⟨t, rfl⟩, z⟩ ⟨.str y, c1.H, I1.tok _, ⟨_, rfl⟩, z⟩ hz
        · exact q1.elim
      · rename_i i e
        cases e
        split at q1
        · rename_i hz
          cases rInt rv
          obtain ⟨t, rfl⟩ := r1
          exact wpAny_formatField_int hz ⟨.str (toString i), c1.H, I1.tok _, ⟨_, rfl⟩, q1.here ok1 _ (.str _)⟩
        · exact q1.elim
      · exact q1.elim
  · exact q1.elim
theorem se_join1 (ha : SE T G CM k sc a ma) : SE T G CM k sc (.JoinedStr [a] pos) ma := fun X Wx F => pe_joined1 (ha X Wx F)
end
end Ev
set_option Elab.async false
set_option linter.all false
set_option maxRecDepth 100000
set_option maxHeartbeats 2000000
/-! E7: built-in functions, isinstance, calls of defs. -/
namespace Ev
open PySem PySem.Spec PyProof.Rows L2

def CallS (G : GA) (f : List W → M W) (r : List V → Hp → VK → Prop) : Prop := ∀ (c : Cf) (xs : List V) (ws : List W) (Q : VK) (E : Str → Cf → Prop), c.ok G → RWL G c xs ws → Po G (f ws c.ah) c (VQ G Q) E → r xs c.H Q
theorem rwl1 {G : GA} {c : Cf} {xs : List V} {w : W} (h : RWL G c xs [w]) : ∃ v, xs = [v] ∧ RW G c v w := by
  cases h with
  | cons h1 h2 => cases h2; exact ⟨_, rfl, h1⟩
theorem rwl2 {G : GA} {c : Cf} {xs : List V} {w w' : W} (h : RWL G c xs [w, w']) : ∃ v v', xs = [v, v'] ∧ RW G c v w ∧ RW G c v' w' := by
  cases h with
  | cons h1 h2 =>
    obtain ⟨v, rfl, h3⟩ := rwl1 h2
    exact ⟨_, _, rfl, h1, h3⟩
def fLen (ws : List W) : M W := fun h => match ws with
  | [.d (.str z)] => if z.length ≤ sizeLine then .ok (wI z.length) h else .no
  | [.d (.tuple ds)] => .ok (wI ds.length) h
  | [.d (.list ds)] => .ok (wI ds.length) h
  | [.d (.dict ds)] => .ok (wI ds.length) h
  | [.r i] => (match h[i]? with
    | some (.lst xs) => .ok (wI xs.length) h
    | some (.dic xs) => .ok (wI xs.length) h
    | _ => .no)
  | _ => .no
theorem RpD.length {K : PySem.W.Frag} {c : Cf} : ∀ {xs : List (Key × V)} {ds : List (PyData × PyData)}, RpD K c xs ds → xs.length = ds.length
  | _, _, .nil => rfl
  | _, _, .cons _ r => by simp [RpD.length r]
theorem call_lenDk {X : Cx} : CallR X (.builtin "len") (fun xs H Q => ∃ a kvs, xs = [.ref a] ∧ Rd H a (.dK kvs) ∧ Q (.int kvs.length) H) := by
  intro pins s σ H xs us Q I r h
  obtain ⟨a, kvs, rfl, h1, q⟩ := h
  rw [Vals.ref1 r]
  exact d_len I h1 fun t s' I' => ⟨.int kvs.length, H, I', ⟨t, rfl⟩, q⟩
theorem len_ok {X : Cx} {G : GA} (hK : X.K = G.K) : ∃ r, CallR X (.builtin "len") r ∧ CallS G fLen r := by
  refine ⟨_, call_len_str.or (call_len_seq.or call_lenDk), fun c xs ws Q E k rx h => ?_⟩
  unfold fLen at h
  split at h
  · rename_i z
    obtain ⟨v, rfl, r1⟩ := rwl1 rx
    rw [rStr r1]
    split at h
    · rename_i hz
      exact .inl ⟨z, rfl, hz, h.here k _ (.int _)⟩
    · exact h.elim
  · rename_i ds
    obtain ⟨v, rfl, r1⟩ := rwl1 rx
    obtain ⟨p, xs, rfl, h1, r2⟩ := rTup r1
    exact .inr (.inl ⟨p, xs, rfl, .inr (by rw [hK]; exact h1), by rw [r2.length]; exact h.here k _ (.int _)⟩)
  · rename_i ds
    obtain ⟨v, rfl, r1⟩ := rwl1 rx
    obtain ⟨p, xs, rfl, h1, r2⟩ := rLst r1
    exact .inr (.inl ⟨p, xs, rfl, .inl (by rw [hK]; exact h1), by rw [r2.length]; exact h.here k _ (.int _)⟩)
  · rename_i ds
    obtain ⟨v, rfl, r1⟩ := rwl1 rx
    cases (show Rp G.K c v (.dict ds) from r1) with
    | dic l1 h1 r2 => exact .inr (.inr ⟨_, _, rfl, h1, by rw [r2.length]; exact h.here k _ (.int _)⟩)
  · rename_i i
    obtain ⟨v, rfl, r1⟩ := rwl1 rx
    split at h
    · rename_i ws e
      obtain ⟨p, rfl, h1, xs, hx, r2⟩ := rRef k r1 e
      exact .inr (.inl ⟨p, xs, rfl, .inl (.inl (.inl hx)), by rw [Paired.length r2]; exact h.here k _ (.int _)⟩)
    · rename_i ws e
      obtain ⟨p, rfl, h1, xs, hx, r2⟩ := rRef k r1 e
      exact .inr (.inr ⟨p, xs, rfl, .inl hx, by rw [Paired.length r2]; exact h.here k _ (.int _)⟩)
    · exact h.elim
  · exact h.elim
/-- a list's items as bools, ints, texts -/
def boolsD : List PyData → Option (List Bool)
  | [] => some []
  | .bool b :: r => (boolsD r).map (b :: ·)
  | _ => none
def intsD : List PyData → Option (List Int)
  | [] => some []
  | .int b :: r => (intsD r).map (b :: ·)
  | _ => none
def strsD : List PyData → Option (List Str)
  | [] => some []
  | .str b :: r => (strsD r).map (b :: ·)
  | _ => none
theorem boolsD_ok {K : PySem.W.Frag} {c : Cf} : ∀ {ds : List PyData} {bs : List Bool} {xs : List V}, boolsD ds = some bs → RpL K c xs ds → xs = bs.map V.bl
  | [], bs, xs, h, r => by cases h; cases r; rfl
  | .bool b :: ds, bs, xs, h, r => by
    unfold boolsD at h
    cases r with
    | cons r1 r2 =>
      cases q : boolsD ds with
      | none => rw [q] at h; cases h
      | some es =>
        rw [q] at h; cases h
        rw [boolsD_ok q r2]
        cases r1
        rfl
  | .none :: _, _, _, h, _ => by cases h
  | .int _ :: _, _, _, h, _ => by cases h
  | .str _ :: _, _, _, h, _ => by cases h
  | .list _ :: _, _, _, h, _ => by cases h
  | .tuple _ :: _, _, _, h, _ => by cases h
  | .dict _ :: _, _, _, h, _ => by cases h
theorem intsD_ok {K : PySem.W.Frag} {c : Cf} : ∀ {ds : List PyData} {bs : List Int} {xs : List V}, intsD ds = some bs → RpL K c xs ds → xs = bs.map V.int
  | [], bs, xs, h, r => by cases h; cases r; rfl
  | .int b :: ds, bs, xs, h, r => by
    unfold intsD at h
    cases r with
    | cons r1 r2 =>
      cases q : intsD ds with
      | none => rw [q] at h; cases h
      | some es =>
        rw [q] at h; cases h
        rw [intsD_ok q r2]
        cases r1
        rfl
  | .none :: _, _, _, h, _ => by cases h
  | .bool _ :: _, _, _, h, _ => by cases h
  | .str _ :: _, _, _, h, _ => by cases h
  | .list _ :: _, _, _, h, _ => by cases h
  | .tuple _ :: _, _, _, h, _ => by cases h
  | .dict _ :: _, _, _, h, _ => by cases h
theorem strsD_ok {K : PySem.W.Frag} {c : Cf} : ∀ {ds : List PyData} {bs : List Str} {xs : List V}, strsD ds = some bs → RpL K c xs ds → xs = bs.map V.str
  | [], bs, xs, h, r => by cases h; cases r; rfl
  | .str b :: ds, bs, xs, h, r => by
    unfold strsD at h
    cases r with
    | cons r1 r2 =>
      cases q : strsD ds with
      | none => rw [q] at h; cases h
      | some es =>
        rw [q] at h; cases h
        rw [strsD_ok q r2]
        cases r1
        rfl
  | .none :: _, _, _, h, _ => by cases h
  | .bool _ :: _, _, _, h, _ => by cases h
  | .int _ :: _, _, _, h, _ => by cases h
  | .list _ :: _, _, _, h, _ => by cases h
  | .tuple _ :: _, _, _, h, _ => by cases h
  | .dict _ :: _, _, _, h, _ => by cases h
/-- a value that is a list of data -/
def listD (h : AH) (w : W) : Option (List PyData) := match peek h w with
  | some (.list ds) => some ds
  | _ => none
theorem listD_ok {G : GA} {c : Cf} {w : W} {ds : List PyData} {v : V} (k : c.ok G) (r : RW G c v w) (h : listD c.ah w = some ds) : ∃ p xs, v = .ref p ∧ SqL G.K c.H p xs ∧ RpL G.K c xs ds := by
  unfold listD at h
  split at h
  · rename_i es e
    cases h
    cases w with
    | d x => cases e; exact rLst r
    | r i =>
      simp only [peek] at e
      split at e
      · rename_i ws e2
        obtain ⟨a, rfl, h1, xs, hx, rx⟩ := rRef k r e2
        cases q : allD ws with
        | none => rw [q] at e; cases e
        | some fs =>
          rw [q] at e
          cases e
          exact ⟨a, xs, rfl, .inl (.inl hx), allD_ok q rx⟩
      · cases e
    | fn f => cases e
    | ex f => cases e
  · cases h
def fAll (ws : List W) : M W := fun h => match ws with
  | [w] => (match (listD h w).bind boolsD with
    | some bs => .ok (wB (bs.all id)) h
    | none => .no)
  | _ => .no
def fAny (ws : List W) : M W := fun h => match ws with
  | [w] => (match (listD h w).bind boolsD with
    | some bs => .ok (wB (bs.any id)) h
    | none => .no)
  | _ => .no
def fSum (ws : List W) : M W := fun h => match ws with
  | [w] => (match (listD h w).bind intsD with
    | some bs => .ok (wI bs.sum) h
    | none => .no)
  | _ => .no
theorem bind_some_ok {α β : Type} {o : Option α} {f : α → Option β} {b : β} (h : o.bind f = some b) : ∃ a, o = some a ∧ f a = some b := by
  cases o with
  | none => cases h
  | some a => exact ⟨a, rfl, h⟩
theorem all_ok {X : Cx} {G : GA} (hK : X.K = G.K) (hc : X.calm = true) : ∃ r, CallR X (.builtin "all") r ∧ CallS G fAll r := by
  refine ⟨_, cr_all hc, fun c xs ws Q E k rx h => ?_⟩
  unfold fAll at h
  split at h
  · rename_i w
    obtain ⟨v, rfl, r1⟩ := rwl1 rx
    split at h
    · rename_i bs e
      obtain ⟨ds, e1, e2⟩ := bind_some_ok e
      obtain ⟨p, ys, rfl, h1, r2⟩ := listD_ok k r1 e1
      rw [boolsD_ok e2 r2] at h1
      exact ⟨p, bs, rfl, by rw [hK]; exact h1, h.here k _ (.bl _)⟩
    · exact h.elim
  · exact h.elim
theorem any_ok {X : Cx} {G : GA} (hK : X.K = G.K) (hc : X.calm = true) : ∃ r, CallR X (.builtin "any") r ∧ CallS G fAny r := by
  refine ⟨_, cr_any hc, fun c xs ws Q E k rx h => ?_⟩
  unfold fAny at h
  split at h
  · rename_i w
    obtain ⟨v, rfl, r1⟩ := rwl1 rx
    split at h
    · rename_i bs e
      obtain ⟨ds, e1, e2⟩ := bind_some_ok e
      obtain ⟨p, ys, rfl, h1, r2⟩ := listD_ok k r1 e1
      rw [boolsD_ok e2 r2] at h1
      exact ⟨p, bs, rfl, by rw [hK]; exact h1, h.here k _ (.bl _)⟩
    · exact h.elim
  · exact h.elim
theorem sum_ok {X : Cx} {G : GA} (hK : X.K = G.K) (hc : X.calm = true) : ∃ r, CallR X (.builtin "sum") r ∧ CallS G fSum r := by
  refine ⟨_, cr_sum hc, fun c xs ws Q E k rx h => ?_⟩
  unfold fSum at h
  split at h
  · rename_i w
    obtain ⟨v, rfl, r1⟩ := rwl1 rx
    split at h
    · rename_i bs e
      obtain ⟨ds, e1, e2⟩ := bind_some_ok e
      obtain ⟨p, ys, rfl, h1, r2⟩ := listD_ok k r1 e1
      rw [intsD_ok e2 r2] at h1
      exact ⟨p, bs, rfl, by rw [hK]; exact h1, h.here k _ (.int _)⟩
    · exact h.elim
  · exact h.elim
def fTuple (ws : List W) : M W := fun h => match ws with
  | [.d (.tuple ds)] => .ok (.d (.tuple ds)) h
  | [w] => (match listD h w with
    | some ds => .ok (.d (.tuple ds)) h
    | none => .no)
  | _ => .no
theorem tuple_ok {X : Cx} {G : GA} (hK : X.K = G.K) : ∃ r, CallR X (.type "tuple") r ∧ CallS G fTuple r := by
  refine ⟨_, call_tuple_of, fun c xs ws Q E k rx h => ?_⟩
  unfold fTuple at h
  split at h
  · rename_i ds
    obtain ⟨v, rfl, r1⟩ := rwl1 rx
    obtain ⟨p, ys, rfl, h1, r2⟩ := rTup r1
    exact ⟨p, ys, rfl, .inr ⟨by rw [hK]; exact h1, h.here k _ r1⟩⟩
  · rename_i w _
    obtain ⟨v, rfl, r1⟩ := rwl1 rx
    split at h
    · rename_i ds e
      obtain ⟨p, ys, rfl, h1, r2⟩ := listD_ok k r1 e
      exact ⟨p, ys, rfl, .inl ⟨by rw [hK]; exact h1, fun l hl => new_tup k r2 hl h⟩⟩
    · exact h.elim
  · exact h.elim
def fList (ws : List W) : M W := fun h => match ws with
  | [.d (.tuple ds)] => .ok (.r h.length) (h ++ [.lst (ds.map .d)])
  | [.d (.list ds)] => .ok (.r h.length) (h ++ [.lst (ds.map .d)])
  | [.r i] => (match h[i]? with
    | some (.lst xs) => .ok (.r h.length) (h ++ [.lst xs])
    | _ => .no)
  | _ => .no
theorem list_ok {X : Cx} {G : GA} (hK : X.K = G.K) : ∃ r, CallR X (.type "list") r ∧ CallS G fList r := by
  refine ⟨_, call_list_of, fun c xs ws Q E k rx h => ?_⟩
  unfold fList at h
  split at h
  · rename_i ds
    obtain ⟨v, rfl, r1⟩ := rwl1 rx
    obtain ⟨p, ys, rfl, h1, r2⟩ := rTup r1
    exact ⟨p, ys, rfl, .inr (by rw [hK]; exact h1), fun l hl => new_list k (rpl_rwl r2) hl h⟩
  · rename_i ds
    obtain ⟨v, rfl, r1⟩ := rwl1 rx
    obtain ⟨p, ys, rfl, h1, r2⟩ := rLst r1
    exact ⟨p, ys, rfl, .inl (by rw [hK]; exact h1), fun l hl => new_list k (rpl_rwl r2) hl h⟩
  · rename_i i
    obtain ⟨v, rfl, r1⟩ := rwl1 rx
    split at h
    · rename_i ws e
      obtain ⟨p, rfl, h1, xs, hx, r2⟩ := rRef k r1 e
      exact ⟨p, xs, rfl, .inl (.inl (.inl hx)), fun l hl => new_list k r2 hl h⟩
    · exact h.elim
  · exact h.elim
def fStr (ws : List W) : M W := fun h => match ws with
  | [.d (.int i)] => if i.natAbs.log2 < 1920 then .ok (wS (toString i)) h else .no
  | [.d (.str i)] => .ok (wS i) h
  | _ => .no
theorem str_ok {X : Cx} {G : GA} : ∃ r, CallR X (.type "str") r ∧ CallS G fStr r := by
  refine ⟨_, call_str_int.or SkE.call_str_str, fun c xs ws Q E k rx h => ?_⟩
  unfold fStr at h
  split at h
  · rename_i i
    obtain ⟨v, rfl, r1⟩ := rwl1 rx
    rw [rInt r1]
    split at h
    · rename_i hz
      exact .inl ⟨i, rfl, hz, h.here k _ (.str _)⟩
    · exact h.elim
  · rename_i i
    obtain ⟨v, rfl, r1⟩ := rwl1 rx
    rw [rStr r1]
    exact .inr ⟨i, rfl, h.here k _ (.str _)⟩
  · exact h.elim
def fInt (ws : List W) : M W := fun h => match ws with
  | [.d (.str x)] => (match PySem.intText? x with
    | some n => if x.length ≤ 640 then .ok (wI n) h else .no
    | none => .no)
  | _ => .no
theorem intt_ok {X : Cx} {G : GA} : ∃ r, CallR X (.type "int") r ∧ CallS G fInt r := by
  refine ⟨_, call_int_str, fun c xs ws Q E k rx h => ?_⟩
  unfold fInt at h
  split at h
  · rename_i x
    obtain ⟨v, rfl, r1⟩ := rwl1 rx
    rw [rStr r1]
    split at h
    · rename_i n e
      split at h
      · rename_i hz
        exact ⟨x, n, rfl, e, hz, h.here k _ (.int _)⟩
      · exact h.elim
    · exact h.elim
  · exact h.elim
/-- built-in functions by their names -/
def bfun (x : Str) : Option (List W → M W) :=
  if x == "len" then some fLen else if x == "all" then some fAll else if x == "any" then some fAny else if x == "sum" then some fSum else none
def btyp (x : Str) : Option (List W → M W) :=
  if x == "tuple" then some fTuple else if x == "list" then some fList else if x == "str" then some fStr else if x == "int" then some fInt else none
theorem bfun_ok {X : Cx} {G : GA} (hK : X.K = G.K) (hc : X.calm = true) {x : Str} {f : List W → M W} (h : bfun x = some f) : ∃ id r, bootBuiltins x = some (.builtin id) ∧ CallR X (.builtin id) r ∧ CallS G f r := by
  unfold bfun at h
  split at h
  · rename_i e; cases h; rw [eq_of_beq e]
    obtain ⟨r, h1, h2⟩ := len_ok (X := X) hK; exact ⟨_, r, PySem.boot_len, h1, h2⟩
  · split at h
    · rename_i e; cases h; rw [eq_of_beq e]
      obtain ⟨r, h1, h2⟩ := all_ok (X := X) hK hc; exact ⟨_, r, boot_all, h1, h2⟩
    · split at h
      · rename_i e; cases h; rw [eq_of_beq e]
        obtain ⟨r, h1, h2⟩ := any_ok (X := X) hK hc; exact ⟨_, r, boot_any, h1, h2⟩
      · split at h
        · rename_i e; cases h; rw [eq_of_beq e]
          obtain ⟨r, h1, h2⟩ := sum_ok (X := X) hK hc; exact ⟨_, r, boot_sum, h1, h2⟩
        · cases h
theorem btyp_ok {X : Cx} {G : GA} (hK : X.K = G.K) {x : Str} {f : List W → M W} (h : btyp x = some f) : ∃ id r, bootBuiltins x = some (.type id) ∧ CallR X (.type id) r ∧ CallS G f r := by
  unfold btyp at h
  split at h
  · rename_i e; cases h; rw [eq_of_beq e]
    obtain ⟨r, h1, h2⟩ := tuple_ok (X := X) hK; exact ⟨_, r, PyProof.Rows.boot_tuple, h1, h2⟩
  · split at h
    · rename_i e; cases h; rw [eq_of_beq e]
      obtain ⟨r, h1, h2⟩ := list_ok (X := X) hK; exact ⟨_, r, PyProof.Rows.boot_list, h1, h2⟩
    · split at h
      · rename_i e; cases h; rw [eq_of_beq e]
        obtain ⟨r, h1, h2⟩ := str_ok (X := X) (G := G); exact ⟨_, r, PyProof.Rows.boot_str, h1, h2⟩
      · split at h
        · rename_i e; cases h; rw [eq_of_beq e]
          obtain ⟨r, h1, h2⟩ := intt_ok (X := X) (G := G); exact ⟨_, r, PyProof.Rows.boot_int, h1, h2⟩
        · cases h
def eFun (f : List W → M W) (a : EnvW → M (List W)) : ME := fun env => mbind (a env) f
section
variable {T : Tb} {G : GA} {CM : FId → List W → M W} {k : Nat} {sc : Sc} {a b e : Expr} {es : List Expr} {mr : EnvW → M (List W)} {ma : ME} {pos p : Pos} {x : Str} {f : List W → M W}
theorem se_bfun (hg : isGlob sc x = true) (hf : x ∈ T.free) (hb : bfun x = some f) (ha : SA T G CM k sc (e :: es) mr) (hs : (e :: es).all noStar = true) : SE T G CM k sc (.Call (.Name x p) (e :: es) [] pos) (eFun f mr) := fun X Wx F => by
  obtain ⟨id, r, h1, h2, h3⟩ := bfun_ok (X := X) F.K F.calm hb
  rw [List.all_cons, Bool.and_eq_true] at hs
  refine PE.imp (pe_callB h2 (F.gl hg) (F.top.free x hf) h1 (ha X Wx F) (glob_ok hg).2.2 (glob_ok hg).2.1 (noStar_each hs.1 es X.env) (noStar_any hs.2 pos X.env)) fun σ H Q ⟨c, env, e, ok, re, q⟩ => ?_
  subst e
  refine tA.step ok re q fun ws c1 vs e1 ok1 re1 rvs q1 => ?_
  exact h3 c1 vs ws Q _ ok1 rvs q1
theorem se_btyp (hg : isGlob sc x = true) (hf : x ∈ T.free) (hb : btyp x = some f) (ha : SA T G CM k sc (e :: es) mr) (hs : (e :: es).all noStar = true) : SE T G CM k sc (.Call (.Name x p) (e :: es) [] pos) (eFun f mr) := fun X Wx F => by
  obtain ⟨id, r, h1, h2, h3⟩ := btyp_ok (X := X) F.K hb
  rw [List.all_cons, Bool.and_eq_true] at hs
  refine PE.imp (pe_callTy h2 (F.gl hg) (F.top.free x hf) h1 (ha X Wx F) (glob_ok hg).2.2 (glob_ok hg).2.1 (noStar_each hs.1 es X.env) (noStar_any hs.2 pos X.env)) fun σ H Q ⟨c, env, e, ok, re, q⟩ => ?_
  subst e
  refine tA.step ok re q fun ws c1 vs e1 ok1 re1 rvs q1 => ?_
  exact h3 c1 vs ws Q _ ok1 rvs q1
end

/-! ### isinstance(x, T), T a built-in type -/
def tyName (h : AH) : W → Option String
  | .d .none => some "NoneType"
  | .d (.bool _) => some "bool"
  | .d (.int _) => some "int"
  | .d (.str _) => some "str"
  | .d (.list _) => some "list"
  | .d (.tuple _) => some "tuple"
  | .d (.dict _) => some "dict"
  | .r i => (match h[i]? with
    | some (.lst _) => some "list"
    | some (.dic _) => some "dict"
    | _ => none)
  | _ => none
def tyTest : Str → Option String := fun x => if x == "int" then some "int" else if x == "bool" then some "bool" else if x == "str" then some "str" else if x == "tuple" then some "tuple" else if x == "list" then some "list" else if x == "dict" then some "dict" else none
def isSub (a b : String) : Bool := a == b || (a == "bool" && b == "int")
theorem isSub_ok : ∀ a ∈ ["NoneType", "bool", "int", "str", "list", "tuple", "dict"], ∀ b ∈ ["int", "bool", "str", "tuple", "list", "dict"], kitB a b = some (isSub a b) := by decide +kernel
theorem tyName_mem {h : AH} {w : W} {t : String} (e : tyName h w = some t) : t ∈ ["NoneType", "bool", "int", "str", "list", "tuple", "dict"] := by
  unfold tyName at e
  split at e <;> first | (cases e; decide) | (split at e <;> first | (cases e; decide) | cases e) | cases e
theorem tyTest_ok {x : Str} {t : String} (e : tyTest x = some t) : t ∈ ["int", "bool", "str", "tuple", "list", "dict"] ∧ bootBuiltins x = some (.type t) := by
  unfold tyTest at e
  repeat (split at e; (rename_i q; cases e; rw [eq_of_beq q]; exact ⟨by decide, by decide +kernel⟩))
  cases e
theorem tyName_ok {G : GA} {c : Cf} {w : W} {t : String} {v : V} (k : c.ok G) (e : tyName c.ah w = some t) (r : RW G c v w) : TyX G.K c.H v (.type t) := by
  cases w with
  | d x =>
    cases x with
    | none => cases e; rw [rNon r]; exact .base .non
    | bool b => cases e; rw [rBool r]; exact .base (.bl b)
    | int b => cases e; rw [rInt r]; exact .base (.int b)
    | str b => cases e; rw [rStr r]; exact .base (.str b)
    | list b =>
      cases e
      cases (show Rp G.K c v (.list b) from r) with
      | lst l1 h1 r1 =>
        rcases h1 with h1 | ⟨o, h1⟩
        · exact .base (.lst h1)
        · exact .base (.frz h1)
    | tuple b =>
      cases e
      cases (show Rp G.K c v (.tuple b) from r) with
      | tup l1 h1 r1 =>
        rcases h1 with h1 | ⟨o, h1⟩
        · exact .base (.tup h1)
        · exact .fTuple h1
      | tupK h1 r1 =>
        obtain ⟨o, its, n, h2, h3, _⟩ := h1
        exact .kTuple h2 h3
    | dict b =>
      cases e
      cases (show Rp G.K c v (.dict b) from r) with
      | dic l1 h1 r1 =>
        rcases h1 with h1 | ⟨o, h1⟩
        · exact .base (.dK h1)
        · exact .fDict h1
  | r i =>
    simp only [tyName] at e
    split at e
    · rename_i ws e2
      cases e
      obtain ⟨a, rfl, h1, xs, hx, rx⟩ := rRef k r e2
      exact .base (.lst hx)
    · rename_i ws e2
      cases e
      obtain ⟨a, rfl, h1, xs, hx, rx⟩ := rRef k r e2
      exact .base (.dK hx)
    · cases e
  | fn f => cases e
  | ex f => cases e
def isDcb (h : AH) : W → Bool
  | .r i => (match h[i]? with
    | some (.dcb _ _) => true
    | _ => false)
  | _ => false
theorem isDcb_ok {G : GA} {c : Cf} {w : W} {v : V} (k : c.ok G) (e : isDcb c.ah w = true) (r : RW G c v w) : ∃ a o, v = .ref a ∧ c.H a = some (.ext (AtO a o)) ∧ o.cls = .type "dict" := by
  cases w with
  | r i =>
    simp only [isDcb] at e
    split at e
    · rename_i b w' e2
      obtain ⟨a, rfl, h1, o, u, v, h2, h3, _⟩ := rRef k r e2
      exact ⟨a, o, rfl, h2, h3.1.1⟩
    · cases e
  | d x => cases e
  | fn x => cases e
  | ex x => cases e
theorem call_isiB {X : Cx} : CallR X (.builtin "isinstance") (fun xs H Q => ∃ a o c u b, xs = [.ref a, c] ∧ ClsV c u ∧ H a = some (.ext (AtO a o)) ∧ o.cls = .type "dict" ∧ PySem.W.kitOne X.K (.type "dict") u = some b ∧ Q (.bl b) H) := by
  intro pins s σ H xs us Q I r h
  obtain ⟨a, o, c, u, b, rfl, k, hx, hc, e, q⟩ := h
  obtain ⟨u1, u2, rfl, r1, r2⟩ := vals2 r
  have e2 := k.eq r2
  subst e2
  cases (show u1 = Value.ref a from r1)
  obtain ⟨h1, _⟩ := (show ObjOk X.prog X.w H s.heap a (.ext (AtO a o)) from I.hok a _ hx)
  exact PySem.W.kia_one PySem.W.kitx_dict I.kIn ⟨o, h1, hc⟩ e (fun z => nomatch z) fun tk => ⟨.bl b, H, I.tok tk, rfl, q⟩
def isiM (t : String) (w : W) : M W := fun h => match tyName h w with
  | some a => .ok (wB (isSub a t)) h
  | none => if isDcb h w then .ok (wB (isSub "dict" t)) h else .no
def eIsi (a : ME) (t : String) : ME := fun env => mbind (a env) (isiM t)
section
variable {T : Tb} {G : GA} {CM : FId → List W → M W} {k : Nat} {sc : Sc} {a : Expr} {ma : ME} {pos p p2 : Pos} {x : Str} {t : String}
theorem se_isi (hg : isGlob sc "isinstance" = true) (hf : ("isinstance" : Str) ∈ T.free) (hg2 : isGlob sc x = true) (hf2 : x ∈ T.free) (ht : tyTest x = some t) (ha : SE T G CM k sc a ma) (hs : noStar a = true) : SE T G CM k sc (.Call (.Name "isinstance" p) [a, .Name x p2] [] pos) (eIsi ma t) := fun X Wx F => by
  have hA : PA X [a, .Name x p2] (tCons (tE G Wx ma) (tCons (tC (.ty t)) tNil)) := pa_cons (ha X Wx F) (pa_cons (pe_bltn (F.gl hg2) (F.top.free x hf2) (tyTest_ok ht).2 rfl (glob_ok hg2).2.2 (glob_ok hg2).2.1) pa_nil) (noStar_each hs _ _)
  refine PE.imp (pe_callB (call_isi.or call_isiB) (F.gl hg) (F.top.free _ hf) boot_isinstance hA (glob_ok hg).2.2 (glob_ok hg).2.1 (noStar_each hs _ _)) fun σ H Q ⟨c, env, e, ok, re, q⟩ => ?_
  subst e
  refine tE.step ok re q fun w c1 v e1 ok1 re1 rv q1 => ?_
  unfold isiM at q1
  split at q1
  · rename_i a' e2
    exact .inl ⟨v, .ty t, .type a', .type t, isSub a' t, rfl, .ty t, by rw [F.K]; exact tyName_ok ok1 e2 rv, kit_ty (isSub_ok _ (tyName_mem e2) _ (tyTest_ok ht).1), q1.here ok1 _ (.bl _)⟩
  · split at q1
    · rename_i hb
      obtain ⟨p, o, rfl, h1, h2⟩ := isDcb_ok ok1 hb rv
      exact .inr ⟨p, o, .ty t, .type t, isSub "dict" t, rfl, .ty t, h1, h2, kit_ty (isSub_ok _ (tyName_mem (h := []) (w := .d (.dict [])) rfl) _ (tyTest_ok ht).1), q1.here ok1 _ (.bl _)⟩
    · exact q1.elim
end
end Ev
set_option Elab.async false
set_option linter.all false
set_option maxRecDepth 100000
set_option maxHeartbeats 2000000
/-! E8: calls of defs, of methods, attributes, new objects, methods of built-in objects. -/
namespace Ev
open PySem PySem.Spec PyProof.Rows L2

section
variable {T : Tb} {G : GA} {CM : FId → List W → M W} {k : Nat} {sc : Sc} {a b e o : Expr} {es : List Expr} {mr : EnvW → M (List W)} {ma mo : ME} {pos p apos : Pos} {x f m : Str}
/-- a def is called with values -/
theorem call_sem {X : Cx} {Wx : WX} (F : Fits T G CM k X sc Wx) {f : FId} {fa : Addr} (hf : G.fa f = some fa) (hnp : T.nopos.contains f = false) {pins : List (Addr × Obj)} {s : Shared} {σ : L2.St} {c : Cf} {vs : List V} {ws : List W} {us : List Value} {Q : VK} (I : Inv X pins σ c.H s) (ok : c.ok G)
    (rv : RWL G c vs ws) (ru : Vals vs us) (q : Po G (CM f ws c.ah) c (VQ G Q) (fun e c' => WEx G Wx e σ c'.H)) : wpAny (model X.prog X.w) X.A (call (.ref fa) us) (EP X pins σ Q) X.xe s := by
  obtain ⟨fd, ps, hF, hb, hk, hno⟩ := F.top.fn f fa hf
  have hl : ws.length = ps.length := Classical.byContradiction fun hn => by
    rw [hno ws c.ah hn] at q
    exact q.elim
  exact go_call (E := WE Wx σ) hF F.gd (F.room.mono (Nat.le_succ _)) I.env0 (hb.pos hnp) (passAt F.takes σ) I ru ⟨by rw [Paired.length rv]; exact hl, c, ws, rfl, ok, rv, q⟩
def eCall (CM : FId → List W → M W) (f : FId) (a : EnvW → M (List W)) : ME := fun env => mbind (a env) (CM f)
theorem se_call (hg : isGlob sc f = true) (hd : f ∈ T.defs) (hnp : T.nopos.contains (pl f) = false) (ha : SA T G CM k sc (e :: es) mr) (hs : (e :: es).all noStar = true) : SE T G CM k sc (.Call (.Name f p) (e :: es) [] pos) (eCall CM (pl f) mr) := fun X Wx F => by
  obtain ⟨fa, h1, h2⟩ := F.top.def_ f hd
  obtain ⟨fd, ps, hF, hb, hk, hno⟩ := F.top.fn (pl f) fa h1
  rw [List.all_cons, Bool.and_eq_true] at hs
  refine ⟨fun pins s σ H Q I ⟨c, env, e0, ok, re, q⟩ => ?_⟩
  subst e0
  refine wpAny_Call_Name_kw (ld_glob I (F.gl hg) h2 ?_ (glob_ok hg).2.1)
  refine PySem.W.callWith_K (h₀ := X.base) I.ok.mod.kin hk (thn ((ha X Wx F).run pos pins s σ c.H (fun vs H1 => ∃ c1 ws, c1.H = H1 ∧ c1.ok G ∧ RWL G c1 vs ws ∧ Po G (CM (pl f) ws c1.ah) c1 (VQ G Q) (fun e c' => WEx G Wx e σ c'.H)) I (tA.step ok re q fun ws c1 vs e1 ok1 re1 rvs q1 => ⟨c1, ws, rfl, ok1, rvs, q1⟩)) fun us s1 ⟨vs, H1, I1, r, c1, ws, e1, ok1, rvs, q1⟩ => ?_) (noStar_each hs.1 es X.env) (noStar_any hs.2 pos X.env)
  subst e1
  exact ⟨I1.kIn, call_sem F h1 hnp I1 ok1 rvs r q1⟩
/-- a local name that holds a def -/
def eCallV (T : Tb) (CM : FId → List W → M W) (i : Nat) (a : EnvW → M (List W)) : ME := fun env => mbind (mVar i env) fun w => match w with
  | .fn f => if T.nopos.contains (pl f) then mno else mbind (a env) (CM (pl f))
  | _ => mno
theorem se_callV {i : Nat} (hx : slot sc x = some i) (ha : SA T G CM k sc (e :: es) mr) (hs : (e :: es).all noStar = true) : SE T G CM k sc (.Call (.Name x p) (e :: es) [] pos) (eCallV T CM i mr) := fun X Wx F => by
  rw [List.all_cons, Bool.and_eq_true] at hs
  refine ⟨fun pins s σ H Q I ⟨c, env, e0, ok, re, q⟩ => ?_⟩
  subst e0
  have hv := (se_var (T := T) (G := G) (CM := CM) (k := k) (pos := p) hx X Wx F).run pins s σ c.H (fun v H1 => ∃ c1 f fa, c1.H = H1 ∧ c1.ok G ∧ EnvR G c1 env σ ∧ v = .ref fa ∧ G.fa (pl f) = some fa ∧ T.nopos.contains (pl f) = false ∧ Po G (mbind (mr env) (CM (pl f)) c1.ah) c1 (VQ G Q) (fun e c' => WEx G Wx e σ c'.H)) I (tE.step ok re q fun w c1 v e1 ok1 re1 rv q1 => by
    split at q1
    · rename_i f
      obtain ⟨fa, h1, h2⟩ := rv
      by_cases hnp : T.nopos.contains (pl f) = true
      · rw [if_pos hnp] at q1; exact q1.elim
      · rw [if_neg hnp] at q1
        exact ⟨c1, f, fa, rfl, ok1, re1, h1, h2, by simpa using hnp, q1⟩
    · exact q1.elim)
  refine wpAny_Call_Name_kw (thn hv fun u s1 ⟨v, H1, I1, r1, c1, f, fa, e1, ok1, re1, ev, hf, hnp, q1⟩ => ?_)
  subst e1 ev
  cases r1
  obtain ⟨fd, ps, hF, hb, hk, hno⟩ := F.top.fn (pl f) fa hf
  refine PySem.W.callWith_K (h₀ := X.base) I.ok.mod.kin hk (thn ((ha X Wx F).run pos pins s1 σ c1.H (fun vs H1 => ∃ c1 ws, c1.H = H1 ∧ c1.ok G ∧ RWL G c1 vs ws ∧ Po G (CM (pl f) ws c1.ah) c1 (VQ G Q) (fun e c' => WEx G Wx e σ c'.H)) I1 (tA.step ok1 re1 q1 fun ws c1 vs e1 ok1 re1 rvs q1 => ⟨c1, ws, rfl, ok1, rvs, q1⟩)) fun us s2 ⟨vs, H1, I2, r, c2, ws, e2, ok2, rvs, q2⟩ => ?_) (noStar_each hs.1 es X.env) (noStar_any hs.2 pos X.env)
  subst e2
  exact ⟨I2.kIn, call_sem F hf hnp I2 ok2 rvs r q2⟩

/-! ### attributes -/
def okBase : Expr → Bool
  | .Call (.Name _ _) [] [] _ => false
  | _ => true
theorem okBase_ok {o : Expr} (h : okBase o = true) (m : Str) (env : Env) : attributeBase o m env (eval o env) = eval o env := by
  unfold attributeBase
  split
  · cases h
  · rfl
def fldM (f : Str) (w : W) : M W := fun h => match w with
  | .r i => (match h[i]? with
    | some (.ins c fs) => (match fs.lookup f with
      | some v => .ok v h
      | none => .no)
    | _ => .no)
  | _ => .no
def eFld (a : ME) (f : Str) : ME := fun env => mbind (a env) (fldM f)
theorem fs_look {c : Cf} {f : Str} : ∀ {xs : List (Str × V)} {fs : List (Str × W)}, Paired (fun (p : Str × V) (q : Str × W) => p.1 = q.1 ∧ RW G c p.2 q.2) xs fs → ORel (RW G c) (xs.lookup f) (fs.lookup f)
  | _, _, .nil => trivial
  | (g, v) :: xs, (g', w) :: fs, .cons h r => by
    obtain ⟨h1, h2⟩ := h
    have h1' : g = g' := h1
    subst h1'
    rw [List.lookup_cons, List.lookup_cons]
    cases q : f == g with
    | true => exact h2
    | false => exact fs_look r
theorem se_fld (hb : okBase o = true) (hf : f ∈ T.flds) (ho : SE T G CM k sc o mo) : SE T G CM k sc (.Attribute o f pos) (eFld mo f) := fun X Wx F => by
  refine PE.imp (pe_fld (ho X Wx F) (okBase_ok hb f X.env)) fun σ H Q ⟨c, env, e, ok, re, q⟩ => ?_
  subst e
  refine tE.step ok re q fun w c1 v e1 ok1 re1 rv q1 => ?_
  unfold fldM at q1
  split at q1
  · rename_i i
    split at q1
    · rename_i cn fs e2
      split at q1
      · rename_i w2 e3
        obtain ⟨p, rfl, h1, C, dx, xs, hx, hC, r2⟩ := rRef ok1 rv e2
        have q2 := fs_look (f := f) r2
        rw [e3] at q2
        cases e4 : xs.lookup f with
        | none => rw [e4] at q2; exact q2.elim
        | some v2 =>
          rw [e4] at q2
          obtain ⟨hc, hn⟩ := F.top.own cn C hC
          exact ⟨p, C, dx, xs, v2, rfl, hx, hc, hn f hf, e4, q1.here ok1 _ q2⟩
      · exact q1.elim
    · exact q1.elim
  · exact q1.elim

/-! ### own methods -/
theorem all_star : ∀ {es : List Expr}, es.all noStar = true → ∀ (pos : Pos) (env : Env), (backTo pos (starEach es env)).all (fun x => !x.1) = true
  | [], _, _, _ => rfl
  | e :: es, h, pos, env => by
    rw [List.all_cons, Bool.and_eq_true] at h
    rw [noStar_each h.1]
    show (true && (backTo pos (starEach es env)).all (fun x => !x.1)) = true
    rw [all_star h.2]; rfl
theorem few_ok (h : es.all noStar = true) (hl : es.length < 30) (pos : Pos) (env : Env) : ((backTo pos (starEach es env)).all (fun x => !x.1) && (backToKw pos (keywordEach [] env)).all (fun x => x.1.isSome) && decide (es.length + ([] : List Keyword).length + (if ([] : List Keyword).isEmpty then 0 else 1) < 30)) = true := by
  rw [all_star h]
  show (true && decide (es.length + 0 + 0 < 30)) = true
  simp [hl]
theorem own_call {M : Model} {A : Around} {E : Value → Shared → Prop} {s : Shared} {env : Env} {Q : Value → Shared → Prop} (hb : okBase o = true) (h1 : es.all noStar = true) (hl : es.length < 30) (hline : (apos.endLine == pos.line) = true)
    (h : wpAny M A (eval o env) (fun ov s₁ => ∀ pl, wpAny M A (getMethod ov m pl) (fun fx s₂ => wpAny M A (callWith pos fx.1 fx.2 (backTo pos (starEach es env)) (backToKw pos (keywordEach [] env))) Q E s₂) E s₁) E s) :
    wpAny M A (eval (.Call (.Attribute o m apos) es [] pos) env) Q E s := by
  rw [arm_eval_Call, okBase_ok hb]
  refine wpAny_bind (wpAny_mono h (fun ov s₁ h₁ => wpAny_bind (wpAny_standAt ?_)) fun _ _ e => e)
  have hform : methodCallForm (es.length + ([] : List Keyword).length) (backTo pos (starEach es env)) (backToKw pos (keywordEach [] env)) = true := few_ok h1 hl pos env
  have hpos : methodCallPos true o env apos pos = pure pos := by unfold methodCallPos; simp [hline]
  unfold methodCall
  rw [hform]
  unfold calleeOf
  rw [if_pos rfl]
  exact wpAny_bind (wpAny_holding (wpAny_mono (h₁ _) (fun fx s₂ h₂ => wpAny_bind (wpAny_of_eq hpos h₂)) fun _ _ e => e))
/-- o.m(..) of an own class -/
def methM (T : Tb) (CM : FId → List W → M W) (m : Str) (o : W) (a : M (List W)) : M W := fun h => match o with
  | .r i => (match h[i]? with
    | some (.ins c fs) => (match fs.lookup m with
      | none => if T.meths.contains (c, m) && !T.nopos.contains (c, m) then mbind a (fun ws => CM (c, m) (.r i :: ws)) h else .no
      | some _ => .no)
    | _ => .no)
  | _ => .no
def eMeth (T : Tb) (CM : FId → List W → M W) (m : Str) (o : ME) (a : EnvW → M (List W)) : ME := fun env => mbind (o env) fun w => methM T CM m w (a env)
theorem meth_at {X : Cx} {Wx : WX} (F : Fits T G CM k X sc Wx) {σ : L2.St} {c : Cf} {v : V} {w : W} {env : EnvW} {Q : VK} (ok : c.ok G) (rv : RW G c v w) (q : Po G (methM T CM m w (mr env) c.ah) c (VQ G Q) (fun e c' => WEx G Wx e σ c'.H)) :
    ∃ i p C dx xs cn fa, w = .r i ∧ v = .ref p ∧ c.H p = some (.ins C dx xs) ∧ Cls X.K C ∧ xs.lookup m = none ∧ G.fa (cn, m) = some fa ∧ Meth X.K C m fa ∧ T.nopos.contains (cn, m) = false ∧ Po G (mbind (mr env) (fun ws => CM (cn, m) (.r i :: ws)) c.ah) c (VQ G Q) (fun e c' => WEx G Wx e σ c'.H) := by
  unfold methM at q
  split at q
  · rename_i i
    split at q
    · rename_i cn fs e2
      split at q
      · rename_i e3
        obtain ⟨p, rfl, h1, C, dx, xs, hx, hC, r2⟩ := rRef ok rv e2
        have q2 := fs_look (f := m) r2
        rw [e3] at q2
        cases e4 : xs.lookup m with
        | some v2 => rw [e4] at q2; exact q2.elim
        | none =>
          split at q
          · rename_i hm
            obtain ⟨hm, hnp⟩ := Bool.and_eq_true_iff.mp hm
            obtain ⟨Ca, fa, h2, hfa, hM⟩ := F.top.meth cn m (by simpa using hm)
            rw [hC] at h2; cases h2
            exact ⟨i, p, C, dx, xs, cn, fa, rfl, rfl, hx, (F.top.own cn C hC).1, e4, hfa, hM, (Bool.not_eq_true' _).mp hnp, q⟩
          · exact q.elim
      · exact q.elim
    · exact q.elim
  · exact q.elim
theorem se_meth0 (hb : okBase o = true) (hline : (apos.endLine == pos.line) = true) (ho : SE T G CM k sc o mo) : SE T G CM k sc (.Call (.Attribute o m apos) [] [] pos) (eMeth T CM m mo aNil) := fun X Wx F => by
  refine ⟨fun pins s σ H Q I ⟨c, env, e0, ok, re, q⟩ => ?_⟩
  subst e0
  refine own_call (es := []) hb rfl (by decide) hline ?_
  refine thn ((ho X Wx F).run pins s σ c.H (fun v H1 => ∃ c1 w, c1.H = H1 ∧ c1.ok G ∧ EnvR G c1 env σ ∧ RW G c1 v w ∧ Po G (methM T CM m w (aNil env) c1.ah) c1 (VQ G Q) (fun e c' => WEx G Wx e σ c'.H)) I (tE.step ok re q fun w c1 v e1 ok1 re1 rv q1 => ⟨c1, w, rfl, ok1, re1, rv, q1⟩)) fun u s1 ⟨v, H1, I1, r1, c1, w, e1, ok1, re1, rv, q1⟩ => fun pl => ?_
  subst e1
  obtain ⟨i, p, C, dx, xs, cn, fa, rfl, rfl, hx, hC, hl2, hfa, hM, hnp, q2⟩ := meth_at F ok1 rv q1
  cases r1
  refine getmeth_ok I1 hx hC hM hl2 ?_
  refine PySem.W.callWith_K0 (first := [.ref p]) I1.kIn hM.kp ?_
  exact call_sem F hfa hnp I1 ok1 (vs := [.ref p]) (ws := [.r i]) (.cons rv .nil) (.cons rfl .nil) q2
theorem se_meth (hb : okBase o = true) (hline : (apos.endLine == pos.line) = true) (ho : SE T G CM k sc o mo) (ha : SA T G CM k sc (e :: es) mr) (hs : (e :: es).all noStar = true) (hl : (e :: es).length < 30) : SE T G CM k sc (.Call (.Attribute o m apos) (e :: es) [] pos) (eMeth T CM m mo mr) := fun X Wx F => by
  refine ⟨fun pins s σ H Q I ⟨c, env, e0, ok, re, q⟩ => ?_⟩
  subst e0
  refine own_call hb hs hl hline ?_
  refine thn ((ho X Wx F).run pins s σ c.H (fun v H1 => ∃ c1 w, c1.H = H1 ∧ c1.ok G ∧ EnvR G c1 env σ ∧ RW G c1 v w ∧ Po G (methM T CM m w (mr env) c1.ah) c1 (VQ G Q) (fun e c' => WEx G Wx e σ c'.H)) I (tE.step ok re q fun w c1 v e1 ok1 re1 rv q1 => ⟨c1, w, rfl, ok1, re1, rv, q1⟩)) fun u s1 ⟨v, H1, I1, r1, c1, w, e1, ok1, re1, rv, q1⟩ => fun pl => ?_
  subst e1
  obtain ⟨i, p, C, dx, xs, cn, fa, rfl, rfl, hx, hC, hl2, hfa, hM, hnp, q2⟩ := meth_at F ok1 rv q1
  cases r1
  refine getmeth_ok I1 hx hC hM hl2 ?_
  rw [List.all_cons, Bool.and_eq_true] at hs
  refine PySem.W.callWith_K (first := [.ref p]) (h₀ := X.base) I.ok.mod.kin hM.kp (thn ((ha X Wx F).run pos pins s1 σ c1.H (fun vs H1 => ∃ c1 ws, c1.H = H1 ∧ c1.ok G ∧ RWL G c1 vs ws ∧ RW G c1 (.ref p) (.r i) ∧ Po G (CM (cn, m) (.r i :: ws) c1.ah) c1 (VQ G Q) (fun e c' => WEx G Wx e σ c'.H)) I1 (tA.step ok1 re1 q2 fun ws c2 vs e2 ok2 re2 rvs q3 => ⟨c2, ws, rfl, ok2, rvs, RW.mono e2 rv, q3⟩)) fun us s2 ⟨vs, H1, I2, r, c2, ws, e2, ok2, rvs, rp, q3⟩ => ?_) (noStar_each hs.1 es X.env) (noStar_any hs.2 pos X.env)
  subst e2
  exact ⟨I2.kIn, call_sem F hfa hnp I2 ok2 (.cons rp rvs) (.cons rfl r) q3⟩

/-! ### new objects -/
theorem run_makeS {X : Cx} {CX : CXT} {kk : Nat} {f C : Addr} {fd : FuncData} {ps : List Str} {sp : Sp} {E : XK} {pins : List (Addr × Obj)} {σ : L2.St} {H : Hp} {s : Shared} {Q : VK} {us : List Value} {vs : List V} (M : Mk X.K C f) (F : FnG X.prog X.w X.K X.mg X.base CX kk f fd ps sp) (hgd : X.A.guards = some []) (hr : Room (kk + 1) X.A) {ds : List Value} {dvs : List V} (hb : Binds X.K fd ps ds) (hd : Vals dvs ds)
    (hx : PassesAt CX X σ E) (I : Inv X pins σ H s) (r : Vals vs us)
    (h : ∀ x dx, H x = none → H dx = none → dx ≠ x → sp (.ref x :: (vs ++ dvs)) (upd (upd H dx (.own x)) x (.ins C dx [])) (fun v H2 => v = .non ∧ Q (.ref x) H2) E) :
    wpAny (model X.prog X.w) X.A (call (.ref C) us) (EP X pins σ Q) X.xe s := by
  have hq := h (s.heap.objs.size + 1) s.heap.objs.size (I.hok.fresh (Nat.le_succ _)) (I.hok.fresh (Nat.le_refl _)) (Nat.ne_of_lt (Nat.lt_succ_self _))
  have I2 := Inv.made (C := C) I
  have r2 : Vals (V.ref (s.heap.objs.size + 1) :: (vs ++ dvs)) (Value.ref (s.heap.objs.size + 1) :: (us ++ ds)) := .cons rfl (r.append hd)
  have hl : (Value.ref (s.heap.objs.size + 1) :: (us ++ ds)).length = ps.length := by
    have e := r2.length
    rw [F.size _ _ _ _ hq] at e
    exact e.symm
  have b := hb { s with heap := (s.heap.push PySem.W.emptyDict).push (PySem.W.instObj C s.heap.objs.size) } (Value.ref (s.heap.objs.size + 1) :: us) I2.kIn (by rw [List.cons_append]; exact hl)
  rw [List.cons_append] at b
  refine wpAny_call (make_map (f := f) I.kIn M.makes M.init (beq_iff_eq.mp M.fn) (codeAny_mono (F.go _ X.stack _ _ ⟨Value.ref (s.heap.objs.size + 1) :: us, []⟩ (Value.ref (s.heap.objs.size + 1) :: (us ++ ds)) _ _ E (under_guards hgd) (hr.make C us [])
    (I2.env0.make C us []) b r2 hq) fun r s' hq' => ?_))
  cases r with
  | error e => exact hx pins _ _ e s' I2 hq'
  | ok fl =>
    cases fl with
    | ret u =>
      obtain ⟨v, H', I3, rv, ev, q3⟩ := I2.after hq'
      subst ev
      exact ⟨rv, ⟨V.ref (s.heap.objs.size + 1), H', I3, rfl, q3⟩⟩
    | next => exact False.elim hq'
    | brk => exact False.elim hq'
    | cont => exact False.elim hq'

/-- the defaults behind the written values -/
def dflOf (T : Tb) (f : FId) (n : Nat) : List W := match T.dfls.lookup f with
  | some (m, ds) => if n = m then ds.map .d else []
  | none => []
def dflOk (T : Tb) (f : FId) (n : Nat) : Bool := match T.dfls.lookup f with
  | some (m, _) => decide (n = m) || !T.nopos.contains f
  | none => !T.nopos.contains f
theorem rpl_w {c : Cf} : ∀ {dvs : List V} {ds : List PyData}, RpL G.K c dvs ds → RWL G c dvs (ds.map .d)
  | _, _, .nil => .nil
  | _, _, .cons h r => .cons h (rpl_w r)
theorem dfl_at {X : Cx} {f : FId} {fd : FuncData} {ps : List Str} {n : Nat} (B : BindsD T G X.K f fd ps) (h : dflOk T f n = true) : ∃ dvs us, Vals dvs us ∧ (∀ c, RWL G c dvs (dflOf T f n)) ∧ Binds X.K fd ps us := by
  unfold dflOk at h
  unfold dflOf
  split at h
  · rename_i m ds e
    by_cases q : n = m
    · simp only [if_pos q]
      obtain ⟨_, dvs, us, h1, h2, h3⟩ := B.dfl m ds e
      exact ⟨dvs, us, h1, fun c => rpl_w (h2 c), h3⟩
    · rw [decide_eq_false q, Bool.false_or] at h
      simp only [if_neg q]
      exact ⟨[], [], .nil, fun c => .nil, B.pos (by simpa using h)⟩
  · rename_i e
    exact ⟨[], [], .nil, fun c => .nil, B.pos (by simpa using h)⟩
/-- C(..): a new instance without attributes, then __init__ -/
def eNew (CM : FId → List W → M W) (x : Str) (ds : List W) (a : EnvW → M (List W)) : ME := fun env => mbind (a env) fun ws => fun h => match CM (x, "__init__") (.r h.length :: (ws ++ ds)) (h ++ [.ins x []]) with
  | .ok (.d .none) h' => .ok (.r h.length) h'
  | .ex c h' => .ex c h'
  | _ => .no
theorem new_sem {nn : Nat} {X : Cx} {Wx : WX} (F : Fits T G CM k X sc Wx) {Ca fi : Addr} (hCa : G.ca x = some Ca) (hM : Mk X.K Ca fi) (hfi : G.fa (x, "__init__") = some fi) {pins : List (Addr × Obj)} {s : Shared} {σ : L2.St} {c : Cf} {vs : List V} {ws : List W} {us : List Value} {Q : VK} (I : Inv X pins σ c.H s) (ok : c.ok G)
    (rv : RWL G c vs ws) (ru : Vals vs us) (hdf : dflOk T (x, "__init__") nn = true) (q : Po G (match CM (x, "__init__") (.r c.ah.length :: (ws ++ dflOf T (x, "__init__") nn)) (c.ah ++ [.ins x []]) with
      | .ok (.d .none) h' => R.ok (W.r c.ah.length) h'
      | .ex c h' => .ex c h'
      | _ => .no) c (VQ G Q) (fun e c' => WEx G Wx e σ c'.H)) : wpAny (model X.prog X.w) X.A (call (.ref Ca) us) (EP X pins σ Q) X.xe s := by
  obtain ⟨fd, ps, hF, hb, hk, hno⟩ := F.top.fn (x, "__init__") fi hfi
  have hl : (W.r c.ah.length :: (ws ++ dflOf T (x, "__init__") nn)).length = ps.length := Classical.byContradiction fun hn => by
    rw [hno _ _ hn] at q
    exact q.elim
  obtain ⟨dvs, dus, d1, d2, d3⟩ := dfl_at hb hdf
  refine run_makeS (E := WE Wx σ) hM hF F.gd F.room d3 d1 (passAt F.takes σ) I ru fun p dx hp hdx hne => ?_
  have hdx1 : c.H dx = none := hdx
  have ok1 := Cf.lay_ok (o := .own p) ok hdx1
  have ex1 := Cf.lay_ext (c := c) (o := .own p) hdx1
  have hp1 : (c.lay dx (.own p)).H p = none := by show upd c.H dx (.own p) p = none; rw [upd_ne (Ne.symm hne)]; exact hp
  have ex2 := Cf.new_ext (o := .ins Ca dx []) (ao := .ins x []) ok1 hp1
  have ok2 : ((c.lay dx (.own p)).new p (.ins Ca dx []) (.ins x [])).ok G := Cf.new_ok ok1 hp1 ⟨Ca, dx, [], upd_same, hCa, .nil⟩
  have rp : RW G ((c.lay dx (.own p)).new p (.ins Ca dx []) (.ins x [])) (.ref p) (.r c.ah.length) := ⟨p, rfl, by show (c.μ ++ [p])[c.ah.length]? = some p; rw [← ok.len]; simp⟩
  have ex := ex1.trans ex2
  have rall : RWL G c (vs ++ dvs) (ws ++ dflOf T (x, "__init__") nn) := RWL.append rv (d2 c)
  refine ⟨by rw [List.length_cons, Paired.length rall]; exact hl, _, W.r c.ah.length :: (ws ++ dflOf T (x, "__init__") nn), rfl, ok2, .cons rp (RWL.mono ex rall), ?_⟩
  show Po G (CM (x, "__init__") (.r c.ah.length :: (ws ++ dflOf T (x, "__init__") nn)) (c.ah ++ [.ins x []])) ((c.lay dx (.own p)).new p (.ins Ca dx []) (.ins x [])) _ _
  split at q
  · rename_i h' e
    rw [e]
    intro c3 ex3 ok3 e3 v hv
    refine ⟨rNon hv, q c3 (ex.trans ex3) ok3 e3 _ (RW.mono ex3 rp)⟩
  · rename_i cx h' e
    rw [e]
    exact fun c3 ex3 ok3 e3 => q c3 (ex.trans ex3) ok3 e3
  · exact q.elim
theorem se_new {nn : Nat} (hdf : dflOk T (x, "__init__") nn = true) (hg : isGlob sc x = true) (hx : x ∈ T.clss) (ha : SA T G CM k sc (e :: es) mr) (hs : (e :: es).all noStar = true) : SE T G CM k sc (.Call (.Name x p) (e :: es) [] pos) (eNew CM x (dflOf T (x, "__init__") nn) mr) := fun X Wx F => by
  obtain ⟨Ca, fi, h1, h2, h3, h4⟩ := F.top.cls x hx
  rw [List.all_cons, Bool.and_eq_true] at hs
  refine ⟨fun pins s σ H Q I ⟨c, env, e0, ok, re, q⟩ => ?_⟩
  subst e0
  refine wpAny_Call_Name_kw (ld_glob I (F.gl hg) h2 ?_ (glob_ok hg).2.1)
  refine PySem.W.callWith_K (h₀ := X.base) I.ok.mod.kin h3.kp (thn ((ha X Wx F).run pos pins s σ c.H (fun vs H1 => ∃ c1 ws, c1.H = H1 ∧ c1.ok G ∧ RWL G c1 vs ws ∧ Po G (match CM (x, "__init__") (.r c1.ah.length :: (ws ++ dflOf T (x, "__init__") nn)) (c1.ah ++ [.ins x []]) with
      | .ok (.d .none) h' => R.ok (W.r c1.ah.length) h'
      | .ex c h' => .ex c h'
      | _ => .no) c1 (VQ G Q) (fun e c' => WEx G Wx e σ c'.H)) I (tA.step ok re q fun ws c1 vs e1 ok1 re1 rvs q1 => ⟨c1, ws, rfl, ok1, rvs, q1⟩)) fun us s1 ⟨vs, H1, I1, r, c1, ws, e1, ok1, rvs, q1⟩ => ?_) (noStar_each hs.1 es X.env) (noStar_any hs.2 pos X.env)
  subst e1
  exact ⟨I1.kIn, new_sem F h1 h3 h4 I1 ok1 rvs r hdf q1⟩
theorem se_new0 {nn : Nat} (hdf : dflOk T (x, "__init__") nn = true) (hg : isGlob sc x = true) (hx : x ∈ T.clss) : SE T G CM k sc (.Call (.Name x p) [] [] pos) (eNew CM x (dflOf T (x, "__init__") nn) aNil) := fun X Wx F => by
  obtain ⟨Ca, fi, h1, h2, h3, h4⟩ := F.top.cls x hx
  refine ⟨fun pins s σ H Q I ⟨c, env, e0, ok, re, q⟩ => ?_⟩
  subst e0
  refine wpAny_Call_Name_kw (ld_glob I (F.gl hg) h2 ?_ (glob_ok hg).2.1)
  exact PySem.W.callWith_K0 I.kIn h3.kp (new_sem (ws := []) F h1 h3 h4 I ok .nil .nil hdf q)
end
end Ev
set_option Elab.async false
set_option linter.all false
set_option maxRecDepth 100000
set_option maxHeartbeats 2000000
/-! E9: methods of built-in objects. -/
namespace Ev
open PySem PySem.Spec PyProof.Rows L2

def MtS (G : GA) (f : W → List W → M W) (r : V → List V → Hp → VK → Prop) : Prop := ∀ (c : Cf) (x : V) (xs : List V) (w : W) (ws : List W) (Q : VK) (E : Str → Cf → Prop), c.ok G → RW G c x w → RWL G c xs ws → Po G (f w ws c.ah) c (VQ G Q) E → r x xs c.H Q
/-- a tracked list is changed -/
theorem put_list {G : GA} {c : Cf} {i : Nat} {a : Addr} {old ws : List W} {us : List V} (k : c.ok G) (h : c.μ[i]? = some a) (ho : c.ah[i]? = some (.lst old)) (r : RWL G c us ws) : c.ext (c.put i a (.lst us) (.lst ws)) ∧ (c.put i a (.lst us) (.lst ws)).ok G := by
  have ex := Cf.put_ext (o := .lst us) (ao := .lst ws) k h ho (by intro e; cases e)
  exact ⟨ex, Cf.put_ok k h ho (by intro e; cases e) ⟨us, upd_same, RWL.mono ex r⟩⟩
def appM (w : W) (ws : List W) : M W := fun h => match w, ws with
  | .r i, [y] => (match h[i]? with
    | some (.lst xs) => if xs.length < sizeLine then .ok (.d .none) (h.set i (.lst (xs ++ [y]))) else .no
    | _ => .no)
  | _, _ => .no
theorem app_ok {X : Cx} {G : GA} : ∃ r, MtR X "list.append" r ∧ MtS G appM r := by
  refine ⟨_, mt_append, fun c x xs w ws Q E k rx rs h => ?_⟩
  unfold appM at h
  split at h
  · rename_i i y
    split at h
    · rename_i us e
      obtain ⟨p, rfl, h1, vs, hv, rv⟩ := rRef k rx e
      obtain ⟨v, rfl, ry⟩ := rwl1 rs
      split at h
      · rename_i hz
        obtain ⟨ex, ok⟩ := put_list k h1 e (RWL.append rv (.cons ry .nil))
        exact ⟨p, vs, v, rfl, rfl, hv, by rw [Paired.length rv]; exact hz, h _ ex ok rfl _ .non⟩
      · exact h.elim
    · exact h.elim
  · exact h.elim
def insM (w : W) (ws : List W) : M W := fun h => match w, ws with
  | .r i, [.d (.int n), y] => (match h[i]? with
    | some (.lst xs) => if xs.length < sizeLine ∧ 0 ≤ n ∧ n < 2 ^ 63 then .ok (.d .none) (h.set i (.lst (xs.take n.toNat ++ [y] ++ xs.drop n.toNat))) else .no
    | _ => .no)
  | _, _ => .no
theorem ins_ok {X : Cx} {G : GA} : ∃ r, MtR X "list.insert" r ∧ MtS G insM r := by
  refine ⟨_, mt_insert, fun c x xs w ws Q E k rx rs h => ?_⟩
  unfold insM at h
  split at h
  · rename_i i n y
    split at h
    · rename_i us e
      obtain ⟨p, rfl, h1, vs, hv, rv⟩ := rRef k rx e
      obtain ⟨v, v', rfl, ry, ry'⟩ := rwl2 rs
      split at h
      · rename_i hz
        obtain ⟨ex, ok⟩ := put_list k h1 e (RWL.append (RWL.append (Paired.takeP n.toNat rv) (.cons ry' .nil)) (Paired.dropP n.toNat rv))
        rw [rInt ry]
        exact ⟨p, vs, n, v', rfl, rfl, hv, by rw [Paired.length rv]; exact hz.1, hz.2.1, hz.2.2, h _ ex ok rfl _ .non⟩
      · exact h.elim
    · exact h.elim
  · exact h.elim
def popM (w : W) (ws : List W) : M W := fun h => match w, ws with
  | .r i, [] => (match h[i]? with
    | some (.lst xs) => (match xs[xs.length - 1]? with
      | some y => .ok y (h.set i (.lst xs.dropLast))
      | none => .no)
    | _ => .no)
  | _, _ => .no
theorem dropLast_rwl {G : GA} {c : Cf} {us : List V} {ws : List W} (r : RWL G c us ws) : RWL G c us.dropLast ws.dropLast := by
  rw [List.dropLast_eq_take, List.dropLast_eq_take, Paired.length r]
  exact Paired.takeP _ r
theorem pop_ok {X : Cx} {G : GA} : ∃ r, MtR X "list.pop" r ∧ MtS G popM r := by
  refine ⟨_, mt_pop, fun c x xs w ws Q E k rx rs h => ?_⟩
  unfold popM at h
  split at h
  · rename_i i
    split at h
    · rename_i us e
      obtain ⟨p, rfl, h1, vs, hv, rv⟩ := rRef k rx e
      cases rs
      split at h
      · rename_i y hy
        obtain ⟨v, hv2, ry⟩ := RWL.get rv hy
        obtain ⟨ex, ok⟩ := put_list k h1 e (dropLast_rwl rv)
        exact ⟨p, vs, v, rfl, rfl, hv, by rw [Paired.length rv]; exact hv2, h _ ex ok rfl _ (RW.mono ex ry)⟩
      · exact h.elim
    · exact h.elim
  · exact h.elim
/-- list.index, list.count of flat data -/
def idxD (x : PyData) : List PyData → Nat → Option Nat
  | [], _ => none
  | y :: r, n => if PyData.eqv y x then some n else idxD x r (n + 1)
def idxM (w : W) (ws : List W) : M W := fun h => match ws with
  | [.d x] => (match listD h w with
    | some ds => if flatD x && ds.all flatD then (match idxD x ds 0 with
      | some n => .ok (wI n) h
      | none => .no) else .no
    | none => .no)
  | _ => .no
theorem idxD_ok {K : PySem.W.Frag} {c : Cf} {u : V} {x : PyData} (hx : Rp K c u x) (fx : flatD x = true) : ∀ {ds : List PyData} {xs : List V} {n j : Nat}, RpL K c xs ds → ds.all flatD = true → idxD x ds n = some j → n ≤ j ∧ (∃ z, xs[j - n]? = some z ∧ eqV z u = true) ∧ ∀ (m : Nat) (z : V), m < j - n → xs[m]? = some z → eqV z u = false
  | [], _, _, _, .nil, _, h => by cases h
  | y :: ds, v :: xs, n, j, .cons hy r, f, h => by
    rw [List.all_cons, Bool.and_eq_true] at f
    unfold idxD at h
    have e := flat_eq hy hx f.1 fx
    split at h
    · rename_i ht
      cases h
      refine ⟨Nat.le_refl _, ⟨v, by simp, by rw [e]; exact ht⟩, fun m z hm => by omega⟩
    · rename_i hf
      obtain ⟨h1, ⟨z, h2, h3⟩, h4⟩ := idxD_ok hx fx r f.2 h
      refine ⟨by omega, ⟨z, ?_, h3⟩, fun m z hm hz => ?_⟩
      · rw [show j - n = (j - (n + 1)) + 1 by omega, List.getElem?_cons_succ]; exact h2
      · cases m with
        | zero =>
          simp at hz
          subst hz
          rw [e]
          simpa using hf
        | succ m => exact h4 m z (by omega) (by simpa using hz)
theorem idx_ok {X : Cx} {G : GA} (hK : X.K = G.K) : ∃ r, MtR X "list.index" r ∧ MtS G idxM r := by
  refine ⟨_, mt_index, fun c x xs w ws Q E k rx rs h => ?_⟩
  unfold idxM at h
  split at h
  · rename_i y
    obtain ⟨v, rfl, ry⟩ := rwl1 rs
    split at h
    · rename_i ds e
      obtain ⟨p, ys, rfl, h1, r2⟩ := listD_ok k rx e
      split at h
      · rename_i hf
        obtain ⟨f1, f2⟩ := Bool.and_eq_true_iff.mp hf
        split at h
        · rename_i n hn
          obtain ⟨_, ⟨z, h2, h3⟩, h4⟩ := idxD_ok ry f1 r2 f2 hn
          rw [Nat.sub_zero] at h2 h4
          exact ⟨p, ys, v, n, z, rfl, rfl, by rw [hK]; exact h1, flat_rp ry f1, (flat_any ry f1 r2 f2).1, h2, h3, h4, h.here k _ (.int _)⟩
        · exact h.elim
      · exact h.elim
    · exact h.elim
  · exact h.elim
theorem countP_V {K : PySem.W.Frag} {c : Cf} {u : V} {x : PyData} (hx : Rp K c u x) (fx : flatD x = true) : ∀ {ds : List PyData} {xs : List V} {us : List Value}, RpL K c xs ds → ds.all flatD = true → Vals xs us → us.countP (eqU u) = ds.countP fun y => PyData.eqv y x
  | [], _, _, .nil, _, .nil => rfl
  | y :: ds, v :: xs, w :: us, .cons hy r, f, .cons rv t => by
    rw [List.all_cons, Bool.and_eq_true] at f
    rw [List.countP_cons, List.countP_cons, countP_V hx fx r f.2 t, eqU_of rv (flat_rp hy f.1), flat_eq hy hx f.1 fx]
def rCntF (K : PySem.W.Frag) : V → List V → Hp → VK → Prop := fun x xs H Q => ∃ (a : Addr) (ys : List V) (y : V), x = V.ref a ∧ xs = [y] ∧ SqL K H a ys ∧ flatV y = true ∧ ys.all flatV = true ∧ ∀ n : Nat, (∀ us, Vals ys us → us.countP (eqU y) = n) → Q (.int n) H
theorem mt_countF {X : Cx} : MtR X "list.count" (rCntF X.K) := by
  intro pins s σ H x xs v us Q I rx rxs h
  obtain ⟨a, ys, y, rfl, rfl, hs, fy, fys, q⟩ := h
  cases rx
  obtain ⟨uy, rfl, ry⟩ := rxs.one
  obtain ⟨its, rv, ⟨⟨cls, dd, data, sl⟩, n, ho, hc, hdn, hd⟩, hlen⟩ := I.list hs
  simp only at hc hd
  subst hc hd
  refine call_meets PySem.F.slot_list_count ⟨_, ho, rfl⟩ PySem.F.entry_list_count (PySem.F.args_list_count_2 _ _)
    (SeqAt.list_countAt a its.toArray n dd sl uy (eqU y)) ⟨ho, fun u' hu' => mem_eqAt ry fy rv fys u' (by simpa using hu'), ?_⟩
  refine ⟨.int (its.countP (eqU y) : Nat), H, I.tok _, ⟨s.toks, rfl⟩, q _ fun us hu => ?_⟩
  clear q
  have : ∀ {ys : List V} {us ws : List Value}, Vals ys us → Vals ys ws → ys.all flatV = true → us.countP (eqU y) = ws.countP (eqU y) := by
    intro ys us ws h1
    induction h1 generalizing ws with
    | nil => intro h2 _; cases h2; rfl
    | cons r t ih =>
      intro h2 f
      cases h2 with
      | cons r2 t2 =>
        rw [List.all_cons, Bool.and_eq_true] at f
        rw [List.countP_cons, List.countP_cons, ih t2 f.2, eqU_of r f.1, eqU_of r2 f.1]
  exact this hu rv fys
def cntM (w : W) (ws : List W) : M W := fun h => match ws with
  | [.d x] => (match listD h w with
    | some ds => if flatD x && ds.all flatD then .ok (wI (ds.countP fun y => PyData.eqv y x)) h else .no
    | none => .no)
  | _ => .no
theorem cnt_ok {X : Cx} {G : GA} (hK : X.K = G.K) : ∃ r, MtR X "list.count" r ∧ MtS G cntM r := by
  refine ⟨_, mt_countF, fun c x xs w ws Q E k rx rs h => ?_⟩
  unfold cntM at h
  split at h
  · rename_i y
    obtain ⟨v, rfl, ry⟩ := rwl1 rs
    split at h
    · rename_i ds e
      obtain ⟨p, ys, rfl, h1, r2⟩ := listD_ok k rx e
      split at h
      · rename_i hf
        obtain ⟨f1, f2⟩ := Bool.and_eq_true_iff.mp hf
        refine ⟨p, ys, v, rfl, rfl, by rw [hK]; exact h1, flat_rp ry f1, (flat_any ry f1 r2 f2).1, fun n hn => ?_⟩
        have q := h.here k _ (.int _)
        by_cases hu : ∃ us, Vals ys us
        · obtain ⟨us, hu⟩ := hu
          rw [← hn us hu, countP_V ry f1 r2 f2 hu]
          exact q
        · exact (hu (vals_ex r2 f2)).elim
      · exact h.elim
    · exact h.elim
  · exact h.elim
where
  vals_ex {K : PySem.W.Frag} {c : Cf} : ∀ {ys : List V} {ds : List PyData}, RpL K c ys ds → ds.all flatD = true → ∃ us, Vals ys us
    | _, _, .nil, _ => ⟨[], .nil⟩
    | _, _, .cons h r, f => by
      rw [List.all_cons, Bool.and_eq_true] at f
      obtain ⟨us, hu⟩ := vals_ex r f.2
      cases h with
      | non => exact ⟨_ :: us, .cons rfl hu⟩
      | bl b => exact ⟨_ :: us, .cons rfl hu⟩
      | int i => exact ⟨Value.int i 0 :: us, .cons ⟨_, rfl⟩ hu⟩
      | str i => exact ⟨Value.str i 0 :: us, .cons ⟨_, rfl⟩ hu⟩
      | lst _ _ _ => cases f.1
      | tup _ _ _ => cases f.1
      | tupK _ _ => cases f.1
      | dic _ _ _ => cases f.1
/-- sep.join(texts) -/
def sjoinM (w : W) (ws : List W) : M W := fun h => match w, ws with
  | .d (.str a), [y] => (match ((peek h y).bind seqD).bind strsD with
    | some ys => if (ys.map (·.length)).sum + ys.length * a.length ≤ 16777216 then .ok (wS (Txt.join a ys)) h else .no
    | none => .no)
  | _, _ => .no
theorem sjoin_ok {X : Cx} {G : GA} (hK : X.K = G.K) : ∃ r, MtR X "str.join" r ∧ MtS G sjoinM r := by
  refine ⟨_, mt_join, fun c x xs w ws Q E k rx rs h => ?_⟩
  unfold sjoinM at h
  split at h
  · rename_i a y
    obtain ⟨v, rfl, ry⟩ := rwl1 rs
    rw [rStr rx]
    split at h
    · rename_i ys e
      obtain ⟨ds, e1, e2⟩ := bind_some_ok e
      obtain ⟨p, us, rfl, hq, r⟩ := peek_seq k ry e1
      rw [strsD_ok e2 r] at hq
      split at h
      · rename_i hz
        exact ⟨a, p, ys, rfl, rfl, by rw [hK]; exact hq, hz, h.here k _ (.str _)⟩
      · exact h.elim
    · exact h.elim
  · exact h.elim

/-! ### the calls -/
inductive BT | list | str
def BT.chk (h : AH) : BT → W → Bool
  | .list, .d (.list _) => true
  | .list, .r i => (match h[i]? with
    | some (.lst _) => true
    | _ => false)
  | .str, .d (.str _) => true
  | _, _ => false
def BT.name : BT → String
  | .list => "list"
  | .str => "str"
theorem BT.ty {X : Cx} {G : GA} (hK : X.K = G.K) {c : Cf} {t : BT} {w : W} {v : V} (k : c.ok G) (r : RW G c v w) (h : t.chk c.ah w = true) : tyV X.K t.name v c.H := by
  cases t with
  | list =>
    cases w with
    | d x =>
      cases x with
      | list ds =>
        obtain ⟨p, xs, rfl, h1, _⟩ := rLst r
        exact .inl ⟨rfl, xs, by rw [hK]; exact h1⟩
      | _ => cases h
    | r i =>
      simp only [BT.chk] at h
      split at h
      · rename_i ws e
        obtain ⟨p, rfl, h1, xs, hx, _⟩ := rRef k r e
        exact .inl ⟨rfl, xs, .inl (.inl hx)⟩
      · cases h
    | fn f => cases h
    | ex f => cases h
  | str =>
    cases w with
    | d x =>
      cases x with
      | str ds => rw [rStr r]; exact rfl
      | _ => cases h
    | _ => cases h
/-- a method by its name and how many arguments it has -/
def bmeth (m : Str) (n : Nat) : Option (BT × (W → List W → M W)) :=
  if m == "append" && n == 1 then some (.list, appM) else if m == "pop" && n == 0 then some (.list, popM) else if m == "index" && n == 1 then some (.list, idxM) else if m == "count" && n == 1 then some (.list, cntM) else if m == "join" && n == 1 then some (.str, sjoinM) else if m == "insert" && n == 2 then some (.list, insM) else none
theorem bmeth_ok {X : Cx} {G : GA} (hK : X.K = G.K) {m : Str} {n : Nat} {t : BT} {f : W → List W → M W} (h : bmeth m n = some (t, f)) : ∃ id r, PlainAttrs t.name ∧ Slot t.name m id ∧ typeOf (.builtin id) = pure (.type "method_descriptor") ∧ MtR X id r ∧ MtS G f r := by
  unfold bmeth at h
  split at h
  · rename_i e; cases h; rw [eq_of_beq (Bool.and_eq_true_iff.mp e).1]
    obtain ⟨r, h1, h2⟩ := app_ok (X := X) (G := G); exact ⟨_, r, PySem.F.plainAttrs_list, PySem.F.slot_list_append, PySem.F.type_list_append, h1, h2⟩
  · split at h
    · rename_i e; cases h; rw [eq_of_beq (Bool.and_eq_true_iff.mp e).1]
      obtain ⟨r, h1, h2⟩ := pop_ok (X := X) (G := G); exact ⟨_, r, PySem.F.plainAttrs_list, PySem.F.slot_list_pop, PySem.F.type_list_pop, h1, h2⟩
    · split at h
      · rename_i e; cases h; rw [eq_of_beq (Bool.and_eq_true_iff.mp e).1]
        obtain ⟨r, h1, h2⟩ := idx_ok (X := X) hK; exact ⟨_, r, PySem.F.plainAttrs_list, PySem.F.slot_list_index, PySem.F.type_list_index, h1, h2⟩
      · split at h
        · rename_i e; cases h; rw [eq_of_beq (Bool.and_eq_true_iff.mp e).1]
          obtain ⟨r, h1, h2⟩ := cnt_ok (X := X) hK; exact ⟨_, r, PySem.F.plainAttrs_list, PySem.F.slot_list_count, PySem.F.type_list_count, h1, h2⟩
        · split at h
          · rename_i e; cases h; rw [eq_of_beq (Bool.and_eq_true_iff.mp e).1]
            obtain ⟨r, h1, h2⟩ := sjoin_ok (X := X) hK; exact ⟨_, r, PySem.F.plainAttrs_str, PySem.F.slot_str_join, PySem.F.type_str_join, h1, h2⟩
          · split at h
            · rename_i e; cases h; rw [eq_of_beq (Bool.and_eq_true_iff.mp e).1]
              obtain ⟨r, h1, h2⟩ := ins_ok (X := X) (G := G); exact ⟨_, r, PySem.F.plainAttrs_list, PySem.F.slot_list_insert, PySem.F.type_list_insert, h1, h2⟩
            · cases h
def eBM (t : BT) (f : W → List W → M W) (o : ME) (a : EnvW → M (List W)) : ME := fun env => mbind (o env) fun w => fun h => if t.chk h w then mbind (a env) (f w) h else .no
section
variable {T : Tb} {G : GA} {CM : FId → List W → M W} {k : Nat} {sc : Sc} {e o : Expr} {es : List Expr} {mr : EnvW → M (List W)} {mo : ME} {pos apos : Pos} {m : Str} {t : BT} {f : W → List W → M W}
theorem se_bm0 (hm : bmeth m 0 = some (t, f)) (hb : okBase o = true) (hline : (apos.endLine == pos.line) = true) (ho : SE T G CM k sc o mo) : SE T G CM k sc (.Call (.Attribute o m apos) [] [] pos) (eBM t f mo aNil) := fun X Wx F => by
  obtain ⟨id, r, h1, h2, h3, h4, h5⟩ := bmeth_ok (X := X) F.K hm
  refine PE.imp (pe_bm0 h1 h2 h3 h4 (ho X Wx F) (okBase_ok hb m X.env) hline) fun σ H Q ⟨c, env, e, ok, re, q⟩ => ?_
  subst e
  refine tE.step ok re q fun w c1 v e1 ok1 re1 rv q1 => ?_
  by_cases hc : t.chk c1.ah w = true
  · rw [if_pos hc] at q1
    exact ⟨t.ty F.K ok1 rv hc, h5 c1 v [] w [] Q _ ok1 rv .nil q1⟩
  · rw [if_neg hc] at q1
    exact q1.elim
theorem se_bm (hm : bmeth m (e :: es).length = some (t, f)) (hb : okBase o = true) (hline : (apos.endLine == pos.line) = true) (ho : SE T G CM k sc o mo) (ha : SA T G CM k sc (e :: es) mr) (hs : (e :: es).all noStar = true) (hl : (e :: es).length < 30) : SE T G CM k sc (.Call (.Attribute o m apos) (e :: es) [] pos) (eBM t f mo mr) := fun X Wx F => by
  obtain ⟨id, r, h1, h2, h3, h4, h5⟩ := bmeth_ok (X := X) F.K hm
  have hs' := hs
  rw [List.all_cons, Bool.and_eq_true] at hs'
  refine PE.imp (pe_bm h1 h2 h3 h4 (ho X Wx F) (ha X Wx F) (okBase_ok hb m X.env) (few_ok hs hl pos X.env) hline (noStar_each hs'.1 es X.env) (noStar_any hs'.2 pos X.env)) fun σ H Q ⟨c, env, e, ok, re, q⟩ => ?_
  subst e
  refine tE.step ok re q fun w c1 v e1 ok1 re1 rv q1 => ?_
  by_cases hc : t.chk c1.ah w = true
  · rw [if_pos hc] at q1
    refine ⟨t.ty F.K ok1 rv hc, tA.step ok1 re1 q1 fun ws c2 vs e2 ok2 re2 rvs q2 => ?_⟩
    exact h5 c2 v vs w ws Q _ ok2 (RW.mono e2 rv) rvs q2
  · rw [if_neg hc] at q1
    exact q1.elim
end
end Ev
set_option Elab.async false
set_option linter.all false
set_option maxRecDepth 100000
set_option maxHeartbeats 2000000
/-! E10: statements. -/
namespace Ev
open PySem PySem.Spec PyProof.Rows L2

def sNil : MS := fun env => mpure (.nx env)
def sSeq (a b : MS) : MS := fun env => mbind (a env) fun fl => match fl with
  | .nx env' => b env'
  | fl => mpure fl
def sExpr (a : ME) : MS := fun env => mbind (a env) fun _ => mpure (.nx env)
def sRet (a : ME) : MS := fun env => mbind (a env) fun w => mpure (.rt w)
def sRetN : MS := fun _ => mpure (.rt (.d .none))
def sBreak : MS := fun env => mpure (.bk env)
def sCont : MS := fun env => mpure (.ct env)
def sIf (t : EnvW → M Bool) (a b : MS) : MS := fun env => mbind (t env) fun c => if c then a env else b env
def sSet (i : Nat) (a : ME) : MS := fun env => mbind (a env) fun w => mpure (.nx (env.set i (some w)))
def sRaise (c : Str) : MS := fun _ => mraise c
def wloop (t : EnvW → M Bool) (b : MS) : Nat → MS
  | 0 => fun _ => mno
  | n + 1 => fun env => mbind (t env) fun c => if c then mbind (b env) fun fl => match fl with
      | .nx e => wloop t b n e
      | .ct e => wloop t b n e
      | .bk e => mpure (.nx e)
      | .rt w => mpure (.rt w)
    else mpure (.nx env)
/-- a turn more changes nothing -/
theorem wloop_mono {t : EnvW → M Bool} {b : MS} : ∀ {n : Nat} {env : EnvW} {h : AH} {r : R Fl}, wloop t b n env h = r → r ≠ .no → wloop t b (n + 1) env h = r
  | 0, env, h, r, e, hr => absurd e.symm hr
  | n + 1, env, h, r, e, hr => by
    unfold wloop mbind at e ⊢
    cases q : t env h with
    | no => rw [q] at e; exact e
    | ex c h' => rw [q] at e; exact e
    | ok c h' =>
      rw [q] at e
      simp only at e ⊢
      cases c with
      | false => exact e
      | true =>
        simp only [if_true] at e ⊢
        cases q2 : b env h' with
        | no => rw [q2] at e; exact e
        | ex c h2 => rw [q2] at e; exact e
        | ok fl h2 =>
          rw [q2] at e
          simp only at e ⊢
          cases fl with
          | nx e2 => exact wloop_mono e hr
          | ct e2 => exact wloop_mono e hr
          | bk e2 => exact e
          | rt w => exact e
theorem wloop_up {t : EnvW → M Bool} {b : MS} {n m : Nat} {env : EnvW} {h : AH} {r : R Fl} (e : wloop t b n env h = r) (hr : r ≠ .no) (hm : n ≤ m) : wloop t b m env h = r := by
  obtain ⟨k, rfl⟩ : ∃ k, m = n + k := ⟨m - n, by omega⟩
  induction k with
  | zero => exact e
  | succ k ih => exact wloop_mono (ih (by omega)) hr
open Classical in
noncomputable def wAny (t : EnvW → M Bool) (b : MS) : MS := fun env h => if hx : ∃ n, wloop t b n env h ≠ .no then wloop t b (Classical.choose hx) env h else .no
noncomputable def sWhile (t : EnvW → M Bool) (b : MS) : MS := fun env h => match wloop t b 1000000 env h with
  | .no => wAny t b env h
  | r => r
theorem sWhile_some {t : EnvW → M Bool} {b : MS} {env : EnvW} {h : AH} : sWhile t b env h = .no ∨ ∃ n, sWhile t b env h = wloop t b n env h := by
  unfold sWhile
  split
  · unfold wAny
    split
    · exact .inr ⟨_, rfl⟩
    · exact .inl rfl
  · exact .inr ⟨_, rfl⟩
theorem sWhile_of {t : EnvW → M Bool} {b : MS} {env : EnvW} {h : AH} {n : Nat} {r : R Fl} (e : wloop t b n env h = r) (hr : r ≠ .no) : sWhile t b env h = r := by
  have one : ∀ m, wloop t b m env h ≠ .no → wloop t b m env h = r := fun m hm => by
    rcases Nat.le_total n m with q | q
    · exact wloop_up e hr q
    · exact (wloop_up rfl hm q).symm.trans e
  unfold sWhile
  split
  · rename_i q
    unfold wAny
    have hx : ∃ n, wloop t b n env h ≠ .no := ⟨n, by rw [e]; exact hr⟩
    rw [dif_pos hx]
    exact one _ (Classical.choose_spec hx)
  · rename_i q
    exact one _ q

section
variable {T : Tb} {G : GA} {CM : FId → List W → M W} {k : Nat} {sc : Sc} {e : Expr} {st : Stmt} {rest : List Stmt} {ma : ME} {ms mr : MS} {mt : EnvW → M Bool} {pos p p2 : Pos}
theorem ss_no : SS T G CM k sc st (fun _ => mno) := fun X Ex F hp hs hf => ⟨fun p s σ H D I ⟨c, env, _, _, _, h⟩ => h.elim⟩
theorem sss_nil : SSs T G CM k sc [] sNil := fun X Ex F hp hs hf => PSs.imp pss_nil fun D σ H ⟨c, env, e, ok, re, q⟩ => by
  subst e
  exact Po.here (a := Fl.nx env) q ok σ re
theorem sss_cons (h1 : SS T G CM k sc st ms) (h2 : SSs T G CM k sc rest mr) : SSs T G CM k sc (st :: rest) (sSeq ms mr) := fun X Ex F hp hs hf => by
  refine PSs.imp (pss_cons (h1 X Ex F hp hs hf) (h2 X Ex F hp hs hf)) fun D σ H ⟨c, env, e, ok, re, q⟩ => ?_
  subst e
  refine ⟨c, env, rfl, ok, re, Po.mono (Po.bind q) (fun fl c1 e1 ok1 q1 => ?_) fun _ _ _ _ q => q⟩
  cases fl with
  | nx env' => exact fun σ' re' => ⟨c1, env', rfl, ok1, re', q1⟩
  | rt w => exact fun v rv => Po.here (a := Fl.rt w) q1 ok1 v rv
  | bk w => exact fun v rv => Po.here (a := Fl.bk w) q1 ok1 v rv
  | ct w => exact fun v rv => Po.here (a := Fl.ct w) q1 ok1 v rv
theorem sss_one (h1 : SS T G CM k sc st ms) : SSs T G CM k sc [st] ms := fun X Ex F hp hs hf => pss_one (h1 X Ex F hp hs hf)
/-- the block of statements; the last without the empty one behind it -/
def sBlock : List MS → MS
  | [] => sNil
  | [m] => m
  | m :: ms => sSeq m (sBlock ms)
theorem sss_list {P : Stmt → MS} (hP : ∀ s, SS T G CM k sc s (P s)) : ∀ sts : List Stmt, SSs T G CM k sc sts (sBlock (sts.map P))
  | [] => sss_nil
  | [s] => sss_one (hP s)
  | s :: s2 :: r => sss_cons (hP s) (sss_list hP (s2 :: r))
def noComp : Expr → Bool
  | .ListComp .. => false
  | .SetComp .. => false
  | .DictComp .. => false
  | _ => true
theorem noComp_ok (h : noComp e = true) (t : Option Expr) (l : Nat) (env : Env) : swapsWith e t l env = pure false := by
  cases e <;> first | rfl | cases h
theorem ss_expr (he : SE T G CM k sc e ma) (hn : noComp e = true) : SS T G CM k sc (.Expr e pos) (sExpr ma) := fun X Ex F hp hs hf => by
  refine PS.imp (ps_expr (he X _ F) (noComp_ok hn _ _ _)) fun D σ H ⟨c, env, e, ok, re, q⟩ => ?_
  subst e
  exact tE.step ok re q fun w c1 v e1 ok1 re1 rv q1 => Po.here (a := Fl.nx env) q1 ok1 σ re1
theorem ss_ret (he : SE T G CM k sc e ma) : SS T G CM k sc (.Return (some e) pos) (sRet ma) := fun X Ex F hp hs hf => by
  refine PS.imp (ps_ret (he X _ F)) fun D σ H ⟨c, env, e, ok, re, q⟩ => ?_
  subst e
  exact tE.step ok re q fun w c1 v e1 ok1 re1 rv q1 => Po.here (a := Fl.rt w) q1 ok1 v rv
theorem ss_retN : SS T G CM k sc (.Return none pos) sRetN := fun X Ex F hp hs hf => PS.imp ps_retN fun D σ H ⟨c, env, e, ok, re, q⟩ => by
  subst e
  exact Po.here (a := Fl.rt (.d .none)) q ok _ .non
theorem ss_pass : SS T G CM k sc (.Pass pos) sNil := fun X Ex F hp hs hf => PS.imp ps_pass fun D σ H ⟨c, env, e, ok, re, q⟩ => by
  subst e
  exact Po.here (a := Fl.nx env) q ok σ re
theorem ss_break : SS T G CM k sc (.Break pos) sBreak := fun X Ex F hp hs hf => PS.imp ps_break fun D σ H ⟨c, env, e, ok, re, q⟩ => by
  subst e
  exact Po.here (a := Fl.bk env) q ok σ re
theorem ss_cont : SS T G CM k sc (.Continue pos) sCont := fun X Ex F hp hs hf => PS.imp ps_continue fun D σ H ⟨c, env, e, ok, re, q⟩ => by
  subst e
  exact Po.here (a := Fl.ct env) q ok σ re
theorem ss_if {a b : List Stmt} (ht : ST T G CM k sc e mt) (ha : SSs T G CM k sc a ms) (hb : SSs T G CM k sc b mr) : SS T G CM k sc (.If e a b pos) (sIf mt ms mr) := fun X Ex F hp hs hf => by
  refine PS.imp (ps_if (ht X _ F) (ha X Ex F hp hs hf) (hb X Ex F hp hs hf)) fun D σ H ⟨c, env, e, ok, re, q⟩ => ?_
  subst e
  refine tT.step ok re q fun t c1 e1 ok1 re1 q1 => ?_
  cases t with
  | true => exact ⟨c1, env, rfl, ok1, re1, q1⟩
  | false => exact ⟨c1, env, rfl, ok1, re1, q1⟩
/-- where a name may be stored -/
def slotS (sc : Sc) (x : Str) : Option Nat := match sc.scope.names.lookup x with
  | some .local => sc.N.idxOf? x
  | some .cell => if sc.own x then sc.N.idxOf? x else none
  | _ => none
theorem idx_at {N : List Str} {x : Str} {i : Nat} (q : N.idxOf? x = some i) : N[i]? = some x := by
  unfold List.idxOf? at q
  obtain ⟨hl, h1, _⟩ := List.findIdx?_eq_some_iff_getElem.mp q
  rw [List.getElem?_eq_getElem hl]
  exact congrArg some (by simpa using h1)
theorem slotS_ok {x : Str} {i : Nat} {X : Cx} {Wx : WX} (F : Fits T G CM k X sc Wx) (h : slotS sc x = some i) : X.N[i]? = some x ∧ Loc X.env.scope x ∧ (X.fn x = true ∨ X.env.scope.names.lookup x = some .local) := by
  unfold slotS at h
  rw [F.N, F.scope]
  split at h
  · rename_i hk; exact ⟨idx_at h, .inl hk, .inr hk⟩
  · rename_i hk
    split at h
    · rename_i ho; exact ⟨idx_at h, .inr hk, .inl (F.own x ho)⟩
    · cases h
  · cases h
theorem Fits.ndN {X : Cx} {Wx : WX} (F : Fits T G CM k X sc Wx) : X.N.Nodup := by rw [F.N]; exact F.nd
theorem ss_set {x : Str} {i : Nat} (hx : slotS sc x = some i) (he : SE T G CM k sc e ma) (hn : noComp e = true) : SS T G CM k sc (.Assign [.Name x p] e pos) (sSet i ma) := fun X Ex F hp hs hf => by
  obtain ⟨h1, h2, h3⟩ := slotS_ok F hx
  refine PS.imp (ps_set F.ndN h1 h2 (he X _ F) (noComp_ok hn _ _ _) h3) fun D σ H ⟨c, env, e, ok, re, q⟩ => ?_
  subst e
  exact tE.step ok re q fun w c1 v e1 ok1 re1 rv q1 => Po.here (a := Fl.nx (env.set i (some w))) q1 ok1 _ (re1.set rv)
theorem ss_raise {x m : Str} {j : Nat} (hg : isGlob sc x = true) (hx : x ∈ T.excs) : SS T G CM k sc (.Raise (some (.Call (.Name x p) [.Constant (.str m) j p2] [] pos)) none pos) (sRaise x) := fun X Ex F hp hs hf => by
  obtain ⟨Ca, h1, h2, h3, h4, h5⟩ := F.top.exc x hx
  refine PS.imp (ps_raise F.calm F.takes (pmk_own PySem.F.excBase_LookupError h3 h2 h4 h5 (F.gl hg) (glob_ok hg).2.1)) fun D σ H ⟨c, env, e, ok, re, q⟩ => ?_
  subst e
  exact q c (Cf.ext.refl c) ok rfl Ca h1
theorem ss_raise' {x m : Str} {j : Nat} {pos' : Pos} (hg : isGlob sc x = true) (hx : x ∈ T.excs) : SS T G CM k sc (.Raise (some (.Call (.Name x p) [.Constant (.str m) j p2] [] pos)) none pos') (sRaise x) := fun X Ex F hp hs hf => by
  obtain ⟨Ca, h1, h2, h3, h4, h5⟩ := F.top.exc x hx
  refine PS.imp (ps_raise F.calm F.takes (pmk_own PySem.F.excBase_LookupError h3 h2 h4 h5 (F.gl hg) (glob_ok hg).2.1)) fun D σ H ⟨c, env, e, ok, re, q⟩ => ?_
  subst e
  exact q c (Cf.ext.refl c) ok rfl Ca h1
theorem ss_while {body : List Stmt} (ht : ST T G CM k sc e mt) (hb : SSs T G CM k sc body ms) : SS T G CM k sc (.While e body [] pos) (sWhile mt ms) := fun X Ex F hp hs hf => by
  refine PS.imp (ps_while hp (ht X _ F) (hb X Ex F hp hs hf)) fun D σ H ⟨c, env, e, ok, re, q⟩ => ?_
  subst e
  rcases sWhile_some (t := mt) (b := ms) (env := env) (h := c.ah) with z | ⟨N, z⟩
  · rw [z] at q; exact q.elim
  rw [z] at q
  refine ⟨fun m σ H => ∃ c env, c.H = H ∧ c.ok G ∧ EnvR G c env σ ∧ Po G (wloop mt ms m env c.ah) c (FlP G D) (fun e c' => ∀ C, G.xa e = some C → Ex (.ref C) none c'.H), ⟨N, c, env, rfl, ok, re, q⟩, ?_⟩
  rintro m σ H ⟨c, env, rfl, ok, re, q⟩
  cases m with
  | zero => exact q.elim
  | succ n =>
    refine tT.step ok re q fun t c1 e1 ok1 re1 q1 => ?_
    cases t with
    | false => exact iteF (Po.here (a := Fl.nx env) q1 ok1 σ re1)
    | true =>
      refine iteT ⟨_, fun σ' H' h => ⟨n, Nat.lt_succ_self n, h⟩, c1, env, rfl, ok1, re1, Po.mono (Po.bind q1) (fun fl c2 e2 ok2 q2 => ?_) fun _ _ _ _ q => q⟩
      cases fl with
      | nx env' => exact fun σ' re' => ⟨c2, env', rfl, ok2, re', q2⟩
      | ct env' => exact fun σ' re' => ⟨c2, env', rfl, ok2, re', q2⟩
      | bk env' => exact fun σ' re' => Po.here (a := Fl.nx env') q2 ok2 σ' re'
      | rt w => exact fun v rv => Po.here (a := Fl.rt w) q2 ok2 v rv
end
end Ev
set_option Elab.async false
set_option linter.all false
set_option maxRecDepth 100000
set_option maxHeartbeats 2000000
/-! E11: targets, what is walked, for, list comprehensions. -/
namespace Ev
open PySem PySem.Spec PyProof.Rows L2

/-! ### targets -/
inductive Tg where
  | n (i : Nat)
  | t (is : List Nat)
def setAll : EnvW → List Nat → List PyData → EnvW
  | env, i :: is, d :: ds => setAll (env.set i (some (.d d))) is ds
  | env, _, _ => env
def setAllV : L2.St → List Nat → List V → L2.St
  | σ, i :: is, x :: xs => setAllV (σ.set i (some x)) is xs
  | σ, _, _ => σ
def tgM : Tg → W → EnvW → Option EnvW
  | .n i, w, env => some (env.set i (some w))
  | .t is, .d (.tuple ds), env => if ds.length = is.length then some (setAll env is ds) else none
  | _, _, _ => none
def nameSlot (sc : Sc) : Expr → Option Nat
  | .Name x _ => slotS sc x
  | _ => none
def nameSlots (sc : Sc) : List Expr → Option (List Nat)
  | [] => some []
  | e :: es => match nameSlot sc e, nameSlots sc es with
    | some i, some is => some (i :: is)
    | _, _ => none
def tgOf (sc : Sc) : Expr → Option Tg
  | .Name x _ => (slotS sc x).map .n
  | .Tuple es _ _ => (nameSlots sc es).map .t
  | _ => none
def gNames : List Nat → TGs
  | [] => gNil
  | i :: is => gCons (gName i) (gNames is)
def gTg (K : PySem.W.Frag) : Tg → TG
  | .n i => gName i
  | .t is => gTup K is.length (gNames is)
section
variable {T : Tb} {G : GA} {CM : FId → List W → M W} {k : Nat} {sc : Sc} {X : Cx} {Wx : WX}
theorem pg_slot (F : Fits T G CM k X sc Wx) {x : Str} {i : Nat} {pos : Pos} (h : slotS sc x = some i) : PG X (.Name x pos) (gName i) := by
  obtain ⟨h1, h2, h3⟩ := slotS_ok F h
  exact pg_name F.ndN h1 h2 h3
theorem nameSlots_ok (F : Fits T G CM k X sc Wx) : ∀ {es : List Expr} {is : List Nat}, nameSlots sc es = some is → PGs X es (gNames is) ∧ (assignEach es X.env).length = is.length ∧ (assignEach es X.env).findIdx? (·.1) = none
  | [], is, h => by
    cases h
    exact ⟨pgs_nil, rfl, rfl⟩
  | e :: es, is, h => by
    unfold nameSlots at h
    split at h
    · rename_i i js h1 h2
      cases h
      obtain ⟨p1, p2, p3⟩ := nameSlots_ok F h2
      cases e with
      | Name x p =>
        refine ⟨pgs_cons (pg_slot F h1) p1, by show (assignEach es X.env).length + 1 = js.length + 1; rw [p2], ?_⟩
        show List.findIdx? (·.1) ((false, assign (.Name x p) X.env) :: assignEach es X.env) = none
        rw [List.findIdx?_cons, p3]
        rfl
      | _ => cases h1
    · cases h
theorem pg_tg (F : Fits T G CM k X sc Wx) {tg : Expr} {t : Tg} (h : tgOf sc tg = some t) : PG X tg (gTg X.K t) := by
  cases tg with
  | Name x p =>
    cases q : slotS sc x with
    | none => simp only [tgOf, q] at h; cases h
    | some i =>
      simp only [tgOf, q] at h
      cases h
      exact pg_slot F q
  | Tuple es kk p =>
    cases q : nameSlots sc es with
    | none => simp only [tgOf, q] at h; cases h
    | some is =>
      simp only [tgOf, q] at h
      cases h
      obtain ⟨p1, p2, p3⟩ := nameSlots_ok F q
      exact pg_tup F.calm p1 p2 p3
  | _ => cases h
end
def Tg.slots : Tg → List Nat
  | .n i => [i]
  | .t is => is
theorem wipe_set {σ : L2.St} {i : Nat} {x : Option V} : ∀ {vs : List Nat}, i ∈ vs → wipe (σ.set i x) vs = wipe σ vs
  | [], h => by cases h
  | v :: vs, h => by
    unfold wipe
    by_cases hv : i ∈ vs
    · rw [wipe_set hv]
    · have e : i = v := by
        rcases List.mem_cons.mp h with e | e
        · exact e
        · exact absurd e hv
      subst e
      have : ∀ (vs : List Nat) (σ : L2.St), i ∉ vs → wipe (σ.set i x) vs = (wipe σ vs).set i x := by
        intro vs
        induction vs with
        | nil => intro σ _; rfl
        | cons v vs ih =>
          intro σ hn
          rw [List.mem_cons, not_or] at hn
          unfold wipe
          rw [ih σ hn.2, List.set_comm _ _ hn.1]
      rw [this vs σ hv, List.set_set]
section
variable {G : GA} {c : Cf}
theorem gNames_ok {env : EnvW} : ∀ {is : List Nat} {ds : List PyData} {xs : List V} {env : EnvW} {σ : L2.St} {Q : L2.St → Hp → Prop} {vs : List Nat}, ds.length = is.length → RpL G.K c xs ds → EnvR G c env σ → (∀ i ∈ is, i ∈ vs) →
    (∀ σ2, EnvR G c (setAll env is ds) σ2 → wipe σ2 vs = wipe σ vs → Q σ2 c.H) → gNames is xs σ c.H Q
  | [], ds, xs, env, σ, Q, vs, hl, r, re, hv, q => by
    cases ds with
    | nil => cases r; exact ⟨rfl, q σ re rfl⟩
    | cons d ds => simp at hl
  | i :: is, ds, xs, env, σ, Q, vs, hl, r, re, hv, q => by
    cases ds with
    | nil => simp at hl
    | cons d ds =>
      cases r with
      | cons r1 r2 =>
        refine ⟨_, _, rfl, ?_⟩
        refine gNames_ok (env := env.set i (some (.d d))) (vs := vs) (by simpa using hl) r2 (re.set (w := .d d) r1) (fun j hj => hv j (List.mem_cons_of_mem _ hj)) fun σ2 re2 hw => q σ2 re2 ?_
        rw [hw, wipe_set (hv i List.mem_cons_self)]
theorem gTg_ok {K : PySem.W.Frag} (hK : K = G.K) {t : Tg} {v : V} {w : W} {env env2 : EnvW} {σ : L2.St} {Q : L2.St → Hp → Prop} {vs : List Nat} (h : tgM t w env = some env2) (re : EnvR G c env σ) (rv : RW G c v w) (hv : ∀ i ∈ t.slots, i ∈ vs)
    (q : ∀ σ2, EnvR G c env2 σ2 → wipe σ2 vs = wipe σ vs → Q σ2 c.H) : gTg K t v σ c.H Q := by
  cases t with
  | n i =>
    cases h
    exact q _ (re.set rv) (wipe_set (hv i (by simp [Tg.slots])))
  | t is =>
    cases w with
    | d x =>
      cases x with
      | tuple ds =>
        simp only [tgM] at h
        split at h
        · rename_i hl
          cases h
          obtain ⟨a, xs, rfl, h1, r1⟩ := rTup rv
          exact ⟨a, xs, rfl, by rw [hK]; exact h1, by rw [r1.length]; exact hl, gNames_ok (env := env) hl r1 re hv q⟩
        · cases h
      | _ => cases h
    | _ => cases h
end

/-! ### what is walked -/
structure IterOk (G : GA) (J : It) (ws : List W) (c1 : Cf) : Prop where
  go : ∀ i c2, i < ws.length → c1.ext c2 → c2.ok G → J.go i c2.H
  stop : ∀ c2, c1.ext c2 → c2.ok G → J.stop ws.length c2.H
  yld : ∀ i c2 x H', i < ws.length → c1.ext c2 → c2.ok G → J.yld i c2.H x H' → ∃ c3 w, c2.ext c3 ∧ c3.ok G ∧ c3.H = H' ∧ c3.ah = c2.ah ∧ ws[i]? = some w ∧ RW G c3 x w
/-- the items, and the tracked list that is walked -/
abbrev Src := List W × Option Nat
def lockC (p : Src) (c : Cf) : Cf := match p.2 with
  | none => c
  | some i => c.obj i .dead
def unlockC (p : Src) (c : Cf) : Cf := match p.2 with
  | none => c
  | some i => c.obj i (.lst p.1)
def over {α : Type} (p : Src) (f : List W → M α) : M α := match p.2 with
  | none => f p.1
  | some i => fun h => match f p.1 (h.set i .dead) with
    | .ok a h' => .ok a (h'.set i (.lst p.1))
    | .ex c h' => .ex c (h'.set i (.lst p.1))
    | .no => .no
/-- the list that is walked is the tracked one -/
def SrcOk (G : GA) (p : Src) (c : Cf) : Prop := ∀ i, p.2 = some i → ∃ a xs, c.μ[i]? = some a ∧ c.ah[i]? = some (.lst p.1) ∧ c.H a = some (.lst xs) ∧ RWL G c xs p.1
theorem over_po {α : Type} {G : GA} {p : Src} {f : List W → M α} {c : Cf} {F : α → Cf → Prop} {E : Str → Cf → Prop} (ok : c.ok G) (hs : SrcOk G p c) (h : Po G (over p f c.ah) c F E) : Po G (f p.1 (lockC p c).ah) (lockC p c) (fun a c3 => F a (unlockC p c3)) (fun e c3 => E e (unlockC p c3)) := by
  obtain ⟨ws, l⟩ := p
  cases l with
  | none => exact h
  | some i =>
    obtain ⟨a, xs, h1, h2, h3, h4⟩ := hs i rfl
    have un : ∀ c3 : Cf, (c.obj i .dead).ext c3 → c3.ok G → c.ext (c3.obj i (.lst ws)) ∧ (c3.obj i (.lst ws)).ok G := fun c3 ex k3 =>
      Cf.unlock ok h1 h2 (by intro e; cases e) (by intro kvs e; cases e) h3 (fun c' hc ex' => ⟨xs, hc, RWL.mono ex' h4⟩) ex k3
    show Po G (f ws (c.ah.set i .dead)) (c.obj i .dead) _ _
    have h' : Po G (match f ws (c.ah.set i .dead) with
      | .ok a h' => R.ok a (h'.set i (.lst ws))
      | .ex c h' => .ex c (h'.set i (.lst ws))
      | .no => .no) c F E := h
    cases q : f ws (c.ah.set i .dead) with
    | ok a h'' =>
      rw [q] at h'
      intro c3 ex3 ok3 e3
      obtain ⟨u1, u2⟩ := un c3 ex3 ok3
      exact h' _ u1 u2 (by show c3.ah.set i (.lst ws) = _; rw [e3])
    | ex e h'' =>
      rw [q] at h'
      intro c3 ex3 ok3 e3
      obtain ⟨u1, u2⟩ := un c3 ex3 ok3
      exact h' _ u1 u2 (by show c3.ah.set i (.lst ws) = _; rw [e3])
    | no =>
      rw [q] at h'
      exact h'
theorem lockC_H {p : Src} {c : Cf} : (lockC p c).H = c.H := by unfold lockC; split <;> rfl
theorem lockC_mu {p : Src} {c : Cf} : (lockC p c).μ = c.μ := by unfold lockC; split <;> rfl
theorem unlockC_H {p : Src} {c : Cf} : (unlockC p c).H = c.H := by unfold unlockC; split <;> rfl
theorem unlockC_mu {p : Src} {c : Cf} : (unlockC p c).μ = c.μ := by unfold unlockC; split <;> rfl
theorem lockC_len {p : Src} {c : Cf} : (lockC p c).ah.length = c.ah.length := by
  unfold lockC; split
  · rfl
  · show (List.set _ _ _).length = _; rw [List.length_set]
theorem lockC_ok {G : GA} {p : Src} {c : Cf} (k : c.ok G) : (lockC p c).ok G := by
  unfold lockC; split
  · exact k
  · exact Cf.lock_ok k
theorem EnvR.same {G : GA} {c c' : Cf} (hH : c'.H = c.H) (hm : c'.μ = c.μ) {env : EnvW} {σ : L2.St} (h : EnvR G c env σ) : EnvR G c' env σ :=
  ⟨h.1, fun i w q => let ⟨v, h1, h2⟩ := h.2 i w q; ⟨v, h1, RW.same hH hm h2⟩⟩
def tI (G : GA) (Wx : WX) (m : EnvW → M Src) : TI := fun σ H R => ∃ c env, c.H = H ∧ c.ok G ∧ EnvR G c env σ ∧ Po G (m env c.ah) c (fun p c1 => SrcOk G p c1 → ∀ J, IterOk G J p.1 (lockC p c1) → R J c1.H) (fun e c' => WEx G Wx e σ c'.H)
def SI (T : Tb) (G : GA) (CM : FId → List W → M W) (k : Nat) (sc : Sc) (tg e : Expr) (m : EnvW → M Src) : Prop := ∀ X Wx, Fits T G CM k X sc Wx → PI X tg e (tI G Wx m)
theorem PI.imp {X : Cx} {tg e : Expr} {t t' : TI} (h : PI X tg e t) (i : ∀ σ H Q, t' σ H Q → t σ H Q) : PI X tg e t' := ⟨fun p s σ H Q I q => h.run p s σ H Q I (i _ _ _ q)⟩

/-! ### for -/
def floop (t : Tg) (b : MS) : List W → MS
  | [] => fun env => mpure (.nx env)
  | w :: ws => fun env => match tgM t w env with
    | none => mno
    | some env1 => mbind (b env1) fun fl => match fl with
      | .nx e => floop t b ws e
      | .ct e => floop t b ws e
      | .bk e => mpure (.nx e)
      | .rt w => mpure (.rt w)
def sFor (t : Tg) (mi : EnvW → M Src) (b : MS) : MS := fun env => mbind (mi env) fun p => over p fun ws => floop t b ws env
def noSetE : Expr → Bool
  | .Set .. => false
  | _ => true
theorem noSetE_ok {e : Expr} (h : noSetE e = true) (env : Env) : ∀ x, foldedSetIterable e env x = pure x := fun x => by
  cases e <;> first | rfl | cases h
section
variable {T : Tb} {G : GA} {CM : FId → List W → M W} {k : Nat} {sc : Sc} {tg e : Expr} {body : List Stmt} {t : Tg} {mi : EnvW → M Src} {ms : MS} {pos : Pos}
theorem ss_for (ht : tgOf sc tg = some t) (hi : SI T G CM k sc tg e mi) (hb : SSs T G CM k sc body ms) (hn : noSetE e = true) : SS T G CM k sc (.For tg e body [] pos) (sFor t mi ms) := fun X Ex F hp hs hf => by
  refine PS.imp (ps_for hp F.calm (hi X _ F) (pg_tg F ht) (hb X Ex F hp hs hf) (noSetE_ok hn _)) fun D σ H ⟨c, env, e, ok, re, q⟩ => ?_
  subst e
  refine ⟨c, env, rfl, ok, re, Po.mono (Po.bind q) (fun p c1 e1 ok1 q1 hsrc J hJ => ?_) fun _ _ _ _ q => q⟩
  have q2 := over_po ok1 hsrc q1
  have okL := lockC_ok (p := p) ok1
  refine ⟨fun i m σ H => m = p.1.length - i ∧ i ≤ p.1.length ∧ ∃ c2 env2, c2.H = H ∧ c2.ok G ∧ (lockC p c1).ext c2 ∧ EnvR G c2 env2 σ ∧ Po G (floop t ms (p.1.drop i) env2 c2.ah) c2 (fun a c3 => FlP G D a (unlockC p c3)) (fun e c3 => ∀ C, G.xa e = some C → Ex (.ref C) none (unlockC p c3).H),
    ⟨p.1.length, by simp, Nat.zero_le _, lockC p c1, env, lockC_H, okL, Cf.ext.refl _, (re.mono e1).same lockC_H lockC_mu, q2⟩, ?_⟩
  rintro i m σ1 H1 ⟨rfl, hi1, c2, env2, rfl, ok2, ex2, re2, q3⟩
  by_cases hlt : i < p.1.length
  · refine .inr ⟨hJ.go i c2 hlt ex2 ok2, fun σ' H' => ∃ c3 env3, c3.H = H' ∧ c3.ok G ∧ (lockC p c1).ext c3 ∧ EnvR G c3 env3 σ' ∧ Po G (floop t ms (p.1.drop (i + 1)) env3 c3.ah) c3 (fun a c3 => FlP G D a (unlockC p c3)) (fun e c3 => ∀ C, G.xa e = some C → Ex (.ref C) none (unlockC p c3).H),
      fun σ' H' h => ⟨p.1.length - (i + 1), by omega, rfl, hlt, h⟩, fun x H' hy => ?_⟩
    obtain ⟨c3, w, ex3, ok3, rfl, eah, hw, rw3⟩ := hJ.yld i c2 x H' hlt ex2 ok2 hy
    rw [List.drop_eq_getElem_cons hlt] at q3
    have hw2 : p.1[i] = w := by
      rw [List.getElem?_eq_getElem hlt] at hw
      exact Option.some.inj hw
    rw [hw2] at q3
    have q4 : Po G (floop t ms (w :: p.1.drop (i + 1)) env2 c3.ah) c3 (fun a c3 => FlP G D a (unlockC p c3)) (fun e c3 => ∀ C, G.xa e = some C → Ex (.ref C) none (unlockC p c3).H) := by
      rw [eah]
      exact Po.bind.Po.later ex3 q3
    cases hm : tgM t w env2 with
    | none =>
      simp only [floop, hm] at q4
      exact q4.elim
    | some env3 =>
      simp only [floop, hm] at q4
      refine gTg_ok (c := c3) F.K (vs := t.slots) hm (re2.mono ex3) rw3 (fun _ h => h) fun σ2 re4 _ => ?_
      refine ⟨c3, env3, rfl, ok3, re4, Po.mono (Po.bind q4) (fun fl c4 e4 ok4 q5 => ?_) fun e' c4 e4 ok4 q5 C hC => by rw [← unlockC_H (p := p)]; exact q5 C hC⟩
      have ex4 := (ex2.trans ex3).trans e4
      cases fl with
      | nx env' => exact fun σ' re' => ⟨c4, env', rfl, ok4, ex4, re', q5⟩
      | ct env' => exact fun σ' re' => ⟨c4, env', rfl, ok4, ex4, re', q5⟩
      | bk env' =>
        intro σ' re'
        have q6 := Po.here (a := Fl.nx env') q5 ok4 σ' (re'.same unlockC_H unlockC_mu)
        rw [unlockC_H] at q6
        exact q6
      | rt w =>
        intro v rv
        have q6 := Po.here (a := Fl.rt w) q5 ok4 v (RW.same unlockC_H unlockC_mu rv)
        rw [unlockC_H] at q6
        exact q6
  · have e : i = p.1.length := by omega
    subst e
    refine .inl ⟨hJ.stop c2 ex2 ok2, ?_⟩
    rw [List.drop_length] at q3
    have q6 := Po.here (a := Fl.nx env2) q3 ok2 σ1 (re2.same unlockC_H unlockC_mu)
    rw [unlockC_H] at q6
    exact q6

/-! ### list comprehensions -/
def noEx {α : Type} (m : M α) : M α := fun h => match m h with
  | .ok a h' => .ok a h'
  | _ => .no
theorem noEx_po {α : Type} {m : M α} {c : Cf} {F : α → Cf → Prop} {E E0 : Str → Cf → Prop} (h : Po G (noEx m c.ah) c F E) : Po G (m c.ah) c F E0 := by
  unfold noEx at h
  cases q : m c.ah with
  | ok a h' => rw [q] at h; exact h
  | ex e h' => rw [q] at h; exact h.elim
  | no => rw [q] at h; exact h
def pushM (i : Nat) (y : W) : M Unit := fun h => match h[i]? with
  | some (.lst xs) => if xs.length < sizeLine then .ok () (h.set i (.lst (xs ++ [y]))) else .no
  | _ => .no
def cLoop (id : Nat) (t : Tg) (tt : EnvW → M Bool) (el : ME) : List W → EnvW → M Unit
  | [], _ => mpure ()
  | w :: ws, env => match tgM t w env with
    | none => mno
    | some e1 => mbind (noEx (tt e1)) fun b => if b then mbind (noEx (el e1)) fun y => mbind (pushM id y) fun _ => cLoop id t tt el ws env else cLoop id t tt el ws env
def wipeW (env : EnvW) : List Nat → EnvW
  | [] => env
  | v :: vs => (wipeW env vs).set v none
theorem EnvR.wipe {c : Cf} {env : EnvW} {σ : L2.St} (h : EnvR G c env σ) : ∀ vs : List Nat, EnvR G c (wipeW env vs) (L2.wipe σ vs)
  | [] => h
  | v :: vs => (EnvR.wipe h vs).unset
def eLC (t : Tg) (mi : EnvW → M Src) (tt : EnvW → M Bool) (el : ME) : ME := fun env => mbind (mi env) fun p => over p fun ws => fun h => mbind (cLoop h.length t tt el ws (wipeW env t.slots)) (fun _ => mpure (.r h.length)) (h ++ [.lst []])
/-- the names of the block -/
def ownOf (sc : Sc) : Expr → Option (List (Str × Nat))
  | .Name x _ => (sc.N.idxOf? x).map fun i => [(x, i)]
  | .Tuple es _ _ => go es
  | _ => none
where
  go : List Expr → Option (List (Str × Nat))
    | [] => some []
    | .Name x _ :: es => match sc.N.idxOf? x, go es with
      | some i, some r => some ((x, i) :: r)
      | _, _ => none
    | _ => none
def blkSc (sc : Sc) (scope : Scope) : Sc := ⟨sc.N, relS scope sc.scope, fun x => scope.names.lookup x == some .cell⟩
def tTrue : EnvW → M Bool := fun _ => mpure true
theorem Fits.blk {X : Cx} {Wx : WX} (F : Fits T G CM k X sc Wx) (scope : Scope) (s : Shared) (H : Hp) (C : Addr) (cl : List (Str × Addr)) (fp : List Addr) : Fits T G CM k (X.blk s H scope (compEnvC scope cl C X.env) fp) (blkSc sc scope) (fun _ _ _ _ => False) := by
  refine ⟨F.N, F.nd, ?_, F.K, F.wd, F.gd, fun x h => h, F.calm, F.room, fun u s' ⟨_, _, _, _, _, _, _, _, _, _, _, _, _, _, _, _, w⟩ => w.elim, ?_⟩
  · show relS scope X.env.scope = relS scope sc.scope
    rw [F.scope]
  · exact ⟨F.top.fn, F.top.def_, F.top.con, F.top.free, fun x hx => F.top.exc x hx, F.top.cls, F.top.own, F.top.meth, F.top.isx, F.top.catch_, F.top.kd⟩
def ST0 (T : Tb) (G : GA) (CM : FId → List W → M W) (k : Nat) (sc : Sc) (ifs : List Expr) (m : EnvW → M Bool) : Prop := ∀ X Wx, Fits T G CM k X sc Wx → PTs X ifs (tT G Wx m)
theorem PTs.imp {X : Cx} {e : List Expr} {t t' : TT} (h : PTs X e t) (i : ∀ σ H Q, t' σ H Q → t σ H Q) : PTs X e t' := ⟨fun p s σ H Q I q => h.run p s σ H Q I (i _ _ _ q)⟩
theorem st0_nil : ST0 T G CM k sc [] tTrue := fun X Wx F => PTs.imp pts_nil fun σ H Q ⟨c, env, e, ok, re, q⟩ => by
  subst e
  exact Po.here (a := true) q ok
theorem st0_one {mt : EnvW → M Bool} (h : ST T G CM k sc e mt) : ST0 T G CM k sc [e] mt := fun X Wx F => pts_one (h X Wx F)
/-- the reading of a comprehension -/
theorem lc_read {mt : EnvW → M Bool} {me : ME} {Wx : WX} {σ : L2.St} {H : Hp} {Q : VK} {K : PySem.W.Frag} (hK : K = G.K) (h : tE G Wx (eLC t mi mt me) σ H Q) : tLc (tI G Wx mi) (gTg K t) (tT G (fun _ _ _ _ => False) mt) (tE G (fun _ _ _ _ => False) me) t.slots σ H Q := by
  obtain ⟨c, env, e, ok, re, q⟩ := h
  subst e
  refine ⟨c, env, rfl, ok, re, Po.mono (Po.bind q) (fun p c1 e1 ok1 q1 hsrc J hJ D hD => ?_) fun _ _ _ _ q => q⟩
  have q2 := over_po ok1 hsrc q1
  have okL := lockC_ok (p := p) ok1
  have hDL : (lockC p c1).H D = none := by rw [lockC_H]; exact hD
  have exD := Cf.new_ext (o := .lst []) (ao := .lst []) okL hDL
  have okD : ((lockC p c1).new D (.lst []) (.lst [])).ok G := Cf.new_ok okL hDL ⟨[], upd_same, .nil⟩
  have q3 := Po.bind (c := (lockC p c1).new D (.lst []) (.lst [])) (Po.bind.Po.later exD q2)
  have rD : ∀ c3 : Cf, ((lockC p c1).new D (.lst []) (.lst [])).ext c3 → c3.μ[(lockC p c1).ah.length]? = some D := fun c3 ex => ex.pre _ _ (by show ((lockC p c1).μ ++ [D])[(lockC p c1).ah.length]? = some D; rw [← okL.len]; simp)
  have re0 : EnvR G ((lockC p c1).new D (.lst []) (.lst [])) (wipeW env t.slots) (L2.wipe σ t.slots) := (((re.mono e1).same lockC_H lockC_mu).mono exD).wipe _
  refine ⟨fun i m H => m = p.1.length - i ∧ i ≤ p.1.length ∧ ∃ c2, c2.H = H ∧ c2.ok G ∧ ((lockC p c1).new D (.lst []) (.lst [])).ext c2 ∧ Po G (cLoop (lockC p c1).ah.length t mt me (p.1.drop i) (wipeW env t.slots) c2.ah) c2 (fun _ c3 => VQ G Q (.r (lockC p c1).ah.length) (unlockC p c3)) (fun _ _ => True),
    ⟨p.1.length, by simp, Nat.zero_le _, (lockC p c1).new D (.lst []) (.lst []), by show upd (lockC p c1).H D _ = _; rw [lockC_H], okD, Cf.ext.refl _, Po.mono q3 (fun _ c3 e3 ok3 q4 => Po.here (a := W.r (lockC p c1).ah.length) (F := fun a c3 => VQ G Q a (unlockC p c3)) q4 ok3) fun _ _ _ _ _ => trivial⟩, ?_⟩
  rintro i m H1 ⟨rfl, hi1, c2, rfl, ok2, ex2, q4⟩
  by_cases hlt : i < p.1.length
  · refine .inr ⟨hJ.go i c2 hlt (exD.trans ex2) ok2, fun H' => ∃ c3, c3.H = H' ∧ c3.ok G ∧ ((lockC p c1).new D (.lst []) (.lst [])).ext c3 ∧ Po G (cLoop (lockC p c1).ah.length t mt me (p.1.drop (i + 1)) (wipeW env t.slots) c3.ah) c3 (fun _ c3 => VQ G Q (.r (lockC p c1).ah.length) (unlockC p c3)) (fun _ _ => True),
      fun H' h => ⟨p.1.length - (i + 1), by omega, rfl, hlt, h⟩, fun x H' hy => ?_⟩
    obtain ⟨c3, w, ex3, ok3, rfl, eah, hw, rw3⟩ := hJ.yld i c2 x H' hlt (exD.trans ex2) ok2 hy
    rw [List.drop_eq_getElem_cons hlt] at q4
    have hw2 : p.1[i] = w := by
      rw [List.getElem?_eq_getElem hlt] at hw
      exact Option.some.inj hw
    rw [hw2] at q4
    have q5 : Po G (cLoop (lockC p c1).ah.length t mt me (w :: p.1.drop (i + 1)) (wipeW env t.slots) c3.ah) c3 (fun _ c3 => VQ G Q (.r (lockC p c1).ah.length) (unlockC p c3)) (fun _ _ => True) := by
      rw [eah]
      exact Po.bind.Po.later ex3 q4
    cases hm : tgM t w (wipeW env t.slots) with
    | none =>
      simp only [cLoop, hm] at q5
      exact q5.elim
    | some env3 =>
      simp only [cLoop, hm] at q5
      refine gTg_ok (c := c3) hK (vs := t.slots) hm ((re0.mono ex2).mono ex3) rw3 (fun _ h => h) fun σ2 re4 hwp => ⟨by rw [hwp]; exact wipe_wipe _ _, ?_⟩
      refine ⟨c3, env3, rfl, ok3, re4, Po.mono (noEx_po (Po.bind q5)) (fun b c4 e4 ok4 q6 => ?_) fun _ _ _ _ q => q⟩
      have ex4 := (ex2.trans ex3).trans e4
      cases b with
      | false => exact iteF ⟨c4, rfl, ok4, ex4, q6⟩
      | true =>
        refine iteT ⟨c4, env3, rfl, ok4, re4.mono e4, Po.mono (noEx_po (Po.bind q6)) (fun y c5 e5 ok5 q7 v rv => ?_) fun _ _ _ _ q => q⟩
        have ex5 := ex4.trans e5
        have q8 := Po.bind q7
        unfold pushM at q8
        split at q8
        · rename_i xs hx
          have hd := rD c5 ex5
          obtain ⟨us, hu, ru⟩ := ok5.obj _ D _ hd hx
          split at q8
          · rename_i hz
            obtain ⟨exP, okP⟩ := put_list ok5 hd hx (RWL.append ru (.cons rv .nil))
            exact ⟨us, hu, by rw [Paired.length ru]; exact hz, _, rfl, okP, ex5.trans exP, q8 _ exP okP rfl⟩
          · exact q8.elim
        · exact q8.elim
  · have e : i = p.1.length := by omega
    subst e
    refine .inl ⟨hJ.stop c2 (exD.trans ex2) ok2, ?_⟩
    rw [List.drop_length] at q4
    have q6 := Po.here (a := ()) q4 ok2 (.ref D) ⟨D, rfl, by rw [unlockC_mu]; exact rD c2 ex2⟩
    rw [unlockC_H] at q6
    exact q6
where
  wipe_wipe (σ : L2.St) (vs : List Nat) : L2.wipe (L2.wipe σ vs) vs = L2.wipe σ vs := by
    have h : ∀ (us : List Nat) (τ : L2.St), (∀ u ∈ us, ∀ x, τ[u]? = some x → x = none) → L2.wipe τ us = τ := by
      intro us
      induction us with
      | nil => intro τ _; rfl
      | cons u us ih =>
        intro τ ht
        unfold L2.wipe
        rw [ih τ fun u' hu' => ht u' (List.mem_cons_of_mem _ hu')]
        by_cases hl : u < τ.length
        · have := ht u List.mem_cons_self _ (List.getElem?_eq_getElem hl)
          rw [← this, List.set_getElem_self]
        · exact List.set_eq_of_length_le (by omega)
    refine h vs _ fun u hu x hx => ?_
    cases x with
    | none => rfl
    | some v => exact absurd hu (wipe_some hx).2
end
end Ev
set_option Elab.async false
set_option linter.all false
set_option maxRecDepth 100000
set_option maxHeartbeats 2000000
/-! E12: comprehensions as expressions, sources. -/
namespace Ev
open PySem PySem.Spec PyProof.Rows L2

def lcT (sc : Sc) (scope : Scope) (tg : Expr) : Option Tg := match ownOf sc tg, tgOf (blkSc sc scope) tg with
  | some own, some t => if blkC sc.N sc.scope scope own && decide (own.map (·.2) = t.slots) then some t else none
  | _, _ => none
theorem lcT_ok {sc : Sc} {scope : Scope} {tg : Expr} {t : Tg} (h : lcT sc scope tg = some t) : ∃ own, BlkOk sc.N sc.scope scope own ∧ own.map (·.2) = t.slots ∧ tgOf (blkSc sc scope) tg = some t := by
  unfold lcT at h
  split at h
  · rename_i own t' h1 h2
    split at h
    · rename_i hc
      cases h
      obtain ⟨c1, c2⟩ := Bool.and_eq_true_iff.mp hc
      exact ⟨own, blkOk_by c1, of_decide_eq_true c2, h2⟩
    · cases h
  · cases h
section
variable {T : Tb} {G : GA} {CM : FId → List W → M W} {k : Nat} {sc : Sc} {tg it e elt : Expr} {ifs : List Expr} {scope : Scope} {t : Tg} {mi : EnvW → M Src} {mt : EnvW → M Bool} {me : ME} {pos py spos : Pos}
theorem se_lc (ht : lcT sc scope tg = some t) (hi : SI T G CM k sc tg it mi) (hn : noSetE it = true) (hif : ST0 T G CM k (blkSc sc scope) ifs mt) (he : SE T G CM k (blkSc sc scope) elt me) : SE T G CM k sc (.ListComp elt [⟨tg, it, ifs, 0⟩] scope pos) (eLC t mi mt me) := fun X Wx F => by
  obtain ⟨own, h1, h2, h3⟩ := lcT_ok ht
  have hb : BlkOk X.N X.env.scope scope own := by rw [F.N, F.scope]; exact h1
  refine PE.imp (pe_lc (g := gTg X.K t) F.calm F.ndN (hi X Wx F) hb (fun s H C cl fp => pg_tg (F.blk scope s H C cl fp) h3) (fun s H C cl fp => hif _ _ (F.blk scope s H C cl fp)) (fun s H C cl fp => he _ _ (F.blk scope s H C cl fp)) (noSetE_ok hn _)) fun σ H Q q => ?_
  rw [h2]
  exact lc_read F.K q
/-- name = [..], on one line -/
theorem ss_setLc {y : Str} {i : Nat} (hy : sc.scope.names.lookup y = some .local) (hi2 : sc.N.idxOf? y = some i) (hk : sc.scope.kind = .function) (hl : (py.line == pos.line) = true) (hany : (scope.names.any fun (n, k) => n == y && (k == .local || k == .cell)) = false)
    (ht : lcT sc scope tg = some t) (hi : SI T G CM k sc tg it mi) (hn : noSetE it = true) (hif : ST0 T G CM k (blkSc sc scope) ifs mt) (he : SE T G CM k (blkSc sc scope) elt me) : SS T G CM k sc (.Assign [.Name y py] (.ListComp elt [⟨tg, it, ifs, 0⟩] scope pos) spos) (sSet i (eLC t mi mt me)) := fun X Ex F hp hs hf => by
  obtain ⟨own, h1, h2, h3⟩ := lcT_ok ht
  have hb : BlkOk X.N X.env.scope scope own := by rw [F.N, F.scope]; exact h1
  have hyX : X.env.scope.names.lookup y = some .local := by rw [F.scope]; exact hy
  refine PS.imp (ps_setLc (g := gTg X.K t) (i := i) F.calm F.ndN (by rw [F.N]; exact idx_at hi2) hyX (sw_true (by rw [F.scope]; exact hk) hyX hl hany) (hi X _ F) hb (fun s H C cl fp => pg_tg (F.blk scope s H C cl fp) h3) (fun s H C cl fp => hif _ _ (F.blk scope s H C cl fp)) (fun s H C cl fp => he _ _ (F.blk scope s H C cl fp)) (noSetE_ok hn _)) fun D σ H ⟨c, env, e, ok, re, q⟩ => ?_
  subst e
  rw [h2]
  refine lc_read F.K (tE.step ok re q fun w c1 v e1 ok1 re1 rv q1 => ?_)
  exact Po.here (a := Fl.nx (env.set i (some w))) q1 ok1 _ (re1.set rv)

/-! ### sources -/
def srcM (w : W) : M Src := fun h => match w with
  | .d (.tuple ds) => .ok (ds.map .d, none) h
  | .d (.list ds) => .ok (ds.map .d, none) h
  | .d (.str z) => .ok (z.cps.toList.map fun c => wS ⟨#[c]⟩, none) h
  | .r i => (match h[i]? with
    | some (.lst ws) => .ok (ws, some i) h
    | _ => .no)
  | _ => .no
def iVal (a : ME) : EnvW → M Src := fun env => mbind (a env) srcM
def iAny (K : PySem.W.Frag) (tl : TE) : TI := fun σ H R => tl σ H fun x H1 => (∃ a, x = .ref a ∧ (∃ xs, SqL K H1 a xs) ∧ R (Itl K a) H1) ∨ (∃ a, x = .ref a ∧ (∃ xs, SqT K H1 a xs) ∧ R (Itt K a) H1) ∨ ∃ z, x = .str z ∧ R (Its z) H1
theorem pi_any {X : Cx} {l : Expr} {tl : TE} (hl : PE X l tl) : PI X tg l (iAny X.K tl) := by
  refine ⟨fun pins s σ H R I h => ?_⟩
  refine thn (hl.run pins s σ H _ I h) fun v s1 ⟨x, H1, I1, r1, q1⟩ => ?_
  rcases q1 with ⟨a, e, ⟨xs, hq⟩, q⟩ | ⟨a, e, ⟨xs, hq⟩, q⟩ | ⟨z, e, q⟩
  · subst e
    cases r1
    obtain ⟨its, rv, p, hz⟩ := I1.list hq
    refine wpAny_pyIter_list p.isList ?_
    exact pi_one (tk := s1.toks) I1 _ (turn_list a _) ⟨_, Heap.get?_push_size _ rfl, rfl, rfl⟩ q
  · subst e
    cases r1
    obtain ⟨its, rv, p, hz⟩ := I1.tuple hq
    refine wpAny_pyIter_tuple (show s1.heap.IsTuple a its.toArray from p) ?_
    exact pi_one (tk := s1.toks) I1 _ (turn_tuple a _) ⟨_, Heap.get?_push_size _ rfl, rfl, rfl⟩ q
  · subst e
    obtain ⟨t, rfl⟩ := r1
    cases ha : z.cps.all (· < 128)
    · exact wpAny_pyIter_wide ha (pi_one (tk := s1.toks) I1 _ (turn_str _ z t "str_iterator" (.inr rfl)) ⟨_, Heap.get?_push_size _ rfl, rfl, rfl⟩ q)
    · exact wpAny_pyIter_ascii ha (pi_one (tk := s1.toks) I1 _ (turn_str _ z t "str_ascii_iterator" (.inl rfl)) ⟨_, Heap.get?_push_size _ rfl, rfl, rfl⟩ q)
theorem RpL.mapd {c : Cf} {xs : List V} {ds : List PyData} (h : RpL G.K c xs ds) {i : Nat} (hi : i < (ds.map W.d).length) : ∃ v d, xs[i]? = some v ∧ ds[i]? = some d ∧ Rp G.K c v d ∧ (ds.map W.d)[i]? = some (W.d d) := by
  have hi2 : i < ds.length := by simpa using hi
  obtain ⟨v, h1, h2⟩ := h.get (List.getElem?_eq_getElem hi2)
  exact ⟨v, ds[i], h1, List.getElem?_eq_getElem hi2, h2, by simp [hi2]⟩
theorem iter_tup {K : PySem.W.Frag} (hK : K = G.K) {c : Cf} {a : Addr} {xs : List V} {ds : List PyData} (hs : ∀ c2, c.ext c2 → SqT K c2.H a xs) (r : RpL G.K c xs ds) : IterOk G (Itt K a) (ds.map W.d) c where
  go := fun i c2 hi ex _ => by
    obtain ⟨v, d, h1, _⟩ := r.mapd hi
    exact ⟨xs, v, hs c2 ex, h1⟩
  stop := fun c2 ex _ => ⟨xs, hs c2 ex, by rw [List.length_map, r.length]; exact Nat.le_refl _⟩
  yld := fun i c2 x H' hi ex ok2 y => by
    obtain ⟨e, y⟩ := y
    subst e
    obtain ⟨v, d, h1, h2, h3, h4⟩ := r.mapd hi
    have := y xs (hs c2 ex)
    rw [h1] at this
    cases this
    exact ⟨c2, _, Cf.ext.refl c2, ok2, rfl, rfl, h4, Rp.mono ex h3⟩
theorem iter_lst {K : PySem.W.Frag} (hK : K = G.K) {c : Cf} {a : Addr} {xs : List V} {ds : List PyData} (hs : ∀ c2, c.ext c2 → SqL K c2.H a xs) (r : RpL G.K c xs ds) : IterOk G (Itl K a) (ds.map W.d) c where
  go := fun i c2 hi ex _ => by
    obtain ⟨v, d, h1, _⟩ := r.mapd hi
    exact ⟨xs, v, hs c2 ex, h1⟩
  stop := fun c2 ex _ => ⟨xs, hs c2 ex, by rw [List.length_map, r.length]; exact Nat.le_refl _⟩
  yld := fun i c2 x H' hi ex ok2 y => by
    obtain ⟨e, y⟩ := y
    subst e
    obtain ⟨v, d, h1, h2, h3, h4⟩ := r.mapd hi
    have := y xs (hs c2 ex)
    rw [h1] at this
    cases this
    exact ⟨c2, _, Cf.ext.refl c2, ok2, rfl, rfl, h4, Rp.mono ex h3⟩
theorem iter_lstW {K : PySem.W.Frag} {c : Cf} {a : Addr} {xs : List V} {ws : List W} (hs : ∀ c2, c.ext c2 → SqL K c2.H a xs) (r : RWL G c xs ws) : IterOk G (Itl K a) ws c where
  go := fun i c2 hi ex _ => by
    obtain ⟨v, h1, _⟩ := RWL.get r (List.getElem?_eq_getElem hi)
    exact ⟨xs, v, hs c2 ex, h1⟩
  stop := fun c2 ex _ => ⟨xs, hs c2 ex, by rw [Paired.length r]; exact Nat.le_refl _⟩
  yld := fun i c2 x H' hi ex ok2 y => by
    obtain ⟨e, y⟩ := y
    subst e
    obtain ⟨v, h1, h2⟩ := RWL.get r (List.getElem?_eq_getElem hi)
    have := y xs (hs c2 ex)
    rw [h1] at this
    cases this
    exact ⟨c2, _, Cf.ext.refl c2, ok2, rfl, rfl, List.getElem?_eq_getElem hi, RW.mono ex h2⟩
theorem iter_str {c : Cf} (z : Str) : IterOk G (Its z) (z.cps.toList.map fun c => wS ⟨#[c]⟩) c where
  go := fun i c2 hi _ _ => by show i < z.cps.size; simpa using hi
  stop := fun c2 _ _ => by show z.cps.size ≤ _; simp
  yld := fun i c2 x H' hi _ ok2 y => by
    obtain ⟨e, ch, h1, h2⟩ := y
    subst e h2
    exact ⟨c2, wS ⟨#[ch]⟩, Cf.ext.refl c2, ok2, rfl, rfl, by simp [h1], .str _⟩
theorem tup_stays {c : Cf} {v : V} {ds : List PyData} (h : RW G c v (.d (.tuple ds))) : ∃ a xs, v = .ref a ∧ RpL G.K c xs ds ∧ ∀ c2, c.ext c2 → SqT G.K c2.H a xs := by
  cases (show Rp G.K c v (.tuple ds) from h) with
  | tup l1 h1 r1 => exact ⟨_, _, rfl, r1, fun c2 ex => .inl (ex.rd h1 l1).1⟩
  | tupK h1 r1 => exact ⟨_, _, rfl, r1, fun c2 ex => .inr h1⟩
theorem lst_stays {c : Cf} {v : V} {ds : List PyData} (h : RW G c v (.d (.list ds))) : ∃ a xs, v = .ref a ∧ RpL G.K c xs ds ∧ ∀ c2, c.ext c2 → SqL G.K c2.H a xs := by
  cases (show Rp G.K c v (.list ds) from h) with
  | lst l1 h1 r1 => exact ⟨_, _, rfl, r1, fun c2 ex => .inl (ex.rd h1 l1).1⟩
theorem si_val (he : SE T G CM k sc e me) : SI T G CM k sc tg e (iVal me) := fun X Wx F => by
  refine PI.imp (pi_any (he X Wx F)) fun σ H R ⟨c, env, e0, ok, re, q⟩ => ?_
  subst e0
  refine tE.step ok re q fun w c1 v e1 ok1 re1 rv q1 => ?_
  unfold srcM at q1
  split at q1
  · rename_i ds
    obtain ⟨a, xs, rfl, r1, hs⟩ := tup_stays rv
    refine .inr (.inl ⟨a, rfl, ⟨xs, by rw [F.K]; exact hs c1 (Cf.ext.refl _)⟩, ?_⟩)
    rw [F.K]
    exact q1.here ok1 (fun i h => by cases h) _ (iter_tup rfl hs r1)
  · rename_i ds
    obtain ⟨a, xs, rfl, r1, hs⟩ := lst_stays rv
    refine .inl ⟨a, rfl, ⟨xs, by rw [F.K]; exact hs c1 (Cf.ext.refl _)⟩, ?_⟩
    rw [F.K]
    exact q1.here ok1 (fun i h => by cases h) _ (iter_lst rfl hs r1)
  · rename_i z
    exact .inr (.inr ⟨z, rStr rv, q1.here ok1 (fun i h => by cases h) _ (iter_str z)⟩)
  · rename_i i
    split at q1
    · rename_i ws ew
      obtain ⟨a, rfl, h1, xs, hx, rx⟩ := rRef ok1 rv ew
      refine .inl ⟨a, rfl, ⟨xs, .inl (.inl hx)⟩, ?_⟩
      refine q1.here ok1 (fun j h => ?_) _ (iter_lstW (c := lockC (ws, some i) c1) (xs := xs) (fun c2 ex => ?_) (L2.Paired.mapP rx fun _ _ q => RW.same lockC_H lockC_mu q))
      · cases h
        exact ⟨a, xs, h1, ew, hx, rx⟩
      · have := ex.dead i a (.lst xs) (by rw [lockC_mu]; exact h1) (by show (c1.ah.set i .dead)[i]? = _; exact List.getElem?_set_self (List.getElem?_eq_some_iff.mp ew).1) (by rw [lockC_H]; exact hx)
        exact .inl (.inl this.1)
    · exact q1.elim
  · exact q1.elim
/-! range -/
def rangeL (lo : Int) (n : Nat) : List W := (List.range n).map fun (i : Nat) => wI (lo + (i : Int))
theorem iter_range {c : Cf} (lo : Int) (n : Nat) : IterOk G (Itr lo n) (rangeL lo n) c where
  go := fun i c2 hi _ _ => by show i < n; simpa [rangeL] using hi
  stop := fun c2 _ _ => by show n ≤ _; simp [rangeL]
  yld := fun i c2 x H' hi _ ok2 y => by
    obtain ⟨e, h2⟩ := y
    subst e h2
    have hi' : i < n := by simpa [rangeL] using hi
    exact ⟨c2, wI (lo + i), Cf.ext.refl c2, ok2, rfl, rfl, by simp [rangeL, hi'], .int _⟩
def small62 (j : Int) : Bool := decide (j.natAbs < 4611686018427387904)
theorem small62_ok {i : Int} (h : small62 i = true) : -(2 ^ 62) ≤ i ∧ i < 2 ^ 62 := by
  have h := of_decide_eq_true h
  omega
def rng1 (ws : List W) : M Src := fun h => match ws with
  | [.d (.int j)] => if small62 j then .ok (rangeL 0 j.toNat, none) h else .no
  | _ => .no
def rng2 (ws : List W) : M Src := fun h => match ws with
  | [.d (.int i), .d (.int j)] => if small62 i && small62 j then .ok (rangeL i (j - i).toNat, none) h else .no
  | _ => .no
def iFun (f : List W → M Src) (a : EnvW → M (List W)) : EnvW → M Src := fun env => mbind (a env) f
theorem si_range1 {a : Expr} {p : Pos} {mr : EnvW → M (List W)} (hg : isGlob sc "range" = true) (hf : ("range" : Str) ∈ T.free) (ha : SA T G CM k sc [a] mr) (hs : noStar a = true) : SI T G CM k sc tg (.Call (.Name "range" p) [a] [] pos) (iFun rng1 mr) := fun X Wx F => by
  refine PI.imp (pi_range1 (F.gl hg) (F.top.free _ hf) (ha X Wx F) (noStar_each hs [] X.env)) fun σ H R ⟨c, env, e0, ok, re, q⟩ => ?_
  subst e0
  refine tA.step ok re q fun ws c1 vs e1 ok1 re1 rvs q1 => ?_
  unfold rng1 at q1
  split at q1
  · rename_i j
    obtain ⟨v, rfl, r1⟩ := rwl1 rvs
    rw [rInt r1]
    split at q1
    · rename_i hz
      exact ⟨j, rfl, (small62_ok hz).1, (small62_ok hz).2, q1.here ok1 (fun i h => by cases h) _ (iter_range 0 _)⟩
    · exact q1.elim
  · exact q1.elim
theorem si_range2 {a b : Expr} {p : Pos} {mr : EnvW → M (List W)} (hg : isGlob sc "range" = true) (hf : ("range" : Str) ∈ T.free) (ha : SA T G CM k sc [a, b] mr) (hs : noStar a = true) (hs2 : noStar b = true) : SI T G CM k sc tg (.Call (.Name "range" p) [a, b] [] pos) (iFun rng2 mr) := fun X Wx F => by
  refine PI.imp (pi_range2 (F.gl hg) (F.top.free _ hf) (ha X Wx F) (by rw [noStar_each hs, noStar_each hs2]; rfl) (noStar_each hs2 [] X.env)) fun σ H R ⟨c, env, e0, ok, re, q⟩ => ?_
  subst e0
  refine tA.step ok re q fun ws c1 vs e1 ok1 re1 rvs q1 => ?_
  unfold rng2 at q1
  split at q1
  · rename_i i j
    obtain ⟨v, v', rfl, r1, r2⟩ := rwl2 rvs
    rw [rInt r1, rInt r2]
    split at q1
    · rename_i hz
      obtain ⟨hz1, hz2⟩ := Bool.and_eq_true_iff.mp hz
      exact ⟨i, j, rfl, ⟨(small62_ok hz1).1, (small62_ok hz1).2, (small62_ok hz2).1, (small62_ok hz2).2⟩, q1.here ok1 (fun i h => by cases h) _ (iter_range _ _)⟩
    · exact q1.elim
  · exact q1.elim
/-! zip of two tuples, of two lists -/
def zipD (xs ys : List PyData) : List W := List.zipWith (fun x y => W.d (.tuple [x, y])) xs ys
def zipM (ws : List W) : M Src := fun h => match ws with
  | [.d (.tuple xs), .d (.tuple ys)] => .ok (zipD xs ys, none) h
  | [.d (.list xs), .d (.list ys)] => .ok (zipD xs ys, none) h
  | _ => .no
theorem new_pair {c2 : Cf} {x y : V} {dx dy : PyData} {Tp : Addr} (ok2 : c2.ok G) (hT : c2.H Tp = none) (rx : Rp G.K c2 x dx) (ry : Rp G.K c2 y dy) : ∃ c3, c2.ext c3 ∧ c3.ok G ∧ c3.H = upd c2.H Tp (.tup [x, y]) ∧ c3.ah = c2.ah ∧ RW G c3 (.ref Tp) (.d (.tuple [dx, dy])) := by
  have ex := Cf.lay_ext (c := c2) (o := .tup [x, y]) hT
  exact ⟨c2.lay Tp (.tup [x, y]), ex, Cf.lay_ok ok2 hT, rfl, rfl, .tup (Cf.lay_live ok2 hT) (.inl upd_same) (.cons (Rp.mono ex rx) (.cons (Rp.mono ex ry) .nil))⟩
theorem zipD_at {xs ys : List V} {ds es : List PyData} {c : Cf} (r1 : RpL G.K c xs ds) (r2 : RpL G.K c ys es) {i : Nat} (hi : i < (zipD ds es).length) : ∃ x y dx dy, xs[i]? = some x ∧ ys[i]? = some y ∧ Rp G.K c x dx ∧ Rp G.K c y dy ∧ (zipD ds es)[i]? = some (.d (.tuple [dx, dy])) := by
  have hl : i < min ds.length es.length := by simpa [zipD] using hi
  have h1 : i < ds.length := by omega
  have h2 : i < es.length := by omega
  obtain ⟨x, a1, a2⟩ := r1.get (List.getElem?_eq_getElem h1)
  obtain ⟨y, b1, b2⟩ := r2.get (List.getElem?_eq_getElem h2)
  exact ⟨x, y, _, _, a1, b1, a2, b2, by simp [zipD, List.getElem?_zipWith, h1, h2]⟩
theorem iter_zipT {c : Cf} {a b : Addr} {xs ys : List V} {ds es : List PyData} (hs1 : ∀ c2, c.ext c2 → SqT G.K c2.H a xs) (hs2 : ∀ c2, c.ext c2 → SqT G.K c2.H b ys) (r1 : RpL G.K c xs ds) (r2 : RpL G.K c ys es) : IterOk G (RZ.ItzT G.K a b) (zipD ds es) c where
  go := fun i c2 hi ex _ => by
    obtain ⟨x, y, dx, dy, h1, h2, _⟩ := zipD_at r1 r2 hi
    exact ⟨xs, ys, x, y, hs1 c2 ex, hs2 c2 ex, h1, h2⟩
  stop := fun c2 ex _ => ⟨xs, ys, hs1 c2 ex, hs2 c2 ex, by rw [r1.length, r2.length]; simp [zipD]; omega⟩
  yld := fun i c2 x H' hi ex ok2 y => by
    obtain ⟨Tp, x', y', h1, h2, h3, h4, h5⟩ := y
    obtain ⟨x2, y2, dx, dy, a1, a2, a3, a4, a5⟩ := zipD_at r1 r2 hi
    have e1 := h4 xs (hs1 c2 ex)
    have e2 := h5 ys (hs2 c2 ex)
    rw [a1] at e1; rw [a2] at e2
    cases e1; cases e2
    subst h1
    obtain ⟨c3, q1, q2, q3, q4, q5⟩ := new_pair ok2 h2 (Rp.mono ex a3) (Rp.mono ex a4)
    exact ⟨c3, _, q1, q2, by rw [q3, h3], q4, a5, q5⟩
theorem iter_zipL {c : Cf} {a b : Addr} {xs ys : List V} {ds es : List PyData} (hs1 : ∀ c2, c.ext c2 → SqL G.K c2.H a xs) (hs2 : ∀ c2, c.ext c2 → SqL G.K c2.H b ys) (r1 : RpL G.K c xs ds) (r2 : RpL G.K c ys es) : IterOk G (Itz G.K a b) (zipD ds es) c where
  go := fun i c2 hi ex _ => by
    obtain ⟨x, y, dx, dy, h1, h2, _⟩ := zipD_at r1 r2 hi
    exact ⟨xs, ys, x, y, hs1 c2 ex, hs2 c2 ex, h1, h2⟩
  stop := fun c2 ex _ => ⟨xs, ys, hs1 c2 ex, hs2 c2 ex, by rw [r1.length, r2.length]; simp [zipD]; omega⟩
  yld := fun i c2 x H' hi ex ok2 y => by
    obtain ⟨Tp, x', y', h1, h2, h3, h4, h5⟩ := y
    obtain ⟨x2, y2, dx, dy, a1, a2, a3, a4, a5⟩ := zipD_at r1 r2 hi
    have e1 := h4 xs (hs1 c2 ex)
    have e2 := h5 ys (hs2 c2 ex)
    rw [a1] at e1; rw [a2] at e2
    cases e1; cases e2
    subst h1
    obtain ⟨c3, q1, q2, q3, q4, q5⟩ := new_pair ok2 h2 (Rp.mono ex a3) (Rp.mono ex a4)
    exact ⟨c3, _, q1, q2, by rw [q3, h3], q4, a5, q5⟩
theorem si_zip {a b : Expr} {elts : List Expr} {kk : Nat} {tpos p : Pos} {mr : EnvW → M (List W)} (hg : isGlob sc "zip" = true) (hf : ("zip" : Str) ∈ T.free) (ha : SA T G CM k sc [a, b] mr) (hs : noStar a = true) (hs2 : noStar b = true) : SI T G CM k sc (.Tuple elts kk tpos) (.Call (.Name "zip" p) [a, b] [] pos) (iFun zipM mr) := fun X Wx F => by
  refine PI.imp (RZ.pi_zipA (F.gl hg) (F.top.free _ hf) (ha X Wx F) (noStar_each hs _ X.env) (noStar_any (es := [b]) (by simp [hs2]) pos X.env)) fun σ H R ⟨c, env, e0, ok, re, q⟩ => ?_
  subst e0
  refine tA.step ok re q fun ws c1 vs e1 ok1 re1 rvs q1 => ?_
  unfold zipM at q1
  split at q1
  · rename_i ds es
    obtain ⟨v, v', rfl, r1, r2⟩ := rwl2 rvs
    obtain ⟨p1, xs, rfl, u1, s1⟩ := tup_stays r1
    obtain ⟨p2, ys, rfl, u2, s2⟩ := tup_stays r2
    refine ⟨p1, p2, xs, ys, rfl, .inr ⟨by rw [F.K]; exact s1 c1 (Cf.ext.refl _), by rw [F.K]; exact s2 c1 (Cf.ext.refl _), ?_⟩⟩
    rw [F.K]
    exact q1.here ok1 (fun i h => by cases h) _ (iter_zipT s1 s2 u1 u2)
  · rename_i ds es
    obtain ⟨v, v', rfl, r1, r2⟩ := rwl2 rvs
    obtain ⟨p1, xs, rfl, u1, s1⟩ := lst_stays r1
    obtain ⟨p2, ys, rfl, u2, s2⟩ := lst_stays r2
    refine ⟨p1, p2, xs, ys, rfl, .inl ⟨by rw [F.K]; exact s1 c1 (Cf.ext.refl _), by rw [F.K]; exact s2 c1 (Cf.ext.refl _), ?_⟩⟩
    rw [F.K]
    exact q1.here ok1 (fun i h => by cases h) _ (iter_zipL s1 s2 u1 u2)
  · exact q1.elim
end
end Ev
set_option Elab.async false
set_option linter.all false
set_option maxRecDepth 100000
set_option maxHeartbeats 2000000
/-! E13: stores to attributes and places, several names, op=; lists that are data. -/
namespace Ev
open PySem PySem.Spec PyProof.Rows L2

section
variable {T : Tb} {G : GA} {CM : FId → List W → M W} {k : Nat} {sc : Sc} {a b e o i : Expr} {es : List Expr} {mr : EnvW → M (List W)} {ma mb mo mi : ME} {pos p p2 : Pos} {f x : Str}
/-! ### a list display that is data (it stands within another display, or is compared) -/
def eLstD (a : EnvW → M (List W)) : ME := fun env => mbind (a env) fun ws => match allD ws with
  | some ds => if ds.length ≤ sizeLine then mpure (.d (.list ds)) else mno
  | none => mno
theorem se_lstD (hr : SA T G CM k sc es mr) : SE T G CM k sc (.List es pos) (eLstD mr) := fun X Wx F => by
  refine PE.imp (pe_lst (hr X Wx F)) fun σ H Q ⟨c, env, e, ok, re, q⟩ => ?_
  subst e
  refine tA.step ok re q fun ws c1 vs e1 ok1 re1 rvs q1 => ?_
  cases hd : allD ws with
  | none =>
    simp only [hd] at q1
    exact q1.elim
  | some ds =>
    simp only [hd] at q1
    by_cases hz : ds.length ≤ sizeLine
    · rw [if_pos hz] at q1
      have r := allD_ok hd rvs
      refine ⟨by rw [r.length]; exact hz, fun p hp => ?_⟩
      have ex := Cf.lay_ext (o := .lst vs) hp
      exact Po.at (c' := c1.lay p (.lst vs)) q1 ex (Cf.lay_ok ok1 hp) (.ref p) (.lst (Cf.lay_live ok1 hp) (.inl upd_same) (RpL.mono ex r))
    · rw [if_neg hz] at q1
      exact q1.elim

/-! ### o.f = e -/
def putW (f : Str) (v : W) : List (Str × W) → List (Str × W)
  | [] => [(f, v)]
  | (g, x) :: r => if g = f then (g, v) :: r else (g, x) :: putW f v r
theorem putF_rel {c : Cf} {f : Str} {v : V} {w : W} (rv : RW G c v w) : ∀ {xs : List (Str × V)} {fs : List (Str × W)}, Paired (fun (p : Str × V) (q : Str × W) => p.1 = q.1 ∧ RW G c p.2 q.2) xs fs → Paired (fun (p : Str × V) (q : Str × W) => p.1 = q.1 ∧ RW G c p.2 q.2) (putF f v xs) (putW f w fs)
  | _, _, .nil => .cons ⟨rfl, rv⟩ .nil
  | (g, x) :: xs, (g', y) :: fs, .cons h r => by
    obtain ⟨h1, h2⟩ := h
    have h1' : g = g' := h1
    subst h1'
    show Paired _ (if g = f then (g, v) :: xs else (g, x) :: putF f v xs) (if g = f then (g, w) :: fs else (g, y) :: putW f w fs)
    by_cases e : g = f
    · rw [if_pos e, if_pos e]; exact .cons ⟨rfl, rv⟩ r
    · rw [if_neg e, if_neg e]; exact .cons ⟨rfl, h2⟩ (putF_rel rv r)
def setFldM (f : Str) (o v : W) : M Unit := fun h => match o with
  | .r i => (match h[i]? with
    | some (.ins c fs) => if fs.length < 1000 then .ok () (h.set i (.ins c (putW f v fs))) else .no
    | _ => .no)
  | _ => .no
def sFldW (f : Str) (o v : ME) : MS := fun env => mbind (v env) fun y => mbind (o env) fun x => mbind (setFldM f x y) fun _ => mpure (.nx env)
theorem swA (v o : Expr) (f : Str) (p : Pos) (l : Nat) (env : Env) : swapsWith v (some (.Attribute o f p)) l env = pure false := by
  unfold swapsWith
  split
  · rfl
  · rfl
theorem swT (v : Expr) (es : List Expr) (kk : Nat) (p : Pos) (l : Nat) (env : Env) : swapsWith v (some (.Tuple es kk p)) l env = pure false := by
  unfold swapsWith
  split
  · rfl
  · rfl
theorem swS (v o i : Expr) (p : Pos) (l : Nat) (env : Env) : swapsWith v (some (.Subscript o i p)) l env = pure false := by
  unfold swapsWith
  split
  · rfl
  · rfl
theorem put_ins {c : Cf} {i : Nat} {a C dx : Addr} {cn : Str} {old fs : List (Str × W)} {xs : List (Str × V)} (k : c.ok G) (h : c.μ[i]? = some a) (ho : c.ah[i]? = some (.ins cn old)) (hC : G.ca cn = some C) (r : Paired (fun (p : Str × V) (q : Str × W) => p.1 = q.1 ∧ RW G c p.2 q.2) xs fs) : c.ext (c.put i a (.ins C dx xs) (.ins cn fs)) ∧ (c.put i a (.ins C dx xs) (.ins cn fs)).ok G := by
  have ex := Cf.put_ext (o := .ins C dx xs) (ao := .ins cn fs) k h ho (by intro e; cases e)
  exact ⟨ex, Cf.put_ok k h ho (by intro e; cases e) ⟨C, dx, xs, upd_same, hC, L2.Paired.mapP r fun _ _ q => ⟨q.1, RW.mono ex q.2⟩⟩⟩
theorem setFld_at {X : Cx} {Wx : WX} (F : Fits T G CM k X sc Wx) (hf : f ∈ T.flds) {c : Cf} {v vo : V} {w wo : W} {β : Type} {g : Unit → M β} {FF : β → Cf → Prop} {E : Str → Cf → Prop} (ok : c.ok G) (rv : RW G c v w) (ro : RW G c vo wo) (q : Po G (mbind (setFldM f wo w) g c.ah) c FF E) :
    ∃ a C dx fs, vo = .ref a ∧ c.H a = some (.ins C dx fs) ∧ Cls X.K C ∧ NoAttr X.K C f ∧ fs.length < 1000 ∧ ∃ c', c.ext c' ∧ c'.ok G ∧ c'.H = upd c.H a (.ins C dx (putF f v fs)) ∧ Po G (g () c'.ah) c' FF E := by
  have q0 := Po.bind q
  unfold setFldM at q0
  split at q0
  · rename_i i
    split at q0
    · rename_i cn fs e2
      split at q0
      · rename_i hz
        obtain ⟨p, rfl, h1, C, dx, xs, hx, hC, r2⟩ := rRef ok ro e2
        obtain ⟨hc, hn⟩ := F.top.own cn C hC
        obtain ⟨ex, okP⟩ := put_ins (dx := dx) ok h1 e2 hC (putF_rel (f := f) rv r2)
        exact ⟨p, C, dx, xs, rfl, hx, hc, hn f hf, by rw [Paired.length r2]; exact hz, _, ex, okP, rfl, q0 _ ex okP rfl⟩
      · exact q0.elim
    · exact q0.elim
  · exact q0.elim
theorem ss_fld (hf : f ∈ T.flds) (ho : SE T G CM k sc o mo) (he : SE T G CM k sc e ma) : SS T G CM k sc (.Assign [.Attribute o f p] e pos) (sFldW f mo ma) := fun X Ex F hp hs hfr => by
  refine PS.imp (ps_fld (ho X _ F) (he X _ F) (swA _ _ _ _ _ _)) fun D σ H ⟨c, env, e, ok, re, q⟩ => ?_
  subst e
  refine tE.step ok re q fun w c1 v e1 ok1 re1 rv q1 => tE.step ok1 re1 q1 fun w2 c2 v2 e2 ok2 re2 rv2 q2 => ?_
  obtain ⟨a, C, dx, fs, h1, h2, h3, h4, h5, c', ex, okc, hH, q3⟩ := setFld_at F hf ok2 (RW.mono e2 rv) rv2 q2
  refine ⟨a, C, dx, fs, h1, h2, h3, h4, h5, ?_⟩
  rw [← hH]
  exact Po.here (a := Fl.nx env) q3 okc σ (re2.mono ex)

/-! ### o[i] = e -/
def putDW (k : Key) (w : W) (ds : List (PyData × W)) : List (PyData × W) :=
  if ds.any fun p => keyIsD k p.1 then ds.map fun p => if keyIsD k p.1 then (p.1, w) else p else ds ++ [(keyD k, w)]
abbrev PDW (G : GA) (c : Cf) : List (Key × V) → List (PyData × W) → Prop := Paired (fun (p : Key × V) (q : PyData × W) => q.1 = keyD p.1 ∧ RW G c p.2 q.2)
theorem pdw_any {c : Cf} {k : Key} : ∀ {xs : List (Key × V)} {ds : List (PyData × W)}, PDW G c xs ds → (ds.any fun p => keyIsD k p.1) = xs.any fun kv => decide (kv.1 = k)
  | _, _, .nil => rfl
  | (j, x) :: xs, (d, w) :: ds, .cons h r => by
    have h1 : d = keyD j := h.1
    subst h1
    rw [List.any_cons, List.any_cons, pdw_any r, keyIsD_ok]
theorem pdw_map {c : Cf} {k : Key} {v : V} {w : W} (rv : RW G c v w) : ∀ {xs : List (Key × V)} {ds : List (PyData × W)}, PDW G c xs ds → PDW G c (xs.map fun kv => if kv.1 = k then (kv.1, v) else kv) (ds.map fun p => if keyIsD k p.1 then (p.1, w) else p)
  | _, _, .nil => .nil
  | (j, x) :: xs, (d, w') :: ds, .cons h r => by
    obtain ⟨h1, h2⟩ := h
    have h1' : d = keyD j := h1
    subst h1'
    rw [List.map_cons, List.map_cons]
    refine .cons ?_ (pdw_map rv r)
    show (if keyIsD k (keyD j) = true then (keyD j, w) else (keyD j, w')).1 = keyD (if j = k then (j, v) else (j, x)).1 ∧ _
    rw [keyIsD_ok]
    by_cases e : j = k
    · rw [decide_eq_true e, if_pos rfl, if_pos e]; exact ⟨rfl, rv⟩
    · rw [decide_eq_false e, if_neg Bool.false_ne_true, if_neg e]; exact ⟨rfl, h2⟩
theorem paired_snoc {α β : Type} {P : α → β → Prop} {x : α} {y : β} (h : P x y) : ∀ {xs : List α} {ys : List β}, Paired P xs ys → Paired P (xs ++ [x]) (ys ++ [y])
  | _, _, .nil => .cons h .nil
  | _, _, .cons a r => .cons a (paired_snoc h r)
theorem pdw_put {c : Cf} {k : Key} {v : V} {w : W} (rv : RW G c v w) {xs : List (Key × V)} {ds : List (PyData × W)} (r : PDW G c xs ds) : PDW G c (putK xs k v) (putDW k w ds) := by
  unfold putK putDW
  rw [pdw_any r]
  by_cases e : (xs.any fun kv => decide (kv.1 = k)) = true
  · rw [if_pos e, if_pos e]; exact pdw_map rv r
  · rw [if_neg e, if_neg e]; exact paired_snoc (P := fun (p : Key × V) (q : PyData × W) => q.1 = keyD p.1 ∧ RW G c p.2 q.2) ⟨rfl, rv⟩ r
theorem put_dic {c : Cf} {i : Nat} {a : Addr} {old ws : List (PyData × W)} {us : List (Key × V)} (k : c.ok G) (h : c.μ[i]? = some a) (ho : c.ah[i]? = some (.dic old)) (r : PDW G c us ws) : c.ext (c.put i a (.dK us) (.dic ws)) ∧ (c.put i a (.dK us) (.dic ws)).ok G := by
  have ex := Cf.put_ext (o := .dK us) (ao := .dic ws) k h ho (by intro e; cases e)
  exact ⟨ex, Cf.put_ok k h ho (by intro e; cases e) ⟨us, upd_same, L2.Paired.mapP r fun _ _ q => ⟨q.1, RW.mono ex q.2⟩⟩⟩
theorem put_dcn {c : Cf} {i : Nat} {a : Addr} {old : AO} {ws : List (PyData × W)} {us : List (NestedKey × Addr × Value)} (k : c.ok G) (h : c.μ[i]? = some a) (ho : c.ah[i]? = some old) (hd : old ≠ .dead) (hr : ∀ kvs, old ≠ .rod kvs) (hne : (a == sysModules) = false) (hl : us.length ≤ sizeLine) (hnd : (us.map (·.1)).Nodup) (r : NDR G c us ws) : c.ext (c.put i a (.ext (NDO G.w a us)) (.dcn ws)) ∧ (c.put i a (.ext (NDO G.w a us)) (.dcn ws)).ok G := by
  have ex := Cf.put_ext (o := .ext (NDO G.w a us)) (ao := .dcn ws) k h ho hd hr
  exact ⟨ex, Cf.put_ok k h ho hd ⟨us, upd_same, hne, hl, hnd, L2.Paired.mapP r fun _ _ ⟨q1, q2, q3, v, q4, q5⟩ => ⟨q1, q2, Rp.mono ex q3, v, q4, RW.mono ex q5⟩⟩ hr⟩
def setIxM (o i v : W) : M Unit := fun h => match o with
  | .r j => (match h[j]?, i with
    | some (.lst ws), .d (.int n) => (match ixN ws.length n with
      | some m => .ok () (h.set j (.lst (ws.set m v)))
      | none => .no)
    | some (.dic ws), .d key => (match keyOf key with
      | some kk => if ws.length < sizeLine then .ok () (h.set j (.dic (putDW kk v ws))) else .no
      | none => (match ws, nkT key with
        | [], some _ => .ok () (h.set j (.dcn [(key, v)]))
        | _, _ => .no))
    | some (.dcn ws), .d key => (match nkT key with
      | some kk => if ws.length < sizeLine then .ok () (h.set j (.dcn (putN kk key v ws))) else .no
      | none => .no)
    | _, _ => .no)
  | _ => .no
theorem paired_set {α β : Type} {P : α → β → Prop} {x : α} {y : β} (h : P x y) : ∀ {xs : List α} {ys : List β} (n : Nat), Paired P xs ys → Paired P (xs.set n x) (ys.set n y)
  | _, _, _, .nil => .nil
  | _, _, 0, .cons _ r => .cons h r
  | _, _, n + 1, .cons a r => .cons a (paired_set h n r)
theorem set_dict {X : Cx} (hu : X.A.units + 1 < cLine) : PSet X (fun o i v H Q => ∃ p H', o = .ref p ∧ DPut H p i v H' ∧ Q H') := by
  intro pins s σ H o i v ov iv u Q I r1 r2 r3 h
  obtain ⟨p, H', rfl, g, q⟩ := h
  cases r1
  exact d_setItem hu I g r2 r3 fun s' I' => ⟨H', I', q⟩
theorem PSet.or {X : Cx} {t t' : TSet} (h : PSet X t) (h' : PSet X t') : PSet X (fun o i v H Q => t o i v H Q ∨ t' o i v H Q) := by
  intro pins s σ H o i v ov iv u Q I r1 r2 r3 q
  rcases q with q | q
  · exact h pins s σ H o i v ov iv u Q I r1 r2 r3 q
  · exact h' pins s σ H o i v ov iv u Q I r1 r2 r3 q
def sIxW (o i v : ME) : MS := fun env => mbind (v env) fun y => mbind (o env) fun x => mbind (i env) fun z => mbind (setIxM x z y) fun _ => mpure (.nx env)
theorem swSole (t v : Expr) (l : Nat) (env : Env) : swapsWithSole [t] v l env = swapsWith v (some t) l env := rfl
theorem ss_ix (hpi : plainIx i = true) (ho : SE T G CM k sc o mo) (hi : SE T G CM k sc i mi) (he : SE T G CM k sc e ma) : SS T G CM k sc (.Assign [.Subscript o i p] e pos) (sIxW mo mi ma) := fun X Ex F hp hs hfr => by
  have hne : ∀ env : Env, swappedStores [.Subscript o i p] e env = pure none := fun env => by cases e <;> rfl
  refine PS.imp (ps_asg (he X _ F) (pg_sub (ho X _ F) (hi X _ F) (Ev.PSet.or set_list (Ev.PSet.or (set_dict (hu_of F.room)) (set_N F.room.units))) (fun v => by cases i <;> first | rfl | cases hpi)) (by rw [swSole]; exact swS _ _ _ _ _ _) (hne _)) fun D σ H ⟨c, env, e, ok, re, q⟩ => ?_
  subst e
  refine tE.step ok re q fun w c1 v e1 ok1 re1 rv q1 => tE.step ok1 re1 q1 fun w2 c2 v2 e2 ok2 re2 rv2 q2 => tE.step ok2 re2 q2 fun w3 c3 v3 e3 ok3 re3 rv3 q3 => ?_
  have q4 := Po.bind q3
  have rv' := RW.mono e3 (RW.mono e2 rv)
  have rv2' := RW.mono e3 rv2
  unfold setIxM at q4
  split at q4
  · rename_i j
    split at q4
    · rename_i ws n ew
      obtain ⟨a, rfl, h1, xs, hx, r2⟩ := rRef ok3 rv2' ew
      split at q4
      · rename_i m hm
        obtain ⟨exP, okP⟩ := put_list ok3 h1 ew (paired_set (P := RW G c3) rv' m r2)
        refine .inl ⟨a, xs, n, m, rfl, rInt rv3, hx, by rw [Paired.length r2]; exact hm, ?_⟩
        exact Po.here (a := Fl.nx env) (q4 _ exP okP rfl) okP σ (re3.mono exP)
      · exact q4.elim
    · rename_i ws key ew
      obtain ⟨a, rfl, h1, xs, hx, r2⟩ := rRef ok3 rv2' ew
      split at q4
      · rename_i kk hk
        split at q4
        · rename_i hz
          obtain ⟨exP, okP⟩ := put_dic ok3 h1 ew (pdw_put (k := kk) rv' r2)
          rw [rKey rv3 hk]
          refine .inr (.inl ⟨a, _, rfl, DPut.k hx (by rw [Paired.length r2]; exact hz), ?_⟩)
          exact Po.here (a := Fl.nx env) (q4 _ exP okP rfl) okP σ (re3.mono exP)
        · exact q4.elim
      · split at q4
        · rename_i kk hk
          obtain ⟨b', rfl, kh, rb⟩ := key_rp rv3 hk
          obtain ⟨hk1, hk2, _⟩ := nkT_ok hk
          cases r2
          refine .inr (.inr ⟨a, b', kk, [], rfl, rfl, .inr ⟨rfl, hx⟩, by decide, by rw [F.K]; exact kh, fun u ru hne => ?_⟩)
          have nr : NDR G c3 (storedH [] kk b' u) [(key, w)] := .cons ⟨hk1, hk2, rb, _, ru, rv'⟩ .nil
          obtain ⟨exP, okP⟩ := put_dcn ok3 h1 ew (by intro e; cases e) (by intro kvs e; cases e) hne (by show 1 ≤ sizeLine; decide) (by show [kk].Nodup; simp) nr
          rw [F.wd]
          exact Po.here (a := Fl.nx env) (q4 _ exP okP rfl) okP σ (re3.mono exP)
        · exact q4.elim
    · rename_i ws key ew
      obtain ⟨a, rfl, h1, xs, hx, g1, g2, g3, r2⟩ := rRef ok3 rv2' ew
      split at q4
      · rename_i kk hk
        split at q4
        · rename_i hz
          obtain ⟨b', rfl, kh, rb⟩ := key_rp rv3 hk
          obtain ⟨hk1, hk2, _⟩ := nkT_ok hk
          have hl : xs.length < sizeLine := by rw [Paired.length r2]; exact hz
          refine .inr (.inr ⟨a, b', kk, xs, rfl, rfl, .inl ⟨by rw [F.wd]; exact hx, g3, by rw [F.K]; exact r2.keys, g1, g2⟩, hl, by rw [F.K]; exact kh, fun u ru hne => ?_⟩)
          obtain ⟨exP, okP⟩ := put_dcn ok3 h1 ew (by intro e; cases e) (by intro kvs e; cases e) hne (by have := stored_len (k := kk) (b := b') (u := u) (xs := xs); omega) (stored_nd g3) (ndr_put hk1 hk2 rb ru rv' r2)
          rw [F.wd]
          exact Po.here (a := Fl.nx env) (q4 _ exP okP rfl) okP σ (re3.mono exP)
        · exact q4.elim
      · exact q4.elim
    · exact q4.elim
  · exact q4.elim

/-! ### a, b = e -/
def setAllW : EnvW → List Nat → List W → EnvW
  | env, i :: is, d :: ds => setAllW (env.set i (some d)) is ds
  | env, _, _ => env
theorem gNamesW_ok {c : Cf} : ∀ {is : List Nat} {ws : List W} {xs : List V} {env : EnvW} {σ : L2.St} {Q : L2.St → Hp → Prop}, ws.length = is.length → RWL G c xs ws → EnvR G c env σ →
    (∀ σ2, EnvR G c (setAllW env is ws) σ2 → Q σ2 c.H) → gNames is xs σ c.H Q
  | [], ws, xs, env, σ, Q, hl, r, re, q => by
    cases ws with
    | nil => cases r; exact ⟨rfl, q σ re⟩
    | cons d ds => simp at hl
  | i :: is, ws, xs, env, σ, Q, hl, r, re, q => by
    cases ws with
    | nil => simp at hl
    | cons d ds =>
      cases r with
      | cons r1 r2 =>
        refine ⟨_, _, rfl, ?_⟩
        exact gNamesW_ok (env := env.set i (some d)) (by simpa using hl) r2 (re.set r1) q
/-- the names behind the target: of data, of a tuple or a list that holds objects -/
def tgH (t : Tg) (w : W) (env : EnvW) (h : AH) : Option EnvW := match t, w with
  | .t is, .r i => (match h[i]? with
    | some (.tup ws) => if ws.length = is.length then some (setAllW env is ws) else none
    | some (.lst ws) => if ws.length = is.length then some (setAllW env is ws) else none
    | _ => none)
  | t, w => tgM t w env
def kTg (t : Tg) (env : EnvW) (w : W) : M Fl := fun h => match tgH t w env h with
  | some e => .ok (.nx e) h
  | none => .no
def sTgW (t : Tg) (v : ME) : MS := fun env => mbind (v env) (kTg t env)
def noTup : Expr → Bool
  | .Tuple .. => false
  | _ => true
theorem pg_or {X : Cx} {tg : Expr} {g g' : TG} (h : PG X tg g) (h' : PG X tg g') : PG X tg (fun v σ H Q => g v σ H Q ∨ g' v σ H Q) := ⟨fun pins s σ H v u Q I r q => by
  rcases q with q | q
  · exact h.run pins s σ H v u Q I r q
  · exact h'.run pins s σ H v u Q I r q⟩
/-- a target of names takes a list, too -/
def gTgL (K : PySem.W.Frag) : Tg → TG
  | .n i => gName i
  | .t is => gLst K is.length (gNames is)
theorem pg_tgL {X : Cx} {Wx : WX} (F : Fits T G CM k X sc Wx) {tg : Expr} {t : Tg} (h : tgOf sc tg = some t) : PG X tg (gTgL X.K t) := by
  cases tg with
  | Name x p =>
    cases q : slotS sc x with
    | none => simp only [tgOf, q] at h; cases h
    | some i =>
      simp only [tgOf, q] at h
      cases h
      exact pg_slot F q
  | Tuple es kk p =>
    cases q : nameSlots sc es with
    | none => simp only [tgOf, q] at h; cases h
    | some is =>
      simp only [tgOf, q] at h
      cases h
      obtain ⟨p1, p2, p3⟩ := nameSlots_ok F q
      exact pg_lst F.calm p1 p2 p3
  | _ => cases h
theorem ss_tup {tes : List Expr} {kk : Nat} {t : Tg} (ht : tgOf sc (.Tuple tes kk p) = some t) (he : SE T G CM k sc e ma) (hn : noTup e = true) : SS T G CM k sc (.Assign [.Tuple tes kk p] e pos) (sTgW t ma) := fun X Ex F hp hs hfr => by
  have hne : ∀ env : Env, swappedStores [.Tuple tes kk p] e env = pure none := fun env => by
    cases e <;> first | rfl | cases hn
  refine PS.imp (ps_asg (he X _ F) (pg_or (pg_tg F ht) (pg_tgL F ht)) (by rw [swSole]; exact swT _ _ _ _ _ _) (hne _)) fun D σ H ⟨c, env, e, ok, re, q⟩ => ?_
  subst e
  refine tE.step ok re q fun w c1 v e1 ok1 re1 rv q1 => ?_
  unfold kTg at q1
  cases hm : tgH t w env c1.ah with
  | none =>
    simp only [hm] at q1
    exact q1.elim
  | some env1 =>
    simp only [hm] at q1
    unfold tgH at hm
    split at hm
    · rename_i is
      split at hm
      · rename_i ws hw
        split at hm
        · rename_i hl
          cases hm
          obtain ⟨a, rfl, h1, xs, hx, rx⟩ := rRef ok1 rv hw
          exact .inl ⟨a, xs, rfl, .inl (.inl hx), by rw [Paired.length rx]; exact hl, gNamesW_ok (env := env) hl rx re1 fun σ2 re2 => Po.here (a := Fl.nx (setAllW env _ ws)) q1 ok1 σ2 re2⟩
        · cases hm
      · rename_i ws hw
        split at hm
        · rename_i hl
          cases hm
          obtain ⟨a, rfl, h1, xs, hx, rx⟩ := rRef ok1 rv hw
          exact .inr ⟨a, xs, rfl, .inl (.inl hx), by rw [Paired.length rx]; exact hl, gNamesW_ok (env := env) hl rx re1 fun σ2 re2 => Po.here (a := Fl.nx (setAllW env _ ws)) q1 ok1 σ2 re2⟩
        · cases hm
      · cases hm
    · exact .inl <| gTg_ok (c := c1) F.K (vs := t.slots) hm re1 rv (fun _ h => h) fun σ2 re2 _ => Po.here (a := Fl.nx env1) q1 ok1 σ2 re2
/-- a, b = x, y -/
def sPar (i j : Nat) (a b : ME) : MS := fun env => mbind (a env) fun x => mbind (b env) fun y => mpure (.nx ((env.set i (some x)).set j (some y)))
theorem aCons2 (env : EnvW) : aCons ma (aCons mb aNil) env = mbind (ma env) fun x => mbind (mb env) fun y => mpure [x, y] := by
  funext h
  simp only [aCons, aNil, mbind, mpure]
  cases ma env h with
  | ok w h1 =>
    simp only
    cases mb env h1 <;> rfl
  | ex e h1 => rfl
  | no => rfl
theorem po_two {α β : Type} {m1 m2 : M W} {f : W → W → α} {g : W → W → β} {c : Cf} {F : α → Cf → Prop} {F' : β → Cf → Prop} {E : Str → Cf → Prop} (h : Po G (mbind m1 (fun x => mbind m2 fun y => mpure (f x y)) c.ah) c F E) (hf : ∀ x y c', c.ext c' → c'.ok G → F (f x y) c' → F' (g x y) c') : Po G (mbind m1 (fun x => mbind m2 fun y => mpure (g x y)) c.ah) c F' E := by
  unfold mbind at h ⊢
  cases q1 : m1 c.ah with
  | no => rw [q1] at h; exact h
  | ex e h1 => rw [q1] at h; exact h
  | ok w h1 =>
    rw [q1] at h
    simp only at h ⊢
    cases q2 : m2 h1 with
    | no => rw [q2] at h; exact h
    | ex e h2 => rw [q2] at h; exact h
    | ok w2 h2 =>
      rw [q2] at h
      exact fun c' ex ok e => hf w w2 c' ex ok (h c' ex ok e)
theorem ss_par {x y : Str} {i j : Nat} {px py pt pt2 : Pos} {kt k2 : Nat} (hk : sc.scope.kind = .function) (hx : sc.scope.names.lookup x = some .local) (hy : sc.scope.names.lookup y = some .local) (hi : sc.N.idxOf? x = some i) (hj : sc.N.idxOf? y = some j) (hij : i ≠ j)
    (ha : SE T G CM k sc a ma) (hb : SE T G CM k sc b mb) (hsa : noStar a = true) (hsb : noStar b = true) (hw : ∀ env : Env, env.scope = sc.scope → swappedStores [.Tuple [.Name x px, .Name y py] kt pt] (.Tuple [a, b] k2 pt2) env = pure (some [x, y])) :
    SS T G CM k sc (.Assign [.Tuple [.Name x px, .Name y py] kt pt] (.Tuple [a, b] k2 pt2) pos) (sPar i j ma mb) := fun X Ex F hp hs hfr => by
  have hA : PA X [a, b] (tA G _ (aCons ma (aCons mb aNil))) := sa_cons ha (sa_cons hb sa_nil hsb) hsa X _ F
  refine PS.imp (ps_par (i := i) (j := j) F.calm F.ndN (by rw [F.N]; exact idx_at hi) (by rw [F.N]; exact idx_at hj) hij (by rw [F.scope]; exact hx) (by rw [F.scope]; exact hy) hA (hw X.env F.scope) (by rw [swSole]; exact swT _ _ _ _ _ _)) fun D σ H ⟨c, env, e, ok, re, q⟩ => ?_
  subst e
  refine ⟨c, env, rfl, ok, re, ?_⟩
  rw [aCons2]
  refine po_two q fun w1 w2 c' ex' ok' q2 vs rvs => ?_
  obtain ⟨v, v', rfl, r1, r2⟩ := rwl2 rvs
  exact ⟨v, v', rfl, q2 _ (((re.mono ex').set r1).set r2)⟩

/-! ### x += e -/
def iopM (a b : W) : M W := fun h => match a, b with
  | .d (.int i), .d (.int j) => .ok (wI (i + j)) h
  | .d (.str x), .d (.str y) => if x.length + y.length ≤ sizeLine then .ok (wS (x ++ y)) h else .no
  | _, _ => .no
theorem iop_ok {X : Cx} : ∃ r, OpR X (inplaceOp .Add) r ∧ Op2 G iopM r := by
  refine ⟨_, iop_add.or iop_add_str, fun c x y a b Q E k rx ry h => ?_⟩
  unfold iopM at h
  split at h
  · rename_i i j
    rw [rInt rx, rInt ry]
    exact .inl ⟨i, j, rfl, rfl, h.here k _ (.int _)⟩
  · rename_i i j
    rw [rStr rx, rStr ry]
    split at h
    · rename_i hz
      exact .inr ⟨i, j, rfl, rfl, hz, h.here k _ (.str _)⟩
    · exact h.elim
  · exact h.elim
def sAug (i : Nat) (a : ME) : MS := fun env => mbind (mVar i env) fun x => mbind (a env) fun y => mbind (iopM x y) fun z => mpure (.nx (env.set i (some z)))
theorem ss_aug {i : Nat} (hx : slotS sc x = some i) (he : SE T G CM k sc e ma) : SS T G CM k sc (.AugAssign (.Name x p) .Add e pos) (sAug i ma) := fun X Ex F hp hs hfr => by
  obtain ⟨h1, h2, h3⟩ := slotS_ok F hx
  obtain ⟨r, g1, g2⟩ := iop_ok (X := X) (G := G)
  refine PS.imp (ps_aug (ti := r) F.ndN h1 h2 (he X _ F) g1 h3) fun D σ H ⟨c, env, e, ok, re, q⟩ => ?_
  subst e
  have q1 := Po.bind q
  unfold mVar at q1
  split at q1
  · rename_i w hw
    obtain ⟨v, hv, rv⟩ := re.2 i w hw
    refine ⟨v, hv, tE.step ok re (Po.here (a := w) q1 ok) fun w2 c1 v2 e1 ok1 re1 rv2 q2 => ?_⟩
    refine g2 c1 v v2 w w2 _ _ ok1 (RW.mono e1 rv) rv2 (Po.mono (Po.bind q2) (fun z c3 e3 ok3 q3 v3 rv3 => ?_) fun _ _ _ _ q => q)
    exact Po.here (a := Fl.nx (env.set i (some z))) q3 ok3 _ ((re1.mono e3).set rv3)
  · exact q1.elim
def fldC (f : Str) (w : W) : M (Str × W) := fun h => match w with
  | .r i => (match h[i]? with
    | some (.ins c fs) => (match fs.lookup f with
      | some v => .ok (c, v) h
      | none => .no)
    | _ => .no)
  | _ => .no
def setFldC (cn f : Str) (o v : W) : M Unit := fun h => match o with
  | .r i => (match h[i]? with
    | some (.ins c fs) => if c = cn ∧ fs.length < 1000 then .ok () (h.set i (.ins c (putW f v fs))) else .no
    | _ => .no)
  | _ => .no
def sFldAugW (f : Str) (o v : ME) : MS := fun env => mbind (o env) fun x => mbind (fldC f x) fun cu => mbind (v env) fun y => mbind (iopM cu.2 y) fun z => mbind (setFldC cu.1 f x z) fun _ => mpure (.nx env)
theorem ss_fldaug (hf : f ∈ T.flds) (ho : SE T G CM k sc o mo) (he : SE T G CM k sc e ma) : SS T G CM k sc (.AugAssign (.Attribute o f p) .Add e pos) (sFldAugW f mo ma) := fun X Ex F hp hs hfr => by
  obtain ⟨r, g1, g2⟩ := iop_ok (X := X) (G := G)
  refine PS.imp (ps_fldaug (rd := r) (ho X _ F) (he X _ F) g1) fun D σ H ⟨c, env, e, ok, re, q⟩ => ?_
  subst e
  refine tE.step ok re q fun w c1 v e1 ok1 re1 rv q1 => ?_
  have q2 := Po.bind q1
  unfold fldC at q2
  split at q2
  · rename_i i
    split at q2
    · rename_i cn fs e2
      split at q2
      · rename_i w2 e3
        obtain ⟨a, rfl, h1, C, dx, xs, hx, hC, r2⟩ := rRef ok1 rv e2
        have q3 := fs_look (f := f) r2
        rw [e3] at q3
        cases e4 : xs.lookup f with
        | none => rw [e4] at q3; exact q3.elim
        | some v2 =>
          rw [e4] at q3
          obtain ⟨hc, hn⟩ := F.top.own cn C hC
          refine ⟨a, C, dx, xs, v2, rfl, hx, hc, hn f hf, e4, tE.step ok1 re1 (Po.here (a := (cn, w2)) q2 ok1) fun w3 c3 v3 e5 ok3 re3 rv3 q5 => ?_⟩
          refine g2 c3 v2 v3 w2 w3 _ _ ok3 (RW.mono e5 q3) rv3 (Po.mono (Po.bind q5) (fun z c4 e6 ok4 q6 v4 rv4 => ?_) fun _ _ _ _ q => q)
          have q8 := Po.bind q6
          unfold setFldC at q8
          simp only at q8
          split at q8
          · rename_i cn2 fs2 e9
            split at q8
            · rename_i hz
              obtain ⟨rfl, hz⟩ := hz
              have hi4 := e6.pre i a (e5.pre i a h1)
              obtain ⟨C2, dx2, xs2, hx2, hC2, r4⟩ := ok4.obj i a _ hi4 e9
              rw [hC] at hC2
              cases hC2
              obtain ⟨ex, okP⟩ := put_ins (dx := dx2) ok4 hi4 e9 hC (putF_rel (f := f) rv4 r4)
              exact ⟨dx2, xs2, hx2, by rw [Paired.length r4]; exact hz, Po.here (a := Fl.nx env) (q8 _ ex okP rfl) okP σ ((re3.mono e6).mono ex)⟩
            · exact q8.elim
          · exact q8.elim
      · exact q2.elim
    · exact q2.elim
  · exact q2.elim
end
end Ev
set_option Elab.async false
set_option linter.all false
set_option maxRecDepth 100000
set_option maxHeartbeats 4000000
/-! E14: try .. except X as n whose exception is kept; isinstance of a kept exception. -/
namespace Ev
open PySem PySem.Spec PyProof.Rows L2

/-- an exception's object, pinned, is tracked from here on -/
theorem track {X : Cx} {pins : List (Addr × Obj)} {σ : L2.St} {H : Hp} {s : Shared} {a C : Addr} {oe : Obj} {vs : Array Value} (I : Inv X ((a, oe) :: pins) σ H s) (hc : oe.cls = .ref C) (hd : oe.dict = none) (hv : oe.data = .fields vs)
    (new : X.s_0.heap.get? a = none) (np : ∀ q ∈ X.pn ++ pins, q.1 ≠ a) : Inv X pins σ (upd H a (.ext (ExO a C))) s := by
  obtain ⟨hget, hnone, hloc, hfs, hcell⟩ := I.pin (a, oe) (List.mem_append_right _ List.mem_cons_self)
  have ne : ∀ {b : Addr} {u : HO}, H b = some u → b ≠ a := fun {b u} e z => by
    rw [z] at e
    exact absurd (e.symm.trans hnone) (by simp)
  have kp : ∀ {b : Addr} {u : HO}, H b = some u → upd H a (.ext (ExO a C)) b = some u := fun {b u} e => by rw [upd_ne (ne e)]; exact e
  have B := I.base
  refine ⟨I.ok, I.os, I.bare, ⟨B.keep, B.slot, fun b o h1 h2 h3 => ?_, B.there, fun b xs q => kp (B.tups b xs q), fun b o u q => kp (B.frzs b o u q), fun b ps q => ?_⟩, I.loc, I.cell, ?_, fun y c e => ?_, fun p hp => ?_, fun b u e => ?_, I.len⟩
  · have nb : b ≠ a := fun z => by rw [z, new] at h1; cases h1
    rw [upd_ne nb]
    exact B.free b o h1 h2 h3
  · obtain ⟨m, q1⟩ := B.tbls b ps q
    exact ⟨m, kp q1⟩
  · rw [upd_ne (Ne.symm hloc)]
    exact I.free
  · have nb : c ≠ a := fun z => by
      obtain ⟨w, ob, q1, q2⟩ := I.cell y c e
      rw [z, hget] at q1
      cases q1
      exact hcell w q2
    rw [upd_ne nb]
    exact I.freeC y c e
  · have hp2 : p ∈ X.pn ++ (a, oe) :: pins := by
      rcases List.mem_append.mp hp with z | z
      · exact List.mem_append_left _ z
      · exact List.mem_append_right _ (List.mem_cons_of_mem _ z)
    obtain ⟨g1, g2, g3⟩ := I.pin p hp2
    exact ⟨g1, by rw [upd_ne (np p hp)]; exact g2, g3⟩
  · by_cases z : b = a
    · subst z
      rw [upd_same] at e
      cases e
      refine ⟨⟨oe, vs, hget, hc, hd, hv⟩, ⟨oe, hget⟩, fun h1 h2 ⟨o, w, q1, q2⟩ q3 => ⟨o, w, q3 o q1, q2⟩⟩
    · rw [upd_ne z] at e
      exact (I.hok b u e).stay (fun _ _ _ q => q) (fun _ q => kp q) fun _ _ q => kp q

/-- what the clause wishes of an exception of the body: its object is tracked behind the suite -/
def wKeep (K : PySem.W.Frag) (c : Value) (i : Nat) (ts : Addr → Value → Option Addr → TS) (Wout : WX) (D : Ends) : WX := fun cls d σ H =>
  ∃ b, PySem.W.exmOne K cls c = some b ∧ (b = true → d = none ∧ ∃ C, cls = .ref C ∧ ∀ a, H a = none → ts a cls d ⟨fun σ' H' => D.nx (σ'.set i none) (upd H' a (.ext (ExO a C))), fun _ _ => False, fun _ _ => False, fun _ _ => False⟩ (σ.set i (some (.ref a))) H) ∧ (b = false → Wout cls d σ H)

section
variable {X : Cx} {x n : Str} {c : Value} {i : Nat} {body suite : List Stmt} {b₀ : Stmt} {np pos pos' : Pos} {tb : WX → TS} {ts : Addr → Value → Option Addr → TS} {Wout : WX}
theorem ps_try_keep (stk : X.stack = X.env :: X.outer) (fr : X.env.frame = some X.env.locals) (hex : X.ex = []) (nd : X.N.Nodup) (ni : X.N[i]? = some n) (nl : X.env.kindOf n = some .local) (cn : Names X x c) (tk : Takes X Wout)
    (hB : ∀ (W : WX) (pn : List (Addr × Obj)) (xe : Value → Shared → Prop), Takes (X.tr pn xe) W → PassesOwn (model X.prog X.w) X.A X.env xe → PSs (X.tr pn xe) body (tb W))
    (hS : ∀ (a : Addr) (oe : Obj) (cls : Value) (d : Option Addr) (pn : List (Addr × Obj)), Zc cls d oe → (∃ vs, oe.data = .fields vs) → PSs (X.suite a ((a, oe) :: pn)) (b₀ :: suite) (ts a cls d)) :
    PS X (.Try body [.ExceptHandler (some (.Name x np)) (some n) (b₀ :: suite) pos'] [] [] pos) (fun D σ H => tb (wKeep X.K c i ts Wout D) D σ H) := by
  refine ⟨fun pins s σ H D I0 rd => ?_⟩
  have okX := I0.ok
  have frs0 : X.A.frames = some (X.env :: X.outer) := by rw [okX.frames, stk]
  refine wpAny_Try_except ?_
  have run := (hB (wKeep X.K c i ts Wout D) (X.pn ++ pins) (fun e s₁ => wpAny (model X.prog X.w) X.A (noteFrame e X.env) (fun _ s₂ => wpAny (model X.prog X.w) X.A (setFlight e none) (fun _ s₃ =>
      wpAny (model X.prog X.w) X.A (handleBy e X.env [.ExceptHandler (some (.Name x np)) (some n) (b₀ :: suite) pos']) (SP X pins D) X.xe s₃) X.xe s₂) X.xe s₁)
    (fun u sx air => ?caught) PassesOwn.looking).run [] s σ H D (I0.toTry _) rd
  case caught =>
    obtain ⟨a, B, sI, pp, σ1, H1, cls, d, eu, J1, inB, up, sky, na, eos, gen, b, hb, yes, no⟩ := air
    subst eu
    have J : Inv X pins σ1 H1 sI := J1.ofTry okX
    rw [show (X.tr (X.pn ++ pins) _).stack = X.env :: X.outer from stk] at sky
    show wpAny (model X.prog X.w) X.A (noteFrame (.ref a) X.env) _ _ _
    refine Sky.land Zc.steady frs0 fr sky fun h3 fly up3 => ?_
    have J3 : Inv X pins σ1 H1 { sx with heap := h3 } := J.landed inB fly.1 (up.trans up3) eos gen
    obtain ⟨o3, v3, g3, z3, d3⟩ := fly.there
    have out : a ∉ frs (X.env :: X.outer) := fun hm => by
      obtain ⟨_, o', e', nf⟩ := fly.2.2.1.mem hm
      rw [g3] at e'
      cases e'
      exact nf _ d3
    have aL : a ≠ X.env.locals := fun z => out (List.mem_filterMap.mpr ⟨X.env, List.mem_cons_self, by rw [fr, z]⟩)
    have aF : a ∉ X.fs := fun hm => by
      obtain ⟨e, he, q⟩ := List.mem_filterMap.mp hm
      exact out (List.mem_filterMap.mpr ⟨e, List.mem_cons_of_mem _ he, q⟩)
    -- it is younger than what stood ahead of it
    have anew : sI.heap.get? a = none := by
      cases q : sI.heap.get? a with
      | none => rfl
      | some o =>
        have z := inB a o q (by rw [show (X.tr (X.pn ++ pins) _).stack = X.env :: X.outer from stk]; exact out)
        rw [fly.2.1] at z
        cases z
    have a0 : X.s_0.heap.get? a = none := by
      cases q : X.s_0.heap.get? a with
      | none => rfl
      | some o =>
        have nex : a ∉ X.ex := by rw [hex]; simp
        obtain ⟨o', e'⟩ := J.base.there a o q nex
        rw [anew] at e'
        cases e'
    have apin : ∀ q ∈ X.pn ++ pins, q.1 ≠ a := fun q hq z => by
      have := (J.pin q hq).1
      rw [z, anew] at this
      cases this
    have S3 := J3.suite g3 d3 na aL aF
    refine wpAny_handleBy_cons (codeAny_handlers_test ?_) (by intro q; cases q)
    have ty : PySem.W.Looks (model X.prog X.w) h3 (typeOf (.ref a)) cls := fun A Q E s k q => wpAny_typeOf_ref (k _ _ g3) (by rw [z3.1]; exact q)
    have look := PySem.W.exm_one (M := model X.prog X.w) (J3.kIn) ty hb
    have clause : ∀ {Q : Value → Shared → Prop} {E : Value → Shared → Prop}, Q c { sx with heap := h3 } → wpAny (model X.prog X.w) (X.A.mark (some (.ref a))) (eval (.Name x np) X.env) Q E { sx with heap := h3 } := fun {Q E} q => by
      obtain ⟨k1, k2, k3 | ⟨k3, k4, k5⟩⟩ := cn
      · exact ld_glob (X := X.suite a ((a, o3) :: (X.pn ++ pins))) S3 k1 k3 q k2
      · exact ld_blt (X := X.suite a ((a, o3) :: (X.pn ++ pins))) S3 k1 k3 k4 q k5 k2
    refine clause (look.here ?_)
    cases b with
    | true =>
      obtain ⟨ed, C, ec, yes⟩ := yes rfl
      subst ed ec
      refine codeAny_handlers_suite_as (HandSPX.lands_againZ fly fun h4 fly4 up4 => ?_)
      have J4 : Inv X pins σ1 H1 { sx with heap := h4 } := J.landed inB fly4.1 ((up.trans up3).trans up4) eos gen
      obtain ⟨o4, v4, g4, z4, d4⟩ := fly4.there
      have S4 := J4.suite g4 d4 na aL aF
      refine store_ok (X := X.suite a ((a, o4) :: (X.pn ++ pins))) (v := .ref a) S4 nd ni (.inl nl) rfl (fun s5 S5 => ?_) (.inr nl)
      refine wpAny_mono ((hS a o4 (.ref C) none (X.pn ++ pins) z4 ⟨_, d4⟩).run [] s5 _ H1 _ S5 (yes a na)) (fun fl s6 out6 => ?_) (fun _ _ z => False.elim z)
      cases fl with
      | next =>
        obtain ⟨σ6, H6, S6, q6⟩ := out6
        have P6 : Inv X ((a, o4) :: pins) σ6 H6 s6 := ⟨okX, S6.os, S6.bare, S6.base, S6.loc, S6.cell, S6.free, S6.freeC, fun p hp => S6.pin p (by
          rw [List.append_nil]
          rcases List.mem_append.mp hp with z | z
          · exact List.mem_cons_of_mem _ (List.mem_append_left _ z)
          · rcases List.mem_cons.mp z with z | z
            · rw [z]; exact List.mem_cons_self
            · exact List.mem_cons_of_mem _ (List.mem_append_right _ z)), S6.hok, S6.len⟩
        exact gone_ok P6 nd ni nl fun s7 P7 => ⟨_, _, track P7 z4.1 z4.2 d4 a0 apin, q6⟩
      | brk => obtain ⟨_, _, _, q6⟩ := out6; exact q6.elim
      | cont => obtain ⟨_, _, _, q6⟩ := out6; exact q6.elim
      | ret u => obtain ⟨_, _, _, _, _, q6⟩ := out6; exact q6.elim
    | false =>
      show wpAny _ X.A (handleBy (.ref a) X.env []) _ _ _
      refine wpAny_handleBy_nil ?_
      obtain ⟨k1, k2, k3, oe, vs, Tb, oT, ts', g, z, dd, f1, more⟩ := id fly
      unfold PySem.passOn
      refine wpAny_bind (wpAny_field g dd f1 ?_)
      rw [if_neg (show ¬ ((Value.ref Tb == Value.none) = true) from by simp)]
      have on : wpAny (model X.prog X.w) X.A (setFlight (.ref a) X.env.frame) (fun _ s4 => wpAny (model X.prog X.w) X.A (throw (.ref a) : Sem Flow) (SP X pins D) X.xe s4) X.xe { sx with heap := h3 } := by
        rw [fr]
        refine HandSPX.setFlight_upZ fly fun h4 held up4 => wpAny_throw (tk _ _ ?_)
        exact ⟨a, B, sI, pins, σ1, H1, cls, d, rfl, J, inB, (up.trans up3).trans up4, .inr (.inr (by rw [stk]; exact held)), na, eos, gen, no rfl⟩
      first
        | exact wpAny_bind (wpAny_pure (wpAny_bind on))
        | exact wpAny_bind on
  refine wpAny_mono run (fun fl s1 out1 => ?_) (fun e s1 he => he)
  cases fl with
  | next => obtain ⟨σ', H', J', q⟩ := out1; exact wpAny_execs_nil ⟨σ', H', J'.ofTry okX, q⟩
  | brk => obtain ⟨σ', H', J', q⟩ := out1; exact ⟨σ', H', J'.ofTry okX, q⟩
  | cont => obtain ⟨σ', H', J', q⟩ := out1; exact ⟨σ', H', J'.ofTry okX, q⟩
  | ret u => obtain ⟨v, σ', H', J', r, q⟩ := out1; exact ⟨v, σ', H', J'.ofTry okX, r, q⟩
end

/-! ### found = e, and the exception kept -/
/-- try: found = e  except x as n: kept = n -/
def sTry (cat : Str → Bool) (i j n : Nat) (a : ME) : MS := fun env h => match a env h with
  | .ok w h' => .ok (.nx (env.set i (some w))) h'
  | .ex c h' => if cat c then (if n < env.length then .ok (.nx (((env.set n none).set j (some (.ex c))).set n none)) h' else .no) else .ex c h'
  | .no => .no
section
variable {T : Tb} {G : GA} {CM : FId → List W → M W} {k : Nat} {sc : Sc} {e : Expr} {ma : ME} {pos p1 p2 p3 p4 p5 np pos' : Pos} {x n f g : Str} {i j m : Nat}
theorem Fits.tr {X : Cx} {Wx : WX} (F : Fits T G CM k X sc Wx) {W : WX} {pn : List (Addr × Obj)} {xe : Value → Shared → Prop} (tk : Takes (X.tr pn xe) W) : Fits T G CM k (X.tr pn xe) sc W :=
  ⟨F.N, F.nd, F.scope, F.K, F.wd, F.gd, F.own, F.calm, F.room, tk, ⟨F.top.fn, F.top.def_, F.top.con, F.top.free, fun x hx => F.top.exc x hx, F.top.cls, F.top.own, F.top.meth, F.top.isx, F.top.catch_, F.top.kd⟩⟩
theorem ss_try (hf : slotS sc f = some i) (hg : slotS sc g = some j) (hn : sc.scope.names.lookup n = some .local) (hn2 : sc.N.idxOf? n = some m) (hnd : (n == ("__debug__" : Str)) = false) (hnc : (n == ("__classdict__" : Str)) = false) (hgl : isGlob sc x = true) (hx : x ∈ T.excs) (he : SE T G CM k sc e ma) (hc : noComp e = true) (hmj : m ≠ j) :
    SS T G CM k sc (.Try [.Assign [.Name f p1] e p2] [.ExceptHandler (some (.Name x np)) (some n) [.Assign [.Name g p3] (.Name n p4) p5] pos'] [] [] pos) (sTry (fun c => T.catches c x) i j m ma) := fun X Ex F hp hs hfr => by
  obtain ⟨Ca, h1, h2, h3, h4, h5⟩ := F.top.exc x hx
  obtain ⟨f1, f2, f3⟩ := slotS_ok F hf
  obtain ⟨g1, g2, g3⟩ := slotS_ok F hg
  have nN : X.N[m]? = some n := by rw [F.N]; exact idx_at hn2
  have nK : X.env.scope.names.lookup n = some .local := by rw [F.scope]; exact hn
  refine PS.imp (ps_try_keep (i := m) (ts := fun _ _ _ => tAsg (tVar m) (gName j)) (tb := fun W => tAsg (tE G W ma) (gName i)) hs hfr.1 hfr.2 F.ndN nN nK ⟨F.gl hgl, (glob_ok hgl).2.1, .inl h2⟩ F.takes
    (fun W pn xe tk _ => pss_one (ps_set (X := X.tr pn xe) F.ndN f1 f2 (he _ W (F.tr tk)) (noComp_ok hc _ _ _) f3))
    (fun a oe cls d pn _ _ => pss_one (ps_set (X := X.suite a ((a, oe) :: pn)) F.ndN g1 g2 (pe_var nN (.inl nK) hnd hnc) rfl g3))) fun D σ H ⟨c, env, e0, ok, re, q⟩ => ?_
  subst e0
  refine ⟨c, env, rfl, ok, re, ?_⟩
  unfold sTry at q
  cases r : ma env c.ah with
  | no => rw [r] at q; exact q.elim
  | ok w h' =>
    rw [r] at q
    exact fun c' ex ok' e' v rv => q c' ex ok' e' _ ((re.mono ex).set rv)
  | ex cc h' =>
    rw [r] at q
    intro c' ex ok' e' C hC
    obtain ⟨b, hb, hb2⟩ := F.top.catch_ cc C x Ca hC h1 hx
    refine ⟨b, by rw [F.K] at hb ⊢; exact hb, fun hbt => ⟨rfl, C, rfl, fun a ha => ?_⟩, fun hbf => ?_⟩
    · subst hbt
      simp only [← hb2, if_true] at q
      by_cases ml0 : m < env.length
      · rw [if_pos ml0] at q
        have ex2 := Cf.lay_ext (c := c') (o := .ext (ExO a C)) ha
        have ok2 := Cf.lay_ok (o := .ext (ExO a C)) ok' ha
        have ml : m < σ.length := by rw [← re.1]; exact ml0
        refine ⟨.ref a, List.getElem?_set_self ml, ?_⟩
        have r2 : RW G (c'.lay a (.ext (ExO a C))) (.ref a) (.ex cc) := ⟨a, C, rfl, hC, Cf.lay_live ok' ha, upd_same⟩
        have re2 := (((re.mono ex).mono ex2).unset (i := m) (s := some (.ref a))).set (i := j) r2
        exact q (c'.lay a (.ext (ExO a C))) (ex.trans ex2) ok2 e' _ (re2.unset (s := none))
      · rw [if_neg ml0] at q
        exact q.elim
    · subst hbf
      simp only [← hb2, Bool.false_eq_true, if_false] at q
      exact q c' ex ok' e' C hC

/-! ### isinstance(kept, X) -/
def isxM (T : Tb) (x : Str) (w : W) : M W := fun h => match w with
  | .ex c => .ok (wB (T.catches c x)) h
  | _ => .no
def eIsx (T : Tb) (a : ME) (x : Str) : ME := fun env => mbind (a env) (isxM T x)
theorem call_isX {X : Cx} : CallR X (.builtin "isinstance") (fun xs H Q => ∃ (a C : Addr) (c : V) (u : Value) (b : Bool), xs = [.ref a, c] ∧ H a = some (.ext (ExO a C)) ∧ ExcC X.K C ∧ ClsV c u ∧ PySem.W.kitOne X.K (.ref C) u = some b ∧ Q (.bl b) H) := by
  intro pins s σ H xs us Q I r h
  obtain ⟨a, C, cv, u, b, rfl, hH, ec, kc, kb, q⟩ := h
  obtain ⟨u1, u2, rfl, r1, r2⟩ := vals2 r
  cases r1
  have e2 := kc.eq r2
  subst e2
  obtain ⟨⟨oe, vs, g1, g2, g3, g4⟩, _⟩ := I.hok a _ hH
  have J : PySem.W.InstAt s.heap a oe C none := by
    obtain ⟨oc, od, oda, osl⟩ := oe
    dsimp only at g2 g3 g4
    subst g2 g3 g4
    exact ⟨g1, rfl, rfl, trivial⟩
  exact PySem.W.kia_one (PySem.W.handS_kitx_exc ec.hg ec.hk ec.hs ec.hd ec.ha ec.hn ec.ht ec.hm) I.kIn J kb (fun z => nomatch z) fun tk => ⟨.bl b, H, I.tok tk, rfl, q⟩
theorem se_isx (hg : isGlob sc "isinstance" = true) (hf : ("isinstance" : Str) ∈ T.free) (hg2 : isGlob sc x = true) (hx : x ∈ T.xt) (ha : SE T G CM k sc e ma) (hs : noStar e = true) : SE T G CM k sc (.Call (.Name "isinstance" pos') [e, .Name x p2] [] pos) (eIsx T ma x) := fun X Wx F => by
  obtain ⟨v, u, hmg, kc, rv, hall⟩ := F.top.isx x hx
  have hN : PE X (.Name x p2) (tC v) := by
    rcases hmg with h | ⟨h, hb⟩
    · exact pe_glob (F.gl hg2) h rv (glob_ok hg2).2.1
    · exact pe_bltn (F.gl hg2) h hb rv (glob_ok hg2).2.2 (glob_ok hg2).2.1
  have hA : PA X [e, .Name x p2] (tCons (tE G Wx ma) (tCons (tC v) tNil)) := pa_cons (ha X Wx F) (pa_cons hN pa_nil) (noStar_each hs _ _)
  refine PE.imp (pe_callB call_isX (F.gl hg) (F.top.free _ hf) boot_isinstance hA (glob_ok hg).2.2 (glob_ok hg).2.1 (noStar_each hs _ _)) fun σ H Q ⟨c, env, e0, ok, re, q⟩ => ?_
  subst e0
  refine tE.step ok re q fun w c1 vv e1 ok1 re1 rvv q1 => ?_
  unfold isxM at q1
  split at q1
  · rename_i cc
    obtain ⟨a, C, rfl, hC, _, hH⟩ := rvv
    obtain ⟨ec, kb⟩ := hall cc C hC
    exact ⟨a, C, v, u, _, rfl, hH, ec, kc, kb, q1.here ok1 _ (.bl _)⟩
  · exact q1.elim
end
end Ev
set_option Elab.async false
set_option linter.all false
set_option maxRecDepth 100000
set_option maxHeartbeats 2000000
/-! E14b: {} -/
namespace Ev
open PySem PySem.Spec PyProof.Rows L2
section
variable {T : Tb} {G : GA} {CM : FId → List W → M W} {k : Nat} {sc : Sc} {c : Cf}
theorem new_dic {p : Addr} {Q : VK} {E : Str → Cf → Prop} (k : c.ok G) (hp : c.H p = none) (h : Po G (.ok (W.r c.ah.length) (c.ah ++ [.dic []])) c (VQ G Q) E) : Q (.ref p) (upd c.H p (.dK [])) := by
  have ex := Cf.new_ext (o := .dK []) (ao := .dic []) k hp
  have ok : (c.new p (.dK []) (.dic [])).ok G := Cf.new_ok k hp ⟨[], upd_same, .nil⟩
  refine Po.at (c' := c.new p (.dK []) (.dic [])) h ex ok (.ref p) ⟨p, rfl, ?_⟩
  show (c.μ ++ [p])[c.ah.length]? = some p
  rw [← k.len]; simp
def eDict0 : ME := fun _ h => .ok (.r h.length) (h ++ [.dic []])
theorem se_dict0 {pos : Pos} : SE T G CM k sc (.Dict [] [] pos) eDict0 := fun X Wx F => by
  refine PE.imp pe_dnewK fun σ H Q ⟨c, env, e, ok, re, q⟩ => ?_
  subst e
  exact fun p hp => new_dic ok hp q
/-! ### d.get(k, x) -/
def isDic (h : AH) : W → Bool
  | .d (.dict _) => true
  | .r i => (match h[i]? with
    | some (.dic _) => true
    | _ => false)
  | _ => false
theorem isDic_ok {c : Cf} {w : W} {v : V} (ok : c.ok G) (h : isDic c.ah w = true) (rv : RW G c v w) : ∃ a, v = .ref a ∧ IsD c.H a := by
  unfold isDic at h
  split at h
  · rename_i ds
    cases (show Rp G.K c v (.dict ds) from rv) with
    | dic l1 h1 r1 => exact ⟨_, rfl, .inl ⟨_, h1⟩⟩
  · split at h
    · rename_i ds e
      obtain ⟨a, rfl, h1, xs, hx, rx⟩ := rRef ok rv e
      exact ⟨a, rfl, .inl ⟨xs, .inl hx⟩⟩
    · cases h
  · cases h
def getM (x y z : W) : M W := fun h => match y with
  | .d key => (match (keyOf key).bind (dictAt h x) with
    | some (some d) => .ok d h
    | some none => .ok z h
    | none => .no)
  | _ => .no
def eGet (a b d : ME) : ME := fun env => mbind (a env) fun x => fun h => if isDic h x then mbind (b env) (fun y => mbind (d env) fun z => getM x y z) h else .no
theorem se_get {o e f : Expr} {apos cpos : Pos} {ma mb_ mf : ME} (hb : okBase o = true) (hline : (apos.endLine == cpos.line) = true) (ho : SE T G CM k sc o ma) (he : SE T G CM k sc e mb_) (hf : SE T G CM k sc f mf) (s1 : noStar e = true) (s2 : noStar f = true) :
    SE T G CM k sc (.Call (.Attribute o "get" apos) [e, f] [] cpos) (eGet ma mb_ mf) := fun X Wx F => by
  have m : M2 X o "get" apos e f cpos := ⟨okBase_ok hb _ _, by rw [noStar_each s1, noStar_each s2]; rfl, hline, by rw [noStar_each s1, noStar_each s2]; rfl⟩
  refine PE.imp (pe_dget2 (hu_of F.room) (ho X Wx F) (he X Wx F) (hf X Wx F) m) fun σ H Q ⟨c, env, e0, ok, re, q⟩ => ?_
  subst e0
  refine tE.step ok re q fun w c1 v e1 ok1 re1 rv q1 => ?_
  split at q1
  · rename_i hd
    obtain ⟨a, rfl, d⟩ := isDic_ok ok1 hd rv
    refine ⟨a, rfl, d, ?_⟩
    refine tE.step ok1 re1 q1 fun w2 c2 v2 e2 ok2 re2 rv2 q2 => ?_
    refine tE.step ok2 re2 q2 fun w3 c3 v3 e3 ok3 re3 rv3 q3 => ?_
    have rv' : RW G c3 (.ref a) w := RW.mono e3 (RW.mono e2 rv)
    have rv2' := RW.mono e3 rv2
    unfold getM at q3
    split at q3
    · rename_i key
      split at q3
      · rename_i dd hk
        obtain ⟨kk, hk1, hk2⟩ := bind_some_ok hk
        obtain ⟨a', o', h1, h2, h3⟩ := dictAt_ok ok3 hk2 rv'
        cases h1
        rw [rKey rv2' hk1]
        refine ⟨o', h2, ?_⟩
        cases o' with
        | none => exact h3.elim
        | some u => exact q3.here ok3 _ h3
      · rename_i hk
        obtain ⟨kk, hk1, hk2⟩ := bind_some_ok hk
        obtain ⟨a', o', h1, h2, h3⟩ := dictAt_ok ok3 hk2 rv'
        cases h1
        rw [rKey rv2' hk1]
        refine ⟨o', h2, ?_⟩
        cases o' with
        | none => exact q3.here ok3 _ rv3
        | some u => exact h3.elim
      · exact q3.elim
    · exact q3.elim
  · exact q1.elim
end
end Ev
set_option Elab.async false
set_option linter.all false
set_option maxRecDepth 100000
set_option maxHeartbeats 4000000
/-! E14h: try: e  except x: name = number. -/
namespace Ev
open PySem PySem.Spec PyProof.Rows L2
def sTryE (cat : Str → Bool) (j : Nat) (v : Int) (a : ME) : MS := fun env h => match a env h with
  | .ok _ h' => .ok (.nx env) h'
  | .ex c h' => if cat c then .ok (.nx (env.set j (some (.d (.int v))))) h' else .ex c h'
  | .no => .no
section
variable {T : Tb} {G : GA} {CM : FId → List W → M W} {k : Nat} {sc : Sc} {e : Expr} {ma : ME} {pos p1 p3 p5 np pos' p6 : Pos} {x g : Str} {j q0 : Nat} {v : Int}
theorem ss_tryE (hg : slotS sc g = some j) (hgl : isGlob sc x = true) (hx : x ∈ T.excs) (he : SE T G CM k sc e ma) (hc : noComp e = true) :
    SS T G CM k sc (.Try [.Expr e p1] [.ExceptHandler (some (.Name x np)) none [.Assign [.Name g p3] (.Constant (.int v) q0 p6) p5] pos'] [] [] pos) (sTryE (fun c => T.catches c x) j v ma) := fun X Ex F hp hs hfr => by
  obtain ⟨Ca, h1, h2, h3, h4, h5⟩ := F.top.exc x hx
  obtain ⟨g1, g2, g3⟩ := slotS_ok F hg
  refine PS.imp (ps_try_only (ts := fun _ _ _ => tAsg (tC (.int v)) (gName j)) (tb := fun W => fun D σ H => tE G W ma σ H fun _ H1 => D.nx σ H1) hs hfr.1 ⟨F.gl hgl, (glob_ok hgl).2.1, .inl h2⟩ F.takes
    (fun W pn xe tk _ => pss_one (ps_expr (X := X.tr pn xe) (he _ W (F.tr tk)) (noComp_ok hc _ _ _)))
    (fun a oe cls d pn _ _ => pss_one (ps_set (X := X.suite a ((a, oe) :: pn)) F.ndN g1 g2 pe_int rfl g3))) fun D σ H ⟨c, env, e0, ok, re, q⟩ => ?_
  subst e0
  refine ⟨c, env, rfl, ok, re, ?_⟩
  unfold sTryE at q
  cases r : ma env c.ah with
  | no => rw [r] at q; exact q.elim
  | ok w h' =>
    rw [r] at q
    exact fun c' ex ok' e' v rv => q c' ex ok' e' _ (re.mono ex)
  | ex cc h' =>
    rw [r] at q
    intro c' ex ok' e' C hC
    obtain ⟨b, hb, hb2⟩ := F.top.catch_ cc C x Ca hC h1 hx
    refine ⟨b, by rw [F.K] at hb ⊢; exact hb, fun hbt a ha => ?_, fun hbf => ?_⟩
    · subst hbt
      simp only [← hb2, if_true] at q
      exact q c' ex ok' e' _ ((re.mono ex).set (w := .d (.int v)) (.int v))
    · subst hbf
      simp only [← hb2, Bool.false_eq_true, if_false] at q
      exact q c' ex ok' e' C hC
end
end Ev
set_option Elab.async false
set_option linter.all false
set_option maxRecDepth 100000
set_option maxHeartbeats 4000000
/-! E14c: min and max of two names, targets with a star. -/
namespace Ev
open PySem PySem.Spec PyProof.Rows L2

/-! ### min, max of two tuples (text, number) with one text -/
theorem tup_si {x : Str} {i : Int} {its : List Value} (r : Vals [.str x, .int i] its) : ∃ t u, its = [Value.str x t, Value.int i u] := by
  cases r with
  | cons h1 r =>
    cases r with
    | cons h2 r =>
      cases r
      obtain ⟨t, rfl⟩ := h1
      obtain ⟨u, rfl⟩ := h2
      exact ⟨t, u, rfl⟩
theorem eq_str_str {A : Around} {s : Shared} {x : Str} {t u : Tok} : SeqAt.EqAt A s (.str x t) (.str x u) true := fun prog w E Q h => wpAny_eqBool_str (by simpa using h)
theorem eq_int_int {A : Around} {s : Shared} {i j : Int} {t u : Tok} : SeqAt.EqAt A s (.int i t) (.int j u) (decide (i = j)) := fun prog w E Q h => wpAny_eqBool_int (by rw [Bool.beq_eq_decide_eq]; exact h)
theorem lt_si {A : Around} {s : Shared} {l b : Addr} {x : Str} {i j : Int} {t u t' u' : Tok} (hl : s.heap.IsTuple l #[.str x t, .int i u]) (hb : s.heap.IsTuple b #[.str x t', .int j u']) (hu : A.units < cLine) : Ob.RcOp .Lt A s (.ref l) (.ref b) (decide (i < j)) := by
  have h := Ob.RcOp.tuples_lt (A := A) (e := fun k => if k = 0 then true else decide (i = j)) (r := fun _ => decide (i < j)) hl hb hu
    (fun k h1 h2 => by
      match k, h1 with
      | 0, _ => exact eq_str_str
      | 1, _ => exact eq_int_int)
    (fun k h1 h2 he => by
      match k, h1 with
      | 0, _ => cases he
      | 1, _ => exact Ob.RcOp.lt_int i j _ _)
  have e : Ob.lexAt (fun k => if k = 0 then true else decide (i = j)) (fun _ => decide (i < j)) (decide ((#[Value.str x t, .int i u] : Array Value).size < (#[Value.str x t', .int j u'] : Array Value).size)) 0 (min (#[Value.str x t, .int i u] : Array Value).size (#[Value.str x t', .int j u'] : Array Value).size) = decide (i < j) := by
    show Ob.lexAt _ _ _ 0 2 = _
    by_cases q : i = j
    · subst q; simp [Ob.lexAt]
    · simp [Ob.lexAt, q]
  rw [e] at h
  exact h
theorem gt_si {A : Around} {s : Shared} {l b : Addr} {x : Str} {i j : Int} {t u t' u' : Tok} (hl : s.heap.IsTuple l #[.str x t, .int i u]) (hb : s.heap.IsTuple b #[.str x t', .int j u']) (hu : A.units < cLine) : Ob.RcOp .Gt A s (.ref l) (.ref b) (decide (j < i)) := by
  have h := Ob.RcOp.tuples_gt (A := A) (e := fun k => if k = 0 then true else decide (i = j)) (r := fun _ => decide (j < i)) hl hb hu
    (fun k h1 h2 => by
      match k, h1 with
      | 0, _ => exact eq_str_str
      | 1, _ => exact eq_int_int)
    (fun k h1 h2 he => by
      match k, h1 with
      | 0, _ => cases he
      | 1, _ => exact Ob.RcOp.gt_int i j _ _)
  have e : Ob.lexAt (fun k => if k = 0 then true else decide (i = j)) (fun _ => decide (j < i)) (decide ((#[Value.str x t, .int i u] : Array Value).size > (#[Value.str x t', .int j u'] : Array Value).size)) 0 (min (#[Value.str x t, .int i u] : Array Value).size (#[Value.str x t', .int j u'] : Array Value).size) = decide (j < i) := by
    show Ob.lexAt _ _ _ 0 2 = _
    by_cases q : i = j
    · subst q; simp [Ob.lexAt]
    · simp [Ob.lexAt, q]
  rw [e] at h
  exact h
section
variable {X : Cx}
/-- what two tuples at a, b hold, by their place -/
def Two (h : Heap) (a b : Addr) (x : Str) (i j : Int) : Prop := (∃ t u, h.IsTuple a #[.str x t, .int i u]) ∧ ∃ t u, h.IsTuple b #[.str x t, .int j u]
theorem IsTuple.kept {h h' : Heap} {a : Addr} {its : Array Value} (p : h.IsTuple a its) (k : ∀ b o, h.get? b = some o → h'.get? b = some o) : h'.IsTuple a its := by
  obtain ⟨o, e, q⟩ := p
  exact ⟨o, k _ _ e, q⟩
theorem cmp_two {op : CmpOp} {prog : Program} {w : World} {A : Around} {h : Heap} {a b : Addr} {x : Str} {i j : Int} (T : Two h a b x i j) (f : Int → Int → Bool)
    (hf : ∀ (s : Shared) (l b : Addr) (i j : Int) (t u t' u' : Tok), s.heap.IsTuple l #[.str x t, .int i u] → s.heap.IsTuple b #[.str x t', .int j u'] → Ob.RcOp op A s (.ref l) (.ref b) (f i j)) :
    CmpIn prog w A op h (fun k v => (#[Value.ref a, Value.ref b] : Array Value)[k]? = some v) (fun k m => f (if k = 0 then i else j) (if m = 0 then i else j)) := fun k m vk vm s Q E hk h1 h2 hq => by
  obtain ⟨⟨t, u, p1⟩, t', u', p2⟩ := T
  have p1 := IsTuple.kept p1 hk
  have p2 := IsTuple.kept p2 hk
  match k, m, h1, h2 with
  | 0, 0, h1, h2 => cases h1; cases h2; exact hf s a a i i _ _ _ _ p1 p1 prog w E Q hq
  | 0, 1, h1, h2 => cases h1; cases h2; exact hf s a b i j _ _ _ _ p1 p2 prog w E Q hq
  | 1, 0, h1, h2 => cases h1; cases h2; exact hf s b a j i _ _ _ _ p2 p1 prog w E Q hq
  | 1, 1, h1, h2 => cases h1; cases h2; exact hf s b b j j _ _ _ _ p2 p2 prog w E Q hq
  | k + 2, _, h1, _ => simp at h1
  | 0, m + 2, _, h2 => simp at h2
  | 1, m + 2, _, h2 => simp at h2
theorem two_of {pins : List (Addr × Obj)} {σ : L2.St} {H : Hp} {s : Shared} {a b : Addr} {x : Str} {i j : Int} (I : Inv X pins σ H s) (h1 : SqT X.K H a [.str x, .int i]) (h2 : SqT X.K H b [.str x, .int j]) : Two s.heap a b x i j := by
  obtain ⟨its, rv, p1, _⟩ := I.tuple h1
  obtain ⟨its', rv', p2, _⟩ := I.tuple h2
  obtain ⟨t, u, rfl⟩ := tup_si rv
  obtain ⟨t', u', rfl⟩ := tup_si rv'
  exact ⟨⟨t, u, p1⟩, t', u', p2⟩
theorem call_min2T (hc : X.calm = true) (hu : X.A.units + 64 < cLine) : CallR X (.builtin "min") (fun vs H Q => ∃ a b x i j, vs = [.ref a, .ref b] ∧ SqT X.K H a [.str x, .int i] ∧ SqT X.K H b [.str x, .int j] ∧ Q (if j < i then .ref b else .ref a) H) := by
  intro pins s σ H xs us Q I r h
  obtain ⟨a, b, x, i, j, rfl, h1, h2, q⟩ := h
  obtain ⟨ua, ub, rfl, ra, rb⟩ := vals2 r
  cases ra; cases rb
  have T := two_of I h1 h2
  have hh := I.ok.hd hc
  have nm : (toString "min" ++ toString ".loop" : String) = "min.loop" := by decide
  refine call_function_tree F.kind_min F.plain_min F.entry_min (F.args_min2 _ _) ?_
  show wpAny _ X.A.in1 (Builtin.Builtins.bindParams "min" ["key", "default"] 0 ⟨[], []⟩ >>= _) _ _ s
  refine wpAny_bind (wpAny_of_eq (a := [none, none]) rfl ?_)
  show wpAny _ X.A.in1 (newTuple [.ref a, .ref b] >>= _) _ _ s
  refine wpAny_bind (wpAny_newObj_type ?_)
  have hT : (s.heap.push { cls := .type "tuple", data := .seq #[.ref a, .ref b] }).IsTuple s.heap.objs.size #[.ref a, .ref b] := ⟨_, Heap.get?_push_size _ rfl, rfl, 0, rfl⟩
  have T2 : Two (s.heap.push { cls := .type "tuple", data := .seq #[.ref a, .ref b] }) a b x i j := by
    obtain ⟨⟨t, u, p1⟩, t', u', p2⟩ := T
    exact ⟨⟨t, u, p1.push _⟩, t', u', p2.push _⟩
  refine wpAny_bind (PySem.W.iter_tupleW (s := { s with heap := s.heap.push { cls := .type "tuple", data := .seq #[.ref a, .ref b] } }) hh hT fun s₂ e W st hfp hw hk => ?_)
  refine wpAny_bind (wpAny_newObj_type ?_)
  have hSf : s₂.heap.objs.size ∉ [(s.heap.push { cls := .type "tuple", data := .seq #[.ref a, .ref b] }).objs.size, s.heap.objs.size] := fun hm => Nat.lt_irrefl _ (hfp _ hm)
  rw [nm]
  refine wpAny_pure ⟨plainId_quiet F.plain_min_loop _, codeAny_min_loop_firstH W _ hw _ (cmp_two T2 (fun i j => decide (i < j)) fun s l b i j t u t' u' p1 p2 => lt_si p1 p2 (by show X.A.units + 1 < _; omega)) s₂.heap.objs.size hSf (fresh_in hk) _ (show 0 < 2 by decide)
    (fun c o eo => Heap.get?_push_of_some _ (hk c o eo)) (W.frame 0 s₂ _ s₂.toks st (Nat.le_refl _) fun c _ o eo => Heap.get?_push_of_some _ eo) (Heap.get?_push_size _ rfl) fun v s' hP hm => ?_⟩
  obtain ⟨h', tk, es, hk'⟩ := PySem.W.moved_old e rfl (Moved.drop_new (tk := s₂.toks) hm (Nat.le_refl _))
  subst es
  have hv : v = Value.ref (if j < i then b else a) := by
    by_cases hji : j < i
    · have e2 : argBest (fun k m => decide ((if k = 0 then i else j) < (if m = 0 then i else j))) ((#[Value.ref a, Value.ref b] : Array Value).size - 1) = 1 := by
        show argBest _ 1 = 1
        simp [argBest, hji]
      rw [e2] at hP
      rw [if_pos hji]
      exact (Option.some.inj hP).symm
    · have e2 : argBest (fun k m => decide ((if k = 0 then i else j) < (if m = 0 then i else j))) ((#[Value.ref a, Value.ref b] : Array Value).size - 1) = 0 := by
        show argBest _ 1 = 0
        simp [argBest, hji]
      rw [e2] at hP
      rw [if_neg hji]
      exact (Option.some.inj hP).symm
  subst hv
  refine ⟨V.ref (if j < i then b else a), H, I.kept (t' := tk) fun c o eo => hk' c o (Heap.get?_push_of_some _ eo), rfl, ?_⟩
  by_cases hji : j < i
  · rw [if_pos hji] at q ⊢; exact q
  · rw [if_neg hji] at q ⊢; exact q
theorem call_max2T (hc : X.calm = true) (hu : X.A.units + 64 < cLine) : CallR X (.builtin "max") (fun vs H Q => ∃ a b x i j, vs = [.ref a, .ref b] ∧ SqT X.K H a [.str x, .int i] ∧ SqT X.K H b [.str x, .int j] ∧ Q (if i < j then .ref b else .ref a) H) := by
  intro pins s σ H xs us Q I r h
  obtain ⟨a, b, x, i, j, rfl, h1, h2, q⟩ := h
  obtain ⟨ua, ub, rfl, ra, rb⟩ := vals2 r
  cases ra; cases rb
  have T := two_of I h1 h2
  have hh := I.ok.hd hc
  have nm : (toString "max" ++ toString ".loop" : String) = "max.loop" := by decide
  refine call_function_tree F.kind_max F.plain_max F.entry_max (F.args_max2 _ _) ?_
  show wpAny _ X.A.in1 (Builtin.Builtins.bindParams "max" ["key", "default"] 0 ⟨[], []⟩ >>= _) _ _ s
  refine wpAny_bind (wpAny_of_eq (a := [none, none]) rfl ?_)
  show wpAny _ X.A.in1 (newTuple [.ref a, .ref b] >>= _) _ _ s
  refine wpAny_bind (wpAny_newObj_type ?_)
  have hT : (s.heap.push { cls := .type "tuple", data := .seq #[.ref a, .ref b] }).IsTuple s.heap.objs.size #[.ref a, .ref b] := ⟨_, Heap.get?_push_size _ rfl, rfl, 0, rfl⟩
  have T2 : Two (s.heap.push { cls := .type "tuple", data := .seq #[.ref a, .ref b] }) a b x i j := by
    obtain ⟨⟨t, u, p1⟩, t', u', p2⟩ := T
    exact ⟨⟨t, u, p1.push _⟩, t', u', p2.push _⟩
  refine wpAny_bind (PySem.W.iter_tupleW (s := { s with heap := s.heap.push { cls := .type "tuple", data := .seq #[.ref a, .ref b] } }) hh hT fun s₂ e W st hfp hw hk => ?_)
  refine wpAny_bind (wpAny_newObj_type ?_)
  have hSf : s₂.heap.objs.size ∉ [(s.heap.push { cls := .type "tuple", data := .seq #[.ref a, .ref b] }).objs.size, s.heap.objs.size] := fun hm => Nat.lt_irrefl _ (hfp _ hm)
  rw [nm]
  refine wpAny_pure ⟨plainId_quiet F.plain_max_loop _, codeAny_max_loop_firstH W _ hw _ (cmp_two T2 (fun i j => decide (j < i)) fun s l b i j t u t' u' p1 p2 => gt_si p1 p2 (by show X.A.units + 1 < _; omega)) s₂.heap.objs.size hSf (fresh_in hk) _ (show 0 < 2 by decide)
    (fun c o eo => Heap.get?_push_of_some _ (hk c o eo)) (W.frame 0 s₂ _ s₂.toks st (Nat.le_refl _) fun c _ o eo => Heap.get?_push_of_some _ eo) (Heap.get?_push_size _ rfl) fun v s' hP hm => ?_⟩
  obtain ⟨h', tk, es, hk'⟩ := PySem.W.moved_old e rfl (Moved.drop_new (tk := s₂.toks) hm (Nat.le_refl _))
  subst es
  have hv : v = Value.ref (if i < j then b else a) := by
    by_cases hji : i < j
    · have e2 : argBest (fun k m => decide ((if m = 0 then i else j) < (if k = 0 then i else j))) ((#[Value.ref a, Value.ref b] : Array Value).size - 1) = 1 := by
        show argBest _ 1 = 1
        simp [argBest, hji]
      rw [e2] at hP
      rw [if_pos hji]
      exact (Option.some.inj hP).symm
    · have e2 : argBest (fun k m => decide ((if m = 0 then i else j) < (if k = 0 then i else j))) ((#[Value.ref a, Value.ref b] : Array Value).size - 1) = 0 := by
        show argBest _ 1 = 0
        simp [argBest, hji]
      rw [e2] at hP
      rw [if_neg hji]
      exact (Option.some.inj hP).symm
  subst hv
  refine ⟨V.ref (if i < j then b else a), H, I.kept (t' := tk) fun c o eo => hk' c o (Heap.get?_push_of_some _ eo), rfl, ?_⟩
  by_cases hji : i < j
  · rw [if_pos hji] at q ⊢; exact q
  · rw [if_neg hji] at q ⊢; exact q
end

/-! ### a list, a tuple taken apart by a target with a star -/
theorem star_list {prog : Program} {w : World} {A : Around} {E : Value → Shared → Prop} {s : Shared} {l : Addr} {items : Array Value} {n i : Nat} {Q : List Value → Shared → Prop} (hl : s.heap.IsList l items) (hh : A.handled = none) (hi : i < n) (hn : n ≤ items.size + 1) (hz : items.size ≤ sizeLine)
    (h : ∀ (h' : Heap) (tk : Nat), (∀ b o, s.heap.get? b = some o → h'.get? b = some o) → Q (items.toList.take i ++ [.ref h'.objs.size] ++ items.toList.drop (items.size + 1 - n + i)) { s with heap := h'.push { cls := .type "list", data := .seq ((items.toList.drop i).take (items.size + 1 - n)).toArray }, toks := tk }) : wpAny (model prog w) A (unpackItems (.ref l) n (some i)) Q E s := by
  obtain ⟨o0, ho0, _⟩ := id hl
  have ll : l < s.heap.objs.size := Heap.lt_size ho0
  have ln : l ≠ s.heap.objs.size := Nat.ne_of_lt ll
  have len : items.toList.length = items.size := Array.length_toList
  unfold unpackItems notIterableAtAll
  refine wpAny_bind (wpAny_bind (wpAny_specialOf hl.typeIs slot_list_iter.lookup (wpAny_pure ?_)))
  simp only [Bool.false_eq_true, if_false]
  refine wpAny_bind (wpAny_holding (wpAny_pyIter_list hl ?_))
  refine wpAny_bind (wpAny_holding (PySem.W.kun_draw ln i 0 _ _ ⟨_, Heap.get?_push_size _ rfl, rfl, rfl⟩ (hl.push _) (by omega) fun g1 it1 sb1 => ?_))
  rw [Nat.zero_add] at it1
  rw [List.drop_zero]
  have l1 : g1.IsList l items := (hl.push _).extBut sb1.extBut ln
  obtain ⟨oi, hoi, _⟩ := id it1
  obtain ⟨ol, hol, _⟩ := id l1
  have e1 : (items.toList.take i).length = i := by rw [List.length_take]; omega
  rw [if_neg (by rw [e1]; omega)]
  refine wpAny_bind (wpAny_holding (PySem.W.kun_collect (s := { s with heap := g1 }) (T := "list_iterator") (.inr (.inr (.inl rfl))) (Walks.list (A := A.in1) hh s.heap.objs.size l ln items) (fun j u st => st.1.typeIs) (k := i) (by omega) ⟨it1, l1⟩ (Heap.lt_size hoi) (Heap.lt_size hol) (fun g2 tk hk => ?_) hz))
  have e2 : (items.toList.drop i).length = items.size - i := by rw [List.length_drop, len]
  have e3 : (items.toList.drop i).length - (n - 1 - i) = items.size + 1 - n := by omega
  show wpAny _ _ (if (items.toList.drop i).length < n - 1 - i then _ else _) _ _ _
  rw [if_neg (by omega)]
  show wpAny _ _ (newList ((items.toList.drop i).take ((items.toList.drop i).length - (n - 1 - i))) >>= fun d => pure (items.toList.take i ++ [d] ++ (items.toList.drop i).drop ((items.toList.drop i).length - (n - 1 - i)))) _ _ _
  rw [e3, List.drop_drop]
  refine wpAny_bind (wpAny_newObj_type (hd := by show ((items.toList.drop i).take (items.size + 1 - n)).toArray.size ≤ sizeLine; rw [List.size_toArray, List.length_take]; omega) (wpAny_pure ?_))
  have := h g2 tk fun b o e => hk b o (Nat.ne_of_lt (Heap.lt_size e)) (sb1.extBut b o (Nat.ne_of_lt (Heap.lt_size e)) (Heap.get?_push_of_some _ e))
  rw [show i + (items.size + 1 - n) = items.size + 1 - n + i from Nat.add_comm _ _]
  exact this
def gStar (K : PySem.W.Frag) (n i : Nat) (t : TGs) : TG := fun v σ H Q => ∃ a xs, v = .ref a ∧ SqL K H a xs ∧ i < n ∧ n ≤ xs.length + 1 ∧ ∀ p, H p = none → t (xs.take i ++ [.ref p] ++ xs.drop (xs.length + 1 - n + i)) σ (upd H p (.lst ((xs.drop i).take (xs.length + 1 - n)))) Q
section
variable {X : Cx} {pos : Pos}
theorem pgs_star {e : Expr} {es : List Expr} {t : TG} {u : TGs} {p : Pos} (h1 : PG X e t) (h2 : PGs X es u) : PGs X (.Starred e p :: es) (gCons t u) := by
  refine ⟨fun pins s σ H vs us Q I r h => ?_⟩
  obtain ⟨v, vr, rfl, h⟩ := h
  cases r with
  | cons r rr =>
    show wpAny _ _ (assignInOrder (assign e X.env :: (assignEach es X.env).map (·.2)) _) _ _ _
    exact assignInOrder_cons (thn (h1.run pins s σ H _ _ _ I r h) fun _ s1 ⟨σ1, H1, I1, q1⟩ => h2.run pins s1 σ1 H1 _ _ Q I1 rr q1)
theorem pg_star {es : List Expr} {k : Nat} {t : TGs} {n i : Nat} (hc : X.calm = true) (h : PGs X es t) (hn : (assignEach es X.env).length = n) (hst : (assignEach es X.env).findIdx? (·.1) = some i) : PG X (.Tuple es k pos) (gStar X.K n i t) := by
  refine ⟨fun pins s σ H v u Q I r hw => ?_⟩
  obtain ⟨a, xs, rfl, hq, hi, hl, hw⟩ := hw
  cases r
  obtain ⟨its, rv, pl, hz⟩ := I.list hq
  have e0 : its.toArray.size = xs.length := by simp [rv.length]
  rw [PyProof.Rows.assign_Tuple]
  refine wpAny_bind (wpAny_standAt ?_)
  unfold unpack
  rw [hn, hst]
  refine wpAny_bind (wpAny_holding (star_list pl.isList (I.ok.hd hc) hi (by omega) (by rw [e0]; exact hz) fun h' tk hk => ?_))
  have I1 : Inv X pins σ H { s with heap := h', toks := tk } := I.kept (t' := tk) hk
  have hp := I1.hok.fresh (Nat.le_refl _)
  have rm : Vals ((xs.drop i).take (xs.length + 1 - n)) ((its.drop i).take (its.length + 1 - n)) := by rw [rv.length]; exact (rv.drop i).take _
  have I2 : Inv X pins σ (upd H h'.objs.size (.lst ((xs.drop i).take (xs.length + 1 - n)))) { s with heap := h'.push { cls := .type "list", data := .seq ((its.drop i).take (its.length + 1 - n)).toArray }, toks := tk } := by
    refine I1.laid (t' := tk) (fun b u e => Heap.get?_push_of_some _ e) (Nat.le_refl _) ?_
    exact ⟨by rw [List.length_take, List.length_drop]; omega, _, 0, rm, Heap.get?_push_size _ rfl⟩
  have := h.run pins _ σ _ _ (its.take i ++ [.ref h'.objs.size] ++ its.drop (its.length + 1 - n + i)) Q I2 (((rv.take i).append (.cons (show RelV (.ref h'.objs.size) (.ref h'.objs.size) from rfl) .nil)).append (by rw [rv.length]; exact rv.drop _)) (hw _ hp)
  simpa using this
end
end Ev
set_option Elab.async false
set_option linter.all false
set_option maxRecDepth 100000
set_option maxHeartbeats 4000000
/-! E14d: list(zip(a, b)) of two tuples. -/
namespace Ev
open PySem PySem.Spec PyProof.Rows L2
section
variable {prog : Program} {w : World} {A : Around} {E : Value → Shared → Prop} {s : Shared}
/-- one turn of a zip of two tuples whose first pair is still held -/
theorem held_item {z TI TO T p1 p2 t1 t2 : Addr} {f : Bool} {oT : Obj} {m1 m2 : Nat} {xs ys : Array Value} {x y : Value} {Q : Value → Shared → Prop} (D : ZipApart z TI TO p1 p2 t1 t2)
    (hz : IsZipHeld s.heap z TI TO T f) (hT : s.heap.get? T = some oT) (hTI : IsPair s.heap TI (.ref p1) (.ref p2)) (i1 : s.heap.IsTupleIter p1 t1 m1) (i2 : s.heap.IsTupleIter p2 t2 m2) (l1 : s.heap.IsTuple t1 xs) (l2 : s.heap.IsTuple t2 ys) (hx : xs[m1]? = some x) (hy : ys[m2]? = some y)
    (hQ : ∀ h' : Heap, IsZipHeld h' z TI TO T true → h'.IsTupleIter p1 t1 (m1 + 1) → h'.IsTupleIter p2 t2 (m2 + 1) → IsPair h' s.heap.objs.size x y → h'.objs.size = s.heap.objs.size + 1 → (∀ c o, c ≠ z → c ≠ p1 → c ≠ p2 → s.heap.get? c = some o → h'.get? c = some o) → Q (.ref s.heap.objs.size) { s with heap := h' }) :
    wpAny (model prog w) A (Builtin.«zip.__next__» ⟨[.ref z], []⟩) (fun fin s' => ∃ v, fin = .done (.ret v) ∧ Q v s') E s := by
  refine wpAny_bind (m := field (.ref z) 2) (wpAny_field hz rfl (x := .bool false) rfl (wpAny_bind (m := field (.ref z) 3) (wpAny_field hz rfl (x := .ref TI) rfl (wpAny_bind (wpAny_seqItems hTI rfl (wpAny_bind (m := Builtin.SmallTypes.ownedTupleIsFree (.ref z)) (wpAny_tupleHeld_zip hz hT fun g1 z1 b1 => ?_)))))))
  simp only [Bool.false_eq_true, if_false]
  refine wpAny_bind ?_
  rw [← Array.forIn_toList]; simp only [List.forIn_cons, List.forIn_nil]
  refine wpAny_bind (wpAny_bind (wpAny_holding (wpAny_bind (m := Builtin.SmallTypes.nextOf (.ref p1)) (RZ.nextOf_tuple_item (s := { s with heap := g1 }) (i1.extBut b1.extBut D.i1z) (l1.extBut b1.extBut D.l1z) hx fun g2 j1 b2 => wpAny_pure (wpAny_pure ?_)))))
  refine wpAny_bind (wpAny_bind (wpAny_holding (wpAny_bind (m := Builtin.SmallTypes.nextOf (.ref p2)) (RZ.nextOf_tuple_item (s := { s with heap := g2 }) ((i2.extBut b1.extBut D.i2z).extBut b2.extBut D.i12.symm) ((l2.extBut b1.extBut D.l2z).extBut b2.extBut D.l2i1) hy fun g3 j2 b3 => wpAny_pure (wpAny_pure (wpAny_pure ?_))))))
  refine wpAny_bind (m := newTuple [x, y]) (wpAny_newTuple (wpAny_pure ⟨_, rfl, ?_⟩))
  have sz : g3.objs.size = s.heap.objs.size := by rw [b3.1, b2.1, b1.1]
  have kp : ∀ c o, c ≠ z → c ≠ p1 → c ≠ p2 → s.heap.get? c = some o → g3.get? c = some o := fun c o n1 n2 n3 e => b3.extBut _ _ n3 (b2.extBut _ _ n2 (b1.extBut _ _ n1 e))
  have pr : IsPair (g3.push { cls := .type "tuple", data := .seq #[x, y] }) g3.objs.size x y := Heap.get?_push_size _ rfl
  have s4 : (g3.push { cls := .type "tuple", data := .seq #[x, y] }).objs.size = g3.objs.size + 1 := Heap.size_push ..
  show Q (.ref g3.objs.size) _
  rw [sz] at pr s4 ⊢
  exact hQ _ (Heap.get?_push_of_some _ (b3.extBut _ _ D.i2z.symm (b2.extBut _ _ D.i1z.symm z1))) ((j1.extBut b3.extBut D.i12).at fun o e => Heap.get?_push_of_some _ e) (j2.at fun o e => Heap.get?_push_of_some _ e) pr s4 fun c o n1 n2 n3 e => Heap.get?_push_of_some _ (kp c o n1 n2 n3 e)
theorem held_end {z TI TO T p1 p2 t1 t2 : Addr} {f : Bool} {oT : Obj} {m1 m2 : Nat} {xs ys : Array Value} {Q : Fin → Shared → Prop} (hh : A.handled = none) (D : ZipApart z TI TO p1 p2 t1 t2)
    (hz : IsZipHeld s.heap z TI TO T f) (hT : s.heap.get? T = some oT) (hTI : IsPair s.heap TI (.ref p1) (.ref p2)) (i1 : s.heap.IsTupleIter p1 t1 m1) (i2 : s.heap.IsTupleIter p2 t2 m2) (l1 : s.heap.IsTuple t1 xs) (l2 : s.heap.IsTuple t2 ys) (hend : xs[m1]? = none ∨ ys[m2]? = none)
    (hE : ∀ (h' : Heap) (e : Addr), (∀ c o, c ≠ z → c ≠ p1 → c ≠ p2 → s.heap.get? c = some o → h'.get? c = some o) → (∃ o, h'.get? e = some o ∧ o.cls = .type "StopIteration") → E (.ref e) { s with heap := h' }) :
    wpAny (model prog w) A (Builtin.«zip.__next__» ⟨[.ref z], []⟩) Q E s := by
  refine wpAny_bind (m := field (.ref z) 2) (wpAny_field hz rfl (x := .bool false) rfl (wpAny_bind (m := field (.ref z) 3) (wpAny_field hz rfl (x := .ref TI) rfl (wpAny_bind (wpAny_seqItems hTI rfl (wpAny_bind (m := Builtin.SmallTypes.ownedTupleIsFree (.ref z)) (wpAny_tupleHeld_zip hz hT fun g1 z1 b1 => ?_)))))))
  simp only [Bool.false_eq_true, if_false]
  refine wpAny_bind ?_
  rw [← Array.forIn_toList]; simp only [List.forIn_cons, List.forIn_nil]
  cases hx : xs[m1]? with
  | none => exact wpAny_bind (wpAny_bind (wpAny_holding (wpAny_bind (m := Builtin.SmallTypes.nextOf (.ref p1)) (RZ.nextOf_tuple_end (s := { s with heap := g1 }) hh (i1.extBut b1.extBut D.i1z) (l1.extBut b1.extBut D.l1z) hx fun g2 e b2 he => hE g2 e (fun c o n1 n2 _ q => b2 _ _ n2 (b1.extBut _ _ n1 q)) he))))
  | some x =>
    have hy : ys[m2]? = none := hend.resolve_left (by rw [hx]; simp)
    refine wpAny_bind (wpAny_bind (wpAny_holding (wpAny_bind (m := Builtin.SmallTypes.nextOf (.ref p1)) (RZ.nextOf_tuple_item (s := { s with heap := g1 }) (i1.extBut b1.extBut D.i1z) (l1.extBut b1.extBut D.l1z) hx fun g2 j1 b2 => wpAny_pure (wpAny_pure ?_)))))
    exact wpAny_bind (wpAny_bind (wpAny_holding (wpAny_bind (m := Builtin.SmallTypes.nextOf (.ref p2)) (RZ.nextOf_tuple_end (s := { s with heap := g2 }) hh ((i2.extBut b1.extBut D.i2z).extBut b2.extBut D.i12.symm) ((l2.extBut b1.extBut D.l2z).extBut b2.extBut D.l2i1) hy fun g3 e b3 he => hE g3 e (fun c o n1 n2 n3 q => b3 _ _ n3 (b2.extBut _ _ n2 (b1.extBut _ _ n1 q))) he))))
/-- a zip amid its walk: at place m; behind the first turn its pair is held -/
def ZipAt (h : Heap) (z TI TO p1 p2 t1 t2 : Addr) (m : Nat) : Prop := IsPair h TI (.ref p1) (.ref p2) ∧ h.IsTupleIter p1 t1 m ∧ h.IsTupleIter p2 t2 m ∧
  ((m = 0 ∧ IsZip h z TI TO .none ∧ IsPair h TO .none .none) ∨ (0 < m ∧ ∃ T oT, h.get? T = some oT ∧ T ≠ z ∧ T ≠ p1 ∧ T ≠ p2 ∧ ∃ f, IsZipHeld h z TI TO T f))
theorem zip_turn {z TI TO p1 p2 t1 t2 : Addr} {m : Nat} {xs ys : Array Value} {x y : Value} {Q : Option Value → Shared → Prop} (D : ZipApart z TI TO p1 p2 t1 t2) (Z : ZipAt s.heap z TI TO p1 p2 t1 t2 m) (l1 : s.heap.IsTuple t1 xs) (l2 : s.heap.IsTuple t2 ys) (hx : xs[m]? = some x) (hy : ys[m]? = some y)
    (hQ : ∀ h' : Heap, ZipAt h' z TI TO p1 p2 t1 t2 (m + 1) → IsPair h' s.heap.objs.size x y → h'.objs.size = s.heap.objs.size + 1 → (∀ c o, c ≠ z → c ≠ TO → c ≠ p1 → c ≠ p2 → s.heap.get? c = some o → h'.get? c = some o) → Q (some (.ref s.heap.objs.size)) { s with heap := h' }) :
    wpAny (model prog w) A (pyNext (.ref z)) Q E s := by
  obtain ⟨hTI, i1, i2, Z⟩ := Z
  obtain ⟨o1, e1, _⟩ := id i1
  obtain ⟨o2, e2, _⟩ := id i2
  rcases Z with ⟨rfl, hz, hTO⟩ | ⟨hm, T, oT, hT, n1, n2, n3, f, hz⟩
  · refine RZ.pyNext_zipT_item D hz hTI hTO i1 i2 l1 l2 hx hy fun h' a1 a2 a3 a4 a5 a6 a7 => ?_
    have sz : s.heap.objs.size ≠ z ∧ s.heap.objs.size ≠ p1 ∧ s.heap.objs.size ≠ p2 := ⟨(Nat.ne_of_lt (Heap.lt_size hz)).symm, (Nat.ne_of_lt (Heap.lt_size e1)).symm, (Nat.ne_of_lt (Heap.lt_size e2)).symm⟩
    exact hQ h' ⟨a7 _ _ D.TIz D.TITO D.TIi1 D.TIi2 hTI, a3, a4, .inr ⟨Nat.succ_pos _, _, _, a5, sz.1, sz.2.1, sz.2.2, false, a1⟩⟩ a5 a6 a7
  · have hTy : s.TypeIs (.ref z) "zip" := ⟨_, hz, rfl⟩
    unfold pyNext
    refine wpAny_bind (wpAny_attempt (wpAny_callSpecial?_slot (name := Str.ofString "__next__") hTy F.slot_zip_next (wpAny_call_entry F.slot_zip_next hTy F.entry_zip_next (held_item D hz hT hTI i1 i2 l1 l2 hx hy fun h' a1 a3 a4 a5 a6 a7 => wpAny_pure ?_) (F.args_zip_next_1 _))))
    exact hQ h' ⟨a7 _ _ D.TIz D.TIi1 D.TIi2 hTI, a3, a4, .inr ⟨Nat.succ_pos _, T, oT, a7 _ _ n1 n2 n3 hT, n1, n2, n3, true, a1⟩⟩ a5 a6 fun c o c1 _ c3 c4 e => a7 c o c1 c3 c4 e
theorem zip_stop {z TI TO p1 p2 t1 t2 : Addr} {m : Nat} {xs ys : Array Value} {Q : Option Value → Shared → Prop} (hh : A.handled = none) (D : ZipApart z TI TO p1 p2 t1 t2) (Z : ZipAt s.heap z TI TO p1 p2 t1 t2 m) (l1 : s.heap.IsTuple t1 xs) (l2 : s.heap.IsTuple t2 ys) (hend : xs[m]? = none ∨ ys[m]? = none)
    (hQ : ∀ h' : Heap, (∀ c o, c ≠ z → c ≠ TO → c ≠ p1 → c ≠ p2 → s.heap.get? c = some o → h'.get? c = some o) → Q none { s with heap := h' }) : wpAny (model prog w) A (pyNext (.ref z)) Q E s := by
  obtain ⟨hTI, i1, i2, Z⟩ := Z
  rcases Z with ⟨rfl, hz, hTO⟩ | ⟨hm, T, oT, hT, n1, n2, n3, f, hz⟩
  · exact RZ.pyNext_zipT_end hh D hz hTI hTO i1 i2 l1 l2 hend hQ
  · have hTy : s.TypeIs (.ref z) "zip" := ⟨_, hz, rfl⟩
    unfold pyNext
    refine wpAny_bind (wpAny_attempt (wpAny_callSpecial?_slot (name := Str.ofString "__next__") hTy F.slot_zip_next (wpAny_call_entry F.slot_zip_next hTy F.entry_zip_next (held_end hh D hz hT hTI i1 i2 l1 l2 hend fun h' e hk he => ?_) (F.args_zip_next_1 _))))
    obtain ⟨o, ho, hc⟩ := he
    exact wpAny_bind (wpAny_isInstance (T := "StopIteration") (b := true) ⟨o, ho, hc⟩ isSubtype_stop (wpAny_pure (hQ _ fun c o c1 _ c3 c4 e => hk c o c1 c3 c4 e)))
end
end Ev
set_option Elab.async false
set_option linter.all false
set_option maxRecDepth 100000
set_option maxHeartbeats 4000000
/-! E14e: list(zip(a, b)), the loop and the call. -/
namespace Ev
open PySem PySem.Spec PyProof.Rows L2
/-- pairs at the addresses as -/
def PairsAt (h : Heap) (B : Nat) (as : List Addr) (xs ys : Array Value) : Prop := ∀ (j : Nat) (a : Addr), as[j]? = some a → B ≤ a ∧ ∃ x y, xs[j]? = some x ∧ ys[j]? = some y ∧ IsPair h a x y
section
variable {prog : Program} {w : World} {A : Around} {R : Result → Shared → Prop} {z TI TO p1 p2 t1 t2 S : Addr} {xs ys : Array Value} {res : Value} {B : Nat}
theorem zip_loop (hh : A.handled = none) (D : ZipApart z TI TO p1 p2 t1 t2) (hS : S ≠ z ∧ S ≠ TO ∧ S ≠ p1 ∧ S ≠ p2 ∧ S ≠ TI ∧ S ≠ t1 ∧ S ≠ t2) (hB : z < B ∧ TO < B ∧ p1 < B ∧ p2 < B ∧ S < B) (hn : min xs.size ys.size ≤ sizeLine) :
    ∀ (k m : Nat) (s : Shared) (as : List Addr) (c : Nat), min xs.size ys.size - m = k → m ≤ min xs.size ys.size → as.length = m → B ≤ s.heap.objs.size → ZipAt s.heap z TI TO p1 p2 t1 t2 m → s.heap.IsTuple t1 xs → s.heap.IsTuple t2 ys → PairsAt s.heap B as xs ys → (as.Nodup ∧ ∀ a ∈ as, a < s.heap.objs.size) →
    s.heap.get? S = some { cls := .type "list", dict := none, data := .seq (as.map Value.ref).toArray c, slots := #[] } →
    (∀ (h' : Heap) (as' : List Addr) (c' : Nat), as'.length = min xs.size ys.size → as'.Nodup → PairsAt h' B as' xs ys → h'.get? S = some { cls := .type "list", dict := none, data := .seq (as'.map Value.ref).toArray c', slots := #[] } →
      (∀ b o, b ≠ S → b ≠ z → b ≠ TO → b ≠ p1 → b ≠ p2 → s.heap.get? b = some o → h'.get? b = some o) → R (.ok (.ret res)) { s with heap := h' }) →
    codeAny (model prog w) A (.builtin "list.extend.loop" ⟨[.ref S, .ref z, res], []⟩) R s := by
  have stay : ∀ {h h' : Heap} {as : List Addr}, (∀ c o, c ≠ z → c ≠ TO → c ≠ p1 → c ≠ p2 → h.get? c = some o → h'.get? c = some o) → PairsAt h B as xs ys → PairsAt h' B as xs ys := fun kp P j a ha => by
    obtain ⟨q1, x, y, q2, q3, q4⟩ := P j a ha
    exact ⟨q1, x, y, q2, q3, kp a _ (Nat.ne_of_gt (Nat.lt_of_lt_of_le hB.1 q1)) (Nat.ne_of_gt (Nat.lt_of_lt_of_le hB.2.1 q1)) (Nat.ne_of_gt (Nat.lt_of_lt_of_le hB.2.2.1 q1)) (Nat.ne_of_gt (Nat.lt_of_lt_of_le hB.2.2.2.1 q1)) q4⟩
  intro k
  induction k with
  | zero =>
    intro m s as c hk hm hl hb Z l1 l2 P nd hL hR
    have e : m = min xs.size ys.size := by omega
    refine codeAny_builtin F.entry_extend_loop ?_
    rw [Around.under_plainId F.plain_extend_loop _]
    have hend : xs[m]? = none ∨ ys[m]? = none := by
      rcases Nat.le_total xs.size ys.size with q | q
      · left; exact Array.getElem?_eq_none (by omega)
      · right; exact Array.getElem?_eq_none (by omega)
    refine wpAny_bind (m := pyNext (.ref z)) (zip_stop (A := A.in1) hh D Z l1 l2 hend fun h' kp => wpAny_pure ?_)
    exact hR h' as c (by omega) nd.1 (stay kp P) (kp S _ hS.1 hS.2.1 hS.2.2.1 hS.2.2.2.1 hL) fun b o n1 n2 n3 n4 n5 q => kp b o n2 n3 n4 n5 q
  | succ k ih =>
    intro m s as c hk hm hl hb Z l1 l2 P nd hL hR
    have m1 : m < xs.size := by omega
    have m2 : m < ys.size := by omega
    refine codeAny_builtin F.entry_extend_loop ?_
    rw [Around.under_plainId F.plain_extend_loop _]
    refine wpAny_bind (m := pyNext (.ref z)) (zip_turn (A := A.in1) D Z l1 l2 (Array.getElem?_eq_getElem m1) (Array.getElem?_eq_getElem m2) fun h' Z' pr sz kp => ?_)
    have hL' := kp S _ hS.1 hS.2.1 hS.2.2.1 hS.2.2.2.1 hL
    have oth : ∀ (f : Obj → Obj) (b : Addr) (o : Obj), b ≠ S → h'.get? b = some o → (h'.update S f).get? b = some o := fun f b o nb q => (Heap.get?_update_other _ _ (Ne.symm nb)).trans q
    refine wpAny_bind (m := updateSeq S (·.push (.ref s.heap.objs.size))) (wpAny_updateSeq hL' rfl (wpAny_pure ⟨plainId_quiet F.plain_extend_loop _, ih (m + 1) _ (as ++ [s.heap.objs.size]) _ (by omega) (by omega) (by simp [hl]) ?_ ?_ ?_ ?_ ?_ ?_ (by rw [List.map_append]; have q := Heap.get?_update_self (Obj.mapSeq (·.push (.ref s.heap.objs.size))) hL' rfl; simpa [Obj.mapSeq] using q) fun h2 as' c' e1 nd2 P2 q2 k2 => ?_⟩) ?_ ?_)
    · show B ≤ (h'.update S _).objs.size
      rw [Heap.size_update, sz]; omega
    · obtain ⟨a1, a2, a3, a4⟩ := Z'
      refine ⟨oth _ _ _ (Ne.symm hS.2.2.2.2.1) a1, a2.at fun o q => oth _ _ _ (Ne.symm hS.2.2.1) q, a3.at fun o q => oth _ _ _ (Ne.symm hS.2.2.2.1) q, ?_⟩
      rcases a4 with ⟨q, _⟩ | ⟨q, T, oT, b1, b2, b3, b4, f, b5⟩
      · omega
      · refine .inr ⟨q, T, ?_⟩
        by_cases hTS : T = S
        · subst hTS
          exact ⟨_, Heap.get?_update_self _ hL' rfl, b2, b3, b4, f, oth _ _ _ (Ne.symm hS.1) b5⟩
        · exact ⟨oT, oth _ _ _ hTS b1, b2, b3, b4, f, oth _ _ _ (Ne.symm hS.1) b5⟩
    · obtain ⟨o, q, q2⟩ := l1
      exact ⟨o, oth _ _ _ (Ne.symm hS.2.2.2.2.2.1) (kp _ _ D.l1z D.l1TO D.l1i1 D.l1i2 q), q2⟩
    · obtain ⟨o, q, q2⟩ := l2
      exact ⟨o, oth _ _ _ (Ne.symm hS.2.2.2.2.2.2) (kp _ _ D.l2z D.l2TO D.l2i1 D.l2i2 q), q2⟩
    · intro j a ha
      by_cases hj : j < as.length
      · rw [List.getElem?_append_left hj] at ha
        obtain ⟨q1, x, y, q2, q3, q4⟩ := stay kp P j a ha
        exact ⟨q1, x, y, q2, q3, oth _ _ _ (Nat.ne_of_gt (Nat.lt_of_lt_of_le hB.2.2.2.2 q1)) q4⟩
      · have hjm : j = m := by
          have := (List.getElem?_eq_some_iff.mp ha).1
          simp at this; omega
        subst hjm
        rw [List.getElem?_append_right (by omega)] at ha
        have ea : s.heap.objs.size = a := by simpa [hl] using ha
        subst ea
        exact ⟨hb, _, _, Array.getElem?_eq_getElem m1, Array.getElem?_eq_getElem m2, oth _ _ _ (Nat.ne_of_gt (Nat.lt_of_lt_of_le hB.2.2.2.2 hb)) pr⟩
    · refine ⟨?_, fun a ha => ?_⟩
      · rw [List.nodup_append]
        exact ⟨nd.1, by simp, fun a ha b hb => by rw [List.mem_singleton.mp hb]; exact Nat.ne_of_lt (nd.2 a ha)⟩
      · show a < (h'.update S _).objs.size
        rw [Heap.size_update, sz]
        rcases List.mem_append.mp ha with q | q
        · exact Nat.lt_succ_of_lt (nd.2 a q)
        · rw [List.mem_singleton.mp q]; exact Nat.lt_succ_self _
    · refine hR h2 as' c' e1 nd2 P2 q2 fun b o n1 n2 n3 n4 n5 q => k2 b o n1 n2 n3 n4 n5 (oth _ _ _ n1 (kp b o n2 n3 n4 n5 q))
    · simp [hl]; omega
    · show ((as.map Value.ref).toArray.push _).size ≤ sizeLine + 1
      simp [hl]; omega
end
/-! ### many new objects -/
theorem Inv.many {X : Cx} {pins : List (Addr × Obj)} {σ : L2.St} {H H' : Hp} {s : Shared} {h' : Heap} {tk : Nat} (I : Inv X pins σ H s) (hk : ∀ b o, s.heap.get? b = some o → h'.get? b = some o) (kp : ∀ b u, H b = some u → H' b = some u)
    (hn : ∀ b, b < s.heap.objs.size → H' b = H b) (hob : ∀ b u, s.heap.objs.size ≤ b → H' b = some u → ObjOk X.prog X.w H' h' b u) : Inv X pins σ H' { s with heap := h', toks := tk } := by
  refine I.call' (ch := []) rfl ⟨fun b o q _ _ _ => hk b o q, fun b o q _ _ _ => ⟨o.slots, hk b o q⟩, fun b o q n _ => ?_, fun b o q _ => ⟨o, hk b o q⟩, fun b xs q => kp b _ q, fun b o u q => kp b _ q, fun b ps q => ⟨#[], by rw [kp b _ q]; simp⟩⟩ (fun b u q => ?_) I.bare fun b z => by simp at z
  · rw [hn b (Heap.lt_size q)]; exact n
  · rcases Nat.lt_or_ge b s.heap.objs.size with hb | hb
    · rw [hn b hb] at q
      exact (I.hok b u q).stay (fun d v _ y => hk d v y) (fun d y => kp d _ y) fun d xs y => kp d _ y
    · exact hob b u hb q
def putP : Hp → List Addr → List (V × V) → Hp
  | H, a :: as, p :: ps => putP (upd H a (.tup [p.1, p.2])) as ps
  | H, _, _ => H
theorem putP_off {b : Addr} : ∀ (as : List Addr) (ps : List (V × V)) (H : Hp), b ∉ as → putP H as ps b = H b
  | [], _, _, _ => rfl
  | _ :: _, [], _, _ => rfl
  | a :: as, p :: ps, H, h => by
    rw [List.mem_cons, not_or] at h
    exact (putP_off as ps _ h.2).trans (upd_ne h.1)
theorem putP_at : ∀ (as : List Addr) (ps : List (V × V)) (H : Hp) (j : Nat) (a : Addr) (p : V × V), as.Nodup → as[j]? = some a → ps[j]? = some p → putP H as ps a = some (.tup [p.1, p.2])
  | [], _, _, _, _, _, _, h, _ => by simp at h
  | _ :: _, [], _, _, _, _, _, _, h => by simp at h
  | a :: as, p :: ps, H, 0, b, q, nd, h1, h2 => by
    cases h1; cases h2
    exact (putP_off as ps _ (List.nodup_cons.mp nd).1).trans upd_same
  | a :: as, p :: ps, H, j + 1, b, q, nd, h1, h2 => putP_at as ps _ j b q (List.nodup_cons.mp nd).2 (by simpa using h1) (by simpa using h2)
end Ev
set_option Elab.async false
set_option linter.all false
set_option maxRecDepth 100000
set_option maxHeartbeats 400000
/-! E14f: list(zip(a, b)) as an expression. -/
namespace Ev
open PySem PySem.Spec PyProof.Rows L2
theorem nolen_zip : typeLookup (.type "zip") "__len__" = pure none := by rw [typeLookup_type, builtinLookup_eq_fast]; kernel_rfl
theorem nohint_zip : typeLookup (.type "zip") "__length_hint__" = pure none := by rw [typeLookup_type, builtinLookup_eq_fast]; kernel_rfl
/-- a new zip, with all that it needs -/
structure Zip0 (h : Heap) (z TI TO p1 p2 t1 t2 : Addr) (xs ys : Array Value) : Prop where
  D : ZipApart z TI TO p1 p2 t1 t2
  hz : IsZip h z TI TO .none
  hTI : IsPair h TI (.ref p1) (.ref p2)
  hTO : IsPair h TO .none .none
  i1 : h.IsTupleIter p1 t1 0
  i2 : h.IsTupleIter p2 t2 0
  l1 : h.IsTuple t1 xs
  l2 : h.IsTuple t2 ys
theorem Zip0.kept {h h' : Heap} {z TI TO p1 p2 t1 t2 : Addr} {xs ys : Array Value} (Z : Zip0 h z TI TO p1 p2 t1 t2 xs ys) (k : ∀ b o, h.get? b = some o → h'.get? b = some o) : Zip0 h' z TI TO p1 p2 t1 t2 xs ys :=
  ⟨Z.D, k _ _ Z.hz, k _ _ Z.hTI, k _ _ Z.hTO, Z.i1.at fun o q => k _ o q, Z.i2.at fun o q => k _ o q, IsTuple.kept Z.l1 k, IsTuple.kept Z.l2 k⟩
theorem Zip0.apart {h : Heap} {z TI TO p1 p2 t1 t2 S : Addr} {xs ys : Array Value} (Z : Zip0 h z TI TO p1 p2 t1 t2 xs ys) (hS : h.objs.size ≤ S) : (S ≠ z ∧ S ≠ TO ∧ S ≠ p1 ∧ S ≠ p2 ∧ S ≠ TI ∧ S ≠ t1 ∧ S ≠ t2) ∧ (z < h.objs.size ∧ TO < h.objs.size ∧ p1 < h.objs.size ∧ p2 < h.objs.size) := by
  obtain ⟨o1, e1, _⟩ := Z.i1
  obtain ⟨o2, e2, _⟩ := Z.i2
  obtain ⟨o3, e3, _⟩ := Z.l1
  obtain ⟨o4, e4, _⟩ := Z.l2
  have lt : ∀ {a : Addr} {o : Obj}, h.get? a = some o → S ≠ a := fun q => Nat.ne_of_gt (Nat.lt_of_lt_of_le (Heap.lt_size q) hS)
  exact ⟨⟨lt Z.hz, lt Z.hTO, lt e1, lt e2, lt Z.hTI, lt e3, lt e4⟩, Heap.lt_size Z.hz, Heap.lt_size Z.hTO, Heap.lt_size e1, Heap.lt_size e2⟩
section
variable {prog : Program} {w : World} {A : Around} {E : Value → Shared → Prop} {s : Shared} {R : Result → Shared → Prop} {z TI TO p1 p2 t1 t2 S : Addr} {xs ys : Array Value} {B c : Nat}
/-- what is left behind the walk -/
def ZipEnd (S z TO p1 p2 : Addr) (B : Nat) (xs ys : Array Value) (s : Shared) (P : Shared → Prop) : Prop := ∀ (h' : Heap) (as : List Addr) (c : Nat), as.length = min xs.size ys.size → as.Nodup → PairsAt h' B as xs ys → h'.get? S = some { cls := .type "list", dict := none, data := .seq (as.map Value.ref).toArray c, slots := #[] } →
      (∀ b o, b ≠ S → b ≠ z → b ≠ TO → b ≠ p1 → b ≠ p2 → s.heap.get? b = some o → h'.get? b = some o) → P { s with heap := h' }
theorem zip_extend (hh : A.handled = none) (Z : Zip0 s.heap z TI TO p1 p2 t1 t2 xs ys) (hSa : S ≠ z ∧ S ≠ TO ∧ S ≠ p1 ∧ S ≠ p2 ∧ S ≠ TI ∧ S ≠ t1 ∧ S ≠ t2) (hB : z < B ∧ TO < B ∧ p1 < B ∧ p2 < B ∧ S < B) (hB2 : B ≤ s.heap.objs.size) (hn : min xs.size ys.size ≤ sizeLine)
    (hS : s.heap.get? S = some { cls := .type "list", data := .seq #[] c }) (hR : ZipEnd S z TO p1 p2 B xs ys s (R (.ok (.ret .none)))) :
    wpAny (model prog w) A.in1 (Builtin.List.listExtendWith (.ref S) (.ref z) .none) (fun fin s' => match fin with | .done f => R (.ok f) s' | .again c' => c'.quiet = true ∧ codeAny (model prog w) A c' R s') (fun e s' => R (.error e) s') s := by
  have ty : s.TypeIs (.ref z) "zip" := ⟨_, Z.hz, rfl⟩
  unfold Builtin.List.listExtendWith
  refine wpAny_bind (wpAny_typeOf ty ?_)
  have ne : Builtin.List.listSameRef (.ref S) (.ref z) = false := by simp [Builtin.List.listSameRef, hSa.1]
  have n2 : (Value.type "zip" == Value.type "list") = false := by decide
  have n3 : (Value.type "zip" == Value.type "tuple") = false := by decide
  simp only [ne, n2, n3, Bool.or_false, Bool.false_eq_true, if_false]
  refine wpAny_bind (wpAny_pyIter_zip Z.hz (wpAny_bind (wpAny_holding ?_)))
  unfold Builtin.List.listLengthHint
  refine wpAny_bind (wpAny_specialOf ty nolen_zip ?_)
  show wpAny _ A.in1 (specialOf (Value.ref z) (Str.ofString "__length_hint__") >>= _) _ _ _
  refine wpAny_bind (wpAny_specialOf ty nohint_zip (wpAny_pure ?_))
  show wpAny _ A.in1 (rule "list.extend.makes-room" >>= fun _ => Builtin.List.listTouch (.ref S) >>= fun _ => again (.builtin "list.extend.loop" ⟨[.ref S, .ref z, .none], []⟩)) _ _ _
  refine wpAny_bind (wpAny_rule (wpAny_bind ?_))
  show wpAny _ A.in1 (updateSeq S (·.push .none) >>= fun _ => updateSeq S (·.pop)) _ _ _
  refine wpAny_bind (wpAny_updateSeq hS rfl ?_)
  have hS3 := Heap.get?_update_self (Obj.mapSeq (·.push Value.none)) hS rfl
  refine wpAny_updateSeq (hz := by seq_fits) hS3 rfl ?_
  have hS4 := Heap.get?_update_self (Obj.mapSeq (·.pop)) hS3 rfl
  have up : ∀ b o, b ≠ S → s.heap.get? b = some o → ((s.heap.update S (Obj.mapSeq (·.push Value.none))).update S (Obj.mapSeq (·.pop))).get? b = some o := fun b o nb q => (Heap.get?_update_other _ _ (Ne.symm nb)).trans ((Heap.get?_update_other _ _ (Ne.symm nb)).trans q)
  obtain ⟨m1, m2, m3, m4, m5, m6, m7⟩ := id hSa
  refine wpAny_pure ⟨plainId_quiet F.plain_extend_loop _, zip_loop (B := B) hh Z.D hSa hB hn _ 0 _ [] _ rfl (Nat.zero_le _) rfl ?_ ⟨up _ _ m5.symm Z.hTI, Z.i1.at fun o q => up _ o m3.symm q, Z.i2.at fun o q => up _ o m4.symm q, .inl ⟨rfl, up _ _ m1.symm Z.hz, up _ _ m2.symm Z.hTO⟩⟩ ?_ ?_ (fun j a h => by simp at h) ⟨List.nodup_nil, fun a h => by simp at h⟩ hS4 fun h' as c e1 nd P q k => hR h' as c e1 nd P q fun b o a1 a2 a3 a4 a5 r => k b o a1 a2 a3 a4 a5 (up b o a1 r)⟩
  · show B ≤ ((s.heap.update S (Obj.mapSeq (·.push Value.none))).update S (Obj.mapSeq (·.pop))).objs.size
    rw [Heap.size_update, Heap.size_update]; exact hB2
  · obtain ⟨o, e, q⟩ := Z.l1; exact ⟨o, up _ _ m6.symm e, q⟩
  · obtain ⟨o, e, q⟩ := Z.l2; exact ⟨o, up _ _ m7.symm e, q⟩
theorem zip_init (hh : A.handled = none) (Z : Zip0 s.heap z TI TO p1 p2 t1 t2 xs ys) (hSa : S ≠ z ∧ S ≠ TO ∧ S ≠ p1 ∧ S ≠ p2 ∧ S ≠ TI ∧ S ≠ t1 ∧ S ≠ t2) (hB : z < B ∧ TO < B ∧ p1 < B ∧ p2 < B ∧ S < B) (hB2 : B ≤ s.heap.objs.size) (hn : min xs.size ys.size ≤ sizeLine)
    (hS : s.heap.get? S = some { cls := .type "list", data := .seq #[] }) (hR : ZipEnd S z TO p1 p2 B xs ys s (R (.ok (.ret .none)))) :
    wpAny (model prog w) A.in1 (Builtin.«list.__init__» ⟨[.ref S, .ref z], []⟩) (fun fin s' => match fin with | .done f => R (.ok f) s' | .again c' => c'.quiet = true ∧ codeAny (model prog w) A c' R s') (fun e s' => R (.error e) s') s := by
  show wpAny _ A.in1 (do
    let old ← Builtin.List.listItems (.ref S)
    Builtin.List.listUpdate (.ref S) (fun _ => #[])
    letGo old.toList.reverse
    Builtin.List.listExtendWith (.ref S) (.ref z) .none) _ _ s
  refine wpAny_bind ?_
  unfold Builtin.List.listItems
  refine wpAny_bind (wpAny_seqItems hS rfl (wpAny_pure ?_))
  show wpAny _ A.in1 (updateSeq S (fun _ => #[]) >>= fun _ => letGo (#[] : Array Value).toList.reverse >>= fun _ => Builtin.List.listExtendWith (.ref S) (.ref z) .none) _ _ s
  refine wpAny_bind (wpAny_updateSeq hS rfl (wpAny_bind (wpAny_letGo ?_)))
  have hS2 := Heap.get?_update_self (Obj.mapSeq (fun _ => (#[] : Array Value))) hS rfl
  have up : ∀ b o, b ≠ S → s.heap.get? b = some o → (s.heap.update S (Obj.mapSeq (fun _ => (#[] : Array Value)))).get? b = some o := fun b o nb q => (Heap.get?_update_other _ _ (Ne.symm nb)).trans q
  obtain ⟨m1, m2, m3, m4, m5, m6, m7⟩ := id hSa
  refine zip_extend (s := { s with heap := s.heap.update S (Obj.mapSeq (fun _ => (#[] : Array Value))) }) hh ⟨Z.D, up _ _ m1.symm Z.hz, up _ _ m5.symm Z.hTI, up _ _ m2.symm Z.hTO, Z.i1.at fun o q => up _ o m3.symm q, Z.i2.at fun o q => up _ o m4.symm q, ?_, ?_⟩ hSa hB ?_ hn hS2 fun h' as c e1 nd P q k => hR h' as c e1 nd P q fun b o a1 a2 a3 a4 a5 r => k b o a1 a2 a3 a4 a5 (up b o a1 r)
  · obtain ⟨o, e, q⟩ := Z.l1; exact ⟨o, up _ _ m6.symm e, q⟩
  · obtain ⟨o, e, q⟩ := Z.l2; exact ⟨o, up _ _ m7.symm e, q⟩
  · show B ≤ (s.heap.update S (Obj.mapSeq (fun _ => (#[] : Array Value)))).objs.size
    rw [Heap.size_update]; exact hB2
theorem call_listZip {Q : Value → Shared → Prop} (hh : A.handled = none) (Z : Zip0 s.heap z TI TO p1 p2 t1 t2 xs ys) (hn : min xs.size ys.size ≤ sizeLine)
    (hQ : ZipEnd s.heap.objs.size z TO p1 p2 (s.heap.objs.size + 1) xs ys { s with heap := s.heap.push { cls := .type "list", data := .seq #[] } } (Q (.ref s.heap.objs.size))) : wpAny (model prog w) A (call (.type "list") [.ref z]) Q E s := by
  refine callType_codes (Q₁ := fun obj u => obj = .ref s.heap.objs.size ∧ u = { s with heap := s.heap.push { cls := .type "list", data := .seq #[] } }) F.called_list (F.typeCall_list_1 _) F.entry_list_init (code_list_new _ ⟨rfl, rfl⟩) fun obj u hu => ?_
  obtain ⟨rfl, rfl⟩ := hu
  have hS : (s.heap.push { cls := .type "list", data := .seq #[] }).get? s.heap.objs.size = some { cls := .type "list", data := .seq #[] } := Heap.get?_push_size _ rfl
  obtain ⟨a1, b1, b2, b3, b4⟩ := Z.apart (Nat.le_refl _)
  refine ⟨⟨_, hS, rfl⟩, F.args_list_init_2 _ _, zip_init (s := { s with heap := s.heap.push { cls := .type "list", data := .seq #[] } }) hh (Z.kept fun b o q => Heap.get?_push_of_some _ q) a1 ⟨Nat.lt_succ_of_lt b1, Nat.lt_succ_of_lt b2, Nat.lt_succ_of_lt b3, Nat.lt_succ_of_lt b4, Nat.lt_succ_self _⟩ (by show _ ≤ (s.heap.push _).objs.size; rw [Heap.size_push]; exact Nat.le_refl _) hn hS fun h' as c e1 nd P q k => ⟨rfl, hQ h' as c e1 nd P q k⟩⟩
end
/-! ### as a rule -/
def rZipL (K : PySem.W.Frag) : List V → Hp → VK → Prop := fun vs H Q => ∃ (a b : Addr) (xs ys : List V), vs = [.ref a, .ref b] ∧ SqT K H a xs ∧ SqT K H b ys ∧
  ∀ (H' : Hp) (p : Addr) (as : List Addr), (∀ b o, H b = some o → H' b = some o) → H p = none → (∀ t ∈ as, H t = none) → p ∉ as → H' p = some (.lst (as.map V.ref)) → as.length = min xs.length ys.length →
    (∀ (j : Nat) (t : Addr), as[j]? = some t → ∃ x y, xs[j]? = some x ∧ ys[j]? = some y ∧ H' t = some (.tup [x, y])) → Q (.ref p) H'
section
variable {X : Cx} {a b : Expr} {t : TA} {p p2 pos pos2 : Pos}
theorem min_get {α : Type} {xs : List α} {j : Nat} (h : j < xs.length) : xs[j]? = some xs[j] := List.getElem?_eq_getElem h
theorem pe_listZip (hc : X.calm = true) (hg : Gl X "list") (hm : X.mg "list" = none) (hg2 : Gl X "zip") (hm2 : X.mg "zip" = none) (ha : PA X [a, b] t) (hs : starEach [a, b] X.env = (false, eval a X.env) :: starEach [b] X.env) (hpl : (backTo pos2 (starEach [b] X.env)).any (·.1) = false) :
    PE X (.Call (.Name "list" p) [.Call (.Name "zip" p2) [a, b] [] pos2] [] pos) (fun σ H Q => t σ H fun vs H1 => rZipL X.K vs H1 Q) := by
  refine ⟨fun pins s σ H Q I h => ?_⟩
  refine Call_ (ld_blt I hg hm PyProof.Rows.boot_list (PyProof.Rows.callWith_type1 (args_cons (Call_ (ld_blt I hg2 hm2 PyProof.Rows.boot_zip (PyProof.Rows.callWith_type1 (thn (ha.run pos2 pins s σ H _ I h) fun us s1 ⟨vs, H1, I1, r1, q1⟩ => ?_) hs hpl))) rfl) rfl rfl))
  obtain ⟨ta, tb, xs, ys, rfl, h1, h2, q⟩ := q1
  obtain ⟨ua, ub, rfl, ra, rb⟩ := vals2 r1
  cases ra; cases rb
  obtain ⟨its, rx, px, zx⟩ := I1.tuple h1
  obtain ⟨jts, ry, py, zy⟩ := I1.tuple h2
  obtain ⟨oa, ea, _⟩ := id px
  obtain ⟨ob, eb, _⟩ := id py
  have la : ta < s1.heap.objs.size := Heap.lt_size ea
  have lb : tb < s1.heap.objs.size := Heap.lt_size eb
  refine RZ.call_zipT (show s1.heap.IsTuple ta its.toArray from px) (show s1.heap.IsTuple tb jts.toArray from py) fun g z1 z2 z3 z4 z5 z6 z7 => args_nil ?_
  have D : ZipApart (s1.heap.objs.size + 4) (s1.heap.objs.size + 2) (s1.heap.objs.size + 3) s1.heap.objs.size (s1.heap.objs.size + 1) ta tb := by
    constructor <;> (intro e; simp only [Addr] at *; omega)
  have Z : Zip0 g (s1.heap.objs.size + 4) (s1.heap.objs.size + 2) (s1.heap.objs.size + 3) s1.heap.objs.size (s1.heap.objs.size + 1) ta tb its.toArray jts.toArray := ⟨D, z1, z2, z3, z4, z5, IsTuple.kept px z7, IsTuple.kept py z7⟩
  have sx : its.toArray.size = xs.length := by rw [List.size_toArray, rx.length]
  have sy : jts.toArray.size = ys.length := by rw [List.size_toArray, ry.length]
  refine call_listZip (s := { s1 with heap := g }) (I1.ok.hd hc) Z (by rw [sx]; exact Nat.le_trans (Nat.min_le_left _ _) zx) fun h' as c el nd P hS k => ?_
  rw [sx, sy] at el
  have low : ∀ t' ∈ as, g.objs.size + 1 ≤ t' := fun t' ht => by
    obtain ⟨j, hj⟩ := List.getElem?_of_mem ht
    exact (P j t' hj).1
  have kk : ∀ b o, s1.heap.get? b = some o → h'.get? b = some o := fun b o e => by
    have hb := Heap.lt_size e
    have ne : ∀ n, s1.heap.objs.size ≤ n → b ≠ n := fun n hn => Nat.ne_of_lt (Nat.lt_of_lt_of_le hb hn)
    exact k b o (ne _ (by show _ ≤ g.objs.size; rw [z6]; exact Nat.le_add_right _ _)) (ne _ (Nat.le_add_right _ _)) (ne _ (Nat.le_add_right _ _)) (ne _ (Nat.le_refl _)) (ne _ (Nat.le_add_right _ _)) (Heap.get?_push_of_some _ (z7 b o e))
  have hpn : g.objs.size ∉ as := fun hm => Nat.lt_irrefl _ (low _ hm)
  have ge : s1.heap.objs.size ≤ g.objs.size := by rw [z6]; omega
  have fr : ∀ t' ∈ as, H1 t' = none := fun t' ht => I1.hok.fresh (Nat.le_trans ge (Nat.le_trans (Nat.le_succ _) (low t' ht)))
  have frp : H1 g.objs.size = none := I1.hok.fresh ge
  let ps := xs.zip ys
  let H' := putP (upd H1 g.objs.size (.lst (as.map V.ref))) as ps
  have off : ∀ b, b ∉ as → b ≠ g.objs.size → H' b = H1 b := fun b n1 n2 => (putP_off as ps _ n1).trans (upd_ne n2)
  have kp : ∀ b u, H1 b = some u → H' b = some u := fun b u e => by
    rw [off b (fun z => by rw [fr b z] at e; cases e) (fun z => by rw [z, frp] at e; cases e)]
    exact e
  have atS : H' g.objs.size = some (.lst (as.map V.ref)) := (putP_off as ps _ hpn).trans upd_same
  have atP : ∀ (j : Nat) (t' : Addr), as[j]? = some t' → ∃ x y, xs[j]? = some x ∧ ys[j]? = some y ∧ H' t' = some (.tup [x, y]) := fun j t' hj => by
    have hl := (List.getElem?_eq_some_iff.mp hj).1
    have h3 : j < xs.length := by omega
    have h4 : j < ys.length := by omega
    refine ⟨xs[j], ys[j], min_get h3, min_get h4, ?_⟩
    exact putP_at as ps _ j t' (xs[j], ys[j]) nd hj (by rw [List.getElem?_zip_eq_some]; exact ⟨min_get h3, min_get h4⟩)
  have hob : ∀ b u, s1.heap.objs.size ≤ b → H' b = some u → ObjOk X.prog X.w H' h' b u := fun b u hb e => by
    by_cases hb2 : b = g.objs.size
    · subst hb2
      rw [atS] at e; cases e
      refine ⟨by rw [List.length_map]; omega, as.map Value.ref, c, refs as, hS⟩
    · by_cases hb3 : b ∈ as
      · obtain ⟨j, hj⟩ := List.getElem?_of_mem hb3
        obtain ⟨x, y, e1, e2, e3⟩ := atP j b hj
        rw [e3] at e; cases e
        obtain ⟨_, u, v, f1, f2, f3⟩ := P j b hj
        obtain ⟨u', g1, g2⟩ := Vals.get rx e1
        obtain ⟨v', g3, g4⟩ := Vals.get ry e2
        have : u = u' := by have := f1; simp at this; rw [g1] at this; exact (Option.some.inj this).symm
        subst this
        have : v = v' := by have := f2; simp at this; rw [g3] at this; exact (Option.some.inj this).symm
        subst this
        exact ⟨by show 2 ≤ sizeLine; decide, [u, v], .cons g2 (.cons g4 .nil), ⟨_, f3, rfl, _, rfl⟩⟩
      · rw [off b hb3 hb2, I1.hok.fresh hb] at e; cases e
  have J : Inv X pins σ H' { s1 with heap := h', toks := s1.toks } := by
    refine Inv.many (s := s1) I1 kk kp (fun b hb => off b (fun z => Nat.lt_irrefl _ (Nat.lt_of_lt_of_le hb (Nat.le_trans ge (Nat.le_trans (Nat.le_succ _) (low b z))))) (Nat.ne_of_lt (Nat.lt_of_lt_of_le hb ge))) (fun b u hb e => ?_)
    exact hob b u hb e
  exact ⟨.ref g.objs.size, H', J, rfl, q H' _ as kp frp fr hpn atS el atP⟩
where
  refs : ∀ as : List Addr, Vals (as.map V.ref) (as.map Value.ref)
    | [] => .nil
    | _ :: as => .cons rfl (refs as)
end
end Ev
set_option Elab.async false
set_option linter.all false
set_option maxRecDepth 100000
set_option maxHeartbeats 4000000
/-! E14g: min, max, len of an own object, list(zip(..)), targets with a star, in the evaluator. -/
namespace Ev
open PySem PySem.Spec PyProof.Rows L2
/-! ### min, max -/
def fMin (ws : List W) : M W := fun h => match ws with
  | [.d (.int i), .d (.int j)] => .ok (wI (if j < i then j else i)) h
  | [.d (.tuple [.str x, .int i]), .d (.tuple [.str y, .int j])] => if x = y then .ok (if j < i then .d (.tuple [.str y, .int j]) else .d (.tuple [.str x, .int i])) h else .no
  | _ => .no
def fMax (ws : List W) : M W := fun h => match ws with
  | [.d (.int i), .d (.int j)] => .ok (wI (if j > i then j else i)) h
  | [.d (.tuple [.str x, .int i]), .d (.tuple [.str y, .int j])] => if x = y then .ok (if i < j then .d (.tuple [.str y, .int j]) else .d (.tuple [.str x, .int i])) h else .no
  | _ => .no
section
variable {X : Cx} {G : GA} (hK : X.K = G.K)
include hK
theorem tup2 {c : Cf} {v : V} {x : Str} {i : Int} (h : RW G c v (.d (.tuple [.str x, .int i]))) : ∃ a, v = .ref a ∧ SqT X.K c.H a [.str x, .int i] := by
  obtain ⟨a, xs, rfl, h1, r⟩ := rTup h
  cases r with
  | cons r1 r =>
    cases r with
    | cons r2 r =>
      cases r
      cases r1; cases r2
      exact ⟨a, rfl, by rw [hK]; exact h1⟩
theorem min_ok (hc : X.calm = true) (hu : X.A.units + 64 < cLine) : ∃ r, CallR X (.builtin "min") r ∧ CallS G fMin r := by
  refine ⟨_, (call_min2 hc).or (call_min2T hc hu), fun c xs ws Q E k rx h => ?_⟩
  unfold fMin at h
  split at h
  · rename_i i j
    obtain ⟨v, v', rfl, r1, r2⟩ := rwl2 rx
    rw [rInt r1, rInt r2]
    exact .inl ⟨i, j, rfl, h.here k _ (.int _)⟩
  · rename_i x i y j
    obtain ⟨v, v', rfl, r1, r2⟩ := rwl2 rx
    split at h
    · rename_i e
      subst e
      obtain ⟨a, rfl, h1⟩ := tup2 hK r1
      obtain ⟨b, rfl, h2⟩ := tup2 hK r2
      refine .inr ⟨a, b, x, i, j, rfl, h1, h2, ?_⟩
      by_cases q : j < i
      · rw [if_pos q] at h ⊢; exact h.here k _ r2
      · rw [if_neg q] at h ⊢; exact h.here k _ r1
    · exact h.elim
  · exact h.elim
theorem max_ok (hc : X.calm = true) (hu : X.A.units + 64 < cLine) : ∃ r, CallR X (.builtin "max") r ∧ CallS G fMax r := by
  refine ⟨_, (call_max2 hc).or (call_max2T hc hu), fun c xs ws Q E k rx h => ?_⟩
  unfold fMax at h
  split at h
  · rename_i i j
    obtain ⟨v, v', rfl, r1, r2⟩ := rwl2 rx
    rw [rInt r1, rInt r2]
    exact .inl ⟨i, j, rfl, h.here k _ (.int _)⟩
  · rename_i x i y j
    obtain ⟨v, v', rfl, r1, r2⟩ := rwl2 rx
    split at h
    · rename_i e
      subst e
      obtain ⟨a, rfl, h1⟩ := tup2 hK r1
      obtain ⟨b, rfl, h2⟩ := tup2 hK r2
      refine .inr ⟨a, b, x, i, j, rfl, h1, h2, ?_⟩
      by_cases q : i < j
      · rw [if_pos q] at h ⊢; exact h.here k _ r2
      · rw [if_neg q] at h ⊢; exact h.here k _ r1
    · exact h.elim
  · exact h.elim
def bfun2 (x : Str) : Option (List W → M W) := if x == "min" then some fMin else if x == "max" then some fMax else none
theorem bfun2_ok (hc : X.calm = true) (hu : X.A.units + 64 < cLine) {x : Str} {f : List W → M W} (h : bfun2 x = some f) : ∃ id r, bootBuiltins x = some (.builtin id) ∧ CallR X (.builtin id) r ∧ CallS G f r := by
  unfold bfun2 at h
  split at h
  · rename_i e; cases h; rw [eq_of_beq e]
    obtain ⟨r, h1, h2⟩ := min_ok (X := X) hK hc hu; exact ⟨_, r, by decide +kernel, h1, h2⟩
  · split at h
    · rename_i e; cases h; rw [eq_of_beq e]
      obtain ⟨r, h1, h2⟩ := max_ok (X := X) hK hc hu; exact ⟨_, r, by decide +kernel, h1, h2⟩
    · cases h
end
section
variable {T : Tb} {G : GA} {CM : FId → List W → M W} {k : Nat} {sc : Sc} {a b e : Expr} {es : List Expr} {mr : EnvW → M (List W)} {ma : ME} {pos p p2 pos2 : Pos} {x : Str} {f : List W → M W}
theorem se_bfun2 (hg : isGlob sc x = true) (hf : x ∈ T.free) (hb : bfun2 x = some f) (ha : SA T G CM k sc (e :: es) mr) (hs : (e :: es).all noStar = true) : SE T G CM k sc (.Call (.Name x p) (e :: es) [] pos) (eFun f mr) := fun X Wx F => by
  obtain ⟨id, r, h1, h2, h3⟩ := bfun2_ok (X := X) F.K F.calm F.room.units hb
  rw [List.all_cons, Bool.and_eq_true] at hs
  refine PE.imp (pe_callB h2 (F.gl hg) (F.top.free x hf) h1 (ha X Wx F) (glob_ok hg).2.2 (glob_ok hg).2.1 (noStar_each hs.1 es X.env) (noStar_any hs.2 pos X.env)) fun σ H Q ⟨c, env, e, ok, re, q⟩ => ?_
  subst e
  exact tA.step ok re q fun ws c1 vs e1 ok1 re1 rvs q1 => h3 c1 vs ws Q _ ok1 rvs q1
/-! ### list(zip(a, b)) -/
def zipL (ws : List W) : M W := fun h => match ws with
  | [.d (.tuple xs), .d (.tuple ys)] => .ok (.r h.length) (h ++ [.lst (zipD xs ys)])
  | _ => .no
theorem Cf.grow_ext {c : Cf} {H' : Hp} (kp : ∀ b o, c.H b = some o → H' b = some o) : c.ext { c with H := H' } := ⟨fun _ _ h => h, fun b o h l => ⟨kp b o h, l⟩, fun i b o h1 h2 h3 => ⟨kp b o h3, h2⟩, fun i b kvs o h1 h2 h3 => ⟨kp b o h3, h2⟩⟩
theorem Cf.grow_ok {c : Cf} {H' : Hp} (k : c.ok G) (kp : ∀ b o, c.H b = some o → H' b = some o) : ({ c with H := H' } : Cf).ok G := ⟨k.len, k.nd, fun i b o h1 h2 => by
  obtain ⟨u, hu⟩ := k.there h1
  exact (k.obj i b o h1 h2).mono (Cf.grow_ext kp) (by show H' b = c.H b; rw [kp b u hu, hu])⟩
theorem zipL_ok {X : Cx} (hK : X.K = G.K) : CallS G zipL (rZipL X.K) := fun c xs ws Q E k rx h => by
  unfold zipL at h
  split at h
  · rename_i ds es
    obtain ⟨v, v', rfl, r1, r2⟩ := rwl2 rx
    obtain ⟨pa, us, rfl, h1, s1⟩ := rTup r1
    obtain ⟨pb, vs, rfl, h2, s2⟩ := rTup r2
    refine ⟨pa, pb, us, vs, rfl, by rw [hK]; exact h1, by rw [hK]; exact h2, fun H' p as kp hp has hpn atS el atP => ?_⟩
    let H0 : Hp := fun b => if b = p then none else H' b
    have kp0 : ∀ b o, c.H b = some o → H0 b = some o := fun b o e => by
      show (if b = p then none else H' b) = some o
      rw [if_neg (fun z => by rw [z, hp] at e; cases e)]; exact kp b o e
    have eH : upd H0 p (.lst (as.map V.ref)) = H' := by
      funext b
      unfold upd
      by_cases hb : b = p
      · rw [if_pos hb, hb, atS]
      · rw [if_neg hb]; show (if b = p then none else H' b) = _; rw [if_neg hb]
    have ok0 := Cf.grow_ok k kp0
    have ex0 := Cf.grow_ext kp0
    have hp0 : ({ c with H := H0 } : Cf).H p = none := if_pos rfl
    have ex1 := Cf.new_ext (o := .lst (as.map V.ref)) (ao := .lst (zipD ds es)) ok0 hp0
    have exA := ex0.trans ex1
    have items : RWL G (({ c with H := H0 } : Cf).new p (.lst (as.map V.ref)) (.lst (zipD ds es))) (as.map V.ref) (zipD ds es) := by
      have hlen : as.length = (zipD ds es).length := by rw [el, s1.length, s2.length]; simp [zipD]
      refine paired_of (by simpa using hlen) fun j x y e1 e2 => ?_
      rw [List.getElem?_map] at e1
      cases ea : as[j]? with
      | none => rw [ea] at e1; cases e1
      | some t =>
        rw [ea] at e1
        cases e1
        obtain ⟨x', y', g1, g2, g3⟩ := atP j t ea
        obtain ⟨x2, y2, dx, dy, f1, f2, f3, f4, f5⟩ := zipD_at s1 s2 (List.getElem?_eq_some_iff.mp e2).1
        rw [g1] at f1; cases f1
        rw [g2] at f2; cases f2
        rw [e2] at f5; cases f5
        have nl : ¬ (({ c with H := H0 } : Cf).new p (.lst (as.map V.ref)) (.lst (zipD ds es))).live t := fun ⟨i, hi⟩ => by
          have hi : (c.μ ++ [p])[i]? = some t := hi
          have hm : t ∈ as := List.mem_of_getElem? ea
          have := List.mem_of_getElem? hi
          rcases List.mem_append.mp this with q | q
          · obtain ⟨i', hi'⟩ := List.getElem?_of_mem q
            obtain ⟨u, hu⟩ := k.there hi'
            rw [has t hm] at hu; cases hu
          · rw [List.mem_singleton.mp q] at hm; exact hpn hm
        exact .tup nl (.inl (by show upd H0 p _ t = _; rw [eH]; exact g3)) (.cons (Rp.mono exA f3) (.cons (Rp.mono exA f4) .nil))
    have ok1 : (({ c with H := H0 } : Cf).new p (.lst (as.map V.ref)) (.lst (zipD ds es))).ok G := Cf.new_ok ok0 hp0 ⟨_, upd_same, items⟩
    have := h _ exA ok1 rfl (.ref p) ⟨p, rfl, by show (c.μ ++ [p])[c.ah.length]? = some p; rw [← k.len]; simp⟩
    rw [show (({ c with H := H0 } : Cf).new p (.lst (as.map V.ref)) (.lst (zipD ds es))).H = H' from eH] at this
    exact this
  · exact h.elim
where
  paired_of {α β : Type} {R : α → β → Prop} : ∀ {xs : List α} {ys : List β}, xs.length = ys.length → (∀ (j : Nat) (x : α) (y : β), xs[j]? = some x → ys[j]? = some y → R x y) → Paired R xs ys
    | [], [], _, _ => .nil
    | [], _ :: _, h, _ => by simp at h
    | _ :: _, [], h, _ => by simp at h
    | x :: xs, y :: ys, h, f => .cons (f 0 x y rfl rfl) (paired_of (by simpa using h) fun j a b h1 h2 => f (j + 1) a b (by simpa using h1) (by simpa using h2))
theorem se_zipL (hg : isGlob sc "list" = true) (hf : ("list" : Str) ∈ T.free) (hg2 : isGlob sc "zip" = true) (hf2 : ("zip" : Str) ∈ T.free) (ha : SA T G CM k sc [a, b] mr) (hs : noStar a = true) (hs2 : noStar b = true) : SE T G CM k sc (.Call (.Name "list" p) [.Call (.Name "zip" p2) [a, b] [] pos2] [] pos) (eFun zipL mr) := fun X Wx F => by
  refine PE.imp (pe_listZip F.calm (F.gl hg) (F.top.free _ hf) (F.gl hg2) (F.top.free _ hf2) (ha X Wx F) (noStar_each hs [b] X.env) (noStar_any (es := [b]) (by simp [hs2]) pos2 X.env)) fun σ H Q ⟨c, env, e, ok, re, q⟩ => ?_
  subst e
  exact tA.step ok re q fun ws c1 vs e1 ok1 re1 rvs q1 => zipL_ok F.K c1 vs ws Q _ ok1 rvs q1
end
end Ev
set_option Elab.async false
set_option linter.all false
set_option maxRecDepth 100000
set_option maxHeartbeats 4000000
/-! E14i: new objects that come to an end: data of them; that a value made anew may be read as data. -/
namespace Ev
open PySem PySem.Spec PyProof.Rows L2
/-- no object of it is a new one -/
def W.clos (n : Nat) : W → Prop
  | .r i => i < n
  | _ => True
def AO.clos (n : Nat) : AO → Prop
  | .lst ws => ∀ w ∈ ws, w.clos n
  | .dic kvs => ∀ p ∈ kvs, p.2.clos n
  | .ins _ fs => ∀ p ∈ fs, p.2.clos n
  | .tup ws => ∀ w ∈ ws, w.clos n
  | .dead => False
  | .rod kvs => ∀ p ∈ kvs, p.2.clos n
  | .dcn kvs => ∀ p ∈ kvs, p.2.clos n
  | .dcb _ w => w.clos n
def Fine (h0 h1 : AH) : Prop := ∀ (i : Nat) (o : AO), i < h0.length → h1[i]? = some o → h0[i]? = some o ∨ o.clos h0.length
/-! ### that it is decided -/
mutual
def eqD : PyData → PyData → Bool
  | .none, .none => true
  | .bool a, .bool b => decide (a = b)
  | .int a, .int b => decide (a = b)
  | .str a, .str b => decide (a = b)
  | .list a, .list b => eqDs a b
  | .tuple a, .tuple b => eqDs a b
  | .dict a, .dict b => eqKv a b
  | _, _ => false
def eqDs : List PyData → List PyData → Bool
  | [], [] => true
  | a :: r, b :: s => eqD a b && eqDs r s
  | _, _ => false
def eqKv : List (PyData × PyData) → List (PyData × PyData) → Bool
  | [], [] => true
  | (a, c) :: r, (b, d) :: s => (eqD a b && eqD c d) && eqKv r s
  | _, _ => false
end
mutual
theorem eqD_ok : ∀ {a b : PyData}, eqD a b = true → a = b
  | a, b, h => by
    unfold eqD at h
    split at h
    · rfl
    · rw [of_decide_eq_true h]
    · rw [of_decide_eq_true h]
    · rw [of_decide_eq_true h]
    · rw [eqDs_ok h]
    · rw [eqDs_ok h]
    · rw [eqKv_ok h]
    · cases h
theorem eqDs_ok : ∀ {a b : List PyData}, eqDs a b = true → a = b
  | [], [], _ => rfl
  | [], _ :: _, h => by unfold eqDs at h; cases h
  | _ :: _, [], h => by unfold eqDs at h; cases h
  | a :: r, b :: s, h => by
    unfold eqDs at h
    obtain ⟨h1, h2⟩ := Bool.and_eq_true_iff.mp h
    rw [eqD_ok h1, eqDs_ok h2]
theorem eqKv_ok : ∀ {a b : List (PyData × PyData)}, eqKv a b = true → a = b
  | [], [], _ => rfl
  | [], _ :: _, h => by unfold eqKv at h; cases h
  | _ :: _, [], h => by unfold eqKv at h; cases h
  | (a, c) :: r, (b, d) :: s, h => by
    unfold eqKv at h
    obtain ⟨h1, h2⟩ := Bool.and_eq_true_iff.mp h
    obtain ⟨h0, h1⟩ := Bool.and_eq_true_iff.mp h1
    rw [eqD_ok h0, eqD_ok h1, eqKv_ok h2]
end
mutual
theorem eqD_rfl : ∀ a : PyData, eqD a a = true
  | .none => by simp [eqD]
  | .bool a => by simp [eqD]
  | .int a => by simp [eqD]
  | .str a => by simp [eqD]
  | .list a => by simp only [eqD]; exact eqDs_rfl a
  | .tuple a => by simp only [eqD]; exact eqDs_rfl a
  | .dict a => by simp only [eqD]; exact eqKv_rfl a
theorem eqDs_rfl : ∀ a : List PyData, eqDs a a = true
  | [] => by simp [eqDs]
  | a :: r => by simp only [eqDs, eqD_rfl a, eqDs_rfl r, Bool.and_self]
theorem eqKv_rfl : ∀ a : List (PyData × PyData), eqKv a a = true
  | [] => by simp [eqKv]
  | (a, c) :: r => by simp only [eqKv, eqD_rfl a, eqD_rfl c, eqKv_rfl r, Bool.and_self]
end
def eqW : W → W → Bool
  | .d a, .d b => eqD a b
  | .r i, .r j => decide (i = j)
  | .fn a, .fn b => decide (a = b)
  | .ex a, .ex b => decide (a = b)
  | _, _ => false
theorem eqW_ok {a b : W} (h : eqW a b = true) : a = b := by
  unfold eqW at h
  split at h
  · rw [eqD_ok h]
  · rw [of_decide_eq_true h]
  · rw [of_decide_eq_true h]
  · rw [of_decide_eq_true h]
  · cases h
theorem eqW_rfl (a : W) : eqW a a = true := by cases a <;> simp [eqW, eqD_rfl]
def eqL {α : Type} (f : α → α → Bool) : List α → List α → Bool
  | [], [] => true
  | a :: r, b :: s => f a b && eqL f r s
  | _, _ => false
theorem eqL_ok {α : Type} {f : α → α → Bool} (hf : ∀ a b, f a b = true → a = b) : ∀ {a b : List α}, eqL f a b = true → a = b
  | [], [], _ => rfl
  | [], _ :: _, h => by cases h
  | _ :: _, [], h => by cases h
  | a :: r, b :: s, h => by
    obtain ⟨h1, h2⟩ := Bool.and_eq_true_iff.mp (show (f a b && eqL f r s) = true from h)
    rw [hf a b h1, eqL_ok hf h2]
theorem eqL_rfl {α : Type} {f : α → α → Bool} (hf : ∀ a, f a a = true) : ∀ a : List α, eqL f a a = true
  | [] => rfl
  | a :: r => by show (f a a && eqL f r r) = true; rw [hf a, eqL_rfl hf r]; rfl
def eqAO : AO → AO → Bool
  | .lst a, .lst b => eqL eqW a b
  | .dic a, .dic b => eqL (fun p q => eqD p.1 q.1 && eqW p.2 q.2) a b
  | .ins c a, .ins d b => decide (c = d) && eqL (fun p q => decide (p.1 = q.1) && eqW p.2 q.2) a b
  | .tup a, .tup b => eqL eqW a b
  | .dead, .dead => true
  | .rod a, .rod b => eqL (fun p q => eqD p.1 q.1 && eqW p.2 q.2) a b
  | .dcn a, .dcn b => eqL (fun p q => eqD p.1 q.1 && eqW p.2 q.2) a b
  | .dcb a v, .dcb b w => decide (a = b) && eqW v w
  | _, _ => false
theorem eqAO_ok {a b : AO} (h : eqAO a b = true) : a = b := by
  unfold eqAO at h
  split at h
  · rw [eqL_ok (fun _ _ => eqW_ok) h]
  · rw [eqL_ok (fun p q h => by
      obtain ⟨h1, h2⟩ := Bool.and_eq_true_iff.mp h
      exact Prod.ext (eqD_ok h1) (eqW_ok h2)) h]
  · obtain ⟨h1, h2⟩ := Bool.and_eq_true_iff.mp h
    rw [of_decide_eq_true h1, eqL_ok (fun p q h => by
      obtain ⟨h1, h2⟩ := Bool.and_eq_true_iff.mp h
      exact Prod.ext (of_decide_eq_true h1) (eqW_ok h2)) h2]
  · rw [eqL_ok (fun _ _ => eqW_ok) h]
  · rfl
  · rw [eqL_ok (fun p q h => by
      obtain ⟨h1, h2⟩ := Bool.and_eq_true_iff.mp h
      exact Prod.ext (eqD_ok h1) (eqW_ok h2)) h]
  · rw [eqL_ok (fun p q h => by
      obtain ⟨h1, h2⟩ := Bool.and_eq_true_iff.mp h
      exact Prod.ext (eqD_ok h1) (eqW_ok h2)) h]
  · obtain ⟨h1, h2⟩ := Bool.and_eq_true_iff.mp h
    rw [of_decide_eq_true h1, eqW_ok h2]
  · cases h
theorem eqAO_rfl (a : AO) : eqAO a a = true := by
  cases a with
  | lst ws => exact eqL_rfl eqW_rfl ws
  | dic ws => exact eqL_rfl (fun p => by simp [eqD_rfl, eqW_rfl]) ws
  | ins c ws => show (decide (c = c) && _) = true; rw [decide_eq_true rfl, Bool.true_and]; exact eqL_rfl (fun p => by simp [eqW_rfl]) ws
  | tup ws => exact eqL_rfl eqW_rfl ws
  | dead => rfl
  | rod ws => exact eqL_rfl (fun p => by simp [eqD_rfl, eqW_rfl]) ws
  | dcn ws => exact eqL_rfl (fun p => by simp [eqD_rfl, eqW_rfl]) ws
  | dcb b w => show (decide (b = b) && eqW w w) = true; rw [decide_eq_true rfl, eqW_rfl]; rfl
def W.closB (n : Nat) : W → Bool
  | .r i => decide (i < n)
  | _ => true
theorem W.closB_iff {n : Nat} {w : W} : w.closB n = true ↔ w.clos n := by cases w <;> simp [W.closB, W.clos]
def AO.closB (n : Nat) : AO → Bool
  | .lst ws => ws.all (W.closB n)
  | .dic kvs => kvs.all fun p => p.2.closB n
  | .ins _ fs => fs.all fun p => p.2.closB n
  | .tup ws => ws.all (W.closB n)
  | .dead => false
  | .rod kvs => kvs.all fun p => p.2.closB n
  | .dcn kvs => kvs.all fun p => p.2.closB n
  | .dcb _ w => w.closB n
theorem AO.closB_iff {n : Nat} {o : AO} : o.closB n = true ↔ o.clos n := by
  cases o <;> simp [AO.closB, AO.clos, W.closB_iff]
def fineGo (n : Nat) : AH → AH → Bool
  | o0 :: r0, o1 :: r1 => (eqAO o0 o1 || o1.closB n) && fineGo n r0 r1
  | _, _ => true
theorem fineGo_iff {n : Nat} : ∀ {h0 h1 : AH}, fineGo n h0 h1 = true ↔ ∀ (i : Nat) (o : AO), i < h0.length → h1[i]? = some o → h0[i]? = some o ∨ o.clos n
  | [], h1 => by simp [fineGo]
  | o0 :: r0, [] => by simp [fineGo]
  | o0 :: r0, o1 :: r1 => by
    rw [show fineGo n (o0 :: r0) (o1 :: r1) = ((eqAO o0 o1 || o1.closB n) && fineGo n r0 r1) from rfl, Bool.and_eq_true_iff, fineGo_iff, Bool.or_eq_true_iff, AO.closB_iff]
    constructor
    · intro ⟨h1, h2⟩ i o hi e
      cases i with
      | zero =>
        cases e
        rcases h1 with h1 | h1
        · left; rw [eqAO_ok h1]; rfl
        · exact .inr h1
      | succ i => exact h2 i o (by simpa using hi) (by simpa using e)
    · intro h
      refine ⟨?_, fun i o hi e => by simpa using h (i + 1) o (by simpa using hi) (by simpa using e)⟩
      rcases h 0 o1 (by simp) rfl with q | q
      · left; cases q; exact eqAO_rfl _
      · exact .inr q
def fineB (h0 h1 : AH) : Bool := fineGo h0.length h0 h1
theorem fineB_iff {h0 h1 : AH} : fineB h0 h1 = true ↔ Fine h0 h1 := fineGo_iff
def frzLw (f : W → Option PyData) : List W → Option (List PyData)
  | [] => some []
  | w :: ws => match f w, frzLw f ws with
    | some d, some ds => some (d :: ds)
    | _, _ => none
def frzDw (f : W → Option PyData) : List (PyData × W) → Option (List (PyData × PyData))
  | [] => some []
  | p :: ws => match f p.2, frzDw f ws with
    | some d, some ds => some ((p.1, d) :: ds)
    | _, _ => none
/-- a new list or dict as data -/
def frz (n : Nat) (h : AH) : Nat → W → Option PyData
  | 0, w => (match w with
    | .d x => some x
    | _ => none)
  | k + 1, w => match w with
    | .d x => some x
    | .r i => if n ≤ i then (match h[i]? with
      | some (.lst ws) => (frzLw (frz n h k) ws).map PyData.list
      | some (.dic kvs) => (frzDw (frz n h k) kvs).map PyData.dict
      | _ => none) else none
    | _ => none
abbrev frzL (n : Nat) (h : AH) (k : Nat) := frzLw (frz n h k)
abbrev frzD (n : Nat) (h : AH) (k : Nat) := frzDw (frz n h k)
def frzW (n : Nat) (h : AH) (w : W) : Option W := match w with
  | .r i => if i < n then some (.r i) else (frz n h 4 (.r i)).map W.d
  | w => some w
def outM (h0 : AH) (w : W) (h1 : AH) : R W := if fineB h0 h1 then (match frzW h0.length h1 w with
  | some w' => .ok w' (h1.take h0.length)
  | none => .ok w h1) else .ok w h1
/-! ### the state cut off -/
def Cf.cut (c : Cf) (n : Nat) : Cf := ⟨c.H, c.μ.take n, c.ah.take n⟩
theorem cut_live {c : Cf} {n : Nat} {a : Addr} (h : (c.cut n).live a) : c.live a := by
  obtain ⟨i, h⟩ := h
  have h : (c.μ.take n)[i]? = some a := h
  rw [List.getElem?_take] at h
  split at h
  · exact ⟨i, h⟩
  · cases h
theorem getE_take {α : Type} {l : List α} {n i : Nat} {x : α} : (l.take n)[i]? = some x ↔ i < n ∧ l[i]? = some x := by
  rw [List.getElem?_take]
  split
  · rename_i h; simp [h]
  · rename_i h; simp [h]
mutual
theorem Rp.cut {K : PySem.W.Frag} {c : Cf} {n : Nat} : ∀ {d : PyData} {v : V}, Rp K c v d → Rp K (c.cut n) v d
  | _, _, .non => .non
  | _, _, .bl b => .bl b
  | _, _, .int i => .int i
  | _, _, .str x => .str x
  | _, _, .lst l h r => .lst (fun q => l (cut_live q)) h (RpL.cut r)
  | _, _, .tup l h r => .tup (fun q => l (cut_live q)) h (RpL.cut r)
  | _, _, .tupK h r => .tupK h (RpL.cut r)
  | _, _, .dic l h r => .dic (fun q => l (cut_live q)) h (RpD.cut r)
theorem RpL.cut {K : PySem.W.Frag} {c : Cf} {n : Nat} : ∀ {ds : List PyData} {vs : List V}, RpL K c vs ds → RpL K (c.cut n) vs ds
  | _, _, .nil => .nil
  | _, _, .cons h r => .cons (Rp.cut h) (RpL.cut r)
theorem RpD.cut {K : PySem.W.Frag} {c : Cf} {n : Nat} : ∀ {ds : List (PyData × PyData)} {vs : List (Key × V)}, RpD K c vs ds → RpD K (c.cut n) vs ds
  | _, _, .nil => .nil
  | _, _, .cons h r => .cons (Rp.cut h) (RpD.cut r)
end
theorem RW.cut {G : GA} {c : Cf} {n : Nat} {v : V} : ∀ {w : W}, w.clos n → RW G c v w → RW G (c.cut n) v w
  | .d _, _, h => Rp.cut h
  | .r i, q, ⟨a, h1, h2⟩ => ⟨a, h1, getE_take.mpr ⟨q, h2⟩⟩
  | .fn _, _, h => h
  | .ex _, _, ⟨a, C, h1, h2, h3, h4⟩ => ⟨a, C, h1, h2, fun q => h3 (cut_live q), h4⟩
theorem Paired.cutP {α β : Type} {R R' : α → β → Prop} : ∀ {xs : List α} {ys : List β}, Paired R xs ys → (∀ x y, y ∈ ys → R x y → R' x y) → Paired R' xs ys
  | _, _, .nil, _ => .nil
  | _, _, .cons h r, f => .cons (f _ _ (List.mem_cons_self ..) h) (Paired.cutP r fun x y m => f x y (List.mem_cons_of_mem _ m))
theorem OR.cut {G : GA} {c : Cf} {n : Nat} {a : Addr} : ∀ {o : AO}, o.clos n → OR G c a o → OR G (c.cut n) a o
  | .lst _, q, ⟨xs, h1, r⟩ => ⟨xs, h1, Paired.cutP r fun x y m h => RW.cut (q y m) h⟩
  | .dic _, q, ⟨xs, h1, r⟩ => ⟨xs, h1, Paired.cutP r fun x y m h => ⟨h.1, RW.cut (q y m) h.2⟩⟩
  | .ins _ _, q, ⟨C, dx, xs, h1, h2, r⟩ => ⟨C, dx, xs, h1, h2, Paired.cutP r fun x y m h => ⟨h.1, RW.cut (q y m) h.2⟩⟩
  | .tup _, q, ⟨xs, h1, r⟩ => ⟨xs, h1, Paired.cutP r fun x y m h => RW.cut (q y m) h⟩
  | .dead, q, _ => q.elim
  | .rod _, q, ⟨xs, od, h1, r⟩ => ⟨xs, od, h1, Paired.cutP r fun x y m h => ⟨h.1, RW.cut (q y m) h.2⟩⟩
  | .dcn _, q, ⟨xs, h1, h2, h3, h4, r⟩ => ⟨xs, h1, h2, h3, h4, Paired.cutP r fun x y m ⟨q1, q2, q3, v, q4, q5⟩ => ⟨q1, q2, Rp.cut q3, v, q4, RW.cut (q y m) q5⟩⟩
  | .dcb _ _, q, ⟨o, u, v, h1, h2, h3, h4, r⟩ => ⟨o, u, v, h1, h2, h3, h4, RW.cut q r⟩
/-- what a state's object holds is of the state -/
theorem RW.in_ {G : GA} {c : Cf} (k : c.ok G) {v : V} : ∀ {w : W}, RW G c v w → w.clos c.ah.length
  | .d _, _ => trivial
  | .r i, ⟨a, h1, h2⟩ => by
    show i < c.ah.length
    rw [← k.len]; exact (List.getElem?_eq_some_iff.mp h2).1
  | .fn _, _ => trivial
  | .ex _, _ => trivial
theorem Paired.in_ {α β : Type} {R : α → β → Prop} {P : β → Prop} : ∀ {xs : List α} {ys : List β}, Paired R xs ys → (∀ x y, R x y → P y) → ∀ y ∈ ys, P y
  | _, _, .nil, _, y, m => by cases m
  | _, _, .cons h r, f, y, m => by
    cases m with
    | head => exact f _ _ h
    | tail _ m => exact Paired.in_ r f y m
theorem OR.in_ {G : GA} {c : Cf} (k : c.ok G) {a : Addr} : ∀ {o : AO}, OR G c a o → o = .dead ∨ o.clos c.ah.length
  | .lst _, ⟨xs, h1, r⟩ => .inr (Paired.in_ r fun x y h => RW.in_ k h)
  | .dic _, ⟨xs, h1, r⟩ => .inr (Paired.in_ r fun x y h => RW.in_ k h.2)
  | .ins _ _, ⟨C, dx, xs, h1, h2, r⟩ => .inr (Paired.in_ r fun x y h => RW.in_ k h.2)
  | .tup _, ⟨xs, h1, r⟩ => .inr (Paired.in_ r fun x y h => RW.in_ k h)
  | .dead, _ => .inl rfl
  | .rod _, ⟨xs, od, h1, r⟩ => .inr (Paired.in_ r fun x y h => RW.in_ k h.2)
  | .dcn _, ⟨xs, h1, h2, h3, h4, r⟩ => .inr (Paired.in_ r fun x y ⟨q1, q2, q3, v, q4, q5⟩ => RW.in_ k q5)
  | .dcb _ _, ⟨o, u, v, h1, h2, h3, h4, r⟩ => .inr (RW.in_ k r)
theorem cut_ok {G : GA} {c c1 : Cf} (k : c.ok G) (e : c.ext c1) (k1 : c1.ok G) (f : Fine c.ah c1.ah) : c.ext (c1.cut c.ah.length) ∧ (c1.cut c.ah.length).ok G := by
  refine ⟨⟨fun i a h => ?_, fun a o h l => ?_, fun i a o h1 h2 h3 => ?_, fun i a kvs o h1 h2 h3 => ⟨(e.rod i a kvs o h1 h2 h3).1, getE_take.mpr ⟨(List.getElem?_eq_some_iff.mp h2).1, (e.rod i a kvs o h1 h2 h3).2⟩⟩⟩, ⟨?_, ?_, fun i a o h1 h2 => ?_⟩⟩
  · exact getE_take.mpr ⟨by rw [← k.len]; exact (List.getElem?_eq_some_iff.mp h).1, e.pre i a h⟩
  · exact ⟨(e.keep a o h l).1, fun q => (e.keep a o h l).2 (cut_live q)⟩
  · exact ⟨(e.dead i a o h1 h2 h3).1, getE_take.mpr ⟨(List.getElem?_eq_some_iff.mp h2).1, (e.dead i a o h1 h2 h3).2⟩⟩
  · show (c1.μ.take _).length = (c1.ah.take _).length
    rw [List.length_take, List.length_take, k1.len]
  · exact List.Sublist.nodup (List.take_sublist _ _) k1.nd
  · obtain ⟨hi, h1⟩ := getE_take.mp h1
    obtain ⟨_, h2⟩ := getE_take.mp h2
    have q := k1.obj i a o h1 h2
    rcases f i o hi h2 with h0 | h0
    · obtain ⟨a0, m0, o0⟩ := k.at h0
      rcases OR.in_ k o0 with rfl | hc
      · obtain ⟨u, hu⟩ := q
        exact ⟨u, hu⟩
      · exact OR.cut hc q
    · exact OR.cut h0 q
theorem frzLw_ok {G : GA} {c : Cf} {n : Nat} {f : W → Option PyData} (hf : ∀ (w : W) (d : PyData) (v : V), f w = some d → RW G c v w → Rp G.K (c.cut n) v d) : ∀ (ws : List W) (ds : List PyData) (vs : List V), frzLw f ws = some ds → RWL G c vs ws → RpL G.K (c.cut n) vs ds
  | [], ds, vs, h, r => by
    cases r
    cases h; exact .nil
  | w :: ws, ds, vs, h, r => by
    cases r with
    | cons r1 r2 =>
      unfold frzLw at h
      split at h
      · rename_i d ds' e1 e2
        cases h
        exact .cons (hf w d _ e1 r1) (frzLw_ok hf ws ds' _ e2 r2)
      · cases h
theorem frzDw_ok {G : GA} {c : Cf} {n : Nat} {f : W → Option PyData} (hf : ∀ (w : W) (d : PyData) (v : V), f w = some d → RW G c v w → Rp G.K (c.cut n) v d) : ∀ (ws : List (PyData × W)) (ds : List (PyData × PyData)) (vs : List (Key × V)), frzDw f ws = some ds → Paired (fun (p : Key × V) (q : PyData × W) => q.1 = keyD p.1 ∧ RW G c p.2 q.2) vs ws → RpD G.K (c.cut n) vs ds
  | [], ds, vs, h, r => by
    cases r
    cases h; exact .nil
  | w :: ws, ds, vs, h, r => by
    cases r with
    | @cons x y xs ys r1 r2 =>
      unfold frzDw at h
      split at h
      · rename_i d ds' e1 e2
        cases h
        obtain ⟨kk, v⟩ := x
        rw [show w.1 = keyD kk from r1.1]
        exact .cons (hf w.2 d _ e1 r1.2) (frzDw_ok hf ws ds' _ e2 r2)
      · cases h
theorem frz_ok {G : GA} {c : Cf} (ok : c.ok G) {n : Nat} : ∀ (k : Nat) (w : W) (d : PyData) (v : V), frz n c.ah k w = some d → RW G c v w → Rp G.K (c.cut n) v d
  | 0, w, d, v, h, r => by
    unfold frz at h
    split at h
    · cases h; exact Rp.cut r
    · cases h
  | k + 1, w, d, v, h, r => by
    unfold frz at h
    split at h
    · cases h; exact Rp.cut r
    · rename_i i
      obtain ⟨a, rfl, hm⟩ := r
      split at h
      · rename_i hn
        have nl : ¬ (c.cut n).live a := fun ⟨j, q⟩ => by
          obtain ⟨hj, q⟩ := getE_take.mp q
          have := ok.inj hm q
          omega
        split at h
        · rename_i ws hw
          obtain ⟨xs, h1, r1⟩ := ok.obj i a _ hm hw
          cases q : frzLw (frz n c.ah k) ws with
          | none => rw [q] at h; cases h
          | some ds =>
            rw [q] at h; cases h
            exact .lst nl (.inl h1) (frzLw_ok (frz_ok ok k) ws ds xs q r1)
        · rename_i ws hw
          obtain ⟨xs, h1, r1⟩ := ok.obj i a _ hm hw
          cases q : frzDw (frz n c.ah k) ws with
          | none => rw [q] at h; cases h
          | some ds =>
            rw [q] at h; cases h
            exact .dic nl (.inl h1) (frzDw_ok (frz_ok ok k) ws ds xs q r1)
        · cases h
      · cases h
    · cases h
theorem frzW_ok {G : GA} {c : Cf} (ok : c.ok G) {n : Nat} {w w' : W} {v : V} (h : frzW n c.ah w = some w') (r : RW G c v w) : RW G (c.cut n) v w' := by
  unfold frzW at h
  split at h
  · split at h
    · rename_i hi; cases h; exact RW.cut (w := .r _) hi r
    · rename_i i hi
      cases q : frz n c.ah 4 (.r i) with
      | none => rw [q] at h; cases h
      | some d => rw [q] at h; cases h; exact frz_ok ok 4 _ d v q r
  · cases h
    rename_i hne
    cases w with
    | r i => exact absurd rfl (hne i)
    | d x => exact RW.cut (w := .d x) trivial r
    | fn x => exact RW.cut (w := .fn x) trivial r
    | ex x => exact RW.cut (w := .ex x) trivial r
/-- what is wanted of the call is wanted of its body -/
theorem po_out {G : GA} {c c1 : Cf} {w : W} {v : V} {Q : V → Hp → Prop} {E : Str → Cf → Prop} (k : c.ok G) (e : c.ext c1) (k1 : c1.ok G) (h : Po G (outM c.ah w c1.ah) c (fun w c' => ∀ v, RW G c' v w → Q v c'.H) E) (r : RW G c1 v w) : Q v c1.H := by
  unfold outM at h
  split at h
  · rename_i hf
    split at h
    · rename_i w' hw
      obtain ⟨e2, k2⟩ := cut_ok k e k1 (fineB_iff.mp hf)
      exact h _ e2 k2 rfl v (frzW_ok k1 hw r)
    · exact h c1 e k1 rfl v r
  · exact h c1 e k1 rfl v r

/-! ### a value frozen as soon as it is made -/
def eOut (m : ME) : ME := fun env h => match m env h with
  | .ok w h1 => outM h w h1
  | r => r
theorem se_out {T : Tb} {G : GA} {CM : FId → List W → M W} {k : Nat} {sc : Sc} {e : Expr} {m : ME} (he : SE T G CM k sc e m) : SE T G CM k sc e (eOut m) := fun X Wx F => by
  refine PE.imp (he X Wx F) fun σ H Q ⟨c, env, e, ok, re, q⟩ => ⟨c, env, e, ok, re, ?_⟩
  unfold eOut at q
  cases r : m env c.ah with
  | no => rw [r] at q; exact q
  | ex x h' => rw [r] at q; exact q
  | ok w h1 =>
    rw [r] at q
    intro c1 e1 k1 q1
    subst q1
    exact fun v rv => po_out ok e1 k1 q rv
/-! ### targets with a star -/
def tgAll : List Tg → List W → EnvW → Option EnvW
  | [], [], env => some env
  | t :: ts, w :: ws, env => match tgM t w env with
    | some e => tgAll ts ws e
    | none => none
  | _, _, _ => none
def listW (h : AH) : W → Option (List W)
  | .d (.list ds) => some (ds.map .d)
  | .r i => (match h[i]? with
    | some (.lst ws) => some ws
    | _ => none)
  | _ => none
def sStar (i : Nat) (ts : List Tg) (m : ME) : MS := fun env => mbind (m env) fun w h => match listW h w with
  | some ws => if i < ts.length ∧ ts.length ≤ ws.length + 1 then (match tgAll ts (ws.take i ++ [.r h.length] ++ ws.drop (ws.length + 1 - ts.length + i)) env with
    | some e => .ok (.nx e) (h ++ [.lst ((ws.drop i).take (ws.length + 1 - ts.length))])
    | none => .no) else .no
  | none => .no
def starTgs (sc : Sc) : List Expr → Option (List Tg)
  | [] => some []
  | .Starred (.Name x p) _ :: es => (match slotS sc x, starTgs sc es with
    | some i, some ts => some (.n i :: ts)
    | _, _ => none)
  | e :: es => (match tgOf sc e, starTgs sc es with
    | some t, some ts => some (t :: ts)
    | _, _ => none)
def isStar : Expr → Bool
  | .Starred .. => true
  | _ => false
def gTgs (K : PySem.W.Frag) : List Tg → TGs
  | [] => gNil
  | t :: ts => gCons (gTg K t) (gTgs K ts)
section
variable {T : Tb} {G : GA} {CM : FId → List W → M W} {k : Nat} {sc : Sc} {X : Cx} {Wx : WX}
theorem starTgs_ok (F : Fits T G CM k X sc Wx) : ∀ {es : List Expr} {ts : List Tg}, starTgs sc es = some ts → PGs X es (gTgs X.K ts) ∧ (assignEach es X.env).length = ts.length ∧ (assignEach es X.env).findIdx? (·.1) = es.findIdx? isStar
  | [], ts, h => by
    cases h
    exact ⟨pgs_nil, rfl, rfl⟩
  | e :: es, ts, h => by
    unfold starTgs at h
    split at h
    · rename_i h0; cases h0
    · rename_i x p p2 es' h0
      cases h0
      split at h
      · rename_i i ts' h1 h2
        cases h
        obtain ⟨a1, a2, a3⟩ := starTgs_ok F h2
        refine ⟨pgs_star (pg_slot F h1) a1, by show (assignEach es X.env).length + 1 = ts'.length + 1; rw [a2], ?_⟩
        show List.findIdx? (·.1) ((true, _) :: assignEach es X.env) = _
        rw [List.findIdx?_cons, List.findIdx?_cons]
        rfl
      · cases h
    · rename_i e' es' hne h0
      cases h0
      split at h
      · rename_i t ts' h1 h2
        cases h
        obtain ⟨a1, a2, a3⟩ := starTgs_ok F h2
        have hs : isStar e = false ∧ assignEach (e :: es) X.env = (false, assign e X.env) :: assignEach es X.env := by
          cases e <;> first | exact ⟨rfl, rfl⟩ | (cases h1; done)
        refine ⟨pgs_cons (pg_tg F h1) a1 (by rw [hs.2]; rfl), by rw [hs.2]; show (assignEach es X.env).length + 1 = ts'.length + 1; rw [a2], ?_⟩
        rw [hs.2, List.findIdx?_cons, List.findIdx?_cons, hs.1, a3]

      · cases h
theorem gTgs_ok {K : PySem.W.Frag} (hK : K = G.K) {c : Cf} : ∀ {ts : List Tg} {ws : List W} {vs : List V} {env env2 : EnvW} {σ : L2.St} {Q : L2.St → Hp → Prop}, tgAll ts ws env = some env2 → EnvR G c env σ → RWL G c vs ws → (∀ σ2, EnvR G c env2 σ2 → Q σ2 c.H) → gTgs K ts vs σ c.H Q
  | [], [], _, env, env2, σ, Q, h, re, .nil, q => by
    cases h
    exact ⟨rfl, q σ re⟩
  | [], _ :: _, _, _, _, _, _, h, _, _, _ => by cases h
  | _ :: _, [], _, _, _, _, _, h, _, _, _ => by cases h
  | t :: ts, w :: ws, _, env, env2, σ, Q, h, re, .cons r1 r2, q => by
    unfold tgAll at h
    split at h
    · rename_i e he
      exact ⟨_, _, rfl, gTg_ok (c := c) hK (vs := t.slots) he re r1 (fun _ h => h) fun σ2 re2 _ => gTgs_ok hK h re2 r2 q⟩
    · cases h
theorem listW_ok {c : Cf} {w : W} {ws : List W} {v : V} (ok : c.ok G) (h : listW c.ah w = some ws) (r : RW G c v w) : ∃ a xs, v = .ref a ∧ SqL G.K c.H a xs ∧ RWL G c xs ws := by
  unfold listW at h
  split at h
  · cases h
    obtain ⟨a, xs, rfl, h1, r1⟩ := rLst r
    exact ⟨a, xs, rfl, h1, rpl_rwl r1⟩
  · split at h
    · rename_i ws' e
      cases h
      obtain ⟨a, rfl, h1, xs, hx, rx⟩ := rRef ok r e
      exact ⟨a, xs, rfl, .inl (.inl hx), rx⟩
    · cases h
  · cases h
theorem ss_star {tes : List Expr} {kk i : Nat} {ts : List Tg} {e : Expr} {ma : ME} {p pos : Pos} (ht : starTgs sc tes = some ts) (hi : tes.findIdx? isStar = some i) (he : SE T G CM k sc e ma) (hn : noTup e = true) : SS T G CM k sc (.Assign [.Tuple tes kk p] e pos) (sStar i ts ma) := fun X Ex F hp hs hfr => by
  have hne : ∀ env : Env, swappedStores [.Tuple tes kk p] e env = pure none := fun env => by
    cases e <;> first | rfl | cases hn
  obtain ⟨a1, a2, a3⟩ := starTgs_ok F ht
  refine PS.imp (ps_asg (he X _ F) (pg_star F.calm a1 a2 (a3.trans hi)) (by rw [swSole]; exact swT _ _ _ _ _ _) (hne _)) fun D σ H ⟨c, env, e, ok, re, q⟩ => ?_
  subst e
  refine tE.step ok re q fun w c1 v e1 ok1 re1 rv q1 => ?_
  split at q1
  · rename_i ws hw
    obtain ⟨a, xs, rfl, h1, r1⟩ := listW_ok ok1 hw rv
    have hl : xs.length = ws.length := Paired.length r1
    split at q1
    · rename_i hc
      split at q1
      · rename_i env2 hg
        refine ⟨a, xs, rfl, by rw [F.K]; exact h1, hc.1, by rw [hl]; exact hc.2, fun p hp0 => ?_⟩
        rw [hl]
        have rm : RWL G c1 ((xs.drop i).take (ws.length + 1 - ts.length)) ((ws.drop i).take (ws.length + 1 - ts.length)) := Paired.takeP _ (Paired.dropP _ r1)
        have ex := Cf.new_ext (o := .lst ((xs.drop i).take (ws.length + 1 - ts.length))) (ao := .lst ((ws.drop i).take (ws.length + 1 - ts.length))) ok1 hp0
        have ok2 : (c1.new p (.lst ((xs.drop i).take (ws.length + 1 - ts.length))) (.lst ((ws.drop i).take (ws.length + 1 - ts.length)))).ok G := Cf.new_ok ok1 hp0 ⟨_, upd_same, RWL.mono ex rm⟩
        have rp : RW G (c1.new p (.lst ((xs.drop i).take (ws.length + 1 - ts.length))) (.lst ((ws.drop i).take (ws.length + 1 - ts.length)))) (.ref p) (.r c1.ah.length) := ⟨p, rfl, by show (c1.μ ++ [p])[c1.ah.length]? = some p; rw [← ok1.len]; simp⟩
        refine gTgs_ok (c := c1.new p (.lst ((xs.drop i).take (ws.length + 1 - ts.length))) (.lst ((ws.drop i).take (ws.length + 1 - ts.length)))) F.K hg (re1.mono ex) (RWL.append (RWL.append (RWL.mono ex (Paired.takeP i r1)) (.cons rp .nil)) (RWL.mono ex (Paired.dropP _ r1))) fun σ2 re2 => ?_
        exact q1 _ ex ok2 rfl σ2 re2
      · exact q1.elim
    · exact q1.elim
  · exact q1.elim
/-! ### len of an own object -/
def kLen (T : Tb) (CM : FId → List W → M W) (w : W) : M W := fun h => match w with
  | .r i => (match h[i]? with
    | some (.ins c fs) => if T.meths.contains (c, "__len__") && !T.nopos.contains (c, "__len__") then (match CM (c, "__len__") [.r i] h with
      | .ok (.d (.int n)) h' => if 0 ≤ n ∧ n < 2 ^ 63 then .ok (wI n) h' else .no
      | .ex e h' => .ex e h'
      | _ => .no) else .no
    | some (.dcn xs) => .ok (wI xs.length) h
    | _ => fLen [.r i] h)
  | w => fLen [w] h
def eLen (T : Tb) (CM : FId → List W → M W) (a : ME) : ME := fun env => mbind (a env) (kLen T CM)
theorem own_len {pins : List (Addr × Obj)} {σ : L2.St} {H : Hp} {s : Shared} {a C dx f : Addr} {fs : List (Str × V)} {Q : Value → Shared → Prop} (I : Inv X pins σ H s) (e : H a = some (.ins C dx fs)) (hm : Meth X.K C "__len__" f)
    (h : wpAny (model X.prog X.w) X.A.in1 (call (.ref f) [.ref a]) (PySem.W.LenBack Q) X.xe s) : wpAny (model X.prog X.w) X.A (call (.builtin "len") [.ref a]) Q X.xe s := by
  obtain ⟨mA, O, _⟩ := ins_get I.hok e
  obtain ⟨od, J, _⟩ := O.look
  refine Calls.call_function_entry kind_len plain_len entry_len (args_len1 _) ?_
  unfold Builtin.«len»
  refine wpAny_bind (m := oneArg "len" _) (wpAny_pure (wpAny_bind (m := callSpecial? (.ref a) (Str.ofString "__len__")) (PySem.W.special_fn I.kIn J hm.at_ (beq_iff_eq.mp hm.fn) (wpAny_mono h (fun r s' hr => ?_) fun _ _ y => y))))
  cases r <;> first | exact hr.elim | skip
  obtain ⟨⟨h0, h1⟩, hq⟩ := hr
  refine wpAny_bind (wpAny_holding (wpAny_pure (wpAny_bind (wpAny_letGo ?_))))
  rename_i n u
  show wpAny _ _ (if n < 0 then _ else (if n ≥ 2 ^ 63 then _ else _)) _ _ _
  rw [if_neg (by omega), if_neg (by omega)]
  exact wpAny_bind (wpAny_mkInt (wpAny_pure ⟨_, rfl, hq⟩))
/-- the def's call within the built-in function -/
theorem call_in1 {X : Cx} {Wx : WX} (F : Fits T G CM k X sc Wx) {f : FId} {fa : Addr} (hf : G.fa f = some fa) (hnp : T.nopos.contains f = false) {pins : List (Addr × Obj)} {s : Shared} {σ : L2.St} {c : Cf} {vs : List V} {ws : List W} {us : List Value} {Q : VK} (I : Inv X pins σ c.H s) (ok : c.ok G)
    (rv : RWL G c vs ws) (ru : Vals vs us) (q : Po G (CM f ws c.ah) c (VQ G Q) (fun e c' => WEx G Wx e σ c'.H)) : wpAny (model X.prog X.w) X.A.in1 (call (.ref fa) us) (EP X pins σ Q) X.xe s := by
  obtain ⟨fd, ps, hF, hb, hk, hno⟩ := F.top.fn f fa hf
  have hl : ws.length = ps.length := Classical.byContradiction fun hn => by
    rw [hno ws c.ah hn] at q
    exact q.elim
  exact go_call (E := WE Wx σ) hF F.gd F.room.in1 I.env0.in1 (hb.pos hnp) (passAt F.takes σ) I ru ⟨by rw [Paired.length rv]; exact hl, c, ws, rfl, ok, rv, q⟩
theorem len_sem {X : Cx} {Wx : WX} (F : Fits T G CM k X sc Wx) {pins : List (Addr × Obj)} {s : Shared} {σ : L2.St} {c : Cf} {v : V} {w : W} {u : Value} {Q : VK} (I : Inv X pins σ c.H s) (ok : c.ok G) (rv : RW G c v w) (ru : RelV v u)
    (q : Po G (kLen T CM w c.ah) c (VQ G Q) (fun e c' => WEx G Wx e σ c'.H)) : wpAny (model X.prog X.w) X.A (call (.builtin "len") [u]) (EP X pins σ Q) X.xe s := by
  have plain : Po G (fLen [w] c.ah) c (VQ G Q) (fun e c' => WEx G Wx e σ c'.H) → wpAny (model X.prog X.w) X.A (call (.builtin "len") [u]) (EP X pins σ Q) X.xe s := fun q => by
    obtain ⟨r, h1, h2⟩ := len_ok (X := X) F.K
    exact h1 pins s σ c.H [v] [u] Q I (.cons ru .nil) (h2 c [v] [w] Q _ ok (.cons rv .nil) q)
  unfold kLen at q
  split at q
  · rename_i i
    split at q
    · rename_i cn fs e2
      split at q
      · rename_i hm
        obtain ⟨hm, hnp⟩ := Bool.and_eq_true_iff.mp hm
        obtain ⟨p, rfl, h1, C, dx, xs, hx, hC, r2⟩ := rRef ok rv e2
        obtain ⟨Ca, fa, h2, hfa, hM⟩ := F.top.meth cn "__len__" (by simpa using hm)
        rw [hC] at h2; cases h2
        cases ru
        refine own_len I hx hM (wpAny_mono (call_in1 F hfa ((Bool.not_eq_true' _).mp hnp) I ok (vs := [.ref p]) (ws := [.r i]) (Q := fun v' H' => ∃ n : Int, v' = .int n ∧ (0 ≤ n ∧ n < 2 ^ 63) ∧ Q (.int n) H') (.cons rv .nil) (.cons rfl .nil) ?_) (fun u' s' ⟨v', H', I', r', n, e, hn, q'⟩ => ?_) fun _ _ z => z)
        · split at q
          · rename_i n h' e
            rw [e]
            split at q
            · rename_i hn
              intro c' ex ok' e' v' rv'
              exact ⟨n, rInt rv', hn, q c' ex ok' e' _ (.int n)⟩
            · exact q.elim
          · rename_i ee h' e
            rw [e]
            exact q
          · exact q.elim
        · subst e
          obtain ⟨t, rfl⟩ := r'
          exact ⟨hn, .int n, H', I'.tok _, ⟨_, rfl⟩, q'⟩
      · exact q.elim
    · rename_i ws e2
      obtain ⟨p, rfl, h1, xs, hx, g1, g2, g3, r2⟩ := rRef ok rv e2
      refine call_lenN pins s σ c.H [.ref p] [u] Q I (.cons ru .nil) ⟨p, xs, rfl, .inl ⟨by rw [F.wd]; exact hx, g3, by rw [F.K]; exact r2.keys, g1, g2⟩, ?_⟩
      rw [Paired.length r2]
      exact q.here ok _ (.int _)
    · exact plain q
  · exact plain q
theorem se_len {a : Expr} {ma : ME} {p pos : Pos} (hg : isGlob sc "len" = true) (hf : ("len" : Str) ∈ T.free) (ha : SE T G CM k sc a ma) (hs : noStar a = true) : SE T G CM k sc (.Call (.Name "len" p) [a] [] pos) (eLen T CM ma) := fun X Wx F => by
  refine ⟨fun pins s σ H Q I ⟨c, env, e0, ok, re, q⟩ => ?_⟩
  subst e0
  have hA : PA X [a] (tCons (tE G Wx ma) tNil) := pa_cons (ha X Wx F) pa_nil (noStar_each hs [] X.env)
  refine wpAny_Call_Name_kw (ld_blt I (F.gl hg) (F.top.free _ hf) PySem.boot_len ?_ (glob_ok hg).2.2 (glob_ok hg).2.1)
  refine PyProof.Rows.callWith_builtin1 (thn (hA.run pos pins s σ c.H (fun vs H1 => ∃ c1 v w, vs = [v] ∧ c1.H = H1 ∧ c1.ok G ∧ RW G c1 v w ∧ Po G (kLen T CM w c1.ah) c1 (VQ G Q) (fun e c' => WEx G Wx e σ c'.H)) I (tE.step ok re q fun w c1 v e1 ok1 re1 rv q1 => ⟨c1, v, w, rfl, rfl, ok1, rv, q1⟩)) fun us s1 ⟨vs, H1, I1, r1, c1, v, w, e2, e1, ok1, rv, q1⟩ => ?_) (noStar_each hs [] X.env) rfl
  subst e1 e2
  obtain ⟨u, rfl, ru⟩ := vals1 r1
  exact len_sem F I1 ok1 rv ru q1
end
end Ev
set_option Elab.async false
set_option linter.all false
set_option maxRecDepth 100000
set_option maxHeartbeats 4000000
/-! E14j: try around statements; t[::1], t[::-1], xs[::-1]. -/
namespace Ev
open PySem PySem.Spec PyProof.Rows L2
/-! ### try: statements  except x: name = number (the other names are lost when it is caught) -/
def sTryS (cat : Str → Bool) (j : Nat) (v : Int) (m : MS) : MS := fun env h => match m env h with
  | .ok fl h' => .ok fl h'
  | .ex c h' => if cat c then .ok (.nx ((List.replicate env.length none).set j (some (.d (.int v))))) h' else .ex c h'
  | .no => .no
section
variable {T : Tb} {G : GA} {CM : FId → List W → M W} {k : Nat} {sc : Sc} {body : List Stmt} {ms : MS} {pos p1 p3 p5 np pos' p6 : Pos} {x g : Str} {j q0 : Nat} {v : Int}
theorem pss_len {X : Cx} {sts : List Stmt} {t : TS} {n : Nat} (hn : n = X.N.length) (h : PSs X sts t) : PSs X sts (fun D σ H => σ.length = n → t D σ H) := ⟨fun p s σ H D I q => h.run p s σ H D I (q (by rw [hn]; exact I.len))⟩
theorem envr_blank {c : Cf} {σ : L2.St} {n : Nat} {w : W} {u : V} (hn : n = σ.length) (r : RW G c u w) : EnvR G c ((List.replicate n none).set j (some w)) (σ.set j (some u)) := by
  have h0 : EnvR G c (List.replicate n none) σ := ⟨by simp [hn], fun i w q => by
    rw [List.getElem?_replicate] at q
    split at q <;> simp at q⟩
  exact h0.set r
theorem ss_tryS (hg : slotS sc g = some j) (hgl : isGlob sc x = true) (hx : x ∈ T.excs) (hb : SSs T G CM k sc body ms) :
    SS T G CM k sc (.Try body [.ExceptHandler (some (.Name x np)) none [.Assign [.Name g p3] (.Constant (.int v) q0 p6) p5] pos'] [] [] pos) (sTryS (fun c => T.catches c x) j v ms) := fun X Ex F hp hs hfr => by
  obtain ⟨Ca, h1, h2, h3, h4, h5⟩ := F.top.exc x hx
  obtain ⟨g1, g2, g3⟩ := slotS_ok F hg
  have base := ps_try_only (b₀ := .Assign [.Name g p3] (.Constant (.int v) q0 p6) p5) (suite := []) (np := np) (pos := pos) (pos' := pos') (ts := fun _ _ _ D σ H => σ.length = X.N.length → tAsg (tC (.int v)) (gName j) D σ H) (tb := fun W => tS G (fun cls d H => ∀ σ, W cls d σ H) ms) hs hfr.1 ⟨F.gl hgl, (glob_ok hgl).2.1, .inl h2⟩ F.takes
    (fun W pn xe tk po => hb (X.tr pn xe) (fun cls d H => ∀ σ, W cls d σ H) (F.tr (tk.imp fun cls d σ H q => q σ)) po hs hfr)
    (fun a oe cls d pn _ _ => pss_len rfl (pss_one (ps_set (X := X.suite a ((a, oe) :: pn)) F.ndN g1 g2 pe_int rfl g3)))
  refine ⟨fun pins s σ H D I q => base.run pins s σ H D I ?_⟩
  obtain ⟨c, env, e0, ok, re, q⟩ := q
  subst e0
  refine ⟨c, env, rfl, ok, re, ?_⟩
  have hlen : env.length = X.N.length := re.1.trans I.len
  unfold sTryS at q
  cases r : ms env c.ah with
  | no => rw [r] at q; exact q.elim
  | ok fl h' => rw [r] at q; exact q
  | ex cc h' =>
    rw [r] at q
    intro c' ex ok' e' C hC σ'
    obtain ⟨b, hb, hb2⟩ := F.top.catch_ cc C x Ca hC h1 hx
    refine ⟨b, by rw [F.K] at hb ⊢; exact hb, fun hbt a ha hl => ?_, fun hbf => ?_⟩
    · subst hbt
      simp only [← hb2, if_true] at q
      exact q c' ex ok' e' _ (envr_blank (w := .d (.int v)) (u := .int v) (hlen.trans hl.symm) (.int v))
    · subst hbf
      simp only [← hb2, Bool.false_eq_true, if_false] at q
      exact q c' ex ok' e' C hC
end
/-! ### slices by a step -/
section
open HT
variable {prog : Program} {w : World} {A : Around} {E : Value → Shared → Prop} {s : Shared}
theorem adjust_m1 (n : Nat) : Builtin.Slice.sliceAdjust none none (-1) (n : Int) = ((n : Int) - 1, -1) := by
  unfold Builtin.Slice.sliceAdjust; simp
theorem adjust_p1 (n : Nat) : Builtin.Slice.sliceAdjust none none 1 (n : Int) = (0, (n : Int)) := by
  unfold Builtin.Slice.sliceAdjust; simp
theorem places_m1 (n : Nat) : Builtin.Slice.slicePlaces ((n : Int) - 1) (-1) (-1) = n := by
  unfold Builtin.Slice.slicePlaces
  have h1 : ¬ ((-1 : Int) > 0) := by decide
  simp only [h1, if_false]
  rw [show (- -1 : Int) = 1 from by decide, Int.ediv_one]
  split <;> omega
theorem places_p1 (n : Nat) : Builtin.Slice.slicePlaces 0 (n : Int) 1 = n := by
  have := HT.places_gen 0 n
  simpa using this
theorem sliceApplied_st {sl : Addr} {vl vu vs : Value} {st lo hi : Int} {n m : Nat} {Q : Int × Int × Nat → Shared → Prop} (hs : s.heap.IsSliceOf sl vl vu vs) (pl : IsPart vl none) (pu : IsPart vu none) (ps : IsPart vs (some st)) (h0 : st ≠ 0)
    (ha : Builtin.Slice.sliceAdjust none none st (n : Int) = (lo, hi)) (hp : Builtin.Slice.slicePlaces lo hi st = m) (h : Q (lo, st, m) s) : wpAny (model prog w) A (Builtin.Slice.sliceApplied (.ref sl) (pure (n : Int))) Q E s := by
  obtain ⟨os, hos, hcs, hds⟩ := id hs
  unfold Builtin.Slice.sliceApplied Builtin.Slice.sliceFields
  refine wpAny_bind (wpAny_bind (wpAny_field hos hds (x := vl) rfl (wpAny_bind (wpAny_field hos hds (x := vu) rfl (wpAny_bind (wpAny_field hos hds (x := vs) rfl (wpAny_pure ?_)))))))
  refine wpAny_bind (HT.slicePart_ ps ?_)
  show wpAny _ _ (if (st == 0) = true then _ else _) _ _ s
  rw [if_neg (by simpa using h0)]
  refine wpAny_bind (HT.slicePart_ pl (wpAny_bind (HT.slicePart_ pu (wpAny_bind (wpAny_pure ?_)))))
  show wpAny _ _ (match Builtin.Slice.sliceAdjust none none st (n : Int) with | (lo, hi) => pure (lo, st, Builtin.Slice.slicePlaces lo hi st)) _ _ s
  rw [ha]
  show wpAny _ _ (pure (lo, st, Builtin.Slice.slicePlaces lo hi st)) _ _ s
  rw [hp]
  exact wpAny_pure h
theorem fm_congr {α β : Type} {f g : α → Option β} : ∀ (l : List α), (∀ m ∈ l, f m = g m) → l.filterMap f = l.filterMap g
  | [], _ => rfl
  | a :: l, h => by rw [List.filterMap_cons, List.filterMap_cons, h a (by simp), fm_congr l fun m hm => h m (by simp [hm])]
theorem pick_rev (xs : Array Value) : ((List.range xs.size).filterMap fun (m : Nat) => xs[((xs.size : Int) - 1 + (m : Int) * (-1)).toNat]?).toArray = xs.toList.reverse.toArray := by
  congr 1
  have e : (List.range xs.size).filterMap (fun (m : Nat) => xs[((xs.size : Int) - 1 + (m : Int) * (-1)).toNat]?) = ((List.range xs.size).map fun k => xs.size - 1 - k).filterMap (xs[·]?) := by
    rw [List.filterMap_map]
    refine fm_congr _ fun m hm => ?_
    have := List.mem_range.mp hm
    show xs[((xs.size : Int) - 1 + (m : Int) * (-1)).toNat]? = xs[xs.size - 1 - m]?
    congr 1
    omega
  rw [e, PySem.W.krv_range, List.filterMap_reverse, PySem.W.krv_all]
theorem getItem_tuple_rev {t sl : Addr} {items : Array Value} {vl vu vs : Value} {Q : Value → Shared → Prop} (ht : IsTup s.heap t items) (hs : s.heap.IsSliceOf sl vl vu vs) (pl : IsPart vl none) (pu : IsPart vu none) (ps : IsPart vs (some (-1)))
    (h : Q (.ref s.heap.objs.size) { s with heap := s.heap.push { cls := .type "tuple", data := .seq items.toList.reverse.toArray } })
    (hsz : items.size ≤ sizeLine) : wpAny (model prog w) A (getItem (.ref t) (.ref sl)) Q E s := by
  have htake : sizeOk (.seq items.toList.reverse.toArray) := by
    show items.toList.reverse.toArray.size ≤ sizeLine
    rw [List.size_toArray, List.length_reverse, Array.length_toList]
    exact hsz
  obtain ⟨os, hos, hcs, hds⟩ := id hs
  have hTs : s.TypeIs (.ref sl) "slice" := ⟨os, hos, hcs⟩
  unfold getItem
  try with_reducible refine wpAny_holding ?_
  first | refine wpAny_bind (wpAny_pure ?_) | skip
  refine wpAny_bind (wpAny_sequenceKey ht.typeIs (by decide) ?_)
  refine wpAny_bind (wpAny_callSpecial?_slot (name := Str.ofString "__getitem__") ht.typeIs PyProof.Rows.slot_tuple_getitem
    (wpAny_call_entry PyProof.Rows.slot_tuple_getitem ht.typeIs entry_tuple_getitem ?_ (args_tuple_getitem _ _)))
  show wpAny _ _ (Builtin.Tuple.tupleItemsOf (.ref t) >>= _) _ _ s
  refine wpAny_bind (tupleItemsOf_ ht ?_)
  refine wpAny_bind (wpAny_typeOf hTs ?_)
  rw [if_pos (by decide)]
  refine wpAny_bind (sliceApplied_st hs pl pu ps (by decide) (adjust_m1 _) (places_m1 _) ?_)
  have hno : ¬ (((items.size : Int) - 1 == 0 && (-1 : Int) == 1 && items.size == items.size) = true) := by simp
  show wpAny _ _ (if ((items.size : Int) - 1 == 0 && (-1 : Int) == 1 && items.size == items.size) = true then _ else _) _ _ s
  rw [if_neg hno, pick_rev]
  first
    | exact wpAny_bind (m := Builtin.Tuple.tupleExact _) (wpAny_newObj_type (wpAny_pure ⟨_, rfl, wpAny_pure h⟩) htake)
    | exact wpAny_bind (m := Builtin.Tuple.tupleExact _) (wpAny_newObj_type (wpAny_bind (wpAny_pure (wpAny_pure ⟨_, rfl, wpAny_pure h⟩))) htake)
    | exact wpAny_bind (wpAny_bind (m := Builtin.Tuple.tupleExact _) (wpAny_newObj_type (wpAny_pure (wpAny_pure ⟨_, rfl, wpAny_pure h⟩)) htake))
    | exact wpAny_bind (wpAny_bind (m := Builtin.Tuple.tupleExact _) (wpAny_newObj_type (wpAny_pure ⟨_, rfl, wpAny_pure h⟩) htake))
theorem getItem_tuple_one {t sl : Addr} {items : Array Value} {vl vu vs : Value} {Q : Value → Shared → Prop} (ht : IsTup s.heap t items) (hs : s.heap.IsSliceOf sl vl vu vs) (pl : IsPart vl none) (pu : IsPart vu none) (ps : IsPart vs (some 1))
    (h : Q (.ref t) s) : wpAny (model prog w) A (getItem (.ref t) (.ref sl)) Q E s := by
  obtain ⟨os, hos, hcs, hds⟩ := id hs
  have hTs : s.TypeIs (.ref sl) "slice" := ⟨os, hos, hcs⟩
  unfold getItem
  try with_reducible refine wpAny_holding ?_
  first | refine wpAny_bind (wpAny_pure ?_) | skip
  refine wpAny_bind (wpAny_sequenceKey ht.typeIs (by decide) ?_)
  refine wpAny_bind (wpAny_callSpecial?_slot (name := Str.ofString "__getitem__") ht.typeIs PyProof.Rows.slot_tuple_getitem
    (wpAny_call_entry PyProof.Rows.slot_tuple_getitem ht.typeIs entry_tuple_getitem ?_ (args_tuple_getitem _ _)))
  show wpAny _ _ (Builtin.Tuple.tupleItemsOf (.ref t) >>= _) _ _ s
  refine wpAny_bind (tupleItemsOf_ ht ?_)
  refine wpAny_bind (wpAny_typeOf hTs ?_)
  rw [if_pos (by decide)]
  refine wpAny_bind (sliceApplied_st hs pl pu ps (by decide) (adjust_p1 _) (places_p1 _) ?_)
  show wpAny _ _ (if ((0 : Int) == 0 && (1 : Int) == 1 && items.size == items.size) = true then _ else _) _ _ s
  rw [if_pos (by simp)]
  refine wpAny_bind ?_
  show wpAny _ _ (typeOf (.ref t) >>= fun T => pure (T == .type "tuple")) _ _ s
  refine wpAny_bind (wpAny_typeOf ht.typeIs (wpAny_pure ?_))
  first
    | rw [if_pos (by decide)]
    | simp only [beq_self_eq_true, if_true]
  first
    | exact wpAny_bind (wpAny_rule (wpAny_pure ⟨_, rfl, wpAny_pure h⟩))
    | exact wpAny_bind (wpAny_rule (wpAny_bind (wpAny_pure (wpAny_pure ⟨_, rfl, wpAny_pure h⟩))))
end
def tStep (K : PySem.W.Frag) (te ti : TE) : TE := fun σ H Q => te σ H fun x H1 => ti σ H1 fun y H2 => ∃ n a, y = .int n ∧ x = .ref a ∧ ((∃ xs, SqT K H2 a xs ∧ ((n = 1 ∧ Q (.ref a) H2) ∨ (n = -1 ∧ ∀ p, H2 p = none → Q (.ref p) (upd H2 p (.tup xs.reverse))))) ∨
  (∃ xs, SqL K H2 a xs ∧ n = -1 ∧ ∀ p, H2 p = none → Q (.ref p) (upd H2 p (.lst xs.reverse))))
theorem pe_step {X : Cx} {e i : Expr} {te ti : TE} {p3 pos : Pos} (he : PE X e te) (hi : PE X i ti) : PE X (.Subscript e (.Slice none none (some i) p3) pos) (tStep X.K te ti) := by
  refine ⟨fun pins s σ H Q I h => ?_⟩
  refine Subscript_ (thn (he.run pins s σ H _ I h) fun v s1 ⟨x, H1, I1, r1, q1⟩ => ?_)
  refine wpAny_Slice (thn (po_none.run pins s1 σ H1 (fun o H2 => o = none ∧ H2 = H1) I1 ⟨rfl, rfl⟩) fun vl s2 ⟨l, H2, I2, pl, el, e2⟩ => ?_)
  subst el e2
  refine thn (po_none.run pins s2 σ H2 (fun o H3 => o = none ∧ H3 = H2) I2 ⟨rfl, rfl⟩) fun vu s3 ⟨u, H3, I3, pu, eu, e3⟩ => ?_
  subst eu e3
  refine thn (hi.run pins s3 σ H3 _ I3 q1) fun vs s4 ⟨y, H4, I4, ry, q4⟩ => ?_
  obtain ⟨n, a, rfl, rfl, q⟩ := q4
  obtain ⟨tk, rfl⟩ := ry
  cases r1
  have ps : IsPart (.int n tk) (some n) := .int n tk
  have I5 : Inv X pins σ H4 { s4 with heap := s4.heap.push { cls := .type "slice", data := .fields #[vl, vu, .int n tk] } } := I4.kept (t' := s4.toks) fun b ob q => Heap.get?_push_of_some _ q
  show wpAny (model X.prog X.w) X.A (subscriptTail e (.Slice none none (some i) p3) (.ref a) (.ref s4.heap.objs.size)) (EP X pins σ Q) X.xe { s4 with heap := s4.heap.push { cls := .type "slice", data := .fields #[vl, vu, .int n tk] } }
  rcases q with ⟨xs, hx, q⟩ | ⟨xs, hx, rfl, q⟩
  · obtain ⟨its, r, ht, hz⟩ := I5.tuple hx
    have hlen : its.toArray.size = xs.length := by rw [List.size_toArray]; exact r.length.symm
    refine tail_any (ops := [.ref a, .ref s4.heap.objs.size]) ht.typeIs PyProof.Rows.slot_tuple_getitem.lookup ?_ (by with_unfolding_all rfl)
    rcases q with ⟨rfl, q⟩ | ⟨rfl, q⟩
    · exact getItem_tuple_one ht (Heap.IsSliceOf.new ..) pl pu ps ⟨.ref a, H4, I5, rfl, q⟩
    · refine getItem_tuple_rev ht (Heap.IsSliceOf.new ..) pl pu ps ?_ (by rw [hlen]; exact hz)
      refine ⟨.ref _, _, I5.laid (t' := s4.toks) (o := .tup xs.reverse) (fun b ob q => Heap.get?_push_of_some _ q) (Nat.le_refl _) ?_, rfl, q _ (I5.hok.fresh (Nat.le_refl _))⟩
      exact ⟨by rw [List.length_reverse]; exact hz, _, r.reverse, IsTup.new _ _⟩
  · obtain ⟨its, r, ht, hz⟩ := I5.list hx
    have hlen := r.length
    refine tail_any (ops := [.ref a, .ref s4.heap.objs.size]) ht.isList.typeIs (PySem.slot_list_getitem.lookup) ?_ (by with_unfolding_all rfl)
    refine wpAny_getItem_list_slice ht.isList (Heap.IsSliceOf.new _ vl vu _) pl pu ps (by decide) ?_ (by rw [List.size_toArray]; omega)
    rw [PySem.W.krv_pick]
    refine ⟨.ref _, _, I5.laid (t' := s4.toks) (o := .lst xs.reverse) (fun b ob q => Heap.get?_push_of_some _ q) (Nat.le_refl _) ?_, rfl, q _ (I5.hok.fresh (Nat.le_refl _))⟩
    exact ⟨by rw [List.length_reverse]; exact hz, _, 0, r.reverse, Heap.get?_push_size _ rfl⟩
end Ev
set_option Elab.async false
set_option linter.all false
set_option maxRecDepth 100000
set_option maxHeartbeats 4000000
/-! E14k: slices by a step, dict(pairs), list(d.items()), in the evaluator. -/
namespace Ev
open PySem PySem.Spec PyProof.Rows L2
def stepM (w i : W) : M W := fun h => match w, i with
  | .d (.tuple ds), .d (.int n) => if n = 1 then .ok (.d (.tuple ds)) h else if n = -1 then .ok (.d (.tuple ds.reverse)) h else .no
  | .d (.list ds), .d (.int n) => if n = -1 then .ok (.r h.length) (h ++ [.lst (ds.reverse.map .d)]) else .no
  | .r j, .d (.int n) => (match h[j]? with
    | some (.lst ws) => if n = -1 then .ok (.r h.length) (h ++ [.lst ws.reverse]) else .no
    | _ => .no)
  | _, _ => .no
def eStep (a b : ME) : ME := fun env => mbind (a env) fun x => mbind (b env) (stepM x)
theorem paired_rev {α β : Type} {P : α → β → Prop} : ∀ {xs : List α} {ys : List β}, Paired P xs ys → Paired P xs.reverse ys.reverse
  | _, _, .nil => .nil
  | _, _, .cons h r => by
    rw [List.reverse_cons, List.reverse_cons]
    exact paired_snoc h (paired_rev r)
theorem rpl_paired {K : PySem.W.Frag} {c : Cf} : ∀ {xs : List V} {ds : List PyData}, RpL K c xs ds → Paired (Rp K c) xs ds
  | _, _, .nil => .nil
  | _, _, .cons h r => .cons h (rpl_paired r)
theorem paired_rpl {K : PySem.W.Frag} {c : Cf} : ∀ {xs : List V} {ds : List PyData}, Paired (Rp K c) xs ds → RpL K c xs ds
  | _, _, .nil => .nil
  | _, _, .cons h r => .cons h (paired_rpl r)
section
variable {T : Tb} {G : GA} {CM : FId → List W → M W} {k : Nat} {sc : Sc} {a b e : Expr} {ma mb_ : ME} {pos p2 p3 apos cpos p : Pos}
theorem se_step (ha : SE T G CM k sc a ma) (hb : SE T G CM k sc b mb_) : SE T G CM k sc (.Subscript a (.Slice none none (some b) p3) pos) (eStep ma mb_) := fun X Wx F => by
  refine PE.imp (pe_step (ha X Wx F) (hb X Wx F)) fun σ H Q ⟨c, env, e, ok, re, q⟩ => ?_
  subst e
  refine tE.step ok re q fun w c1 v e1 ok1 re1 rv q1 => tE.step ok1 re1 q1 fun w2 c2 v2 e2 ok2 re2 rv2 q2 => ?_
  have rv' := RW.mono e2 rv
  unfold stepM at q2
  split at q2
  · rename_i ds n
    obtain ⟨pa, xs, rfl, h1, r1⟩ := rTup rv'
    rw [rInt rv2]
    refine ⟨n, pa, rfl, rfl, .inl ⟨xs, by rw [F.K]; exact h1, ?_⟩⟩
    split at q2
    · rename_i hn
      exact .inl ⟨hn, q2.here ok2 _ rv'⟩
    · split at q2
      · rename_i hn
        exact .inr ⟨hn, fun q hq => new_tup ok2 (paired_rpl (paired_rev (rpl_paired r1))) hq q2⟩
      · exact q2.elim
  · rename_i ds n
    obtain ⟨pa, xs, rfl, h1, r1⟩ := rLst rv'
    rw [rInt rv2]
    split at q2
    · rename_i hn
      exact ⟨n, pa, rfl, rfl, .inr ⟨xs, by rw [F.K]; exact h1, hn, fun q hq => new_list ok2 (rpl_rwl (paired_rpl (paired_rev (rpl_paired r1)))) hq q2⟩⟩
    · exact q2.elim
  · rename_i j n
    split at q2
    · rename_i ws ew
      obtain ⟨pa, rfl, h1, xs, hx, r1⟩ := rRef ok2 rv' ew
      rw [rInt rv2]
      split at q2
      · rename_i hn
        exact ⟨n, pa, rfl, rfl, .inr ⟨xs, .inl (.inl hx), hn, fun q hq => new_list ok2 (paired_rev r1) hq q2⟩⟩
      · exact q2.elim
    · exact q2.elim
  · exact q2.elim
end
/-! ### dict(pairs) -/
def pairD : PyData → Option (Key × PyData)
  | .tuple [k, v] => (keyOf k).map fun kk => (kk, v)
  | _ => none
def pairsD : List PyData → Option (List (Key × PyData))
  | [] => some []
  | d :: ds => match pairD d, pairsD ds with
    | some p, some ps => some (p :: ps)
    | _, _ => none
def mergeW (kvs : List (Key × PyData)) : List (PyData × W) := kvs.foldl (fun acc kv => putDW kv.1 (.d kv.2) acc) []
def fDict (ws : List W) : M W := fun h => match ws with
  | [w] => (match (listD h w).bind pairsD with
    | some kvs => .ok (.r h.length) (h ++ [.dic (mergeW kvs)])
    | none => (match dictW h w with
      | some kvs => .ok (.r h.length) (h ++ [.dic kvs])
      | none => .no))
  | _ => .no
section
variable {T : Tb} {G : GA} {CM : FId → List W → M W} {k : Nat} {sc : Sc} {c : Cf}
theorem new_dicW {p : Addr} {kvs : List (Key × V)} {ds : List (PyData × W)} {Q : VK} {E : Str → Cf → Prop} (k : c.ok G) (hp : c.H p = none) (r : PDW G c kvs ds) (h : Po G (.ok (W.r c.ah.length) (c.ah ++ [.dic ds])) c (VQ G Q) E) : Q (.ref p) (upd c.H p (.dK kvs)) := by
  have ex := Cf.new_ext (o := .dK kvs) (ao := .dic ds) k hp
  have ok : (c.new p (.dK kvs) (.dic ds)).ok G := Cf.new_ok k hp ⟨kvs, upd_same, L2.Paired.mapP r fun _ _ q => ⟨q.1, RW.mono ex q.2⟩⟩
  refine Po.at (c' := c.new p (.dK kvs) (.dic ds)) h ex ok (.ref p) ⟨p, rfl, ?_⟩
  show (c.μ ++ [p])[c.ah.length]? = some p
  rw [← k.len]; simp
theorem pairs_ok : ∀ {ds : List PyData} {kds : List (Key × PyData)} {xs : List V}, pairsD ds = some kds → RpL G.K c xs ds → ∃ (ps : List Addr) (kvs : List (Key × V)), xs = ps.map V.ref ∧ Paired (fun p kv => SqT G.K c.H p [kV kv.1, kv.2]) ps kvs ∧ Paired (fun (p : Key × V) (q : Key × PyData) => p.1 = q.1 ∧ Rp G.K c p.2 q.2) kvs kds
  | [], kds, xs, h, r => by
    cases h
    cases r
    exact ⟨[], [], rfl, .nil, .nil⟩
  | d :: ds, kds, xs, h, r => by
    unfold pairsD at h
    split at h
    · rename_i p ps h1 h2
      cases h
      cases r with
      | cons r1 r2 =>
        obtain ⟨as, kvs, e1, e2, e3⟩ := pairs_ok h2 r2
        unfold pairD at h1
        split at h1
        · rename_i kd v
          cases hk : keyOf kd with
          | none => rw [hk] at h1; cases h1
          | some kk =>
            rw [hk] at h1
            cases h1
            obtain ⟨a, ys, rfl, h3, r3⟩ := rTup (G := G) r1
            cases r3 with
            | cons k1 r4 =>
              cases r4 with
              | cons v1 r5 =>
                cases r5
                rename_i yk yv
                have ek : yk = kV kk := rKey (G := G) (show RW G c yk (.d kd) from k1) hk
                subst ek
                exact ⟨a :: as, (kk, yv) :: kvs, by rw [e1]; rfl, .cons h3 e2, .cons ⟨rfl, v1⟩ e3⟩
        · cases h1
    · cases h
theorem merge_pdw : ∀ {kvs : List (Key × V)} {kds : List (Key × PyData)} {acc : List (Key × V)} {ac : List (PyData × W)}, Paired (fun (p : Key × V) (q : Key × PyData) => p.1 = q.1 ∧ Rp G.K c p.2 q.2) kvs kds → PDW G c acc ac → PDW G c (mergeK acc kvs) (kds.foldl (fun acc kv => putDW kv.1 (.d kv.2) acc) ac)
  | _, _, _, _, .nil, r => r
  | (kk, v) :: kvs, (kk', d) :: kds, acc, ac, .cons h t, r => by
    obtain ⟨h1, h2⟩ := h
    have h1' : kk = kk' := h1
    subst h1'
    show PDW G c (mergeK (putK acc kk v) kvs) (kds.foldl (fun acc kv => putDW kv.1 (.d kv.2) acc) (putDW kk (.d d) ac))
    exact merge_pdw t (pdw_put (w := .d d) h2 r)
theorem rpd_pdw : ∀ {xs : List (Key × V)} {ds : List (PyData × PyData)}, RpD G.K c xs ds → PDW G c xs (ds.map fun p => (p.1, W.d p.2))
  | _, _, .nil => .nil
  | _, _, .cons h r => .cons ⟨rfl, h⟩ (rpd_pdw r)
theorem dict_ok {X : Cx} (hK : X.K = G.K) (hc : X.calm = true) : ∃ r, CallR X (.type "dict") r ∧ CallS G fDict r := by
  refine ⟨_, (call_dictP hc).or call_dictD, fun c xs ws Q E k rx h => ?_⟩
  unfold fDict at h
  split at h
  · rename_i w
    obtain ⟨v, rfl, r1⟩ := rwl1 rx
    split at h
    · rename_i kds hk
      obtain ⟨ds, e1, e2⟩ := bind_some_ok hk
      obtain ⟨p, ys, rfl, h1, r2⟩ := listD_ok k r1 e1
      obtain ⟨ps, kvs, rfl, q2, q3⟩ := pairs_ok e2 r2
      exact .inl ⟨p, ps, kvs, rfl, by rw [hK]; exact h1, by rw [hK]; exact q2, fun a ha => new_dicW k ha (merge_pdw q3 .nil) h⟩
    · split at h
      · rename_i kvs hd
        obtain ⟨a, xs, rfl, h1, r2⟩ := dictW_ok k hd r1
        exact .inr ⟨a, xs, rfl, h1, fun p hp => new_dicW k hp r2 h⟩
      · exact h.elim
  · exact h.elim
end
/-! ### list(d.items()) -/
def rItemsR : V → Hp → VK → Prop := fun x H Q => ∃ (d : Addr) (kvs : List (Key × V)), x = .ref d ∧ Rd H d (.dK kvs) ∧
  ∀ (H' : Hp) (p : Addr) (ts : List Addr), (∀ b o, H b = some o → H' b = some o) → H p = none → (∀ t ∈ ts, H t = none) → p ∉ ts → H' p = some (.lst (ts.map V.ref)) → Paired (fun (t : Addr) (q : Key × V) => H' t = some (.tup [kV q.1, q.2])) ts kvs → Q (.ref p) H'
open LiI in
theorem pe_listItemsR {X : Cx} {e : Expr} {te : TE} {p apos cpos pos : Pos} (hc : X.calm = true) (he : PE X e te) (hg : Gl X "list") (hm : X.mg "list" = none) (hv : bootBuiltins "list" = some (.type "list")) (hbase : attributeBase e "items" X.env (eval e X.env) = eval e X.env) (hline : (apos.endLine == cpos.line) = true) :
    PE X (.Call (.Name "list" p) [.Call (.Attribute e "items" apos) [] [] cpos] [] pos) (fun σ H Q => te σ H fun x H1 => rItemsR x H1 Q) := by
  have hs : starEach [.Call (.Attribute e "items" apos) [] [] cpos] X.env = (false, eval (.Call (.Attribute e "items" apos) [] [] cpos) X.env) :: starEach [] X.env := by rfl
  refine ⟨fun pins s σ H Q I hq => ?_⟩
  refine wpAny_Call_Name_kw (ld_blt I hg hm hv ?_)
  refine PyProof.Rows.callWith_type1 ?_ hs rfl
  rw [hs]
  show wpAny _ _ (spliced ((false, eval (.Call (.Attribute e "items" apos) [] [] cpos) X.env) :: backTo pos (starEach [] X.env))) _ _ s
  refine Calls.spliced_cons ?_
  refine wpAny_Call_method (T := "dict") (id := "dict.items") hbase rfl hline F.plainAttrs_dict F.slot_dict_items F.type_dict_items (thn (he.run pins s σ H _ I hq) fun u s1 ⟨x, H1, I1, rx, d, kvs, ex, hd, q⟩ => ?_)
  subst ex
  obtain rfl : u = Value.ref d := rx
  obtain ⟨hz, hs0, vs, kv, hdo⟩ := hd.ok I1.hok
  obtain ⟨ep, hat⟩ := hdo.dictAt
  have lk : kvs.length = vs.length := Paired.length kv
  have I2 : Inv X pins σ H1 { s1 with heap := s1.heap.push { cls := .type "dict_items", data := .fields #[.ref d] } } := I1.kept (t' := s1.toks) fun b ob q => Heap.get?_push_of_some _ q
  refine ⟨hdo.typeIs, hdo.mapOf.noDict, ?_⟩
  show wpAny _ _ (callWith cpos (.builtin "dict.items") [.ref d] [] []) _ X.xe s1
  refine method_meetsIn F.slot_dict_items F.entry_dict_items rfl (PySem.evalArgs_none ⟨rfl, hdo.typeIs, F.args_dict_items_1 _, _, meets_dict_items (mixKind X.prog X.w) d hs0, ⟨vs, hdo⟩, ?_⟩)
  refine Calls.spliced_nil ?_
  refine PySem.W.kdx_call (knd := mixKind X.prog X.w) (kvs := vs) (ep := ep) (I1.ok.hd hc) ⟨_, Heap.get?_push_size _ rfl, rfl, rfl⟩ (hat.push _) (by omega) fun h' tk acc c as hk hS hl hG hacc => ?_
  obtain ⟨H', k1, k2, k3, k4, k5, k6, J⟩ := items_laid (tk := tk) I2 hz kv hk hS hl hG hacc
  exact ⟨.ref _, H', J, rfl, q H' _ as k1 k2 k3 k4 k5 k6⟩
end Ev
namespace Ev
open PySem PySem.Spec PyProof.Rows L2
def datD : List (PyData × W) → Option (List (PyData × PyData))
  | [] => some []
  | (k, .d v) :: r => (datD r).map ((k, v) :: ·)
  | _ => none
def itemsD (h : AH) (w : W) : Option (List (PyData × PyData)) := match w with
  | .d (.dict ds) => some ds
  | .r i => (match h[i]? with
    | some (.dic kvs) => datD kvs
    | _ => none)
  | _ => none
def itemsM (w : W) : M W := fun h => match itemsD h w with
  | some kvs => .ok (.r h.length) (h ++ [.lst (kvs.map fun kv => .d (.tuple [kv.1, kv.2]))])
  | none => .no
def eItems (a : ME) : ME := fun env => mbind (a env) itemsM
section
variable {T : Tb} {G : GA} {CM : FId → List W → M W} {k : Nat} {sc : Sc} {c : Cf} {e : Expr} {ma : ME} {p pos apos cpos : Pos}
abbrev PRD (G : GA) (c : Cf) : List (Key × V) → List (PyData × PyData) → Prop := Paired (fun (p : Key × V) (q : PyData × PyData) => q.1 = keyD p.1 ∧ Rp G.K c p.2 q.2)
theorem rpd_prd : ∀ {xs : List (Key × V)} {ds : List (PyData × PyData)}, RpD G.K c xs ds → PRD G c xs ds
  | _, _, .nil => .nil
  | _, _, .cons h r => .cons ⟨rfl, h⟩ (rpd_prd r)
theorem dat_prd : ∀ {kvs : List (PyData × W)} {ds : List (PyData × PyData)} {xs : List (Key × V)}, datD kvs = some ds → PDW G c xs kvs → PRD G c xs ds
  | [], ds, xs, h, r => by
    cases h
    cases r
    exact .nil
  | (kd, .d v) :: kvs, ds, xs, h, r => by
    unfold datD at h
    cases q : datD kvs with
    | none => rw [q] at h; cases h
    | some es =>
      rw [q] at h
      cases h
      cases r with
      | cons r1 r2 => exact .cons r1 (dat_prd q r2)
  | (_, .r _) :: _, _, _, h, _ => by cases h
  | (_, .fn _) :: _, _, _, h, _ => by cases h
  | (_, .ex _) :: _, _, _, h, _ => by cases h
theorem itemsD_ok {w : W} {v : V} {ds : List (PyData × PyData)} (ok : c.ok G) (h : itemsD c.ah w = some ds) (rv : RW G c v w) : ∃ a xs, v = .ref a ∧ Rd c.H a (.dK xs) ∧ PRD G c xs ds := by
  cases w with
  | d x =>
    cases x with
    | dict es =>
      cases h
      cases (show Rp G.K c v (.dict _) from rv) with
      | dic l1 h1 r1 => exact ⟨_, _, rfl, h1, rpd_prd r1⟩
    | _ => cases h
  | r i =>
    simp only [itemsD] at h
    split at h
    · rename_i kvs e
      obtain ⟨a, rfl, h1, xs, hx, rx⟩ := rRef ok rv e
      exact ⟨a, xs, rfl, .inl hx, dat_prd h rx⟩
    · cases h
  | fn f => cases h
  | ex f => cases h
theorem rp_key {K : PySem.W.Frag} (kk : Key) : Rp K c (kV kk) (keyD kk) := by
  cases kk with
  | inl i => exact .int i
  | inr i => exact .str i
theorem itemsM_ok {w : W} {v : V} {Q : VK} {E : Str → Cf → Prop} (k : c.ok G) (rv : RW G c v w) (h : Po G (itemsM w c.ah) c (VQ G Q) E) : rItemsR v c.H Q := by
  unfold itemsM at h
  split at h
  · rename_i ds hd
    obtain ⟨d, kvs, rfl, h1, s1⟩ := itemsD_ok k hd rv
    refine ⟨d, kvs, rfl, h1, fun H' p as kp hp has hpn atS atP => ?_⟩
    let H0 : Hp := fun b => if b = p then none else H' b
    have kp0 : ∀ b o, c.H b = some o → H0 b = some o := fun b o e => by
      show (if b = p then none else H' b) = some o
      rw [if_neg (fun z => by rw [z, hp] at e; cases e)]; exact kp b o e
    have eH : upd H0 p (.lst (as.map V.ref)) = H' := by
      funext b
      unfold upd
      by_cases hb : b = p
      · rw [if_pos hb, hb, atS]
      · rw [if_neg hb]; show (if b = p then none else H' b) = _; rw [if_neg hb]
    have ok0 := Cf.grow_ok k kp0
    have ex0 := Cf.grow_ext kp0
    have hp0 : ({ c with H := H0 } : Cf).H p = none := if_pos rfl
    obtain ⟨L, eL⟩ : ∃ L : List W, L = ds.map fun kv => .d (.tuple [kv.1, kv.2]) := ⟨_, rfl⟩
    rw [← eL] at h
    have ex1 := Cf.new_ext (o := .lst (as.map V.ref)) (ao := .lst L) ok0 hp0
    have exA := ex0.trans ex1
    have items : RWL G (({ c with H := H0 } : Cf).new p (.lst (as.map V.ref)) (.lst L)) (as.map V.ref) L := by
      have nl : ∀ t ∈ as, ¬ (({ c with H := H0 } : Cf).new p (.lst (as.map V.ref)) (.lst L)).live t := fun t hm ⟨i, hi⟩ => by
        have hi : (c.μ ++ [p])[i]? = some t := hi
        have := List.mem_of_getElem? hi
        rcases List.mem_append.mp this with q | q
        · obtain ⟨i', hi'⟩ := List.getElem?_of_mem q
          obtain ⟨u, hu⟩ := k.there hi'
          rw [has t hm] at hu; cases hu
        · rw [List.mem_singleton.mp q] at hm; exact hpn hm
      rw [eL] at nl exA ⊢
      exact go exA (fun t q hh => by show upd H0 p _ t = _; rw [eH]; exact hh) nl atP s1
    have ok1 : (({ c with H := H0 } : Cf).new p (.lst (as.map V.ref)) (.lst L)).ok G := Cf.new_ok ok0 hp0 ⟨_, upd_same, items⟩
    have := h _ exA ok1 rfl (.ref p) ⟨p, rfl, by show (c.μ ++ [p])[c.ah.length]? = some p; rw [← k.len]; simp⟩
    rw [show (({ c with H := H0 } : Cf).new p (.lst (as.map V.ref)) (.lst L)).H = H' from eH] at this
    exact this
  · exact h.elim
where
  go {c c' : Cf} {H' : Hp} (ex : c.ext c') (hH : ∀ t (q : Key × V), H' t = some (.tup [kV q.1, q.2]) → c'.H t = some (.tup [kV q.1, q.2])) : ∀ {as : List Addr} {kvs : List (Key × V)} {ds : List (PyData × PyData)}, (∀ t ∈ as, ¬ c'.live t) → Paired (fun (t : Addr) (q : Key × V) => H' t = some (.tup [kV q.1, q.2])) as kvs → PRD G c kvs ds → RWL G c' (as.map V.ref) (ds.map fun kv => .d (.tuple [kv.1, kv.2]))
    | _, _, _, _, .nil, .nil => .nil
    | t :: as, (kk, v) :: kvs, (kd, d) :: ds, nl, .cons h r, .cons h2 r2 => by
      obtain ⟨h3, h4⟩ := h2
      have h3' : kd = keyD kk := h3
      subst h3'
      refine .cons ?_ (go ex hH (fun t ht => nl t (by simp [ht])) r r2)
      exact .tup (nl t (by simp)) (.inl (hH t (kk, v) h)) (.cons (rp_key kk) (.cons (Rp.mono ex h4) .nil))
theorem se_items (hg : isGlob sc "list" = true) (hf : ("list" : Str) ∈ T.free) (hb : okBase e = true) (hline : (apos.endLine == cpos.line) = true) (he : SE T G CM k sc e ma) : SE T G CM k sc (.Call (.Name "list" p) [.Call (.Attribute e "items" apos) [] [] cpos] [] pos) (eItems ma) := fun X Wx F => by
  refine PE.imp (pe_listItemsR F.calm (he X Wx F) (F.gl hg) (F.top.free _ hf) (by decide +kernel) (okBase_ok hb _ _) hline) fun σ H Q ⟨c, env, e, ok, re, q⟩ => ?_
  subst e
  exact tE.step ok re q fun w c1 v e1 ok1 re1 rv q1 => itemsM_ok ok1 rv q1
end
end Ev
namespace Ev
open PySem PySem.Spec PyProof.Rows L2
theorem se_dict {T : Tb} {G : GA} {CM : FId → List W → M W} {k : Nat} {sc : Sc} {e : Expr} {es : List Expr} {mr : EnvW → M (List W)} {p pos : Pos} (hg : isGlob sc "dict" = true) (hf : ("dict" : Str) ∈ T.free) (ha : SA T G CM k sc (e :: es) mr) (hs : (e :: es).all noStar = true) : SE T G CM k sc (.Call (.Name "dict" p) (e :: es) [] pos) (eFun fDict mr) := fun X Wx F => by
  obtain ⟨r, h2, h3⟩ := dict_ok (X := X) F.K F.calm
  rw [List.all_cons, Bool.and_eq_true] at hs
  refine PE.imp (pe_callTy h2 (F.gl hg) (F.top.free _ hf) (by decide +kernel) (ha X Wx F) (glob_ok hg).2.2 (glob_ok hg).2.1 (noStar_each hs.1 es X.env) (noStar_any hs.2 pos X.env)) fun σ H Q ⟨c, env, e, ok, re, q⟩ => ?_
  subst e
  refine tA.step ok re q fun ws c1 vs e1 ok1 re1 rvs q1 => ?_
  exact h3 c1 vs ws Q _ ok1 rvs q1
end Ev
set_option Elab.async false
set_option linter.all false
set_option maxRecDepth 100000
set_option maxHeartbeats 4000000
/-! E14m: three names at once, in the evaluator. -/
namespace Ev
open PySem PySem.Spec PyProof.Rows L2
/-- a, b, c = x, y, z -/
def kPar3 (i j l : Nat) (env : EnvW) (ws : List W) : M Fl := match ws with
  | [x, y, z] => mpure (.nx (((env.set i (some x)).set j (some y)).set l (some z)))
  | _ => mno
def sPar3 (i j l : Nat) (mr : EnvW → M (List W)) : MS := fun env => mbind (mr env) (kPar3 i j l env)
def swapOk3 (a b c : Expr) (px py pz : Pos) (x y z : Str) : Bool := (py.line == px.line) && (pz.line == px.line) && !(x == y) && !(x == z) && !(y == z) && !(foldedForSure 8 a && (foldedForSure 8 b && foldedForSure 8 c)) && !(constantsAlone 8 a && (constantsAlone 8 b && constantsAlone 8 c)) && noStar a && noStar b && noStar c
section
variable {T : Tb} {G : GA} {CM : FId → List W → M W} {k : Nat} {sc : Sc} {a b c : Expr}
theorem swap_ok3 {px py pz pt pt2 : Pos} {x y z : Str} {kt k2 : Nat} (h : swapOk3 a b c px py pz x y z = true) (hk : sc.scope.kind = .function) (hx : sc.scope.names.lookup x = some .local) (hy : sc.scope.names.lookup y = some .local) (hz : sc.scope.names.lookup z = some .local) (env : Env) (he : env.scope = sc.scope) :
    swappedStores [.Tuple [.Name x px, .Name y py, .Name z pz] kt pt] (.Tuple [a, b, c] k2 pt2) env = pure (some [x, y, z]) := by
  unfold swapOk3 at h
  simp only [Bool.and_eq_true] at h
  obtain ⟨⟨⟨⟨⟨⟨⟨⟨⟨h1, h2⟩, h3⟩, h4⟩, h5⟩, h6⟩, h7⟩, h8⟩, h9⟩, h10⟩ := h
  have hbk : (env.blockKind != ScopeKind.function) = false := by
    unfold Env.blockKind; rw [he, hk]; rfl
  have hkx : (env.kindOf x == some .local) = true := by
    show (env.scope.names.lookup x == some .local) = true
    rw [he, hx]; rfl
  have hky : (env.kindOf y == some .local) = true := by
    show (env.scope.names.lookup y == some .local) = true
    rw [he, hy]; rfl
  have hkz : (env.kindOf z == some .local) = true := by
    show (env.scope.names.lookup z == some .local) = true
    rw [he, hz]; rfl
  have one : ∀ e : Expr, noStar e = true → (match e with | .Starred .. => true | _ => false) = false := fun e h => by
    cases e <;> first | rfl | exact Bool.noConfusion (show false = true from h)
  have sy : ∀ {u v : Str}, (!(u == v)) = true → (v == u) = false := fun {u v} h => by
    have : (u == v) = false := by simpa using h
    rw [Bool.eq_false_iff] at this ⊢
    intro q; exact this (by rw [eq_of_beq q]; exact beq_self_eq_true u)
  have hxy : ([x, y, z].eraseDups.length != [x, y, z].length) = false := by
    simp [List.eraseDups_cons, sy h3, sy h4, sy h5]
  unfold swappedStores
  simp only [List.length_cons, List.length_nil, hbk, Expr.pos, List.head?, Option.map, Option.getD, hkx, hky, hkz, List.filterMap, h1, h2, beq_self_eq_true, Bool.and_true, if_true, hxy]
  have e1 : ([a, b, c].all (foldedForSure 8)) = false := by rw [List.all_cons, List.all_cons, List.all_cons, List.all_nil, Bool.and_true]; exact (Bool.not_eq_true' _).mp h6
  have e2 : ([a, b, c].all (constantsAlone 8)) = false := by rw [List.all_cons, List.all_cons, List.all_cons, List.all_nil, Bool.and_true]; exact (Bool.not_eq_true' _).mp h7
  have hlen : [x, y, z].eraseDups.length = 3 := by simpa using hxy
  have q1 := one a h8
  have q2 := one b h9
  have q3 := one c h10
  simp [e1, e2]
  rw [if_neg (fun q => q.elim (fun q => Bool.noConfusion (q1.symm.trans q)) fun q => q.elim (fun q => Bool.noConfusion (q2.symm.trans q)) fun q => Bool.noConfusion (q3.symm.trans q)), if_pos hlen]
theorem rwl3 {c : Cf} {vs : List V} {a b d : W} (h : RWL G c vs [a, b, d]) : ∃ x y z, vs = [x, y, z] ∧ RW G c x a ∧ RW G c y b ∧ RW G c z d := by
  cases h with
  | cons h1 r =>
    obtain ⟨y, z, rfl, h2, h3⟩ := rwl2 r
    exact ⟨_, y, z, rfl, h1, h2, h3⟩
theorem ss_par3 {x y z : Str} {i j l : Nat} {px py pz pt pt2 pos : Pos} {kt k2 : Nat} {mr : EnvW → M (List W)} (hk : sc.scope.kind = .function) (hx : sc.scope.names.lookup x = some .local) (hy : sc.scope.names.lookup y = some .local) (hz : sc.scope.names.lookup z = some .local) (hi : sc.N.idxOf? x = some i) (hj : sc.N.idxOf? y = some j) (hl : sc.N.idxOf? z = some l) (hij : i ≠ j) (hil : i ≠ l) (hjl : j ≠ l)
    (ha : SA T G CM k sc [a, b, c] mr) (hw : ∀ env : Env, env.scope = sc.scope → swappedStores [.Tuple [.Name x px, .Name y py, .Name z pz] kt pt] (.Tuple [a, b, c] k2 pt2) env = pure (some [x, y, z])) :
    SS T G CM k sc (.Assign [.Tuple [.Name x px, .Name y py, .Name z pz] kt pt] (.Tuple [a, b, c] k2 pt2) pos) (sPar3 i j l mr) := fun X Ex F hp hs hfr => by
  refine PS.imp (ps_par3 (i := i) (j := j) (l := l) F.calm F.ndN (by rw [F.N]; exact idx_at hi) (by rw [F.N]; exact idx_at hj) (by rw [F.N]; exact idx_at hl) hij hil hjl (by rw [F.scope]; exact hx) (by rw [F.scope]; exact hy) (by rw [F.scope]; exact hz) (ha X _ F) (hw X.env F.scope) (by rw [swSole]; exact swT _ _ _ _ _ _)) fun D σ H ⟨c, env, e, ok, re, q⟩ => ?_
  subst e
  refine tA.step ok re q fun ws c1 vs e1 ok1 re1 rvs q1 => ?_
  unfold kPar3 at q1
  split at q1
  · obtain ⟨u, v, w, rfl, r1, r2, r3⟩ := rwl3 rvs
    exact ⟨u, v, w, rfl, Po.here (a := Fl.nx _) q1 ok1 _ (((re1.set r1).set r2).set r3)⟩
  · exact q1.elim
/-- a name that is a cell -/
def cellN (sc : Sc) : Expr → Bool
  | .Name x _ => sc.scope.names.lookup x == some .cell
  | _ => false
theorem fm_short {α β : Type} {f : α → Option β} {a : α} (ha : f a = none) : ∀ l : List α, a ∈ l → (l.filterMap f).length < l.length
  | b :: l, h => by
    have le := List.length_filterMap_le f l
    rw [List.filterMap_cons]
    rcases List.mem_cons.mp h with e | e
    · subst e; rw [ha]; simp; omega
    · have := fm_short ha l e
      cases f b with
      | none => simp only [List.length_cons]; omega
      | some y => simp only [List.length_cons]; omega
theorem sw_cell {tes : List Expr} {kk : Nat} {p : Pos} {env : Env} (he : env.scope = sc.scope) (h : tes.any (cellN sc) = true) (e : Expr) : swappedStores [.Tuple tes kk p] e env = pure none := by
  cases e with
  | Tuple vs k2 p2 =>
    obtain ⟨x, hx, hc⟩ := List.any_eq_true.mp h
    cases x with
    | Name id q =>
      have hk : (env.kindOf id == some .local) = false := by
        show (env.scope.names.lookup id == some .local) = false
        have : (sc.scope.names.lookup id == some .cell) = true := hc
        rw [he, eq_of_beq this]; rfl
      unfold swappedStores
      simp only
      split
      · rfl
      · split
        · rfl
        · rw [if_pos]
          rw [Bool.or_eq_true]
          left
          rw [bne_iff_ne]
          refine Nat.ne_of_lt (fm_short ?_ tes hx)
          simp [hk]
    | _ => exact Bool.noConfusion (show false = true from hc)
  | _ => rfl
theorem ss_tupC {e : Expr} {ma : ME} {p pos : Pos} {tes : List Expr} {kk : Nat} {t : Tg} (ht : tgOf sc (.Tuple tes kk p) = some t) (he : SE T G CM k sc e ma) (hn : tes.any (cellN sc) = true) : SS T G CM k sc (.Assign [.Tuple tes kk p] e pos) (sTgW t ma) := fun X Ex F hp hs hfr => by
  have hne : swappedStores [.Tuple tes kk p] e X.env = pure none := sw_cell F.scope hn e
  refine PS.imp (ps_asg (he X _ F) (pg_or (pg_tg F ht) (pg_tgL F ht)) (by rw [swSole]; exact swT _ _ _ _ _ _) hne) fun D σ H ⟨c, env, e, ok, re, q⟩ => ?_
  subst e
  refine tE.step ok re q fun w c1 v e1 ok1 re1 rv q1 => ?_
  unfold kTg at q1
  cases hm : tgH t w env c1.ah with
  | none =>
    simp only [hm] at q1
    exact q1.elim
  | some env1 =>
    simp only [hm] at q1
    unfold tgH at hm
    split at hm
    · rename_i is
      split at hm
      · rename_i ws hw
        split at hm
        · rename_i hl
          cases hm
          obtain ⟨a, rfl, h1, xs, hx, rx⟩ := rRef ok1 rv hw
          exact .inl ⟨a, xs, rfl, .inl (.inl hx), by rw [Paired.length rx]; exact hl, gNamesW_ok (env := env) hl rx re1 fun σ2 re2 => Po.here (a := Fl.nx (setAllW env _ ws)) q1 ok1 σ2 re2⟩
        · cases hm
      · rename_i ws hw
        split at hm
        · rename_i hl
          cases hm
          obtain ⟨a, rfl, h1, xs, hx, rx⟩ := rRef ok1 rv hw
          exact .inr ⟨a, xs, rfl, .inl (.inl hx), by rw [Paired.length rx]; exact hl, gNamesW_ok (env := env) hl rx re1 fun σ2 re2 => Po.here (a := Fl.nx (setAllW env _ ws)) q1 ok1 σ2 re2⟩
        · cases hm
      · cases hm
    · exact .inl <| gTg_ok (c := c1) F.K (vs := t.slots) hm re1 rv (fun _ h => h) fun σ2 re2 _ => Po.here (a := Fl.nx env1) q1 ok1 σ2 re2
end
end Ev
set_option Elab.async false
set_option linter.all false
set_option maxRecDepth 100000
set_option maxHeartbeats 4000000
/-! E14n: dicts that are walked: list comprehensions and loops over a name's keys, values, entries. -/
namespace Ev
open PySem PySem.Spec PyProof.Rows L2
/-! ### states that differ in a lock -/
def plainO : HO → Prop
  | .lst _ => True
  | .tup _ => True
  | .dK _ => True
  | _ => False
section
variable {K : PySem.W.Frag} {G : GA} {c c' : Cf}
mutual
theorem Rp.rd (hm : c'.μ = c.μ) (hr : ∀ b o, ¬ c.live b → plainO o → Rd c.H b o → Rd c'.H b o) : ∀ {d : PyData} {v : V}, Rp K c v d → Rp K c' v d
  | _, _, .non => .non
  | _, _, .bl b => .bl b
  | _, _, .int i => .int i
  | _, _, .str x => .str x
  | _, _, .lst l h r => .lst (fun ⟨i, q⟩ => l ⟨i, by rw [← hm]; exact q⟩) (hr _ _ l trivial h) (RpL.rd hm hr r)
  | _, _, .tup l h r => .tup (fun ⟨i, q⟩ => l ⟨i, by rw [← hm]; exact q⟩) (hr _ _ l trivial h) (RpL.rd hm hr r)
  | _, _, .tupK h r => .tupK h (RpL.rd hm hr r)
  | _, _, .dic l h r => .dic (fun ⟨i, q⟩ => l ⟨i, by rw [← hm]; exact q⟩) (hr _ _ l trivial h) (RpD.rd hm hr r)
theorem RpL.rd (hm : c'.μ = c.μ) (hr : ∀ b o, ¬ c.live b → plainO o → Rd c.H b o → Rd c'.H b o) : ∀ {ds : List PyData} {vs : List V}, RpL K c vs ds → RpL K c' vs ds
  | _, _, .nil => .nil
  | _, _, .cons h r => .cons (Rp.rd hm hr h) (RpL.rd hm hr r)
theorem RpD.rd (hm : c'.μ = c.μ) (hr : ∀ b o, ¬ c.live b → plainO o → Rd c.H b o → Rd c'.H b o) : ∀ {ds : List (PyData × PyData)} {vs : List (Key × V)}, RpD K c vs ds → RpD K c' vs ds
  | _, _, .nil => .nil
  | _, _, .cons h r => .cons (Rp.rd hm hr h) (RpD.rd hm hr r)
end
theorem RW.rd (hm : c'.μ = c.μ) (hr : ∀ b o, ¬ c.live b → plainO o → Rd c.H b o → Rd c'.H b o) (hx : ∀ b φ, c.H b = some (.ext φ) → c'.H b = some (.ext φ)) {v : V} : ∀ {w : W}, RW G c v w → RW G c' v w
  | .d _, h => Rp.rd hm hr h
  | .r _, ⟨a, h1, h2⟩ => ⟨a, h1, by rw [hm]; exact h2⟩
  | .fn _, h => h
  | .ex _, ⟨a, C, h1, h2, h3, h4⟩ => ⟨a, C, h1, h2, fun ⟨i, q⟩ => h3 ⟨i, by rw [← hm]; exact q⟩, hx _ _ h4⟩
theorem OR.rd (hm : c'.μ = c.μ) (hr : ∀ b o, ¬ c.live b → plainO o → Rd c.H b o → Rd c'.H b o) (hx : ∀ b φ, c.H b = some (.ext φ) → c'.H b = some (.ext φ)) {a : Addr} (h : c'.H a = c.H a) : ∀ {o : AO}, OR G c a o → OR G c' a o
  | .lst _, ⟨xs, h1, r⟩ => ⟨xs, h.trans h1, L2.Paired.mapP r fun _ _ q => RW.rd hm hr hx q⟩
  | .dic _, ⟨xs, h1, r⟩ => ⟨xs, h.trans h1, L2.Paired.mapP r fun _ _ q => ⟨q.1, RW.rd hm hr hx q.2⟩⟩
  | .ins _ _, ⟨C, dx, xs, h1, h2, r⟩ => ⟨C, dx, xs, h.trans h1, h2, L2.Paired.mapP r fun _ _ q => ⟨q.1, RW.rd hm hr hx q.2⟩⟩
  | .tup _, ⟨xs, h1, r⟩ => ⟨xs, h.trans h1, L2.Paired.mapP r fun _ _ q => RW.rd hm hr hx q⟩
  | .dead, ⟨o, h1⟩ => ⟨o, h.trans h1⟩
  | .rod _, ⟨xs, od, h1, r⟩ => ⟨xs, od, h.trans h1, L2.Paired.mapP r fun _ _ q => ⟨q.1, RW.rd hm hr hx q.2⟩⟩
  | .dcn _, ⟨xs, h1, h2, h3, h4, r⟩ => ⟨xs, h.trans h1, h2, h3, h4, L2.Paired.mapP r fun _ _ ⟨q1, q2, q3, v, q4, q5⟩ => ⟨q1, q2, Rp.rd hm hr q3, v, q4, RW.rd hm hr hx q5⟩⟩
  | .dcb _ _, ⟨o, u, v, h1, h2, h3, h4, r⟩ => ⟨o, u, v, h.trans h1, h2, h3, h4, RW.rd hm hr hx r⟩
theorem EnvR.rd (hm : c'.μ = c.μ) (hr : ∀ b o, ¬ c.live b → plainO o → Rd c.H b o → Rd c'.H b o) (hx : ∀ b φ, c.H b = some (.ext φ) → c'.H b = some (.ext φ)) {env : EnvW} {σ : L2.St} (h : EnvR G c env σ) : EnvR G c' env σ :=
  ⟨h.1, fun i w q => let ⟨v, h1, h2⟩ := h.2 i w q; ⟨v, h1, RW.rd hm hr hx h2⟩⟩
end
section
variable {G : GA} {c c3 : Cf} {a : Addr} {xs : List (Key × V)} {od : Obj}
/-- a dict locked -/
theorem lk_rd (h : c.H a = some (.dK xs)) : (∀ b o, plainO o → Rd c.H b o → Rd (upd c.H a (.frz od (.dK xs))) b o) ∧ ∀ b φ, c.H b = some (.ext φ) → upd c.H a (.frz od (.dK xs)) b = some (.ext φ) := by
  refine ⟨fun b o po q => ?_, fun b φ q => ?_⟩
  · by_cases e : b = a
    · subst e
      rcases q with q | ⟨o', q⟩
      · rw [h] at q; cases q; exact .inr ⟨od, upd_same⟩
      · rw [h] at q; cases q
    · rcases q with q | ⟨o', q⟩
      · exact .inl (by rw [upd_ne e]; exact q)
      · exact .inr ⟨o', by rw [upd_ne e]; exact q⟩
  · rw [upd_ne]
    · exact q
    · intro e; rw [e, h] at q; cases q
/-- and unlocked -/
theorem ul_rd (h : c.H a = some (.frz od (.dK xs))) : (∀ b o, plainO o → Rd c.H b o → Rd (upd c.H a (.dK xs)) b o) ∧ ∀ b φ, c.H b = some (.ext φ) → upd c.H a (.dK xs) b = some (.ext φ) := by
  refine ⟨fun b o po q => ?_, fun b φ q => ?_⟩
  · by_cases e : b = a
    · subst e
      rcases q with q | ⟨o', q⟩
      · rw [h] at q; cases q; exact po.elim
      · rw [h] at q; cases q; exact .inl upd_same
    · rcases q with q | ⟨o', q⟩
      · exact .inl (by rw [upd_ne e]; exact q)
      · exact .inr ⟨o', by rw [upd_ne e]; exact q⟩
  · rw [upd_ne]
    · exact q
    · intro e; rw [e, h] at q; cases q
/-- data, locked -/
theorem lkD_ok (k : c.ok G) (h : c.H a = some (.dK xs)) (l : ¬ c.live a) : (⟨upd c.H a (.frz od (.dK xs)), c.μ, c.ah⟩ : Cf).ok G :=
  ⟨k.len, k.nd, fun i b o h1 h2 => by
    have ne : b ≠ a := fun e => l ⟨i, e ▸ h1⟩
    exact OR.rd (c := c) (c' := ⟨upd c.H a (.frz od (.dK xs)), c.μ, c.ah⟩) rfl (fun b o _ po q => (lk_rd h).1 b o po q) (lk_rd h).2 (by show upd c.H a _ b = c.H b; rw [upd_ne ne]) (k.obj i b o h1 h2)⟩
theorem ulD (k : c.ok G) (h : c.H a = some (.dK xs)) (l : ¬ c.live a) (ex : (⟨upd c.H a (.frz od (.dK xs)), c.μ, c.ah⟩ : Cf).ext c3) (k3 : c3.ok G) :
    c3.H a = some (.frz od (.dK xs)) ∧ c.ext ⟨upd c3.H a (.dK xs), c3.μ, c3.ah⟩ ∧ (⟨upd c3.H a (.dK xs), c3.μ, c3.ah⟩ : Cf).ok G ∧ ∀ v w, RW G c3 v w → RW G ⟨upd c3.H a (.dK xs), c3.μ, c3.ah⟩ v w := by
  obtain ⟨h3, l3⟩ := ex.keep a (.frz od (.dK xs)) upd_same l
  have ne : ∀ {i : Nat} {b : Addr}, c3.μ[i]? = some b → b ≠ a := fun h e => l3 ⟨_, e ▸ h⟩
  refine ⟨h3, ⟨fun i b q => ex.pre i b q, fun b o q lb => ?_, fun i b o h1 h2 q => ?_, fun i b kvs o h1 h2 q => ?_⟩, ⟨k3.len, k3.nd, fun i b o h1 h2 => ?_⟩, fun v w r => RW.rd (c := c3) (c' := ⟨upd c3.H a (.dK xs), c3.μ, c3.ah⟩) rfl (fun b o _ po q => (ul_rd h3).1 b o po q) (ul_rd h3).2 r⟩
  · by_cases e : b = a
    · subst e
      rw [h] at q; cases q
      exact ⟨upd_same, l3⟩
    · obtain ⟨z1, z2⟩ := ex.keep b o (by show upd c.H a _ b = _; rw [upd_ne e]; exact q) lb
      exact ⟨by show upd c3.H a _ b = _; rw [upd_ne e]; exact z1, z2⟩
  · have e : b ≠ a := fun e => l ⟨i, e ▸ h1⟩
    obtain ⟨z1, z2⟩ := ex.dead i b o h1 h2 (by show upd c.H a _ b = _; rw [upd_ne e]; exact q)
    exact ⟨by show upd c3.H a _ b = _; rw [upd_ne e]; exact z1, z2⟩
  · have e : b ≠ a := fun e => l ⟨i, e ▸ h1⟩
    obtain ⟨z1, z2⟩ := ex.rod i b kvs o h1 h2 (by show upd c.H a _ b = _; rw [upd_ne e]; exact q)
    exact ⟨by show upd c3.H a _ b = _; rw [upd_ne e]; exact z1, z2⟩
  · exact OR.rd (c := c3) (c' := ⟨upd c3.H a (.dK xs), c3.μ, c3.ah⟩) rfl (fun b o _ po q => (ul_rd h3).1 b o po q) (ul_rd h3).2 (by show upd c3.H a _ b = c3.H b; rw [upd_ne (ne h1)]) (k3.obj i b o h1 h2)
/-- a tracked dict, locked -/
theorem lkT_ok {j : Nat} {kvs : List (PyData × W)} (k : c.ok G) (hj : c.μ[j]? = some a) (ho : c.ah[j]? = some (.dic kvs)) (h : c.H a = some (.dK xs)) (r : PDW G c xs kvs) : (⟨upd c.H a (.frz od (.dK xs)), c.μ, c.ah.set j (.rod kvs)⟩ : Cf).ok G := by
  have hr := fun b o (_ : ¬ c.live b) po q => (lk_rd (od := od) h).1 b o po q
  refine ⟨by show c.μ.length = (c.ah.set j _).length; rw [List.length_set]; exact k.len, k.nd, fun i b o h1 h2 => ?_⟩
  have h1' : c.μ[i]? = some b := h1
  have h2' : (c.ah.set j (.rod kvs))[i]? = some o := h2
  by_cases e : j = i
  · subst e
    rw [hj] at h1'; cases h1'
    rw [List.getElem?_set_self (List.getElem?_eq_some_iff.mp ho).1] at h2'
    cases h2'
    exact ⟨xs, od, upd_same, L2.Paired.mapP r fun _ _ q => ⟨q.1, RW.rd (c := c) (c' := ⟨upd c.H a (.frz od (.dK xs)), c.μ, c.ah.set j (.rod kvs)⟩) rfl hr (lk_rd h).2 q.2⟩⟩
  · rw [List.getElem?_set_ne e] at h2'
    have ne : b ≠ a := fun z => e (k.inj hj (z ▸ h1'))
    exact OR.rd (c := c) (c' := ⟨upd c.H a (.frz od (.dK xs)), c.μ, c.ah.set j (.rod kvs)⟩) rfl hr (lk_rd h).2 (by show upd c.H a _ b = c.H b; rw [upd_ne ne]) (k.obj i b o h1' h2')
theorem ulT {j : Nat} {kvs : List (PyData × W)} (k : c.ok G) (hj : c.μ[j]? = some a) (ho : c.ah[j]? = some (.dic kvs)) (h : c.H a = some (.dK xs)) (r : PDW G c xs kvs) (ex : (⟨upd c.H a (.frz od (.dK xs)), c.μ, c.ah.set j (.rod kvs)⟩ : Cf).ext c3) (k3 : c3.ok G) :
    c3.H a = some (.frz od (.dK xs)) ∧ c.ext ⟨upd c3.H a (.dK xs), c3.μ, c3.ah.set j (.dic kvs)⟩ ∧ (⟨upd c3.H a (.dK xs), c3.μ, c3.ah.set j (.dic kvs)⟩ : Cf).ok G ∧ ∀ v w, RW G c3 v w → RW G ⟨upd c3.H a (.dK xs), c3.μ, c3.ah.set j (.dic kvs)⟩ v w := by
  have hjl : j < c.ah.length := (List.getElem?_eq_some_iff.mp ho).1
  obtain ⟨h3, o3⟩ := ex.rod j a kvs _ hj (List.getElem?_set_self hjl) upd_same
  have hj3 : c3.μ[j]? = some a := ex.pre j a hj
  have hr := fun b o (_ : ¬ c3.live b) po q => (ul_rd h3).1 b o po q
  have hw : ∀ v w, RW G c3 v w → RW G ⟨upd c3.H a (.dK xs), c3.μ, c3.ah.set j (.dic kvs)⟩ v w := fun v w q => RW.rd (c := c3) (c' := ⟨upd c3.H a (.dK xs), c3.μ, c3.ah.set j (.dic kvs)⟩) rfl hr (ul_rd h3).2 q
  have exu : c.ext ⟨upd c3.H a (.dK xs), c3.μ, c3.ah.set j (.dic kvs)⟩ := by
    refine ⟨fun i b q => ex.pre i b q, fun b o q lb => ?_, fun i b o h1 h2 q => ?_, fun i b kvs' o h1 h2 q => ?_⟩
    · have e : b ≠ a := fun e => lb ⟨j, e ▸ hj⟩
      obtain ⟨z1, z2⟩ := ex.keep b o (by show upd c.H a _ b = _; rw [upd_ne e]; exact q) lb
      exact ⟨by show upd c3.H a _ b = _; rw [upd_ne e]; exact z1, z2⟩
    · have ij : j ≠ i := fun e => by rw [← e, ho] at h2; cases h2
      have e : b ≠ a := fun z => ij (k.inj hj (z ▸ h1))
      obtain ⟨z1, z2⟩ := ex.dead i b o h1 (by show (c.ah.set j _)[i]? = _; rw [List.getElem?_set_ne ij]; exact h2) (by show upd c.H a _ b = _; rw [upd_ne e]; exact q)
      exact ⟨by show upd c3.H a _ b = _; rw [upd_ne e]; exact z1, by show (c3.ah.set j _)[i]? = _; rw [List.getElem?_set_ne ij]; exact z2⟩
    · have ij : j ≠ i := fun e => by rw [← e, ho] at h2; cases h2
      have e : b ≠ a := fun z => ij (k.inj hj (z ▸ h1))
      obtain ⟨z1, z2⟩ := ex.rod i b kvs' o h1 (by show (c.ah.set j _)[i]? = _; rw [List.getElem?_set_ne ij]; exact h2) (by show upd c.H a _ b = _; rw [upd_ne e]; exact q)
      exact ⟨by show upd c3.H a _ b = _; rw [upd_ne e]; exact z1, by show (c3.ah.set j _)[i]? = _; rw [List.getElem?_set_ne ij]; exact z2⟩
  refine ⟨h3, exu, ⟨by show c3.μ.length = (c3.ah.set j _).length; rw [List.length_set]; exact k3.len, k3.nd, fun i b o h1 h2 => ?_⟩, hw⟩
  have h1' : c3.μ[i]? = some b := h1
  have h2' : (c3.ah.set j (.dic kvs))[i]? = some o := h2
  by_cases e : j = i
  · subst e
    rw [hj3] at h1'; cases h1'
    rw [List.getElem?_set_self (List.getElem?_eq_some_iff.mp o3).1] at h2'
    cases h2'
    exact ⟨xs, upd_same, L2.Paired.mapP r fun _ _ q => ⟨q.1, RW.mono exu q.2⟩⟩
  · rw [List.getElem?_set_ne e] at h2'
    have ne : b ≠ a := fun z => e (k3.inj hj3 (z ▸ h1'))
    exact OR.rd (c := c3) (c' := ⟨upd c3.H a (.dK xs), c3.μ, c3.ah.set j (.dic kvs)⟩) rfl hr (ul_rd h3).2 (by show upd c3.H a _ b = c3.H b; rw [upd_ne ne]) (k3.obj i b o h1' h2')
end
end Ev
set_option Elab.async false
set_option linter.all false
set_option maxRecDepth 100000
set_option maxHeartbeats 4000000
/-! E14o: dicts that are walked, in the evaluator. -/
namespace Ev
open PySem PySem.Spec PyProof.Rows L2
def kLCw (t : Tg) (mt : EnvW → M Bool) (me : ME) (env : EnvW) (ws : List W) : M W := fun h => mbind (cLoop h.length t mt me ws (wipeW env t.slots)) (fun _ => mpure (.r h.length)) (h ++ [.lst []])
def lcR (g : TG) (tt : TT) (te : TE) (vs : List Nat) (σ : L2.St) (Q : VK) (J : It) (H1 : Hp) : Prop :=
  ∀ (D : Addr), H1 D = none → ∃ W : Nat → Nat → Hp → Prop, (∃ m, W 0 m (upd H1 D (HO.lst []))) ∧ ∀ (i m : Nat) (H : Hp), W i m H →
    J.stop i H ∧ Q (V.ref D) H ∨ J.go i H ∧ ∃ Nx : Hp → Prop, (∀ (H' : Hp), Nx H' → ∃ m', m' < m ∧ W (i + 1) m' H') ∧ ∀ (x : V) (H' : Hp), J.yld i H x H' →
      g x (wipe σ vs) H' fun σ2 H2 => wipe σ2 vs = wipe σ vs ∧ tt σ2 H2 fun b H3 => if b = true then te σ2 H3 fun y H4 => ∃ acc, H4 D = some (HO.lst acc) ∧ acc.length < sizeLine ∧ Nx (upd H4 D (HO.lst (acc ++ [y]))) else Nx H3
theorem tLc_eq {wi : TI} {g : TG} {tt : TT} {te : TE} {vs : List Nat} {σ : L2.St} {H : Hp} {Q : VK} : tLc wi g tt te vs σ H Q = wi σ H (lcR g tt te vs σ Q) := rfl
section
variable {T : Tb} {G : GA} {CM : FId → List W → M W} {k : Nat} {sc : Sc} {t : Tg} {mt : EnvW → M Bool} {me : ME}
theorem lc_core {σ : L2.St} {Q : VK} {K : PySem.W.Frag} {c1 : Cf} {env : EnvW} {ws : List W} {J : It} {E : Str → Cf → Prop} (hK : K = G.K) (ok1 : c1.ok G) (re : EnvR G c1 env σ) (hJ : IterOk G J ws c1) (q : Po G (kLCw t mt me env ws c1.ah) c1 (VQ G Q) E) :
    lcR (gTg K t) (tT G (fun _ _ _ _ => False) mt) (tE G (fun _ _ _ _ => False) me) t.slots σ Q J c1.H := by
  intro D hD
  have exD := Cf.new_ext (o := .lst []) (ao := .lst []) ok1 hD
  have okD : (c1.new D (.lst []) (.lst [])).ok G := Cf.new_ok ok1 hD ⟨[], upd_same, .nil⟩
  have q3 := Po.bind (c := c1.new D (.lst []) (.lst [])) (Po.bind.Po.later exD q)
  have rD : ∀ c3 : Cf, (c1.new D (.lst []) (.lst [])).ext c3 → c3.μ[c1.ah.length]? = some D := fun c3 ex => ex.pre _ _ (by show (c1.μ ++ [D])[c1.ah.length]? = some D; rw [← ok1.len]; simp)
  have re0 : EnvR G (c1.new D (.lst []) (.lst [])) (wipeW env t.slots) (L2.wipe σ t.slots) := (re.mono exD).wipe _
  refine ⟨fun i m H => m = ws.length - i ∧ i ≤ ws.length ∧ ∃ c2, c2.H = H ∧ c2.ok G ∧ (c1.new D (.lst []) (.lst [])).ext c2 ∧ Po G (cLoop c1.ah.length t mt me (ws.drop i) (wipeW env t.slots) c2.ah) c2 (fun _ c3 => VQ G Q (.r c1.ah.length) c3) (fun _ _ => True),
    ⟨ws.length, by simp, Nat.zero_le _, c1.new D (.lst []) (.lst []), rfl, okD, Cf.ext.refl _, Po.mono q3 (fun _ c3 e3 ok3 q4 => Po.here (a := W.r c1.ah.length) (F := VQ G Q) q4 ok3) fun _ _ _ _ _ => trivial⟩, ?_⟩
  rintro i m H1 ⟨rfl, hi1, c2, rfl, ok2, ex2, q4⟩
  by_cases hlt : i < ws.length
  · refine .inr ⟨hJ.go i c2 hlt (exD.trans ex2) ok2, fun H' => ∃ c3, c3.H = H' ∧ c3.ok G ∧ (c1.new D (.lst []) (.lst [])).ext c3 ∧ Po G (cLoop c1.ah.length t mt me (ws.drop (i + 1)) (wipeW env t.slots) c3.ah) c3 (fun _ c3 => VQ G Q (.r c1.ah.length) c3) (fun _ _ => True),
      fun H' h => ⟨ws.length - (i + 1), by omega, rfl, hlt, h⟩, fun x H' hy => ?_⟩
    obtain ⟨c3, w, ex3, ok3, rfl, eah, hw, rw3⟩ := hJ.yld i c2 x H' hlt (exD.trans ex2) ok2 hy
    rw [List.drop_eq_getElem_cons hlt] at q4
    have hw2 : ws[i] = w := by
      rw [List.getElem?_eq_getElem hlt] at hw
      exact Option.some.inj hw
    rw [hw2] at q4
    have q5 : Po G (cLoop c1.ah.length t mt me (w :: ws.drop (i + 1)) (wipeW env t.slots) c3.ah) c3 (fun _ c3 => VQ G Q (.r c1.ah.length) c3) (fun _ _ => True) := by
      rw [eah]
      exact Po.bind.Po.later ex3 q4
    cases hm : tgM t w (wipeW env t.slots) with
    | none =>
      simp only [cLoop, hm] at q5
      exact q5.elim
    | some env3 =>
      simp only [cLoop, hm] at q5
      refine gTg_ok (c := c3) hK (vs := t.slots) hm ((re0.mono ex2).mono ex3) rw3 (fun _ h => h) fun σ2 re4 hwp => ⟨by rw [hwp]; exact lc_read.wipe_wipe _ _, ?_⟩
      refine ⟨c3, env3, rfl, ok3, re4, Po.mono (noEx_po (Po.bind q5)) (fun b c4 e4 ok4 q6 => ?_) fun _ _ _ _ q => q⟩
      have ex4 := (ex2.trans ex3).trans e4
      cases b with
      | false => exact iteF ⟨c4, rfl, ok4, ex4, q6⟩
      | true =>
        refine iteT ⟨c4, env3, rfl, ok4, re4.mono e4, Po.mono (noEx_po (Po.bind q6)) (fun y c5 e5 ok5 q7 v rv => ?_) fun _ _ _ _ q => q⟩
        have ex5 := ex4.trans e5
        have q8 := Po.bind q7
        unfold pushM at q8
        split at q8
        · rename_i xs hx
          have hd := rD c5 ex5
          obtain ⟨us, hu, ru⟩ := ok5.obj _ D _ hd hx
          split at q8
          · rename_i hz
            obtain ⟨exP, okP⟩ := put_list ok5 hd hx (RWL.append ru (.cons rv .nil))
            exact ⟨us, hu, by rw [Paired.length ru]; exact hz, _, rfl, okP, ex5.trans exP, q8 _ exP okP rfl⟩
          · exact q8.elim
        · exact q8.elim
  · have e : i = ws.length := by omega
    subst e
    refine .inl ⟨hJ.stop c2 (exD.trans ex2) ok2, ?_⟩
    rw [List.drop_length] at q4
    have q6 := Po.here (a := ()) q4 ok2 (.ref D) ⟨D, rfl, rD c2 ex2⟩
    exact q6
/-! ### keys, values, entries -/
inductive DK where
  | key
  | val
  | itm
def rowW : DK → PyData × W → Option W
  | .key, (k, _) => some (.d k)
  | .val, (_, w) => some w
  | .itm, (k, .d x) => some (.d (.tuple [k, x]))
  | .itm, _ => none
def rowsW (kd : DK) : List (PyData × W) → Option (List W)
  | [] => some []
  | p :: ps => match rowW kd p, rowsW kd ps with
    | some w, some ws => some (w :: ws)
    | _, _ => none
def datW (ds : List (PyData × PyData)) : List (PyData × W) := ds.map fun p => (p.1, .d p.2)
def ItOf : DK → Addr → Obj → List (Key × V) → It
  | .key => Itk
  | .val => Itd
  | .itm => Iti
def iD (kd : DK) (td : TE) : TI := fun σ H R => td σ H fun x H1 => ∃ d o kvs, x = .ref d ∧ H1 d = some (.frz o (.dK kvs)) ∧ R (ItOf kd d o kvs) H1
theorem rows_get {kd : DK} : ∀ {kvs : List (PyData × W)} {ws : List W}, rowsW kd kvs = some ws → ws.length = kvs.length ∧ ∀ (i : Nat) (p : PyData × W), kvs[i]? = some p → ∃ w, rowW kd p = some w ∧ ws[i]? = some w
  | [], ws, h => by cases h; exact ⟨rfl, fun i p q => by simp at q⟩
  | p :: ps, ws, h => by
    unfold rowsW at h
    split at h
    · rename_i w ws' h1 h2
      cases h
      obtain ⟨e1, e2⟩ := rows_get h2
      refine ⟨by simp [e1], fun i q hq => ?_⟩
      cases i with
      | zero => have : p = q := by simpa using hq
                subst this; exact ⟨w, h1, rfl⟩
      | succ i => exact e2 i q (by simpa using hq)
    · cases h
theorem paired_get {α β : Type} {P : α → β → Prop} {xs : List α} {ys : List β} (h : Paired P xs ys) : ∀ {i : Nat} {x : α}, xs[i]? = some x → ∃ y, ys[i]? = some y ∧ P x y := by
  induction h with
  | nil => intro i x q; simp at q
  | cons h r ih =>
    intro i x q
    cases i with
    | zero =>
      simp only [List.getElem?_cons_zero, Option.some.injEq] at q
      subst q
      exact ⟨_, rfl, h⟩
    | succ i => exact ih (by simpa using q)
theorem iter_dic {kd : DK} {c : Cf} {a : Addr} {od : Obj} {xs : List (Key × V)} {kvs : List (PyData × W)} {ws : List W} (hs : ∀ c2, c.ext c2 → c2.H a = some (.frz od (.dK xs))) (r : PDW G c xs kvs) (hw : rowsW kd kvs = some ws) : IterOk G (ItOf kd a od xs) ws c := by
  obtain ⟨hl, hg⟩ := rows_get hw
  have len : xs.length = ws.length := by rw [Paired.length r, hl]
  have item : ∀ {i : Nat} {kk : Key} {v : V}, xs[i]? = some (kk, v) → ∃ w w0, ws[i]? = some w ∧ rowW kd (keyD kk, w0) = some w ∧ RW G c v w0 := fun {i kk v} h => by
    obtain ⟨⟨kd', w0⟩, h1, h2, h3⟩ := paired_get r h
    have h2' : kd' = keyD kk := h2
    subst h2'
    obtain ⟨w, h4, h5⟩ := hg i _ h1
    exact ⟨w, w0, h5, h4, h3⟩
  cases kd with
  | key =>
    exact ⟨fun i c2 hi ex _ => ⟨hs c2 ex, by omega⟩, fun c2 ex _ => ⟨hs c2 ex, by omega⟩, fun i c2 x H' hi ex ok2 y => by
      obtain ⟨e, kk, v, h1, h2⟩ := y
      subst e h2
      obtain ⟨w, w0, h3, h4, h5⟩ := item h1
      cases h4
      exact ⟨c2, _, Cf.ext.refl c2, ok2, rfl, rfl, h3, rp_key kk⟩⟩
  | val =>
    exact ⟨fun i c2 hi ex _ => ⟨hs c2 ex, by omega⟩, fun c2 ex _ => ⟨hs c2 ex, by omega⟩, fun i c2 x H' hi ex ok2 y => by
      obtain ⟨e, kk, h1⟩ := y
      subst e
      obtain ⟨w, w0, h3, h4, h5⟩ := item h1
      cases h4
      exact ⟨c2, _, Cf.ext.refl c2, ok2, rfl, rfl, h3, RW.mono ex h5⟩⟩
  | itm =>
    exact ⟨fun i c2 hi ex _ => ⟨hs c2 ex, by omega⟩, fun c2 ex _ => ⟨hs c2 ex, by omega⟩, fun i c2 x H' hi ex ok2 y => by
      obtain ⟨P, kk, v, h1, rfl, hP, rfl⟩ := y
      obtain ⟨w, w0, h3, h4, h5⟩ := item h1
      have ex2 := Cf.lay_ext (c := c2) (o := .tup [kV kk, v]) hP
      cases w0 with
      | d x =>
        cases h4
        exact ⟨c2.lay P (.tup [kV kk, v]), _, ex2, Cf.lay_ok ok2 hP, rfl, rfl, h3, .tup (Cf.lay_live ok2 hP) (.inl upd_same) (.cons (rp_key kk) (.cons (Rp.mono (ex.trans ex2) h5) .nil))⟩
      | r i => cases h4
      | fn i => cases h4
      | ex i => cases h4⟩
theorem dat_pdw {c : Cf} : ∀ {xs : List (Key × V)} {ds : List (PyData × PyData)}, RpD G.K c xs ds → PDW G c xs (datW ds)
  | _, _, .nil => .nil
  | _, _, .cons h r => .cons ⟨rfl, h⟩ (dat_pdw r)
/-! ### list comprehensions over a name's dict -/
def noExM {α : Type} (r : R α) (f : AH → AH) : R α := match r with
  | .ok a h => .ok a (f h)
  | _ => .no
def eLCd0 (kd : DK) (i : Nat) (t : Tg) (mt : EnvW → M Bool) (me : ME) : ME := fun env h => match env[i]? with
  | some (some (.r j)) => (match h[j]? with
    | some (.dic kvs) => (match rowsW kd kvs with
      | some ws => noExM (kLCw t mt me env ws (h.set j (.rod kvs))) fun h' => h'.set j (.dic kvs)
      | none => .no)
    | some (.rod kvs) => (match rowsW kd kvs with
      | some ws => noExM (kLCw t mt me env ws h) id
      | none => .no)
    | _ => .no)
  | some (some (.d (.dict ds))) => (match rowsW kd (datW ds) with
    | some ws => noExM (kLCw t mt me env ws h) id
    | none => .no)
  | _ => .no
theorem lcD_read {kd : DK} {i : Nat} {Wx : WX} {σ : L2.St} {H : Hp} {Q : VK} {K : PySem.W.Frag} (hK : K = G.K) (h : tE G Wx (eLCd0 kd i t mt me) σ H Q) :
    tLockE (tLc (iD kd (tVar i)) (gTg K t) (tT G (fun _ _ _ _ => False) mt) (tE G (fun _ _ _ _ => False) me) t.slots) σ H Q ∨ tLc (iD kd (tVar i)) (gTg K t) (tT G (fun _ _ _ _ => False) mt) (tE G (fun _ _ _ _ => False) me) t.slots σ H Q := by
  obtain ⟨c, env, e, ok, re, q⟩ := h
  subst e
  unfold eLCd0 at q
  have core : ∀ {c1 : Cf} {a : Addr} {od : Obj} {xs : List (Key × V)} {kvs : List (PyData × W)} {ws : List W} {f : AH → AH} {Q' : VK}, c1.ok G → EnvR G c1 env σ → σ[i]? = some (some (.ref a)) → c1.H a = some (.frz od (.dK xs)) → (∀ c2, c1.ext c2 → c2.H a = some (.frz od (.dK xs))) → PDW G c1 xs kvs → rowsW kd kvs = some ws →
      (∀ w c3, c1.ext c3 → c3.ok G → kLCw t mt me env ws c1.ah = .ok w c3.ah → VQ G Q' w c3) → (∃ w h', kLCw t mt me env ws c1.ah = .ok w h') → tLc (iD kd (tVar i)) (gTg K t) (tT G (fun _ _ _ _ => False) mt) (tE G (fun _ _ _ _ => False) me) t.slots σ c1.H Q' := by
    intro c1 a od xs kvs ws f Q' ok1 re1 hv hH hs r hw hq ⟨w, h', hk⟩
    rw [tLc_eq]
    refine ⟨.ref a, hv, a, od, xs, rfl, hH, lc_core hK ok1 re1 (iter_dic hs r hw) (E := fun _ _ => True) ?_⟩
    rw [hk]
    intro c3 ex3 ok3 e3
    exact hq w c3 ex3 ok3 (by rw [hk, e3])
  have okk : ∀ {α : Type} {r : R α} {f : AH → AH} {F : α → Cf → Prop} {E : Str → Cf → Prop}, Po G (noExM r f) c F E → ∃ w h', r = .ok w h' ∧ Po G (.ok w (f h')) c F E := fun {α r f F E} h => by
    unfold noExM at h
    split at h
    · exact ⟨_, _, rfl, h⟩
    · exact h.elim
  split at q
  · rename_i j hj
    obtain ⟨v, hv, rv⟩ := re.2 i _ hj
    split at q
    · rename_i kvs ho
      obtain ⟨a, rfl, hm, xs, hx, r⟩ := rRef ok rv ho
      split at q
      · rename_i ws hw
        obtain ⟨w, h', hk, q⟩ := okk q
        left
        refine ⟨a, .dK xs, hx, trivial, fun od => ?_⟩
        have ok1 := lkT_ok (od := od) ok hm ho hx r
        have hr := fun b o (_ : ¬ c.live b) po q => (lk_rd (od := od) hx).1 b o po q
        refine core (c1 := ⟨upd c.H a (.frz od (.dK xs)), c.μ, c.ah.set j (.rod kvs)⟩) (f := id) ok1 (EnvR.rd (c := c) (c' := ⟨upd c.H a (.frz od (.dK xs)), c.μ, c.ah.set j (.rod kvs)⟩) rfl hr (lk_rd hx).2 re) hv upd_same (fun c2 ex => ?_) (L2.Paired.mapP r fun _ _ q => ⟨q.1, RW.rd (c := c) (c' := ⟨upd c.H a (.frz od (.dK xs)), c.μ, c.ah.set j (.rod kvs)⟩) rfl hr (lk_rd hx).2 q.2⟩) hw (fun w3 c3 ex3 ok3 e3 v rv3 => ?_) ⟨w, h', hk⟩
        · exact (ex.rod j a kvs _ hm (List.getElem?_set_self (List.getElem?_eq_some_iff.mp ho).1) upd_same).1
        · obtain ⟨u1, u2, u3, u4⟩ := ulT ok hm ho hx r ex3 ok3
          refine ⟨u1, ?_⟩
          have e4 : (R.ok w h' : R W) = .ok w3 c3.ah := hk.symm.trans e3
          cases e4
          exact q _ u2 u3 rfl v (u4 v w rv3)
      · exact q.elim
    · rename_i kvs ho
      obtain ⟨a, rfl, hm, xs, od, hx, r⟩ := rRef ok rv ho
      split at q
      · rename_i ws hw
        obtain ⟨w, h', hk, q⟩ := okk q
        right
        refine core (f := id) ok re hv hx (fun c2 ex => (ex.rod j a kvs _ hm ho hx).1) r hw (fun w3 c3 ex3 ok3 e3 v rv3 => ?_) ⟨w, h', hk⟩
        have e4 : (R.ok w h' : R W) = .ok w3 c3.ah := hk.symm.trans e3
        cases e4
        exact q _ ex3 ok3 rfl v rv3
      · exact q.elim
    · exact q.elim
  · rename_i ds hj
    obtain ⟨v, hv, rv⟩ := re.2 i _ hj
    split at q
    · rename_i ws hw
      obtain ⟨w, h', hk, q⟩ := okk q
      cases (show Rp G.K c v (.dict ds) from rv) with
      | dic l1 h1 r1 =>
        rename_i a xs
        rcases h1 with h1 | ⟨od, h1⟩
        · left
          refine ⟨a, .dK xs, h1, trivial, fun od => ?_⟩
          have ok1 := lkD_ok (od := od) ok h1 l1
          have hr := fun b o (_ : ¬ c.live b) po q => (lk_rd (od := od) h1).1 b o po q
          refine core (c1 := ⟨upd c.H a (.frz od (.dK xs)), c.μ, c.ah⟩) (f := id) ok1 (EnvR.rd (c := c) (c' := ⟨upd c.H a (.frz od (.dK xs)), c.μ, c.ah⟩) rfl hr (lk_rd h1).2 re) hv upd_same (fun c2 ex => (ex.keep a _ upd_same l1).1) (L2.Paired.mapP (dat_pdw r1) fun _ _ q => ⟨q.1, RW.rd (c := c) (c' := ⟨upd c.H a (.frz od (.dK xs)), c.μ, c.ah⟩) rfl hr (lk_rd h1).2 q.2⟩) hw (fun w3 c3 ex3 ok3 e3 v rv3 => ?_) ⟨w, h', hk⟩
          obtain ⟨u1, u2, u3, u4⟩ := ulD ok h1 l1 ex3 ok3
          refine ⟨u1, ?_⟩
          have e4 : (R.ok w h' : R W) = .ok w3 c3.ah := hk.symm.trans e3
          cases e4
          exact q _ u2 u3 rfl v (u4 v w rv3)
        · right
          refine core (f := id) ok re hv h1 (fun c2 ex => (ex.keep a _ h1 l1).1) (dat_pdw r1) hw (fun w3 c3 ex3 ok3 e3 v rv3 => ?_) ⟨w, h', hk⟩
          have e4 : (R.ok w h' : R W) = .ok w3 c3.ah := hk.symm.trans e3
          cases e4
          exact q _ ex3 ok3 rfl v rv3
    · exact q.elim
  · exact q.elim
/-! ### the shapes -/
def isTupE : Expr → Bool
  | .Tuple .. => true
  | _ => false
def dShape (T : Tb) (sc : Sc) (tg : Expr) : Expr → Option (DK × Nat)
  | .Name x _ => if T.dnames.contains x then (slot sc x).map fun i => (.key, i) else none
  | .Call (.Attribute (.Name x _) m apos) [] [] cpos => if apos.endLine == cpos.line then (match slot sc x with
      | some i => if m = ("keys" : Str) then some (.key, i) else if m = ("values" : Str) then some (.val, i) else if m = ("items" : Str) ∧ isTupE tg = true then some (.itm, i) else none
      | none => none) else none
  | _ => none
theorem pi_dic {X : Cx} {Wx : WX} (F : Fits T G CM k X sc Wx) {tg it : Expr} {kd : DK} {i : Nat} (h : dShape T sc tg it = some (kd, i)) : PI X tg it (iD kd (tVar i)) := by
  have pv : ∀ {x : Str} {p : Pos}, slot sc x = some i → PE X (.Name x p) (tVar i) := fun {x p} h => by
    obtain ⟨h1, h2, h3, h4⟩ := slot_ok h
    exact pe_var (X := X) (i := i) (pos := p) (by rw [F.N]; exact h1) (by rw [F.scope]; exact h2) h3 h4
  unfold dShape at h
  split at h
  · split at h
    · rename_i x p _
      cases hs : slot sc x with
      | none => rw [hs] at h; cases h
      | some i' =>
        rw [hs] at h
        cases h
        exact PI.imp (pi_keys (pv hs)) fun σ H R ⟨v, hv, d, o, kvs, e, hH, q⟩ => ⟨v, hv, d, o, e, .inl ⟨kvs, hH, q⟩⟩
    · cases h
  · rename_i x p m apos cpos
    split at h
    · rename_i hl
      split at h
      · rename_i i' hs
        split at h
        · rename_i hm
          cases h
          subst hm
          exact PI.imp (pi_keysM (pv hs) (okBase_ok rfl _ _) hl) fun σ H R q => q
        · split at h
          · rename_i hm
            cases h
            subst hm
            exact PI.imp (pi_values (pv hs) (okBase_ok rfl _ _) hl) fun σ H R q => q
          · split at h
            · rename_i hm
              obtain ⟨hm, ht⟩ := hm
              cases h
              subst hm
              cases tg with
              | Tuple es kk tp => exact PI.imp (pi_items (pv hs) (okBase_ok rfl _ _) hl) fun σ H R q => q
              | _ => exact Bool.noConfusion (show false = true from ht)
            · cases h
      · cases h
    · cases h
  · cases h
theorem PE.orr {X : Cx} {e : Expr} {t t' : TE} (h : PE X e t) (h' : PE X e t') : PE X e (fun σ H Q => t σ H Q ∨ t' σ H Q) := ⟨fun p s σ H Q I q => by
  rcases q with q | q
  · exact h.run p s σ H Q I q
  · exact h'.run p s σ H Q I q⟩
theorem PS.orr {X : Cx} {e : Stmt} {t t' : TS} (h : PS X e t) (h' : PS X e t') : PS X e (fun D σ H => t D σ H ∨ t' D σ H) := ⟨fun p s σ H D I q => by
  rcases q with q | q
  · exact h.run p s σ H D I q
  · exact h'.run p s σ H D I q⟩
variable {tg it elt : Expr} {ifs : List Expr} {scope : Scope} {kd : DK} {i : Nat} {pos spos py : Pos}
theorem se_lcD (ht : lcT sc scope tg = some t) (hd : dShape T sc tg it = some (kd, i)) (hn : noSetE it = true) (hif : ST0 T G CM k (blkSc sc scope) ifs mt) (he : SE T G CM k (blkSc sc scope) elt me) : SE T G CM k sc (.ListComp elt [⟨tg, it, ifs, 0⟩] scope pos) (eLCd0 kd i t mt me) := fun X Wx F => by
  obtain ⟨own, h1, h2, h3⟩ := lcT_ok ht
  have hb : BlkOk X.N X.env.scope scope own := by rw [F.N, F.scope]; exact h1
  have P := pe_lc (pos := pos) (g := gTg X.K t) F.calm F.ndN (pi_dic F hd) hb (fun s H C cl fp => pg_tg (F.blk scope s H C cl fp) h3) (fun s H C cl fp => hif _ _ (F.blk scope s H C cl fp)) (fun s H C cl fp => he _ _ (F.blk scope s H C cl fp)) (noSetE_ok hn _)
  rw [h2] at P
  exact PE.imp (PE.orr (pe_lock P) P) fun σ H Q q => lcD_read F.K q
theorem ss_setLcD {y : Str} {l : Nat} (hy : sc.scope.names.lookup y = some .local) (hi2 : sc.N.idxOf? y = some l) (hk : sc.scope.kind = .function) (hl : (py.line == pos.line) = true) (hany : (scope.names.any fun (n, k) => n == y && (k == .local || k == .cell)) = false)
    (ht : lcT sc scope tg = some t) (hd : dShape T sc tg it = some (kd, i)) (hn : noSetE it = true) (hif : ST0 T G CM k (blkSc sc scope) ifs mt) (he : SE T G CM k (blkSc sc scope) elt me) : SS T G CM k sc (.Assign [.Name y py] (.ListComp elt [⟨tg, it, ifs, 0⟩] scope pos) spos) (sSet l (eLCd0 kd i t mt me)) := fun X Ex F hp hs hf => by
  obtain ⟨own, h1, h2, h3⟩ := lcT_ok ht
  have hb : BlkOk X.N X.env.scope scope own := by rw [F.N, F.scope]; exact h1
  have hyX : X.env.scope.names.lookup y = some .local := by rw [F.scope]; exact hy
  have P := ps_setLc (spos := spos) (pos := pos) (g := gTg X.K t) (i := l) F.calm F.ndN (by rw [F.N]; exact idx_at hi2) hyX (sw_true (by rw [F.scope]; exact hk) hyX hl hany) (pi_dic F hd) hb (fun s H C cl fp => pg_tg (F.blk scope s H C cl fp) h3) (fun s H C cl fp => hif _ _ (F.blk scope s H C cl fp)) (fun s H C cl fp => he _ _ (F.blk scope s H C cl fp)) (noSetE_ok hn _)
  rw [h2] at P
  refine PS.imp (PS.orr (ps_lock P) P) fun D σ H ⟨c, env, e, ok, re, q⟩ => ?_
  subst e
  have q0 : tE G (fun cls d _ H => Ex cls d H) (eLCd0 kd i t mt me) σ c.H (fun v H1 => D.nx (σ.set l (some v)) H1) := tE.step ok re q fun w c1 v e1 ok1 re1 rv q1 => Po.here (a := Fl.nx (env.set l (some w))) q1 ok1 _ (re1.set rv)
  exact lcD_read F.K q0
end
end Ev
set_option Elab.async false
set_option linter.all false
set_option maxRecDepth 100000
set_option maxHeartbeats 4000000
/-! E14p: loops over dicts, in the evaluator. -/
namespace Ev
open PySem PySem.Spec PyProof.Rows L2
section
variable {T : Tb} {G : GA} {CM : FId → List W → M W} {k : Nat} {sc : Sc} {t : Tg}
/-! ### loops over a name's dict -/
def forR (g : TG) (tb : TS) (D : Ends) (σ : L2.St) (J : It) (H1 : Hp) : Prop :=
  ∃ W : Nat → Nat → L2.St → Hp → Prop, (∃ m, W 0 m σ H1) ∧ ∀ (i m : Nat) (σ : L2.St) (H : Hp), W i m σ H →
    J.stop i H ∧ D.nx σ H ∨ J.go i H ∧ ∃ N : L2.St → Hp → Prop, (∀ (σ' : L2.St) (H' : Hp), N σ' H' → ∃ m', m' < m ∧ W (i + 1) m' σ' H') ∧ ∀ (x : V) (H' : Hp), J.yld i H x H' → g x σ H' fun σ2 H2 => tb { nx := N, rt := D.rt, bk := D.nx, ct := N } σ2 H2
theorem tFor_eq {wi : TI} {g : TG} {tb : TS} {D : Ends} {σ : L2.St} {H : Hp} : tFor wi g tb D σ H = wi σ H (forR g tb D σ) := rfl
theorem for_core {σ : L2.St} {K : PySem.W.Frag} {c1 : Cf} {env : EnvW} {ws : List W} {J : It} {D : Ends} {Ex : XK} {ms : MS} (hK : K = G.K) (ok1 : c1.ok G) (re : EnvR G c1 env σ) (hJ : IterOk G J ws c1) (q : Po G (floop t ms ws env c1.ah) c1 (FlP G D) (fun e c3 => ∀ C, G.xa e = some C → Ex (.ref C) none c3.H)) :
    forR (gTg K t) (tS G Ex ms) D σ J c1.H := by
  refine ⟨fun i m σ H => m = ws.length - i ∧ i ≤ ws.length ∧ ∃ c2 env2, c2.H = H ∧ c2.ok G ∧ c1.ext c2 ∧ EnvR G c2 env2 σ ∧ Po G (floop t ms (ws.drop i) env2 c2.ah) c2 (fun a c3 => FlP G D a c3) (fun e c3 => ∀ C, G.xa e = some C → Ex (.ref C) none c3.H),
    ⟨ws.length, by simp, Nat.zero_le _, c1, env, rfl, ok1, Cf.ext.refl _, re, q⟩, ?_⟩
  rintro i m σ1 H1 ⟨rfl, hi1, c2, env2, rfl, ok2, ex2, re2, q3⟩
  by_cases hlt : i < ws.length
  · refine .inr ⟨hJ.go i c2 hlt ex2 ok2, fun σ' H' => ∃ c3 env3, c3.H = H' ∧ c3.ok G ∧ c1.ext c3 ∧ EnvR G c3 env3 σ' ∧ Po G (floop t ms (ws.drop (i + 1)) env3 c3.ah) c3 (fun a c3 => FlP G D a c3) (fun e c3 => ∀ C, G.xa e = some C → Ex (.ref C) none c3.H),
      fun σ' H' h => ⟨ws.length - (i + 1), by omega, rfl, hlt, h⟩, fun x H' hy => ?_⟩
    obtain ⟨c3, w, ex3, ok3, rfl, eah, hw, rw3⟩ := hJ.yld i c2 x H' hlt ex2 ok2 hy
    rw [List.drop_eq_getElem_cons hlt] at q3
    have hw2 : ws[i] = w := by
      rw [List.getElem?_eq_getElem hlt] at hw
      exact Option.some.inj hw
    rw [hw2] at q3
    have q4 : Po G (floop t ms (w :: ws.drop (i + 1)) env2 c3.ah) c3 (fun a c3 => FlP G D a c3) (fun e c3 => ∀ C, G.xa e = some C → Ex (.ref C) none c3.H) := by
      rw [eah]
      exact Po.bind.Po.later ex3 q3
    cases hm : tgM t w env2 with
    | none =>
      simp only [floop, hm] at q4
      exact q4.elim
    | some env3 =>
      simp only [floop, hm] at q4
      refine gTg_ok (c := c3) hK (vs := t.slots) hm (re2.mono ex3) rw3 (fun _ h => h) fun σ2 re4 _ => ?_
      refine ⟨c3, env3, rfl, ok3, re4, Po.mono (Po.bind q4) (fun fl c4 e4 ok4 q5 => ?_) fun e' c4 e4 ok4 q5 C hC => q5 C hC⟩
      have ex4 := (ex2.trans ex3).trans e4
      cases fl with
      | nx env' => exact fun σ' re' => ⟨c4, env', rfl, ok4, ex4, re', q5⟩
      | ct env' => exact fun σ' re' => ⟨c4, env', rfl, ok4, ex4, re', q5⟩
      | bk env' =>
        intro σ' re'
        have q6 := Po.here (a := Fl.nx env') q5 ok4 σ' re'
        exact q6
      | rt w =>
        intro v rv
        have q6 := Po.here (a := Fl.rt w) q5 ok4 v rv
        exact q6
  · have e : i = ws.length := by omega
    subst e
    refine .inl ⟨hJ.stop c2 ex2 ok2, ?_⟩
    rw [List.drop_length] at q3
    have q6 := Po.here (a := Fl.nx env2) q3 ok2 σ1 re2
    exact q6

def sForD (kd : DK) (i : Nat) (t : Tg) (ms : MS) : MS := fun env h => match env[i]? with
  | some (some (.r j)) => (match h[j]? with
    | some (.dic kvs) => (match rowsW kd kvs with
      | some ws => noExM (floop t ms ws env (h.set j (.rod kvs))) fun h' => h'.set j (.dic kvs)
      | none => .no)
    | some (.rod kvs) => (match rowsW kd kvs with
      | some ws => noExM (floop t ms ws env h) id
      | none => .no)
    | _ => .no)
  | some (some (.d (.dict ds))) => (match rowsW kd (datW ds) with
    | some ws => noExM (floop t ms ws env h) id
    | none => .no)
  | _ => .no
theorem forD_read {kd : DK} {i : Nat} {Ex : XK} {σ : L2.St} {H : Hp} {D : Ends} {ms : MS} {K : PySem.W.Frag} (hK : K = G.K) (h : tS G Ex (sForD kd i t ms) D σ H) :
    tLock (tFor (iD kd (tVar i)) (gTg K t) (tS G Ex ms)) D σ H ∨ tFor (iD kd (tVar i)) (gTg K t) (tS G Ex ms) D σ H := by
  obtain ⟨c, env, e, ok, re, q⟩ := h
  subst e
  unfold sForD at q
  have core : ∀ {c1 : Cf} {a : Addr} {od : Obj} {xs : List (Key × V)} {kvs : List (PyData × W)} {ws : List W} {D' : Ends}, c1.ok G → EnvR G c1 env σ → σ[i]? = some (some (.ref a)) → c1.H a = some (.frz od (.dK xs)) → (∀ c2, c1.ext c2 → c2.H a = some (.frz od (.dK xs))) → PDW G c1 xs kvs → rowsW kd kvs = some ws →
      (∀ w c3, c1.ext c3 → c3.ok G → floop t ms ws env c1.ah = .ok w c3.ah → FlP G D' w c3) → (∃ w h', floop t ms ws env c1.ah = .ok w h') → tFor (iD kd (tVar i)) (gTg K t) (tS G Ex ms) D' σ c1.H := by
    intro c1 a od xs kvs ws D' ok1 re1 hv hH hs r hw hq ⟨w, h', hk⟩
    rw [tFor_eq]
    refine ⟨.ref a, hv, a, od, xs, rfl, hH, for_core hK ok1 re1 (iter_dic hs r hw) ?_⟩
    rw [hk]
    intro c3 ex3 ok3 e3
    exact hq w c3 ex3 ok3 (by rw [hk, e3])
  have okk : ∀ {α : Type} {r : R α} {f : AH → AH} {F : α → Cf → Prop} {E : Str → Cf → Prop}, Po G (noExM r f) c F E → ∃ w h', r = .ok w h' ∧ Po G (.ok w (f h')) c F E := fun {α r f F E} h => by
    unfold noExM at h
    split at h
    · exact ⟨_, _, rfl, h⟩
    · exact h.elim
  -- what comes out of a lock
  have flw : ∀ {c3 c4 : Cf} {fl : Fl} {d : Addr} {u : HO} {od : Obj}, c3.H d = some (.frz od u) → c4.H = upd c3.H d u → (∀ v w, RW G c3 v w → RW G c4 v w) → FlP G D fl c4 →
      FlP G ⟨fun σ' H' => H' d = some (HO.frz od u) ∧ D.nx σ' (upd H' d u), fun v H' => H' d = some (HO.frz od u) ∧ D.rt v (upd H' d u), fun σ' H' => H' d = some (HO.frz od u) ∧ D.bk σ' (upd H' d u), fun σ' H' => H' d = some (HO.frz od u) ∧ D.ct σ' (upd H' d u)⟩ fl c3 := by
    intro c3 c4 fl d u od h1 h2 h3 h4
    have re' : ∀ {e : EnvW} {σ' : L2.St}, EnvR G c3 e σ' → EnvR G c4 e σ' := fun r => ⟨r.1, fun i w q => let ⟨v, z1, z2⟩ := r.2 i w q; ⟨v, z1, h3 _ _ z2⟩⟩
    cases fl with
    | nx e => intro σ' r; exact ⟨h1, by rw [← h2]; exact h4 σ' (re' r)⟩
    | rt w => intro v r; exact ⟨h1, by rw [← h2]; exact h4 v (h3 _ _ r)⟩
    | bk e => intro σ' r; exact ⟨h1, by rw [← h2]; exact h4 σ' (re' r)⟩
    | ct e => intro σ' r; exact ⟨h1, by rw [← h2]; exact h4 σ' (re' r)⟩
  split at q
  · rename_i j hj
    obtain ⟨v, hv, rv⟩ := re.2 i _ hj
    split at q
    · rename_i kvs ho
      obtain ⟨a, rfl, hm, xs, hx, r⟩ := rRef ok rv ho
      split at q
      · rename_i ws hw
        obtain ⟨w, h', hk, q⟩ := okk q
        left
        refine ⟨a, .dK xs, hx, trivial, fun od => ?_⟩
        have ok1 := lkT_ok (od := od) ok hm ho hx r
        have hr := fun b o (_ : ¬ c.live b) po q => (lk_rd (od := od) hx).1 b o po q
        refine core (c1 := ⟨upd c.H a (.frz od (.dK xs)), c.μ, c.ah.set j (.rod kvs)⟩) ok1 (EnvR.rd (c := c) (c' := ⟨upd c.H a (.frz od (.dK xs)), c.μ, c.ah.set j (.rod kvs)⟩) rfl hr (lk_rd hx).2 re) hv upd_same (fun c2 ex => ?_) (L2.Paired.mapP r fun _ _ q => ⟨q.1, RW.rd (c := c) (c' := ⟨upd c.H a (.frz od (.dK xs)), c.μ, c.ah.set j (.rod kvs)⟩) rfl hr (lk_rd hx).2 q.2⟩) hw (fun w3 c3 ex3 ok3 e3 => ?_) ⟨w, h', hk⟩
        · exact (ex.rod j a kvs _ hm (List.getElem?_set_self (List.getElem?_eq_some_iff.mp ho).1) upd_same).1
        · obtain ⟨u1, u2, u3, u4⟩ := ulT ok hm ho hx r ex3 ok3
          have e4 : (R.ok w h' : R Fl) = .ok w3 c3.ah := hk.symm.trans e3
          cases e4
          exact flw u1 rfl u4 (q _ u2 u3 rfl)
      · exact q.elim
    · rename_i kvs ho
      obtain ⟨a, rfl, hm, xs, od, hx, r⟩ := rRef ok rv ho
      split at q
      · rename_i ws hw
        obtain ⟨w, h', hk, q⟩ := okk q
        right
        refine core ok re hv hx (fun c2 ex => (ex.rod j a kvs _ hm ho hx).1) r hw (fun w3 c3 ex3 ok3 e3 => ?_) ⟨w, h', hk⟩
        have e4 : (R.ok w h' : R Fl) = .ok w3 c3.ah := hk.symm.trans e3
        cases e4
        exact q _ ex3 ok3 rfl
      · exact q.elim
    · exact q.elim
  · rename_i ds hj
    obtain ⟨v, hv, rv⟩ := re.2 i _ hj
    split at q
    · rename_i ws hw
      obtain ⟨w, h', hk, q⟩ := okk q
      cases (show Rp G.K c v (.dict ds) from rv) with
      | dic l1 h1 r1 =>
        rename_i a xs
        rcases h1 with h1 | ⟨od, h1⟩
        · left
          refine ⟨a, .dK xs, h1, trivial, fun od => ?_⟩
          have ok1 := lkD_ok (od := od) ok h1 l1
          have hr := fun b o (_ : ¬ c.live b) po q => (lk_rd (od := od) h1).1 b o po q
          refine core (c1 := ⟨upd c.H a (.frz od (.dK xs)), c.μ, c.ah⟩) ok1 (EnvR.rd (c := c) (c' := ⟨upd c.H a (.frz od (.dK xs)), c.μ, c.ah⟩) rfl hr (lk_rd h1).2 re) hv upd_same (fun c2 ex => (ex.keep a _ upd_same l1).1) (L2.Paired.mapP (dat_pdw r1) fun _ _ q => ⟨q.1, RW.rd (c := c) (c' := ⟨upd c.H a (.frz od (.dK xs)), c.μ, c.ah⟩) rfl hr (lk_rd h1).2 q.2⟩) hw (fun w3 c3 ex3 ok3 e3 => ?_) ⟨w, h', hk⟩
          obtain ⟨u1, u2, u3, u4⟩ := ulD ok h1 l1 ex3 ok3
          have e4 : (R.ok w h' : R Fl) = .ok w3 c3.ah := hk.symm.trans e3
          cases e4
          exact flw u1 rfl u4 (q _ u2 u3 rfl)
        · right
          refine core ok re hv h1 (fun c2 ex => (ex.keep a _ h1 l1).1) (dat_pdw r1) hw (fun w3 c3 ex3 ok3 e3 => ?_) ⟨w, h', hk⟩
          have e4 : (R.ok w h' : R Fl) = .ok w3 c3.ah := hk.symm.trans e3
          cases e4
          exact q _ ex3 ok3 rfl
    · exact q.elim
  · exact q.elim
variable {tg it : Expr} {kd : DK} {i : Nat} {pos : Pos} {body : List Stmt} {ms : MS}
theorem ss_forD (ht : tgOf sc tg = some t) (hd : dShape T sc tg it = some (kd, i)) (hb : SSs T G CM k sc body ms) (hn : noSetE it = true) : SS T G CM k sc (.For tg it body [] pos) (sForD kd i t ms) := fun X Ex F hp hs hf => by
  have P := ps_for (pos := pos) hp F.calm (pi_dic F hd) (pg_tg F ht) (hb X Ex F hp hs hf) (noSetE_ok hn _)
  exact PS.imp (PS.orr (ps_lock P) P) fun D σ H q => forD_read F.K q
end
end Ev
set_option Elab.async false
set_option linter.all false
set_option maxRecDepth 100000
set_option maxHeartbeats 4000000
/-! E14q: dict displays, in the evaluator. -/
namespace Ev
open PySem PySem.Spec PyProof.Rows L2
def kPair (mv : ME) (env : EnvW) (r : M (List (Key × W))) (kw : W) : M (List (Key × W)) := match kw with
  | .d kd => (match keyOf kd with
    | some kk => mbind (mv env) fun w => mbind r fun ps => mpure ((kk, w) :: ps)
    | none => mno)
  | _ => mno
def ePairs : List (ME × ME) → EnvW → M (List (Key × W))
  | [], _ => mpure []
  | (mk, mv) :: r, env => mbind (mk env) (kPair mv env (ePairs r env))
def mergeWW (kvs : List (Key × W)) : List (PyData × W) := kvs.foldl (fun acc kv => putDW kv.1 kv.2 acc) []
def eDisp (ms : List (ME × ME)) : ME := fun env h => match ePairs ms env (h ++ [.dic []]) with
  | .ok ps h' => (match h'[h.length]? with
    | some (.dic []) => if ps.length ≤ 15 then .ok (.r h.length) (h'.set h.length (.dic (mergeWW ps))) else .no
    | _ => .no)
  | .ex c h' => .ex c h'
  | .no => .no
section
variable {T : Tb} {G : GA} {CM : FId → List W → M W} {k : Nat} {sc : Sc} {c : Cf}
abbrev PKW (G : GA) (c : Cf) : List (Key × V) → List (Key × W) → Prop := Paired (fun (p : Key × V) (q : Key × W) => p.1 = q.1 ∧ RW G c p.2 q.2)
theorem merge_pdwW : ∀ {kvs : List (Key × V)} {kds : List (Key × W)} {acc : List (Key × V)} {ac : List (PyData × W)}, PKW G c kvs kds → PDW G c acc ac → PDW G c (mergeK acc kvs) (kds.foldl (fun acc kv => putDW kv.1 kv.2 acc) ac)
  | _, _, _, _, .nil, r => r
  | (kk, v) :: kvs, (kk', d) :: kds, acc, ac, .cons h t, r => by
    obtain ⟨h1, h2⟩ := h
    have h1' : kk = kk' := h1
    subst h1'
    show PDW G c (mergeK (putK acc kk v) kvs) (kds.foldl (fun acc kv => putDW kv.1 kv.2 acc) (putDW kk d ac))
    exact merge_pdwW t (pdw_put h2 r)
theorem pairs_read {Wx : WX} {σ : L2.St} {env : EnvW} : ∀ (ms : List (ME × ME)) {c : Cf} {Q : List (V × V) → Hp → Prop}, c.ok G → EnvR G c env σ → Po G (ePairs ms env c.ah) c (fun ps c' => ∀ kvs, PKW G c' kvs ps → Q (kvs.map fun kv => (kV kv.1, kv.2)) c'.H) (fun e c' => WEx G Wx e σ c'.H) →
    tPairs (ms.map fun m => (tE G Wx m.1, tE G Wx m.2)) σ c.H Q
  | [], c, Q, ok, re, q => Po.here (a := ([] : List (Key × W))) q ok [] .nil
  | (mk, mv) :: ms, c, Q, ok, re, q => by
    show tE G Wx mk σ c.H fun a H1 => tE G Wx mv σ H1 fun b H2 => tPairs (ms.map fun m => (tE G Wx m.1, tE G Wx m.2)) σ H2 fun ps H3 => Q ((a, b) :: ps) H3
    refine tE.step ok re q fun w c1 v e1 ok1 re1 rv q1 => ?_
    cases w with
    | d kd =>
      cases hk : keyOf kd with
      | none =>
        simp only [kPair, hk] at q1
        exact q1.elim
      | some kk =>
        simp only [kPair, hk] at q1
        rw [rKey rv hk]
        refine tE.step ok1 re1 q1 fun w2 c2 v2 e2 ok2 re2 rv2 q2 => ?_
        refine pairs_read ms ok2 re2 (Po.mono (Po.bind q2) (fun ps c3 e3 ok3 q3 kvs hp => ?_) fun _ _ _ _ q => q)
        exact Po.here (a := ((kk, w2) :: ps)) q3 ok3 ((kk, v2) :: kvs) (.cons ⟨rfl, RW.mono e3 rv2⟩ hp)
    | r i => exact q1.elim
    | fn i => exact q1.elim
    | ex i => exact q1.elim
def SPs (T : Tb) (G : GA) (CM : FId → List W → M W) (k : Nat) (sc : Sc) (pos : Pos) (keys : List (Option Expr)) (values : List Expr) (ms : List (ME × ME)) : Prop := ∀ X Wx, Fits T G CM k X sc Wx → PPs X pos keys values (ms.map fun m => (tE G Wx m.1, tE G Wx m.2))
theorem sps_nil {pos : Pos} : SPs T G CM k sc pos [] [] [] := fun X Wx F => pps_nil
theorem sps_cons {pos : Pos} {a b : Expr} {ks : List (Option Expr)} {vs : List Expr} {ma mb_ : ME} {ms : List (ME × ME)} (ha : SE T G CM k sc a ma) (hb : SE T G CM k sc b mb_) (h : SPs T G CM k sc pos ks vs ms) : SPs T G CM k sc pos (some a :: ks) (b :: vs) ((ma, mb_) :: ms) := fun X Wx F => pps_cons (ha X Wx F) (hb X Wx F) (h X Wx F)
theorem se_disp {pos : Pos} {keys : List (Option Expr)} {values : List Expr} {ms : List (ME × ME)} (h : SPs T G CM k sc pos keys values ms) (h1 : (keys.all fun x => x.isSome) = true) (h2 : keys.length = values.length) (h3 : keys ≠ []) (h4 : keys.length ≤ 15) : SE T G CM k sc (.Dict keys values pos) (eDisp ms) := fun X Wx F => by
  refine PE.imp (pe_disp (h X Wx F) h1 h2 h3 h4) fun σ H Q ⟨c, env, e, ok, re, q⟩ => ?_
  subst e
  intro p hp
  have ex1 := Cf.new_ext (o := .dK []) (ao := .dic []) ok hp
  have ok1 : (c.new p (.dK []) (.dic [])).ok G := Cf.new_ok ok hp ⟨[], upd_same, .nil⟩
  have hp1 : (c.new p (.dK []) (.dic [])).μ[c.ah.length]? = some p := by
    show (c.μ ++ [p])[c.ah.length]? = some p
    rw [← ok.len]; simp
  refine pairs_read (c := c.new p (.dK []) (.dic [])) ms ok1 (re.mono ex1) ?_
  show Po G (ePairs ms env (c.ah ++ [.dic []])) (c.new p (.dK []) (.dic [])) _ _
  unfold eDisp at q
  cases hr : ePairs ms env (c.ah ++ [.dic []]) with
  | no => rw [hr] at q; exact q
  | ex e h' =>
    rw [hr] at q
    exact Po.bind.Po.later ex1 q
  | ok ps h' =>
    rw [hr] at q
    intro c' ex' ok' e' kvs hk
    simp only at q
    split at q
    · rename_i hd
      split at q
      · rename_i hz
        have hm := ex'.pre _ _ hp1
        rw [← e'] at hd
        obtain ⟨xs, hx, rx⟩ := ok'.obj _ p _ hm hd
        cases rx
        refine ⟨hx, kvs, rfl, by rw [Paired.length hk]; exact hz, ?_⟩
        obtain ⟨exP, okP⟩ := put_dic ok' hm hd (merge_pdwW hk .nil)
        have := q _ ((ex1.trans ex').trans exP) okP (by show c'.ah.set _ _ = _; rw [e']; rfl)
        exact this (.ref p) ⟨p, rfl, hm⟩
      · exact q.elim
    · exact q.elim
end
end Ev
set_option Elab.async false
set_option linter.all false
set_option maxRecDepth 100000
set_option maxHeartbeats 4000000
/-! E14r: dict comprehensions, in the evaluator. -/
namespace Ev
open PySem PySem.Spec PyProof.Rows L2
def pushD (i : Nat) (kw y : W) : M Unit := fun h => match kw with
  | .d kd => (match keyOf kd, h[i]? with
    | some kk, some (.dic kvs) => if kvs.length < sizeLine then .ok () (h.set i (.dic (putDW kk y kvs))) else .no
    | _, _ => .no)
  | _ => .no
def dLoop (id : Nat) (t : Tg) (tt : EnvW → M Bool) (mk mv : ME) : List W → EnvW → M Unit
  | [], _ => mpure ()
  | w :: ws, env => match tgM t w env with
    | none => mno
    | some e1 => mbind (noEx (tt e1)) fun b => if b then mbind (noEx (mk e1)) fun kw => mbind (noEx (mv e1)) fun y => mbind (pushD id kw y) fun _ => dLoop id t tt mk mv ws env else dLoop id t tt mk mv ws env
def kDCw (t : Tg) (mt : EnvW → M Bool) (mk mv : ME) (env : EnvW) (ws : List W) : M W := fun h => mbind (dLoop h.length t mt mk mv ws (wipeW env t.slots)) (fun _ => mpure (.r h.length)) (h ++ [.dic []])
def dcR (g : TG) (tt : TT) (tk tv : TE) (vs : List Nat) (σ : L2.St) (Q : VK) (J : It) (H1 : Hp) : Prop :=
  ∀ (D : Addr), H1 D = none → ∃ W : Nat → Nat → Hp → Prop, (∃ m, W 0 m (upd H1 D (HO.dK []))) ∧ ∀ (i m : Nat) (H : Hp), W i m H →
    J.stop i H ∧ Q (V.ref D) H ∨ J.go i H ∧ ∃ Nx : Hp → Prop, (∀ (H' : Hp), Nx H' → ∃ m', m' < m ∧ W (i + 1) m' H') ∧ ∀ (x : V) (H' : Hp), J.yld i H x H' →
      g x (wipe σ vs) H' fun σ2 H2 => wipe σ2 vs = wipe σ vs ∧ tt σ2 H2 fun b H3 => if b = true then tk σ2 H3 fun y H4 => tv σ2 H4 fun z H5 => ∃ kvs k, y = kV k ∧ H5 D = some (HO.dK kvs) ∧ kvs.length < sizeLine ∧ Nx (upd H5 D (HO.dK (putK kvs k z))) else Nx H3
theorem tDc_eq {wi : TI} {g : TG} {tt : TT} {tk tv : TE} {vs : List Nat} {σ : L2.St} {H : Hp} {Q : VK} : tDc wi g tt tk tv vs σ H Q = wi σ H (dcR g tt tk tv vs σ Q) := rfl
section
variable {T : Tb} {G : GA} {CM : FId → List W → M W} {k : Nat} {sc : Sc} {t : Tg} {mt : EnvW → M Bool} {me : ME}
theorem dc_core {σ : L2.St} {mk mv : ME} {Q : VK} {K : PySem.W.Frag} {c1 : Cf} {env : EnvW} {ws : List W} {J : It} {E : Str → Cf → Prop} (hK : K = G.K) (ok1 : c1.ok G) (re : EnvR G c1 env σ) (hJ : IterOk G J ws c1) (q : Po G (kDCw t mt mk mv env ws c1.ah) c1 (VQ G Q) E) :
    dcR (gTg K t) (tT G (fun _ _ _ _ => False) mt) (tE G (fun _ _ _ _ => False) mk) (tE G (fun _ _ _ _ => False) mv) t.slots σ Q J c1.H := by
  intro D hD
  have exD := Cf.new_ext (o := .dK []) (ao := .dic []) ok1 hD
  have okD : (c1.new D (.dK []) (.dic [])).ok G := Cf.new_ok ok1 hD ⟨[], upd_same, .nil⟩
  have q3 := Po.bind (c := c1.new D (.dK []) (.dic [])) (Po.bind.Po.later exD q)
  have rD : ∀ c3 : Cf, (c1.new D (.dK []) (.dic [])).ext c3 → c3.μ[c1.ah.length]? = some D := fun c3 ex => ex.pre _ _ (by show (c1.μ ++ [D])[c1.ah.length]? = some D; rw [← ok1.len]; simp)
  have re0 : EnvR G (c1.new D (.dK []) (.dic [])) (wipeW env t.slots) (L2.wipe σ t.slots) := (re.mono exD).wipe _
  refine ⟨fun i m H => m = ws.length - i ∧ i ≤ ws.length ∧ ∃ c2, c2.H = H ∧ c2.ok G ∧ (c1.new D (.dK []) (.dic [])).ext c2 ∧ Po G (dLoop c1.ah.length t mt mk mv (ws.drop i) (wipeW env t.slots) c2.ah) c2 (fun _ c3 => VQ G Q (.r c1.ah.length) c3) (fun _ _ => True),
    ⟨ws.length, by simp, Nat.zero_le _, c1.new D (.dK []) (.dic []), rfl, okD, Cf.ext.refl _, Po.mono q3 (fun _ c3 e3 ok3 q4 => Po.here (a := W.r c1.ah.length) (F := VQ G Q) q4 ok3) fun _ _ _ _ _ => trivial⟩, ?_⟩
  rintro i m H1 ⟨rfl, hi1, c2, rfl, ok2, ex2, q4⟩
  by_cases hlt : i < ws.length
  · refine .inr ⟨hJ.go i c2 hlt (exD.trans ex2) ok2, fun H' => ∃ c3, c3.H = H' ∧ c3.ok G ∧ (c1.new D (.dK []) (.dic [])).ext c3 ∧ Po G (dLoop c1.ah.length t mt mk mv (ws.drop (i + 1)) (wipeW env t.slots) c3.ah) c3 (fun _ c3 => VQ G Q (.r c1.ah.length) c3) (fun _ _ => True),
      fun H' h => ⟨ws.length - (i + 1), by omega, rfl, hlt, h⟩, fun x H' hy => ?_⟩
    obtain ⟨c3, w, ex3, ok3, rfl, eah, hw, rw3⟩ := hJ.yld i c2 x H' hlt (exD.trans ex2) ok2 hy
    rw [List.drop_eq_getElem_cons hlt] at q4
    have hw2 : ws[i] = w := by
      rw [List.getElem?_eq_getElem hlt] at hw
      exact Option.some.inj hw
    rw [hw2] at q4
    have q5 : Po G (dLoop c1.ah.length t mt mk mv (w :: ws.drop (i + 1)) (wipeW env t.slots) c3.ah) c3 (fun _ c3 => VQ G Q (.r c1.ah.length) c3) (fun _ _ => True) := by
      rw [eah]
      exact Po.bind.Po.later ex3 q4
    cases hm : tgM t w (wipeW env t.slots) with
    | none =>
      simp only [dLoop, hm] at q5
      exact q5.elim
    | some env3 =>
      simp only [dLoop, hm] at q5
      refine gTg_ok (c := c3) hK (vs := t.slots) hm ((re0.mono ex2).mono ex3) rw3 (fun _ h => h) fun σ2 re4 hwp => ⟨by rw [hwp]; exact lc_read.wipe_wipe _ _, ?_⟩
      refine ⟨c3, env3, rfl, ok3, re4, Po.mono (noEx_po (Po.bind q5)) (fun b c4 e4 ok4 q6 => ?_) fun _ _ _ _ q => q⟩
      have ex4 := (ex2.trans ex3).trans e4
      cases b with
      | false => exact iteF ⟨c4, rfl, ok4, ex4, q6⟩
      | true =>
        refine iteT ⟨c4, env3, rfl, ok4, re4.mono e4, Po.mono (noEx_po (Po.bind q6)) (fun y c5 e5 ok5 q7 v rv => ?_) fun _ _ _ _ q => q⟩
        refine ⟨c5, env3, rfl, ok5, (re4.mono e4).mono e5, Po.mono (noEx_po (Po.bind q7)) (fun y2 c6 e6 ok6 q9 v2 rv2 => ?_) fun _ _ _ _ q => q⟩
        have ex5 := (ex4.trans e5).trans e6
        have q8 := Po.bind q9
        unfold pushD at q8
        split at q8
        · rename_i kd
          split at q8
          · rename_i kk xs hk hx
            have hd := rD c6 ex5
            obtain ⟨us, hu, ru⟩ := ok6.obj _ D _ hd hx
            split at q8
            · rename_i hz
              obtain ⟨exP, okP⟩ := put_dic ok6 hd hx (pdw_put (k := kk) rv2 ru)
              exact ⟨us, kk, rKey rv hk, hu, by rw [Paired.length ru]; exact hz, _, rfl, okP, ex5.trans exP, q8 _ exP okP rfl⟩
            · exact q8.elim
          · exact q8.elim
        · exact q8.elim
  · have e : i = ws.length := by omega
    subst e
    refine .inl ⟨hJ.stop c2 (exD.trans ex2) ok2, ?_⟩
    rw [List.drop_length] at q4
    have q6 := Po.here (a := ()) q4 ok2 (.ref D) ⟨D, rfl, rD c2 ex2⟩
    exact q6
def eDCd (kd : DK) (i : Nat) (t : Tg) (mt : EnvW → M Bool) (mk mv : ME) : ME := fun env h => match env[i]? with
  | some (some (.r j)) => (match h[j]? with
    | some (.dic kvs) => (match rowsW kd kvs with
      | some ws => noExM (kDCw t mt mk mv env ws (h.set j (.rod kvs))) fun h' => h'.set j (.dic kvs)
      | none => .no)
    | some (.rod kvs) => (match rowsW kd kvs with
      | some ws => noExM (kDCw t mt mk mv env ws h) id
      | none => .no)
    | _ => .no)
  | some (some (.d (.dict ds))) => (match rowsW kd (datW ds) with
    | some ws => noExM (kDCw t mt mk mv env ws h) id
    | none => .no)
  | _ => .no
theorem dcD_read {mk mv : ME} {kd : DK} {i : Nat} {Wx : WX} {σ : L2.St} {H : Hp} {Q : VK} {K : PySem.W.Frag} (hK : K = G.K) (h : tE G Wx (eDCd kd i t mt mk mv) σ H Q) :
    tLockE (tDc (iD kd (tVar i)) (gTg K t) (tT G (fun _ _ _ _ => False) mt) (tE G (fun _ _ _ _ => False) mk) (tE G (fun _ _ _ _ => False) mv) t.slots) σ H Q ∨ tDc (iD kd (tVar i)) (gTg K t) (tT G (fun _ _ _ _ => False) mt) (tE G (fun _ _ _ _ => False) mk) (tE G (fun _ _ _ _ => False) mv) t.slots σ H Q := by
  obtain ⟨c, env, e, ok, re, q⟩ := h
  subst e
  unfold eDCd at q
  have core : ∀ {c1 : Cf} {a : Addr} {od : Obj} {xs : List (Key × V)} {kvs : List (PyData × W)} {ws : List W} {f : AH → AH} {Q' : VK}, c1.ok G → EnvR G c1 env σ → σ[i]? = some (some (.ref a)) → c1.H a = some (.frz od (.dK xs)) → (∀ c2, c1.ext c2 → c2.H a = some (.frz od (.dK xs))) → PDW G c1 xs kvs → rowsW kd kvs = some ws →
      (∀ w c3, c1.ext c3 → c3.ok G → kDCw t mt mk mv env ws c1.ah = .ok w c3.ah → VQ G Q' w c3) → (∃ w h', kDCw t mt mk mv env ws c1.ah = .ok w h') → tDc (iD kd (tVar i)) (gTg K t) (tT G (fun _ _ _ _ => False) mt) (tE G (fun _ _ _ _ => False) mk) (tE G (fun _ _ _ _ => False) mv) t.slots σ c1.H Q' := by
    intro c1 a od xs kvs ws f Q' ok1 re1 hv hH hs r hw hq ⟨w, h', hk⟩
    rw [tDc_eq]
    refine ⟨.ref a, hv, a, od, xs, rfl, hH, dc_core hK ok1 re1 (iter_dic hs r hw) (E := fun _ _ => True) ?_⟩
    rw [hk]
    intro c3 ex3 ok3 e3
    exact hq w c3 ex3 ok3 (by rw [hk, e3])
  have okk : ∀ {α : Type} {r : R α} {f : AH → AH} {F : α → Cf → Prop} {E : Str → Cf → Prop}, Po G (noExM r f) c F E → ∃ w h', r = .ok w h' ∧ Po G (.ok w (f h')) c F E := fun {α r f F E} h => by
    unfold noExM at h
    split at h
    · exact ⟨_, _, rfl, h⟩
    · exact h.elim
  split at q
  · rename_i j hj
    obtain ⟨v, hv, rv⟩ := re.2 i _ hj
    split at q
    · rename_i kvs ho
      obtain ⟨a, rfl, hm, xs, hx, r⟩ := rRef ok rv ho
      split at q
      · rename_i ws hw
        obtain ⟨w, h', hk, q⟩ := okk q
        left
        refine ⟨a, .dK xs, hx, trivial, fun od => ?_⟩
        have ok1 := lkT_ok (od := od) ok hm ho hx r
        have hr := fun b o (_ : ¬ c.live b) po q => (lk_rd (od := od) hx).1 b o po q
        refine core (c1 := ⟨upd c.H a (.frz od (.dK xs)), c.μ, c.ah.set j (.rod kvs)⟩) (f := id) ok1 (EnvR.rd (c := c) (c' := ⟨upd c.H a (.frz od (.dK xs)), c.μ, c.ah.set j (.rod kvs)⟩) rfl hr (lk_rd hx).2 re) hv upd_same (fun c2 ex => ?_) (L2.Paired.mapP r fun _ _ q => ⟨q.1, RW.rd (c := c) (c' := ⟨upd c.H a (.frz od (.dK xs)), c.μ, c.ah.set j (.rod kvs)⟩) rfl hr (lk_rd hx).2 q.2⟩) hw (fun w3 c3 ex3 ok3 e3 v rv3 => ?_) ⟨w, h', hk⟩
        · exact (ex.rod j a kvs _ hm (List.getElem?_set_self (List.getElem?_eq_some_iff.mp ho).1) upd_same).1
        · obtain ⟨u1, u2, u3, u4⟩ := ulT ok hm ho hx r ex3 ok3
          refine ⟨u1, ?_⟩
          have e4 : (R.ok w h' : R W) = .ok w3 c3.ah := hk.symm.trans e3
          cases e4
          exact q _ u2 u3 rfl v (u4 v w rv3)
      · exact q.elim
    · rename_i kvs ho
      obtain ⟨a, rfl, hm, xs, od, hx, r⟩ := rRef ok rv ho
      split at q
      · rename_i ws hw
        obtain ⟨w, h', hk, q⟩ := okk q
        right
        refine core (f := id) ok re hv hx (fun c2 ex => (ex.rod j a kvs _ hm ho hx).1) r hw (fun w3 c3 ex3 ok3 e3 v rv3 => ?_) ⟨w, h', hk⟩
        have e4 : (R.ok w h' : R W) = .ok w3 c3.ah := hk.symm.trans e3
        cases e4
        exact q _ ex3 ok3 rfl v rv3
      · exact q.elim
    · exact q.elim
  · rename_i ds hj
    obtain ⟨v, hv, rv⟩ := re.2 i _ hj
    split at q
    · rename_i ws hw
      obtain ⟨w, h', hk, q⟩ := okk q
      cases (show Rp G.K c v (.dict ds) from rv) with
      | dic l1 h1 r1 =>
        rename_i a xs
        rcases h1 with h1 | ⟨od, h1⟩
        · left
          refine ⟨a, .dK xs, h1, trivial, fun od => ?_⟩
          have ok1 := lkD_ok (od := od) ok h1 l1
          have hr := fun b o (_ : ¬ c.live b) po q => (lk_rd (od := od) h1).1 b o po q
          refine core (c1 := ⟨upd c.H a (.frz od (.dK xs)), c.μ, c.ah⟩) (f := id) ok1 (EnvR.rd (c := c) (c' := ⟨upd c.H a (.frz od (.dK xs)), c.μ, c.ah⟩) rfl hr (lk_rd h1).2 re) hv upd_same (fun c2 ex => (ex.keep a _ upd_same l1).1) (L2.Paired.mapP (dat_pdw r1) fun _ _ q => ⟨q.1, RW.rd (c := c) (c' := ⟨upd c.H a (.frz od (.dK xs)), c.μ, c.ah⟩) rfl hr (lk_rd h1).2 q.2⟩) hw (fun w3 c3 ex3 ok3 e3 v rv3 => ?_) ⟨w, h', hk⟩
          obtain ⟨u1, u2, u3, u4⟩ := ulD ok h1 l1 ex3 ok3
          refine ⟨u1, ?_⟩
          have e4 : (R.ok w h' : R W) = .ok w3 c3.ah := hk.symm.trans e3
          cases e4
          exact q _ u2 u3 rfl v (u4 v w rv3)
        · right
          refine core (f := id) ok re hv h1 (fun c2 ex => (ex.keep a _ h1 l1).1) (dat_pdw r1) hw (fun w3 c3 ex3 ok3 e3 v rv3 => ?_) ⟨w, h', hk⟩
          have e4 : (R.ok w h' : R W) = .ok w3 c3.ah := hk.symm.trans e3
          cases e4
          exact q _ ex3 ok3 rfl v rv3
    · exact q.elim
  · exact q.elim
def eDC (t : Tg) (mi : EnvW → M Src) (mt : EnvW → M Bool) (mk mv : ME) : ME := fun env => mbind (mi env) fun p => over p fun ws => kDCw t mt mk mv env ws
theorem dc_read {mi : EnvW → M Src} {mk mv : ME} {Wx : WX} {σ : L2.St} {H : Hp} {Q : VK} {K : PySem.W.Frag} (hK : K = G.K) (h : tE G Wx (eDC t mi mt mk mv) σ H Q) : tDc (tI G Wx mi) (gTg K t) (tT G (fun _ _ _ _ => False) mt) (tE G (fun _ _ _ _ => False) mk) (tE G (fun _ _ _ _ => False) mv) t.slots σ H Q := by
  obtain ⟨c, env, e, ok, re, q⟩ := h
  subst e
  rw [tDc_eq]
  refine ⟨c, env, rfl, ok, re, Po.mono (Po.bind q) (fun p c1 e1 ok1 q1 hsrc J hJ => ?_) fun _ _ _ _ q => q⟩
  have q2 := over_po ok1 hsrc q1
  have okL := lockC_ok (p := p) ok1
  rw [← lockC_H (p := p)]
  refine dc_core hK okL ((re.mono e1).same lockC_H lockC_mu) hJ (Po.mono q2 (fun w c3 e3 ok3 q3 v rv => ?_) fun _ _ _ _ q => q)
  have := q3 v (RW.same unlockC_H unlockC_mu rv)
  rwa [unlockC_H] at this
variable {tg it kx vx : Expr} {ifs : List Expr} {scope : Scope} {kd : DK} {i : Nat} {pos : Pos} {mk mv : ME} {mi : EnvW → M Src}
theorem se_dcD (ht : lcT sc scope tg = some t) (hd : dShape T sc tg it = some (kd, i)) (hn : noSetE it = true) (hif : ST0 T G CM k (blkSc sc scope) ifs mt) (hk : SE T G CM k (blkSc sc scope) kx mk) (hv : SE T G CM k (blkSc sc scope) vx mv) : SE T G CM k sc (.DictComp kx vx [⟨tg, it, ifs, 0⟩] scope pos) (eDCd kd i t mt mk mv) := fun X Wx F => by
  obtain ⟨own, h1, h2, h3⟩ := lcT_ok ht
  have hb : BlkOk X.N X.env.scope scope own := by rw [F.N, F.scope]; exact h1
  have P := pe_dc (pos := pos) (g := gTg X.K t) F.calm F.ndN (pi_dic F hd) hb (fun s H C cl fp => pg_tg (F.blk scope s H C cl fp) h3) (fun s H C cl fp => hif _ _ (F.blk scope s H C cl fp)) (fun s H C cl fp => hk _ _ (F.blk scope s H C cl fp)) (fun s H C cl fp => hv _ _ (F.blk scope s H C cl fp)) (noSetE_ok hn _)
  rw [h2] at P
  exact PE.imp (PE.orr (pe_lock P) P) fun σ H Q q => dcD_read F.K q
theorem se_dc (ht : lcT sc scope tg = some t) (hi : SI T G CM k sc tg it mi) (hn : noSetE it = true) (hif : ST0 T G CM k (blkSc sc scope) ifs mt) (hk : SE T G CM k (blkSc sc scope) kx mk) (hv : SE T G CM k (blkSc sc scope) vx mv) : SE T G CM k sc (.DictComp kx vx [⟨tg, it, ifs, 0⟩] scope pos) (eDC t mi mt mk mv) := fun X Wx F => by
  obtain ⟨own, h1, h2, h3⟩ := lcT_ok ht
  have hb : BlkOk X.N X.env.scope scope own := by rw [F.N, F.scope]; exact h1
  have P := pe_dc (pos := pos) (g := gTg X.K t) F.calm F.ndN (hi X Wx F) hb (fun s H C cl fp => pg_tg (F.blk scope s H C cl fp) h3) (fun s H C cl fp => hif _ _ (F.blk scope s H C cl fp)) (fun s H C cl fp => hk _ _ (F.blk scope s H C cl fp)) (fun s H C cl fp => hv _ _ (F.blk scope s H C cl fp)) (noSetE_ok hn _)
  rw [h2] at P
  exact PE.imp P fun σ H Q q => dc_read F.K q
end
end Ev
set_option Elab.async false
set_option linter.all false
set_option maxRecDepth 100000
set_option maxHeartbeats 4000000
/-! E14s: name = {.. for ..}, on one line. -/
namespace Ev
open PySem PySem.Spec PyProof.Rows L2
theorem ps_setDc {X : Cx} {i : Nat} {y : Str} {py : Pos} {kx vx tg iter : Expr} {ifs : List Expr} {scope : Scope} {own : List (Str × Nat)} {pos spos : Pos} {wi : TI} {g : TG} {tt : TT} {tk tv : TE}
    (hc : X.calm = true) (hN : X.N.Nodup) (hy : X.N[i]? = some y) (hyl : X.env.scope.names.lookup y = some .local) (hsw : swapsWith (.DictComp kx vx [⟨tg, iter, ifs, 0⟩] scope pos) (some (.Name y py)) spos.line X.env = pure true)
    (hi : PI X tg iter wi) (ok : BlkOk X.N X.env.scope scope own)
    (hg : ∀ (s : Shared) (H : Hp) (C : Addr) (cl : List (Str × Addr)) (fp : List Addr), PG (X.blk s H scope (compEnvC scope cl C X.env) fp) tg g)
    (ht : ∀ (s : Shared) (H : Hp) (C : Addr) (cl : List (Str × Addr)) (fp : List Addr), PTs (X.blk s H scope (compEnvC scope cl C X.env) fp) ifs tt)
    (hk : ∀ (s : Shared) (H : Hp) (C : Addr) (cl : List (Str × Addr)) (fp : List Addr), PE (X.blk s H scope (compEnvC scope cl C X.env) fp) kx tk)
    (he : ∀ (s : Shared) (H : Hp) (C : Addr) (cl : List (Str × Addr)) (fp : List Addr), PE (X.blk s H scope (compEnvC scope cl C X.env) fp) vx tv)
    (hs : ∀ (x : Value), foldedSetIterable iter X.env x = pure x) :
    PS X (.Assign [.Name y py] (.DictComp kx vx [⟨tg, iter, ifs, 0⟩] scope pos) spos) (tAsg (tDc wi g tt tk tv (own.map (·.2))) (gName i)) := ⟨fun pins s σ H D I h => by
  rw [exec_Assign_Name_used y py (.DictComp kx vx [⟨tg, iter, ifs, 0⟩] scope pos) spos hsw]
  refine wpAny_bind (wpAny_standAt (wpAny_bind ?_))
  refine wpAny_bind (thn (L2.dc_core hc hN I hi ok hg ht hk he hs h fun L C s' m H' I' q hn f => ?_) fun x s' hq => wpAny_pure (wpAny_pure hq))
  refine wpAny_assign_Name (store_ok2 (v := V.ref L) I' hN hy (Or.inl hyl) rfl (fun s2 I2 x => ?_) (Or.inr hyl))
  obtain ⟨a, sb, ha⟩ := x
  obtain ⟨f0, f1, f2, f3, f4, f5⟩ := f
  have haC : C ≠ a := by
    rcases ha with z | z
    · rw [z]; exact f1
    · exact fun e => f4 y a z e.symm
  exact ⟨m, Heap.Ns.sameBut hn sb haC, fun h3 sb3 => ⟨σ.set i (some (.ref L)), H', Inv.turned I2 (fun b o hb e => (sb3.right b hb).trans e) f0 f1 f3 f4 f5, q⟩⟩⟩
theorem sw_trueD {kx vx : Expr} {gs : List Comprehension} {scope : Scope} {pos py : Pos} {y : Str} {l : Nat} {env : Env} (h1 : env.scope.kind = ScopeKind.function) (h2 : List.lookup y env.scope.names = some NameKind.local) (h3 : (py.line == pos.line) = true) (h4 : (scope.names.any fun x => match x with | (n, k) => n == y && (k == NameKind.local || k == NameKind.cell)) = false) :
    swapsWith (kx.DictComp vx gs scope pos) (some (Expr.Name y py)) l env = pure true := by
  have := sw_true (elt := kx) (gs := gs) (scope := scope) (pos := pos) (py := py) (y := y) (l := l) (env := env) h1 h2 h3 h4
  exact this
section
variable {T : Tb} {G : GA} {CM : FId → List W → M W} {k : Nat} {sc : Sc} {t : Tg} {mt : EnvW → M Bool} {mk mv : ME}
variable {tg it kx vx : Expr} {ifs : List Expr} {scope : Scope} {kd : DK} {i : Nat} {pos spos py : Pos} {mi : EnvW → M Src}
theorem ss_setDcD {y : Str} {l : Nat} (hy : sc.scope.names.lookup y = some .local) (hi2 : sc.N.idxOf? y = some l) (hk0 : sc.scope.kind = .function) (hl : (py.line == pos.line) = true) (hany : (scope.names.any fun (n, k) => n == y && (k == .local || k == .cell)) = false)
    (ht : lcT sc scope tg = some t) (hd : dShape T sc tg it = some (kd, i)) (hn : noSetE it = true) (hif : ST0 T G CM k (blkSc sc scope) ifs mt) (hk : SE T G CM k (blkSc sc scope) kx mk) (hv : SE T G CM k (blkSc sc scope) vx mv) : SS T G CM k sc (.Assign [.Name y py] (.DictComp kx vx [⟨tg, it, ifs, 0⟩] scope pos) spos) (sSet l (eDCd kd i t mt mk mv)) := fun X Ex F hp hs hf => by
  obtain ⟨own, h1, h2, h3⟩ := lcT_ok ht
  have hb : BlkOk X.N X.env.scope scope own := by rw [F.N, F.scope]; exact h1
  have hyX : X.env.scope.names.lookup y = some .local := by rw [F.scope]; exact hy
  have P := ps_setDc (spos := spos) (pos := pos) (g := gTg X.K t) (i := l) F.calm F.ndN (by rw [F.N]; exact idx_at hi2) hyX (sw_trueD (by rw [F.scope]; exact hk0) hyX hl hany) (pi_dic F hd) hb (fun s H C cl fp => pg_tg (F.blk scope s H C cl fp) h3) (fun s H C cl fp => hif _ _ (F.blk scope s H C cl fp)) (fun s H C cl fp => hk _ _ (F.blk scope s H C cl fp)) (fun s H C cl fp => hv _ _ (F.blk scope s H C cl fp)) (noSetE_ok hn _)
  rw [h2] at P
  refine PS.imp (PS.orr (ps_lock P) P) fun D σ H ⟨c, env, e, ok, re, q⟩ => ?_
  subst e
  have q0 : tE G (fun cls d _ H => Ex cls d H) (eDCd kd i t mt mk mv) σ c.H (fun v H1 => D.nx (σ.set l (some v)) H1) := tE.step ok re q fun w c1 v e1 ok1 re1 rv q1 => Po.here (a := Fl.nx (env.set l (some w))) q1 ok1 _ (re1.set rv)
  exact dcD_read F.K q0
theorem ss_setDc {y : Str} {l : Nat} (hy : sc.scope.names.lookup y = some .local) (hi2 : sc.N.idxOf? y = some l) (hk0 : sc.scope.kind = .function) (hl : (py.line == pos.line) = true) (hany : (scope.names.any fun (n, k) => n == y && (k == .local || k == .cell)) = false)
    (ht : lcT sc scope tg = some t) (hi : SI T G CM k sc tg it mi) (hn : noSetE it = true) (hif : ST0 T G CM k (blkSc sc scope) ifs mt) (hk : SE T G CM k (blkSc sc scope) kx mk) (hv : SE T G CM k (blkSc sc scope) vx mv) : SS T G CM k sc (.Assign [.Name y py] (.DictComp kx vx [⟨tg, it, ifs, 0⟩] scope pos) spos) (sSet l (eDC t mi mt mk mv)) := fun X Ex F hp hs hf => by
  obtain ⟨own, h1, h2, h3⟩ := lcT_ok ht
  have hb : BlkOk X.N X.env.scope scope own := by rw [F.N, F.scope]; exact h1
  have hyX : X.env.scope.names.lookup y = some .local := by rw [F.scope]; exact hy
  have P := ps_setDc (spos := spos) (pos := pos) (g := gTg X.K t) (i := l) F.calm F.ndN (by rw [F.N]; exact idx_at hi2) hyX (sw_trueD (by rw [F.scope]; exact hk0) hyX hl hany) (hi X _ F) hb (fun s H C cl fp => pg_tg (F.blk scope s H C cl fp) h3) (fun s H C cl fp => hif _ _ (F.blk scope s H C cl fp)) (fun s H C cl fp => hk _ _ (F.blk scope s H C cl fp)) (fun s H C cl fp => hv _ _ (F.blk scope s H C cl fp)) (noSetE_ok hn _)
  rw [h2] at P
  refine PS.imp P fun D σ H ⟨c, env, e, ok, re, q⟩ => ?_
  subst e
  have q0 : tE G (fun cls d _ H => Ex cls d H) (eDC t mi mt mk mv) σ c.H (fun v H1 => D.nx (σ.set l (some v)) H1) := tE.step ok re q fun w c1 v e1 ok1 re1 rv q1 => Po.here (a := Fl.nx (env.set l (some w))) q1 ok1 _ (re1.set rv)
  exact dc_read F.K q0
/-- a cell is set, whatever stands behind -/
theorem sw_cellN {y : Str} {py : Pos} {l : Nat} {env : Env} (h : env.scope.names.lookup y = some .cell) (e : Expr) : swapsWith e (some (.Name y py)) l env = pure false := by
  have hk : (env.kindOf y == some .local) = false := by
    show (env.scope.names.lookup y == some .local) = false
    rw [h]; rfl
  cases e <;> first | rfl | (unfold swapsWith; simp only [hk, Bool.and_false, Bool.false_and])
theorem ss_setCell {x : Str} {i : Nat} {e : Expr} {ma : ME} {p pos : Pos} (hx : slotS sc x = some i) (hc : sc.scope.names.lookup x = some .cell) (he : SE T G CM k sc e ma) : SS T G CM k sc (.Assign [.Name x p] e pos) (sSet i ma) := fun X Ex F hp hs hf => by
  obtain ⟨h1, h2, h3⟩ := slotS_ok F hx
  refine PS.imp (ps_set F.ndN h1 h2 (he X _ F) (sw_cellN (by rw [F.scope]; exact hc) _) h3) fun D σ H ⟨c, env, e, ok, re, q⟩ => ?_
  subst e
  exact tE.step ok re q fun w c1 v e1 ok1 re1 rv q1 => Po.here (a := Fl.nx (env.set i (some w))) q1 ok1 _ (re1.set rv)
end
end Ev
set_option Elab.async false
set_option linter.all false
set_option maxRecDepth 100000
set_option maxHeartbeats 4000000
/-! E14t: len(set(texts)), a tuple of texts, as many as one likes. -/
namespace Ev
open PySem PySem.Spec PyProof.Rows L2
/-- how many different texts lie among the first i -/
def dcnt (xs : List Str) : Nat → Nat
  | 0 => 0
  | i + 1 => if (xs.take i).any (· == xs.getD i Str.empty) then dcnt xs i else dcnt xs i + 1
theorem dcnt_le (xs : List Str) : ∀ i, dcnt xs i ≤ i
  | 0 => Nat.le_refl _
  | i + 1 => by
    have := dcnt_le xs i
    unfold dcnt
    split <;> omega
section
variable {P : Program} {w : World} {A : Around} {R : Result → Shared → Prop} {I : Addr} {fp wr : List Addr} {G : Array GenState → Array GenState → Prop} {n : Nat} {Pv : Nat → Value → Prop} {St : Nat → Shared → Prop}
abbrev TxtSet (P : Program) (w : World) (h : Heap) (S : Addr) (xs : List Str) (i : Nat) : Prop := h.SetOf (PySem.strKind P w) S (fun k => (xs.take i).any (· == k)) (dcnt xs i)
theorem txtSet_at {h h' : Heap} {S : Addr} {xs : List Str} {i : Nat} (z : TxtSet P w h S xs i) (k : ∀ o, h.get? S = some o → h'.get? S = some o) : TxtSet P w h' S xs i := by
  obtain ⟨o, es, ep, t, ho, r⟩ := z
  exact ⟨o, es, ep, t, k o ho, r⟩
theorem loop_texts (W : WalksS P w A.in1 I fp wr G n Pv St) (S : Addr) (hS : S ∉ fp) (xs : List Str) (hn : xs.length = n) (hb : n + 1 < scanBound) (hv : ∀ i v, Pv i v → ∃ t, v = .str (xs.getD i Str.empty) t)
    (k : Nat) : ∀ (i : Nat) (s : Shared), i + k = n → St i s → TxtSet P w s.heap S xs i →
      (∀ s', Moved (S :: wr) G s s' → TxtSet P w s'.heap S xs n → R (.ok (.ret .none)) s') →
      codeAny (model P w) A (.builtin "set.update.loop" ⟨[.ref S, .ref I], []⟩) R s := by
  have nw : S ∉ wr := fun h => hS (W.sub _ h)
  have sub : ∀ b ∈ wr, b ∈ S :: wr := fun b hb => List.mem_cons_of_mem _ hb
  induction k with
  | zero =>
    intro i s e st z q
    have e' : i = n := by omega
    subst e'
    refine codeAny_builtin PyProof.Rows.F.entry_set_update_loop ?_
    rw [Around.under_plainId PyProof.Rows.F.plain_set_update_loop _]
    refine wpAny_bind (W.done s _ _ st fun s' m => ?_)
    exact wpAny_pure (q s' (m.mono sub) (txtSet_at z fun o => m.heap S o nw))
  | succ k ih =>
    intro i s e st z q
    refine codeAny_builtin PyProof.Rows.F.entry_set_update_loop ?_
    rw [Around.under_plainId PyProof.Rows.F.plain_set_update_loop _]
    refine wpAny_bind (W.item i s _ _ (by omega) st fun v s' hp st' m => ?_)
    obtain ⟨t, rfl⟩ := hv i v hp
    have z' : TxtSet P w s'.heap S xs i := txtSet_at z fun o => m.heap S o nw
    refine wpAny_bind (wpAny_holding ?_)
    unfold setAdd
    refine wpAny_holding (wpAny_bind ((PySem.strKind P w).pyHash (k := xs.getD i Str.empty) (strKind_is _ _ _ _) ?_))
    have hl := dcnt_le xs i
    refine wpAny_setAddHashed_of (knd := PySem.strKind P w) (s := { s' with toks := s'.toks + 1 }) (strKind_is _ _ _ _) rfl z' (by omega) fun h' sb z2 => ?_
    have z3 : TxtSet P w h' S xs (i + 1) := by
      refine SetOf_congr z2 (fun k' => ?_) rfl
      have hi : i < xs.length := by omega
      rw [List.take_add_one, List.getElem?_eq_getElem hi, List.getD_eq_getElem?_getD, List.getElem?_eq_getElem hi]
      simp only [Option.toList, List.any_append, List.any_cons, List.any_nil, Bool.or_false, Option.getD_some]
      congr 1
      rw [Bool.eq_iff_iff]
      simp only [decide_eq_true_eq, beq_iff_eq]
      exact ⟨fun h => h.symm, fun h => h.symm⟩
    refine wpAny_pure ⟨plainId_quiet PyProof.Rows.F.plain_set_update_loop _, ih (i + 1) _ (by omega) (W.frame _ s' _ _ st' (Nat.le_succ _) fun b hb o e => ?_) z3 fun s'' m2 z4 => ?_⟩
    · rw [sb.2 b (fun h : b = S => hS (by rw [← h]; exact hb))]; exact e
    · refine q s'' (Moved.trans W.gtrans ((m.mono sub).then_heap (Nat.le_succ _) fun b o hb e => ?_) m2) z4
      rw [sb.2 b (fun h : b = S => hb (by rw [h]; exact List.mem_cons_self))]; exact e
end
section
variable {P : Program} {w : World} {A : Around} {E : Value → Shared → Prop} {s : Shared}
/-- a new set -/
abbrev nset (led : Bool) : Obj := { cls := .type "set", dict := none, data := .set #[] 0 (.fresh 0 0 led) }
/-- what set(..) leaves: a new set, all that was there kept -/
def SetOut (P : Program) (w : World) (s : Shared) (xs : List Str) (s' : Shared) : Prop :=
  ∃ (h' : Heap) (tk : Nat), s' = { s with heap := h', toks := tk } ∧ TxtSet P w h' s.heap.objs.size xs xs.length ∧ ∀ b o, s.heap.get? b = some o → h'.get? b = some o
theorem call_set_texts {l : Addr} {items : Array Value} {xs : List Str} {Q : Value → Shared → Prop} (hh : A.handled = none) (hl : s.heap.IsTuple l items) (hi : StrsAre items.toList xs) (hb : xs.length + 1 < scanBound)
    (q : ∀ s', SetOut P w s xs s' → Q (.ref s.heap.objs.size) s') : wpAny (model P w) A (call (.type "set") [.ref l]) Q E s := by
  have len : xs.length = items.size := by rw [← StrsAre.len_eq hi, Array.length_toList]
  obtain ⟨c, tl, hmro⟩ := PySem.F.called_set.mro
  have c1 := PySem.F.called_set.made
  have c2 := PySem.F.called_set.sub
  have c3 := PySem.F.called_set.notType
  have c4 := PySem.F.called_set.canCreate
  have c5 := PySem.F.typeCall_set_1 (.ref l)
  refine wpAny_call (codeAny_of_tree ?_)
  show wpAny _ _ (callAny (.type "set") _) _ _ _
  refine wpAny_pure ⟨Code.quiet_builtin _ (by decide +kernel), codeAny_builtin PySem.F.entry_type_call ?_⟩
  rw [Around.under_plain (weight_type_call_type "set" [.ref l] []) rfl]
  repeat (any_goals (first | assumption | wp_step))
  refine codeAny_mono (code_set_new_1 (.ref l) (E := E) (Q₁ := fun v s1 => ∃ led, v = .ref s.heap.objs.size ∧ s1 = { s with heap := s.heap.push (nset led) }) fun led => ⟨led, rfl, rfl⟩) fun r s1 hr => ?_
  match r, hr with
  | .error e, hr => exact hr
  | .ok (.ret v), hr =>
    obtain ⟨led, rfl, rfl⟩ := hr
    have e0 : (s.heap.push (nset led)).get? s.heap.objs.size = some (nset led) := Heap.get?_push_size _ rfl
    have hT : Shared.TypeIs { s with heap := s.heap.push (nset led) } (.ref s.heap.objs.size) "set" := ⟨_, e0, rfl⟩
    have i1 := PySem.F.called_set.init.lookup
    have i2 := PySem.F.called_set.init.bind (.ref s.heap.objs.size)
    repeat (any_goals (first | assumption | wp_step))
    refine codeAny_mono (codeAny_call_builtin (R := wants (fun r s2 => r = .none ∧ SetOut P w s xs s2) E) PySem.F.called_set.init.plain PySem.F.entry_set_init (check_set_init_1 hT ?_)) fun r2 s2 hr2 => ?_
    · obtain ⟨⟨cls, dict, data, slots⟩, hol, hcl, nl, hdl⟩ := hl
      simp only at hcl hdl
      subst hcl hdl
      have hol1 : (s.heap.push (nset led)).get? l = some { cls := .type "tuple", dict := dict, data := .seq items nl, slots := slots } := Heap.get?_push_of_some _ hol
      have hl1 : (s.heap.push (nset led)).IsTuple l items := ⟨_, hol1, rfl, nl, rfl⟩
      have f1 := PySem.F.sub_tuple_set
      have f2 := PySem.F.sub_tuple_frozenset
      have f3 : (Value.type "tuple" == Value.type "dict") = false := by decide
      unfold Builtin.«set.__init__» noKeywords Builtin.Frozenset.updateFrom
      generalize hPI : pyIter = PI
      wp_walk
      subst hPI
      refine wpAny_pyIter_tuple hl1 (wpAny_bind (wpAny_runValue ?_))
      have hls : l < s.heap.objs.size := Heap.lt_size hol
      have hz : (s.heap.push (nset led)).objs.size = s.heap.objs.size + 1 := Heap.size_push ..
      refine loop_texts ((Walks.tuple (by simp [hh]) _ l (by rw [hz]; exact Nat.ne_of_lt (Nat.lt_succ_of_lt hls)) items).toS) s.heap.objs.size (by rw [hz]; simp only [List.mem_cons, List.not_mem_nil, or_false, not_or]; exact ⟨Nat.ne_of_lt (Nat.lt_succ_self _), Nat.ne_of_gt hls⟩) xs len (by omega)
        (fun i v hv => SS.strs_at hi i v (by rw [Array.getElem?_toList]; exact hv)) items.size 0 _ (by omega) ⟨⟨_, Heap.get?_push_size _ rfl, rfl, rfl⟩, hl1.push _⟩ ?_ ?_
      · exact SetOf_congr ((setObjOf_fresh (knd := PySem.strKind P w) led).setOf (Heap.get?_push_of_some _ e0) (by unfold scanBound; omega)) (fun _ => rfl) rfl
      · intro s' m z
        obtain ⟨h', g', d', tk', os'⟩ := s'
        have eg : g' = s.gens := m.gens
        have ed : d' = s.drawn := m.drawn
        have eo : os' = s.os := m.os
        subst eg ed eo
        refine wpAny_pure (wpAny_pure ⟨rfl, h', tk', rfl, by rw [len]; exact z, fun b o e => ?_⟩)
        have hb0 : b < s.heap.objs.size := Heap.lt_size e
        refine m.heap b o ?_ (Heap.get?_push_of_some _ (Heap.get?_push_of_some _ e))
        rw [hz]
        simp only [List.mem_cons, List.not_mem_nil, or_false, not_or]
        exact ⟨Nat.ne_of_lt hb0, Nat.ne_of_lt (Nat.lt_succ_of_lt hb0)⟩
    · match r2, hr2 with
      | .error e, hr2 => exact hr2
      | .ok (.ret v), hr2 =>
        obtain ⟨rfl, o2⟩ := hr2
        have o3 := o2
        obtain ⟨h', tk, rfl, z, kp⟩ := o2
        repeat (any_goals (first | assumption | wp_step))
        exact q _ o3
end
end Ev
set_option Elab.async false
set_option linter.all false
set_option maxRecDepth 100000
set_option maxHeartbeats 4000000
/-! E14u: len(set(texts)) in the evaluator. -/
namespace Ev
open PySem PySem.Spec PyProof.Rows L2
def tLenSetT (K : PySem.W.Frag) (ta : TE) : TE := fun σ H Q => ta σ H fun x H1 => ∃ l, ∃ xs : List Str, x = .ref l ∧ SqT K H1 l (xs.map V.str) ∧ xs.length < 20 ∧ Q (.int (dcnt xs xs.length : Nat)) H1
theorem pe_lenSetT {X : Cx} {a : Expr} {ta : TE} {p p2 q pos : Pos} (hc : X.calm = true) (hg : Gl X "len") (hm : X.mg "len" = none) (hg2 : Gl X "set") (hm2 : X.mg "set" = none) (ha : PE X a ta)
    (na : starEach [a] X.env = (false, eval a X.env) :: starEach [] X.env) : PE X (.Call (.Name "len" p) [.Call (.Name "set" p2) [a] [] q] [] pos) (tLenSetT X.K ta) := by
  refine ⟨fun pins s σ H Q I h => ?_⟩
  refine Call_ (ld_blt I hg hm PySem.boot_len ?_)
  refine callWith_builtin1 (args_cons ?_ rfl) rfl rfl
  refine Call_ (ld_blt I hg2 hm2 boot_set ?_)
  refine callWith_type1 (args_cons (thn (ha.run pins s σ H _ I h) fun v s1 ⟨x, H1, I1, r1, q1⟩ => args_nil ?_) na) na rfl
  obtain ⟨l, xs, rfl, hq, hl, q1⟩ := q1
  cases r1
  obtain ⟨its, r, pl, hz⟩ := I1.tuple hq
  refine call_set_texts (I1.ok.hd hc) pl (by simpa using strsAre_of r) (by unfold scanBound; omega) fun s2 hs2 => ?_
  obtain ⟨h', tk, rfl, z, kp⟩ := hs2
  refine args_nil ?_
  obtain ⟨o, es, ep, t, ho, hex, hd, _, _, _, hf, hn⟩ := z
  have I2 : Inv X pins σ H1 { s1 with heap := h', toks := tk } := I1.kept kp
  have dl := dcnt_le xs xs.length
  exact call_len_set ho hex hd hf (by rw [hn] <;> omega) ⟨.int (dcnt xs xs.length : Nat), H1, I2.tok _, ⟨_, by rw [hn]⟩, q1⟩
def textsOf : List PyData → Option (List Str)
  | [] => some []
  | .str x :: r => (textsOf r).map (x :: ·)
  | _ => none
def lenSetM (w : W) : M W := fun h => match w with
  | .d (.tuple ds) => (match textsOf ds with
    | some xs => if xs.length < 20 then .ok (.d (.int (dcnt xs xs.length : Nat))) h else .no
    | none => .no)
  | _ => .no
def eLenSet (a : ME) : ME := fun env => mbind (a env) lenSetM
section
variable {T : Tb} {G : GA} {CM : FId → List W → M W} {k : Nat} {sc : Sc} {c : Cf}
theorem texts_ok : ∀ {ds : List PyData} {ys : List Str} {xs : List V}, textsOf ds = some ys → RpL G.K c xs ds → xs = ys.map V.str
  | [], ys, xs, h, r => by
    cases h
    cases r
    rfl
  | .str x :: ds, ys, xs, h, r => by
    cases r with
    | cons r1 r2 =>
      unfold textsOf at h
      cases h3 : textsOf ds with
      | none => rw [h3] at h; cases h
      | some zs =>
        rw [h3] at h
        cases h
        rw [texts_ok h3 r2, rStr (G := G) (show RW G c _ (.d (.str x)) from r1)]
        rfl
theorem se_lenSet {a : Expr} {ma : ME} {p p2 q pos : Pos} (hg : isGlob sc "len" = true) (hf : ("len" : Str) ∈ T.free) (hg2 : isGlob sc "set" = true) (hf2 : ("set" : Str) ∈ T.free) (ha : SE T G CM k sc a ma) (hs : noStar a = true) :
    SE T G CM k sc (.Call (.Name "len" p) [.Call (.Name "set" p2) [a] [] q] [] pos) (eLenSet ma) := fun X Wx F => by
  refine PE.imp (pe_lenSetT F.calm (F.gl hg) (F.top.free _ hf) (F.gl hg2) (F.top.free _ hf2) (ha X Wx F) (noStar_each hs [] X.env)) fun σ H Q ⟨c, env, e, ok, re, q⟩ => ?_
  subst e
  refine tE.step ok re q fun w c1 v e1 ok1 re1 rv q1 => ?_
  unfold lenSetM at q1
  split at q1
  · rename_i ds
    split at q1
    · rename_i xs hx
      split at q1
      · rename_i hl
        obtain ⟨pa, ys, rfl, h1, r1⟩ := rTup rv
        rw [texts_ok hx r1] at h1
        exact ⟨pa, xs, rfl, by rw [F.K]; exact h1, hl, q1.here ok1 _ (.int _)⟩
      · exact q1.elim
    · exact q1.elim
  · exact q1.elim
end
end Ev
set_option Elab.async false
set_option linter.all false
set_option maxRecDepth 100000
set_option maxHeartbeats 4000000
/-! E14v: sorted(d.keys()), keys that are texts or ints. -/
namespace Ev
open PySem PySem.Spec PyProof.Rows L2
/-- the view of a dict's keys -/
abbrev kview (d : Addr) : Obj := { cls := .type "dict_keys", data := .fields #[.ref d] }
section
variable {X : Cx} {pins : List (Addr × Obj)} {σ : L2.St} {H : Hp} {s : Shared} {Q : VK} {v d : Addr} {kvs : List (Key × V)}
theorem sortedI_view {ks : List Int} (hc : X.calm = true) (I : L2.Inv X pins σ H s) (hv : s.heap.get? v = some (kview d)) (hd : Rd H d (.dK kvs)) (hks : kvs.map (·.1) = ks.map Sum.inl) (h64 : ks.length < 64)
    (q : ∀ (ys : List Int) (p : Addr), ys.Perm ks → ys.Pairwise (· ≤ ·) → H p = none → Q (.ref p) (upd H p (.lst (ys.map V.int)))) :
    wpAny (model X.prog X.w) X.A (call (.builtin "sorted") [.ref v]) (EP X pins σ Q) X.xe s := by
  obtain ⟨z, lo, vs, rel, dd⟩ := dk_rd I.hok hd
  obtain ⟨ep, hat⟩ := dd.dictAt
  have hkeys : vs.map (·.1) = ks.map Sum.inl := rel.keys.symm.trans hks
  have hl : vs.length = ks.length := by simpa using congrArg List.length hkeys
  refine Calls.call_function_entry PyProof.Rows.kind_sorted PyProof.Rows.plain_sorted PyProof.Rows.entry_sorted (PyProof.Rows.args_sorted1 _) ?_
  unfold Builtin.«sorted»
  refine wpAny_bind (m := checkCount "sorted" 1 1 _) (wpAny_pure ?_)
  refine wpAny_bind (PySem.W.kdu_collect (A := X.A.in1) (PySem.W.kdl_keys (knd := mixKind X.prog X.w) (r := v) (d := d) (kvs := vs) (ep := ep)) (I.ok.hd hc) ⟨⟨_, hv, rfl, rfl⟩, hat⟩ (by rw [hl, sizeLine_eq]; omega) fun h' tk acc hk hacc => ?_)
  have hal : acc.toList.length = ks.length := by rw [Array.length_toList, hacc.1, hl]
  have hS : IntsAre acc.toList ks := ints_each hal fun j u e => by
    obtain ⟨k, x, e1, e2⟩ := hacc.2 j u (by rw [← Array.getElem?_toList]; exact e)
    have e3 : (vs.map (·.1))[j]? = some k := by rw [List.getElem?_map, e1]; rfl
    rw [hkeys, List.getElem?_map] at e3
    cases e4 : ks[j]? with
    | none => rw [e4] at e3; cases e3
    | some y =>
      rw [e4] at e3
      obtain rfl : Sum.inl y = k := Option.some.inj e3
      rcases keyIs_shape (show keyIs (Sum.inl y) u = true from e2) with ⟨i, t, ek, ev⟩ | ⟨z, t, ek, ev⟩
      · cases ek
        exact ⟨y, t, rfl, ev⟩
      · cases ek
  have I1 : L2.Inv X pins σ H { s with heap := h', toks := tk } := I.kept hk
  refine wpAny_bind (wpAny_newList ?_ (by rw [hal, sizeLine_eq]; omega))
  have hoL : (h'.push (seqObj "list" acc.toList.toArray 0)).get? h'.objs.size = some (seqObj "list" acc.toList.toArray 0) := Heap.get?_push_size _ rfl
  show wpAny _ _ _ _ _ { s with heap := h'.push (seqObj "list" acc.toList.toArray 0), toks := tk }
  refine wpAny_bind (wpAny_holding (wpAny_call_entry PyProof.Rows.slot_list_sort ⟨_, hoL, rfl⟩ PyProof.Rows.entry_list_sort
    (PyProof.Rows.list_sort_tree (s := { s with heap := h'.push (seqObj "list" acc.toList.toArray 0), toks := tk }) hoL hS (by rw [hal]; exact h64) fun out ys g1 g2 g3 => ⟨_, rfl, ?_⟩) (PyProof.Rows.args_list_sort _)))
  obtain ⟨e', he'⟩ := PyProof.Rows.sortedHeap_at (vs := acc.toList) (out := out) hoL
  have hlen : (ys.map V.int).length ≤ sizeLine := by
    rw [List.length_map, g2.length_eq, sizeLine_eq]
    omega
  refine wpAny_pure ⟨_, rfl, .ref h'.objs.size, upd H h'.objs.size (.lst (ys.map V.int)), I1.laid (t' := tk) (fun b u e => ?_) (Nat.le_refl _)
    (show ObjOk X.prog X.w _ _ _ (.lst (ys.map V.int)) from ⟨hlen, out.toList, e', vals_of_ints g1, by rw [Array.toArray_toList]; exact he'⟩), rfl, q ys _ g2 g3 (I1.hok.fresh (Nat.le_refl _))⟩
  have hb : b < h'.objs.size := Heap.lt_size e
  rw [PyProof.Rows.sortedHeap_old (Nat.ne_of_lt hb) (by rw [size_push']; exact Nat.lt_succ_of_lt hb)]
  exact Heap.get?_push_of_some _ e
theorem sortedS_view {ks : List Str} (hc : X.calm = true) (I : L2.Inv X pins σ H s) (hv : s.heap.get? v = some (kview d)) (hd : Rd H d (.dK kvs)) (hks : kvs.map (·.1) = ks.map Sum.inr) (h64 : ks.length < 64)
    (q : ∀ (ys : List Str) (p : Addr), ys.Perm ks → sortedS ys = true → H p = none → Q (.ref p) (upd H p (.lst (ys.map V.str)))) :
    wpAny (model X.prog X.w) X.A (call (.builtin "sorted") [.ref v]) (EP X pins σ Q) X.xe s := by
  obtain ⟨z, lo, vs, rel, dd⟩ := dk_rd I.hok hd
  obtain ⟨ep, hat⟩ := dd.dictAt
  have hkeys : vs.map (·.1) = ks.map Sum.inr := rel.keys.symm.trans hks
  have hl : vs.length = ks.length := by simpa using congrArg List.length hkeys
  refine Calls.call_function_entry PyProof.Rows.kind_sorted PyProof.Rows.plain_sorted PyProof.Rows.entry_sorted (PyProof.Rows.args_sorted1 _) ?_
  unfold Builtin.«sorted»
  refine wpAny_bind (m := checkCount "sorted" 1 1 _) (wpAny_pure ?_)
  refine wpAny_bind (PySem.W.kdu_collect (A := X.A.in1) (PySem.W.kdl_keys (knd := mixKind X.prog X.w) (r := v) (d := d) (kvs := vs) (ep := ep)) (I.ok.hd hc) ⟨⟨_, hv, rfl, rfl⟩, hat⟩ (by rw [hl, sizeLine_eq]; omega) fun h' tk acc hk hacc => ?_)
  have hal : acc.toList.length = ks.length := by rw [Array.length_toList, hacc.1, hl]
  have hS : StrsAre acc.toList ks := L2.strs_at hal fun j u e => by
    obtain ⟨k, x, e1, e2⟩ := hacc.2 j u (by rw [← Array.getElem?_toList]; exact e)
    have e3 : (vs.map (·.1))[j]? = some k := by rw [List.getElem?_map, e1]; rfl
    rw [hkeys, List.getElem?_map] at e3
    cases e4 : ks[j]? with
    | none => rw [e4] at e3; cases e3
    | some y =>
      rw [e4] at e3
      obtain rfl : Sum.inr y = k := Option.some.inj e3
      obtain ⟨t, ev⟩ := Value.isStrOf_shape (x := y) (v := u) e2
      exact ⟨y, t, rfl, ev⟩
  have I1 : L2.Inv X pins σ H { s with heap := h', toks := tk } := I.kept hk
  refine wpAny_bind (wpAny_newList ?_ (by rw [hal, sizeLine_eq]; omega))
  have hoL : (h'.push (seqObj "list" acc.toList.toArray 0)).get? h'.objs.size = some (seqObj "list" acc.toList.toArray 0) := Heap.get?_push_size _ rfl
  show wpAny _ _ _ _ _ { s with heap := h'.push (seqObj "list" acc.toList.toArray 0), toks := tk }
  refine wpAny_bind (wpAny_holding (wpAny_call_entry PyProof.Rows.slot_list_sort ⟨_, hoL, rfl⟩ PyProof.Rows.entry_list_sort
    (list_sort_treeK strKind_oneLt (s := { s with heap := h'.push (seqObj "list" acc.toList.toArray 0), toks := tk }) hoL hS.keysOf (fun v₁ v₂ rest e => keyKind_strs (by rw [← e]; exact hS)) (by rw [hal]; exact h64) fun st' hp hs => ⟨_, rfl, ?_⟩)
    (PyProof.Rows.args_list_sort _)))
  obtain ⟨ys, g1, g2, g3⟩ := sorted_out_str hS hp hs
  obtain ⟨e', he'⟩ := PyProof.Rows.sortedHeap_at (vs := acc.toList) (out := (arrOf st').map (·.2)) hoL
  have hlen : (ys.map V.str).length ≤ sizeLine := by
    rw [List.length_map, g2.length_eq, sizeLine_eq]
    omega
  refine wpAny_pure ⟨_, rfl, .ref h'.objs.size, upd H h'.objs.size (.lst (ys.map V.str)), I1.laid (t' := tk) (fun b u e => ?_) (Nat.le_refl _)
    (show ObjOk X.prog X.w _ _ _ (.lst (ys.map V.str)) from ⟨hlen, ((arrOf st').map (·.2)).toList, e', vals_of_strs g1, by rw [Array.toArray_toList]; exact he'⟩), rfl, q ys _ g2 g3 (I1.hok.fresh (Nat.le_refl _))⟩
  have hb : b < h'.objs.size := Heap.lt_size e
  rw [PyProof.Rows.sortedHeap_old (Nat.ne_of_lt hb) (by rw [size_push']; exact Nat.lt_succ_of_lt hb)]
  exact Heap.get?_push_of_some _ e
end
end Ev
set_option Elab.async false
set_option linter.all false
set_option maxRecDepth 100000
set_option maxHeartbeats 4000000
/-! E14w: sorted(d.keys()) in the evaluator. -/
namespace Ev
open PySem PySem.Spec PyProof.Rows L2
/-! ### sorting, plain -/
def insB {α : Type} (le : α → α → Bool) (x : α) : List α → List α
  | [] => [x]
  | y :: r => if le x y then x :: y :: r else y :: insB le x r
def srt {α : Type} (le : α → α → Bool) : List α → List α
  | [] => []
  | x :: r => insB le x (srt le r)
section
variable {α : Type} {le : α → α → Bool}
theorem ins_perm (x : α) : ∀ r : List α, (insB le x r).Perm (x :: r)
  | [] => .refl _
  | y :: r => by
    unfold insB
    split
    · exact .refl _
    · exact ((ins_perm x r).cons y).trans (.swap x y r)
theorem srt_perm : ∀ r : List α, (srt le r).Perm r
  | [] => .refl _
  | x :: r => (ins_perm x (srt le r)).trans ((srt_perm r).cons x)
theorem ins_pw (tot : ∀ a b, le a b = false → le b a = true) (tr : ∀ a b c, le a b = true → le b c = true → le a c = true) (x : α) : ∀ r : List α, r.Pairwise (fun a b => le a b = true) → (insB le x r).Pairwise (fun a b => le a b = true)
  | [], _ => List.pairwise_singleton _ _
  | y :: r, h => by
    obtain ⟨h1, h2⟩ := List.pairwise_cons.mp h
    unfold insB
    split
    · rename_i hx
      refine List.pairwise_cons.mpr ⟨fun z hz => ?_, h⟩
      rcases List.mem_cons.mp hz with e | e
      · rw [e]; exact hx
      · exact tr _ _ _ hx (h1 z e)
    · rename_i hx
      refine List.pairwise_cons.mpr ⟨fun z hz => ?_, ins_pw tot tr x r h2⟩
      rcases List.mem_cons.mp ((ins_perm x r).mem_iff.mp hz) with e | e
      · rw [e]; exact tot _ _ (by simpa using hx)
      · exact h1 z e
theorem srt_pw (tot : ∀ a b, le a b = false → le b a = true) (tr : ∀ a b c, le a b = true → le b c = true → le a c = true) : ∀ r : List α, (srt le r).Pairwise (fun a b => le a b = true)
  | [] => .nil
  | x :: r => ins_pw tot tr x _ (srt_pw tot tr r)
theorem srt_one (anti : ∀ a b, le a b = true → le b a = true → a = b) : ∀ (a b : List α), a.Perm b → a.Pairwise (fun a b => le a b = true) → b.Pairwise (fun a b => le a b = true) → a = b
  | [], b, h, _, _ => h.nil_eq
  | x :: a, [], h, _, _ => by have := h.length_eq; simp at this
  | x :: a, y :: b, h, ha, hb => by
    have e : x = y := by
      rcases List.mem_cons.mp (h.mem_iff.mp List.mem_cons_self) with e | e
      · exact e
      · rcases List.mem_cons.mp (h.mem_iff.mpr List.mem_cons_self) with e2 | e2
        · exact e2.symm
        · exact anti _ _ (List.rel_of_pairwise_cons ha e2) (List.rel_of_pairwise_cons hb e)
    subst e
    rw [srt_one anti a b h.cons_inv (List.pairwise_cons.mp ha).2 (List.pairwise_cons.mp hb).2]
theorem srt_is (tot : ∀ a b, le a b = false → le b a = true) (tr : ∀ a b c, le a b = true → le b c = true → le a c = true) (anti : ∀ a b, le a b = true → le b a = true → a = b) {ys ks : List α} (h : ys.Perm ks) (hp : ys.Pairwise (fun a b => le a b = true)) : ys = srt le ks :=
  srt_one anti _ _ (h.trans (srt_perm ks).symm) hp (srt_pw tot tr ks)
end
def leI (a b : Int) : Bool := decide (a ≤ b)
def leS (a b : Str) : Bool := !ltCps b.cps.toList a.cps.toList
theorem ltC_tot : ∀ (a b : List Nat), ltCps b a = true → ltCps a b = false
  | [], [], h => by cases h
  | [], _ :: _, h => by cases h
  | _ :: _, [], h => rfl
  | a :: r, b :: t, h => by
    simp only [ltCps, Bool.or_eq_true, decide_eq_true_eq, Bool.and_eq_true, beq_iff_eq] at h
    simp only [ltCps, Bool.or_eq_false_iff, decide_eq_false_iff_not]
    rcases h with h | ⟨h1, h2⟩
    · refine ⟨by omega, ?_⟩
      have : (a == b) = false := by simp; omega
      rw [this]; rfl
    · refine ⟨by omega, ?_⟩
      rw [ltC_tot r t h2, Bool.and_false]
theorem ltC_anti : ∀ (a b : List Nat), ltCps b a = false → ltCps a b = false → a = b
  | [], [], _, _ => rfl
  | [], _ :: _, _, h => by cases h
  | _ :: _, [], h, _ => by cases h
  | a :: r, b :: t, h, h' => by
    simp only [ltCps, Bool.or_eq_false_iff, decide_eq_false_iff_not] at h h'
    have e : a = b := by omega
    subst e
    simp only [beq_self_eq_true, Bool.true_and] at h h'
    rw [ltC_anti r t h.2 h'.2]
theorem ltC_tr : ∀ (a b c : List Nat), ltCps b a = false → ltCps c b = false → ltCps c a = false
  | a, b, [], h1, h2 => by
    cases b with
    | nil => exact h1
    | cons => cases h2
  | [], b, c :: u, _, _ => rfl
  | a :: r, [], c :: u, h1, _ => by cases h1
  | a :: r, b :: t, c :: u, h1, h2 => by
    simp only [ltCps, Bool.or_eq_false_iff, decide_eq_false_iff_not] at h1 h2 ⊢
    refine ⟨by omega, ?_⟩
    by_cases e : c = a
    · subst e
      have e2 : b = c := by omega
      subst e2
      simp only [beq_self_eq_true, Bool.true_and] at h1 h2 ⊢
      exact ltC_tr r t u h1.2 h2.2
    · have : (c == a) = false := by simpa using e
      rw [this]; rfl
theorem srtI_is {ys ks : List Int} (h : ys.Perm ks) (hp : ys.Pairwise (· ≤ ·)) : ys = srt leI ks :=
  srt_is (fun a b h => by simp [leI] at *; omega) (fun a b c h1 h2 => by simp [leI] at *; omega) (fun a b h1 h2 => by simp [leI] at *; omega) h (hp.imp fun h => by simp [leI]; exact h)
theorem leS_tr (a b c : Str) (h1 : leS a b = true) (h2 : leS b c = true) : leS a c = true := by
  simp only [leS, Bool.not_eq_true'] at *
  exact ltC_tr _ _ _ h1 h2
theorem rising_pw : ∀ (p : Str) (r : List Str), risingS p r = true → (p :: r).Pairwise (fun a b => leS a b = true)
  | p, [], _ => List.pairwise_singleton _ _
  | p, x :: r, h => by
    simp only [risingS, Bool.and_eq_true] at h
    have ih := rising_pw x r h.2
    refine List.pairwise_cons.mpr ⟨fun z hz => ?_, ih⟩
    rcases List.mem_cons.mp hz with e | e
    · rw [e]; exact h.1
    · exact leS_tr _ _ _ h.1 (List.rel_of_pairwise_cons ih e)
theorem srtS_is {ys ks : List Str} (h : ys.Perm ks) (hp : sortedS ys = true) : ys = srt leS ks :=
  srt_is (fun a b h => by simp only [leS, Bool.not_eq_true', Bool.not_eq_false'] at *; exact ltC_tot _ _ h) leS_tr
    (fun a b h1 h2 => by
      simp only [leS, Bool.not_eq_true'] at *
      have e := ltC_anti _ _ h1 h2
      cases a; cases b
      simp only [Str.mk.injEq]
      exact Array.toList_inj.mp e) h (by
    cases ys with
    | nil => exact .nil
    | cons x r => exact rising_pw x r hp)
end Ev
set_option Elab.async false
set_option linter.all false
set_option maxRecDepth 100000
set_option maxHeartbeats 4000000
/-! E14x: sorted(d.keys()), the evaluator's term. -/
namespace Ev
open PySem PySem.Spec PyProof.Rows L2
def rSortK : V → Hp → VK → Prop := fun x H Q => ∃ (d : Addr) (kvs : List (Key × V)), x = .ref d ∧ Rd H d (.dK kvs) ∧
  ((∃ ks : List Int, kvs.map (·.1) = ks.map Sum.inl ∧ ks.length < 64 ∧ ∀ p, H p = none → Q (.ref p) (upd H p (.lst ((srt leI ks).map V.int)))) ∨
   (∃ ks : List Str, kvs.map (·.1) = ks.map Sum.inr ∧ ks.length < 64 ∧ ∀ p, H p = none → Q (.ref p) (upd H p (.lst ((srt leS ks).map V.str)))))
theorem pe_sortK {X : Cx} {e : Expr} {te : TE} {p apos cpos pos : Pos} (hc : X.calm = true) (he : PE X e te) (hg : Gl X "sorted") (hm : X.mg "sorted" = none) (hbase : attributeBase e "keys" X.env (eval e X.env) = eval e X.env) (hline : (apos.endLine == cpos.line) = true) :
    PE X (.Call (.Name "sorted" p) [.Call (.Attribute e "keys" apos) [] [] cpos] [] pos) (fun σ H Q => te σ H fun x H1 => rSortK x H1 Q) := by
  have hs : starEach [.Call (.Attribute e "keys" apos) [] [] cpos] X.env = (false, eval (.Call (.Attribute e "keys" apos) [] [] cpos) X.env) :: starEach [] X.env := by rfl
  refine ⟨fun pins s σ H Q I hq => ?_⟩
  refine wpAny_Call_Name_kw (ld_blt I hg hm boot_sorted ?_)
  refine PyProof.Rows.callWith_builtin1 ?_ hs rfl
  rw [hs]
  show wpAny _ _ (spliced ((false, eval (.Call (.Attribute e "keys" apos) [] [] cpos) X.env) :: backTo pos (starEach [] X.env))) _ _ s
  refine Calls.spliced_cons ?_
  refine wpAny_Call_method (T := "dict") (id := "dict.keys") hbase rfl hline F.plainAttrs_dict F.slot_dict_keys F.type_dict_keys (thn (he.run pins s σ H _ I hq) fun u s1 ⟨x, H1, I1, rx, d, kvs, ex, hd, q⟩ => ?_)
  subst ex
  obtain rfl : u = Value.ref d := rx
  obtain ⟨hz, hs0, vs, kv, hdo⟩ := hd.ok I1.hok
  have I2 : L2.Inv X pins σ H1 { s1 with heap := s1.heap.push (kview d) } := I1.kept (t' := s1.toks) fun b ob q => Heap.get?_push_of_some _ q
  refine ⟨hdo.typeIs, hdo.mapOf.noDict, ?_⟩
  show wpAny _ _ (callWith cpos (.builtin "dict.keys") [.ref d] [] []) _ X.xe s1
  refine method_meetsIn F.slot_dict_keys F.entry_dict_keys rfl (PySem.evalArgs_none ⟨rfl, hdo.typeIs, F.args_dict_keys_1 _, _, PySem.W.kdl_meets_keys (mixKind X.prog X.w) d hs0, ⟨vs, hdo⟩, ?_⟩)
  refine Calls.spliced_nil ?_
  rcases q with ⟨ks, h1, h2, q⟩ | ⟨ks, h1, h2, q⟩
  · exact sortedI_view hc I2 (Heap.get?_push_size _ rfl) hd h1 h2 fun ys p g1 g2 hp => by
      rw [srtI_is g1 g2]
      exact q p hp
  · exact sortedS_view hc I2 (Heap.get?_push_size _ rfl) hd h1 h2 fun ys p g1 g2 hp => by
      rw [srtS_is g1 g2]
      exact q p hp
def keysI : List (PyData × W) → Option (List Int)
  | [] => some []
  | (.int i, _) :: r => (keysI r).map (i :: ·)
  | _ => none
def keysS : List (PyData × W) → Option (List Str)
  | [] => some []
  | (.str i, _) :: r => (keysS r).map (i :: ·)
  | _ => none
def sortKM (w : W) : M W := fun h => match dictW h w with
  | some kvs => (match keysI kvs with
    | some ks => if ks.length < 64 then .ok (.r h.length) (h ++ [.lst ((srt leI ks).map fun i => .d (.int i))]) else .no
    | none => (match keysS kvs with
      | some ks => if ks.length < 64 then .ok (.r h.length) (h ++ [.lst ((srt leS ks).map fun i => .d (.str i))]) else .no
      | none => .no))
  | none => .no
def eSortK (a : ME) : ME := fun env => mbind (a env) sortKM
section
variable {T : Tb} {G : GA} {CM : FId → List W → M W} {k : Nat} {sc : Sc} {c : Cf} {e : Expr} {ma : ME} {p apos cpos pos : Pos}
theorem keysI_ok : ∀ {xs : List (Key × V)} {ds : List (PyData × W)} {ks : List Int}, keysI ds = some ks → PDW G c xs ds → xs.map (·.1) = ks.map Sum.inl
  | _, _, ks, h, .nil => by cases h; rfl
  | (kk, v) :: xs, (d, w) :: ds, ks, h, .cons r t => by
    unfold keysI at h
    split at h
    · rename_i e; cases e
    · rename_i i w' r' e
      cases e
      cases h2 : keysI ds with
      | none => rw [h2] at h; cases h
      | some zs =>
        rw [h2] at h
        cases h
        have e1 : kk = Sum.inl i := by
          have := r.1
          cases kk with
          | inl j => simp [keyD] at this; rw [this]
          | inr j => simp [keyD] at this
        rw [List.map_cons, List.map_cons, keysI_ok h2 t, e1]
    · cases h
theorem keysS_ok : ∀ {xs : List (Key × V)} {ds : List (PyData × W)} {ks : List Str}, keysS ds = some ks → PDW G c xs ds → xs.map (·.1) = ks.map Sum.inr
  | _, _, ks, h, .nil => by cases h; rfl
  | (kk, v) :: xs, (d, w) :: ds, ks, h, .cons r t => by
    unfold keysS at h
    split at h
    · rename_i e; cases e
    · rename_i i w' r' e
      cases e
      cases h2 : keysS ds with
      | none => rw [h2] at h; cases h
      | some zs =>
        rw [h2] at h
        cases h
        have e1 : kk = Sum.inr i := by
          have := r.1
          cases kk with
          | inl j => simp [keyD] at this
          | inr j => simp [keyD] at this; rw [this]
        rw [List.map_cons, List.map_cons, keysS_ok h2 t, e1]
    · cases h
theorem rwl_ints : ∀ (ks : List Int), RWL G c (ks.map V.int) (ks.map fun i => W.d (.int i))
  | [] => .nil
  | i :: r => .cons (show Rp G.K c _ _ from .int _) (rwl_ints r)
theorem rwl_strs : ∀ (ks : List Str), RWL G c (ks.map V.str) (ks.map fun i => W.d (.str i))
  | [] => .nil
  | i :: r => .cons (show Rp G.K c _ _ from .str _) (rwl_strs r)
theorem se_sortK (hg : isGlob sc "sorted" = true) (hf : ("sorted" : Str) ∈ T.free) (hb : okBase e = true) (hline : (apos.endLine == cpos.line) = true) (he : SE T G CM k sc e ma) : SE T G CM k sc (.Call (.Name "sorted" p) [.Call (.Attribute e "keys" apos) [] [] cpos] [] pos) (eSortK ma) := fun X Wx F => by
  refine PE.imp (pe_sortK F.calm (he X Wx F) (F.gl hg) (F.top.free _ hf) (okBase_ok hb _ _) hline) fun σ H Q ⟨c, env, e, ok, re, q⟩ => ?_
  subst e
  refine tE.step ok re q fun w c1 v e1 ok1 re1 rv q1 => ?_
  unfold sortKM at q1
  split at q1
  · rename_i kvs hk
    obtain ⟨a, xs, rfl, h1, r1⟩ := dictW_ok ok1 hk rv
    split at q1
    · rename_i ks h2
      split at q1
      · rename_i hl
        exact ⟨a, xs, rfl, h1, .inl ⟨ks, keysI_ok h2 r1, hl, fun p hp => new_list ok1 (rwl_ints _) hp q1⟩⟩
      · exact q1.elim
    · split at q1
      · rename_i ks h2
        split at q1
        · rename_i hl
          exact ⟨a, xs, rfl, h1, .inr ⟨ks, keysS_ok h2 r1, hl, fun p hp => new_list ok1 (rwl_strs _) hp q1⟩⟩
        · exact q1.elim
      · exact q1.elim
  · exact q1.elim
end
end Ev
set_option Elab.async false
set_option linter.all false
set_option maxRecDepth 100000
set_option maxHeartbeats 4000000
/-! E14y: a dict of the module with text keys: k in D, k not in D, D[k] . -/
namespace Ev
open PySem PySem.Spec PyProof.Rows L2
/-- at the global x stands a dict of the written part, of these entries -/
def KdX (G : GA) (X : Cx) (x : Str) (l : List (Str × PyData)) : Prop := ∃ d es n, X.mg x = some (.ref d) ∧ KDict X.K X.w d es n ∧
  ∀ z : Str, (l.lookup z = none → PySem.W.nsIn X.K d z = some none) ∧ ∀ dv, l.lookup z = some dv → ∃ u v, PySem.W.nsIn X.K d z = some (some u) ∧ RelV v u ∧ ∀ c, Rp G.K c v dv
def inKM (l : List (Str × PyData)) (b : Bool) (w : W) : M W := fun h => match w with
  | .d (.str z) => .ok (.d (.bool ((l.lookup z).isSome == b))) h
  | _ => .no
def subKM (l : List (Str × PyData)) (w : W) : M W := fun h => match w with
  | .d (.str z) => (match l.lookup z with
    | some dv => .ok (.d dv) h
    | none => .no)
  | _ => .no
def eInK (l : List (Str × PyData)) (b : Bool) (a : ME) : ME := fun env => mbind (a env) (inKM l b)
def eSubK (l : List (Str × PyData)) (a : ME) : ME := fun env => mbind (a env) (subKM l)
theorem Fits.kdx {T : Tb} {G : GA} {CM : FId → List W → M W} {k : Nat} {X : Cx} {sc : Sc} {Wx : WX} (F : Fits T G CM k X sc Wx) {x : Str} {l : List (Str × PyData)} (h : T.kds.lookup x = some l) : KdX G X x l := by
  obtain ⟨d, es, n, h1, h2, h3⟩ := F.top.kd x l h
  refine ⟨d, es, n, h1, ?_, ?_⟩
  · rw [F.K]; exact h2
  · rw [F.K]; exact h3
section
variable {T : Tb} {G : GA} {CM : FId → List W → M W} {k : Nat} {sc : Sc} {a : Expr} {ma : ME} {x : Str} {l : List (Str × PyData)} {p pos : Pos}
theorem kdx_isSome {X : Cx} {d : Addr} {z : Str} (h : (l.lookup z = none → PySem.W.nsIn X.K d z = some none) ∧ ∀ dv, l.lookup z = some dv → ∃ u v, PySem.W.nsIn X.K d z = some (some u) ∧ RelV v u ∧ ∀ c, Rp G.K c v dv) :
    ∃ r, PySem.W.nsIn X.K d z = some r ∧ r.isSome = (l.lookup z).isSome := by
  cases e : l.lookup z with
  | none => exact ⟨none, h.1 e, rfl⟩
  | some dv =>
    obtain ⟨u, v, h1, _⟩ := h.2 dv e
    exact ⟨some u, h1, rfl⟩
theorem se_notInK (hg : isGlob sc x = true) (hd : T.kds.lookup x = some l) (ha : SE T G CM k sc a ma) : SE T G CM k sc (.Compare a [.NotIn] [.Name x p] pos) (eInK l false ma) := fun X Wx F => by
  obtain ⟨d, es, n, h1, h2, h3⟩ := F.kdx hd
  refine PE.imp (pe_cmpR (op_notIn_kd h2) (ha X Wx F) (pe_glob (X := X) (v := .ref d) (pos := p) (F.gl hg) h1 rfl (glob_ok hg).2.1) rfl) fun σ H Q ⟨c, env, e, ok, re, q⟩ => ?_
  subst e
  refine tE.step ok re q fun w c1 v e1 ok1 re1 rv q1 => ?_
  unfold inKM at q1
  split at q1
  · rename_i z
    obtain ⟨r, g1, g2⟩ := kdx_isSome (h3 z)
    refine ⟨z, r, rStr rv, rfl, g1, ?_⟩
    rw [g2]
    have e3 : ((l.lookup z).isSome == false) = !(l.lookup z).isSome := by cases (l.lookup z).isSome <;> rfl
    rw [e3] at q1
    exact q1.here ok1 _ (.bl _)
  · exact q1.elim
theorem se_inK (hg : isGlob sc x = true) (hd : T.kds.lookup x = some l) (ha : SE T G CM k sc a ma) : SE T G CM k sc (.Compare a [.In] [.Name x p] pos) (eInK l true ma) := fun X Wx F => by
  obtain ⟨d, es, n, h1, h2, h3⟩ := F.kdx hd
  refine PE.imp (pe_cmpR (op_in_kd h2) (ha X Wx F) (pe_glob (X := X) (v := .ref d) (pos := p) (F.gl hg) h1 rfl (glob_ok hg).2.1) rfl) fun σ H Q ⟨c, env, e, ok, re, q⟩ => ?_
  subst e
  refine tE.step ok re q fun w c1 v e1 ok1 re1 rv q1 => ?_
  unfold inKM at q1
  split at q1
  · rename_i z
    obtain ⟨r, g1, g2⟩ := kdx_isSome (h3 z)
    refine ⟨z, r, rStr rv, rfl, g1, ?_⟩
    rw [g2]
    have e3 : ((l.lookup z).isSome == true) = (l.lookup z).isSome := by cases (l.lookup z).isSome <;> rfl
    rw [e3] at q1
    exact q1.here ok1 _ (.bl _)
  · exact q1.elim
theorem st_notInK (hg : isGlob sc x = true) (hd : T.kds.lookup x = some l) (ha : SE T G CM k sc a ma) : ST T G CM k sc (.Compare a [.NotIn] [.Name x p] pos) (tst (eInK l false ma)) := fun X Wx F => by
  obtain ⟨d, es, n, h1, h2, h3⟩ := F.kdx hd
  refine PT.imp (pt_cmpR (op_notIn_kd h2) (ha X Wx F) (pe_glob (X := X) (v := .ref d) (pos := p) (F.gl hg) h1 rfl (glob_ok hg).2.1) rfl) fun σ H Q q0 => ?_
  obtain ⟨c, env, e, ok, re, q⟩ := tst_imp (X := X) q0
  subst e
  show tE G Wx ma σ c.H (fun x H1 => ∃ z r, x = V.str z ∧ V.ref d = V.ref d ∧ PySem.W.nsIn X.K d z = some r ∧ ∃ k, V.bl (!r.isSome) = .bl k ∧ Q k H1)
  refine tE.step ok re q fun w c1 v e1 ok1 re1 rv q1 => ?_
  unfold inKM at q1
  split at q1
  · rename_i z
    obtain ⟨r, g1, g2⟩ := kdx_isSome (h3 z)
    refine ⟨z, r, rStr rv, rfl, g1, ?_⟩
    rw [g2]
    have e3 : ((l.lookup z).isSome == false) = !(l.lookup z).isSome := by cases (l.lookup z).isSome <;> rfl
    rw [e3] at q1
    obtain ⟨k2, g5, g6⟩ := q1.here ok1 _ (.bl _)
    exact ⟨k2, g5, g6⟩
  · exact q1.elim
theorem st_inK (hg : isGlob sc x = true) (hd : T.kds.lookup x = some l) (ha : SE T G CM k sc a ma) : ST T G CM k sc (.Compare a [.In] [.Name x p] pos) (tst (eInK l true ma)) := fun X Wx F => by
  obtain ⟨d, es, n, h1, h2, h3⟩ := F.kdx hd
  refine PT.imp (pt_cmpR (op_in_kd h2) (ha X Wx F) (pe_glob (X := X) (v := .ref d) (pos := p) (F.gl hg) h1 rfl (glob_ok hg).2.1) rfl) fun σ H Q q0 => ?_
  obtain ⟨c, env, e, ok, re, q⟩ := tst_imp (X := X) q0
  subst e
  show tE G Wx ma σ c.H (fun x H1 => ∃ z r, x = V.str z ∧ V.ref d = V.ref d ∧ PySem.W.nsIn X.K d z = some r ∧ ∃ k, V.bl (r.isSome) = .bl k ∧ Q k H1)
  refine tE.step ok re q fun w c1 v e1 ok1 re1 rv q1 => ?_
  unfold inKM at q1
  split at q1
  · rename_i z
    obtain ⟨r, g1, g2⟩ := kdx_isSome (h3 z)
    refine ⟨z, r, rStr rv, rfl, g1, ?_⟩
    rw [g2]
    have e3 : ((l.lookup z).isSome == true) = (l.lookup z).isSome := by cases (l.lookup z).isSome <;> rfl
    rw [e3] at q1
    obtain ⟨k2, g5, g6⟩ := q1.here ok1 _ (.bl _)
    exact ⟨k2, g5, g6⟩
  · exact q1.elim
theorem se_subK (hg : isGlob sc x = true) (hd : T.kds.lookup x = some l) (ha : SE T G CM k sc a ma) (hs : PlainIx a) : SE T G CM k sc (.Subscript (.Name x p) a pos) (eSubK l ma) := fun X Wx F => by
  obtain ⟨d, es, n, h1, h2, h3⟩ := F.kdx hd
  refine PE.imp (pe_ix ix_kdict (pe_glob (X := X) (v := .ref d) (pos := p) (F.gl hg) h1 rfl (glob_ok hg).2.1) (ha X Wx F) hs) fun σ H Q ⟨c, env, e, ok, re, q⟩ => ?_
  subst e
  show tE G Wx ma σ c.H (fun y H2 => rIxD X.K X.w (V.ref d) y H2 Q)
  refine tE.step ok re q fun w c1 v e1 ok1 re1 rv q1 => ?_
  unfold subKM at q1
  split at q1
  · rename_i z
    split at q1
    · rename_i dv hl
      obtain ⟨u, v0, g1, g2, g3⟩ := (h3 z).2 dv hl
      exact ⟨d, z, v0, rfl, rStr rv, ⟨es, n, u, h2.at_, h2.lit, g1, g2⟩, q1.here ok1 _ (g3 _)⟩
    · exact q1.elim
  · exact q1.elim
end
end Ev
set_option Elab.async false
set_option linter.all false
set_option maxRecDepth 100000
set_option maxHeartbeats 4000000
/-! E14z: a dict of one key, a truth. -/
namespace Ev
open PySem PySem.Spec PyProof.Rows L2
def isB (b : Bool) : Value → Bool
  | .bool c => decide (b = c)
  | _ => false
theorem isB_ok {b : Bool} {v : Value} (h : isB b v = true) : v = .bool b := by
  cases v with
  | bool c => rw [of_decide_eq_true h]
  | _ => cases h
def leafB (b : Bool) : Leaf := .num (if b = true then 1 else 0)
theorem leafB_is (b : Bool) : Leaf.isOf (leafB b) (.bool b) = true := by cases b <;> rfl
def boolKind (prog : Program) (w : World) : KeyKind prog w Bool where
  is := isB
  hash := hashB
  inj := fun v a b ha hb => by
    have h1 := isB_ok ha
    have h2 := isB_ok hb
    rw [h1] at h2
    exact Value.bool.inj h2
  byValue := fun k v h => by rw [isB_ok h]; rfl
  pyHash := fun {A E s k v Q} hv h => by
    rw [isB_ok hv]
    exact pyHash_leaf (k := leafB k) (leafB_is k) h
  eqBool := fun {A E s a b u v Q} hu hv h => by
    rw [isB_ok hu, isB_ok hv]
    refine (leafKind prog w).eqBool (a := leafB a) (b := leafB b) (leafB_is a) (leafB_is b) ?_
    rw [show decide (leafB a = leafB b) = decide (a = b) from by cases a <;> cases b <;> rfl]
    exact h
  «strs» := fun k x t v h => by cases h
theorem bd_of {P : Program} {w : World} {h : Heap} {a : Addr} {b : Bool} {u : Value} (d : h.DictOf (boolKind P w) a [(b, u)]) : ∃ o, h.get? a = some o ∧ BDo b u o := by
  obtain ⟨o, es, ep, h1, h2, h3, h4, h5, _⟩ := d
  refine ⟨o, h1, h2, ep, ?_⟩
  rw [h3]
  have e : es.toList = [(⟨hashB b, .bool b, u⟩ : DictEntry)] := by
    cases q : es.toList with
    | nil => rw [q] at h5; cases h5
    | cons x r =>
      rw [q] at h5
      cases h5 with
      | cons p1 p2 p3 =>
        cases p3
        obtain ⟨k, k1, k2⟩ := h4 x (by rw [← Array.mem_toList_iff, q]; simp)
        have e1 := isB_ok p1
        have e2 : k = b := by
          have := isB_ok k1
          rw [e1] at this
          exact (Value.bool.inj this).symm
        subst e2
        obtain ⟨hh, kk, vv⟩ := x
        have p2 : vv = u := p2
        have e1 : kk = .bool k := e1
        have k2 : hh = hashB k := k2
        rw [p2, e1, k2]
  have : es = #[(⟨hashB b, .bool b, u⟩ : DictEntry)] := by
    rw [← Array.toList_inj]; exact e
  rw [this]
section
variable {X : Cx}
def tDispB (tk tv : TE) : TE := fun σ H Q => ∀ p, H p = none → tk σ (upd H p (.dK [])) fun x H1 => tv σ H1 fun y H2 => H2 p = some (.dK []) ∧ ∃ b, x = .bl b ∧ ∀ o u, RelV y u → BDo b u o → (p == sysModules) = false → Q (.ref p) (upd H2 p (.ext (AtO p o)))
theorem pe_dispB {pos : Pos} {a b : Expr} {tk tv : TE} (hk : PE X a tk) (hv : PE X b tv) : PE X (.Dict [some a] [b] pos) (tDispB tk tv) := by
  refine ⟨fun pins s σ H Q I q => ?_⟩
  have hn := I.hok.fresh (Nat.le_refl s.heap.objs.size)
  have I1 := I.laid (a := s.heap.objs.size) (o := .dK []) (h' := s.heap.push { cls := .type "dict", data := .dict #[] }) (t' := s.toks) (fun _ _ q => Heap.get?_push_of_some _ q) (Nat.le_refl _) (dk_empty s.heap I.big)
  have h : PPs X pos [some a] [b] [(tk, tv)] := pps_cons hk hv pps_nil
  let F : List (V × V) → Hp → Prop := fun ps H2 => match ps with
    | [(x, y)] => H2 s.heap.objs.size = some (.dK []) ∧ ∃ b, x = .bl b ∧ ∀ o u, RelV y u → BDo b u o → (s.heap.objs.size == sysModules) = false → Q (.ref s.heap.objs.size) (upd H2 s.heap.objs.size (.ext (AtO s.heap.objs.size o)))
    | _ => False
  refine wpAny_Dict_walk (knd := boolKind X.prog X.w) rfl rfl (by simp) (by simp) (thn (h.run pins _ σ _ F I1 (q _ hn)) fun ws s2 ⟨ps, H2, I2, rel, q2⟩ => ?_)
  match ps, rel, q2 with
  | [(x, y)], rel, q2 =>
    obtain ⟨e, bb, eb, q2⟩ := q2
    subst eb
    cases rel with
    | @cons _ w _ _ rw rn =>
      cases rn
      obtain ⟨r1, r2⟩ := rw
      obtain ⟨w1, w2⟩ := w
      have r1 : w1 = Value.bool bb := r1
      subst r1
      obtain ⟨z, hd, vs0, r0, dd⟩ := dk_of I2.hok e
      cases r0
      have dd0 : s2.heap.DictOf (boolKind X.prog X.w) s.heap.objs.size [] := by
        obtain ⟨o, es, ep, h1, h2, h3, h4, h5, h6⟩ := dd
        refine ⟨o, es, ep, h1, h2, h3, fun en hen => ?_, ?_, List.nodup_nil⟩
        · cases qq : es.toList with
          | nil => rw [← Array.mem_toList_iff, qq] at hen; cases hen
          | cons x r => rw [qq] at h5; cases h5
        · cases qq : es.toList with
          | nil => exact .nil
          | cons x r => rw [qq] at h5; cases h5
      refine ⟨[(bb, w2)], ⟨show isB bb (.bool bb) = true from decide_eq_true rfl, rfl, trivial⟩, dd0, fun h' dd' hs => ?_⟩
      have dd' : h'.DictOf (boolKind X.prog X.w) s.heap.objs.size [(bb, w2)] := dd'
      obtain ⟨o, ho, bo⟩ := bd_of dd'
      exact ⟨.ref s.heap.objs.size, _, d_write (ob := .ext (AtO s.heap.objs.size o)) I2 (by rw [e]; exact True.intro) hs ⟨o, ho⟩ ⟨ho, ⟨o, ho⟩, fun h1 h2 z1 z2 => z2 _ z1⟩, rfl, q2 o w2 r2 bo hd⟩
  | [], rel, q2 => exact q2.elim
  | _ :: _ :: _, rel, q2 => exact q2.elim
/-! ### its keys walked -/
def Itb (d : Addr) (o : Obj) (b : Bool) : It :=
  ⟨fun i H => H d = some (.ext (AtO d o)) ∧ i < 1, fun i H x H' => H' = H ∧ x = .bl b, fun i H => H d = some (.ext (AtO d o)) ∧ 1 ≤ i⟩
theorem turn_keysB {P : Program} {w : World} {K : PySem.W.Frag} {tg : Expr} {d : Addr} {o : Obj} {b : Bool} {u : Value} {ep : Nat} (it : Addr) (hod : o.data = .dict #[(⟨hashB b, .bool b, u⟩ : DictEntry)] ep) : Turn P w K tg (Itb d o b) [it] it (fun i h => h.IsKeyIter it d i 1 ep) where
  mem := by simp
  obj := fun i h st b hb => by
    have e : b = it := by simpa using hb
    subst e
    obtain ⟨oi, e, c, dd⟩ := st
    exact ⟨oi, e, fun v z => by rw [dd] at z; cases z⟩
  keep := fun i h h' st k => st.at fun oi e => k it (by simp) oi e
  item := by
    intro X hP hw hK hc i pins s σ H E I hf st hg
    subst hP hw hK
    obtain ⟨hd, hi⟩ := hg
    obtain ⟨f0, f1, f2, f3, f4, f5⟩ := hf it (by simp)
    obtain ⟨hgd, _⟩ := (show ObjOk X.prog X.w H s.heap d (.ext (AtO d o)) from I.hok d _ hd)
    have e0 : i = 0 := by omega
    subst e0
    refine next_key_item st hgd hod rfl (en := ⟨hashB b, .bool b, u⟩) rfl fun h' st' sb => ?_
    have I1 : Inv X pins σ H { s with heap := h' } := I.turned (t' := s.toks) (fun b ob hb e => (sb.2 b hb).trans e) f0 f1 f3 f4 f5
    obtain ⟨oi, e, c, dd⟩ := id st'
    exact ⟨.bool b, rfl, go_of (s := { s with heap := h' }) e c dd (by decide) ⟨.bl b, H, I1, rfl, ⟨rfl, rfl⟩, st', fun b hb => (hf b hb).1⟩⟩
  done := by
    intro X hP hw hK hc i pins s σ H E I hf st hg
    subst hP hw hK
    obtain ⟨hd, hi⟩ := hg
    obtain ⟨f0, f1, f2, f3, f4, f5⟩ := hf it (by simp)
    obtain ⟨hgd, _⟩ := (show ObjOk X.prog X.w H s.heap d (.ext (AtO d o)) from I.hok d _ hd)
    exact next_key_end (I.ok.hd hc) st hgd hod rfl hi fun h' eb => ⟨rfl, I.turned (t' := s.toks) (fun b ob hb e => eb b ob hb e) f0 f1 f3 f4 f5⟩
  self := fun A i s Q E st h => wpAny_pyIter_keyiter st h
def iKeysB (td : TE) : TI := fun σ H R => td σ H fun x H1 => ∃ d o b u, x = .ref d ∧ H1 d = some (.ext (AtO d o)) ∧ BDo b u o ∧ (d == sysModules) = false ∧ R (Itb d o b) H1
theorem pi_keysB {tg e : Expr} {td : TE} (he : PE X e td) : PI X tg e (iKeysB td) := by
  refine ⟨fun pins s σ H R I h => ?_⟩
  refine thn (he.run pins s σ H _ I h) fun u s1 ⟨x, H1, I1, rx, d, o, b, u', ex, hd, bo, hs, q⟩ => ?_
  subst ex
  obtain rfl : u = Value.ref d := rx
  obtain ⟨hgd, _⟩ := (show ObjOk X.prog X.w H1 s1.heap d (.ext (AtO d o)) from I1.hok d _ hd)
  obtain ⟨hx, ep, hdt⟩ := bo
  exact iter_keys hs hgd hx hdt (pi_one (tk := s1.toks) I1 _ (turn_keysB _ hdt) ⟨_, Heap.get?_push_size _ rfl, rfl, rfl⟩ q)
theorem pi_keysMB {tg e : Expr} {td : TE} {apos cpos : Pos} (he : PE X e td) (hbase : attributeBase e "keys" X.env (eval e X.env) = eval e X.env := by rfl) (hline : (apos.endLine == cpos.line) = true := by rfl) : PI X tg (.Call (.Attribute e "keys" apos) [] [] cpos) (iKeysB td) := by
  refine ⟨fun pins s σ H R I h => ?_⟩
  refine wpAny_Call_method (T := "dict") (id := "dict.keys") hbase rfl hline F.plainAttrs_dict F.slot_dict_keys F.type_dict_keys (thn (he.run pins s σ H _ I h) fun u s1 ⟨x, H1, I1, rx, d, o, b, u', ex, hd, bo, hs, q⟩ => ?_)
  subst ex
  obtain rfl : u = Value.ref d := rx
  obtain ⟨hgd, _⟩ := (show ObjOk X.prog X.w H1 s1.heap d (.ext (AtO d o)) from I1.hok d _ hd)
  obtain ⟨hx, ep, hdt⟩ := bo
  have hm : s1.heap.DictAt (boolKind X.prog X.w) d [(b, u')] ep := by
    refine ⟨o, _, hgd, hx, hdt, fun en hen => ?_, ?_, by simp⟩
    · have : en = ⟨hashB b, .bool b, u'⟩ := by simpa using hen
      subst this
      exact ⟨b, decide_eq_true rfl, rfl⟩
    · exact .cons (decide_eq_true rfl) rfl .nil
  refine ⟨⟨o, hgd, hx.1⟩, fun b hb => by cases hb; exact ⟨o, hgd, hx.2.1⟩, ?_⟩
  have I2 : Inv X pins σ H1 { s1 with heap := s1.heap.push { cls := .type "dict_keys", data := .fields #[.ref d] } } := I1.kept (t' := s1.toks) fun b ob q => Heap.get?_push_of_some _ q
  have fin : wpAny (model X.prog X.w) X.A (pyIter (.ref s1.heap.objs.size)) (PIE X pins σ tg R) X.xe { s1 with heap := s1.heap.push { cls := .type "dict_keys", data := .fields #[.ref d] } } := by
    exact PySem.W.kdl_pyIter_keys (d := d) (knd := boolKind X.prog X.w) ⟨_, Heap.get?_push_size _ rfl, rfl, rfl⟩ (hm.push _) (pi_one (tk := s1.toks) I2 _ (turn_keysB _ hdt) ⟨_, Heap.get?_push_size _ rfl, rfl, rfl⟩ q)
  show wpAny _ _ (callWith cpos (.builtin "dict.keys") [.ref d] [] []) _ X.xe s1
  exact method_meetsIn F.slot_dict_keys F.entry_dict_keys rfl (PySem.evalArgs_none ⟨rfl, hm.dictOf.typeIs, F.args_dict_keys_1 _, _, PySem.W.kdl_meets_keys (boolKind X.prog X.w) d hs, ⟨_, hm.dictOf⟩, fin⟩)
end
/-! ### in the evaluator -/
def eDispB (b : Bool) (mv : ME) : ME := fun env h => match mv env (h ++ [.dic []]) with
  | .ok w h' => (match h'[h.length]? with
    | some (.dic []) => .ok (.r h.length) (h'.set h.length (.dcb b w))
    | _ => .no)
  | .ex c h' => .ex c h'
  | .no => .no
section
variable {T : Tb} {G : GA} {CM : FId → List W → M W} {k : Nat} {sc : Sc} {t : Tg} {mt : EnvW → M Bool} {me : ME}
theorem put_dcb {c : Cf} {i : Nat} {a : Addr} {old : AO} {b : Bool} {w : W} {o : Obj} {u : Value} {v : V} (k : c.ok G) (h : c.μ[i]? = some a) (ho : c.ah[i]? = some old) (hd : old ≠ .dead) (hr : ∀ kvs, old ≠ .rod kvs) (hne : (a == sysModules) = false) (bo : BDo b u o) (ru : RelV v u) (r : RW G c v w) : c.ext (c.put i a (.ext (AtO a o)) (.dcb b w)) ∧ (c.put i a (.ext (AtO a o)) (.dcb b w)).ok G := by
  have ex := Cf.put_ext (o := .ext (AtO a o)) (ao := .dcb b w) k h ho hd hr
  exact ⟨ex, Cf.put_ok k h ho hd ⟨o, u, v, upd_same, bo, hne, ru, RW.mono ex r⟩ hr⟩
theorem se_dispB {pos p : Pos} {b : Bool} {j : Nat} {e : Expr} {mv : ME} (hv : SE T G CM k sc e mv) : SE T G CM k sc (.Dict [some (.Constant (.bool b) j p)] [e] pos) (eDispB b mv) := fun X Wx F => by
  refine PE.imp (pe_dispB (se_const X Wx F) (hv X Wx F)) fun σ H Q ⟨c, env, e, ok, re, q⟩ => ?_
  subst e
  intro p hp
  have ex1 := Cf.new_ext (o := .dK []) (ao := .dic []) ok hp
  have ok1 : (c.new p (.dK []) (.dic [])).ok G := Cf.new_ok ok hp ⟨[], upd_same, .nil⟩
  have hp1 : (c.new p (.dK []) (.dic [])).μ[c.ah.length]? = some p := by
    show (c.μ ++ [p])[c.ah.length]? = some p
    rw [← ok.len]; simp
  refine ⟨c.new p (.dK []) (.dic []), env, rfl, ok1, re.mono ex1, ?_⟩
  intro c1 e1 k1 q1 v rv
  rw [rBool rv]
  refine ⟨c1, env, rfl, k1, (re.mono ex1).mono e1, ?_⟩
  unfold eDispB at q
  have q1 : c1.ah = c.ah ++ [.dic []] := q1
  rw [q1]
  cases hr : mv env (c.ah ++ [.dic []]) with
  | no => rw [hr] at q; exact q
  | ex e h' => rw [hr] at q; exact Po.bind.Po.later (ex1.trans e1) q
  | ok w h' =>
    rw [hr] at q
    intro c' ex' ok' e' v2 rv2
    simp only at q
    split at q
    · rename_i hd
      have hm := ex'.pre _ _ (e1.pre _ _ hp1)
      rw [← e'] at hd
      obtain ⟨xs, hx, rx⟩ := ok'.obj _ p _ hm hd
      cases rx
      refine ⟨hx, b, rfl, fun o u ru bo hne => ?_⟩
      obtain ⟨exP, okP⟩ := put_dcb ok' hm hd (by intro e; cases e) (by intro kvs e; cases e) hne bo ru rv2
      have := q _ (((ex1.trans e1).trans ex').trans exP) okP (by show c'.ah.set _ _ = _; rw [e'])
      exact this (.ref p) ⟨p, rfl, hm⟩
    · exact q.elim
/-! ### list comprehensions over a name's dict, that of a truth too -/
def dcbAt (env : EnvW) (i : Nat) (h : AH) : Option (Nat × Bool × W) := match env[i]? with
  | some (some (.r j)) => (match h[j]? with
    | some (.dcb b w) => some (j, b, w)
    | _ => none)
  | _ => none
theorem dcbAt_ok {env : EnvW} {i : Nat} {h : AH} {j : Nat} {b : Bool} {w : W} (q : dcbAt env i h = some (j, b, w)) : env[i]? = some (some (.r j)) ∧ h[j]? = some (.dcb b w) := by
  unfold dcbAt at q
  split at q
  · rename_i j' e
    split at q
    · rename_i e2; cases q; exact ⟨e, e2⟩
    · cases q
  · cases q
def eLCd (kd : DK) (i : Nat) (t : Tg) (mt : EnvW → M Bool) (me : ME) : ME := fun env h => match kd, dcbAt env i h with
  | .key, some (j, b, w) => noExM (kLCw t mt me env [.d (.bool b)] (h.set j .dead)) fun h' => h'.set j (.dcb b w)
  | kd, _ => eLCd0 kd i t mt me env h
theorem iter_dcb {c : Cf} {a : Addr} {o : Obj} {b : Bool} (hs : ∀ c2, c.ext c2 → c2.H a = some (.ext (AtO a o))) : IterOk G (Itb a o b) [.d (.bool b)] c :=
  ⟨fun i c2 hi ex _ => ⟨hs c2 ex, hi⟩, fun c2 ex _ => ⟨hs c2 ex, Nat.le_refl _⟩, fun i c2 x H' hi ex ok2 y => by
    obtain ⟨e1, e2⟩ := y
    subst e1 e2
    have e0 : i = 0 := by simp at hi; omega
    subst e0
    exact ⟨c2, _, Cf.ext.refl c2, ok2, rfl, rfl, rfl, .bl b⟩⟩
theorem lcB_read {kd : DK} {i : Nat} {Wx : WX} {σ : L2.St} {H : Hp} {Q : VK} {K : PySem.W.Frag} (hK : K = G.K) (h : tE G Wx (eLCd kd i t mt me) σ H Q) :
    (tLockE (tLc (iD kd (tVar i)) (gTg K t) (tT G (fun _ _ _ _ => False) mt) (tE G (fun _ _ _ _ => False) me) t.slots) σ H Q ∨ tLc (iD kd (tVar i)) (gTg K t) (tT G (fun _ _ _ _ => False) mt) (tE G (fun _ _ _ _ => False) me) t.slots σ H Q) ∨
    (kd = .key ∧ tLc (iKeysB (tVar i)) (gTg K t) (tT G (fun _ _ _ _ => False) mt) (tE G (fun _ _ _ _ => False) me) t.slots σ H Q) := by
  obtain ⟨c, env, e, ok, re, q⟩ := h
  subst e
  unfold eLCd at q
  split at q
  · rename_i j b w hd
    obtain ⟨hj, ho⟩ := dcbAt_ok hd
    obtain ⟨v, hv, rv⟩ := re.2 i _ hj
    obtain ⟨a, rfl, hm, o, u, v', hx, bo, hne, ru, r⟩ := rRef ok rv ho
    refine .inr ⟨rfl, ?_⟩
    have okd : (c.obj j .dead).ok G := Cf.lock_ok ok
    have re1 : EnvR G (c.obj j .dead) env σ := ⟨re.1, fun i w q => let ⟨v, h1, h2⟩ := re.2 i w q; ⟨v, h1, RW.same (c := c) (c' := c.obj j .dead) rfl rfl h2⟩⟩
    have okk : ∀ {α : Type} {r : R α} {f : AH → AH} {F : α → Cf → Prop} {E : Str → Cf → Prop}, Po G (noExM r f) c F E → ∃ w h', r = .ok w h' ∧ Po G (.ok w (f h')) c F E := fun {α r f F E} h => by
      unfold noExM at h
      split at h
      · exact ⟨_, _, rfl, h⟩
      · exact h.elim
    obtain ⟨w', h', hk, q⟩ := okk q
    rw [tLc_eq]
    refine ⟨.ref a, hv, a, o, b, u, rfl, hx, bo, hne, lc_core (c1 := c.obj j .dead) hK okd re1 (iter_dcb fun c2 ex => (ex.dead j a _ hm (List.getElem?_set_self (List.getElem?_eq_some_iff.mp ho).1) hx).1) (E := fun _ _ => True) ?_⟩
    show Po G (kLCw t mt me env [.d (.bool b)] (c.ah.set j .dead)) (c.obj j .dead) _ _
    rw [hk]
    intro c3 ex3 ok3 e3 v3 rv3
    obtain ⟨u1, u2⟩ := Cf.unlock ok hm ho (by intro e; cases e) (by intro kvs e; cases e) hx (fun c' hc ex' => ⟨o, u, v', hc, bo, hne, ru, RW.mono ex' r⟩) ex3 ok3
    exact q (c3.obj j (.dcb b w)) u1 u2 (by rw [← e3]; rfl) v3 (RW.same (c := c3) (c' := c3.obj j (.dcb b w)) rfl rfl rv3)
  · exact .inl (lcD_read hK ⟨c, env, rfl, ok, re, q⟩)
theorem pi_dicB {X : Cx} {Wx : WX} (F : Fits T G CM k X sc Wx) {tg it : Expr} {i : Nat} (h : dShape T sc tg it = some (.key, i)) : PI X tg it (iKeysB (tVar i)) := by
  have pv : ∀ {x : Str} {p : Pos}, slot sc x = some i → PE X (.Name x p) (tVar i) := fun {x p} h => by
    obtain ⟨h1, h2, h3, h4⟩ := slot_ok h
    exact pe_var (X := X) (i := i) (pos := p) (by rw [F.N]; exact h1) (by rw [F.scope]; exact h2) h3 h4
  unfold dShape at h
  split at h
  · split at h
    · rename_i x p _
      cases hs : slot sc x with
      | none => rw [hs] at h; cases h
      | some i' =>
        rw [hs] at h
        cases h
        exact pi_keysB (pv hs)
    · cases h
  · rename_i x p m apos cpos
    split at h
    · rename_i hl
      split at h
      · rename_i i' hs
        split at h
        · rename_i hm
          cases h
          subst hm
          exact pi_keysMB (pv hs) (okBase_ok rfl _ _) hl
        · split at h
          · cases h
          · split at h
            · cases h
            · cases h
      · cases h
    · cases h
  · cases h
variable {tg it elt : Expr} {ifs : List Expr} {scope : Scope} {kd : DK} {i : Nat} {pos spos py : Pos}
theorem se_lcDB (ht : lcT sc scope tg = some t) (hd : dShape T sc tg it = some (kd, i)) (hn : noSetE it = true) (hif : ST0 T G CM k (blkSc sc scope) ifs mt) (he : SE T G CM k (blkSc sc scope) elt me) : SE T G CM k sc (.ListComp elt [⟨tg, it, ifs, 0⟩] scope pos) (eLCd kd i t mt me) := fun X Wx F => by
  obtain ⟨own, h1, h2, h3⟩ := lcT_ok ht
  have hb : BlkOk X.N X.env.scope scope own := by rw [F.N, F.scope]; exact h1
  have PL : ∀ {wi : TI}, PI X tg it wi → PE X (.ListComp elt [⟨tg, it, ifs, 0⟩] scope pos) (tLc wi (gTg X.K t) (tT G (fun _ _ _ _ => False) mt) (tE G (fun _ _ _ _ => False) me) t.slots) := fun {wi} hw => by
    have P := pe_lc (pos := pos) (g := gTg X.K t) F.calm F.ndN hw hb (fun s H C cl fp => pg_tg (F.blk scope s H C cl fp) h3) (fun s H C cl fp => hif _ _ (F.blk scope s H C cl fp)) (fun s H C cl fp => he _ _ (F.blk scope s H C cl fp)) (noSetE_ok hn _)
    rw [h2] at P
    exact P
  have P := PL (pi_dic F hd)
  refine ⟨fun p s σ H Q I q => ?_⟩
  rcases lcB_read (K := X.K) F.K q with (q | q) | ⟨e, q'⟩
  · exact (pe_lock P).run p s σ H Q I q
  · exact P.run p s σ H Q I q
  · rw [e] at hd
    exact (PL (pi_dicB F hd)).run p s σ H Q I q'
theorem ss_setLcDB {y : Str} {l : Nat} (hy : sc.scope.names.lookup y = some .local) (hi2 : sc.N.idxOf? y = some l) (hk : sc.scope.kind = .function) (hl : (py.line == pos.line) = true) (hany : (scope.names.any fun (n, k) => n == y && (k == .local || k == .cell)) = false)
    (ht : lcT sc scope tg = some t) (hd : dShape T sc tg it = some (kd, i)) (hn : noSetE it = true) (hif : ST0 T G CM k (blkSc sc scope) ifs mt) (he : SE T G CM k (blkSc sc scope) elt me) : SS T G CM k sc (.Assign [.Name y py] (.ListComp elt [⟨tg, it, ifs, 0⟩] scope pos) spos) (sSet l (eLCd kd i t mt me)) := fun X Ex F hp hs hf => by
  obtain ⟨own, h1, h2, h3⟩ := lcT_ok ht
  have hb : BlkOk X.N X.env.scope scope own := by rw [F.N, F.scope]; exact h1
  have hyX : X.env.scope.names.lookup y = some .local := by rw [F.scope]; exact hy
  have PL : ∀ {wi : TI}, PI X tg it wi → PS X (.Assign [.Name y py] (.ListComp elt [⟨tg, it, ifs, 0⟩] scope pos) spos) (fun D σ H => tLc wi (gTg X.K t) (tT G (fun _ _ _ _ => False) mt) (tE G (fun _ _ _ _ => False) me) t.slots σ H fun v H1 => D.nx (σ.set l (some v)) H1) := fun {wi} hw => by
    have P := ps_setLc (spos := spos) (pos := pos) (g := gTg X.K t) (i := l) F.calm F.ndN (by rw [F.N]; exact idx_at hi2) hyX (sw_true (by rw [F.scope]; exact hk) hyX hl hany) hw hb (fun s H C cl fp => pg_tg (F.blk scope s H C cl fp) h3) (fun s H C cl fp => hif _ _ (F.blk scope s H C cl fp)) (fun s H C cl fp => he _ _ (F.blk scope s H C cl fp)) (noSetE_ok hn _)
    rw [h2] at P
    exact P
  have P := PL (pi_dic F hd)
  refine ⟨fun p s σ H D I ⟨c, env, e, ok, re, q⟩ => ?_⟩
  subst e
  have q0 : tE G (fun cls d _ H => Ex cls d H) (eLCd kd i t mt me) σ c.H (fun v H1 => D.nx (σ.set l (some v)) H1) := tE.step ok re q fun w c1 v e1 ok1 re1 rv q1 => Po.here (a := Fl.nx (env.set l (some w))) q1 ok1 _ (re1.set rv)
  rcases lcB_read (K := X.K) F.K q0 with (q | q) | ⟨e, q'⟩
  · exact (ps_lock P).run p s σ c.H D I q
  · exact P.run p s σ c.H D I q
  · rw [e] at hd
    exact (PL (pi_dicB F hd)).run p s σ c.H D I q'
end
end Ev
set_option Elab.async false
set_option linter.all false
set_option maxRecDepth 100000
set_option maxHeartbeats 4000000
/-! E14za: sorted(a list of ints), list(range(n)). -/
namespace Ev
open PySem PySem.Spec PyProof.Rows L2
def fSortL (ws : List W) : M W := fun h => match ws with
  | [w] => (match (listD h w).bind intsD with
    | some ks => if ks.length < 64 then .ok (.r h.length) (h ++ [.lst ((srt leI ks).map fun i => .d (.int i))]) else .no
    | none => .no)
  | _ => .no
def rangeW (n : Nat) : List W := (List.range n).map fun i => W.d (.int ((i : Nat) : Int))
def lstRgM (w : W) : M W := fun h => match w with
  | .d (.int n) => if 0 ≤ n ∧ n ≤ 100000 then .ok (.r h.length) (h ++ [.lst (rangeW n.toNat)]) else .no
  | _ => .no
def eLstRg (a : ME) : ME := fun env => mbind (a env) lstRgM
section
variable {T : Tb} {G : GA} {CM : FId → List W → M W} {k : Nat} {sc : Sc} {c : Cf} {e : Expr} {ma : ME} {p p2 pos pos2 : Pos}
theorem se_sortL {mr : EnvW → M (List W)} (hg : isGlob sc "sorted" = true) (hf : ("sorted" : Str) ∈ T.free) (ha : SA T G CM k sc [e] mr) (hs : noStar e = true) : SE T G CM k sc (.Call (.Name "sorted" p) [e] [] pos) (eFun fSortL mr) := fun X Wx F => by
  refine PE.imp (pe_callB cr_sorted (F.gl hg) (F.top.free _ hf) boot_sorted (ha X Wx F) (glob_ok hg).2.2 (glob_ok hg).2.1 (noStar_each hs _ _)) fun σ H Q ⟨c, env, e, ok, re, q⟩ => ?_
  subst e
  refine tA.step ok re q fun ws c1 vs e1 ok1 re1 rv q1 => ?_
  unfold fSortL at q1
  split at q1
  · rename_i w
    obtain ⟨v, rfl, r1⟩ := rwl1 rv
    split at q1
    · rename_i ks hk
      obtain ⟨ds, e1, e2⟩ := Option.bind_eq_some_iff.mp hk
      obtain ⟨p, ys, rfl, h1, r2⟩ := listD_ok ok1 r1 e1
      have := intsD_ok e2 r2
      subst this
      split at q1
      · rename_i hl
        exact ⟨p, ks, rfl, by rw [F.K]; exact h1, hl, fun ns' p' g1 g2 hp => by
          rw [srtI_is g1 g2]
          exact new_list ok1 (rwl_ints _) hp q1⟩
      · exact q1.elim
    · exact q1.elim
  · exact q1.elim
theorem se_listRg (hg : isGlob sc "list" = true) (hf : ("list" : Str) ∈ T.free) (hg2 : isGlob sc "range" = true) (hf2 : ("range" : Str) ∈ T.free) (ha : SE T G CM k sc e ma) (hs : noStar e = true) : SE T G CM k sc (.Call (.Name "list" p) [.Call (.Name "range" p2) [e] [] pos2] [] pos) (eLstRg ma) := fun X Wx F => by
  refine PE.imp (pe_listRg F.calm (F.gl hg) (F.top.free _ hf) (prg_1 (F.gl hg2) (F.top.free _ hf2) (ha X Wx F) (noStar_each hs _ _)) (by rfl)) fun σ H Q ⟨c, env, e, ok, re, q⟩ => ?_
  subst e
  show tE G Wx ma σ c.H (fun x H1 => ∃ n, x = .int n ∧ RgOk 0 n ∧ ∀ q, H1 q = none → Q (.ref q) (upd H1 q (.lst (rgV 0 n))))
  refine tE.step ok re q fun w c1 v e1 ok1 re1 rv q1 => ?_
  unfold lstRgM at q1
  split at q1
  · rename_i n
    split at q1
    · rename_i hn
      refine ⟨n, rInt rv, RgOk.of_le (by omega) (by omega) (by omega) (by omega), fun p hp => new_list ok1 ?_ hp q1⟩
      unfold rgV rangeW
      rw [show (n - 0).toNat = n.toNat by simp]
      generalize List.range n.toNat = l
      induction l with
      | nil => exact .nil
      | cons a l ih => exact .cons (by show Rp G.K c1 (.int (0 + ((a : Nat) : Int))) (.int ((a : Nat) : Int)); rw [show (0 : Int) + ((a : Nat) : Int) = (a : Int) by omega]; exact .int _) ih
    · exact q1.elim
  · exact q1.elim
end
end Ev
set_option Elab.async false
set_option linter.all false
set_option maxRecDepth 100000
set_option maxHeartbeats 4000000
/-! E15: the evaluator over the syntax, and that it is sound. -/
namespace Ev
open PySem PySem.Spec PyProof.Rows L2

structure Pk where
  e : Sc → Expr → ME
  d : Sc → Expr → ME
  t : Sc → Expr → EnvW → M Bool
  s : Sc → Stmt → MS
def nope : ME := fun _ => mno
structure SPk (T : Tb) (G : GA) (CM : FId → List W → M W) (k : Nat) (P : Pk) : Prop where
  e : ∀ sc e, SE T G CM k sc e (P.e sc e)
  d : ∀ sc e, SE T G CM k sc e (P.d sc e)
  t : ∀ sc e, ST T G CM k sc e (P.t sc e)
  s : ∀ sc st, SS T G CM k sc st (P.s sc st)
section
variable (T : Tb) (CM : FId → List W → M W) (P : Pk) (sc : Sc)
/-- an argument: a new list of a comprehension becomes data -/
def argE (e : Expr) : ME := match e with
  | .ListComp elt gens scope pos => P.d sc (.ListComp elt gens scope pos)
  | e => P.e sc e
def args (es : List Expr) : EnvW → M (List W) := aList (es.map (argE P sc))
/-- a dict of the module -/
def kdOf (b : Expr) : Option (List (Str × PyData)) := match b with
  | .Name x _ => if isGlob sc x then T.kds.lookup x else none
  | _ => none
def cmpE (op : CmpOp) (a b : Expr) : ME := match op, kdOf T sc b with
  | .In, some l => eInK l true (P.e sc a)
  | .NotIn, some l => eInK l false (P.e sc a)
  | op, _ => if noSet b then eCmp op (P.d sc a) (P.d sc b) else nope
def argsD (es : List Expr) : EnvW → M (List W) := aList (es.map (P.d sc))
def boolE (op : BoolOp) : List ME → ME
  | [] => nope
  | [m] => m
  | m :: ms => match op with
    | .And => eAnd m (boolE op ms)
    | .Or => eOr m (boolE op ms)
def boolT (op : BoolOp) : List (EnvW → M Bool) → EnvW → M Bool
  | [] => fun _ => mno
  | [m] => m
  | m :: ms => match op with
    | .And => tAndM m (boolT op ms)
    | .Or => tOrM m (boolT op ms)
def optE : Option Expr → EnvW → M (Option Int)
  | none => pNo
  | some e => pSome (P.e sc e)
def isiE (a b : Expr) : ME := match b with
  | .Name y _ => if isGlob sc y && noStar a then (match tyTest y, T.free.contains y with
      | some t, true => eIsi (P.e sc a) t
      | _, _ => if T.xt.contains y then eIsx T (P.e sc a) y else nope) else nope
  | _ => nope
def callB (x : Str) (es : List Expr) : ME := match es with
  | [] => nope
  | _ => (match bfun x, btyp x, bfun2 x with
    | some f, _, _ => eFun f (argsD P sc es)
    | none, some f, _ => eFun f (argsD P sc es)
    | none, none, some f => eFun f (args P sc es)
    | _, _, _ => nope)
def zipE (es : List Expr) : Option (Expr × Expr) := match es with
  | [.Call (.Name z _) [a, b] [] _] => if (z == ("zip" : Str)) && isGlob sc z && T.free.contains z && noStar a && noStar b then some (a, b) else none
  | _ => none
def itemsE (es : List Expr) : Option Expr := match es with
  | [.Call (.Attribute o z apos) [] [] cpos] => if (z == ("items" : Str)) && okBase o && (apos.endLine == cpos.line) then some o else none
  | _ => none
def keysE (es : List Expr) : Option Expr := match es with
  | [.Call (.Attribute o z apos) [] [] cpos] => if (z == ("keys" : Str)) && okBase o && (apos.endLine == cpos.line) then some o else none
  | _ => none
def rangeE (es : List Expr) : Option Expr := match es with
  | [.Call (.Name z _) [a] [] _] => if (z == ("range" : Str)) && isGlob sc z && T.free.contains z && noStar a then some a else none
  | _ => none
def setE (e : Expr) : Option Expr := match e with
  | .Call (.Name z _) [a] [] _ => if (z == ("set" : Str)) && isGlob sc z && T.free.contains z && noStar a then some a else none
  | _ => none
def callF (x : Str) (es : List Expr) : ME := if x == ("isinstance" : Str) then (match es with
        | [a, b] => isiE T P sc a b
        | _ => nope)
      else if x == ("len" : Str) then (match es with
        | [a] => (match setE T sc a with
          | some b => eLenSet (P.d sc b)
          | none => eLen T CM (P.d sc a))
        | _ => nope)
      else if x == ("list" : Str) then (match zipE T sc es with
        | some (a, b) => eFun zipL (args P sc [a, b])
        | none => (match itemsE es with
          | some o => eItems (P.e sc o)
          | none => (match rangeE T sc es with
            | some a => eLstRg (P.e sc a)
            | none => callB P sc x es)))
      else if x == ("dict" : Str) then (match es with
        | [a] => eFun fDict (argsD P sc [a])
        | _ => nope)
      else if x == ("sorted" : Str) then (match keysE es with
        | some o => eSortK (P.e sc o)
        | none => (match es with
          | [a] => eFun fSortL (argsD P sc [a])
          | _ => nope))
      else callB P sc x es
def callName (x : Str) (es : List Expr) : ME := if !es.all noStar then nope else match slot sc x with
  | some i => (match es with
    | [] => nope
    | _ => eCallV T CM i (args P sc es))
  | none => if !isGlob sc x then nope
    else if T.defs.contains x then (if T.nopos.contains (pl x) then nope else match es with
      | [] => nope
      | _ => eCall CM (pl x) (args P sc es))
    else if T.clss.contains x then (if dflOk T (x, "__init__") (es.length + 1) then eNew CM x (dflOf T (x, "__init__") (es.length + 1)) (args P sc es) else nope)
    else if T.free.contains x then callF T CM P sc x es
    else nope
def callMeth (o : Expr) (m : Str) (apos pos : Pos) (es : List Expr) : ME := if es.all noStar && decide (es.length < 30) && okBase o && (apos.endLine == pos.line) then (if m == ("get" : Str) then (match es with
    | [e, f] => eGet (P.e sc o) (P.e sc e) (P.e sc f)
    | _ => nope) else match bmeth m es.length with
    | some (t, f) => if (m == ("append" : Str)) then eBM t f (P.e sc o) (args P sc es) else eBM t f (P.e sc o) (argsD P sc es)
    | none => eMeth T CM m (P.e sc o) (args P sc es)) else nope
def iterE (tg it : Expr) : EnvW → M Src := match it with
  | .Call (.Name x _) es [] _ => if (slot sc x).isNone && isGlob sc x && T.free.contains x then
      (if x == ("range" : Str) then (match es with
        | [a] => if noStar a then iFun rng1 (args P sc es) else fun _ => mno
        | [a, b] => if noStar a && noStar b then iFun rng2 (args P sc es) else fun _ => mno
        | _ => fun _ => mno)
      else if x == ("zip" : Str) then (match tg, es with
        | .Tuple _ _ _, [a, b] => if noStar a && noStar b then iFun zipM (args P sc es) else fun _ => mno
        | _, _ => fun _ => mno)
      else iVal (P.d sc it)) else iVal (P.d sc it)
  | _ => iVal (P.d sc it)
def lcE (elt : Expr) (gens : List Comprehension) (scope : Scope) : ME := match gens with
  | [⟨tg, it, ifs, asy⟩] => if asy = 0 ∧ noSetE it = true then (match dShape T sc tg it with
    | some (kd, i) => (match lcT sc scope tg, ifs with
      | some t, [] => eLCd kd i t tTrue (P.e (blkSc sc scope) elt)
      | some t, [c] => eLCd kd i t (P.t (blkSc sc scope) c) (P.e (blkSc sc scope) elt)
      | _, _ => nope)
    | none => (match lcT sc scope tg, ifs with
      | some t, [] => eLC t (iterE T P sc tg it) tTrue (P.e (blkSc sc scope) elt)
      | some t, [c] => eLC t (iterE T P sc tg it) (P.t (blkSc sc scope) c) (P.e (blkSc sc scope) elt)
      | _, _ => nope)) else nope
  | _ => nope
def pairE : List (Option Expr) → List Expr → List (ME × ME)
  | some a :: ks, b :: vs => (P.e sc a, P.e sc b) :: pairE ks vs
  | _, _ => []
def dispE (ks : List (Option Expr)) (vs : List Expr) : ME := if (ks.all fun x => x.isSome) = true ∧ ks.length = vs.length ∧ ks ≠ [] ∧ ks.length ≤ 15 then eDisp (pairE P sc ks vs) else nope
def dcE (kx vx : Expr) (gens : List Comprehension) (scope : Scope) : ME := match gens with
  | [⟨tg, it, ifs, asy⟩] => if asy = 0 ∧ noSetE it = true then (match dShape T sc tg it with
    | some (kd, i) => (match lcT sc scope tg, ifs with
      | some t, [] => eDCd kd i t tTrue (P.e (blkSc sc scope) kx) (P.e (blkSc sc scope) vx)
      | some t, [c] => eDCd kd i t (P.t (blkSc sc scope) c) (P.e (blkSc sc scope) kx) (P.e (blkSc sc scope) vx)
      | _, _ => nope)
    | none => (match lcT sc scope tg, ifs with
      | some t, [] => eDC t (iterE T P sc tg it) tTrue (P.e (blkSc sc scope) kx) (P.e (blkSc sc scope) vx)
      | some t, [c] => eDC t (iterE T P sc tg it) (P.t (blkSc sc scope) c) (P.e (blkSc sc scope) kx) (P.e (blkSc sc scope) vx)
      | _, _ => nope)) else nope
  | _ => nope
def stepE (ex : Expr) : ME := match ex with
  | .Name x _ => evName T sc x
  | .Constant c _ _ => evConst c
  | .BinOp a op b _ => eBin op (P.e sc a) (P.e sc b)
  | .UnaryOp op a _ => (match op with
    | .Not => eNot (P.e sc a)
    | .USub => eNeg (P.e sc a)
    | _ => nope)
  | .BoolOp op es _ => boolE op (es.map (P.e sc))
  | .Compare a ops cs _ => (match ops, cs with
    | [op], [b] => cmpE T P sc op a b
    | [op, op'], [b, c] => if noSet c then eCmp2 op op' (P.d sc a) (P.d sc b) (P.d sc c) else nope
    | _, _ => nope)
  | .IfExp c a b _ => eIf (P.t sc c) (P.e sc a) (P.e sc b)
  | .Tuple es _ _ => if es.all noStar then eTup (aList (es.map (P.d sc))) else nope
  | .List es _ => if es.all noStar then eLst (aList (es.map (P.d sc))) else nope
  | .Subscript a b _ => (match b with
    | .Slice lo hi st _ => (match st with
      | none => eSl (P.e sc a) (optE P sc lo) (optE P sc hi)
      | some i => (match lo, hi with
        | none, none => eStep (P.e sc a) (P.e sc i)
        | _, _ => nope))
    | b => (match kdOf T sc a with
      | some l => eSubK l (P.e sc b)
      | none => eIx (P.e sc a) (P.e sc b)))
  | .JoinedStr es _ => (match es with
    | v1 :: v2 :: r => joinM ((v1 :: v2 :: r).map (P.e sc)) Str.empty
    | [v] => P.e sc v
    | _ => nope)
  | .FormattedValue a cv fs _ => (match fs with
    | none => if cv = -1 then eFmtN (P.e sc a) else nope
    | _ => nope)
  | .Attribute o f _ => if okBase o && T.flds.contains f then eFld (P.e sc o) f else nope
  | .Call f es kws pos => (match f, kws with
    | .Name x _, [] => callName T CM P sc x es
    | .Attribute o m apos, [] => callMeth T CM P sc o m apos pos es
    | _, _ => nope)
  | .ListComp elt gens scope _ => lcE T P sc elt gens scope
  | .Dict ks vs _ => (match ks, vs with
    | [], [] => eDict0
    | [some (.Constant (.bool b) _ _)], [e] => eDispB b (P.e sc e)
    | ks, vs => dispE P sc ks vs)
  | .DictComp kx vx gens scope _ => eOut (dcE T P sc kx vx gens scope)
  | _ => nope
def stepD (ex : Expr) : ME := match ex with
  | .List es _ => if es.all noStar then eLstD (aList (es.map (P.d sc))) else nope
  | .ListComp elt gens scope _ => eOut (lcE T P sc elt gens scope)
  | ex => stepE T CM P sc ex
def stepT (ex : Expr) : EnvW → M Bool := match ex with
  | .UnaryOp op a _ => (match op with
    | .Not => tNotM (P.t sc a)
    | _ => fun _ => mno)
  | .BoolOp op es _ => boolT op (es.map (P.t sc))
  | .IfExp _ _ _ _ => fun _ => mno
  | ex => tst (stepE T CM P sc ex)
def swapOk (a b : Expr) (px py : Pos) (x y : Str) : Bool := (py.line == px.line) && !(x == y) && !(foldedForSure 8 a && foldedForSure 8 b) && !(constantsAlone 8 a && constantsAlone 8 b) && noStar a && noStar b
def blk (sts : List Stmt) : MS := sBlock (sts.map (P.s sc))
def assignE (tg e : Expr) : MS := match tg with
  | .Name x px => if sc.scope.names.lookup x == some .cell then (match slotS sc x with
    | some i => sSet i (P.e sc e)
    | none => fun _ => mno) else (match e with
    | .DictComp kx vx gens scope lpos => (match sc.scope.names.lookup x, sc.N.idxOf? x, sc.scope.kind with
      | some .local, some i, .function => if (px.line == lpos.line) && !(scope.names.any fun (n, k) => n == x && (k == .local || k == .cell)) then sSet i (dcE T P sc kx vx gens scope) else fun _ => mno
      | _, _, _ => fun _ => mno)
    | .ListComp elt gens scope lpos => (match sc.scope.names.lookup x, sc.N.idxOf? x, sc.scope.kind with
      | some .local, some i, .function => if (px.line == lpos.line) && !(scope.names.any fun (n, k) => n == x && (k == .local || k == .cell)) then sSet i (lcE T P sc elt gens scope) else fun _ => mno
      | _, _, _ => fun _ => mno)
    | e => if noComp e then (match slotS sc x with
      | some i => if T.dlst.contains x then sSet i (P.d sc e) else sSet i (P.e sc e)
      | none => fun _ => mno) else fun _ => mno)
  | .Attribute o f _ => if T.flds.contains f then sFldW f (P.e sc o) (P.e sc e) else fun _ => mno
  | .Subscript o i _ => if plainIx i then sIxW (P.e sc o) (P.e sc i) (P.e sc e) else fun _ => mno
  | .Tuple tes kk p => if noTup e then (match tgOf sc (.Tuple tes kk p) with
      | some t => sTgW t (P.e sc e)
      | none => (match starTgs sc tes, tes.findIdx? isStar with
        | some ts, some i => sStar i ts (P.e sc e)
        | _, _ => fun _ => mno))
    else if tes.any (cellN sc) then (match tgOf sc (.Tuple tes kk p) with
      | some t => sTgW t (P.e sc e)
      | none => fun _ => mno)
    else (match tes, e with
      | [.Name x px, .Name y py], .Tuple [a, b] _ _ => (match sc.scope.kind, sc.scope.names.lookup x, sc.scope.names.lookup y, sc.N.idxOf? x, sc.N.idxOf? y with
        | .function, some .local, some .local, some i, some j => if decide (i ≠ j) && swapOk a b px py x y then sPar i j (P.e sc a) (P.e sc b) else fun _ => mno
        | _, _, _, _, _ => fun _ => mno)
      | [.Name x px, .Name y py, .Name z pz], .Tuple [a, b, c] _ _ => (match sc.scope.kind, sc.scope.names.lookup x, sc.scope.names.lookup y, sc.scope.names.lookup z, sc.N.idxOf? x, sc.N.idxOf? y, sc.N.idxOf? z with
        | .function, some .local, some .local, some .local, some i, some j, some l => if decide (i ≠ j ∧ i ≠ l ∧ j ≠ l) && ([a, b, c].all noStar && swapOk3 a b c px py pz x y z) then sPar3 i j l (args P sc [a, b, c]) else fun _ => mno
        | _, _, _, _, _, _, _ => fun _ => mno)
      | _, _ => fun _ => mno)
  | _ => fun _ => mno
def tryE (body : List Stmt) (hs : List ExceptHandler) : MS := match body, hs with
  | [.Assign [.Name f _] e _], [.ExceptHandler (some (.Name x _)) (some n) [.Assign [.Name g _] (.Name n' _) _] _] =>
    (match slotS sc f, slotS sc g, sc.scope.names.lookup n, sc.N.idxOf? n with
      | some i, some j, some .local, some m => if n = n' ∧ (n == ("__debug__" : Str)) = false ∧ (n == ("__classdict__" : Str)) = false ∧ isGlob sc x = true ∧ T.excs.contains x = true ∧ noComp e = true ∧ m ≠ j then sTry (fun c => T.catches c x) i j m (P.e sc e) else fun _ => mno
      | _, _, _, _ => fun _ => mno)
  | [.Expr e _], [.ExceptHandler (some (.Name x _)) none [.Assign [.Name g _] (.Constant (.int v) _ _) _] _] =>
    (match slotS sc g with
      | some j => if isGlob sc x = true ∧ T.excs.contains x = true ∧ noComp e = true then sTryE (fun c => T.catches c x) j v (P.e sc e) else fun _ => mno
      | _ => fun _ => mno)
  | body, [.ExceptHandler (some (.Name x _)) none [.Assign [.Name g _] (.Constant (.int v) _ _) _] _] =>
    (match slotS sc g with
      | some j => if isGlob sc x = true ∧ T.excs.contains x = true then sTryS (fun c => T.catches c x) j v (blk P sc body) else fun _ => mno
      | _ => fun _ => mno)
  | _, _ => fun _ => mno
def raiseE (e : Expr) : MS := match e with
  | .Call (.Name x _) [.Constant (.str _) _ _] [] _ => if isGlob sc x && T.excs.contains x then sRaise x else fun _ => mno
  | _ => fun _ => mno
noncomputable def stepS (st : Stmt) : MS := match st with
  | .Expr e _ => if noComp e then sExpr (P.e sc e) else fun _ => mno
  | .Return v _ => (match v with
    | some e => sRet (P.e sc e)
    | none => sRetN)
  | .Pass _ => sNil
  | .Break _ => sBreak
  | .Continue _ => sCont
  | .If c a b _ => sIf (P.t sc c) (blk P sc a) (blk P sc b)
  | .While c b o _ => (match o with
    | [] => sWhile (P.t sc c) (blk P sc b)
    | _ => fun _ => mno)
  | .For tg it b o _ => (match o, tgOf sc tg with
    | [], some t => if noSetE it then (match dShape T sc tg it with
      | some (kd, i) => sForD kd i t (blk P sc b)
      | none => sFor t (iterE T P sc tg it) (blk P sc b)) else fun _ => mno
    | _, _ => fun _ => mno)
  | .Assign tgs e _ => (match tgs with
    | [tg] => assignE T P sc tg e
    | _ => fun _ => mno)
  | .AugAssign tg op e _ => (match tg, op with
    | .Name x _, .Add => (match slotS sc x with
      | some i => sAug i (P.e sc e)
      | none => fun _ => mno)
    | .Attribute o f _, .Add => if T.flds.contains f then sFldAugW f (P.e sc o) (P.e sc e) else fun _ => mno
    | _, _ => fun _ => mno)
  | .Raise e c _ => (match e, c with
    | some e, none => raiseE T sc e
    | _, _ => fun _ => mno)
  | .Try b hs o f _ => (match o, f with
    | [], [] => tryE T P sc b hs
    | _, _ => fun _ => mno)
  | _ => fun _ => mno
end
noncomputable def step (T : Tb) (CM : FId → List W → M W) (P : Pk) : Pk := ⟨stepE T CM P, stepD T CM P, stepT T CM P, stepS T P⟩
noncomputable def ev (T : Tb) (CM : FId → List W → M W) : Nat → Pk
  | 0 => ⟨fun _ _ => nope, fun _ _ => nope, fun _ _ _ => mno, fun _ _ _ => mno⟩
  | n + 1 => step T CM (ev T CM n)

/-! ### sound -/
section
variable {T : Tb} {G : GA} {CM : FId → List W → M W} {k : Nat} {P : Pk} (S : SPk T G CM k P)
theorem nope_ok {sc : Sc} {e : Expr} : SE T G CM k sc e nope := se_no
theorem argE_ok {sc : Sc} (S : SPk T G CM k P) (e : Expr) : SE T G CM k sc e (argE P sc e) := by
  unfold argE
  split
  · exact S.d sc _
  · exact S.e sc _
theorem sa_args {sc : Sc} (S : SPk T G CM k P) {es : List Expr} (h : es.all noStar = true) : SA T G CM k sc es (args P sc es) := sa_list (fun e => argE_ok S e) h
theorem kdOf_ok {sc : Sc} {b : Expr} {l : List (Str × PyData)} (h : kdOf T sc b = some l) : ∃ x p, b = .Name x p ∧ isGlob sc x = true ∧ T.kds.lookup x = some l := by
  unfold kdOf at h
  split at h
  · split at h
    · rename_i hg; exact ⟨_, _, rfl, hg, h⟩
    · cases h
  · cases h
theorem cmpE_ok {sc : Sc} {pos : Pos} (S : SPk T G CM k P) (op : CmpOp) (a b : Expr) : SE T G CM k sc (.Compare a [op] [b] pos) (cmpE T P sc op a b) := by
  unfold cmpE
  split
  · rename_i l h
    obtain ⟨x, p, rfl, h1, h2⟩ := kdOf_ok h
    exact se_inK h1 h2 (S.e sc a)
  · rename_i l h
    obtain ⟨x, p, rfl, h1, h2⟩ := kdOf_ok h
    exact se_notInK h1 h2 (S.e sc a)
  · split
    · rename_i hn; exact se_cmp (S.d sc _) (S.d sc _) hn
    · exact nope_ok
theorem sa_argsD {sc : Sc} (S : SPk T G CM k P) {es : List Expr} (h : es.all noStar = true) : SA T G CM k sc es (argsD P sc es) := sa_list (fun e => S.d sc e) h
theorem boolE_ok {sc : Sc} {op : BoolOp} {pos : Pos} (S : SPk T G CM k P) : ∀ es : List Expr, SE T G CM k sc (.BoolOp op es pos) (boolE op (es.map (P.e sc)))
  | [] => nope_ok
  | [a] => se_one (S.e sc a)
  | a :: b :: r => by
    cases op with
    | And => exact se_and (S.e sc a) (boolE_ok S (b :: r))
    | Or => exact se_or (S.e sc a) (boolE_ok S (b :: r))
theorem boolT_ok {sc : Sc} {pos : Pos} (S : SPk T G CM k P) {op : BoolOp} : ∀ es : List Expr, SW T G CM k sc (.BoolOp op es pos) (boolT op (es.map (P.t sc)))
  | [] => fun X Wx F => ⟨fun wh p s σ H Q I ⟨c, env, _, _, _, h⟩ => h.elim⟩
  | [a] => by
    cases op with
    | And => exact sw_and1 (S.t sc a)
    | Or => exact sw_or1 (S.t sc a)
  | a :: b :: r => by
    cases op with
    | And => exact sw_and (S.t sc a) (boolT_ok S (b :: r))
    | Or => exact sw_or (S.t sc a) (boolT_ok S (b :: r))
theorem optE_ok {sc : Sc} (S : SPk T G CM k P) (o : Option Expr) : SO T G CM k sc o (optE P sc o) := by
  cases o with
  | none => exact so_none
  | some e => exact so_some (S.e sc e)
theorem isiE_ok {sc : Sc} {p pos : Pos} (S : SPk T G CM k P) (hg : isGlob sc "isinstance" = true) (hf : ("isinstance" : Str) ∈ T.free) (a b : Expr) : SE T G CM k sc (.Call (.Name "isinstance" p) [a, b] [] pos) (isiE T P sc a b) := by
  unfold isiE
  split
  · rename_i y p2
    split
    · rename_i hc
      obtain ⟨h1, h2⟩ := Bool.and_eq_true_iff.mp hc
      split
      · rename_i t e1 e2
        exact se_isi hg hf h1 (by simpa using e2) e1 (S.e sc a) h2
      · split
        · rename_i hx
          exact se_isx hg hf h1 (by simpa using hx) (S.e sc a) h2
        · exact nope_ok
    · exact nope_ok
  · exact nope_ok
theorem callB_ok {sc : Sc} {p pos : Pos} (S : SPk T G CM k P) {x : Str} {es : List Expr} (hs : es.all noStar = true) (hg : isGlob sc x = true) (hf : x ∈ T.free) : SE T G CM k sc (.Call (.Name x p) es [] pos) (callB P sc x es) := by
  cases es with
  | nil => exact nope_ok
  | cons e es =>
    show SE T G CM k sc _ (match bfun x, btyp x, bfun2 x with
      | some f, _, _ => eFun f (argsD P sc (e :: es))
      | none, some f, _ => eFun f (argsD P sc (e :: es))
      | none, none, some f => eFun f (args P sc (e :: es))
      | _, _, _ => nope)
    split
    · rename_i f _ _ hb
      exact se_bfun hg hf hb (sa_argsD S hs) hs
    · rename_i f _ hb1 hb
      exact se_btyp hg hf hb (sa_argsD S hs) hs
    · rename_i f hb1 hb2 hb
      exact se_bfun2 hg hf hb (sa_args S hs) hs
    · exact nope_ok
theorem callF_ok {sc : Sc} {p pos : Pos} (S : SPk T G CM k P) {x : Str} {es : List Expr} (hs : es.all noStar = true) (hg : isGlob sc x = true) (hf : x ∈ T.free) : SE T G CM k sc (.Call (.Name x p) es [] pos) (callF T CM P sc x es) := by
  unfold callF
  split
  · rename_i hx
    have hx : x = "isinstance" := eq_of_beq hx
    subst hx
    split
    · exact isiE_ok S hg hf _ _
    · exact nope_ok
  · split
    · rename_i hx
      have hx : x = "len" := eq_of_beq hx
      subst hx
      split
      · split
        · rename_i b hz
          unfold setE at hz
          split at hz
          · split at hz
            · rename_i hc
              simp only [Bool.and_eq_true, beq_iff_eq, List.contains_iff_mem] at hc
              obtain ⟨⟨⟨rfl, hg2⟩, hf2⟩, hs2⟩ := hc
              cases hz
              exact se_lenSet hg hf hg2 hf2 (S.d sc _) hs2
            · cases hz
          · cases hz
        · exact se_len hg hf (S.d sc _) (by simpa using hs)
      · exact nope_ok
    · split
      · rename_i hx
        have hx : x = "list" := eq_of_beq hx
        subst hx
        split
        · rename_i a b hz
          unfold zipE at hz
          split at hz
          · split at hz
            · rename_i hc
              cases hz
              simp only [Bool.and_eq_true] at hc
              obtain ⟨⟨⟨⟨c1, c2⟩, c3⟩, c4⟩, c5⟩ := hc
              have c1 := eq_of_beq c1
              subst c1
              exact se_zipL hg hf c2 (by simpa using c3) (sa_args S (by simp [c4, c5])) c4 c5
            · cases hz
          · cases hz
        · split
          · rename_i o hz
            unfold itemsE at hz
            split at hz
            · split at hz
              · rename_i hc
                cases hz
                simp only [Bool.and_eq_true] at hc
                obtain ⟨⟨c1, c2⟩, c3⟩ := hc
                have c1 := eq_of_beq c1
                subst c1
                exact se_items hg hf c2 c3 (S.e sc _)
              · cases hz
            · cases hz
          · split
            · rename_i o hz
              unfold rangeE at hz
              split at hz
              · split at hz
                · rename_i hc
                  cases hz
                  simp only [Bool.and_eq_true] at hc
                  obtain ⟨⟨⟨c1, c2⟩, c3⟩, c4⟩ := hc
                  have c1 := eq_of_beq c1
                  subst c1
                  exact se_listRg hg hf c2 (by simpa using c3) (S.e sc _) c4
                · cases hz
              · cases hz
            · exact callB_ok S hs hg hf
      · split
        · rename_i hx
          have hx : x = "dict" := eq_of_beq hx
          subst hx
          split
          · exact se_dict hg hf (sa_argsD S hs) hs
          · exact nope_ok
        · split
          · rename_i hx
            have hx : x = "sorted" := eq_of_beq hx
            subst hx
            split
            · rename_i o hz
              unfold keysE at hz
              split at hz
              · split at hz
                · rename_i hc
                  cases hz
                  simp only [Bool.and_eq_true] at hc
                  obtain ⟨⟨c1, c2⟩, c3⟩ := hc
                  have c1 := eq_of_beq c1
                  subst c1
                  exact se_sortK hg hf c2 c3 (S.e sc _)
                · cases hz
              · cases hz
            · split
              · exact se_sortL hg hf (sa_argsD S hs) (by simpa using hs)
              · exact nope_ok
          · exact callB_ok S hs hg hf
theorem callName_ok {sc : Sc} {p pos : Pos} (S : SPk T G CM k P) (x : Str) (es : List Expr) : SE T G CM k sc (.Call (.Name x p) es [] pos) (callName T CM P sc x es) := by
  unfold callName
  split
  · exact nope_ok
  · rename_i hs
    have hs : es.all noStar = true := by simpa using hs
    split
    · rename_i i hi
      cases es with
      | nil => exact nope_ok
      | cons e es => exact se_callV hi (sa_args S hs) hs
    · split
      · exact nope_ok
      · rename_i hg
        have hg : isGlob sc x = true := by simpa using hg
        split
        · rename_i hd
          split
          · exact nope_ok
          · rename_i hnp
            cases es with
            | nil => exact nope_ok
            | cons e es => exact se_call hg (by simpa using hd) (by simpa using hnp) (sa_args S hs) hs
        · split
          · rename_i hc
            split
            · rename_i hdf
              cases es with
              | nil => exact se_new0 hdf hg (by simpa using hc)
              | cons e es => exact se_new hdf hg (by simpa using hc) (sa_args S hs) hs
            · exact nope_ok
          · split
            · rename_i hf
              exact callF_ok S hs hg (by simpa using hf)
            · exact nope_ok
theorem callMeth_ok {sc : Sc} {apos pos : Pos} (S : SPk T G CM k P) (o : Expr) (m : Str) (es : List Expr) : SE T G CM k sc (.Call (.Attribute o m apos) es [] pos) (callMeth T CM P sc o m apos pos es) := by
  unfold callMeth
  split
  · rename_i hc
    simp only [Bool.and_eq_true, decide_eq_true_eq] at hc
    obtain ⟨⟨⟨hs, hl⟩, hb⟩, hline⟩ := hc
    split
    · rename_i hg
      have hg : m = "get" := eq_of_beq hg
      subst hg
      split
      · rename_i e f
        have h2 : noStar e = true ∧ noStar f = true := by simpa using hs
        exact se_get hb hline (S.e sc o) (S.e sc e) (S.e sc f) h2.1 h2.2
      · exact nope_ok
    split
    · rename_i t f hm
      split
      · cases es with
        | nil => exact se_bm0 hm hb hline (S.e sc o)
        | cons e es => exact se_bm hm hb hline (S.e sc o) (sa_args S hs) hs hl
      · cases es with
        | nil => exact se_bm0 hm hb hline (S.e sc o)
        | cons e es => exact se_bm hm hb hline (S.e sc o) (sa_argsD S hs) hs hl
    · cases es with
      | nil => exact se_meth0 hb hline (S.e sc o)
      | cons e es => exact se_meth hb hline (S.e sc o) (sa_args S hs) hs hl
  · exact nope_ok
theorem si_no {sc : Sc} {tg it : Expr} : SI T G CM k sc tg it (fun _ => mno) := fun X Wx F => ⟨fun p s σ H R I ⟨c, env, _, _, _, h⟩ => h.elim⟩
theorem iterE_ok {sc : Sc} (S : SPk T G CM k P) (tg it : Expr) : SI T G CM k sc tg it (iterE T P sc tg it) := by
  unfold iterE
  split
  · rename_i x p es pos
    split
    · rename_i hc
      simp only [Bool.and_eq_true] at hc
      obtain ⟨⟨_, hg⟩, hf⟩ := hc
      have hf : x ∈ T.free := by simpa using hf
      split
      · rename_i hx
        have hx : x = "range" := eq_of_beq hx
        subst hx
        split
        · rename_i a
          split
          · rename_i hs
            exact si_range1 hg hf (sa_args S (by simp [hs])) hs
          · exact si_no
        · rename_i a b
          split
          · rename_i hs
            obtain ⟨h1, h2⟩ := Bool.and_eq_true_iff.mp hs
            exact si_range2 hg hf (sa_args S (by simp [h1, h2])) h1 h2
          · exact si_no
        · exact si_no
      · split
        · rename_i hx
          have hx : x = "zip" := eq_of_beq hx
          subst hx
          split
          · rename_i a b
            split
            · rename_i hs
              obtain ⟨h1, h2⟩ := Bool.and_eq_true_iff.mp hs
              exact si_zip hg hf (sa_args S (by simp [h1, h2])) h1 h2
            · exact si_no
          · exact si_no
        · exact si_val (S.d sc _)
    · exact si_val (S.d sc _)
  · exact si_val (S.d sc _)
theorem lcE_ok {sc : Sc} {pos : Pos} (S : SPk T G CM k P) (elt : Expr) (gens : List Comprehension) (scope : Scope) : SE T G CM k sc (.ListComp elt gens scope pos) (lcE T P sc elt gens scope) := by
  unfold lcE
  split
  · rename_i tg it ifs asy
    split
    · rename_i hc
      obtain ⟨rfl, hn⟩ := hc
      split
      · rename_i kd i hd
        split
        · rename_i t ht
          exact se_lcDB ht hd hn st0_nil (S.e _ elt)
        · rename_i t c ht
          exact se_lcDB ht hd hn (st0_one (S.t _ c)) (S.e _ elt)
        · exact nope_ok
      split
      · rename_i t ht
        exact se_lc ht (iterE_ok S tg it) hn st0_nil (S.e _ elt)
      · rename_i t c ht
        exact se_lc ht (iterE_ok S tg it) hn (st0_one (S.t _ c)) (S.e _ elt)
      · exact nope_ok
    · exact nope_ok
  · exact nope_ok
theorem pairE_ok {sc : Sc} {pos : Pos} (S : SPk T G CM k P) : ∀ (ks : List (Option Expr)) (vs : List Expr), (ks.all fun x => x.isSome) = true → ks.length = vs.length → SPs T G CM k sc pos ks vs (pairE P sc ks vs)
  | [], [], _, _ => sps_nil
  | some a :: ks, b :: vs, h1, h2 => sps_cons (S.e sc a) (S.e sc b) (pairE_ok S ks vs (by simpa using h1) (by simpa using h2))
  | none :: ks, _, h1, _ => by simp at h1
  | _ :: _, [], _, h2 => by simp at h2
  | [], _ :: _, _, h2 => by simp at h2
theorem dispE_ok {sc : Sc} {pos : Pos} (S : SPk T G CM k P) (ks : List (Option Expr)) (vs : List Expr) : SE T G CM k sc (.Dict ks vs pos) (dispE P sc ks vs) := by
  unfold dispE
  split
  · rename_i h
    exact se_disp (pairE_ok S ks vs h.1 h.2.1) h.1 h.2.1 h.2.2.1 h.2.2.2
  · exact nope_ok
theorem dcE_ok {sc : Sc} {pos : Pos} (S : SPk T G CM k P) (kx vx : Expr) (gens : List Comprehension) (scope : Scope) : SE T G CM k sc (.DictComp kx vx gens scope pos) (dcE T P sc kx vx gens scope) := by
  unfold dcE
  split
  · rename_i tg it ifs asy
    split
    · rename_i hc
      obtain ⟨rfl, hn⟩ := hc
      split
      · rename_i kd i hd
        split
        · rename_i t ht
          exact se_dcD ht hd hn st0_nil (S.e _ kx) (S.e _ vx)
        · rename_i t c ht
          exact se_dcD ht hd hn (st0_one (S.t _ c)) (S.e _ kx) (S.e _ vx)
        · exact nope_ok
      split
      · rename_i t ht
        exact se_dc ht (iterE_ok S tg it) hn st0_nil (S.e _ kx) (S.e _ vx)
      · rename_i t c ht
        exact se_dc ht (iterE_ok S tg it) hn (st0_one (S.t _ c)) (S.e _ kx) (S.e _ vx)
      · exact nope_ok
    · exact nope_ok
  · exact nope_ok
theorem subE_ok {sc : Sc} {b : Expr} {pos : Pos} (S : SPk T G CM k P) (hp : plainIx b = true) (a : Expr) : SE T G CM k sc (.Subscript a b pos) (match kdOf T sc a with
      | some l => eSubK l (P.e sc b)
      | none => eIx (P.e sc a) (P.e sc b)) := by
  split
  · rename_i l h
    obtain ⟨x, p, rfl, h1, h2⟩ := kdOf_ok h
    exact se_subK h1 h2 (S.e sc b) (plainIx_ok hp)
  · exact se_ix (S.e sc a) (S.e sc b) hp
theorem stepE_ok {sc : Sc} (S : SPk T G CM k P) (e : Expr) : SE T G CM k sc e (stepE T CM P sc e) := by
  cases e with
  | Name x p => exact se_name
  | Constant c j p => exact se_const
  | BinOp a op b p => exact se_bin (S.e sc a) (S.e sc b)
  | UnaryOp op a p =>
    cases op with
    | Not => exact se_not (S.e sc a)
    | USub => exact se_neg (S.e sc a)
    | _ => exact nope_ok
  | BoolOp op es p => exact boolE_ok S es
  | Compare a ops cs p =>
    show SE T G CM k sc _ (match ops, cs with
      | [op], [b] => cmpE T P sc op a b
      | [op, op'], [b, c] => if noSet c then eCmp2 op op' (P.d sc a) (P.d sc b) (P.d sc c) else nope
      | _, _ => nope)
    split
    · exact cmpE_ok S _ _ _
    · split
      · rename_i hn; exact se_cmp2 (S.d sc _) (S.d sc _) (S.d sc _) hn
      · exact nope_ok
    · exact nope_ok
  | IfExp c a b p => exact se_if (S.t sc c) (S.e sc a) (S.e sc b)
  | Tuple es j p =>
    show SE T G CM k sc _ (if es.all noStar then eTup (aList (es.map (P.d sc))) else nope)
    split
    · rename_i h; exact se_tup (sa_list (fun e => S.d sc e) h)
    · exact nope_ok
  | List es p =>
    show SE T G CM k sc _ (if es.all noStar then eLst (aList (es.map (P.d sc))) else nope)
    split
    · rename_i h; exact se_lst (sa_list (fun e => S.d sc e) h)
    · exact nope_ok
  | Subscript a b p =>
    cases b with
    | Slice lo hi st p2 =>
      cases st with
      | none => exact se_slice (S.e sc a) (optE_ok S lo) (optE_ok S hi)
      | some e =>
        cases lo with
        | some _ => exact nope_ok
        | none =>
          cases hi with
          | some _ => exact nope_ok
          | none => exact se_step (S.e sc a) (S.e sc e)
    | _ =>
      refine subE_ok S ?_ a
      rfl
  | JoinedStr es p =>
    match es with
    | [] => exact nope_ok
    | [v] => exact se_join1 (S.e sc v)
    | v1 :: v2 :: r => exact se_join (fun e => S.e sc e)
  | FormattedValue a cv fs p =>
    cases fs with
    | some e => exact nope_ok
    | none =>
      show SE T G CM k sc _ (if cv = -1 then eFmtN (P.e sc a) else nope)
      split
      · rename_i h; subst h; exact se_fmtN (S.e sc a)
      · exact nope_ok
  | Attribute o f p =>
    show SE T G CM k sc _ (if okBase o && T.flds.contains f then eFld (P.e sc o) f else nope)
    split
    · rename_i h
      obtain ⟨h1, h2⟩ := Bool.and_eq_true_iff.mp h
      exact se_fld h1 (by simpa using h2) (S.e sc o)
    · exact nope_ok
  | Call f es kws pos =>
    cases kws with
    | cons _ _ => cases f <;> exact nope_ok
    | nil =>
      cases f with
      | Name x p => exact callName_ok S x es
      | Attribute o m apos => exact callMeth_ok S o m es
      | _ => exact nope_ok
  | ListComp elt gens scope p => exact lcE_ok S elt gens scope
  | Dict ks vs p =>
    show SE T G CM k sc _ (match ks, vs with
      | [], [] => eDict0
      | [some (.Constant (.bool b) _ _)], [e] => eDispB b (P.e sc e)
      | ks, vs => dispE P sc ks vs)
    split
    · exact se_dict0
    · exact se_dispB (S.e sc _)
    · exact dispE_ok S _ _
  | DictComp kx vx gens scope p => exact se_out (dcE_ok S kx vx gens scope)
  | _ => exact nope_ok
theorem stepD_ok {sc : Sc} (S : SPk T G CM k P) (e : Expr) : SE T G CM k sc e (stepD T CM P sc e) := by
  unfold stepD
  split
  · split
    · rename_i h; exact se_lstD (sa_list (fun e => S.d sc e) h)
    · exact nope_ok
  · exact se_out (lcE_ok S _ _ _)
  · exact stepE_ok S _
theorem stepT_ok {sc : Sc} (S : SPk T G CM k P) (e : Expr) : ST T G CM k sc e (stepT T CM P sc e) := by
  cases e with
  | UnaryOp op a p =>
    cases op with
    | Not => exact st_not (S.t sc a)
    | _ => exact st_no
  | BoolOp op es p => exact st_w (boolT_ok S es)
  | IfExp c a b p => exact st_no
  | Compare a ops cs p =>
    show ST T G CM k sc _ (tst (match ops, cs with
      | [op], [b] => cmpE T P sc op a b
      | [op, op'], [b, c] => if noSet c then eCmp2 op op' (P.d sc a) (P.d sc b) (P.d sc c) else nope
      | _, _ => nope))
    have no : ∀ {e : Expr}, ST T G CM k sc e (tst nope) := fun {e} X Wx F => ⟨fun p s σ H Q I ⟨c, env, _, _, _, h⟩ => h.elim⟩
    split
    · unfold cmpE
      split
      · rename_i l h
        obtain ⟨x, p, rfl, h1, h2⟩ := kdOf_ok h
        exact st_inK h1 h2 (S.e sc a)
      · rename_i l h
        obtain ⟨x, p, rfl, h1, h2⟩ := kdOf_ok h
        exact st_notInK h1 h2 (S.e sc a)
      · split
        · rename_i hn; exact st_cmp (S.d sc _) (S.d sc _) hn
        · exact no
    · split
      · rename_i hn; exact st_cmp2 (S.d sc _) (S.d sc _) (S.d sc _) hn
      · exact no
    · exact no
  | _ => exact st_val (stepE_ok S _) (fun _ _ => rfl)
theorem blk_ok {sc : Sc} (S : SPk T G CM k P) (sts : List Stmt) : SSs T G CM k sc sts (blk P sc sts) := sss_list (fun s => S.s sc s) sts
theorem swap_ok {sc : Sc} {a b : Expr} {px py pt pt2 : Pos} {x y : Str} {kt k2 : Nat} (h : swapOk a b px py x y = true) (hk : sc.scope.kind = .function) (hx : sc.scope.names.lookup x = some .local) (hy : sc.scope.names.lookup y = some .local) (env : Env) (he : env.scope = sc.scope) :
    swappedStores [.Tuple [.Name x px, .Name y py] kt pt] (.Tuple [a, b] k2 pt2) env = pure (some [x, y]) := by
  unfold swapOk at h
  simp only [Bool.and_eq_true] at h
  obtain ⟨⟨⟨⟨⟨h1, h2⟩, h3⟩, h4⟩, h5⟩, h6⟩ := h
  have hbk : (env.blockKind != ScopeKind.function) = false := by
    unfold Env.blockKind; rw [he, hk]; rfl
  have hkx : (env.kindOf x == some .local) = true := by
    show (env.scope.names.lookup x == some .local) = true
    rw [he, hx]; rfl
  have hky : (env.kindOf y == some .local) = true := by
    show (env.scope.names.lookup y == some .local) = true
    rw [he, hy]; rfl
  have hst : ([a, b].any fun | .Starred .. => true | _ => false) = false := by
    have one : ∀ e : Expr, noStar e = true → (match e with | .Starred .. => true | _ => false) = false := fun e h => by
      cases e <;> first | rfl | exact Bool.noConfusion (show false = true from h)
    rw [List.any_cons, List.any_cons, List.any_nil]
    have q1 := one a h5
    have q2 := one b h6
    exact (by rw [Bool.or_false]; exact (Bool.or_eq_false_iff.mpr ⟨q1, q2⟩))
  have hxy : ([x, y].eraseDups.length != [x, y].length) = false := by
    have : (x == y) = false := by simpa using h2
    have hyx : (y == x) = false := by
      rw [Bool.eq_false_iff] at this ⊢
      intro q; exact this (by rw [eq_of_beq q]; exact beq_self_eq_true x)
    simp [List.eraseDups_cons, hyx]
  unfold swappedStores
  simp only [List.length_cons, List.length_nil, hbk, hst, Expr.pos, List.head?, Option.map, Option.getD, hkx, hky, List.filterMap, h1, beq_self_eq_true, Bool.and_true, if_true, hxy]
  have e1 : ([a, b].all (foldedForSure 8)) = false := by rw [List.all_cons, List.all_cons, List.all_nil, Bool.and_true]; exact (Bool.not_eq_true' _).mp h3
  have e2 : ([a, b].all (constantsAlone 8)) = false := by rw [List.all_cons, List.all_cons, List.all_nil, Bool.and_true]; exact (Bool.not_eq_true' _).mp h4
  have hlen : [x, y].eraseDups.length = 2 := by simpa using hxy
  have one : ∀ e : Expr, noStar e = true → (match e with | .Starred .. => true | _ => false) = false := fun e h => by
    cases e <;> first | rfl | exact Bool.noConfusion (show false = true from h)
  have q1 := one a h5
  have q2 := one b h6
  simp [e1, e2]
  rw [if_neg (fun q => q.elim (fun q => Bool.noConfusion (q1.symm.trans q)) fun q => Bool.noConfusion (q2.symm.trans q)), if_pos hlen]
theorem ss_nope {sc : Sc} {st : Stmt} {i : Nat} : SS T G CM k sc st (sSet i nope) := fun X Ex F hp hs hf => ⟨fun p s σ H D I ⟨c, env, _, _, _, h⟩ => h.elim⟩
theorem assignE_ok {sc : Sc} {pos : Pos} (S : SPk T G CM k P) (tg e : Expr) : SS T G CM k sc (.Assign [tg] e pos) (assignE T P sc tg e) := by
  unfold assignE
  split
  · rename_i x px
    split
    · rename_i hc
      split
      · rename_i i hi; exact ss_setCell hi (eq_of_beq hc) (S.e sc _)
      · exact ss_no
    split
    · rename_i kx vx gens scope lpos
      split
      · rename_i i h1 h2 h3
        split
        · rename_i hc
          obtain ⟨g1, g2⟩ := Bool.and_eq_true_iff.mp hc
          unfold dcE
          split
          · rename_i tg it ifs asy
            split
            · rename_i hc2
              obtain ⟨rfl, hn⟩ := hc2
              split
              · rename_i kd i' hd
                split
                · rename_i t ht
                  exact ss_setDcD h1 h2 h3 g1 (by simpa using g2) ht hd hn st0_nil (S.e _ kx) (S.e _ vx)
                · rename_i t c ht
                  exact ss_setDcD h1 h2 h3 g1 (by simpa using g2) ht hd hn (st0_one (S.t _ c)) (S.e _ kx) (S.e _ vx)
                · exact ss_nope
              split
              · rename_i t ht
                exact ss_setDc h1 h2 h3 g1 (by simpa using g2) ht (iterE_ok S tg it) hn st0_nil (S.e _ kx) (S.e _ vx)
              · rename_i t c ht
                exact ss_setDc h1 h2 h3 g1 (by simpa using g2) ht (iterE_ok S tg it) hn (st0_one (S.t _ c)) (S.e _ kx) (S.e _ vx)
              · exact ss_nope
            · exact ss_nope
          · exact ss_nope
        · exact ss_no
      · exact ss_no
    · rename_i elt gens scope lpos
      split
      · rename_i i h1 h2 h3
        split
        · rename_i hc
          obtain ⟨g1, g2⟩ := Bool.and_eq_true_iff.mp hc
          unfold lcE
          split
          · rename_i tg it ifs asy
            split
            · rename_i hc2
              obtain ⟨rfl, hn⟩ := hc2
              split
              · rename_i kd i' hd
                split
                · rename_i t ht
                  exact ss_setLcDB h1 h2 h3 g1 (by simpa using g2) ht hd hn st0_nil (S.e _ elt)
                · rename_i t c ht
                  exact ss_setLcDB h1 h2 h3 g1 (by simpa using g2) ht hd hn (st0_one (S.t _ c)) (S.e _ elt)
                · exact ss_nope
              split
              · rename_i t ht
                exact ss_setLc h1 h2 h3 g1 (by simpa using g2) ht (iterE_ok S tg it) hn st0_nil (S.e _ elt)
              · rename_i t c ht
                exact ss_setLc h1 h2 h3 g1 (by simpa using g2) ht (iterE_ok S tg it) hn (st0_one (S.t _ c)) (S.e _ elt)
              · exact ss_nope
            · exact ss_nope
          · exact ss_nope
        · exact ss_no
      · exact ss_no
    · split
      · rename_i hn
        split
        · rename_i i hi
          split
          · exact ss_set hi (S.d sc _) hn
          · exact ss_set hi (S.e sc _) hn
        · exact ss_no
      · exact ss_no
  · split
    · rename_i hf; exact ss_fld (by simpa using hf) (S.e sc _) (S.e sc _)
    · exact ss_no
  · split
    · rename_i hp; exact ss_ix hp (S.e sc _) (S.e sc _) (S.e sc _)
    · exact ss_no
  · split
    · rename_i hn
      split
      · rename_i t ht; exact ss_tup ht (S.e sc _) hn
      · split
        · rename_i ts i h1 h2; exact ss_star h1 h2 (S.e sc _) hn
        · exact ss_no
    · split
      · rename_i hc
        split
        · rename_i t ht; exact ss_tupC ht (S.e sc _) hc
        · exact ss_no
      split
      · split
        · rename_i i j hk hx hy hi hj
          split
          · rename_i hc
            obtain ⟨c1, c2⟩ := Bool.and_eq_true_iff.mp hc
            have hs := c2
            unfold swapOk at hs
            simp only [Bool.and_eq_true] at hs
            exact ss_par hk hx hy hi hj (by simpa using c1) (S.e sc _) (S.e sc _) hs.1.2 hs.2 (swap_ok c2 hk hx hy)
          · exact ss_no
        · exact ss_no
      · split
        · rename_i i j l hk hx hy hz hi hj hl
          split
          · rename_i hc
            obtain ⟨c1, c2⟩ := Bool.and_eq_true_iff.mp hc
            obtain ⟨c2, c3⟩ := Bool.and_eq_true_iff.mp c2
            obtain ⟨d1, d2, d3⟩ := of_decide_eq_true c1
            exact ss_par3 hk hx hy hz hi hj hl d1 d2 d3 (sa_args S c2) (swap_ok3 c3 hk hx hy hz)
          · exact ss_no
        · exact ss_no
      · exact ss_no
  · exact ss_no
theorem tryE_ok {sc : Sc} {pos : Pos} (S : SPk T G CM k P) (body : List Stmt) (hs : List ExceptHandler) : SS T G CM k sc (.Try body hs [] [] pos) (tryE T P sc body hs) := by
  unfold tryE
  split
  · split
    · rename_i i j m h1 h2 h3 h4
      split
      · rename_i hc
        obtain ⟨rfl, g1, g2, g3, g4, g5, g6⟩ := hc
        exact ss_try h1 h2 h3 h4 g1 g2 g3 (by simpa using g4) (S.e sc _) g5 g6
      · exact ss_no
    · exact ss_no
  · split
    · rename_i j h1
      split
      · rename_i hc
        obtain ⟨g3, g4, g5⟩ := hc
        exact ss_tryE h1 g3 (by simpa using g4) (S.e sc _) g5
      · exact ss_no
    · exact ss_no
  · split
    · rename_i j h1
      split
      · rename_i hc
        obtain ⟨g3, g4⟩ := hc
        exact ss_tryS h1 g3 (by simpa using g4) (blk_ok S _)
      · exact ss_no
    · exact ss_no
  · exact ss_no
theorem raiseE_ok {sc : Sc} {pos : Pos} (e : Expr) : SS T G CM k sc (.Raise (some e) none pos) (raiseE T sc e) := by
  unfold raiseE
  split
  · split
    · rename_i hc
      obtain ⟨h1, h2⟩ := Bool.and_eq_true_iff.mp hc
      exact ss_raise' h1 (by simpa using h2)
    · exact ss_no
  · exact ss_no
theorem stepS_ok {sc : Sc} (S : SPk T G CM k P) (st : Stmt) : SS T G CM k sc st (stepS T P sc st) := by
  unfold stepS
  split
  · split
    · rename_i h; exact ss_expr (S.e sc _) h
    · exact ss_no
  · split
    · exact ss_ret (S.e sc _)
    · exact ss_retN
  · exact ss_pass
  · exact ss_break
  · exact ss_cont
  · exact ss_if (S.t sc _) (blk_ok S _) (blk_ok S _)
  · split
    · exact ss_while (S.t sc _) (blk_ok S _)
    · exact ss_no
  · split
    · rename_i t ht
      split
      · rename_i hn
        split
        · rename_i kd i hd; exact ss_forD ht hd (blk_ok S _) hn
        · exact ss_for ht (iterE_ok S _ _) (blk_ok S _) hn
      · exact ss_no
    · exact ss_no
  · split
    · exact assignE_ok S _ _
    · exact ss_no
  · split
    · split
      · rename_i i hi; exact ss_aug hi (S.e sc _)
      · exact ss_no
    · split
      · rename_i hf; exact ss_fldaug (by simpa using hf) (S.e sc _) (S.e sc _)
      · exact ss_no
    · exact ss_no
  · split
    · exact raiseE_ok _
    · exact ss_no
  · split
    · exact tryE_ok S _ _
    · exact ss_no
  · exact ss_no
theorem step_ok (S : SPk T G CM k P) : SPk T G CM k (step T CM P) := ⟨fun _ e => stepE_ok S e, fun _ e => stepD_ok S e, fun _ e => stepT_ok S e, fun _ s => stepS_ok S s⟩
theorem ev_ok : ∀ n, SPk T G CM k (ev T CM n)
  | 0 => ⟨fun _ _ => nope_ok, fun _ _ => nope_ok, fun _ _ => st_no, fun _ _ => ss_no⟩
  | n + 1 => step_ok (ev_ok n)
end
end Ev
set_option Elab.async false
set_option linter.all false
set_option maxRecDepth 100000
set_option maxHeartbeats 4000000
/-! E16: defs: what a call gives, and that it keeps its promise. -/
namespace Ev
open PySem PySem.Spec PyProof.Rows L2

def endM (h0 : AH) : R Fl → R W
  | .ok (.rt w) h1 => outM h0 w h1
  | .ok (.nx _) h1 => outM h0 (.d .none) h1
  | .ok _ _ => .no
  | .ex e h1 => if fineB h0 h1 then .ex e (h1.take h0.length) else .ex e h1
  | .no => .no
def startW (N : List Str) (ws : List W) : EnvW := ws.map some ++ List.replicate (N.length - ws.length) none
structure FI where
  sc : Sc
  body : List Stmt
  ps : List Str
  keep : Bool
/-- a def whose new objects stay -/
def keepM : R Fl → R W
  | .ok (.rt w) h1 => .ok w h1
  | .ok (.nx _) h1 => .ok (.d .none) h1
  | .ok _ _ => .no
  | .ex e h1 => .ex e h1
  | .no => .no
def endK (kp : Bool) (h : AH) (r : R Fl) : R W := if kp then keepM r else endM h r
noncomputable def callM (T : Tb) (D : FId → Option FI) (n : Nat) : Nat → FId → List W → M W
  | 0, _, _ => mno
  | k + 1, f, ws => match D f with
    | none => mno
    | some i => if ws.length = i.ps.length then fun h => endK i.keep h (blk (ev T (callM T D n k) n) i.sc i.body (startW i.sc.N ws) h) else mno

theorem callM_at {T : Tb} {D : FId → Option FI} {n k : Nat} {f : FId} {ws : List W} {h : AH} {i : FI} (hi : D f = some i) (hl : ws.length = i.ps.length) :
    callM T D n (k + 1) f ws h = endK i.keep h (blk (ev T (callM T D n k) n) i.sc i.body (startW i.sc.N ws) h) := by
  simp only [callM, hi, hl, if_true]
theorem po_end {G : GA} {c : Cf} {r : R Fl} {Q : V → Hp → Prop} {E : Str → Hp → Prop} (k : c.ok G) (h : Po G (endM c.ah r) c (fun w c' => ∀ v, RW G c' v w → Q v c'.H) (fun e c' => E e c'.H)) :
    Po G r c (FlP G { nx := fun _ H' => Q .non H', rt := Q }) (fun e c' => E e c'.H) := by
  cases r with
  | no => exact h
  | ok fl h1 =>
    intro c1 e1 k1 q1
    subst q1
    cases fl with
    | nx env => exact fun σ' _ => po_out k e1 k1 h (v := .non) .non
    | rt w => exact fun v rv => po_out k e1 k1 h rv
    | bk env => exact h.elim
    | ct env => exact h.elim
  | ex e h1 =>
    intro c1 e1 k1 q1
    subst q1
    unfold endM at h
    split at h
    · cases ‹R.ex _ _ = R.ok _ _›
    · cases ‹R.ex _ _ = R.ok _ _›
    · cases ‹R.ex _ _ = R.ok _ _›
    · rename_i hq
      cases hq
      by_cases hf : fineB c.ah c1.ah = true
      · rw [if_pos hf] at h
        obtain ⟨e2, k2⟩ := cut_ok k e1 k1 (fineB_iff.mp hf)
        exact h (c1.cut c.ah.length) e2 k2 rfl
      · rw [if_neg hf] at h
        exact h c1 e1 k1 rfl
    · exact h.elim
theorem po_keep {G : GA} {c : Cf} {r : R Fl} {Q : V → Hp → Prop} {E : Str → Hp → Prop} (k : c.ok G) (h : Po G (keepM r) c (fun w c' => ∀ v, RW G c' v w → Q v c'.H) (fun e c' => E e c'.H)) :
    Po G r c (FlP G { nx := fun _ H' => Q .non H', rt := Q }) (fun e c' => E e c'.H) := by
  cases r with
  | no => exact h
  | ok fl h1 =>
    intro c1 e1 k1 q1
    cases fl with
    | nx env => exact fun σ' _ => h c1 e1 k1 q1 .non .non
    | rt w => exact fun v rv => h c1 e1 k1 q1 v rv
    | bk env => exact h.elim
    | ct env => exact h.elim
  | ex e h1 => exact fun c1 e1 k1 q1 => h c1 e1 k1 q1
theorem po_endK {G : GA} {c : Cf} {r : R Fl} {kp : Bool} {Q : V → Hp → Prop} {E : Str → Hp → Prop} (k : c.ok G) (h : Po G (endK kp c.ah r) c (fun w c' => ∀ v, RW G c' v w → Q v c'.H) (fun e c' => E e c'.H)) :
    Po G r c (FlP G { nx := fun _ H' => Q .non H', rt := Q }) (fun e c' => E e c'.H) := by
  cases kp with
  | true => exact po_keep k h
  | false => exact po_end k h
theorem start_ok {G : GA} {c : Cf} {N : List Str} {ws : List W} {vs : List V} (r : RWL G c vs ws) : EnvR G c (startW N ws) (start N vs) := by
  have hl : vs.length = ws.length := r.length
  refine ⟨by simp [startW, L2.start, hl], fun i w q => ?_⟩
  unfold startW at q
  unfold L2.start
  by_cases hi : i < ws.length
  · rw [List.getElem?_append_left (by simpa using hi)] at q
    rw [List.getElem?_append_left (by simpa [hl] using hi)]
    rw [List.getElem?_map] at q ⊢
    cases qq : ws[i]? with
    | none => rw [qq] at q; cases q
    | some w' =>
      rw [qq] at q
      have : w' = w := by simpa using q
      subst this
      obtain ⟨v, hv, rv⟩ := paired_at r qq
      exact ⟨v, by rw [hv]; rfl, rv⟩
  · rw [List.getElem?_append_right (by simpa using hi)] at q
    rw [List.getElem?_replicate] at q
    split at q <;> cases q
where
  paired_at {α β : Type} {R : α → β → Prop} : ∀ {xs : List α} {ys : List β} {i : Nat} {y : β}, Paired R xs ys → ys[i]? = some y → ∃ x, xs[i]? = some x ∧ R x y
    | _, _, 0, _, .cons h _, q => ⟨_, rfl, by cases q; exact h⟩
    | _, _, i + 1, _, .cons _ r, q => by
      obtain ⟨x, h1, h2⟩ := paired_at r (by simpa using q)
      exact ⟨x, by simpa using h1, h2⟩

/-! ### the top -/
structure TopS (T : Tb) (G : GA) (w : World) (mg : Str → Option Value) : Prop where
  def_ : ∀ f, f ∈ T.defs → ∃ a, G.fa (pl f) = some a ∧ mg f = some (.ref a)
  con : ∀ x d, T.cons.lookup x = some d → ∃ u v, mg x = some u ∧ RelV v u ∧ ∀ c, Rp G.K c v d
  free : ∀ x, x ∈ T.free → mg x = none
  exc : ∀ x, x ∈ T.excs → ∃ Ca, G.xa x = some Ca ∧ mg x = some (.ref Ca) ∧ PySem.W.excIn G.K Ca [.type "LookupError", .type "Exception", .type "BaseException", .type "object"] "LookupError.__new__" = true ∧ PySem.W.keepIn G.K (.ref Ca) = true ∧ PySem.W.subIn G.K (.ref Ca) (.type "BaseException") = some true ∧ PySem.W.typeIn G.K (.ref Ca) = some (.type "type")
  cls : ∀ x, x ∈ T.clss → ∃ Ca fi, G.ca x = some Ca ∧ mg x = some (.ref Ca) ∧ Mk G.K Ca fi ∧ G.fa (x, "__init__") = some fi
  own : ∀ x Ca, G.ca x = some Ca → Cls G.K Ca ∧ ∀ f, f ∈ T.flds → NoAttr G.K Ca f
  meth : ∀ x m, (x, m) ∈ T.meths → ∃ Ca a, G.ca x = some Ca ∧ G.fa (x, m) = some a ∧ Meth G.K Ca m a
  isx : ∀ x, x ∈ T.xt → ∃ v u, (mg x = some u ∨ (mg x = none ∧ bootBuiltins x = some u)) ∧ ClsV v u ∧ RelV v u ∧ ∀ c C, G.xa c = some C → ExcC G.K C ∧ PySem.W.kitOne G.K (.ref C) u = some (T.catches c x)
  catch_ : ∀ c C x Ca, G.xa c = some C → G.xa x = some Ca → x ∈ T.excs → PySem.W.exmOne G.K (.ref C) (.ref Ca) = some (T.catches c x)
  kd : ∀ x l, T.kds.lookup x = some l → KdT G w mg x l
  wd : w = G.w
/-- a def of the program -/
structure DefF (T : Tb) (G : GA) (f : FId) (a : Addr) (i : FI) : Prop where
  ex : ∃ x qual params fd dvs kws, FunD G.K x qual params i.body i.sc.scope dvs kws a fd ∧ BindsD T G G.K f fd i.ps
  scope : FnScope i.sc.N i.ps i.sc.scope
theorem top_of {T : Tb} {G : GA} {CM : FId → List W → M W} {k : Nat} {X : Cx} {w : World} {mg : Str → Option Value} (hK : X.K = G.K) (hw : X.w = w) (hm : X.mg = mg) (S : TopS T G w mg)
    (hfn : ∀ f a, G.fa f = some a → ∃ fd ps, FnG X.prog X.w X.K X.mg X.base (CX X.prog X.w) (2 * k) a fd ps (spM G (CM f) ps.length) ∧ BindsD T G X.K f fd ps ∧ PySem.W.keepIn X.K (.ref a) = true ∧ ∀ ws h, ws.length ≠ ps.length → CM f ws h = .no) : Top T G CM k X := by
  refine ⟨hfn, ?_, ?_, ?_, ?_, ?_, ?_, ?_, ?_, ?_, ?_⟩
  · rw [hm]; exact S.def_
  · rw [hm]; exact S.con
  · rw [hm]; exact S.free
  · rw [hm, hK]
    intro x hx
    obtain ⟨Ca, h1, h2, h3, h4, h5, h6⟩ := S.exc x hx
    exact ⟨Ca, h1, h2, h3, h4, raises_own (by rw [hK]; exact h5) (by rw [hK]; exact h6)⟩
  · rw [hm, hK]; exact S.cls
  · rw [hK]; exact S.own
  · rw [hK]; exact S.meth
  · rw [hm, hK]; exact S.isx
  · rw [hK]; intro c C x Ca h1 h2 h3; exact ⟨_, S.catch_ c C x Ca h1 h2 h3, rfl⟩
  · rw [hm, hw]; exact S.kd
theorem fn_one {T : Tb} {G : GA} {D : FId → Option FI} {n : Nat} {P : Program} {w : World} {mg : Str → Option Value} {base : Heap} (S : TopS T G w mg) {k : Nat}
    (ih : ∀ f a, G.fa f = some a → ∃ fd ps, FnG P w G.K mg base (CX P w) (2 * k) a fd ps (spM G (callM T D n k f) ps.length) ∧ BindsD T G G.K f fd ps ∧ PySem.W.keepIn G.K (.ref a) = true ∧ ∀ ws h, ws.length ≠ ps.length → callM T D n k f ws h = .no)
    {f : FId} {a : Addr} {i : FI} (hi : D f = some i) (sc : FnScope i.sc.N i.ps i.sc.scope) {x qual : Str} {params : Arguments} {fd : FuncData} {dvs : List V} {kws : List (Str × V)} (F1 : FunD G.K x qual params i.body i.sc.scope dvs kws a fd) :
    FnG P w G.K mg base (CX P w) (2 * (k + 1)) a fd i.ps (spM G (callM T D n (k + 1) f) i.ps.length) := by
  refine fun_go (k := 2 * k + 1) F1 sc (fun vs H Q E h => h.1) fun cdv A outer s H vs Q E hgA hr h => ?_
  have hS := (ev_ok (T := T) (G := G) (CM := callM T D n k) (k := k) n)
  let X := cxOf (CX P w) P w G.K mg base i.sc.N qual i.sc.scope a cdv A outer s H E
  have hFit : Fits T G (callM T D n k) k X i.sc (fun cls d _ H => E cls d H) := by
    refine ⟨rfl, sc.nd, rfl, rfl, S.wd, hgA, fun _ _ => rfl, rfl, hr, takes_of rfl rfl rfl rfl, top_of rfl rfl rfl S ih⟩
  refine ⟨_, blk_ok hS i.body X E hFit (passes_of rfl) rfl ⟨rfl, rfl⟩, ?_⟩
  obtain ⟨hl, c, ws, rfl, ok, rws, q⟩ := h
  have hlw : ws.length = i.ps.length := by rw [← rws.length]; exact hl
  refine ⟨c, startW i.sc.N ws, rfl, ok, start_ok rws, ?_⟩
  simp only [callM, hi, hlw, if_true] at q
  exact po_endK (E := fun e H => ∀ C, G.xa e = some C → E (.ref C) none H) ok q
theorem fn_all {T : Tb} {G : GA} {D : FId → Option FI} {n : Nat} {P : Program} {w : World} {mg : Str → Option Value} {base : Heap} (S : TopS T G w mg) (hD : ∀ f a, G.fa f = some a → ∃ i, D f = some i ∧ DefF T G f a i) :
    ∀ k f a, G.fa f = some a → ∃ fd ps, FnG P w G.K mg base (CX P w) (2 * k) a fd ps (spM G (callM T D n k f) ps.length) ∧ BindsD T G G.K f fd ps ∧ PySem.W.keepIn G.K (.ref a) = true ∧ ∀ ws h, ws.length ≠ ps.length → callM T D n k f ws h = .no := by
  intro k
  induction k with
  | zero =>
    intro f a ha
    obtain ⟨i, hi, F⟩ := hD f a ha
    obtain ⟨x, qual, params, fd, dvs, kws, F1, B⟩ := F.ex
    exact ⟨fd, i.ps, ⟨fun vs H Q E h => h.1, fun A outer s H args us vs Q E hgA hr e0 hb hv ⟨_, c, ws, _, _, _, h⟩ => h.elim⟩, B, F1.kp, fun ws h _ => rfl⟩
  | succ k ih =>
    intro f a ha
    obtain ⟨i, hi, F⟩ := hD f a ha
    obtain ⟨x, qual, params, fd, dvs, kws, F1, B⟩ := F.ex
    refine ⟨fd, i.ps, fn_one S ih hi F.scope F1, B, F1.kp, fun ws h hl => ?_⟩
    simp only [callM, hi, if_neg hl]; rfl
end Ev
set_option Elab.async false
set_option linter.all false
set_option maxRecDepth 100000
set_option maxHeartbeats 4000000
/-! E17: the head: the module's facts, checked in its heap. -/
namespace Ev
open PySem PySem.Spec PyProof.Rows L2 He

/-! ### the part of the heap, no list in it -/
def notLst (q : Addr × Obj) : Bool := match q.2.cls with
  | .type c => !(decide (c = "list"))
  | _ => true
def frN (g : Addr → Option Obj) (as : List Addr) : PySem.W.Frag := (frG g as).filter notLst
theorem lk_mem {a : Addr} {o : Obj} : ∀ {l : List (Addr × Obj)}, l.lookup a = some o → (a, o) ∈ l
  | [], h => by cases h
  | (b, u) :: r, h => by
    rw [List.lookup_cons] at h
    cases q : (a == b) with
    | true =>
      rw [q] at h
      rw [beq_iff_eq.mp q, ← Option.some.inj h]
      exact List.mem_cons_self ..
    | false =>
      rw [q] at h
      exact List.mem_cons_of_mem _ (lk_mem h)
theorem frN_at {g : Addr → Option Obj} {as : List Addr} {a : Addr} {o : Obj} (h : (frN g as).lookup a = some o) : g a = some o ∧ notLst (a, o) = true := by
  obtain ⟨h1, h2⟩ := List.mem_filter.mp (lk_mem h)
  refine ⟨?_, h2⟩
  unfold frG at h1
  obtain ⟨b, hb, e⟩ := List.mem_filterMap.mp h1
  cases q : g b with
  | none => rw [q] at e; cases e
  | some u =>
    rw [q] at e
    have e' := Option.some.inj e
    cases e'
    exact q
theorem frN_in {as : List Addr} {h : Heap} : (frN h.get? as).In h := fun _ _ e => (frN_at e).1
def NoL (K : PySem.W.Frag) : Prop := ∀ a o, K.lookup a = some o → o.cls ≠ .type "list"
theorem frN_no {g : Addr → Option Obj} {as : List Addr} : NoL (frN g as) := fun a o h e => by
  have := (frN_at h).2
  unfold notLst at this
  rw [show (a, o).2.cls = o.cls from rfl, e] at this
  simp at this

/-! ### constants -/
mutual
def conB (K : PySem.W.Frag) : Nat → PyData → Value → Bool
  | _, .int i, .int j _ => decide (i = j)
  | _, .str x, .str y _ => decide (x = y)
  | _, .none, .none => true
  | _, .bool b, .bool c => decide (b = c)
  | n + 1, .tuple ds, .ref a => (match K.lookup a with
    | some ⟨.type c, _, .seq its _, _⟩ => decide (c = "tuple") && (decide (its.size ≤ sizeLine) && conL K n ds its.toList)
    | _ => false)
  | _, _, _ => false
def conL (K : PySem.W.Frag) : Nat → List PyData → List Value → Bool
  | _, [], [] => true
  | n, d :: ds, u :: us => conB K n d u && conL K n ds us
  | _, _, _ => false
end
mutual
theorem conB_ok {K : PySem.W.Frag} : ∀ (n : Nat) (d : PyData) (u : Value), conB K n d u = true → ∃ v, RelV v u ∧ ∀ c, Rp K c v d
  | n, d, u, h => by
    unfold conB at h
    split at h
    · have e := of_decide_eq_true h; subst e; exact ⟨.int _, ⟨_, rfl⟩, fun c => .int _⟩
    · have e := of_decide_eq_true h; subst e; exact ⟨.str _, ⟨_, rfl⟩, fun c => .str _⟩
    · exact ⟨.non, rfl, fun c => .non⟩
    · have e := of_decide_eq_true h; subst e; exact ⟨.bl _, rfl, fun c => .bl _⟩
    · rename_i n ds a
      split at h
      · rename_i c od its m osl q
        obtain ⟨h1, h2⟩ := ba h
        obtain ⟨h3, h4⟩ := ba h2
        obtain ⟨vs, r, hv⟩ := conL_ok n ds its.toList h4
        exact ⟨.ref a, rfl, fun c => .tupK ⟨_, its, m, q, congrArg Value.type (of_decide_eq_true h1), rfl, of_decide_eq_true h3, r⟩ (hv c)⟩
      · cases h
    · cases h
theorem conL_ok {K : PySem.W.Frag} : ∀ (n : Nat) (ds : List PyData) (us : List Value), conL K n ds us = true → ∃ vs, Vals vs us ∧ ∀ c, RpL K c vs ds
  | n, [], [], h => ⟨[], .nil, fun c => .nil⟩
  | n, [], _ :: _, h => by unfold conL at h; cases h
  | n, _ :: _, [], h => by unfold conL at h; cases h
  | n, d :: ds, u :: us, h => by
    unfold conL at h
    obtain ⟨h1, h2⟩ := ba h
    obtain ⟨v, r, hv⟩ := conB_ok n d u h1
    obtain ⟨vs, rs, hvs⟩ := conL_ok n ds us h2
    exact ⟨v :: vs, .cons r rs, fun c => .cons (hv c) (hvs c)⟩
end

/-! ### the facts -/
def adOf (f : FId) : Str × Option Str := if f.1 == Str.empty then (f.2, none) else (f.1, some f.2)
def gaOf (ids : List FId) (cs xs : List Str) (K : PySem.W.Frag) (w : World) : GA where
  K := K
  w := w
  fa := fun f => if ids.contains f then some (fAd K (adOf f)) else none
  ca := fun x => if cs.contains x then some (ga K x) else none
  xa := fun x => if xs.contains x then some (ga K x) else none
def leBase : List Value := [.type "LookupError", .type "Exception", .type "BaseException", .type "object"]
def excB (K : PySem.W.Frag) (x : Str) : Bool := PySem.W.excIn K (ga K x) leBase "LookupError.__new__" && (PySem.W.keepIn K (.ref (ga K x)) && (decide (PySem.W.subIn K (.ref (ga K x)) (.type "BaseException") = some true) && decide (PySem.W.typeIn K (.ref (ga K x)) = some (.type "type"))))
def excCB (K : PySem.W.Frag) (D : Addr) : Bool := eqO (PySem.W.findIn K (.ref D) "__getattribute__") (some (some (.builtin "BaseException.__getattribute__"))) && (eqO (PySem.W.findIn K (.ref D) "__getattr__") (some none) && (decide (PySem.W.subIn K (.ref D) (.type "BaseException") = some true) && (PySem.W.hasDictIn K D
  && (eqO (PySem.W.findIn K (.ref D) "__class__") (some (some (.builtin "object.__class__"))) && (eqO (PySem.W.specialIn K (.builtin "object.__class__") "__get__") (some (some (.builtin "getset_descriptor.__get__"))) && (decide (PySem.W.takesIn K (.builtin "object.__class__") = some true) && decide (PySem.W.mroIn K D (.type "object") = some true)))))))
theorem excCB_ok {K : PySem.W.Frag} {D : Addr} (h : excCB K D = true) : ExcC K D := by
  obtain ⟨h1, h⟩ := ba h
  obtain ⟨h2, h⟩ := ba h
  obtain ⟨h3, h⟩ := ba h
  obtain ⟨h4, h⟩ := ba h
  obtain ⟨h5, h⟩ := ba h
  obtain ⟨h6, h⟩ := ba h
  obtain ⟨h7, h8⟩ := ba h
  exact ⟨eqO_ok h1, eqO_ok h2, of_decide_eq_true h3, h4, eqO_ok h5, eqO_ok h6, of_decide_eq_true h7, of_decide_eq_true h8⟩
/-- a class that isinstance asks for -/
def isxU (K : PySem.W.Frag) (x : Str) : Value := if x == ("LookupError" : Str) then .type "LookupError" else .ref (ga K x)
def isxB (T : Tb) (xs : List Str) (K : PySem.W.Frag) (x : Str) : Bool := (if x == ("LookupError" : Str) then (Fa.free x).ok K && decide (bootBuiltins x = some (.type "LookupError")) else (Fa.glo x).ok K) && xs.all fun c => excCB K (ga K c) && decide (PySem.W.kitOne K (.ref (ga K c)) (isxU K x) = some (T.catches c x))
def topB (T : Tb) (ids : List FId) (cs xs : List Str) (K : PySem.W.Frag) : Bool :=
  (T.defs.all fun f => ids.contains (pl f) && (Fa.glo f).ok K)
  && ((T.cons.all fun q => match PySem.W.nsIn K mainGlobals q.1 with
    | some (some u) => conB K 5 q.2 u
    | _ => false)
  && ((T.free.all fun x => (Fa.free x).ok K)
  && ((T.excs.all fun x => xs.contains x && ((Fa.glo x).ok K && excB K x))
  && ((T.clss.all fun x => cs.contains x && ((Fa.glo x).ok K && ((Fa.mkr x).ok K && (ids.contains (x, "__init__") && !(x == Str.empty)))))
  && ((cs.all fun x => (Fa.cls x).ok K && T.flds.all fun f => (Fa.noat x f).ok K)
  && ((T.meths.all fun q => cs.contains q.1 && (ids.contains q && ((Fa.meth q.1 q.2).ok K && !(q.1 == Str.empty))))
  && ((T.xt.all fun x => isxB T xs K x)
  && ((xs.all fun c => T.excs.all fun x => decide (PySem.W.exmOne K (.ref (ga K c)) (.ref (ga K x)) = some (T.catches c x)))
  && (T.kds.all fun q => (Fa.glo q.1).ok K && q.2.all fun p => match PySem.W.nsIn K (ga K q.1) p.1 with
    | some (some u) => conB K 5 p.2 u
    | _ => false)))))))))
/-- a table of the top has just these keys -/
theorem dicW_keys {P : Params} {z : Str} : ∀ {es : List DictEntry} {ks : List Str}, es.map He.keyOf = keysIn P ks → z ∉ ks → es.find? (·.key.isStr z) = none ∧ es.any (·.refKey) = false
  | [], _, _, _ => ⟨rfl, rfl⟩
  | e :: r, [], h, _ => by cases h
  | e :: r, k :: ks, h, hz => by
    have h1 : He.keyOf e :: r.map He.keyOf = some (k, PyData.keyHash P k) :: keysIn P ks := h
    injection h1 with h2 h3
    obtain ⟨g1, g2⟩ := dicW_keys h3 (fun m => hz (List.mem_cons_of_mem _ m))
    unfold He.keyOf at h2
    split at h2
    · rename_i x t q
      have e1 : x = k := (Prod.mk.inj (Option.some.inj h2)).1
      have hzk : ¬ x = z := fun e => hz (by rw [← e, e1]; exact List.mem_cons_self ..)
      have e2 : e.key.isStr z = false := by
        rw [q]
        simp [Value.isStr]
        exact hzk
      have e3 : e.refKey = false := by
        unfold DictEntry.refKey
        rw [q]
      exact ⟨by rw [List.find?_cons, e2]; exact g1, by rw [List.any_cons, e3, g2]; rfl⟩
    · cases h2
theorem dicW_none {P : Params} {K : PySem.W.Frag} {a : Addr} {ks : List Str} {z : Str} (h : dicW K a = some (keysIn P ks)) (hz : z ∉ ks) : PySem.W.nsIn K a z = some none := by
  unfold dicW at h
  unfold PySem.W.nsIn
  split at h
  · rename_i c es n sl q
    rw [q]
    split at h
    · obtain ⟨g1, g2⟩ := dicW_keys (Option.some.inj h) hz
      simp only [g1, g2]
      rfl
    · cases h
  · cases h
theorem kds_ok {P : Params} : ∀ {l : List (Str × List (Str × PyData))} {K : PySem.W.Frag} {x : Str} {y : List (Str × PyData)}, l.map (fun q => dicW K (ga K q.1)) = l.map (fun q => some (keysIn P (q.2.map (·.1)))) → (x, y) ∈ l → dicW K (ga K x) = some (keysIn P (y.map (·.1)))
  | l, K, x, y, h, m => List.map_inj_left.mp h (x, y) m
theorem lookup_none {α β : Type} [BEq α] [LawfulBEq α] {x : α} : ∀ {l : List (α × β)}, l.lookup x = none → x ∉ l.map (·.1)
  | [], _, m => by cases m
  | (b, u) :: r, h, m => by
    rw [List.lookup_cons] at h
    cases q : (x == b) with
    | true => rw [q] at h; cases h
    | false =>
      rw [q] at h
      rcases List.mem_cons.mp m with e | m
      · have e : x = b := e
        subst e; simp at q
      · exact lookup_none h m
theorem lookup_in {α β : Type} [BEq α] [LawfulBEq α] {x : α} {d : β} : ∀ {l : List (α × β)}, l.lookup x = some d → (x, d) ∈ l
  | [], h => by cases h
  | (b, u) :: r, h => by
    rw [List.lookup_cons] at h
    cases q : (x == b) with
    | true =>
      rw [q] at h
      rw [beq_iff_eq.mp q, ← Option.some.inj h]
      exact List.mem_cons_self ..
    | false =>
      rw [q] at h
      exact List.mem_cons_of_mem _ (lookup_in h)
theorem top_ok {T : Tb} {ids : List FId} {cs xs : List Str} {K : PySem.W.Frag} {h : Heap} {w : World} {mg : Str → Option Value} (X : K.In h) (G : h.Ns mainGlobals mg) (c : topB T ids cs xs K = true) (hk : T.kds.map (fun q => dicW K (ga K q.1)) = T.kds.map (fun q => some (keysIn w.params (q.2.map (·.1))))) : TopS T (gaOf ids cs xs K w) w mg := by
  obtain ⟨c1, c⟩ := ba c
  obtain ⟨c2, c⟩ := ba c
  obtain ⟨c3, c⟩ := ba c
  obtain ⟨c4, c⟩ := ba c
  obtain ⟨c5, c⟩ := ba c
  obtain ⟨c6, c⟩ := ba c
  obtain ⟨c7, c⟩ := ba c
  obtain ⟨c8, c⟩ := ba c
  obtain ⟨c9, c10⟩ := ba c
  have xin : ∀ c C, (gaOf ids cs xs K w).xa c = some C → c ∈ xs ∧ C = ga K c := fun c C e => by
    have e : (if xs.contains c then some (ga K c) else none) = some C := e
    split at e
    · rename_i hq
      exact ⟨by simpa using hq, (Option.some.inj e).symm⟩
    · cases e
  refine ⟨fun f hf => ?_, fun x d hx => ?_, fun x hx => ?_, fun x hx => ?_, fun x hx => ?_, fun x Ca hx => ?_, fun x m hx => ?_, fun x hx => ?_, fun c C x Ca h1 h2 h3 => ?_, fun x l hx => ?_, rfl⟩
  · obtain ⟨h1, h2⟩ := ba (List.all_eq_true.mp c1 f hf)
    refine ⟨ga K f, ?_, glo_ok X G h2⟩
    show (if ids.contains (pl f) then some (fAd K (adOf (pl f))) else none) = some (ga K f)
    rw [if_pos h1]
    rfl
  · have h1 := List.all_eq_true.mp c2 (x, d) (lookup_in hx)
    simp only at h1
    split at h1
    · rename_i u hu
      obtain ⟨v, r, hv⟩ := conB_ok 5 d u h1
      exact ⟨u, v, PySem.W.mg_of X G hu, r, hv⟩
    · cases h1
  · exact free_ok X G (List.all_eq_true.mp c3 x hx)
  · obtain ⟨h1, h2⟩ := ba (List.all_eq_true.mp c4 x hx)
    obtain ⟨h2, h3⟩ := ba h2
    obtain ⟨h3, h4⟩ := ba h3
    obtain ⟨h4, h5⟩ := ba h4
    obtain ⟨h5, h6⟩ := ba h5
    exact ⟨ga K x, if_pos h1, glo_ok X G h2, h3, h4, of_decide_eq_true h5, of_decide_eq_true h6⟩
  · obtain ⟨h1, h2⟩ := ba (List.all_eq_true.mp c5 x hx)
    obtain ⟨h2, h3⟩ := ba h2
    obtain ⟨h3, h4⟩ := ba h3
    obtain ⟨h4, h5⟩ := ba h4
    refine ⟨ga K x, _, if_pos h1, glo_ok X G h2, mkr_ok h3, ?_⟩
    show (if ids.contains (x, "__init__") then some (fAd K (adOf (x, "__init__"))) else none) = _
    rw [if_pos h4]
    unfold adOf
    rw [if_neg (by simpa using h5)]
    rfl
  · have hx : (if cs.contains x then some (ga K x) else none) = some Ca := hx
    split at hx
    · rename_i hq
      cases hx
      obtain ⟨h1, h2⟩ := ba (List.all_eq_true.mp c6 x (by simpa using hq))
      exact ⟨cls_ok h1, fun f hf => noat_ok (List.all_eq_true.mp h2 f hf)⟩
    · cases hx
  · obtain ⟨h1, h2⟩ := ba (List.all_eq_true.mp c7 (x, m) hx)
    obtain ⟨h2, h3⟩ := ba h2
    obtain ⟨h3, h4⟩ := ba h3
    refine ⟨ga K x, _, if_pos h1, ?_, meth_ok h3⟩
    show (if ids.contains (x, m) then some (fAd K (adOf (x, m))) else none) = _
    rw [if_pos h2]
    unfold adOf
    rw [if_neg (by simpa using h4)]
    rfl
  · obtain ⟨h1, h2⟩ := ba (show (_ && _) = true from List.all_eq_true.mp c8 x hx)
    have rest : ∀ c C, (gaOf ids cs xs K w).xa c = some C → ExcC K C ∧ PySem.W.kitOne K (.ref C) (isxU K x) = some (T.catches c x) := fun c C e => by
      obtain ⟨hc, rfl⟩ := xin c C e
      obtain ⟨g1, g2⟩ := ba (List.all_eq_true.mp h2 c hc)
      exact ⟨excCB_ok g1, of_decide_eq_true g2⟩
    unfold isxU at rest
    by_cases hq : (x == ("LookupError" : Str)) = true
    · rw [if_pos hq] at h1 rest
      obtain ⟨g1, g2⟩ := ba h1
      exact ⟨.ty "LookupError", .type "LookupError", .inr ⟨free_ok X G g1, of_decide_eq_true g2⟩, .ty _, rfl, rest⟩
    · rw [if_neg hq] at h1 rest
      exact ⟨.ref (ga K x), .ref (ga K x), .inl (glo_ok X G h1), .own _, rfl, rest⟩
  · obtain ⟨hc, rfl⟩ := xin c C h1
    obtain ⟨_, rfl⟩ := xin x Ca h2
    exact of_decide_eq_true (List.all_eq_true.mp (List.all_eq_true.mp c9 c hc) x h3)
  · have hm := lookup_in hx
    obtain ⟨g1, g2⟩ := ba (List.all_eq_true.mp c10 (x, l) hm)
    have hd := kds_ok hk hm
    obtain ⟨es, n, hD⟩ := dicW_ok hd
    refine ⟨ga K x, es, n, glo_ok X G g1, hD, fun z => ⟨fun hz => dicW_none hd (lookup_none hz), fun dv hz => ?_⟩⟩
    have h1 := List.all_eq_true.mp g2 (z, dv) (lookup_in hz)
    simp only at h1
    split at h1
    · rename_i u hu
      obtain ⟨v, r, hv⟩ := conB_ok 5 dv u h1
      exact ⟨u, v, hu, r, hv⟩
    · cases h1

/-! ### the defs -/
structure Ent where
  id : FId
  st : Stmt
  N : List Str
  ps : List Str
  name : Str
  qual : Str
  dfl : List Dv := []
  kwd : List (Str × Dv) := []
  keep : Bool := false
def Ent.i (e : Ent) : FI := ⟨⟨e.N, defScope e.st, fun _ => true⟩, defBody e.st, e.ps, e.keep⟩
def Ent.d (e : Ent) : DefD := ⟨adOf e.id, e.name, e.qual, defArgs e.st, defBody e.st, defScope e.st, e.dfl, e.kwd⟩
structure Ent.good (T : Tb) (e : Ent) : Prop where
  scope : FnScope e.N e.ps (defScope e.st)
  binds : T.nopos.contains e.id = false → ∀ K a fd, FunD K e.name e.qual (defArgs e.st) (defBody e.st) (defScope e.st) (e.d.dvs K) (e.d.kws K) a fd → Binds K fd e.ps []
  dfl : ∀ n ds, T.dfls.lookup e.id = some (n, ds) → e.ps.length = n + ds.length ∧ ∀ K a fd, FunD K e.name e.qual (defArgs e.st) (defBody e.st) (defScope e.st) (e.d.dvs K) (e.d.kws K) a fd → ∃ dvs us, Vals dvs us ∧ (∀ c, RpL K c dvs ds) ∧ Binds K fd e.ps us
  kwd : ∀ n ks, T.kwds.lookup e.id = some (n, ks) → e.ps.length = n + ks.length ∧ ∀ K a fd, FunD K e.name e.qual (defArgs e.st) (defBody e.st) (defScope e.st) (e.d.dvs K) (e.d.kws K) a fd → KBn K fd e.ps n ks (fun us ws => us ++ ws) (fun vs zs => vs ++ zs)
theorem no_look {α β γ : Type} [BEq α] {l : List (α × β × γ)} {x : α} {P : β → γ → Prop} (h : (l.lookup x).isNone = true) : ∀ y z, l.lookup x = some (y, z) → P y z := fun y z e => by rw [e] at h; cases h
def AllG (T : Tb) : List Ent → Prop
  | [] => True
  | e :: es => e.good T ∧ AllG T es
theorem AllG.of {T : Tb} : ∀ {es : List Ent}, AllG T es → ∀ e ∈ es, e.good T
  | [], _, _, m => by cases m
  | a :: es, h, e, m => by
    cases m with
    | head => exact h.1
    | tail _ m => exact AllG.of h.2 e m
def lookE (es : List Ent) (f : FId) : Option FI := (es.find? fun e => e.id == f).map Ent.i
structure Hd where
  T : Tb
  es : List Ent
  cs : List Str
  xs : List Str
def Hd.ids (d : Hd) : List FId := d.es.map Ent.id
def Hd.G (d : Hd) (K : PySem.W.Frag) (w : World) : GA := gaOf d.ids d.cs d.xs K w
abbrev AlE : Type := Bool × List FnW × List (Option (List (Option (Str × Int))))
def obsE (d : Hd) (K : PySem.W.Frag) : AlE := (topB d.T d.ids d.cs d.xs K && d.es.all fun e => e.d.ok K, d.es.map (fun e => fnW K e.d.at_), d.T.kds.map fun q => dicW K (ga K q.1))
def valE (d : Hd) (w : World) : AlE := (true, d.es.map (fun e => e.d.val), d.T.kds.map fun q => some (keysIn w.params (q.2.map (·.1))))
def obsEG (n : Nat) (d : Hd) (g : Addr → Option Obj) : AlE := obsE d (frN g (asD g n))
def hookE (n : Nat) (d : Hd) : PySem.W.Hook where
  α := AlE
  obs := fun s => obsEG n d s.heap.get?
  val := fun w => valE d w
  says := fun w h => ∃ K : PySem.W.Frag, K.In h ∧ NoL K ∧ obsE d K = valE d w
  of := fun _ _ e => ⟨_, frN_in, frN_no, e⟩
  keeps := fun _ _ _ ⟨K, hK, n, c⟩ k => ⟨K, PySem.W.Frag.In.keeps hK k, n, c⟩
theorem obsEG_eq {n : Nat} {d : Hd} {g : Addr → Option Obj} {s : Shared} (h : ∀ a, g a = s.heap.get? a) : obsEG n d g = (hookE n d).obs s := by
  have e : g = s.heap.get? := funext h
  rw [e] <;> rfl
theorem defs_ok {d : Hd} {K : PySem.W.Frag} {w : World} (hg : AllG d.T d.es) (c : obsE d K = valE d w) : ∀ f a, (d.G K w).fa f = some a → ∃ i, lookE d.es f = some i ∧ DefF d.T (d.G K w) f a i := by
  intro f a h
  have h : (if d.ids.contains f then some (fAd K (adOf f)) else none) = some a := h
  split at h
  · rename_i hf
    cases h
    have hf : f ∈ d.es.map Ent.id := by simpa [Hd.ids] using hf
    obtain ⟨e0, m0, q0⟩ := List.mem_map.mp hf
    cases q : d.es.find? fun e => e.id == f with
    | none =>
      have := List.find?_eq_none.mp q e0 m0
      rw [q0] at this
      simp at this
    | some e =>
      have me := List.mem_of_find?_eq_some q
      have ei : e.id = f := by simpa using List.find?_some q
      subst ei
      refine ⟨e.i, by unfold lookE; rw [q]; rfl, ?_⟩
      have c2 := (ba (show (_ && _) = true from congrArg (fun z : AlE => z.1) c)).2
      have e1 : d.es.map (fun e => fnW K e.d.at_) = d.es.map fun e => e.d.val := congrArg (fun z : AlE => z.2.1) c
      have e2 : fnW K e.d.at_ = e.d.val := List.map_inj_left.mp e1 e me
      obtain ⟨fd, F⟩ := DefD.funD e2 (List.all_eq_true.mp c2 e me)
      have g := hg.of e me
      exact ⟨⟨_, _, _, fd, _, _, F, ⟨fun hn => g.binds hn K _ fd F, fun n ds e => ⟨(g.dfl n ds e).1, (g.dfl n ds e).2 K _ fd F⟩, fun n ks e => ⟨(g.kwd n ks e).1, (g.kwd n ks e).2 K _ fd F⟩⟩⟩, g.scope⟩
  · cases h

/-! ### the law -/
/-- the law's call, at the heap behind the top: nothing but the script is tracked -/
theorem law_at {P : Program} {w : World} {K : PySem.W.Frag} {mg mb : Str → Option Value} {cx : CXT} {k : Nat} {fa a : Addr} {fd : FuncData} {x : Str} {sp : Sp} {s : Shared} {us : List Value} {ns : List Int} (inK : K.In s.heap) (nl : NoL K) (nG : s.heap.Ns mainGlobals mg)
    (nB : s.heap.Ns builtinsNs mb) (eB : ∀ y : Str, y ≠ "__name__" → mb y = bootBuiltins y) (nL : s.heap.NoLimit) (g0 : s.gens = #[]) (at_ : s.heap.get? a = some { cls := .type "list", data := .seq us.toArray }) (are : IntsAre us ns) (few : ns.length ≤ sizeLine) (rm : Room k callerA)
    (F : ∀ hp0 : Heap, K.In hp0 → hp0.Ns mainGlobals mg → FnG P w K mg hp0 cx k fa fd [x] sp) (bnd : ∀ (s' : Shared) (u : Value), BindsTo s' fd ⟨[u], []⟩ [(x, u)]) (own : ∀ H : Hp, SqL K H a (ns.map V.int) → sp [.ref a] H (fun v _ => v = .bl true) fun _ _ _ => False)
    (noX : ∀ H e s', cx [] H s (fun _ _ _ => False) e s' → False) :
    codeAny (model P w) callerA (.call (.ref fa) ⟨[.ref a], []⟩) (fun r s' => r = .ok (.ret (.bool true)) ∧ OldK s.heap s'.heap ∧ s'.os = s.os ∧ AllBare s'.gens) s := by
  have notK : K.lookup a = none := by
    match e : K.lookup a with
    | none => rfl
    | some o =>
      have e1 := inK a o e
      rw [at_] at e1
      cases e1
      exact absurd rfl (nl a _ e)
  let ob : Obj := { cls := .type "list", data := .seq us.toArray }
  let H : Hp := fun b => if b = a then some (.frz ob (.lst (ns.map V.int))) else none
  have Ha : H a = some (.frz ob (.lst (ns.map V.int))) := if_pos rfl
  have Hn : ∀ b, b ≠ a → H b = none := fun b h => if_neg h
  have rv := vals_ints are
  have hok : HOk P w H s.heap := fun b u z => by
    by_cases e : b = a
    · rw [e, Ha] at z
      cases z
      rw [e]
      exact ⟨at_, by rw [List.length_map]; exact few, us, _, rv, at_⟩
    · rw [Hn b e] at z
      cases z
  let hp0 := hidT s.heap H
  have up : ∀ {b : Addr} {o : Obj}, s.heap.get? b = some o → b ≠ a → hp0.get? b = some o := fun e n => hidT_get e (Hn _ n)
  have ns_ : ∀ {b : Addr} {m : Str → Option Value}, s.heap.Ns b m → hp0.Ns b m := by
    rintro b m ⟨o, es, ep, e, d, r⟩
    refine ⟨o, es, ep, up e ?_, d, r⟩
    intro z
    rw [z, at_] at e
    cases e
    exact nomatch d
  have k0 : K.In hp0 := fun b o e => up (inK b o e) fun z => by
    rw [z, notK] at e
    cases e
  have mod : Mod K mg hp0 := by
    obtain ⟨mc, l1, l2⟩ := nL
    exact ⟨k0, ns_ nG, ⟨mb, ns_ nB, eB⟩, ⟨mc, ns_ l1, l2⟩⟩
  have e0 : Env0 P w K mg hp0 callerA [] s H := ⟨rfl, mod, fun _ _ e => of_hidT e, Nat.le_of_eq (hidT_size _ _), trivial, fun _ z => (nomatch z), hok, .of_eq g0⟩
  refine codeAny_mono ((F hp0 k0 (ns_ nG)).go callerA [] s H ⟨[.ref a], []⟩ [.ref a] [.ref a] _ _ rfl rm e0 (bnd s (.ref a)) (.cons rfl .nil) (own H (.inl (.inr ⟨ob, Ha⟩)))) fun r s' z => ?_
  match r, z with
  | .error e, z => exact (noX H e s' z).elim
  | .ok .next, z => exact False.elim z
  | .ok .brk, z => exact False.elim z
  | .ok .cont, z => exact False.elim z
  | .ok (.ret u), ⟨v, H', z1, z2, z3, z4, z5, z6⟩ =>
    cases (show v = V.bl true from z6)
    cases (show u = Value.bool true from z5)
    refine ⟨rfl, OldK.of_keep fun b o e => ?_, z1, z2⟩
    by_cases n : b = a
    · rw [n] at e ⊢
      have y := z3.frzs a ob _ Ha
      obtain ⟨y1, _⟩ := z4 a _ y
      rw [at_] at e
      cases e
      exact y1
    · exact z3.keep b o e (Hn b n) (fun z => nomatch z) (by simp)
theorem walk_ofC {l : PySem.W.OpenLaw} {n k : Nat} {q : Program} {loose : List Str} {XP : (Str → Option Value) → Heap → Prop} {YP : World → Heap → Prop} {d : DefRec} {CX : World → CXT} {x : Str}
    (hn : l.most = some n) (hn2 : n ≤ sizeLine) (hdf : d.params.defaults = []) (hr : Room k callerA)
    (F : ∀ (w : World) (mg : Str → Option Value) (fa : Addr) (h : Heap), YP w h → h.Ns mainGlobals mg → mg d.name = some (.ref fa) →
      ∃ (K : PySem.W.Frag) (fd : FuncData) (sp : Sp), K.In h ∧ NoL K ∧ (∀ (s : Shared) (u : Value), BindsTo s fd ⟨[u], []⟩ [(x, u)]) ∧
        (∀ (H : Hp) (a : Addr) (ns : List Int), ns.length ≤ n → SqL K H a (ns.map V.int) → sp [.ref a] H (fun v _ => v = .bl true) fun _ _ _ => False) ∧
        ∀ base : Heap, K.In base → base.Ns mainGlobals mg → FnG l.prog w K mg base (CX w) k fa fd [x] sp)
    (hCX : ∀ (w : World) (H : Hp) (s : Shared) (e : Value) (s' : Shared), CX w [] H s (fun _ _ _ => False) e s' → False) :
    PySem.W.WalkO q loose XP YP l.row.toRowW d [] (fun f vs => PySem.call f vs) := by
  refine Att.attach_call hn hdf fun w s₀ s₁ mg mb fa o pm cd doc a vs ns G Y ho hd hcd hmg hobj hints hlen hg => ?_
  obtain ⟨K, fd, sp, h1, nl, h2, h3, h4⟩ := F w mg fa _ Y G.T.g hmg
  exact law_at h1 nl G.T.g G.T.b G.T.builtins G.T.nolimit hg hobj hints (Nat.le_trans hlen hn2) hr h4 h2 (fun H hS => h3 H a ns hlen hS) fun H e s' => hCX w H s₁ e s'
theorem rpl_ints {K : PySem.W.Frag} {c : Cf} : ∀ ns : List Int, RpL K c (ns.map V.int) (ns.map PyData.int)
  | [] => .nil
  | n :: ns => .cons (.int n) (rpl_ints ns)
theorem law_of {l : PySem.W.OpenLaw} {m n k dp : Nat} {d : Hd} {q : Program} {loose : List Str} {XP : (Str → Option Value) → Heap → Prop} {dr : DefRec} {e : Ent} (hg : AllG d.T d.es)
    (hn : l.most = some n) (hn2 : n ≤ sizeLine) (hdf : dr.params.defaults = []) (hr : Room (2 * (k + 1)) callerA) (hname : dr.name = ("law" : Str)) (hin : ("law" : Str) ∈ d.T.defs)
    (he : (d.es.find? fun e => e.id == pl "law") = some e) (hps : e.ps = [("script" : Str)])
    (hb : ∀ K a fd, FunD K e.name e.qual (defArgs e.st) (defBody e.st) (defScope e.st) (e.d.dvs K) (e.d.kws K) a fd → ∀ (s : Shared) (u : Value), BindsTo s fd ⟨[u], []⟩ [(("script" : Str), u)])
    (hl : ∀ ns : List Int, ns.length ≤ n → ∃ h, callM d.T (lookE d.es) dp (k + 1) (pl "law") [.d (.list (ns.map PyData.int))] [] = .ok (.d (.bool true)) h) :
    PySem.W.WalkO q loose XP (hookE m d).says l.row.toRowW dr [] (fun f vs => PySem.call f vs) := by
  refine walk_ofC (k := 2 * (k + 1)) (CX := fun w => CX l.prog w) (x := "script") hn hn2 hdf hr ?_ (fun w H s e s' ⟨_, _, _, _, _, _, _, _, _, _, _, _, z⟩ => z)
  intro w mg fa h ⟨K, KX, nl, c⟩ G hmg
  rw [hname] at hmg
  have c0 := ba (show (_ && _) = true from congrArg (fun z : AlE => z.1) c)
  have S : TopS d.T (d.G K w) w mg := top_ok KX G c0.1 (congrArg (fun z : AlE => z.2.2) c)
  obtain ⟨a', h1, h2⟩ := S.def_ "law" hin
  rw [hmg] at h2
  cases h2
  have hD := defs_ok hg c
  have me := List.mem_of_find?_eq_some he
  have ei : e.id = pl "law" := by simpa using List.find?_some he
  have hi : lookE d.es (pl "law") = some e.i := by unfold lookE; rw [he]; rfl
  have e1 : d.es.map (fun e => fnW K e.d.at_) = d.es.map fun e => e.d.val := congrArg (fun z : AlE => z.2.1) c
  have e2 : fnW K e.d.at_ = e.d.val := List.map_inj_left.mp e1 e me
  obtain ⟨fd, F⟩ := DefD.funD e2 (List.all_eq_true.mp c0.2 e me)
  have g := hg.of e me
  have ea : fAd K e.d.at_ = fa := by
    have h1 : (if d.ids.contains (pl "law") then some (fAd K (adOf (pl "law"))) else none) = some fa := h1
    split at h1
    · rw [← ei] at h1; exact Option.some.inj h1
    · cases h1
  rw [ea] at F
  refine ⟨K, fd, spM (d.G K w) (callM d.T (lookE d.es) dp (k + 1) (pl "law")) 1, KX, nl, hb K fa fd F, fun H a ns hlen hS => ?_, fun base hKb hB => ?_⟩
  · have hRd : Rd H a (.lst (ns.map V.int)) := by
      rcases hS with hS | ⟨o, its, n, h1, h2, _⟩
      · exact hS
      · exact absurd h2 (nl a o h1)
    refine ⟨rfl, ⟨H, [], []⟩, [.d (.list (ns.map PyData.int))], rfl, ⟨rfl, List.Pairwise.nil, fun i a o h => by simp at h⟩, .cons ?_ .nil, ?_⟩
    · exact .lst (fun ⟨i, h⟩ => by simp at h) hRd (rpl_ints ns)
    · obtain ⟨h', hh⟩ := hl ns hlen
      show Po _ (callM d.T (lookE d.es) dp (k + 1) (pl "law") [.d (.list (ns.map PyData.int))] []) _ _ _
      rw [hh]
      intro c' _ _ _ v rv
      exact rBool rv
  · have z := fn_one (P := l.prog) (w := w) (base := base) (n := dp) S (fn_all (n := dp) (P := l.prog) (w := w) (base := base) S hD k) hi g.scope F
    have hp1 : e.i.ps = [("script" : Str)] := hps
    rw [hp1] at z
    exact z
end Ev
set_option Elab.async false
set_option linter.all false
set_option maxRecDepth 100000
set_option maxHeartbeats 4000000
/-! E17b: the law by a reading of its body of one's own; objects that are forgotten on the way. -/
namespace Ev
open PySem PySem.Spec PyProof.Rows L2 He
def kill1 : AO → AO
  | .rod kvs => .rod kvs
  | _ => .dead
def killN (n : Nat) (h : AH) : AH := (h.take n).map kill1 ++ h.drop n
theorem killN_at {n : Nat} {h : AH} {i : Nat} {o : AO} (q : (killN n h)[i]? = some o) : (i < n ∧ ∃ u, h[i]? = some u ∧ o = kill1 u) ∨ (n ≤ i ∧ h[i]? = some o) := by
  unfold killN at q
  by_cases hi : i < (h.take n).length
  · rw [List.getElem?_append_left (by simpa using hi), List.getElem?_map] at q
    have hi2 : i < n ∧ i < h.length := by rw [List.length_take] at hi; omega
    rw [List.getElem?_take, if_pos hi2.1, List.getElem?_eq_getElem hi2.2] at q
    exact .inl ⟨hi2.1, _, List.getElem?_eq_getElem hi2.2, by simpa using q.symm⟩
  · rw [List.getElem?_append_right (by simpa using hi)] at q
    rw [List.getElem?_drop] at q
    have hl : ((h.take n).map kill1).length = min n h.length := by simp
    rw [hl] at q
    have hlt : n + (i - min n h.length) < h.length := (List.getElem?_eq_some_iff.mp q).1
    have hi2 : ¬ (i < n ∧ i < h.length) := by rw [List.length_take] at hi; omega
    have hn : n ≤ i := by omega
    rw [show n + (i - min n h.length) = i by omega] at q
    exact .inr ⟨hn, q⟩
theorem killN_len {n : Nat} {h : AH} : (killN n h).length = h.length := by unfold killN; simp; omega
theorem killN_lk {n : Nat} {h : AH} {i : Nat} {o : AO} (ho : kill1 o = o) (q : h[i]? = some o) : (killN n h)[i]? = some o := by
  have hl : i < h.length := (List.getElem?_eq_some_iff.mp q).1
  have hk : (killN n h).length = h.length := killN_len
  cases e : (killN n h)[i]? with
  | none => rw [List.getElem?_eq_none_iff] at e; omega
  | some o' =>
    rcases killN_at e with ⟨_, u, h2, h3⟩ | ⟨_, h2⟩
    · rw [q] at h2; cases h2; rw [h3, ho]
    · rw [q] at h2; rw [← h2]
theorem killN_dead {n : Nat} {h : AH} {i : Nat} (q : h[i]? = some .dead) : (killN n h)[i]? = some .dead := killN_lk rfl q
section
variable {T : Tb} {G : GA} {CM : FId → List W → M W} {k : Nat} {sc : Sc}
theorem kill_ok {c : Cf} {n : Nat} (ok : c.ok G) : c.ext ⟨c.H, c.μ, killN n c.ah⟩ ∧ (⟨c.H, c.μ, killN n c.ah⟩ : Cf).ok G := by
  refine ⟨⟨fun _ _ h => h, fun _ _ h l => ⟨h, l⟩, fun i a o h1 h2 h3 => ⟨h3, killN_dead h2⟩, fun i a kvs o h1 h2 h3 => ⟨h3, killN_lk rfl h2⟩⟩, ⟨by show c.μ.length = (killN n c.ah).length; rw [killN_len]; exact ok.len, ok.nd, fun i a o h1 h2 => ?_⟩⟩
  rcases killN_at h2 with ⟨_, u, hu, rfl⟩ | ⟨_, h2⟩
  · have q := ok.obj i a u h1 hu
    cases u with
    | rod kvs => exact OR.same (c := c) (c' := ⟨c.H, c.μ, killN n c.ah⟩) rfl rfl q
    | _ => exact (ok.there h1)
  · exact OR.same (c := c) (c' := ⟨c.H, c.μ, killN n c.ah⟩) rfl rfl (ok.obj i a o h1 h2)
def mKill (n : Nat) (m : MS) : MS := fun env h => m env (killN n h)
theorem sss_kill {sts : List Stmt} {m : MS} {n : Nat} (hm : SSs T G CM k sc sts m) : SSs T G CM k sc sts (mKill n m) := fun X Ex F hp hs hf => by
  refine PSs.imp (hm X Ex F hp hs hf) fun D σ H ⟨c, env, e, ok, re, q⟩ => ?_
  subst e
  obtain ⟨ex, ok2⟩ := kill_ok (n := n) ok
  exact ⟨⟨c.H, c.μ, killN n c.ah⟩, env, rfl, ok2, re.mono ex, Po.bind.Po.later ex q⟩
theorem sss_nilSeq {sts : List Stmt} {m : MS} (hm : SSs T G CM k sc sts m) : SSs T G CM k sc sts (sSeq sNil m) := fun X Ex F hp hs hf => by
  refine PSs.imp (hm X Ex F hp hs hf) fun D σ H ⟨c, env, e, ok, re, q⟩ => ⟨c, env, e, ok, re, q⟩
theorem sSeq_assoc (a b c : MS) : sSeq (sSeq a b) c = sSeq a (sSeq b c) := by
  funext env h
  simp only [sSeq, mbind]
  cases a env h with
  | ok fl h1 => cases fl <;> rfl
  | ex e h1 => rfl
  | no => rfl
theorem sss_append {P : Stmt → MS} (hP : ∀ s, SS T G CM k sc s (P s)) {b : List Stmt} {mb : MS} (hb : SSs T G CM k sc b mb) : ∀ a : List Stmt, SSs T G CM k sc (a ++ b) (sSeq (sBlock (a.map P)) mb)
  | [] => sss_nilSeq hb
  | [s] => sss_cons (hP s) hb
  | s :: s2 :: r => by
    show SSs T G CM k sc (s :: (s2 :: r ++ b)) (sSeq (sSeq (P s) (sBlock ((s2 :: r).map P))) mb)
    rw [sSeq_assoc]
    exact sss_cons (hP s) (sss_append hP hb (s2 :: r))
end
/-- a law's body by such a reading -/
theorem fn_body {T : Tb} {G : GA} {D : FId → Option FI} {n : Nat} {P : Program} {w : World} {mg : Str → Option Value} {base : Heap} (S : TopS T G w mg) {k : Nat}
    (ih : ∀ f a, G.fa f = some a → ∃ fd ps, FnG P w G.K mg base (CX P w) (2 * k) a fd ps (spM G (callM T D n k f) ps.length) ∧ BindsD T G G.K f fd ps ∧ PySem.W.keepIn G.K (.ref a) = true ∧ ∀ ws h, ws.length ≠ ps.length → callM T D n k f ws h = .no)
    {a : Addr} {i : FI} {m : MS} (sc : FnScope i.sc.N i.ps i.sc.scope) {x qual : Str} {params : Arguments} {fd : FuncData} {dvs : List V} {kws : List (Str × V)} (F1 : FunD G.K x qual params i.body i.sc.scope dvs kws a fd) (hown : i.sc.own = fun _ => true)
    (hm : SSs T G (callM T D n k) k i.sc i.body m) : FnG P w G.K mg base (CX P w) (2 * (k + 1)) a fd i.ps (spM G (fun ws h => if ws.length = i.ps.length then keepM (m (startW i.sc.N ws) h) else .no) i.ps.length) := by
  refine fun_go (k := 2 * k + 1) F1 sc (fun vs H Q E h => h.1) fun cdv A outer s H vs Q E hgA hr h => ?_
  let X := cxOf (CX P w) P w G.K mg base i.sc.N qual i.sc.scope a cdv A outer s H E
  have hFit : Fits T G (callM T D n k) k X i.sc (fun cls d _ H => E cls d H) := by
    refine ⟨rfl, sc.nd, rfl, rfl, S.wd, hgA, fun _ _ => rfl, rfl, hr, takes_of rfl rfl rfl rfl, top_of rfl rfl rfl S ih⟩
  refine ⟨_, hm X E hFit (passes_of rfl) rfl ⟨rfl, rfl⟩, ?_⟩
  obtain ⟨hl, c, ws, rfl, ok, rws, q⟩ := h
  have hlw : ws.length = i.ps.length := by rw [← rws.length]; exact hl
  refine ⟨c, startW i.sc.N ws, rfl, ok, start_ok rws, ?_⟩
  simp only [hlw, if_true] at q
  exact po_keep (E := fun e H => ∀ C, G.xa e = some C → E (.ref C) none H) ok q
theorem law_ofM {l : PySem.W.OpenLaw} {m n k dp : Nat} {d : Hd} {q : Program} {loose : List Str} {XP : (Str → Option Value) → Heap → Prop} {dr : DefRec} {e : Ent} {M : MS} (hg : AllG d.T d.es)
    (hn : l.most = some n) (hn2 : n ≤ sizeLine) (hdf : dr.params.defaults = []) (hr : Room (2 * (k + 1)) callerA) (hname : dr.name = ("law" : Str)) (hin : ("law" : Str) ∈ d.T.defs)
    (he : (d.es.find? fun e => e.id == pl "law") = some e) (hps : e.ps = [("script" : Str)])
    (hb : ∀ K a fd, FunD K e.name e.qual (defArgs e.st) (defBody e.st) (defScope e.st) (e.d.dvs K) (e.d.kws K) a fd → ∀ (s : Shared) (u : Value), BindsTo s fd ⟨[u], []⟩ [(("script" : Str), u)])
    (hM : ∀ G : GA, SSs d.T G (callM d.T (lookE d.es) dp k) k e.i.sc e.i.body M)
    (hl : ∀ ns : List Int, ns.length ≤ n → ∃ h, M (startW e.N [.d (.list (ns.map PyData.int))]) [] = .ok (.rt (.d (.bool true))) h) :
    PySem.W.WalkO q loose XP (hookE m d).says l.row.toRowW dr [] (fun f vs => PySem.call f vs) := by
  refine walk_ofC (k := 2 * (k + 1)) (CX := fun w => CX l.prog w) (x := "script") hn hn2 hdf hr ?_ (fun w H s e s' ⟨_, _, _, _, _, _, _, _, _, _, _, _, z⟩ => z)
  intro w mg fa h ⟨K, KX, nl, c⟩ G hmg
  rw [hname] at hmg
  have c0 := ba (show (_ && _) = true from congrArg (fun z : AlE => z.1) c)
  have S : TopS d.T (d.G K w) w mg := top_ok KX G c0.1 (congrArg (fun z : AlE => z.2.2) c)
  obtain ⟨a', h1, h2⟩ := S.def_ "law" hin
  rw [hmg] at h2
  cases h2
  have hD := defs_ok hg c
  have me := List.mem_of_find?_eq_some he
  have ei : e.id = pl "law" := by simpa using List.find?_some he
  have e1 : d.es.map (fun e => fnW K e.d.at_) = d.es.map fun e => e.d.val := congrArg (fun z : AlE => z.2.1) c
  have e2 : fnW K e.d.at_ = e.d.val := List.map_inj_left.mp e1 e me
  obtain ⟨fd, F⟩ := DefD.funD e2 (List.all_eq_true.mp c0.2 e me)
  have g := hg.of e me
  have ea : fAd K e.d.at_ = fa := by
    have h1 : (if d.ids.contains (pl "law") then some (fAd K (adOf (pl "law"))) else none) = some fa := h1
    split at h1
    · rw [← ei] at h1; exact Option.some.inj h1
    · cases h1
  rw [ea] at F
  refine ⟨K, fd, spM (d.G K w) (fun ws h => if ws.length = e.i.ps.length then keepM (M (startW e.i.sc.N ws) h) else .no) 1, KX, nl, hb K fa fd F, fun H a ns hlen hS => ?_, fun base hKb hB => ?_⟩
  · have hRd : Rd H a (.lst (ns.map V.int)) := by
      rcases hS with hS | ⟨o, its, n, h1, h2, _⟩
      · exact hS
      · exact absurd h2 (nl a o h1)
    refine ⟨rfl, ⟨H, [], []⟩, [.d (.list (ns.map PyData.int))], rfl, ⟨rfl, List.Pairwise.nil, fun i a o h => by simp at h⟩, .cons ?_ .nil, ?_⟩
    · exact .lst (fun ⟨i, h⟩ => by simp at h) hRd (rpl_ints ns)
    · obtain ⟨h', hh⟩ := hl ns hlen
      have hp1 : e.i.ps.length = 1 := by show e.ps.length = 1; rw [hps]; rfl
      show Po _ (if [W.d (.list (ns.map PyData.int))].length = e.i.ps.length then keepM (M (startW e.i.sc.N [.d (.list (ns.map PyData.int))]) []) else .no) _ _ _
      rw [if_pos (by rw [hp1]; rfl), show M (startW e.i.sc.N [.d (.list (ns.map PyData.int))]) [] = _ from hh]
      intro c' _ _ _ v rv
      exact rBool rv
  · have z := fn_body (P := l.prog) (w := w) (base := base) (n := dp) (i := e.i) S (fn_all (n := dp) (P := l.prog) (w := w) (base := base) S hD k) g.scope F rfl (hM (d.G K w))
    have hp1 : e.i.ps = [("script" : Str)] := hps
    rw [hp1] at z
    rw [hp1]
    exact z
end Ev
set_option Elab.async false
set_option linter.all false
set_option maxRecDepth 100000
set_option maxHeartbeats 4000000
/-! E18: reading terms: rules by the front, and what a def's end makes of it. -/
namespace Ev
open PySem PySem.Spec PyProof.Rows L2 He
def mb {α β : Type} (r : R α) (f : α → M β) : R β := match r with
  | .ok a h' => f a h'
  | .ex c h' => .ex c h'
  | .no => .no
def kA {β : Type} (y : ME) (env : EnvW) (F : W → W → M β) (a : W) : M β := mbind (y env) (F a)
def kIf {β : Type} (p q : M β) (c : Bool) : M β := if c then p else q
def kOk {β γ : Type} (g : β → γ) (b : β) : M γ := mpure (g b)
def kNx {β : Type} (fl : Fl) (_ : β) : M Fl := mpure fl
def kC4 (op' : CmpOp) (b : W) (z : ME) (env : EnvW) (t : Bool) : M W := if t then mbind (z env) (cmp op' b) else mpure (wB false)
def kC3 (op' : CmpOp) (b : W) (z : ME) (env : EnvW) (c : W) : M W := mbind (asB c) (kC4 op' b z env)
def kC2 (op op' : CmpOp) (z : ME) (env : EnvW) (a b : W) : M W := mbind (cmp op a b) (kC3 op' b z env)
def kL2 (a : W) (as : List W) : M (List W) := mpure (a :: as)
def kL1 (r : EnvW → M (List W)) (env : EnvW) (a : W) : M (List W) := mbind (r env) (kL2 a)
def kTup (ws : List W) : M W := match allD ws with
  | some ds => if ds.length ≤ sizeLine then mpure (.d (.tuple ds)) else mno
  | none => if ws.length ≤ sizeLine then fun h => .ok (.r h.length) (h ++ [.tup ws]) else mno
def kLst (ws : List W) : M W := if ws.length ≤ sizeLine then fun h => .ok (.r h.length) (h ++ [.lst ws]) else mno
def kLstD (ws : List W) : M W := match allD ws with
  | some ds => if ds.length ≤ sizeLine then mpure (.d (.list ds)) else mno
  | none => mno
def kNeg (w : W) : M W := match w with
  | .d (.int i) => mpure (wI (-i))
  | _ => mno
def kSo (a : W) : M (Option Int) := mbind (asI a) fun i => mpure (some i)
def kS2 (a : W) (l : Option Int) (u : Option Int) : M W := slM a l u
def kS1 (a : W) (o' : EnvW → M (Option Int)) (env : EnvW) (l : Option Int) : M W := mbind (o' env) (kS2 a l)
def kS0 (o o' : EnvW → M (Option Int)) (env : EnvW) (a : W) : M W := mbind (o env) (kS1 a o' env)
def kJ2 (ms : List ME) (acc : Str) (env : EnvW) (y : Str) : M W := if (acc ++ y).length ≤ sizeLine then joinM ms (acc ++ y) env else mno
def kJ1 (ms : List ME) (acc : Str) (env : EnvW) (w : W) : M W := mbind (asS w) (kJ2 ms acc env)
def kV (T : Tb) (CM : FId → List W → M W) (as : EnvW → M (List W)) (env : EnvW) (w : W) : M W := match w with
  | .fn f => if T.nopos.contains (pl f) then mno else mbind (as env) (CM (pl f))
  | _ => mno
def kM (T : Tb) (CM : FId → List W → M W) (f : Str) (as : EnvW → M (List W)) (env : EnvW) (w : W) : M W := methM T CM f w (as env)
def kB (bt : BT) (q : W → List W → M W) (as : EnvW → M (List W)) (env : EnvW) (w : W) : M W := fun h => if bt.chk h w then mbind (as env) (q w) h else .no
def kNew (CM : FId → List W → M W) (x : Str) (ds ws : List W) : M W := fun h => match CM (x, "__init__") (.r h.length :: (ws ++ ds)) (h ++ [.ins x []]) with
  | .ok (.d .none) h' => .ok (.r h.length) h'
  | .ex c h' => .ex c h'
  | _ => .no
def kRt (w : W) : M Fl := mpure (.rt w)
def kSet (i : Nat) (env : EnvW) (w : W) : M Fl := mpure (.nx (env.set i (some w)))
def kFor (tg : Tg) (s : MS) (env : EnvW) (p : Src) : M Fl := over p fun ws => floop tg s ws env
def kF2 (f : Str) (env : EnvW) (b a : W) : M Fl := mbind (setFldM f a b) (kNx (.nx env))
def kX2 (env : EnvW) (v a b : W) : M Fl := mbind (setIxM a b v) (kNx (.nx env))
def kX1 (y : ME) (env : EnvW) (v a : W) : M Fl := mbind (y env) (kX2 env v a)
def kP2 (i j : Nat) (env : EnvW) (a b : W) : M Fl := mpure (.nx ((env.set i (some a)).set j (some b)))
def kG2 (i : Nat) (env : EnvW) (a b : W) : M Fl := mbind (iopM a b) (kSet i env)
def kRef (n : Nat) (_ : Unit) : M W := mpure (.r n)
def kLC (tg : Tg) (t : EnvW → M Bool) (el : ME) (env : EnvW) (p : Src) : M W := over p fun ws => fun h => mb (cLoop h.length tg t el ws (wipeW env tg.slots) (h ++ [.lst []])) (kRef h.length)
section
variable {α β : Type} {a : α} {f : α → M β} {h : AH} {c : Str} {m : M α}
@[simp] theorem mb_ok : mb (.ok a h) f = f a h := rfl
@[simp] theorem mb_ex : mb (.ex c h : R α) f = .ex c h := rfl
@[simp] theorem mb_no : mb (.no : R α) f = .no := rfl
@[simp ↓] theorem mbind_ap : mbind m f h = mb (m h) f := rfl
@[simp] theorem mpure_ap : mpure a h = .ok a h := rfl
@[simp] theorem mno_ap : (mno : M α) h = .no := rfl
@[simp] theorem mraise_ap : (mraise c : M α) h = .ex c h := rfl
end
section
variable {env : EnvW} {h : AH} {i j n : Nat} {w : W} {x y z : ME} {e : EnvW} {t u : EnvW → M Bool} {as : EnvW → M (List W)} {f g : Str} {s s' : MS} {ty : String} {op op' : CmpOp} {bo : Operator} {CM : FId → List W → M W} {fi : FId} {T : Tb} {o o' : EnvW → M (Option Int)} {tg : Tg} {mi : EnvW → M Src} {bt : BT} {q : W → List W → M W} {fn : List W → M W} {fs : List W → M Src}
@[simp ↓] theorem mVar_0 : mVar 0 (some w :: e) h = .ok w h := rfl
@[simp ↓] theorem mVar_s {o : Option W} : mVar (n + 1) (o :: e) h = mVar n e h := rfl
@[simp] theorem mC_ap : mC w env h = .ok w h := rfl
@[simp ↓] theorem eBin_ap : eBin bo x y env h = mb (x env h) (kA y env (bop bo)) := rfl
@[simp ↓] theorem eCmp_ap : eCmp op x y env h = mb (x env h) (kA y env (cmp op)) := rfl
@[simp ↓] theorem eCmp2_ap : eCmp2 op op' x y z env h = mb (x env h) (kA y env (kC2 op op' z env)) := rfl
@[simp ↓] theorem tst_ap : tst x env h = mb (x env h) asB := rfl
@[simp ↓] theorem wI_eq {i : Int} : wI i = .d (.int i) := rfl
@[simp ↓] theorem wB_eq {b : Bool} : wB b = .d (.bool b) := rfl
@[simp ↓] theorem wS_eq {x : Str} : wS x = .d (.str x) := rfl
@[simp] theorem asB_ap' {b : Bool} : asB (.d (.bool b)) h = .ok b h := rfl
theorem ite_ap {α β : Type} {b : Prop} [Decidable b] {p q : α → β} {a : α} : (if b then p else q) a = if b then p a else q a := by split <;> rfl
@[simp ↓] theorem eAnd_ap : eAnd x y env h = mb (tst x env h) (kIf (y env) (mpure (wB false))) := rfl
@[simp ↓] theorem eOr_ap : eOr x y env h = mb (tst x env h) (kIf (mpure (wB true)) (y env)) := rfl
@[simp ↓] theorem eNot_ap : eNot x env h = mb (tst x env h) (kOk fun t => wB (!t)) := rfl
@[simp ↓] theorem eNeg_ap : eNeg x env h = mb (x env h) kNeg := rfl
@[simp ↓] theorem eIf_ap : eIf t x y env h = mb (t env h) (kIf (x env) (y env)) := rfl
@[simp ↓] theorem tAnd_ap : tAndM t u env h = mb (t env h) (kIf (u env) (mpure false)) := rfl
@[simp ↓] theorem tOr_ap : tOrM t u env h = mb (t env h) (kIf (mpure true) (u env)) := rfl
@[simp ↓] theorem tNot_ap : tNotM t env h = mb (t env h) (kOk not) := rfl
@[simp ↓] theorem aList_nil : aList [] env h = .ok [] h := rfl
@[simp ↓] theorem aList_cons {ms : List ME} : aList (x :: ms) env h = mb (x env h) (kL1 (aList ms) env) := rfl
@[simp ↓] theorem eTup_ap : eTup as env h = mb (as env h) kTup := rfl
@[simp ↓] theorem eLst_ap : eLst as env h = mb (as env h) kLst := rfl
@[simp ↓] theorem eLstD_ap : eLstD as env h = mb (as env h) kLstD := rfl
@[simp ↓] theorem eIx_ap : eIx x y env h = mb (x env h) (kA y env ixM) := rfl
@[simp ↓] theorem pNo_ap : pNo env h = .ok none h := rfl
@[simp ↓] theorem pSome_ap : pSome x env h = mb (x env h) kSo := rfl
@[simp] theorem asI_ap {i : Int} : asI (.d (.int i)) h = .ok i h := rfl
@[simp ↓] theorem eSl_ap : eSl x o o' env h = mb (x env h) (kS0 o o' env) := rfl
@[simp ↓] theorem eFmt_ap : eFmt x env h = mb (x env h) fmtM := rfl
@[simp ↓] theorem eFmtN_ap : eFmtN x env h = mb (x env h) fmtN := rfl
@[simp ↓] theorem joinM_nil {acc : Str} : joinM [] acc env h = .ok (wS acc) h := rfl
@[simp ↓] theorem joinM_cons {ms : List ME} {acc : Str} : joinM (x :: ms) acc env h = mb (x env h) (kJ1 ms acc env) := rfl
@[simp] theorem asS_ap {i : Str} : asS (.d (.str i)) h = .ok i h := rfl
@[simp ↓] theorem eFun_ap : eFun fn as env h = mb (as env h) fn := rfl
@[simp ↓] theorem eIsi_ap : eIsi x ty env h = mb (x env h) (isiM ty) := rfl
@[simp ↓] theorem eIsx_ap : eIsx T x f env h = mb (x env h) (isxM T f) := rfl
@[simp ↓] theorem eCall_ap : eCall CM fi as env h = mb (as env h) (CM fi) := rfl
@[simp ↓] theorem eCallV_ap : eCallV T CM i as env h = mb (mVar i env h) (kV T CM as env) := by unfold eCallV; rfl
@[simp ↓] theorem eNew_ap {ds : List W} : eNew CM f ds as env h = mb (as env h) (kNew CM f ds) := rfl
@[simp ↓] theorem eFld_ap : eFld x f env h = mb (x env h) (fldM f) := rfl
@[simp ↓] theorem eMeth_ap : eMeth T CM f x as env h = mb (x env h) (kM T CM f as env) := rfl
@[simp ↓] theorem eBM_ap : eBM bt q x as env h = mb (x env h) (kB bt q as env) := rfl
@[simp ↓] theorem sNil_ap : sNil env h = .ok (.nx env) h := rfl
@[simp ↓] theorem sBlock_nil : sBlock [] env h = .ok (.nx env) h := rfl
@[simp ↓] theorem sBlock_one : sBlock [s] env h = s env h := rfl
def fnext (s : MS) : Fl → M Fl
  | .nx e => s e
  | fl => mpure fl
@[simp] theorem fnext_nx : fnext s (.nx e) h = s e h := rfl
@[simp] theorem fnext_rt : fnext s (.rt w) h = .ok (.rt w) h := rfl
@[simp] theorem fnext_bk : fnext s (.bk e) h = .ok (.bk e) h := rfl
@[simp] theorem fnext_ct : fnext s (.ct e) h = .ok (.ct e) h := rfl
@[simp ↓] theorem sBlock_two {ss : List MS} : sBlock (s :: s' :: ss) env h = mb (s env h) (fnext (sBlock (s' :: ss))) := by
  show sSeq s (sBlock (s' :: ss)) env h = _
  unfold sSeq mbind mb
  cases s env h with
  | ok fl h' => cases fl <;> rfl
  | ex c h' => rfl
  | no => rfl
@[simp ↓] theorem sExpr_ap : sExpr x env h = mb (x env h) (kNx (.nx env)) := rfl
@[simp ↓] theorem sRet_ap : sRet x env h = mb (x env h) kRt := rfl
@[simp ↓] theorem sRetN_ap : sRetN env h = .ok (.rt (.d .none)) h := rfl
@[simp ↓] theorem sBreak_ap : sBreak env h = .ok (.bk env) h := rfl
@[simp ↓] theorem sCont_ap : sCont env h = .ok (.ct env) h := rfl
@[simp ↓] theorem sIf_ap : sIf t s s' env h = mb (t env h) (kIf (s env) (s' env)) := rfl
@[simp ↓] theorem sSet_ap : sSet i x env h = mb (x env h) (kSet i env) := rfl
@[simp ↓] theorem sRaise_ap : sRaise f env h = .ex f h := rfl
@[simp ↓] theorem sFor_ap : sFor tg mi s env h = mb (mi env h) (kFor tg s env) := rfl
@[simp ↓] theorem iVal_ap : iVal x env h = mb (x env h) srcM := rfl
@[simp ↓] theorem iFun_ap : iFun fs as env h = mb (as env h) fs := rfl
@[simp ↓] theorem sFldW_ap : sFldW f x y env h = mb (y env h) (kA x env (kF2 f env)) := rfl
@[simp ↓] theorem sIxW_ap : sIxW x y z env h = mb (z env h) (kA x env (kX1 y env)) := rfl
@[simp ↓] theorem sTgW_ap : sTgW tg x env h = mb (x env h) (kTg tg env) := rfl
@[simp ↓] theorem sPar_ap : sPar i j x y env h = mb (x env h) (kA y env (kP2 i j env)) := rfl
@[simp ↓] theorem sPar3_ap {l : Nat} : sPar3 i j l as env h = mb (as env h) (kPar3 i j l env) := rfl
@[simp ↓] theorem kPar3_ap {l : Nat} {a b c : W} : kPar3 i j l env [a, b, c] h = .ok (.nx (((env.set i (some a)).set j (some b)).set l (some c))) h := rfl
@[simp ↓] theorem sAug_ap : sAug i x env h = mb (mVar i env h) (kA x env (kG2 i env)) := rfl
@[simp ↓] theorem eLC_ap {el : ME} : eLC tg mi t el env h = mb (mi env h) (kLC tg t el env) := rfl
@[simp] theorem over_none {α : Type} {ws : List W} {f : List W → M α} : over (ws, none) f h = f ws h := rfl
@[simp ↓] theorem tTrue_ap : tTrue env h = .ok true h := rfl
@[simp ↓] theorem kA_ap {β : Type} {F : W → W → M β} : kA y env F w h = mb (y env h) (F w) := rfl
@[simp ↓] theorem kIf_t {β : Type} {p q : M β} : kIf p q true h = p h := rfl
@[simp ↓] theorem kIf_f {β : Type} {p q : M β} : kIf p q false h = q h := rfl
@[simp] theorem kOk_ap {β γ : Type} {g : β → γ} {b : β} : kOk g b h = .ok (g b) h := rfl
@[simp] theorem kNx_ap {β : Type} {fl : Fl} {b : β} : kNx fl b h = .ok fl h := rfl
@[simp ↓] theorem kC2_ap {a b : W} : kC2 op op' z env a b h = mb (cmp op a b h) (kC3 op' b z env) := rfl
@[simp ↓] theorem kC3_ap {b : W} {c : Bool} : kC3 op' b z env (.d (.bool c)) h = kC4 op' b z env c h := rfl
@[simp ↓] theorem kC4_t {b : W} : kC4 op' b z env true h = mb (z env h) (cmp op' b) := rfl
@[simp ↓] theorem kC4_f {b : W} : kC4 op' b z env false h = .ok (wB false) h := rfl
@[simp ↓] theorem kL1_ap {r : EnvW → M (List W)} : kL1 r env w h = mb (r env h) (kL2 w) := rfl
@[simp] theorem kL2_ap {ws : List W} : kL2 w ws h = .ok (w :: ws) h := rfl
@[simp] theorem kSo_ap {i : Int} : kSo (.d (.int i)) h = .ok (some i) h := rfl
@[simp ↓] theorem kS0_ap : kS0 o o' env w h = mb (o env h) (kS1 w o' env) := rfl
@[simp ↓] theorem kS1_ap {l : Option Int} : kS1 w o' env l h = mb (o' env h) (kS2 w l) := rfl
@[simp] theorem kS2_ap {l u : Option Int} : kS2 w l u h = slM w l u h := rfl
@[simp ↓] theorem kJ1_ap {ms : List ME} {acc y : Str} : kJ1 ms acc env (.d (.str y)) h = kJ2 ms acc env y h := rfl
@[simp ↓] theorem kV_ap (hn : T.nopos.contains (pl f) = false) : kV T CM as env (.fn f) h = mb (as env h) (CM (pl f)) := by
  show (if T.nopos.contains (pl f) = true then mno else mbind (as env) (CM (pl f))) h = _
  rw [hn]; rfl
@[simp ↓] theorem eLen_ap : eLen T CM x env h = mb (x env h) (kLen T CM) := rfl
@[simp ↓] theorem eLstRg_ap : eLstRg x env h = mb (x env h) lstRgM := rfl
@[simp ↓] theorem eSortK_ap : eSortK x env h = mb (x env h) sortKM := rfl
@[simp ↓] theorem eLenSet_ap : eLenSet x env h = mb (x env h) lenSetM := rfl
@[simp] theorem kLen_d {d : PyData} : kLen T CM (.d d) h = fLen [.d d] h := rfl
theorem kLen_l {ws : List W} (hi : h[i]? = some (.lst ws)) : kLen T CM (.r i) h = .ok (wI ws.length) h := by
  unfold kLen fLen; simp only [hi]
theorem eOut_ap {w : W} {h1 : AH} (hm : x env h = .ok w h1) : eOut x env h = outM h w h1 := by unfold eOut; rw [hm]
@[simp] theorem kM_ap : kM T CM f as env w h = methM T CM f w (as env) h := rfl
@[simp] theorem kRt_ap : kRt w h = .ok (.rt w) h := rfl
@[simp] theorem kSet_ap : kSet i env w h = .ok (.nx (env.set i (some w))) h := rfl
@[simp] theorem kFor_ap {ws : List W} : kFor tg s env (ws, none) h = floop tg s ws env h := rfl
@[simp ↓] theorem kF2_ap {a b : W} : kF2 f env b a h = mb (setFldM f a b h) (kNx (.nx env)) := rfl
@[simp ↓] theorem kX1_ap {v a : W} : kX1 y env v a h = mb (y env h) (kX2 env v a) := rfl
@[simp ↓] theorem kX2_ap {v a b : W} : kX2 env v a b h = mb (setIxM a b v h) (kNx (.nx env)) := rfl
@[simp] theorem kP2_ap {a b : W} : kP2 i j env a b h = .ok (.nx ((env.set i (some a)).set j (some b))) h := rfl
@[simp ↓] theorem kG2_ap {a b : W} : kG2 i env a b h = mb (iopM a b h) (kSet i env) := rfl
@[simp] theorem kRef_ap {u : Unit} : kRef n u h = .ok (.r n) h := rfl
@[simp] theorem kNeg_ap {i : Int} : kNeg (.d (.int i)) h = .ok (wI (-i)) h := rfl
end
/-! ### ends -/
theorem fine_app {h j : AH} : Fine h (h ++ j) := fun i o hi e => by
  rw [List.getElem?_append_left hi] at e; exact .inl e
theorem take_app {h j : AH} : (h ++ j).take h.length = h := by simp
theorem end_d {h j : AH} {x : PyData} : endM h (.ok (.rt (.d x)) (h ++ j)) = .ok (.d x) h := by
  show outM h (.d x) (h ++ j) = _
  unfold outM
  rw [if_pos (fineB_iff.mpr fine_app)]
  show R.ok (W.d x) ((h ++ j).take h.length) = _
  rw [take_app]
@[simp] theorem end_d0 {h : AH} {x : PyData} : endM h (.ok (.rt (.d x)) h) = .ok (.d x) h := by
  have := end_d (h := h) (j := []) (x := x)
  rwa [List.append_nil] at this
theorem end_nx {h j : AH} {e : EnvW} : endM h (.ok (.nx e) (h ++ j)) = .ok (.d .none) h := end_d
@[simp] theorem end_nx0 {h : AH} {e : EnvW} : endM h (.ok (.nx e) h) = .ok (.d .none) h := by
  have := end_nx (h := h) (j := []) (e := e)
  rwa [List.append_nil] at this
theorem end_ex {h j : AH} {c : Str} : endM h (.ex c (h ++ j)) = .ex c h := by
  unfold endM
  simp only
  rw [if_pos (fineB_iff.mpr fine_app), take_app]
@[simp] theorem end_ex0 {h : AH} {c : Str} : endM h (.ex c h) = .ex c h := by
  have := end_ex (h := h) (j := []) (c := c)
  rwa [List.append_nil] at this
theorem frzL_data {n : Nat} {h : AH} {k : Nat} : ∀ ds : List PyData, frzL n h k (ds.map .d) = some ds
  | [] => rfl
  | d :: ds => by
    have e1 : frz n h k (.d d) = some d := by cases k <;> simp [frz]
    simp only [List.map_cons, frzLw, e1, frzL_data ds]
/-- a new list of data comes back as data -/
theorem end_l {h j : AH} {i : Nat} {ds : List PyData} (hi : h.length ≤ i) (hj : (h ++ j)[i]? = some (.lst (ds.map .d))) : endM h (.ok (.rt (.r i)) (h ++ j)) = .ok (.d (.list ds)) h := by
  show outM h (.r i) (h ++ j) = _
  unfold outM
  rw [if_pos (fineB_iff.mpr fine_app)]
  have e : frzW h.length (h ++ j) (.r i) = some (.d (.list ds)) := by
    show (if i < h.length then some (W.r i) else (frz h.length (h ++ j) 4 (.r i)).map W.d) = _
    rw [if_neg (by omega)]
    have e3 : frz h.length (h ++ j) (3 + 1) (.r i) = some (.list ds) := by
      show (if h.length ≤ i then (match (h ++ j)[i]? with
        | some (.lst ws) => (frzLw (frz h.length (h ++ j) 3) ws).map PyData.list
        | some (.dic kvs) => (frzDw (frz h.length (h ++ j) 3) kvs).map PyData.dict
        | _ => none) else none) = _
      rw [if_pos hi, hj]
      show (frzL h.length (h ++ j) 3 (ds.map .d)).map PyData.list = _
      rw [frzL_data]; rfl
    rw [e3]; rfl
  rw [e]
  show R.ok _ ((h ++ j).take h.length) = _
  rw [take_app]
theorem end_l1 {h j : AH} {ds : List PyData} : endM h (.ok (.rt (.r h.length)) (h ++ (.lst (ds.map .d) :: j))) = .ok (.d (.list ds)) h := end_l (Nat.le_refl _) (by simp)
/-- one old object changed -/
theorem fine_set {h j : AH} {t : Nat} {o : AO} (ho : o.clos h.length) (ht : t < h.length) : Fine h (h.set t o ++ j) := fun i u hi e => by
  rw [List.getElem?_append_left (by rw [List.length_set]; exact hi)] at e
  by_cases q : t = i
  · subst q
    rw [List.getElem?_set_self ht] at e
    cases e; exact .inr ho
  · rw [List.getElem?_set_ne q] at e; exact .inl e
theorem end_set {h j : AH} {t : Nat} {o : AO} {x : PyData} (ho : o.clos h.length) (ht : t < h.length) : endM h (.ok (.rt (.d x)) (h.set t o ++ j)) = .ok (.d x) (h.set t o) := by
  show outM h (.d x) (h.set t o ++ j) = _
  unfold outM
  rw [if_pos (fineB_iff.mpr (fine_set ho ht))]
  show R.ok (W.d x) ((h.set t o ++ j).take h.length) = _
  rw [show (h.set t o ++ j).take h.length = h.set t o from by rw [← List.length_set (i := t) (a := o)]; simp]
theorem end_set0 {h : AH} {t : Nat} {o : AO} {x : PyData} (ho : o.clos h.length) (ht : t < h.length) : endM h (.ok (.rt (.d x)) (h.set t o)) = .ok (.d x) (h.set t o) := by
  have := end_set (j := []) (x := x) ho ht
  rwa [List.append_nil] at this
theorem clos_data {n : Nat} {ds : List PyData} : (AO.lst (ds.map .d)).clos n := fun w hw => by
  obtain ⟨d, _, rfl⟩ := List.mem_map.mp hw
  trivial
/-! ### comprehensions whose items change nothing -/
theorem lc_go {id : Nat} {t : Tg} {tt : EnvW → M Bool} {el : ME} {env : EnvW} {h : AH} {f : W → Option W} (hid : id = h.length) : ∀ (ws : List W) (acc : List W),
    (∀ w ∈ ws, ∀ acc : List W, ∃ e1, tgM t w env = some e1 ∧ (match f w with
      | some y => tt e1 (h ++ [.lst acc]) = .ok true (h ++ [.lst acc]) ∧ el e1 (h ++ [.lst acc]) = .ok y (h ++ [.lst acc])
      | none => tt e1 (h ++ [.lst acc]) = .ok false (h ++ [.lst acc]))) → acc.length + ws.length ≤ sizeLine →
    cLoop id t tt el ws env (h ++ [.lst acc]) = .ok () (h ++ [.lst (acc ++ ws.filterMap f)])
  | [], acc, _, _ => by simp [cLoop, mpure]
  | w :: ws, acc, hw, hl => by
    obtain ⟨e1, h1, h2⟩ := hw w (List.mem_cons_self ..) acc
    have ih := fun a hl => lc_go hid ws a (fun x hx => hw x (List.mem_cons_of_mem _ hx)) hl
    unfold cLoop
    rw [h1]
    simp only [mbind_ap]
    cases q : f w with
    | none =>
      rw [q] at h2
      simp only at h2
      rw [show noEx (tt e1) (h ++ [.lst acc]) = .ok false (h ++ [.lst acc]) from by unfold noEx; rw [h2]]
      simp only [mb_ok, Bool.false_eq_true, if_false]
      rw [ih acc (by simp at hl; omega), List.filterMap_cons, q]
    | some y =>
      rw [q] at h2
      simp only at h2
      rw [show noEx (tt e1) (h ++ [.lst acc]) = .ok true (h ++ [.lst acc]) from by unfold noEx; rw [h2.1]]
      simp only [mb_ok, if_true, mbind_ap]
      rw [show noEx (el e1) (h ++ [.lst acc]) = .ok y (h ++ [.lst acc]) from by unfold noEx; rw [h2.2]]
      simp only [mb_ok, mbind_ap]
      have e2 : pushM id y (h ++ [.lst acc]) = .ok () (h ++ [.lst (acc ++ [y])]) := by
        unfold pushM
        subst hid
        rw [show (h ++ [AO.lst acc])[h.length]? = some (.lst acc) from by simp]
        simp only
        rw [if_pos (by simp at hl; omega)]
        simp
      rw [e2]
      simp only [mb_ok]
      rw [ih (acc ++ [y]) (by simp at hl ⊢; omega), List.filterMap_cons, q]
      simp
/-- a comprehension over a source that is not locked -/
theorem lc_ap {t : Tg} {mi : EnvW → M Src} {tt : EnvW → M Bool} {el : ME} {env : EnvW} {h : AH} {f : W → Option W} {ws : List W} (hs : mi env h = .ok (ws, none) h) (hl : ws.length ≤ sizeLine)
    (hw : ∀ w ∈ ws, ∀ acc : List W, ∃ e1, tgM t w (wipeW env t.slots) = some e1 ∧ (match f w with
      | some y => tt e1 (h ++ [.lst acc]) = .ok true (h ++ [.lst acc]) ∧ el e1 (h ++ [.lst acc]) = .ok y (h ++ [.lst acc])
      | none => tt e1 (h ++ [.lst acc]) = .ok false (h ++ [.lst acc]))) :
    eLC t mi tt el env h = .ok (.r h.length) (h ++ [.lst (ws.filterMap f)]) := by
  rw [eLC_ap, hs, mb_ok]
  show mb (cLoop h.length t tt el ws (wipeW env t.slots) (h ++ [.lst []])) (kRef h.length) = _
  rw [lc_go rfl ws [] hw (by simpa using hl)]
  simp
/-- a comprehension over a list that is locked -/
theorem lc_lock {t : Tg} {mi : EnvW → M Src} {tt : EnvW → M Bool} {el : ME} {env : EnvW} {h : AH} {f : W → Option W} {ws : List W} {i : Nat} (hs : mi env h = .ok (ws, some i) h) (hi : h[i]? = some (.lst ws)) (hl : ws.length ≤ sizeLine)
    (hw : ∀ w ∈ ws, ∀ acc : List W, ∃ e1, tgM t w (wipeW env t.slots) = some e1 ∧ (match f w with
      | some y => tt e1 (h.set i .dead ++ [.lst acc]) = .ok true (h.set i .dead ++ [.lst acc]) ∧ el e1 (h.set i .dead ++ [.lst acc]) = .ok y (h.set i .dead ++ [.lst acc])
      | none => tt e1 (h.set i .dead ++ [.lst acc]) = .ok false (h.set i .dead ++ [.lst acc]))) :
    eLC t mi tt el env h = .ok (.r h.length) (h ++ [.lst (ws.filterMap f)]) := by
  rw [eLC_ap, hs, mb_ok]
  unfold kLC over
  simp only
  rw [lc_go rfl ws [] hw (by simpa using hl)]
  simp only [mb_ok, kRef_ap, List.length_set, List.nil_append]
  have hil : i < h.length := (List.getElem?_eq_some_iff.mp hi).1
  rw [List.set_append_left _ _ (by rw [List.length_set]; exact hil), List.set_set]
  congr 2
  exact List.set_getElem?_self hi
where
  List.set_getElem?_self {h : AH} {i : Nat} {o : AO} (hi : h[i]? = some o) : h.set i o = h := by
    obtain ⟨hl, e⟩ := List.getElem?_eq_some_iff.mp hi
    rw [← e]; simp
end Ev
set_option Elab.async false
set_option linter.all false
set_option maxRecDepth 100000
set_option maxHeartbeats 4000000
/-! E19: loops by the front. -/
namespace Ev
open PySem PySem.Spec PyProof.Rows L2 He
def kLoop (t : Tg) (b : MS) (ws : List W) (fl : Fl) : M Fl := match fl with
  | .nx e => floop t b ws e
  | .ct e => floop t b ws e
  | .bk e => mpure (.nx e)
  | .rt w => mpure (.rt w)
section
variable {t : Tg} {b : MS} {ws : List W} {w : W} {env e : EnvW} {h : AH} {i : Nat}
@[simp] theorem floop_nil : floop t b [] env h = .ok (.nx env) h := rfl
@[simp] theorem floop_n : floop (.n i) b (w :: ws) env h = mb (b (env.set i (some w)) h) (kLoop (.n i) b ws) := rfl
theorem floop_c {e1 : EnvW} (q : tgM t w env = some e1) : floop t b (w :: ws) env h = mb (b e1 h) (kLoop t b ws) := by
  show (match tgM t w env with
    | none => mno
    | some env1 => mbind (b env1) (kLoop t b ws)) h = _
  rw [q]; rfl
@[simp ↓] theorem kLoop_nx : kLoop t b ws (.nx e) h = floop t b ws e h := rfl
@[simp ↓] theorem kLoop_ct : kLoop t b ws (.ct e) h = floop t b ws e h := rfl
@[simp ↓] theorem kLoop_bk : kLoop t b ws (.bk e) h = .ok (.nx e) h := rfl
@[simp ↓] theorem kLoop_rt : kLoop t b ws (.rt w) h = .ok (.rt w) h := rfl
end
/-- a list item given back, old or changed in place -/
theorem end_ri {h j : AH} {i : Nat} {o : AO} (hi : i < h.length) (ho : o.clos h.length) : endM h (.ok (.rt (.r i)) (h.set i o ++ j)) = .ok (.r i) (h.set i o) := by
  show outM h (.r i) (h.set i o ++ j) = _
  unfold outM
  rw [if_pos (fineB_iff.mpr (fine_set ho hi))]
  have e : frzW h.length (h.set i o ++ j) (.r i) = some (.r i) := if_pos hi
  rw [e]
  show R.ok _ ((h.set i o ++ j).take h.length) = _
  rw [show (h.set i o ++ j).take h.length = h.set i o from by rw [← List.length_set (i := i) (a := o)]; simp]
theorem end_r0 {h j : AH} {i : Nat} (hi : i < h.length) : endM h (.ok (.rt (.r i)) (h ++ j)) = .ok (.r i) h := by
  show outM h (.r i) (h ++ j) = _
  unfold outM
  rw [if_pos (fineB_iff.mpr fine_app)]
  have e : frzW h.length (h ++ j) (.r i) = some (.r i) := if_pos hi
  rw [e]
  show R.ok _ ((h ++ j).take h.length) = _
  rw [take_app]
theorem end_r00 {h : AH} {i : Nat} (hi : i < h.length) : endM h (.ok (.rt (.r i)) h) = .ok (.r i) h := by
  have := end_r0 (j := []) hi
  rwa [List.append_nil] at this
end Ev
set_option Elab.async false
set_option linter.all false
set_option maxRecDepth 100000
set_option maxHeartbeats 400000
namespace Ev
open PySem PySem.Spec PyProof.Rows L2 He
theorem allD_map (ds : List PyData) : allD (ds.map .d) = some ds := by
  induction ds with
  | nil => rfl
  | cons d ds ih => simp [allD, ih]
theorem boolsD_map (bs : List Bool) : boolsD (bs.map PyData.bool) = some bs := by
  induction bs with
  | nil => rfl
  | cons d ds ih => simp [boolsD, ih]
theorem intsD_map (bs : List Int) : intsD (bs.map PyData.int) = some bs := by
  induction bs with
  | nil => rfl
  | cons d ds ih => simp [intsD, ih]
theorem strsD_map (bs : List Str) : strsD (bs.map PyData.str) = some bs := by
  induction bs with
  | nil => rfl
  | cons d ds ih => simp [strsD, ih]
theorem peek_last {h : AH} {ds : List PyData} : peek (h ++ [.lst (ds.map .d)]) (.r h.length) = some (.list ds) := by
  simp [peek, allD_map]
theorem listD_last {h : AH} {ds : List PyData} : listD (h ++ [.lst (ds.map .d)]) (.r h.length) = some ds := by
  simp [listD, peek_last]
theorem filterMap_some {α β : Type} (f : α → β) (l : List α) : l.filterMap (fun x => some (f x)) = l.map f := by
  induction l with
  | nil => rfl
  | cons a l ih => simp
theorem boolsMap {α : Type} (f : α → Bool) (l : List α) : boolsD (l.map fun x => PyData.bool (f x)) = some (l.map f) := by
  rw [← boolsD_map, List.map_map]; rfl
theorem canAll {xs : List PyData} (h : ∀ y ∈ xs, y.canLay0 = true) : PyData.canLayAll0 xs = true := by
  induction xs with
  | nil => rfl
  | cons x xs ih => simp [PyData.canLayAll0, h x (by simp), ih fun y hy => h y (by simp [hy])]
theorem depAll {n : Nat} {xs : List PyData} (h : ∀ y ∈ xs, y.depth ≤ n) : PyData.depthAll xs ≤ n := by
  induction xs with
  | nil => simp [PyData.depthAll]
  | cons x xs ih =>
    have h1 := h x (by simp)
    have h2 := ih fun y hy => h y (by simp [hy])
    simp only [PyData.depthAll]; omega
theorem sh_int {i : Int} : SeqAt.shaped (.int i) = true := by simp [SeqAt.shaped, PyData.canLay0, PyData.depth]
theorem sh_bool {i : Bool} : SeqAt.shaped (.bool i) = true := by simp [SeqAt.shaped, PyData.canLay0, PyData.depth]
theorem sh_q : SeqAt.shaped (.str "?") = true := by decide +kernel
theorem eqv_ii {i j : Int} : PyData.eqv (.int i) (.int j) = decide (i = j) := by simp [PyData.eqv]; exact Bool.beq_eq_decide_eq i j
theorem eqv_bb {i j : Bool} : PyData.eqv (.bool i) (.bool j) = (i == j) := by simp [PyData.eqv]
theorem eqv_ss {i j : Str} : PyData.eqv (.str i) (.str j) = (i == j) := by simp [PyData.eqv]
theorem at0 {α : Type} {a : α} {r : List α} : atI (a :: r) 0 = some a := by simp [atI, ixN]
theorem at1 {α : Type} {a b : α} {r : List α} : atI (a :: b :: r) 1 = some b := by
  have q : (1 : Int) < ((a :: b :: r).length : Int) := by simp; omega
  unfold atI ixN; rw [if_pos (by decide), if_pos q]; rfl
theorem cut1 {α : Type} {a : α} {r : List α} : cutL (a :: r) (some 1) none = r := by
  have e : HT.sIx (a :: r).length 0 (some 1) = 1 := by
    rw [show (1 : Int) = ((1 : Nat) : Int) from rfl, HT.sIx_nat]; simp
  unfold cutL
  rw [e, HT.sIx_none]
  simp
theorem eqv_nil {ds : List PyData} : PyData.eqv (.list ds) (.list []) = ds.isEmpty := by
  cases ds <;> simp [PyData.eqv, PyData.eqvAll]
def LI (is : List Int) : AO := .lst ((is.map PyData.int).map .d)
theorem set_same {h : AH} {i : Nat} {o : AO} (hi : h[i]? = some o) : h.set i o = h := by
  obtain ⟨hl, e⟩ := List.getElem?_eq_some_iff.mp hi
  rw [← e]; simp
theorem peek_LI {h : AH} {i : Nat} {is : List Int} (hi : h[i]? = some (LI is)) : peek h (.r i) = some (.list (is.map PyData.int)) := by
  simp only [peek, hi, LI, allD_map]; rfl
theorem any_int {i : Int} : ∀ is : List Int, ((is.map PyData.int).any fun y => PyData.eqv y (.int i)) = is.contains i
  | [] => rfl
  | j :: is => by
    have ih := any_int (i := i) is
    rw [List.map_cons, List.any_cons, ih, eqv_ii, List.contains_cons]
    congr 1
    rw [Bool.beq_eq_decide_eq]
    exact decide_eq_decide.mpr ⟨fun e => e.symm, fun e => e.symm⟩
theorem flat_ints (is : List Int) : (is.map PyData.int).all flatD = true := by
  rw [List.all_map]; exact List.all_eq_true.mpr fun _ _ => rfl
theorem in_LI {h : AH} {i : Nat} {is : List Int} {j : Int} {neg : Bool} (hi : h[i]? = some (LI is)) : cIn neg (.d (.int j)) (.r i) h = .ok (.d (.bool (if neg then !is.contains j else is.contains j))) h := by
  unfold cIn
  simp only [peek_LI hi]
  show (if (flatD (.int j) && (is.map PyData.int).all flatD) = true then R.ok (wB (if neg then !(is.map PyData.int).any fun y => PyData.eqv y (.int j) else (is.map PyData.int).any fun y => PyData.eqv y (.int j))) h else R.no) = _
  rw [if_pos (by rw [flat_ints]; rfl), any_int]; rfl
theorem clos_LI {n : Nat} {is : List Int} : (LI is).clos n := clos_data
def dI (is : List Int) : PyData := .list (is.map PyData.int)
theorem sh_ints {is : List Int} : SeqAt.shaped (dI is) = true := by
  have q1 : ∀ y ∈ is.map PyData.int, y.canLay0 = true := fun y hy => by
    obtain ⟨c, hc, rfl⟩ := List.mem_map.mp hy; rfl
  have q2 : ∀ y ∈ is.map PyData.int, y.depth ≤ 0 := fun y hy => by
    obtain ⟨c, hc, rfl⟩ := List.mem_map.mp hy
    simp [PyData.depth]
  have := depAll q2
  unfold SeqAt.shaped dI
  simp only [PyData.canLay0, canAll q1, PyData.depth, Bool.true_and]
  exact decide_eq_true (by omega)
theorem eqv_dI {is : List Int} : PyData.eqv (dI is) (dI is) = true := SeqAt.eqv_refl _ (by
  have := sh_ints (is := is)
  unfold SeqAt.shaped at this
  exact (Bool.and_eq_true_iff.mp this).1)
theorem eqv_dI_nil {is : List Int} : PyData.eqv (dI is) (.list []) = is.isEmpty := by
  unfold dI; rw [eqv_nil]; cases is <;> rfl
theorem sh_nil : SeqAt.shaped (.list []) = true := by decide +kernel
theorem bAdd_l {H : AH} {i j : Nat} {a b : List W} (h1 : H[i]? = some (.lst a)) (h2 : H[j]? = some (.lst b)) (hl : a.length + b.length ≤ sizeLine) : bAdd (.r i) (.r j) H = .ok (.r H.length) (H ++ [.lst (a ++ b)]) := by
  unfold bAdd; simp only [h1, h2, if_pos hl]
theorem kLst_ap {ws : List W} {h : AH} (hl : ws.length ≤ 1000) : kLst ws h = .ok (.r h.length) (h ++ [.lst ws]) := by
  unfold kLst; rw [if_pos (Nat.le_trans hl (by decide))]
theorem at_n {h l : AH} {i : Nat} : (h ++ l)[h.length + i]? = l[i]? := by
  rw [List.getElem?_append_right (by omega)]; simp
theorem at_l {h l : AH} : (h ++ l)[h.length]? = l[0]? := by
  rw [List.getElem?_append_right (Nat.le_refl _)]; simp
theorem at_l1 {h l : AH} : (h ++ l)[h.length + 1]? = l[1]? := by
  rw [List.getElem?_append_right (by omega)]; simp
theorem cpl4 {h : AH} {t : Nat} {o : AO} {l : AH} (ht : t < h.length) : (h ++ l).set t o = h.set t o ++ l := by
  rw [List.set_append_left _ _ ht]
theorem atI_get {α : Type} {xs : List α} {i : Int} (h0 : 0 ≤ i) (h1 : i < xs.length) : atI xs i = xs[i.toNat]? := by
  unfold atI ixN; rw [if_pos h0, if_pos h1]; rfl
theorem getD_int {ts : List Int} {p : Nat} (h : p < ts.length) : ((ts.map PyData.int).map W.d)[p]? = some (.d (.int (ts.getD p 0))) := by
  simp [h]
theorem ix_LI {h : AH} {t : Nat} {ts : List Int} {i : Int} (ht : h[t]? = some (LI ts)) (h0 : 0 ≤ i) (h1 : i < ts.length) : ixM (.r t) (.d (.int i)) h = .ok (.d (.int (ts.getD i.toNat 0))) h := by
  have e : atI ((ts.map PyData.int).map W.d) i = some (.d (.int (ts.getD i.toNat 0))) := by
    rw [atI_get h0 (by simpa using h1), getD_int (by omega)]
  unfold ixM
  have ht' : h[t]? = some (.lst ((ts.map PyData.int).map W.d)) := ht
  simp only [ht', e]
theorem ix_dI {h : AH} {ns : List Int} {i : Int} (h0 : 0 ≤ i) (h1 : i < ns.length) : ixM (.d (dI ns)) (.d (.int i)) h = .ok (.d (.int (ns.getD i.toNat 0))) h := by
  have e : atI (ns.map PyData.int) i = some (.int (ns.getD i.toNat 0)) := by
    rw [atI_get h0 (by simpa using h1)]
    have : i.toNat < ns.length := by omega
    simp [this]
  show (match atI (ns.map PyData.int) i with
    | some d => R.ok (W.d d) h
    | none => R.no) = _
  rw [e]
theorem set_LI {h : AH} {t : Nat} {ts : List Int} {i v : Int} (ht : h[t]? = some (LI ts)) (h0 : 0 ≤ i) (h1 : i < ts.length) : setIxM (.r t) (.d (.int i)) (.d (.int v)) h = .ok () (h.set t (LI (ts.set i.toNat v))) := by
  unfold setIxM
  have ht' : h[t]? = some (.lst ((ts.map PyData.int).map W.d)) := ht
  have e : ixN ((ts.map PyData.int).map W.d).length i = some i.toNat := by
    unfold ixN; rw [if_pos h0, if_pos (by simpa using h1)]
  simp only [ht', e]
  congr 2
  simp [LI, List.map_set]
structure Tw (ns : List Int) (c : Int) (ts : List Int) : Prop where
  len : ts.length = ns.length + 1
  lo : 0 ≤ ts.getD 0 0
  hi : ts.getD 0 0 ≤ c
theorem Tw.up {ns ts : List Int} {c c' : Int} (T : Tw ns c ts) (h : c ≤ c') : Tw ns c' ts := ⟨T.len, T.lo, by have := T.hi; omega⟩
end Ev
set_option Elab.async false
set_option linter.all false
set_option maxRecDepth 100000
set_option maxHeartbeats 0
namespace Ev
open PySem PySem.Spec PyProof.Rows L2 He
abbrev PROG : Program := PySem.Challenge.pw_toldnames_k11_whole_common
abbrev ROW : PySem.W.OpenLaw := PySem.Challenge.rw_toldnames_k11_whole_common
def topS (i : Nat) : Stmt := PROG.main.body.getD i (.Pass ⟨0, 0, 0, 0⟩)
def topM (i j : Nat) : Stmt := match topS i with
  | .ClassDef _ _ _ b _ _ _ _ _ _ _ => b.getD j (.Pass ⟨0, 0, 0, 0⟩)
  | _ => .Pass ⟨0, 0, 0, 0⟩
def TT : Tb where
  defs := (["_law_draw", "_law_fill", "_law_is_name", "_law_is_tree", "_law_loose", "_law_names", "_law_pick", "_law_shown", "_law_term", "_law_town", "alike", "common", "common_of", "count_parts", "covers", "fit_to", "fits", "is_int", "is_name", "is_term"] : List Str) ++ (["is_tree", "is_word", "law", "look_term"] : List Str)
  clss := []
  excs := ["ToldError", "BadTerm"]
  cons := [("LETTERS", .str "abcdefghijklmnopqrstuvwxyz"), ("MOST_PARTS", .int 300)]
  free := ["LookupError", "all", "bool", "int", "isinstance", "len", "list", "range", "str", "tuple", "zip"]
  flds := []
  meths := []
  sups := [("ToldError", ["ToldError", "LookupError"]), ("BadTerm", ["BadTerm", "ToldError", "LookupError"])]
  xt := []
  dnames := []
  dfls := []
def e_is_int : Ent := { id := ("", "is_int"), st := topS 6, N := ["thing"], ps := ["thing"], name := "is_int", qual := "is_int" }
theorem g_is_int : e_is_int.good TT := ⟨⟨rfl, rfl, rfl, by decide +kernel, rfl, by decide +kernel, by decide +kernel⟩, fun _ K a fd F => FunD.bindsN F fun _ _ _ _ _ _ us hl => match us, hl with | [_], _ => rfl, no_look (by decide +kernel), no_look (by decide +kernel)⟩
def e_is_word : Ent := { id := ("", "is_word"), st := topS 7, N := ["thing", "sign"], ps := ["thing"], name := "is_word", qual := "is_word" }
theorem g_is_word : e_is_word.good TT := ⟨⟨rfl, rfl, rfl, by decide +kernel, rfl, by decide +kernel, by decide +kernel⟩, fun _ K a fd F => FunD.bindsN F fun _ _ _ _ _ _ us hl => match us, hl with | [_], _ => rfl, no_look (by decide +kernel), no_look (by decide +kernel)⟩
def e_is_name : Ent := { id := ("", "is_name"), st := topS 8, N := ["thing"], ps := ["thing"], name := "is_name", qual := "is_name" }
theorem g_is_name : e_is_name.good TT := ⟨⟨rfl, rfl, rfl, by decide +kernel, rfl, by decide +kernel, by decide +kernel⟩, fun _ K a fd F => FunD.bindsN F fun _ _ _ _ _ _ us hl => match us, hl with | [_], _ => rfl, no_look (by decide +kernel), no_look (by decide +kernel)⟩
def e_count_parts : Ent := { id := ("", "count_parts"), st := topS 9, N := ["thing", "is_leaf", "found", "one"], ps := ["thing", "is_leaf"], name := "count_parts", qual := "count_parts" }
theorem g_count_parts : e_count_parts.good TT := ⟨⟨rfl, rfl, rfl, by decide +kernel, rfl, by decide +kernel, by decide +kernel⟩, fun _ K a fd F => FunD.bindsN F fun _ _ _ _ _ _ us hl => match us, hl with | [_, _], _ => rfl, no_look (by decide +kernel), no_look (by decide +kernel)⟩
def e_is_term : Ent := { id := ("", "is_term"), st := topS 10, N := ["thing"], ps := ["thing"], name := "is_term", qual := "is_term" }
theorem g_is_term : e_is_term.good TT := ⟨⟨rfl, rfl, rfl, by decide +kernel, rfl, by decide +kernel, by decide +kernel⟩, fun _ K a fd F => FunD.bindsN F fun _ _ _ _ _ _ us hl => match us, hl with | [_], _ => rfl, no_look (by decide +kernel), no_look (by decide +kernel)⟩
def e_look_term : Ent := { id := ("", "look_term"), st := topS 11, N := ["term"], ps := ["term"], name := "look_term", qual := "look_term" }
theorem g_look_term : e_look_term.good TT := ⟨⟨rfl, rfl, rfl, by decide +kernel, rfl, by decide +kernel, by decide +kernel⟩, fun _ K a fd F => FunD.bindsN F fun _ _ _ _ _ _ us hl => match us, hl with | [_], _ => rfl, no_look (by decide +kernel), no_look (by decide +kernel)⟩
def e_is_tree : Ent := { id := ("", "is_tree"), st := topS 12, N := ["term"], ps := ["term"], name := "is_tree", qual := "is_tree" }
theorem g_is_tree : e_is_tree.good TT := ⟨⟨rfl, rfl, rfl, by decide +kernel, rfl, by decide +kernel, by decide +kernel⟩, fun _ K a fd F => FunD.bindsN F fun _ _ _ _ _ _ us hl => match us, hl with | [_], _ => rfl, no_look (by decide +kernel), no_look (by decide +kernel)⟩
def e_fit_to : Ent := { id := ("", "fit_to"), st := topS 14, N := ["one", "other", "found", "a", "b"], ps := ["one", "other", "found"], name := "fit_to", qual := "fit_to" }
theorem g_fit_to : e_fit_to.good TT := ⟨⟨rfl, rfl, rfl, by decide +kernel, rfl, by decide +kernel, by decide +kernel⟩, fun _ K a fd F => FunD.bindsN F fun _ _ _ _ _ _ us hl => match us, hl with | [_, _, _], _ => rfl, no_look (by decide +kernel), no_look (by decide +kernel)⟩
def e_fits : Ent := { id := ("", "fits"), st := topS 15, N := ["one", "other", "found"], ps := ["one", "other"], name := "fits", qual := "fits" }
theorem g_fits : e_fits.good TT := ⟨⟨rfl, rfl, rfl, by decide +kernel, rfl, by decide +kernel, by decide +kernel⟩, fun _ K a fd F => FunD.bindsN F fun _ _ _ _ _ _ us hl => match us, hl with | [_, _], _ => rfl, no_look (by decide +kernel), no_look (by decide +kernel)⟩
def e_covers : Ent := { id := ("", "covers"), st := topS 16, N := ["one", "other"], ps := ["one", "other"], name := "covers", qual := "covers" }
theorem g_covers : e_covers.good TT := ⟨⟨rfl, rfl, rfl, by decide +kernel, rfl, by decide +kernel, by decide +kernel⟩, fun _ K a fd F => FunD.bindsN F fun _ _ _ _ _ _ us hl => match us, hl with | [_, _], _ => rfl, no_look (by decide +kernel), no_look (by decide +kernel)⟩
def e_alike : Ent := { id := ("", "alike"), st := topS 17, N := ["one", "other"], ps := ["one", "other"], name := "alike", qual := "alike" }
theorem g_alike : e_alike.good TT := ⟨⟨rfl, rfl, rfl, by decide +kernel, rfl, by decide +kernel, by decide +kernel⟩, fun _ K a fd F => FunD.bindsN F fun _ _ _ _ _ _ us hl => match us, hl with | [_, _], _ => rfl, no_look (by decide +kernel), no_look (by decide +kernel)⟩
def e_common_of : Ent := { id := ("", "common_of"), st := topS 18, N := ["one", "other", "known", "a", "b"], ps := ["one", "other", "known"], name := "common_of", qual := "common_of" }
theorem g_common_of : e_common_of.good TT := ⟨⟨rfl, rfl, rfl, by decide +kernel, rfl, by decide +kernel, by decide +kernel⟩, fun _ K a fd F => FunD.bindsN F fun _ _ _ _ _ _ us hl => match us, hl with | [_, _, _], _ => rfl, no_look (by decide +kernel), no_look (by decide +kernel)⟩
def e_common : Ent := { id := ("", "common"), st := topS 19, N := ["one", "other"], ps := ["one", "other"], name := "common", qual := "common" }
theorem g_common : e_common.good TT := ⟨⟨rfl, rfl, rfl, by decide +kernel, rfl, by decide +kernel, by decide +kernel⟩, fun _ K a fd F => FunD.bindsN F fun _ _ _ _ _ _ us hl => match us, hl with | [_, _], _ => rfl, no_look (by decide +kernel), no_look (by decide +kernel)⟩
def e_law_town : Ent := { id := ("", "_law_town"), st := topS 21, N := ["script"], ps := ["script"], name := "_law_town", qual := "_law_town", keep := true }
theorem g_law_town : e_law_town.good TT := ⟨⟨rfl, rfl, rfl, by decide +kernel, rfl, by decide +kernel, by decide +kernel⟩, fun _ K a fd F => FunD.bindsN F fun _ _ _ _ _ _ us hl => match us, hl with | [_], _ => rfl, no_look (by decide +kernel), no_look (by decide +kernel)⟩
def e_law_draw : Ent := { id := ("", "_law_draw"), st := topS 22, N := ["script", "town", "many", "at", "left", "number"], ps := ["script", "town", "many"], name := "_law_draw", qual := "_law_draw" }
theorem g_law_draw : e_law_draw.good TT := ⟨⟨rfl, rfl, rfl, by decide +kernel, rfl, by decide +kernel, by decide +kernel⟩, fun _ K a fd F => FunD.bindsN F fun _ _ _ _ _ _ us hl => match us, hl with | [_, _, _], _ => rfl, no_look (by decide +kernel), no_look (by decide +kernel)⟩
def e_law_pick : Ent := { id := ("", "_law_pick"), st := topS 23, N := ["script", "town", "some"], ps := ["script", "town", "some"], name := "_law_pick", qual := "_law_pick" }
theorem g_law_pick : e_law_pick.good TT := ⟨⟨rfl, rfl, rfl, by decide +kernel, rfl, by decide +kernel, by decide +kernel⟩, fun _ K a fd F => FunD.bindsN F fun _ _ _ _ _ _ us hl => match us, hl with | [_, _, _], _ => rfl, no_look (by decide +kernel), no_look (by decide +kernel)⟩
def e_law_term : Ent := { id := ("", "_law_term"), st := topS 24, N := ["script", "town", "deep", "many", "way", "found", "k"], ps := ["script", "town", "deep", "many"], name := "_law_term", qual := "_law_term" }
theorem g_law_term : e_law_term.good TT := ⟨⟨rfl, rfl, rfl, by decide +kernel, rfl, by decide +kernel, by decide +kernel⟩, fun _ K a fd F => FunD.bindsN F fun _ _ _ _ _ _ us hl => match us, hl with | [_, _, _, _], _ => rfl, no_look (by decide +kernel), no_look (by decide +kernel)⟩
def e_law_is_name : Ent := { id := ("", "_law_is_name"), st := topS 25, N := ["term"], ps := ["term"], name := "_law_is_name", qual := "_law_is_name" }
theorem g_law_is_name : e_law_is_name.good TT := ⟨⟨rfl, rfl, rfl, by decide +kernel, rfl, by decide +kernel, by decide +kernel⟩, fun _ K a fd F => FunD.bindsN F fun _ _ _ _ _ _ us hl => match us, hl with | [_], _ => rfl, no_look (by decide +kernel), no_look (by decide +kernel)⟩
def e_law_is_tree : Ent := { id := ("", "_law_is_tree"), st := topS 26, N := ["term"], ps := ["term"], name := "_law_is_tree", qual := "_law_is_tree" }
theorem g_law_is_tree : e_law_is_tree.good TT := ⟨⟨rfl, rfl, rfl, by decide +kernel, rfl, by decide +kernel, by decide +kernel⟩, fun _ K a fd F => FunD.bindsN F fun _ _ _ _ _ _ us hl => match us, hl with | [_], _ => rfl, no_look (by decide +kernel), no_look (by decide +kernel)⟩
def e_law_names : Ent := { id := ("", "_law_names"), st := topS 27, N := ["term", "found", "one", "number"], ps := ["term"], name := "_law_names", qual := "_law_names" }
theorem g_law_names : e_law_names.good TT := ⟨⟨rfl, rfl, rfl, by decide +kernel, rfl, by decide +kernel, by decide +kernel⟩, fun _ K a fd F => FunD.bindsN F fun _ _ _ _ _ _ us hl => match us, hl with | [_], _ => rfl, no_look (by decide +kernel), no_look (by decide +kernel)⟩
def e_law_fill : Ent := { id := ("", "_law_fill"), st := topS 28, N := ["term", "table", "one"], ps := ["term", "table"], name := "_law_fill", qual := "_law_fill" }
theorem g_law_fill : e_law_fill.good TT := ⟨⟨rfl, rfl, rfl, by decide +kernel, rfl, by decide +kernel, by decide +kernel⟩, fun _ K a fd F => FunD.bindsN F fun _ _ _ _ _ _ us hl => match us, hl with | [_, _], _ => rfl, no_look (by decide +kernel), no_look (by decide +kernel)⟩
def e_law_shown : Ent := { id := ("", "_law_shown"), st := topS 29, N := ["thing"], ps := ["thing"], name := "_law_shown", qual := "_law_shown" }
theorem g_law_shown : e_law_shown.good TT := ⟨⟨rfl, rfl, rfl, by decide +kernel, rfl, by decide +kernel, by decide +kernel⟩, fun _ K a fd F => FunD.bindsN F fun _ _ _ _ _ _ us hl => match us, hl with | [_], _ => rfl, no_look (by decide +kernel), no_look (by decide +kernel)⟩
def e_law_loose : Ent := { id := ("", "_law_loose"), st := topS 30, N := ["script", "town", "term", "some", "one"], ps := ["script", "town", "term", "some"], name := "_law_loose", qual := "_law_loose" }
theorem g_law_loose : e_law_loose.good TT := ⟨⟨rfl, rfl, rfl, by decide +kernel, rfl, by decide +kernel, by decide +kernel⟩, fun _ K a fd F => FunD.bindsN F fun _ _ _ _ _ _ us hl => match us, hl with | [_, _, _, _], _ => rfl, no_look (by decide +kernel), no_look (by decide +kernel)⟩
def e_law : Ent := { id := ("", "law"), st := topS 31, N := ["script", "town", "base", "one", "two", "told", "some", "k", "third"], ps := ["script"], name := "law", qual := "law" }
theorem g_law : e_law.good TT := ⟨⟨rfl, rfl, rfl, by decide +kernel, rfl, by decide +kernel, by decide +kernel⟩, fun _ K a fd F => FunD.bindsN F fun _ _ _ _ _ _ us hl => match us, hl with | [_], _ => rfl, no_look (by decide +kernel), no_look (by decide +kernel)⟩
def ents : List Ent := [e_is_int, e_is_word, e_is_name, e_count_parts, e_is_term, e_look_term, e_is_tree, e_fit_to, e_fits, e_covers, e_alike, e_common_of, e_common, e_law_town, e_law_draw, e_law_pick, e_law_term, e_law_is_name, e_law_is_tree, e_law_names, e_law_fill, e_law_shown, e_law_loose, e_law]
theorem goods : AllG TT ents := ⟨g_is_int, g_is_word, g_is_name, g_count_parts, g_is_term, g_look_term, g_is_tree, g_fit_to, g_fits, g_covers, g_alike, g_common_of, g_common, g_law_town, g_law_draw, g_law_pick, g_law_term, g_law_is_name, g_law_is_tree, g_law_names, g_law_fill, g_law_shown, g_law_loose, g_law, trivial⟩
def hd : Hd := ⟨TT, ents, [], ["ToldError", "BadTerm"]⟩
end Ev
set_option Elab.async false
set_option linter.all false
set_option maxRecDepth 100000
set_option maxHeartbeats 0
namespace Ev
open PySem PySem.Spec PyProof.Rows L2 He
noncomputable def call (k : Nat) : FId → List W → M W := callM TT (lookE ents) 40 k
noncomputable def t_is_int (CM : FId → List W → M W) : MS := sBlock [sRet (eAnd (eIsi (mVar 0) "int") (eNot (eIsi (mVar 0) "bool")))]
theorem l_is_int : lookE ents (pl "is_int") = some e_is_int.i := by rfl
theorem b_is_int (CM : FId → List W → M W) : blk (ev TT CM 40) e_is_int.i.sc e_is_int.i.body = t_is_int CM := by rfl
theorem c_is_int {k : Nat} {w0 : W} {h : AH} : call (k + 1) (pl "is_int") [w0] h = endM h (t_is_int (call k) [some w0] h) := by
  exact (callM_at l_is_int rfl).trans (by rw [b_is_int]; rfl)
noncomputable def t_is_word (CM : FId → List W → M W) : MS := sBlock [sRet (eAnd (eIsi (mVar 0) "str") (eAnd (eCmp2 .LtE .LtE (mC (.d (.int 1))) (eLen TT CM (mVar 0)) (mC (.d (.int 8)))) (eFun fAll (aList [eOut (eLC (.n 1) (iVal (mVar 0)) tTrue (eCmp .In (mVar 1) (mC (.d (.str "abcdefghijklmnopqrstuvwxyz")))))]))))]
theorem l_is_word : lookE ents (pl "is_word") = some e_is_word.i := by rfl
theorem b_is_word (CM : FId → List W → M W) : blk (ev TT CM 40) e_is_word.i.sc e_is_word.i.body = t_is_word CM := by rfl
theorem c_is_word {k : Nat} {w0 : W} {h : AH} : call (k + 1) (pl "is_word") [w0] h = endM h (t_is_word (call k) [some w0, none] h) := by
  exact (callM_at l_is_word rfl).trans (by rw [b_is_word]; rfl)
noncomputable def t_is_name (CM : FId → List W → M W) : MS := sBlock [sRet (eAnd (eIsi (mVar 0) "tuple") (eAnd (eCmp .Eq (eLen TT CM (mVar 0)) (mC (.d (.int 2)))) (eAnd (eCmp .Eq (eIx (mVar 0) (mC (.d (.int 0)))) (mC (.d (.str "?")))) (eAnd (eCall CM (pl "is_int") (aList [eIx (mVar 0) (mC (.d (.int 1)))])) (eCmp .GtE (eIx (mVar 0) (mC (.d (.int 1)))) (mC (.d (.int 0))))))))]
theorem l_is_name : lookE ents (pl "is_name") = some e_is_name.i := by rfl
theorem b_is_name (CM : FId → List W → M W) : blk (ev TT CM 40) e_is_name.i.sc e_is_name.i.body = t_is_name CM := by rfl
theorem c_is_name {k : Nat} {w0 : W} {h : AH} : call (k + 1) (pl "is_name") [w0] h = endM h (t_is_name (call k) [some w0] h) := by
  exact (callM_at l_is_name rfl).trans (by rw [b_is_name]; rfl)
noncomputable def t_count_parts (CM : FId → List W → M W) : MS := sBlock [sIf (tOrM (tst (eCall CM (pl "is_int") (aList [mVar 0]))) (tOrM (tst (eCall CM (pl "is_word") (aList [mVar 0]))) (tst (eCallV TT CM 1 (aList [mVar 0]))))) (sBlock [sRet (mC (.d (.int 1)))]) (sBlock []), sIf (tOrM (tNotM (tst (eIsi (mVar 0) "tuple"))) (tOrM (tNotM (tst (eCmp2 .LtE .LtE (mC (.d (.int 2))) (eLen TT CM (mVar 0)) (mC (.d (.int 5)))))) (tNotM (tst (eCall CM (pl "is_word") (aList [eIx (mVar 0) (mC (.d (.int 0)))])))))) (sBlock [sRet (eBin .Add (mC (.d (.int 300))) (mC (.d (.int 1))))]) (sBlock []), sSet 2 (mC (.d (.int 1))), sFor (.n 3) (iVal (eSl (mVar 0) (pSome (mC (.d (.int 1)))) pNo)) (sBlock [sAug 2 (eCall CM (pl "count_parts") (aList [mVar 3, mVar 1])), sIf (tst (eCmp .Gt (mVar 2) (mC (.d (.int 300))))) (sBlock [sRet (mVar 2)]) (sBlock [])]), sRet (mVar 2)]
theorem l_count_parts : lookE ents (pl "count_parts") = some e_count_parts.i := by rfl
theorem b_count_parts (CM : FId → List W → M W) : blk (ev TT CM 40) e_count_parts.i.sc e_count_parts.i.body = t_count_parts CM := by rfl
theorem c_count_parts {k : Nat} {w0 w1 : W} {h : AH} : call (k + 1) (pl "count_parts") [w0, w1] h = endM h (t_count_parts (call k) [some w0, some w1, none, none] h) := by
  exact (callM_at l_count_parts rfl).trans (by rw [b_count_parts]; rfl)
noncomputable def t_is_term (CM : FId → List W → M W) : MS := sBlock [sRet (eCmp .LtE (eCall CM (pl "count_parts") (aList [mVar 0, mC (.fn "is_name")])) (mC (.d (.int 300))))]
theorem l_is_term : lookE ents (pl "is_term") = some e_is_term.i := by rfl
theorem b_is_term (CM : FId → List W → M W) : blk (ev TT CM 40) e_is_term.i.sc e_is_term.i.body = t_is_term CM := by rfl
theorem c_is_term {k : Nat} {w0 : W} {h : AH} : call (k + 1) (pl "is_term") [w0] h = endM h (t_is_term (call k) [some w0] h) := by
  exact (callM_at l_is_term rfl).trans (by rw [b_is_term]; rfl)
noncomputable def t_look_term (CM : FId → List W → M W) : MS := sBlock [sIf (tNotM (tst (eCall CM (pl "is_term") (aList [mVar 0])))) (sBlock [sRaise "BadTerm"]) (sBlock [])]
theorem l_look_term : lookE ents (pl "look_term") = some e_look_term.i := by rfl
theorem b_look_term (CM : FId → List W → M W) : blk (ev TT CM 40) e_look_term.i.sc e_look_term.i.body = t_look_term CM := by rfl
theorem c_look_term {k : Nat} {w0 : W} {h : AH} : call (k + 1) (pl "look_term") [w0] h = endM h (t_look_term (call k) [some w0] h) := by
  exact (callM_at l_look_term rfl).trans (by rw [b_look_term]; rfl)
noncomputable def t_is_tree (CM : FId → List W → M W) : MS := sBlock [sRet (eAnd (eIsi (mVar 0) "tuple") (eCmp .NotEq (eIx (mVar 0) (mC (.d (.int 0)))) (mC (.d (.str "?")))))]
theorem l_is_tree : lookE ents (pl "is_tree") = some e_is_tree.i := by rfl
theorem b_is_tree (CM : FId → List W → M W) : blk (ev TT CM 40) e_is_tree.i.sc e_is_tree.i.body = t_is_tree CM := by rfl
theorem c_is_tree {k : Nat} {w0 : W} {h : AH} : call (k + 1) (pl "is_tree") [w0] h = endM h (t_is_tree (call k) [some w0] h) := by
  exact (callM_at l_is_tree rfl).trans (by rw [b_is_tree]; rfl)
noncomputable def t_fit_to (CM : FId → List W → M W) : MS := sBlock [sIf (tst (eCall CM (pl "is_name") (aList [mVar 0]))) (sBlock [sIf (tst (eCmp .In (eIx (mVar 0) (mC (.d (.int 1)))) (mVar 2))) (sBlock [sRet (eCmp .Eq (eIx (mVar 2) (eIx (mVar 0) (mC (.d (.int 1))))) (mVar 1))]) (sBlock []), sIxW (mVar 2) (eIx (mVar 0) (mC (.d (.int 1)))) (mVar 1), sRet (mC (.d (.bool true)))]) (sBlock []), sIf (tOrM (tNotM (tst (eCall CM (pl "is_tree") (aList [mVar 0])))) (tNotM (tst (eCall CM (pl "is_tree") (aList [mVar 1]))))) (sBlock [sRet (eCmp .Eq (mVar 0) (mVar 1))]) (sBlock []), sIf (tOrM (tst (eCmp .NotEq (eIx (mVar 0) (mC (.d (.int 0)))) (eIx (mVar 1) (mC (.d (.int 0)))))) (tst (eCmp .NotEq (eLen TT CM (mVar 0)) (eLen TT CM (mVar 1))))) (sBlock [sRet (mC (.d (.bool false)))]) (sBlock []), sRet (eFun fAll (aList [eOut (eLC (.t [3, 4]) (iFun zipM (aList [eSl (mVar 0) (pSome (mC (.d (.int 1)))) pNo, eSl (mVar 1) (pSome (mC (.d (.int 1)))) pNo])) tTrue (eCall CM (pl "fit_to") (aList [mVar 3, mVar 4, mVar 2])))]))]
theorem l_fit_to : lookE ents (pl "fit_to") = some e_fit_to.i := by rfl
theorem b_fit_to (CM : FId → List W → M W) : blk (ev TT CM 40) e_fit_to.i.sc e_fit_to.i.body = t_fit_to CM := by rfl
theorem c_fit_to {k : Nat} {w0 w1 w2 : W} {h : AH} : call (k + 1) (pl "fit_to") [w0, w1, w2] h = endM h (t_fit_to (call k) [some w0, some w1, some w2, none, none] h) := by
  exact (callM_at l_fit_to rfl).trans (by rw [b_fit_to]; rfl)
noncomputable def t_fits (CM : FId → List W → M W) : MS := sBlock [sExpr (eCall CM (pl "look_term") (aList [mVar 0])), sExpr (eCall CM (pl "look_term") (aList [mVar 1])), sSet 2 (eDict0), sRet (eIf (tst (eCall CM (pl "fit_to") (aList [mVar 0, mVar 1, mVar 2]))) (mVar 2) (mC (.d (.none))))]
theorem l_fits : lookE ents (pl "fits") = some e_fits.i := by rfl
theorem b_fits (CM : FId → List W → M W) : blk (ev TT CM 40) e_fits.i.sc e_fits.i.body = t_fits CM := by rfl
theorem c_fits {k : Nat} {w0 w1 : W} {h : AH} : call (k + 1) (pl "fits") [w0, w1] h = endM h (t_fits (call k) [some w0, some w1, none] h) := by
  exact (callM_at l_fits rfl).trans (by rw [b_fits]; rfl)
noncomputable def t_covers (CM : FId → List W → M W) : MS := sBlock [sRet (eCmp .IsNot (eCall CM (pl "fits") (aList [mVar 0, mVar 1])) (mC (.d (.none))))]
theorem l_covers : lookE ents (pl "covers") = some e_covers.i := by rfl
theorem b_covers (CM : FId → List W → M W) : blk (ev TT CM 40) e_covers.i.sc e_covers.i.body = t_covers CM := by rfl
theorem c_covers {k : Nat} {w0 w1 : W} {h : AH} : call (k + 1) (pl "covers") [w0, w1] h = endM h (t_covers (call k) [some w0, some w1] h) := by
  exact (callM_at l_covers rfl).trans (by rw [b_covers]; rfl)
noncomputable def t_alike (CM : FId → List W → M W) : MS := sBlock [sRet (eAnd (eCall CM (pl "covers") (aList [mVar 0, mVar 1])) (eCall CM (pl "covers") (aList [mVar 1, mVar 0])))]
theorem l_alike : lookE ents (pl "alike") = some e_alike.i := by rfl
theorem b_alike (CM : FId → List W → M W) : blk (ev TT CM 40) e_alike.i.sc e_alike.i.body = t_alike CM := by rfl
theorem c_alike {k : Nat} {w0 w1 : W} {h : AH} : call (k + 1) (pl "alike") [w0, w1] h = endM h (t_alike (call k) [some w0, some w1] h) := by
  exact (callM_at l_alike rfl).trans (by rw [b_alike]; rfl)
noncomputable def t_common_of (CM : FId → List W → M W) : MS := sBlock [sIf (tAndM (tNotM (tst (eCall CM (pl "is_name") (aList [mVar 0])))) (tAndM (tst (eCmp .Eq (mVar 0) (mVar 1))) (tNotM (tst (eCall CM (pl "is_tree") (aList [mVar 0])))))) (sBlock [sRet (mVar 0)]) (sBlock []), sIf (tAndM (tst (eCall CM (pl "is_tree") (aList [mVar 0]))) (tAndM (tst (eCall CM (pl "is_tree") (aList [mVar 1]))) (tAndM (tst (eCmp .Eq (eIx (mVar 0) (mC (.d (.int 0)))) (eIx (mVar 1) (mC (.d (.int 0)))))) (tst (eCmp .Eq (eLen TT CM (mVar 0)) (eLen TT CM (mVar 1))))))) (sBlock [sRet (eBin .Add (eTup (aList [eIx (mVar 0) (mC (.d (.int 0)))])) (eFun fTuple (aList [eOut (eLC (.t [3, 4]) (iFun zipM (aList [eSl (mVar 0) (pSome (mC (.d (.int 1)))) pNo, eSl (mVar 1) (pSome (mC (.d (.int 1)))) pNo])) tTrue (eCall CM (pl "common_of") (aList [mVar 3, mVar 4, mVar 2])))])))]) (sBlock []), sIf (tst (eCmp .NotIn (eTup (aList [mVar 0, mVar 1])) (mVar 2))) (sBlock [sIxW (mVar 2) (eTup (aList [mVar 0, mVar 1])) (eTup (aList [mC (.d (.str "?")), eLen TT CM (mVar 2)]))]) (sBlock []), sRet (eIx (mVar 2) (eTup (aList [mVar 0, mVar 1])))]
theorem l_common_of : lookE ents (pl "common_of") = some e_common_of.i := by rfl
theorem b_common_of (CM : FId → List W → M W) : blk (ev TT CM 40) e_common_of.i.sc e_common_of.i.body = t_common_of CM := by rfl
theorem c_common_of {k : Nat} {w0 w1 w2 : W} {h : AH} : call (k + 1) (pl "common_of") [w0, w1, w2] h = endM h (t_common_of (call k) [some w0, some w1, some w2, none, none] h) := by
  exact (callM_at l_common_of rfl).trans (by rw [b_common_of]; rfl)
noncomputable def t_common (CM : FId → List W → M W) : MS := sBlock [sExpr (eCall CM (pl "look_term") (aList [mVar 0])), sExpr (eCall CM (pl "look_term") (aList [mVar 1])), sRet (eCall CM (pl "common_of") (aList [mVar 0, mVar 1, eDict0]))]
theorem l_common : lookE ents (pl "common") = some e_common.i := by rfl
theorem b_common (CM : FId → List W → M W) : blk (ev TT CM 40) e_common.i.sc e_common.i.body = t_common CM := by rfl
theorem c_common {k : Nat} {w0 w1 : W} {h : AH} : call (k + 1) (pl "common") [w0, w1] h = endM h (t_common (call k) [some w0, some w1] h) := by
  exact (callM_at l_common rfl).trans (by rw [b_common]; rfl)
noncomputable def t_law_town (CM : FId → List W → M W) : MS := sBlock [sRet (eBin .Add (eLst (aList [mC (.d (.int 0))])) (eFun fList (aList [mVar 0])))]
theorem l_law_town : lookE ents (pl "_law_town") = some e_law_town.i := by rfl
theorem b_law_town (CM : FId → List W → M W) : blk (ev TT CM 40) e_law_town.i.sc e_law_town.i.body = t_law_town CM := by rfl
theorem c_law_town {k : Nat} {w0 : W} {h : AH} : call (k + 1) (pl "_law_town") [w0] h = keepM (t_law_town (call k) [some w0] h) := by
  exact (callM_at l_law_town rfl).trans (by rw [b_law_town]; rfl)
noncomputable def t_law_draw (CM : FId → List W → M W) : MS := sBlock [sIxW (mVar 1) (mC (.d (.int 0))) (eBin .Add (eIx (mVar 1) (mC (.d (.int 0)))) (mC (.d (.int 1)))), sIf (tst (eCmp .Eq (mVar 0) (eLstD (aList [])))) (sBlock [sRet (eBin .Mod (eBin .FloorDiv (eBin .Mult (eBin .Mult (eIx (mVar 1) (mC (.d (.int 0)))) (eIx (mVar 1) (mC (.d (.int 0))))) (mC (.d (.int 7)))) (mC (.d (.int 3)))) (mVar 2))]) (sBlock []), sSet 3 (eBin .Mod (eIx (mVar 1) (mC (.d (.int 0)))) (eLen TT CM (mVar 0))), sSet 4 (eIx (mVar 1) (eBin .Add (mC (.d (.int 1))) (mVar 3))), sIf (tAndM (tst (eCmp .GtE (eIx (mVar 0) (mVar 3)) (eBin .Pow (mC (.d (.int 10))) (mC (.d (.int 18)))))) (tst (eCmp .Gt (mVar 4) (mC (.d (.int 0)))))) (sBlock [sIxW (mVar 1) (eBin .Add (mC (.d (.int 1))) (mVar 3)) (eBin .FloorDiv (mVar 4) (mVar 2)), sRet (eBin .Mod (mVar 4) (mVar 2))]) (sBlock []), sSet 5 (eBin .Mod (eBin .Add (eIx (mVar 0) (mVar 3)) (eBin .Mult (mC (.d (.int 104729))) (eIx (mVar 1) (mC (.d (.int 0)))))) (mC (.d (.int 4294967291)))), sSet 5 (eBin .Mod (eBin .Pow (mVar 5) (mC (.d (.int 5)))) (mC (.d (.int 4294967279)))), sRet (eBin .Mod (eBin .FloorDiv (eBin .Mod (eBin .Add (eBin .Mult (eBin .FloorDiv (mVar 5) (mC (.d (.int 64)))) (mC (.d (.int 69621)))) (mVar 5)) (mC (.d (.int 4294967231)))) (mC (.d (.int 8)))) (mVar 2))]
theorem l_law_draw : lookE ents (pl "_law_draw") = some e_law_draw.i := by rfl
theorem b_law_draw (CM : FId → List W → M W) : blk (ev TT CM 40) e_law_draw.i.sc e_law_draw.i.body = t_law_draw CM := by rfl
theorem c_law_draw {k : Nat} {w0 w1 w2 : W} {h : AH} : call (k + 1) (pl "_law_draw") [w0, w1, w2] h = endM h (t_law_draw (call k) [some w0, some w1, some w2, none, none, none] h) := by
  exact (callM_at l_law_draw rfl).trans (by rw [b_law_draw]; rfl)
noncomputable def t_law_pick (CM : FId → List W → M W) : MS := sBlock [sRet (eIx (mVar 2) (eCall CM (pl "_law_draw") (aList [mVar 0, mVar 1, eLen TT CM (mVar 2)])))]
theorem l_law_pick : lookE ents (pl "_law_pick") = some e_law_pick.i := by rfl
theorem b_law_pick (CM : FId → List W → M W) : blk (ev TT CM 40) e_law_pick.i.sc e_law_pick.i.body = t_law_pick CM := by rfl
theorem c_law_pick {k : Nat} {w0 w1 w2 : W} {h : AH} : call (k + 1) (pl "_law_pick") [w0, w1, w2] h = endM h (t_law_pick (call k) [some w0, some w1, some w2] h) := by
  exact (callM_at l_law_pick rfl).trans (by rw [b_law_pick]; rfl)
noncomputable def t_law_term (CM : FId → List W → M W) : MS := sBlock [sSet 4 (eCall CM (pl "_law_draw") (aList [mVar 0, mVar 1, eIf (tst (eCmp .Gt (mVar 2) (mC (.d (.int 0))))) (mC (.d (.int 7))) (mC (.d (.int 4)))])), sIf (tst (eCmp .Eq (mVar 4) (mC (.d (.int 0))))) (sBlock [sRet (eCall CM (pl "_law_pick") (aList [mVar 0, mVar 1, eLst (aList [mC (.d (.int 0)), mC (.d (.int 1)), mC (.d (.int 2)), eNeg (mC (.d (.int 3))), eBin .Pow (mC (.d (.int 10))) (mC (.d (.int 9)))])]))]) (sBlock []), sIf (tst (eCmp .Eq (mVar 4) (mC (.d (.int 1))))) (sBlock [sRet (eCall CM (pl "_law_pick") (aList [mVar 0, mVar 1, eLst (aList [mC (.d (.str "a")), mC (.d (.str "b")), mC (.d (.str "nil")), mC (.d (.str "abcdefgh"))])]))]) (sBlock []), sIf (tAndM (tst (eCmp .Lt (mVar 4) (mC (.d (.int 4))))) (tst (eCmp .Gt (mVar 3) (mC (.d (.int 0)))))) (sBlock [sRet (eTup (aList [mC (.d (.str "?")), eCall CM (pl "_law_draw") (aList [mVar 0, mVar 1, mVar 3])]))]) (sBlock []), sIf (tst (eCmp .Lt (mVar 2) (mC (.d (.int 1))))) (sBlock [sRet (mC (.d (.str "a")))]) (sBlock []), sSet 5 (eTup (aList [eCall CM (pl "_law_pick") (aList [mVar 0, mVar 1, eLst (aList [mC (.d (.str "f")), mC (.d (.str "g")), mC (.d (.str "cons"))])])])), sFor (.n 6) (iFun rng1 (aList [eBin .Add (mC (.d (.int 1))) (eCall CM (pl "_law_draw") (aList [mVar 0, mVar 1, mC (.d (.int 3))]))])) (sBlock [sSet 5 (eBin .Add (mVar 5) (eTup (aList [eCall CM (pl "_law_term") (aList [mVar 0, mVar 1, eBin .Sub (mVar 2) (mC (.d (.int 1))), mVar 3])])))]), sRet (mVar 5)]
theorem l_law_term : lookE ents (pl "_law_term") = some e_law_term.i := by rfl
theorem b_law_term (CM : FId → List W → M W) : blk (ev TT CM 40) e_law_term.i.sc e_law_term.i.body = t_law_term CM := by rfl
theorem c_law_term {k : Nat} {w0 w1 w2 w3 : W} {h : AH} : call (k + 1) (pl "_law_term") [w0, w1, w2, w3] h = endM h (t_law_term (call k) [some w0, some w1, some w2, some w3, none, none, none] h) := by
  exact (callM_at l_law_term rfl).trans (by rw [b_law_term]; rfl)
noncomputable def t_law_is_name (CM : FId → List W → M W) : MS := sBlock [sRet (eAnd (eIsi (mVar 0) "tuple") (eCmp .Eq (eIx (mVar 0) (mC (.d (.int 0)))) (mC (.d (.str "?")))))]
theorem l_law_is_name : lookE ents (pl "_law_is_name") = some e_law_is_name.i := by rfl
theorem b_law_is_name (CM : FId → List W → M W) : blk (ev TT CM 40) e_law_is_name.i.sc e_law_is_name.i.body = t_law_is_name CM := by rfl
theorem c_law_is_name {k : Nat} {w0 : W} {h : AH} : call (k + 1) (pl "_law_is_name") [w0] h = endM h (t_law_is_name (call k) [some w0] h) := by
  exact (callM_at l_law_is_name rfl).trans (by rw [b_law_is_name]; rfl)
noncomputable def t_law_is_tree (CM : FId → List W → M W) : MS := sBlock [sRet (eAnd (eIsi (mVar 0) "tuple") (eCmp .NotEq (eIx (mVar 0) (mC (.d (.int 0)))) (mC (.d (.str "?")))))]
theorem l_law_is_tree : lookE ents (pl "_law_is_tree") = some e_law_is_tree.i := by rfl
theorem b_law_is_tree (CM : FId → List W → M W) : blk (ev TT CM 40) e_law_is_tree.i.sc e_law_is_tree.i.body = t_law_is_tree CM := by rfl
theorem c_law_is_tree {k : Nat} {w0 : W} {h : AH} : call (k + 1) (pl "_law_is_tree") [w0] h = endM h (t_law_is_tree (call k) [some w0] h) := by
  exact (callM_at l_law_is_tree rfl).trans (by rw [b_law_is_tree]; rfl)
noncomputable def t_law_names (CM : FId → List W → M W) : MS := sBlock [sIf (tst (eCall CM (pl "_law_is_name") (aList [mVar 0]))) (sBlock [sRet (eLst (aList [eIx (mVar 0) (mC (.d (.int 1)))]))]) (sBlock []), sSet 1 (eLst (aList [])), sIf (tst (eCall CM (pl "_law_is_tree") (aList [mVar 0]))) (sBlock [sFor (.n 2) (iVal (eSl (mVar 0) (pSome (mC (.d (.int 1)))) pNo)) (sBlock [sSet 1 (eBin .Add (mVar 1) (eLC (.n 3) (iVal (eCall CM (pl "_law_names") (aList [mVar 2]))) (tst (eCmp .NotIn (mVar 3) (mVar 1))) (mVar 3)))])]) (sBlock []), sRet (mVar 1)]
theorem l_law_names : lookE ents (pl "_law_names") = some e_law_names.i := by rfl
theorem b_law_names (CM : FId → List W → M W) : blk (ev TT CM 40) e_law_names.i.sc e_law_names.i.body = t_law_names CM := by rfl
theorem c_law_names {k : Nat} {w0 : W} {h : AH} : call (k + 1) (pl "_law_names") [w0] h = endM h (t_law_names (call k) [some w0, none, none, none] h) := by
  exact (callM_at l_law_names rfl).trans (by rw [b_law_names]; rfl)
noncomputable def t_law_fill (CM : FId → List W → M W) : MS := sBlock [sIf (tst (eCall CM (pl "_law_is_name") (aList [mVar 0]))) (sBlock [sRet (eIf (tst (eCmp .In (eIx (mVar 0) (mC (.d (.int 1)))) (mVar 1))) (eIx (mVar 1) (eIx (mVar 0) (mC (.d (.int 1))))) (mVar 0))]) (sBlock []), sIf (tst (eCall CM (pl "_law_is_tree") (aList [mVar 0]))) (sBlock [sRet (eBin .Add (eSl (mVar 0) pNo (pSome (mC (.d (.int 1))))) (eFun fTuple (aList [eOut (eLC (.n 2) (iVal (eSl (mVar 0) (pSome (mC (.d (.int 1)))) pNo)) tTrue (eCall CM (pl "_law_fill") (aList [mVar 2, mVar 1])))])))]) (sBlock []), sRet (mVar 0)]
theorem l_law_fill : lookE ents (pl "_law_fill") = some e_law_fill.i := by rfl
theorem b_law_fill (CM : FId → List W → M W) : blk (ev TT CM 40) e_law_fill.i.sc e_law_fill.i.body = t_law_fill CM := by rfl
theorem c_law_fill {k : Nat} {w0 w1 : W} {h : AH} : call (k + 1) (pl "_law_fill") [w0, w1] h = endM h (t_law_fill (call k) [some w0, some w1, none] h) := by
  exact (callM_at l_law_fill rfl).trans (by rw [b_law_fill]; rfl)
noncomputable def t_law_shown (CM : FId → List W → M W) : MS := sBlock [sRet (eFmtN (mVar 0))]
theorem l_law_shown : lookE ents (pl "_law_shown") = some e_law_shown.i := by rfl
theorem b_law_shown (CM : FId → List W → M W) : blk (ev TT CM 40) e_law_shown.i.sc e_law_shown.i.body = t_law_shown CM := by rfl
theorem c_law_shown {k : Nat} {w0 : W} {h : AH} : call (k + 1) (pl "_law_shown") [w0] h = endM h (t_law_shown (call k) [some w0] h) := by
  exact (callM_at l_law_shown rfl).trans (by rw [b_law_shown]; rfl)
noncomputable def t_law_loose (CM : FId → List W → M W) : MS := sBlock [sIf (tst (eCmp .Eq (eCall CM (pl "_law_draw") (aList [mVar 0, mVar 1, mC (.d (.int 4))])) (mC (.d (.int 0))))) (sBlock [sIf (tst (eCmp .NotIn (eCall CM (pl "_law_shown") (aList [mVar 2])) (mVar 3))) (sBlock [sIxW (mVar 3) (eCall CM (pl "_law_shown") (aList [mVar 2])) (eBin .Add (eBin .Add (mC (.d (.int 50))) (eLen TT CM (mVar 3))) (eBin .Mult (mC (.d (.int 10))) (eCall CM (pl "_law_draw") (aList [mVar 0, mVar 1, mC (.d (.int 2))]))))]) (sBlock []), sRet (eTup (aList [mC (.d (.str "?")), eIx (mVar 3) (eCall CM (pl "_law_shown") (aList [mVar 2]))]))]) (sBlock []), sIf (tst (eCall CM (pl "_law_is_tree") (aList [mVar 2]))) (sBlock [sRet (eBin .Add (eSl (mVar 2) pNo (pSome (mC (.d (.int 1))))) (eFun fTuple (aList [eOut (eLC (.n 4) (iVal (eSl (mVar 2) (pSome (mC (.d (.int 1)))) pNo)) tTrue (eCall CM (pl "_law_loose") (aList [mVar 0, mVar 1, mVar 4, mVar 3])))])))]) (sBlock []), sRet (eIf (tst (eCall CM (pl "_law_is_name") (aList [mVar 2]))) (eTup (aList [mC (.d (.str "?")), eBin .Add (mC (.d (.int 70))) (eIx (mVar 2) (mC (.d (.int 1))))])) (mVar 2))]
theorem l_law_loose : lookE ents (pl "_law_loose") = some e_law_loose.i := by rfl
theorem b_law_loose (CM : FId → List W → M W) : blk (ev TT CM 40) e_law_loose.i.sc e_law_loose.i.body = t_law_loose CM := by rfl
theorem c_law_loose {k : Nat} {w0 w1 w2 w3 : W} {h : AH} : call (k + 1) (pl "_law_loose") [w0, w1, w2, w3] h = endM h (t_law_loose (call k) [some w0, some w1, some w2, some w3, none] h) := by
  exact (callM_at l_law_loose rfl).trans (by rw [b_law_loose]; rfl)
noncomputable def t_law (CM : FId → List W → M W) : MS := sBlock [sSet 1 (eCall CM (pl "_law_town") (aList [mVar 0])), sSet 2 (eCall CM (pl "_law_term") (aList [mVar 0, mVar 1, mC (.d (.int 3)), mC (.d (.int 3))])), sSet 3 (eCall CM (pl "_law_fill") (aList [mVar 2, eDisp [(mC (.d (.int 0)), eCall CM (pl "_law_term") (aList [mVar 0, mVar 1, mC (.d (.int 1)), mC (.d (.int 3))])), (mC (.d (.int 1)), mC (.d (.str "a"))), (mC (.d (.int 2)), eTup (aList [mC (.d (.str "g")), mC (.d (.int 1))]))]])), sSet 4 (eCall CM (pl "_law_fill") (aList [mVar 2, eDisp [(mC (.d (.int 0)), eCall CM (pl "_law_term") (aList [mVar 0, mVar 1, mC (.d (.int 1)), mC (.d (.int 3))])), (mC (.d (.int 1)), mC (.d (.str "b"))), (mC (.d (.int 2)), eTup (aList [mC (.d (.str "g")), eTup (aList [mC (.d (.str "?")), mC (.d (.int 0))])]))]])), sIf (tst (eCmp .Eq (eCall CM (pl "_law_draw") (aList [mVar 0, mVar 1, mC (.d (.int 3))])) (mC (.d (.int 0))))) (sBlock [sSet 4 (eCall CM (pl "_law_term") (aList [mVar 0, mVar 1, mC (.d (.int 3)), mC (.d (.int 3))]))]) (sBlock []), sSet 5 (eCall CM (pl "common") (aList [mVar 3, mVar 4])), sIf (tOrM (tNotM (tst (eCall CM (pl "is_term") (aList [mVar 5])))) (tOrM (tNotM (tst (eCall CM (pl "covers") (aList [mVar 5, mVar 3])))) (tNotM (tst (eCall CM (pl "covers") (aList [mVar 5, mVar 4])))))) (sBlock [sRet (mC (.d (.bool false)))]) (sBlock []), sIf (tst (eCmp .NotEq (eCall CM (pl "_law_names") (aList [mVar 5])) (eLstRg (eLen TT CM (eCall CM (pl "_law_names") (aList [mVar 5])))))) (sBlock [sRet (mC (.d (.bool false)))]) (sBlock []), sSet 6 (eLst (aList [mVar 2, eTup (aList [mC (.d (.str "?")), mC (.d (.int 0))]), eTup (aList [mC (.d (.str "?")), mC (.d (.int 7))])])), sFor (.n 7) (iFun rng1 (aList [mC (.d (.int 6))])) (sBlock [sExpr (eBM .list appM (mVar 6) (aList [eCall CM (pl "_law_loose") (aList [mVar 0, mVar 1, eCall CM (pl "_law_pick") (aList [mVar 0, mVar 1, eLst (aList [mVar 3, mVar 5])]), eDict0])]))]), sFor (.n 8) (iVal (mVar 6)) (sBlock [sIf (tAndM (tst (eCall CM (pl "covers") (aList [mVar 8, mVar 3]))) (tAndM (tst (eCall CM (pl "covers") (aList [mVar 8, mVar 4]))) (tNotM (tst (eCall CM (pl "covers") (aList [mVar 8, mVar 5])))))) (sBlock [sRet (mC (.d (.bool false)))]) (sBlock [])]), sIf (tOrM (tst (eCmp .IsNot (eCall CM (pl "alike") (aList [eCall CM (pl "common") (aList [mVar 4, mVar 3]), mVar 5])) (mC (.d (.bool true))))) (tst (eCmp .IsNot (eCall CM (pl "alike") (aList [eCall CM (pl "common") (aList [mVar 3, mVar 3]), mVar 3])) (mC (.d (.bool true)))))) (sBlock [sRet (mC (.d (.bool false)))]) (sBlock []), sIf (tAndM (tst (eCall CM (pl "covers") (aList [mVar 3, mVar 4]))) (tst (eCmp .IsNot (eCall CM (pl "alike") (aList [mVar 5, mVar 3])) (mC (.d (.bool true)))))) (sBlock [sRet (mC (.d (.bool false)))]) (sBlock []), sRet (eAnd (eCmp .Is (eCall CM (pl "alike") (aList [eCall CM (pl "common") (aList [mVar 5, mVar 3]), mVar 5])) (mC (.d (.bool true)))) (eCmp .Eq (eCall CM (pl "common") (aList [mVar 3, mVar 4])) (mVar 5)))]
theorem l_law : lookE ents (pl "law") = some e_law.i := by rfl
theorem b_law (CM : FId → List W → M W) : blk (ev TT CM 40) e_law.i.sc e_law.i.body = t_law CM := by rfl
theorem c_law {k : Nat} {w0 : W} {h : AH} : call (k + 1) (pl "law") [w0] h = endM h (t_law (call k) [some w0, none, none, none, none, none, none, none, none] h) := by
  exact (callM_at l_law rfl).trans (by rw [b_law]; rfl)
end Ev
set_option Elab.async false
set_option linter.all false
set_option maxRecDepth 100000
set_option maxHeartbeats 400000
namespace Ev
open PySem PySem.Spec PyProof.Rows L2 He
theorem r_town {k : Nat} {ns : List Int} (hn : ns.length ≤ 63) : call (k + 1) (pl "_law_town") [.d (dI ns)] [] = .ok (.r 2) [LI [0], LI ns, LI (0 :: ns)] := by
  rw [c_law_town]
  have e1 : kLst [.d (.int 0)] [] = .ok (.r 0) [LI [0]] := rfl
  have e2 : fList [.d (dI ns)] [LI [0]] = .ok (.r 1) [LI [0], LI ns] := by simp [fList, dI, LI]
  have e3 : bAdd (.r 0) (.r 1) [LI [0], LI ns] = .ok (.r 2) [LI [0], LI ns, LI (0 :: ns)] := by
    refine (bAdd_l (a := [.d (.int 0)]) (b := (ns.map PyData.int).map .d) rfl rfl (by simp; exact Nat.le_trans (by omega : 1 + ns.length ≤ 1000) (by decide))).trans ?_
    simp [LI]
  simp [t_law_town, e1, e2, bop, e3, keepM]
theorem r_draw {k : Nat} {ns ts : List Int} {t : Nat} {m c : Int} {h : AH} (ht : h[t]? = some (LI ts)) (T : Tw ns c ts) (hc : c ≤ 1000000) (m0 : 0 < m) (m1 : m < 1000000000) :
    ∃ v ts', call (k + 1) (pl "_law_draw") [.d (dI ns), .r t, .d (.int m)] h = .ok (.d (.int v)) (h.set t (LI ts')) ∧ 0 ≤ v ∧ v < m ∧ Tw ns (c + 1) ts' := by
  have htl : t < h.length := (List.getElem?_eq_some_iff.mp ht).1
  rw [c_law_draw]
  obtain ⟨T1, T2, T3⟩ := T
  obtain ⟨q, hq⟩ : ∃ q, q = ts.getD 0 0 := ⟨_, rfl⟩
  rw [← hq] at T2 T3
  have i0 := ix_LI (i := 0) ht (by decide) (by omega)
  rw [show (0 : Int).toNat = 0 from rfl, ← hq] at i0
  have s0 := set_LI (v := q + 1) (i := 0) ht (by decide) (by omega)
  rw [show (0 : Int).toNat = 0 from rfl] at s0
  obtain ⟨t1, ht1⟩ : ∃ t1, t1 = ts.set 0 (q + 1) := ⟨_, rfl⟩
  rw [← ht1] at s0
  have l1 : t1.length = ns.length + 1 := by rw [ht1, List.length_set]; exact T1
  have g1 : t1.getD 0 0 = q + 1 := by
    rw [ht1]
    cases ts with
    | nil => simp at T1
    | cons a b => simp
  have W1 : Tw ns (c + 1) t1 := ⟨l1, by rw [g1]; omega, by rw [g1]; omega⟩
  obtain ⟨h1, hh1⟩ : ∃ h1, h1 = h.set t (LI t1) := ⟨_, rfl⟩
  rw [← hh1] at s0
  have ht2 : h1[t]? = some (LI t1) := by rw [hh1]; exact List.getElem?_set_self htl
  have j0 := ix_LI (i := 0) ht2 (by decide) (by omega)
  rw [show (0 : Int).toNat = 0 from rfl, g1] at j0
  have sm : small64 (q + 1) = true := by simp [small64]; omega
  have sm7 : small64 7 = true := by decide
  have smk : small64 104729 = true := by decide
  have smh : small64 69621 = true := by decide
  have e1 : ∀ x : PyData, endM h (.ok (.rt (.d x)) h1) = .ok (.d x) h1 := fun x => by rw [hh1]; exact end_set0 clos_LI htl
  have m2 : m < 1073741824 := by omega
  cases hn : ns.isEmpty with
  | true =>
    have : ns = [] := by simpa using hn
    subst this
    refine ⟨(q + 1) * (q + 1) * 7 / 3 % m, t1, ?_, Int.emod_nonneg _ (by omega), Int.emod_lt_of_pos _ m0, W1⟩
    have hsh := sh_ints (is := [])
    have hev := eqv_dI_nil (is := [])
    rw [← hh1]
    simp [t_law_draw, i0, bop, bAdd, s0, kLstD, allD, sizeLine, cmp, cEq, peek, hsh, sh_nil, hev, j0, bMul, sm, sm7, bDiv, bMod, m0, e1]
  | false =>
    have hl : 0 < ns.length := by cases ns with
      | nil => cases hn
      | cons a b => simp
    obtain ⟨p, hp⟩ : ∃ p, p = (q + 1) % (ns.length : Int) := ⟨_, rfl⟩
    have p0 : 0 ≤ p := by rw [hp]; exact Int.emod_nonneg _ (by omega)
    have p1 : p < ns.length := by rw [hp]; exact Int.emod_lt_of_pos _ (by omega)
    have j1 := ix_LI (i := 1 + p) ht2 (by omega) (by omega)
    obtain ⟨lf, hlf⟩ : ∃ lf, lf = t1.getD (1 + p).toNat 0 := ⟨_, rfl⟩
    rw [← hlf] at j1
    have j2 := fun h => ix_dI (h := h) (i := p) p0 p1
    obtain ⟨sp, hsp⟩ : ∃ sp, sp = ns.getD p.toNat 0 := ⟨_, rfl⟩
    rw [← hsp] at j2
    have hln : ∀ h, fLen [.d (dI ns)] h = .ok (.d (.int ns.length)) h := fun h => by simp [fLen, dI]
    have hlp : (0 : Int) < (ns.length : Int) := by omega
    have hpw : ∀ h, bPow (.d (.int 10)) (.d (.int 18)) h = .ok (.d (.int (10 ^ 18))) h := fun h => rfl
    have hsh := sh_ints (is := ns)
    have hev := eqv_dI_nil (is := ns)
    rw [hn] at hev
    by_cases big : 10 ^ 18 ≤ sp ∧ 0 < lf
    · have s1 := set_LI (v := lf / m) (i := 1 + p) ht2 (by omega) (by omega)
      refine ⟨lf % m, t1.set (1 + p).toNat (lf / m), ?_, Int.emod_nonneg _ (by omega), Int.emod_lt_of_pos _ m0, ?_⟩
      · have e2 : ∀ x : PyData, endM h (.ok (.rt (.d x)) (h1.set t (LI (t1.set (1 + p).toNat (lf / m))))) = .ok (.d x) (h.set t (LI (t1.set (1 + p).toNat (lf / m)))) := fun x => by
          rw [hh1, List.set_set]; exact end_set0 clos_LI htl
        have b1 : decide (10 ^ 18 ≤ sp) = true := decide_eq_true big.1
        have b2 : decide (0 < lf) = true := decide_eq_true big.2
        simp [-Int.reducePow, t_law_draw, i0, bop, bAdd, s0, kLstD, allD, sizeLine, cmp, cEq, peek, hsh, sh_nil, hev, j0, hln, bMod, hl, hlp, ← hp, j1, j2, hpw, cInt, b1, b2, big.1, big.2, bDiv, m0, m2, s1, e2]
      · refine ⟨by rw [List.length_set]; exact l1, ?_, ?_⟩
        · rw [show (t1.set (1 + p).toNat (lf / m)).getD 0 0 = t1.getD 0 0 from getD_set0 (by omega)]; exact W1.lo
        · rw [show (t1.set (1 + p).toNat (lf / m)).getD 0 0 = t1.getD 0 0 from getD_set0 (by omega)]; exact W1.hi
    · obtain ⟨u, hu⟩ : ∃ u, u = (sp + 104729 * (q + 1)) % 4294967291 := ⟨_, rfl⟩
      have u0 : 0 ≤ u := by rw [hu]; exact Int.emod_nonneg _ (by decide)
      have u1 : u < 4294967291 := by rw [hu]; exact Int.emod_lt_of_pos _ (by decide)
      have hpu : ∀ h, bPow (.d (.int u)) (.d (.int 5)) h = .ok (.d (.int (u ^ 5))) h := fun h => by
        unfold bPow
        simp only
        rw [if_pos (by simp; omega)]; rfl
      obtain ⟨v, hv⟩ : ∃ v, v = u ^ 5 % 4294967279 := ⟨_, rfl⟩
      refine ⟨(v / 64 * 69621 + v) % 4294967231 / 8 % m, t1, ?_, Int.emod_nonneg _ (by omega), Int.emod_lt_of_pos _ m0, W1⟩
      rw [← hh1]
      by_cases b1 : 10 ^ 18 ≤ sp
      · have b2 : ¬ 0 < lf := fun z => big ⟨b1, z⟩
        simp [-Int.reducePow, t_law_draw, i0, bop, bAdd, s0, kLstD, allD, sizeLine, cmp, cEq, peek, hsh, sh_nil, hev, j0, hln, bMod, hl, hlp, ← hp, j1, j2, hpw, cInt, b1, b2, bDiv, m0, m2, bMul, smk, smh, ← hu, hpu, ← hv, e1]
      · simp [-Int.reducePow, t_law_draw, i0, bop, bAdd, s0, kLstD, allD, sizeLine, cmp, cEq, peek, hsh, sh_nil, hev, j0, hln, bMod, hl, hlp, ← hp, j1, j2, hpw, cInt, b1, bDiv, m0, m2, bMul, smk, smh, ← hu, hpu, ← hv, e1]
where
  getD_set0 {l : List Int} {i : Nat} {v : Int} (h : 0 < i) : (l.set i v).getD 0 0 = l.getD 0 0 := by
    cases l with
    | nil => rfl
    | cons a b => cases i with
      | zero => omega
      | succ i => rfl
end Ev
set_option Elab.async false
set_option linter.all false
set_option maxHeartbeats 400000
/-! U1: terms, fillings, stores as plain mathematics. -/
namespace Ev
open PySem
inductive Tm where
  | num (i : Int)
  | word (s : Str)
  | name (n : Nat)
  | tree (f : Str) (as : List Tm)
namespace Tm
theorem ind {P : Tm → Prop} (h1 : ∀ i, P (.num i)) (h2 : ∀ s, P (.word s)) (h3 : ∀ n, P (.name n)) (h4 : ∀ f as, (∀ a ∈ as, P a) → P (.tree f as)) : ∀ t, P t
  | .num i => h1 i
  | .word s => h2 s
  | .name n => h3 n
  | .tree f as => h4 f as (go as)
where
  go : ∀ (as : List Tm), ∀ a ∈ as, P a
    | [], _, m => by cases m
    | b :: bs, a, m => by
      rcases List.mem_cons.mp m with e | m
      · rw [e]; exact ind h1 h2 h3 h4 b
      · exact go bs a m
mutual
def app (σ : Nat → Tm) : Tm → Tm
  | .num i => .num i
  | .word s => .word s
  | .name n => σ n
  | .tree f as => .tree f (appL σ as)
def appL (σ : Nat → Tm) : List Tm → List Tm
  | [] => []
  | a :: as => app σ a :: appL σ as
end
theorem appL_eq {σ : Nat → Tm} : ∀ as, appL σ as = as.map (app σ)
  | [] => by simp [appL]
  | a :: as => by simp [appL, appL_eq as]
theorem app_tree {σ : Nat → Tm} {f : Str} {as : List Tm} : app σ (.tree f as) = .tree f (as.map (app σ)) := by rw [app, appL_eq]
@[simp] theorem app_num {σ : Nat → Tm} {i : Int} : app σ (.num i) = .num i := by rw [app]
@[simp] theorem app_word {σ : Nat → Tm} {i : Str} : app σ (.word i) = .word i := by rw [app]
@[simp] theorem app_name {σ : Nat → Tm} {i : Nat} : app σ (.name i) = σ i := by rw [app]
mutual
def size : Tm → Nat
  | .num _ => 1
  | .word _ => 1
  | .name _ => 1
  | .tree _ as => 1 + sizeL as
def sizeL : List Tm → Nat
  | [] => 0
  | a :: as => size a + sizeL as
end
theorem sizeL_eq : ∀ as, sizeL as = (as.map size).sum
  | [] => by simp [sizeL]
  | a :: as => by simp [sizeL, sizeL_eq as]
theorem size_tree {f : Str} {as : List Tm} : size (.tree f as) = 1 + (as.map size).sum := by rw [size, sizeL_eq]
theorem size_pos (t : Tm) : 0 < size t := by cases t <;> simp [size] <;> omega
mutual
def has (n : Nat) : Tm → Bool
  | .num _ => false
  | .word _ => false
  | .name m => decide (m = n)
  | .tree _ as => hasL n as
def hasL (n : Nat) : List Tm → Bool
  | [] => false
  | a :: as => has n a || hasL n as
end
theorem hasL_eq {n : Nat} : ∀ as, hasL n as = as.any (has n)
  | [] => by simp [hasL]
  | a :: as => by simp [hasL, hasL_eq as]
theorem has_tree {n : Nat} {f : Str} {as : List Tm} : has n (.tree f as) = as.any (has n) := by rw [has, hasL_eq]
mutual
def depth : Tm → Nat
  | .num _ => 1
  | .word _ => 1
  | .name _ => 1
  | .tree _ as => 1 + depthL as
def depthL : List Tm → Nat
  | [] => 0
  | a :: as => max (depth a) (depthL as)
end
theorem depth_le {a : Tm} : ∀ {as : List Tm}, a ∈ as → depth a ≤ depthL as
  | b :: bs, m => by
    rcases List.mem_cons.mp m with e | m
    · rw [e]; simp only [depthL]; omega
    · have := depth_le m; simp only [depthL]; omega
theorem depthL_le {n : Nat} : ∀ {as : List Tm}, (∀ a ∈ as, depth a ≤ n) → depthL as ≤ n
  | [], _ => by simp [depthL]
  | a :: as, h => by
    have h1 := h a (by simp)
    have h2 := depthL_le (as := as) fun b hb => h b (by simp [hb])
    simp only [depthL]; omega
theorem depth_pos (t : Tm) : 0 < depth t := by cases t <;> simp [depth] <;> omega
theorem app_congr {σ τ : Nat → Tm} : ∀ t, (∀ n, has n t = true → σ n = τ n) → app σ t = app τ t := by
  refine ind ?_ ?_ ?_ ?_
  · intro i _; simp
  · intro i _; simp
  · intro n h; simp; exact h n (by simp [has])
  · intro f as ih h
    rw [app_tree, app_tree]
    congr 1
    refine List.map_congr_left fun a ha => ih a ha fun n hn => h n ?_
    rw [has_tree, List.any_eq_true]; exact ⟨a, ha, hn⟩
theorem app_comp {σ τ : Nat → Tm} : ∀ t, app σ (app τ t) = app (fun n => app σ (τ n)) t := by
  refine ind ?_ ?_ ?_ ?_
  · intro i; simp
  · intro i; simp
  · intro n; simp
  · intro f as ih
    rw [app_tree, app_tree, app_tree, List.map_map]
    congr 1
    exact List.map_congr_left fun a ha => ih a ha
theorem app_id : ∀ t, app Tm.name t = t := by
  refine ind ?_ ?_ ?_ ?_
  · intro i; simp
  · intro i; simp
  · intro n; simp
  · intro f as ih
    rw [app_tree]
    congr 1
    exact (List.map_congr_left fun a ha => ih a ha).trans (List.map_id as)
theorem has_app {σ : Nat → Tm} {n : Nat} : ∀ t, has n (app σ t) = true ↔ ∃ m, has m t = true ∧ has n (σ m) = true := by
  refine ind ?_ ?_ ?_ ?_
  · intro i; simp [has]
  · intro i; simp [has]
  · intro m; simp [has]
  · intro f as ih
    rw [app_tree, has_tree, List.any_map, List.any_eq_true]
    constructor
    · rintro ⟨a, ha, h⟩
      obtain ⟨m, h1, h2⟩ := (ih a ha).mp h
      exact ⟨m, by rw [has_tree, List.any_eq_true]; exact ⟨a, ha, h1⟩, h2⟩
    · rintro ⟨m, h1, h2⟩
      rw [has_tree, List.any_eq_true] at h1
      obtain ⟨a, ha, h1⟩ := h1
      exact ⟨a, ha, (ih a ha).mpr ⟨m, h1, h2⟩⟩
theorem sum_ge {α : Type} {f : α → Nat} {a : α} : ∀ {l : List α}, a ∈ l → f a ≤ (l.map f).sum
  | b :: l, m => by
    rcases List.mem_cons.mp m with e | m
    · rw [e]; simp
    · have := sum_ge (f := f) m; simp; omega
theorem size_has {σ : Nat → Tm} {n : Nat} : ∀ t, has n t = true → size (σ n) ≤ size (app σ t) := by
  refine ind ?_ ?_ ?_ ?_
  · intro i h; simp [has] at h
  · intro i h; simp [has] at h
  · intro m h; simp [has] at h; subst h; simp
  · intro f as ih h
    rw [has_tree, List.any_eq_true] at h
    obtain ⟨a, ha, h⟩ := h
    have h1 := ih a ha h
    rw [app_tree, size_tree, List.map_map]
    have := sum_ge (f := size ∘ app σ) ha
    simp only [Function.comp] at this ⊢
    omega
theorem size_has_tree {σ : Nat → Tm} {n : Nat} {f : Str} {as : List Tm} (h : has n (.tree f as) = true) : size (σ n) < size (app σ (.tree f as)) := by
  rw [has_tree, List.any_eq_true] at h
  obtain ⟨a, ha, h⟩ := h
  have h1 := size_has (σ := σ) a h
  rw [app_tree, size_tree, List.map_map]
  have := sum_ge (f := size ∘ app σ) ha
  simp only [Function.comp] at this ⊢
  omega
end Tm
/-! ### stores -/
abbrev Bd := Nat → Option Tm
def Sol (fs : Bd) (θ : Nat → Tm) : Prop := ∀ i t, fs i = some t → θ i = t.app θ
def Acy (fs : Bd) (rk : Nat → Nat) : Prop := ∀ i t, fs i = some t → ∀ n, t.has n = true → rk n < rk i
/-- a term with what is told in the place of its names, so many times -/
def res (fs : Bd) : Nat → Tm → Tm
  | 0, t => t
  | d + 1, t => t.app fun n => match fs n with
    | some u => res fs d u
    | none => .name n
theorem res_name_none {fs : Bd} {d n : Nat} (h : fs n = none) : res fs d (.name n) = .name n := by
  cases d with
  | zero => rfl
  | succ d => simp [res, h]
theorem res_name_some {fs : Bd} {d n : Nat} {u : Tm} (h : fs n = some u) : res fs (d + 1) (.name n) = res fs d u := by simp [res, h]
theorem res_app {fs : Bd} {d : Nat} {t : Tm} : res fs (d + 1) t = t.app fun n => res fs (d + 1) (.name n) := by
  show t.app _ = t.app _
  refine Tm.app_congr t fun n _ => ?_
  cases h : fs n with
  | none => rw [res_name_none h]
  | some u => rw [res_name_some h]
theorem res_num {fs : Bd} {d : Nat} {i : Int} : res fs d (.num i) = .num i := by cases d <;> simp [res]
theorem res_word {fs : Bd} {d : Nat} {i : Str} : res fs d (.word i) = .word i := by cases d <;> simp [res]
theorem res_tree {fs : Bd} {d : Nat} {f : Str} {as : List Tm} : res fs d (.tree f as) = .tree f (as.map (res fs d)) := by
  cases d with
  | zero =>
    show Tm.tree f as = .tree f (as.map fun t => t)
    rw [List.map_id']
  | succ d =>
    show Tm.app _ _ = _
    rw [Tm.app_tree]; rfl
theorem sol_res {fs : Bd} {θ : Nat → Tm} (hs : Sol fs θ) : ∀ d t, (res fs d t).app θ = t.app θ := by
  intro d
  induction d with
  | zero => intro t; rfl
  | succ d ih =>
    intro t
    show (t.app _).app θ = t.app θ
    rw [Tm.app_comp]
    refine Tm.app_congr t fun n _ => ?_
    cases h : fs n with
    | none => simp
    | some u => rw [ih u, hs n u h]
theorem res_stab {fs : Bd} {rk : Nat → Nat} (ha : Acy fs rk) : ∀ d t, (∀ n, t.has n = true → rk n < d) → res fs (d + 1) t = res fs d t := by
  intro d
  induction d with
  | zero =>
    intro t h
    show t.app _ = t
    refine (Tm.app_congr t fun n hn => absurd (h n hn) (by omega)).trans (Tm.app_id t)
  | succ d ih =>
    intro t h
    show t.app _ = t.app _
    refine Tm.app_congr t fun n hn => ?_
    cases hf : fs n with
    | none => rfl
    | some u =>
      refine ih u fun m hm => ?_
      have := ha n u hf m hm
      have := h n hn
      omega
theorem res_stab' {fs : Bd} {rk : Nat → Nat} (ha : Acy fs rk) {d e : Nat} {t : Tm} (h : ∀ n, t.has n = true → rk n < d) (he : d ≤ e) : res fs e t = res fs d t := by
  obtain ⟨k, rfl⟩ : ∃ k, e = d + k := ⟨e - d, by omega⟩
  induction k with
  | zero => rfl
  | succ k ih => exact (res_stab ha (d + k) t fun n hn => by have := h n hn; omega).trans (ih (by omega))
/-- the store's own filling -/
def rho (fs : Bd) (d : Nat) (n : Nat) : Tm := res fs d (.name n)
theorem rho_sol {fs : Bd} {rk : Nat → Nat} {D : Nat} (ha : Acy fs rk) (hD : ∀ n, rk n < D) : Sol fs (rho fs D) := fun i t h => by
  cases D with
  | zero => exact absurd (hD 0) (by omega)
  | succ d =>
    show res fs (d + 1) (.name i) = t.app fun n => res fs (d + 1) (.name n)
    rw [res_name_some h, ← res_app]
    refine (res_stab ha d t fun n hn => ?_).symm
    have := ha i t h n hn
    have := hD i
    omega
theorem rho_app {fs : Bd} {D : Nat} (hD : 0 < D) (t : Tm) : t.app (rho fs D) = res fs D t := by
  cases D with
  | zero => omega
  | succ d => exact res_app.symm
/-- which names are left: not told ones -/
theorem res_free {fs : Bd} {rk : Nat → Nat} (ha : Acy fs rk) : ∀ d t, (∀ n, t.has n = true → rk n < d) → ∀ n, (res fs d t).has n = true → fs n = none := by
  intro d
  induction d with
  | zero => intro t h n hn; exact absurd (h n hn) (by omega)
  | succ d ih =>
    intro t h n hn
    obtain ⟨m, h1, h2⟩ := (Tm.has_app t).mp hn
    cases hf : fs m with
    | none =>
      rw [hf] at h2
      have : m = n := by simpa [Tm.has] using h2
      rw [← this]; exact hf
    | some u =>
      rw [hf] at h2
      exact ih u (fun k hk => by have := ha m u hf k hk; have := h m h1; omega) n h2
/-! ### a name is told -/
def tellB (fs : Bd) (n : Nat) (t : Tm) : Bd := fun i => if i = n then some t else fs i
theorem sol_tell {fs : Bd} {n : Nat} {t : Tm} {θ : Nat → Tm} (hn : fs n = none) : Sol (tellB fs n t) θ ↔ Sol fs θ ∧ θ n = t.app θ := by
  constructor
  · intro h
    refine ⟨fun i u hu => h i u ?_, h n t (if_pos rfl)⟩
    unfold tellB
    rw [if_neg (fun e => by rw [e, hn] at hu; cases hu)]; exact hu
  · rintro ⟨h1, h2⟩ i u hu
    unfold tellB at hu
    split at hu
    · rename_i e; cases hu; rw [e]; exact h2
    · exact h1 i u hu
theorem acy_tell {fs : Bd} {rk : Nat → Nat} {D n : Nat} {t : Tm} (ha : Acy fs rk) (hD : ∀ n, rk n < D) (hn : fs n = none) (ho : (res fs D t).has n = false) : ∃ rk' : Nat → Nat, Acy (tellB fs n t) rk' := by
  refine ⟨fun m => if (rho fs D m).has n = true then rk m + D else rk m, fun i u hu m hm => ?_⟩
  have D0 : 0 < D := by have := hD 0; omega
  unfold tellB at hu
  split at hu
  · rename_i e
    cases hu
    subst e
    have h1 : (rho fs D i).has i = true := by unfold rho; rw [res_name_none hn]; simp [Tm.has]
    have h2 : ¬ (rho fs D m).has i = true := fun q => by
      have : (res fs D t).has i = true := by rw [← rho_app D0]; exact (Tm.has_app t).mpr ⟨m, hm, q⟩
      rw [ho] at this; cases this
    simp only [if_pos h1, if_neg h2]
    have := hD m
    omega
  · have h0 := ha i u hu m hm
    have hi : rho fs D i = u.app (rho fs D) := rho_sol ha hD i u hu
    by_cases q : (rho fs D m).has n = true
    · have q2 : (rho fs D i).has n = true := by rw [hi]; exact (Tm.has_app u).mpr ⟨m, hm, q⟩
      simp only [if_pos q, if_pos q2]; omega
    · simp only [if_neg q]
      split <;> omega
/-- nothing makes a name and a tree with it alike -/
theorem no_cycle {fs : Bd} {D n : Nat} {f : Str} {as : List Tm} {θ : Nat → Tm} (hs : Sol fs θ) (h : (res fs D (.tree f as)).has n = true) : θ n ≠ (Tm.tree f as).app θ := fun e => by
  rw [← sol_res hs D] at e
  rw [res_tree] at e h
  have := Tm.size_has_tree (σ := θ) h
  rw [← e] at this
  omega
/-! ### only one least filling -/
def Least (fs : Bd) (ρ : Nat → Tm) : Prop := (∀ θ, Sol fs θ ↔ ∀ n, (ρ n).app θ = θ n)
theorem rho_most {fs : Bd} {rk : Nat → Nat} {D : Nat} (ha : Acy fs rk) (hD : ∀ n, rk n < D) : Least fs (rho fs D) := fun θ => by
  have D0 : 0 < D := by have := hD 0; omega
  constructor
  · intro h n; exact sol_res h D (.name n)
  · intro h i t ht
    have e := rho_sol ha hD i t ht
    rw [← h i, e, Tm.app_comp]
    exact Tm.app_congr t fun n _ => h n
theorem least_eq {S S' : (Nat → Tm) → Prop} {ρ ρ' : Nat → Tm} (h : ∀ θ, S θ ↔ ∀ n, (ρ n).app θ = θ n) (h' : ∀ θ, S' θ ↔ ∀ n, (ρ' n).app θ = θ n) (hss : ∀ θ, S θ ↔ S' θ) (hi : S ρ) (hi' : S' ρ')
    (low : ∀ n m, ρ n = .name m → m ≤ n) (low' : ∀ n m, ρ' n = .name m → m ≤ n) : ρ = ρ' := by
  have e1 : ∀ n, (ρ' n).app ρ = ρ n := (h' ρ).mp ((hss ρ).mp hi)
  have e2 : ∀ n, (ρ n).app ρ' = ρ' n := (h ρ').mp ((hss ρ').mpr hi')
  have e3 : ∀ n, (ρ n).app ρ = ρ n := (h ρ).mp hi
  -- a name that is left by the one is left by the other
  have key : ∀ y n, (ρ n).has y = true → ρ' y = .name y := fun y n hy => by
    have fy : ρ y = .name y := left ρ (e3 n) y hy
    have q := e1 y
    rw [fy] at q
    cases hz : ρ' y with
    | num i => rw [hz] at q; simp at q
    | word i => rw [hz] at q; simp at q
    | tree f as => rw [hz, Tm.app_tree] at q; cases q
    | name z =>
      rw [hz] at q
      have qz : ρ z = .name y := by simpa using q
      have l1 : y ≤ z := low z y qz
      have l2 : z ≤ y := low' y z hz
      have : z = y := by omega
      rw [this]
  funext n
  rw [← e2 n]
  refine ((Tm.app_congr (ρ n) fun y hy => key y n hy).trans (Tm.app_id _)).symm
where
  left (ρ : Nat → Tm) : ∀ {t : Tm}, t.app ρ = t → ∀ y, t.has y = true → ρ y = .name y := by
    intro t
    refine Tm.ind (P := fun t => t.app ρ = t → ∀ y, t.has y = true → ρ y = .name y) ?_ ?_ ?_ ?_ t
    · intro i _ y h; simp [Tm.has] at h
    · intro i _ y h; simp [Tm.has] at h
    · intro m e y h
      have : m = y := by simpa [Tm.has] using h
      subst this; simpa using e
    · intro f as ih e y h
      rw [Tm.app_tree] at e
      injection e with _ e
      rw [Tm.has_tree, List.any_eq_true] at h
      obtain ⟨a, ha, h⟩ := h
      refine ih a ha ?_ y h
      have : ∀ (l : List Tm), l.map (Tm.app ρ) = l → ∀ a ∈ l, a.app ρ = a := by
        intro l
        induction l with
        | nil => intro _ a m; cases m
        | cons b bs ih2 =>
          intro e a m
          simp only [List.map_cons, List.cons.injEq] at e
          rcases List.mem_cons.mp m with q | q
          · rw [q]; exact e.1
          · exact ih2 e.2 a q
      exact this as e a ha
end Ev
set_option Elab.async false
set_option linter.all false
set_option maxRecDepth 100000
set_option maxHeartbeats 1000000
namespace Ev
open PySem PySem.Spec PyProof.Rows L2 He
/-! ### texts, words -/
def isInt : PyData → Bool
  | .int _ => true
  | _ => false
theorem r_is_int {k : Nat} {x : PyData} {h : AH} (hk : 1 ≤ k) : call k (pl "is_int") [.d x] h = .ok (.d (.bool (isInt x))) h := by
  obtain ⟨k, rfl⟩ : ∃ j, k = j + 1 := ⟨k - 1, by omega⟩
  rw [c_is_int]
  cases x <;> simp [t_is_int, isiM, tyName, isSub, isInt]
def letters : List Nat := (("abcdefghijklmnopqrstuvwxyz" : Str)).cps.toList
theorem in_letter {c : Nat} : inStr ⟨#[c]⟩ "abcdefghijklmnopqrstuvwxyz" = decide (c ∈ letters) := rfl
def isW (s : Str) : Bool := decide (1 ≤ s.length) && decide (s.length ≤ 8) && s.cps.toList.all fun c => decide (c ∈ letters)
def isWd : PyData → Bool
  | .str s => isW s
  | _ => false
/-- a comprehension as data, whose items change nothing -/
theorem out_l {h : AH} {ds : List PyData} : outM h (.r h.length) (h ++ [.lst (ds.map .d)]) = .ok (.d (.list ds)) h := end_l1 (j := [])
theorem lcD {t : Tg} {mi : EnvW → M Src} {tt : EnvW → M Bool} {el : ME} {env : EnvW} {h : AH} {ws : List W} {f : W → Option PyData} (hs : mi env h = .ok (ws, none) h) (hl : ws.length ≤ 100000)
    (hw : ∀ w ∈ ws, ∃ e1, tgM t w (wipeW env t.slots) = some e1 ∧ ∀ acc : List W, (match f w with
      | some y => tt e1 (h ++ [.lst acc]) = .ok true (h ++ [.lst acc]) ∧ el e1 (h ++ [.lst acc]) = .ok (.d y) (h ++ [.lst acc])
      | none => tt e1 (h ++ [.lst acc]) = .ok false (h ++ [.lst acc]))) :
    eOut (eLC t mi tt el) env h = .ok (.d (.list (ws.filterMap f))) h := by
  have q := lc_ap (f := fun w => (f w).map W.d) hs (Nat.le_trans hl (by decide)) (tt := tt) (el := el) fun w hw' acc => by
    obtain ⟨e1, h1, h2⟩ := hw w hw'
    refine ⟨e1, h1, ?_⟩
    have := h2 acc
    cases hf : f w with
    | none => simp only [hf, Option.map_none] at this ⊢; exact this
    | some y => simp only [hf, Option.map_some] at this ⊢; exact this
  have e : ws.filterMap (fun w => (f w).map W.d) = (ws.filterMap f).map W.d := by rw [List.map_filterMap]
  rw [e] at q
  rw [eOut_ap q, out_l]
theorem r_is_word {k : Nat} {x : PyData} {h : AH} (hk : 1 ≤ k) (hx : ∀ s, x = .str s → s.length ≤ 1000) : call k (pl "is_word") [.d x] h = .ok (.d (.bool (isWd x))) h := by
  obtain ⟨k, rfl⟩ : ∃ j, k = j + 1 := ⟨k - 1, by omega⟩
  rw [c_is_word]
  cases x with
  | str s =>
    have hs0 := hx s rfl
    have hs : s.length ≤ sizeLine := Nat.le_trans hs0 (by decide)
    by_cases h1 : 1 ≤ s.length
    · by_cases h2 : s.length ≤ 8
      · have hlc : eOut (eLC (.n 1) (iVal (mVar 0)) tTrue (eCmp .In (mVar 1) (mC (.d (.str "abcdefghijklmnopqrstuvwxyz"))))) [some (.d (.str s)), none] h = .ok (.d (.list (s.cps.toList.map fun c => PyData.bool (decide (c ∈ letters))))) h := by
          refine (lcD (f := fun w => match w with | .d (.str z) => some (.bool (inStr z "abcdefghijklmnopqrstuvwxyz")) | _ => none) (ws := s.cps.toList.map fun c => .d (.str ⟨#[c]⟩)) (by simp [srcM]) (by simp; exact Nat.le_trans hs0 (by decide)) ?_).trans ?_
          · intro w hw
            obtain ⟨c, _, rfl⟩ := List.mem_map.mp hw
            exact ⟨_, rfl, fun acc => by simp [wipeW, Tg.slots, cmp, cIn]⟩
          · rw [List.filterMap_map]
            simp [Function.comp_def, in_letter]
        have g1 : decide ((1 : Int) ≤ (s.length : Int)) = true := by simp; omega
        have g2 : decide ((s.length : Int) ≤ 8) = true := by simp; omega
        simp [-eLC_ap, -List.map_map, t_is_word, isiM, tyName, isSub, isWd, isW, fLen, hs, cmp, cLe, h1, h2, g1, g2, ↓hlc, fAll, listD, peek, boolsMap]
      · have g1 : decide ((1 : Int) ≤ (s.length : Int)) = true := by simp; omega
        have g2 : decide ((s.length : Int) ≤ 8) = false := by simp; omega
        simp [t_is_word, isiM, tyName, isSub, isWd, isW, fLen, hs, cmp, cLe, h1, h2, g1, g2]
    · have g1 : decide ((1 : Int) ≤ (s.length : Int)) = false := by simp; omega
      simp [t_is_word, isiM, tyName, isSub, isWd, isW, fLen, hs, cmp, cLe, h1, g1]
  | _ => simp [t_is_word, isiM, tyName, isSub, isWd]
/-! ### terms as data -/
mutual
def enc : Tm → PyData
  | .num i => .int i
  | .word s => .str s
  | .name n => .tuple [.str "?", .int n]
  | .tree f as => .tuple (.str f :: encL as)
def encL : List Tm → List PyData
  | [] => []
  | a :: as => enc a :: encL as
end
theorem encL_eq : ∀ as, encL as = as.map enc
  | [] => by simp [encL]
  | a :: as => by simp [encL, encL_eq as]
@[simp] theorem enc_num {i : Int} : enc (.num i) = .int i := by rw [enc]
@[simp] theorem enc_word {i : Str} : enc (.word i) = .str i := by rw [enc]
@[simp] theorem enc_name {i : Nat} : enc (.name i) = .tuple [.str "?", .int i] := by rw [enc]
@[simp] theorem enc_tree {f : Str} {as : List Tm} : enc (.tree f as) = .tuple (.str f :: as.map enc) := by rw [enc, encL_eq]
namespace Tm
def isName : Tm → Bool
  | .name _ => true
  | _ => false
def isTree : Tm → Bool
  | .tree _ _ => true
  | _ => false
mutual
/-- words are words, trees have one to four terms -/
def ok : Tm → Bool
  | .num _ => true
  | .word s => isW s
  | .name _ => true
  | .tree f as => isW f && (decide (1 ≤ as.length) && (decide (as.length ≤ 4) && okL as))
def okL : List Tm → Bool
  | [] => true
  | a :: as => ok a && okL as
end
theorem okL_iff : ∀ {as : List Tm}, okL as = true ↔ ∀ a ∈ as, ok a = true
  | [] => by simp [okL]
  | a :: as => by simp [okL, okL_iff (as := as)]
theorem ok_tree {f : Str} {as : List Tm} : ok (.tree f as) = true ↔ isW f = true ∧ 1 ≤ as.length ∧ as.length ≤ 4 ∧ ∀ a ∈ as, ok a = true := by
  rw [ok]; simp only [Bool.and_eq_true, decide_eq_true_eq, okL_iff]
end Tm
theorem isW_len {s : Str} (h : isW s = true) : s.length ≤ 8 := by
  unfold isW at h; simp at h; omega
theorem isW_q : isW "?" = false := by decide +kernel
theorem isW_nq {s : Str} (h : isW s = true) : (s == ("?" : Str)) = false := by
  cases q : (s == ("?" : Str)) with
  | false => rfl
  | true => rw [eq_of_beq q, isW_q] at h; cases h
theorem okS_iff {s : Str} : (PyData.str s).canLay0 = true ↔ ∀ c ∈ s.cps.toList, c < 0x110000 := by
  show (s.cps.all fun x => decide (x < 0x110000)) = true ↔ _
  rw [Array.all_eq_true']
  simp
theorem letter_lt {c : Nat} (h : c ∈ letters) : c < 0x110000 := by
  have : ∀ c ∈ letters, c < 0x110000 := by decide +kernel
  exact this c h
theorem isW_lay {s : Str} (h : isW s = true) : (PyData.str s).canLay0 = true := okS_iff.mpr fun c hc => by
  unfold isW at h
  simp only [Bool.and_eq_true, List.all_eq_true, decide_eq_true_eq] at h
  exact letter_lt (h.2 c hc)
theorem enc_lay : ∀ t, Tm.ok t = true → (enc t).canLay0 = true := by
  refine Tm.ind ?_ ?_ ?_ ?_
  · intro i _; simp [PyData.canLay0]
  · intro s h; rw [enc_word]; exact isW_lay (by simpa [Tm.ok] using h)
  · intro n _; rw [enc_name]; exact (show ((PyData.str "?").canLay0 && ((PyData.int n).canLay0 && true)) = true by rw [show (PyData.str "?").canLay0 = true from by decide +kernel]; simp [PyData.canLay0])
  · intro f as ih h
    obtain ⟨h1, h2, h3, h4⟩ := Tm.ok_tree.mp h
    rw [enc_tree]
    simp only [PyData.canLay0]
    refine canAll fun y hy => ?_
    rcases List.mem_cons.mp hy with e | hy
    · rw [e]; exact isW_lay h1
    · obtain ⟨a, ha, rfl⟩ := List.mem_map.mp hy
      exact ih a ha (h4 a ha)
theorem enc_dep : ∀ t, (enc t).depth ≤ t.depth := by
  refine Tm.ind ?_ ?_ ?_ ?_
  · intro i; simp [PyData.depth]
  · intro i; simp [PyData.depth]
  · intro i; simp [PyData.depth, PyData.depthAll, Tm.depth]
  · intro f as ih
    rw [enc_tree]
    have : PyData.depthAll (.str f :: as.map enc) ≤ Tm.depthL as := by
      refine depAll fun y hy => ?_
      rcases List.mem_cons.mp hy with e | hy
      · rw [e]; simp [PyData.depth]
      · obtain ⟨a, ha, rfl⟩ := List.mem_map.mp hy
        exact Nat.le_trans (ih a ha) (Tm.depth_le ha)
    simp only [PyData.depth, Tm.depth]; omega
theorem enc_sh {t : Tm} (h : t.ok = true) (hd : t.depth ≤ 64) : SeqAt.shaped (enc t) = true := by
  unfold SeqAt.shaped
  rw [enc_lay t h, Bool.true_and]
  exact decide_eq_true (Nat.le_trans (enc_dep t) hd)
theorem sh_str {s : Str} (h : isW s = true) : SeqAt.shaped (.str s) = true := by
  unfold SeqAt.shaped
  rw [isW_lay h]; simp [PyData.depth]
theorem enc_short {t : Tm} (h : t.ok = true) : ∀ s, enc t = .str s → s.length ≤ 1000 := fun s e => by
  cases t <;> simp at e
  subst e
  have := isW_len (show isW _ = true by simpa [Tm.ok] using h)
  omega
section
variable {k : Nat} {h : AH} {t : Tm}
theorem isInt_enc : isInt (enc t) = (match t with | .num _ => true | _ => false) := by cases t <;> simp [isInt]
theorem eqv_q {s : Str} (hs : isW s = true) : PyData.eqv (.str s) (.str "?") = false := by rw [eqv_ss]; exact isW_nq hs
theorem eqv_qq : PyData.eqv (.str "?") (.str "?") = true := by decide +kernel
theorem r_is_name (hk : 2 ≤ k) (ht : t.ok = true) : call k (pl "is_name") [.d (enc t)] h = .ok (.d (.bool t.isName)) h := by
  obtain ⟨k, rfl⟩ : ∃ j, k = j + 1 := ⟨k - 1, by omega⟩
  rw [c_is_name]
  cases t with
  | num i => simp [t_is_name, isiM, tyName, isSub, Tm.isName]
  | word s => simp [t_is_name, isiM, tyName, isSub, Tm.isName]
  | name n =>
    have e := r_is_int (k := k) (x := .int n) (h := h) (by omega)
    simp [t_is_name, isiM, tyName, isSub, Tm.isName, fLen, cmp, cEq, peek, sh_int, eqv_ii, ixM, at0, at1, sh_q, eqv_qq, e, isInt, cInt]
  | tree f as =>
    obtain ⟨h1, h2, h3, h4⟩ := Tm.ok_tree.mp ht
    have hs := sh_str h1
    have hq := eqv_q h1
    match as, h2 with
    | [a], _ => simp [t_is_name, isiM, tyName, isSub, Tm.isName, fLen, cmp, cEq, peek, sh_int, eqv_ii, ixM, at0, hs, sh_q, hq]
    | a :: b :: r, _ =>
      have e : decide ((r.length : Int) + 1 + 1 + 1 = 2) = false := by simp; omega
      simp [t_is_name, isiM, tyName, isSub, Tm.isName, fLen, cmp, cEq, peek, sh_int, eqv_ii, e]
theorem r_is_tree (hk : 1 ≤ k) (ht : t.ok = true) : call k (pl "is_tree") [.d (enc t)] h = .ok (.d (.bool t.isTree)) h := by
  obtain ⟨k, rfl⟩ : ∃ j, k = j + 1 := ⟨k - 1, by omega⟩
  rw [c_is_tree]
  cases t with
  | num i => simp [t_is_tree, isiM, tyName, isSub, Tm.isTree]
  | word s => simp [t_is_tree, isiM, tyName, isSub, Tm.isTree]
  | name n => simp [t_is_tree, isiM, tyName, isSub, Tm.isTree, cmp, cEq, peek, ixM, at0, sh_q, eqv_qq]
  | tree f as =>
    obtain ⟨h1, h2, h3, h4⟩ := Tm.ok_tree.mp ht
    have hs := sh_str h1
    have hq := eqv_q h1
    simp [t_is_tree, isiM, tyName, isSub, Tm.isTree, cmp, cEq, peek, ixM, at0, hs, sh_q, hq]
end
end Ev
set_option Elab.async false
set_option linter.all false
set_option maxRecDepth 100000
set_option maxHeartbeats 2000000
namespace Ev
open PySem PySem.Spec PyProof.Rows L2 He
theorem sm62 {m : Nat} (hm : m ≤ 100000) : small62 (m : Int) = true := decide_eq_true (by rw [Int.natAbs_natCast]; omega)
theorem le_sz {m : Nat} (hm : m ≤ 100000) : m ≤ sizeLine := Nat.le_trans hm (by decide)
theorem r_rng1 {m : Nat} {h : AH} (hm : m ≤ 100000) : rng1 [.d (.int m)] h = .ok (rangeL 0 m, none) h := by
  unfold rng1; simp only [sm62 hm, if_true]; rfl
theorem rangeL_len {a : Int} {m : Nat} : (rangeL a m).length = m := by simp [rangeL]
theorem clos_ds {n : Nat} {ds : List PyData} : (AO.lst (ds.map .d)).clos n := clos_data
end Ev
set_option Elab.async false
set_option linter.all false
set_option maxRecDepth 100000
set_option maxHeartbeats 1000000
namespace Ev
open PySem PySem.Spec PyProof.Rows L2 He
theorem np_is_name : TT.nopos.contains (pl "is_name") = false := by decide +kernel
theorem kVn {CM : FId → List W → M W} {as : EnvW → M (List W)} {env : EnvW} {h : AH} : kV TT CM as env (.fn "is_name") h = mb (as env h) (CM (pl "is_name")) := kV_ap np_is_name
/-! ### count_parts -/
theorem cp_loop {k : Nat} {w0 : W} {h : AH} : ∀ (as : List Tm) (c : Nat) (x : Option W), (∀ a ∈ as, call k (pl "count_parts") [.d (enc a), .fn "is_name"] h = .ok (.d (.int a.size)) h) → c + (as.map Tm.size).sum ≤ 300 →
    ∃ y, floop (.n 3) (sBlock [sAug 2 (eCall (call k) (pl "count_parts") (aList [mVar 3, mVar 1])), sIf (tst (eCmp .Gt (mVar 2) (mC (.d (.int 300))))) (sBlock [sRet (mVar 2)]) (sBlock [])]) (as.map fun a => .d (enc a)) [some w0, some (.fn "is_name"), some (.d (.int c)), x] h = .ok (.nx [some w0, some (.fn "is_name"), some (.d (.int ((c + (as.map Tm.size).sum : Nat) : Int))), y]) h
  | [], c, x, _, _ => ⟨x, by simp⟩
  | a :: as, c, x, ha, hc => by
    have e1 := ha a (by simp)
    simp only [List.map_cons, List.sum_cons] at hc
    obtain ⟨y, ih⟩ := cp_loop (w0 := w0) as (c + a.size) (some (.d (enc a))) (fun b hb => ha b (by simp [hb])) (by omega)
    refine ⟨y, ?_⟩
    have g : ¬ (300 : Int) < (c : Int) + (a.size : Int) := by omega
    have e2 : (((c + a.size : Nat)) : Int) = (c : Int) + (a.size : Int) := by omega
    have e3 : c + a.size + (as.map Tm.size).sum = c + (a.size + (as.map Tm.size).sum) := by omega
    rw [e2, e3] at ih
    simp [e1, iopM, cmp, cInt, g, ih]
theorem r_count {h : AH} : ∀ (t : Tm), t.ok = true → t.size ≤ 300 → ∀ k, t.depth + 2 ≤ k → call k (pl "count_parts") [.d (enc t), .fn "is_name"] h = .ok (.d (.int t.size)) h := by
  refine Tm.ind ?_ ?_ ?_ ?_
  · intro i _ _ k hk
    obtain ⟨k, rfl⟩ : ∃ j, k = j + 1 := ⟨k - 1, by omega⟩
    rw [c_count_parts]
    simp [Tm.depth] at hk
    have e1 := r_is_int (k := k) (x := .int i) (h := h) (by omega)
    simp [t_count_parts, e1, isInt, Tm.size]
  · intro s h1 _ k hk
    obtain ⟨k, rfl⟩ : ∃ j, k = j + 1 := ⟨k - 1, by omega⟩
    rw [c_count_parts]
    simp [Tm.depth] at hk
    have h2 : isW s = true := by simpa [Tm.ok] using h1
    have e1 := r_is_int (k := k) (x := .str s) (h := h) (by omega)
    have e2 := r_is_word (k := k) (x := .str s) (h := h) (by omega) (fun z e => by cases e; have := isW_len h2; omega)
    simp [t_count_parts, e1, isInt, e2, isWd, h2, Tm.size]
  · intro n h1 _ k hk
    obtain ⟨k, rfl⟩ : ∃ j, k = j + 1 := ⟨k - 1, by omega⟩
    rw [c_count_parts]
    simp [Tm.depth] at hk
    have e1 := r_is_int (k := k) (x := .tuple [.str "?", .int n]) (h := h) (by omega)
    have e2 := r_is_word (k := k) (x := .tuple [.str "?", .int n]) (h := h) (by omega) (fun z e => by cases e)
    have e3 := r_is_name (k := k) (t := .name n) (h := h) (by omega) rfl
    rw [enc_name] at e3 ⊢
    simp [t_count_parts, e1, isInt, e2, isWd, kVn, e3, Tm.isName, Tm.size]
  · intro f as ih h1 hz k hk
    obtain ⟨k, rfl⟩ : ∃ j, k = j + 1 := ⟨k - 1, by omega⟩
    rw [c_count_parts]
    simp only [Tm.depth] at hk
    obtain ⟨o1, o2, o3, o4⟩ := Tm.ok_tree.mp h1
    have e1 := r_is_int (k := k) (x := enc (.tree f as)) (h := h) (by omega)
    have e2 := r_is_word (k := k) (x := enc (.tree f as)) (h := h) (by omega) (fun z e => by rw [enc_tree] at e; cases e)
    have e3 := r_is_name (k := k) (t := .tree f as) (h := h) (by omega) h1
    rw [enc_tree] at e1 e2 e3 ⊢
    have e4 := r_is_word (k := k) (x := .str f) (h := h) (by omega) (fun z e => by cases e; have := isW_len o1; omega)
    have g1 : (2 : Int) ≤ (as.length : Int) + 1 := by omega
    have g2 : (as.length : Int) + 1 ≤ 5 := by omega
    rw [Tm.size_tree] at hz ⊢
    obtain ⟨y, lp⟩ := cp_loop (k := k) (w0 := .d (.tuple (.str f :: as.map enc))) (h := h) as 1 none (fun a ha => ih a ha (o4 a ha) (by have := Tm.sum_ge (f := Tm.size) ha; omega) k (by have := Tm.depth_le ha; omega)) hz
    rw [show ((1 : Nat) : Int) = 1 from rfl] at lp
    have lp' := lp
    rw [show (as.map fun a => W.d (enc a)) = (as.map enc).map W.d from by rw [List.map_map]; rfl] at lp'
    simp [-List.map_map, -floop_n, t_count_parts, e1, isInt, e2, isWd, kVn, e3, Tm.isName, isiM, tyName, isSub, fLen, cmp, cLe, g1, g2, ixM, at0, e4, o1, slM, cut1, srcM, lp']
theorem r_is_term {h : AH} {t : Tm} {k : Nat} (h1 : t.ok = true) (h2 : t.size ≤ 300) (hk : t.depth + 3 ≤ k) : call k (pl "is_term") [.d (enc t)] h = .ok (.d (.bool true)) h := by
  obtain ⟨k, rfl⟩ : ∃ j, k = j + 1 := ⟨k - 1, by omega⟩
  rw [c_is_term]
  have e := r_count (h := h) t h1 h2 k (by omega)
  have g : (t.size : Int) ≤ 300 := by omega
  simp [t_is_term, e, cmp, cLe, g]
theorem r_look_term {h : AH} {t : Tm} {k : Nat} (h1 : t.ok = true) (h2 : t.size ≤ 300) (hk : t.depth + 4 ≤ k) : call k (pl "look_term") [.d (enc t)] h = .ok (.d .none) h := by
  obtain ⟨k, rfl⟩ : ∃ j, k = j + 1 := ⟨k - 1, by omega⟩
  rw [c_look_term]
  have e := r_is_term (h := h) (t := t) (k := k) h1 h2 (by omega)
  simp [t_look_term, e]
end Ev
set_option Elab.async false
set_option linter.all false
set_option maxRecDepth 100000
set_option maxHeartbeats 400000
namespace Ev
open PySem PySem.Spec PyProof.Rows L2 He
theorem r_pick {k : Nat} {ns ts : List Int} {ds : List PyData} {t j : Nat} {c : Int} {h : AH} (ht : h[t]? = some (LI ts)) (T : Tw ns c ts) (hc : c ≤ 1000000) (hj : h[j]? = some (.lst (ds.map .d))) (hjt : t ≠ j) (hd : 0 < ds.length) (hd2 : ds.length < 1000) :
    ∃ d ts', d ∈ ds ∧ call (k + 2) (pl "_law_pick") [.d (dI ns), .r t, .r j] h = .ok (.d d) (h.set t (LI ts')) ∧ Tw ns (c + 1) ts' := by
  have htl : t < h.length := (List.getElem?_eq_some_iff.mp ht).1
  obtain ⟨v, ts', e, v0, v1, T'⟩ := r_draw (k := k) (m := (ds.length : Int)) ht T hc (by omega) (by omega)
  have hj2 : (h.set t (LI ts'))[j]? = some (.lst (ds.map .d)) := by rw [List.getElem?_set_ne hjt]; exact hj
  have vl : v.toNat < ds.length := by omega
  refine ⟨ds[v.toNat], ts', List.getElem_mem vl, ?_, T'⟩
  rw [c_law_pick]
  have e1 : kLen TT (call (k + 1)) (.r j) h = .ok (.d (.int ds.length)) h := by rw [kLen_l hj]; simp
  have e2 : ixM (.r j) (.d (.int v)) (h.set t (LI ts')) = .ok (.d ds[v.toNat]) (h.set t (LI ts')) := by
    unfold ixM
    have e : atI (ds.map W.d) v = some (.d ds[v.toNat]) := by
      rw [atI_get v0 (by simpa using v1)]; simp [vl]
    simp only [hj2, e]
  simp [t_law_pick, e1, e, e2, end_set0 clos_LI htl]
theorem r_pickL {k : Nat} {ns ts : List Int} {ds : List PyData} {t : Nat} {c : Int} {h : AH} (ht : h[t]? = some (LI ts)) (T : Tw ns c ts) (hc : c ≤ 1000000) (hd : 0 < ds.length) (hd2 : ds.length < 1000) :
    ∃ d ts', d ∈ ds ∧ call (k + 2) (pl "_law_pick") [.d (dI ns), .r t, .r h.length] (h ++ [.lst (ds.map .d)]) = .ok (.d d) (h.set t (LI ts') ++ [.lst (ds.map .d)]) ∧ Tw ns (c + 1) ts' := by
  have htl : t < h.length := (List.getElem?_eq_some_iff.mp ht).1
  obtain ⟨d, ts', h1, h2, h3⟩ := r_pick (k := k) (h := h ++ [.lst (ds.map .d)]) (j := h.length) (by rw [List.getElem?_append_left htl]; exact ht) T hc at_l (by omega) hd hd2
  rw [cpl4 htl] at h2
  exact ⟨d, ts', h1, h2, h3⟩
end Ev
set_option Elab.async false
set_option linter.all false
set_option maxRecDepth 100000
set_option maxHeartbeats 2000000
namespace Ev
open PySem PySem.Spec PyProof.Rows L2 He
mutual
/-- its numbers are not great -/
def Tm.nb : Tm → Bool
  | .num i => decide (i.natAbs ≤ 1000000000)
  | .word _ => true
  | .name _ => true
  | .tree _ as => Tm.nbL as
def Tm.nbL : List Tm → Bool
  | [] => true
  | a :: as => Tm.nb a && Tm.nbL as
end
theorem Tm.nbL_iff : ∀ {as : List Tm}, Tm.nbL as = true ↔ ∀ a ∈ as, a.nb = true
  | [] => by simp [Tm.nbL]
  | a :: as => by simp [Tm.nbL, Tm.nbL_iff (as := as)]
theorem Tm.nb_tree {f : Str} {as : List Tm} : (Tm.tree f as).nb = true ↔ ∀ a ∈ as, a.nb = true := by rw [Tm.nb, Tm.nbL_iff]
/-- what a drawn term is -/
structure Dr (N d : Nat) (u : Tm) : Prop where
  ok : u.ok = true
  nm : ∀ n, u.has n = true → n < N
  dp : u.depth ≤ d + 1
  sz : u.size ≤ 4 ^ d
  nb : u.nb = true
noncomputable abbrev bTerm (CM : FId → List W → M W) : MS := sBlock [sSet 5 (eBin .Add (mVar 5) (eTup (aList [eCall CM (pl "_law_term") (aList [mVar 0, mVar 1, eBin .Sub (mVar 2) (mC (.d (.int 1))), mVar 3])])))]
theorem term_loop {N d k t : Nat} {ns : List Int} {f : Str} {w4 : W} (ih : ∀ (h : AH) (ts : List Int) (c : Int), h[t]? = some (LI ts) → Tw ns c ts → c + 4 ^ (d + 1) ≤ 1000000 → ∃ u ts', call k (pl "_law_term") [.d (dI ns), .r t, .d (.int d), .d (.int N)] h = .ok (.d (enc u)) (h.set t (LI ts')) ∧ Dr N d u ∧ Tw ns (c + 4 ^ (d + 1)) ts') :
    ∀ (ws : List W) (us : List Tm) (h : AH) (ts : List Int) (c : Int) (x : Option W), h[t]? = some (LI ts) → Tw ns c ts → c + ws.length * 4 ^ (d + 1) ≤ 1000000 → us.length + ws.length ≤ 10 →
    ∃ vs ts' y, floop (.n 6) (bTerm (call k)) ws [some (.d (dI ns)), some (.r t), some (.d (.int ((d + 1 : Nat) : Int))), some (.d (.int N)), some w4, some (.d (.tuple (.str f :: us.map enc))), x] h = .ok (.nx [some (.d (dI ns)), some (.r t), some (.d (.int ((d + 1 : Nat) : Int))), some (.d (.int N)), some w4, some (.d (.tuple (.str f :: (us ++ vs).map enc))), y]) (h.set t (LI ts')) ∧ vs.length = ws.length ∧ (∀ v ∈ vs, Dr N d v) ∧ Tw ns (c + ws.length * 4 ^ (d + 1)) ts'
  | [], us, h, ts, c, x, ht, T, _, _ => ⟨[], ts, x, by simp [set_same ht], rfl, fun v hv => (by cases hv), by simpa using T⟩
  | w :: ws, us, h, ts, c, x, ht, T, hc, hl => by
    have htl : t < h.length := (List.getElem?_eq_some_iff.mp ht).1
    have P0 : (0 : Int) < 4 ^ (d + 1) := Int.pow_pos (by decide)
    have hc2 : c + (ws.length * 4 ^ (d + 1) + 4 ^ (d + 1)) ≤ 1000000 := by
      have : (((w :: ws).length : Nat) : Int) * 4 ^ (d + 1) = ws.length * 4 ^ (d + 1) + 4 ^ (d + 1) := by
        rw [List.length_cons, Int.natCast_add, Int.add_mul]; simp
      rw [this] at hc; exact hc
    have W0 : (0 : Int) ≤ ws.length * 4 ^ (d + 1) := Int.mul_nonneg (by omega) (by omega)
    obtain ⟨u, t1, e1, D1, T1⟩ := ih h ts c ht T (by omega)
    obtain ⟨vs, t2, y, e2, l2, D2, T2⟩ := term_loop (f := f) (w4 := w4) ih ws (us ++ [u]) (h.set t (LI t1)) t1 (c + 4 ^ (d + 1)) (some w) (List.getElem?_set_self htl) T1 (by omega) (by simp at hl ⊢; omega)
    refine ⟨u :: vs, t2, y, ?_, by simp [l2], ?_, ?_⟩
    · rw [List.set_set] at e2
      have sz : us.length + 1 + 1 ≤ sizeLine := Nat.le_trans (show us.length + 1 + 1 ≤ 100 by simp at hl; omega) (by decide)
      have sz1 : (1 : Nat) ≤ sizeLine := by decide
      have cd : ((d + 1 : Nat) : Int) - 1 = (d : Int) := by omega
      rw [show us ++ u :: vs = us ++ [u] ++ vs from by simp]
      rw [floop_n]
      have hb : ∀ z : Option W, bTerm (call k) [some (.d (dI ns)), some (.r t), some (.d (.int ((d + 1 : Nat) : Int))), some (.d (.int N)), some w4, some (.d (.tuple (.str f :: us.map enc))), z] h = .ok (.nx [some (.d (dI ns)), some (.r t), some (.d (.int ((d + 1 : Nat) : Int))), some (.d (.int N)), some w4, some (.d (.tuple (.str f :: (us ++ [u]).map enc))), z]) (h.set t (LI t1)) := fun z => by
        have sz2 : us.length + 1 + 1 ≤ sizeLine := sz
        have e1' := e1
        rw [← cd] at e1'
        obtain ⟨q, hq⟩ : ∃ q : Int, q = ((d + 1 : Nat) : Int) := ⟨_, rfl⟩
        rw [← hq] at e1' ⊢
        simp [bTerm, bop, bSub, e1', kTup, allD, sz1, bAdd, sz]
      rw [show ([some (.d (dI ns)), some (.r t), some (.d (.int ((d + 1 : Nat) : Int))), some (.d (.int N)), some w4, some (.d (.tuple (.str f :: us.map enc))), x] : EnvW).set 6 (some w) = [some (.d (dI ns)), some (.r t), some (.d (.int ((d + 1 : Nat) : Int))), some (.d (.int N)), some w4, some (.d (.tuple (.str f :: us.map enc))), some w] from rfl, hb, mb_ok, kLoop_nx]
      exact e2
    · intro v hv
      rcases List.mem_cons.mp hv with e | hv
      · rw [e]; exact D1
      · exact D2 v hv
    · have : c + 4 ^ (d + 1) + (ws.length : Int) * 4 ^ (d + 1) = c + (((w :: ws).length : Nat) : Int) * 4 ^ (d + 1) := by
        rw [List.length_cons, Int.natCast_add, Int.add_mul]; simp; omega
      rw [← this]; exact T2
end Ev
set_option Elab.async false
set_option linter.all false
set_option maxRecDepth 100000
set_option maxHeartbeats 2000000
namespace Ev
open PySem PySem.Spec PyProof.Rows L2 He
def ints5 : List Int := [0, 1, 2, -3, 10 ^ 9]
def words4 : List Str := ["a", "b", "nil", "abcdefgh"]
def words3 : List Str := ["f", "g", "cons"]
theorem w4_ok : ∀ s ∈ words4, isW s = true := by decide +kernel
theorem w3_ok : ∀ s ∈ words3, isW s = true := by decide +kernel
theorem wa_ok : isW "a" = true := by decide +kernel
theorem pow_pos4 (d : Nat) : 1 ≤ 4 ^ d := Nat.one_le_pow _ _ (by decide)
theorem i5_nb : ∀ i ∈ ints5, i.natAbs ≤ 1000000000 := by decide
theorem dr_num {N d : Nat} {i : Int} (hi : i ∈ ints5) : Dr N d (.num i) := ⟨rfl, fun n h => by simp [Tm.has] at h, by simp [Tm.depth], by simp [Tm.size]; exact pow_pos4 d, by rw [Tm.nb]; exact decide_eq_true (i5_nb i hi)⟩
theorem dr_word {N d : Nat} {s : Str} (h : isW s = true) : Dr N d (.word s) := ⟨by simpa [Tm.ok] using h, fun n h => by simp [Tm.has] at h, by simp [Tm.depth], by simp [Tm.size]; exact pow_pos4 d, by rw [Tm.nb]⟩
theorem dr_name {N d n : Nat} (h : n < N) : Dr N d (.name n) := ⟨rfl, fun m hm => by simp [Tm.has] at hm; omega, by simp [Tm.depth], by simp [Tm.size]; exact pow_pos4 d, by rw [Tm.nb]⟩
theorem dr_tree {N d : Nat} {f : Str} {us : List Tm} (hf : isW f = true) (h1 : 1 ≤ us.length) (h3 : us.length ≤ 3) (hu : ∀ u ∈ us, Dr N d u) : Dr N (d + 1) (.tree f us) := by
  refine ⟨Tm.ok_tree.mpr ⟨hf, h1, by omega, fun a ha => (hu a ha).ok⟩, fun n hn => ?_, ?_, ?_, Tm.nb_tree.mpr fun a ha => (hu a ha).nb⟩
  · rw [Tm.has_tree, List.any_eq_true] at hn
    obtain ⟨a, ha, hn⟩ := hn
    exact (hu a ha).nm n hn
  · simp only [Tm.depth]
    have := Tm.depthL_le (as := us) (n := d + 1) fun a ha => (hu a ha).dp
    omega
  · rw [Tm.size_tree]
    have : ∀ l : List Tm, (∀ u ∈ l, Dr N d u) → (l.map Tm.size).sum ≤ l.length * 4 ^ d := by
      intro l
      induction l with
      | nil => intro _; simp
      | cons a l ih =>
        intro h
        have h1 := (h a (by simp)).sz
        have h2 := ih fun u hu => h u (by simp [hu])
        simp only [List.map_cons, List.sum_cons, List.length_cons, Nat.succ_mul]
        omega
    have h4 := this us hu
    have h5 : us.length * 4 ^ d ≤ 3 * 4 ^ d := Nat.mul_le_mul_right _ h3
    have := pow_pos4 d
    rw [Nat.pow_succ]
    omega
theorem tw_up {ns ts : List Int} {c c' : Int} (T : Tw ns c ts) (h : c ≤ c') : Tw ns c' ts := T.up h
theorem r_term {N : Nat} (hN : 0 < N) (hN2 : N ≤ 1000) {ns : List Int} {t : Nat} : ∀ (d k : Nat), d + 3 ≤ k → ∀ (h : AH) (ts : List Int) (c : Int), h[t]? = some (LI ts) → Tw ns c ts → c + 4 ^ (d + 1) ≤ 1000000 →
    ∃ u ts', call k (pl "_law_term") [.d (dI ns), .r t, .d (.int d), .d (.int N)] h = .ok (.d (enc u)) (h.set t (LI ts')) ∧ Dr N d u ∧ Tw ns (c + 4 ^ (d + 1)) ts' := by
  intro d
  induction d with
  | zero =>
    intro k hk h ts c ht T hc
    obtain ⟨k, rfl⟩ : ∃ j, k = j + 3 := ⟨k - 3, by omega⟩
    have htl : t < h.length := (List.getElem?_eq_some_iff.mp ht).1
    obtain ⟨v, t1, e1, v0, v1, T1⟩ := r_draw (k := k + 1) (m := 4) ht T (by omega) (by decide) (by decide)
    obtain ⟨h1, eh1⟩ : ∃ h1, h1 = h.set t (LI t1) := ⟨_, rfl⟩
    rw [← eh1] at e1
    have ht1 : h1[t]? = some (LI t1) := by rw [eh1]; exact List.getElem?_set_self htl
    have hl1 : h1.length = h.length := by rw [eh1]; simp
    have q1 : cmp .Gt (.d (.int 0)) (.d (.int 0)) h = .ok (.d (.bool false)) h := rfl
    have hv : ∀ (x : Int) (H : AH), cmp .Eq (.d (.int v)) (.d (.int x)) H = .ok (.d (.bool (decide (v = x)))) H := fun x H => by simp [cmp, cEq, peek, sh_int, eqv_ii]
    by_cases z0 : v = 0
    · obtain ⟨p, t2, hp, e2, T2⟩ := r_pickL (k := k) (ds := ints5.map PyData.int) ht1 T1 (by omega) (by decide) (by decide)
      obtain ⟨x, hx, rfl⟩ := List.mem_map.mp hp
      refine ⟨.num x, t2, ?_, dr_num hx, tw_up T2 (by omega)⟩
      rw [c_law_term]
      have ek : kLst [.d (.int 0), .d (.int 1), .d (.int 2), .d (.int (-3)), .d (.int (10 ^ 9))] h1 = .ok (.r h1.length) (h1 ++ [.lst ((ints5.map PyData.int).map .d)]) := kLst_ap (by simp)
      have hpw : ∀ h, bPow (.d (.int 10)) (.d (.int 9)) h = .ok (.d (.int (10 ^ 9))) h := fun h => rfl
      have en := fun x : PyData => end_set (h := h) (j := [.lst ((ints5.map PyData.int).map .d)]) (t := t) (o := LI t2) (x := x) clos_LI htl
      rw [show h1.set t (LI t2) = h.set t (LI t2) from by rw [eh1, List.set_set]] at e2
      subst z0
      obtain ⟨O, eO⟩ : ∃ O : AO, O = .lst ((ints5.map PyData.int).map .d) := ⟨_, rfl⟩
      rw [← eO] at ek e2 en
      simp [-Int.reducePow, t_law_term, q1, e1, hv, bop, hpw, ek, e2, en]
    · by_cases z1 : v = 1
      · obtain ⟨p, t2, hp, e2, T2⟩ := r_pickL (k := k) (ds := words4.map PyData.str) ht1 T1 (by omega) (by decide) (by decide)
        obtain ⟨x, hx, rfl⟩ := List.mem_map.mp hp
        refine ⟨.word x, t2, ?_, dr_word (w4_ok x hx), tw_up T2 (by omega)⟩
        rw [c_law_term]
        have ek : kLst [.d (.str "a"), .d (.str "b"), .d (.str "nil"), .d (.str "abcdefgh")] h1 = .ok (.r h1.length) (h1 ++ [.lst ((words4.map PyData.str).map .d)]) := kLst_ap (by simp)
        have en := fun x : PyData => end_set (h := h) (j := [.lst ((words4.map PyData.str).map .d)]) (t := t) (o := LI t2) (x := x) clos_LI htl
        rw [show h1.set t (LI t2) = h.set t (LI t2) from by rw [eh1, List.set_set]] at e2
        subst z1
        obtain ⟨O, eO⟩ : ∃ O : AO, O = .lst ((words4.map PyData.str).map .d) := ⟨_, rfl⟩
        rw [← eO] at ek e2 en
        simp [t_law_term, q1, e1, hv, ek, e2, en]
      · obtain ⟨n, t2, e2, n0, n1, T2⟩ := r_draw (k := k + 1) (m := N) ht1 T1 (by omega) (by omega) (by omega)
        obtain ⟨n, rfl⟩ : ∃ m : Nat, n = (m : Int) := ⟨n.toNat, by omega⟩
        refine ⟨.name n, t2, ?_, dr_name (by omega), tw_up T2 (by omega)⟩
        rw [c_law_term]
        rw [show h1.set t (LI t2) = h.set t (LI t2) from by rw [eh1, List.set_set]] at e2
        have en := fun x : PyData => end_set0 (h := h) (t := t) (o := LI t2) (x := x) clos_LI htl
        have sz : (2 : Nat) ≤ sizeLine := by decide
        have g1 : ∀ H : AH, cmp .Lt (.d (.int v)) (.d (.int 4)) H = .ok (.d (.bool true)) H := fun H => by simp [cmp, cInt]; omega
        have g2 : ∀ H : AH, cmp .Gt (.d (.int N)) (.d (.int 0)) H = .ok (.d (.bool true)) H := fun H => by simp [cmp, cInt]; omega
        simp [t_law_term, q1, e1, hv, z0, z1, g1, g2, e2, kTup, allD, sz, en]
  | succ d ih =>
    intro k hk h ts c ht T hc
    obtain ⟨k, rfl⟩ : ∃ j, k = j + 3 := ⟨k - 3, by omega⟩
    have P1 : (4 : Int) ^ (d + 1 + 1) = 4 ^ (d + 1) * 4 := Int.pow_succ ..
    have P2 : (4 : Int) ≤ 4 ^ (d + 1) := by
      have : (4 : Int) ^ (d + 1) = ((4 ^ (d + 1) : Nat) : Int) := by simp
      rw [this]
      have := pow_pos4 d
      have : 4 ^ (d + 1) = 4 ^ d * 4 := Nat.pow_succ ..
      omega
    obtain ⟨P, hP⟩ : ∃ P : Int, P = 4 ^ (d + 1) := ⟨_, rfl⟩
    rw [P1, ← hP] at hc
    rw [P1, ← hP]
    rw [← hP] at P2
    have htl : t < h.length := (List.getElem?_eq_some_iff.mp ht).1
    obtain ⟨v, t1, e1, v0, v1, T1⟩ := r_draw (k := k + 1) (m := 7) ht T (by omega) (by decide) (by decide)
    obtain ⟨h1, eh1⟩ : ∃ h1, h1 = h.set t (LI t1) := ⟨_, rfl⟩
    rw [← eh1] at e1
    have ht1 : h1[t]? = some (LI t1) := by rw [eh1]; exact List.getElem?_set_self htl
    have hl1 : h1.length = h.length := by rw [eh1]; simp
    obtain ⟨dd, hdd⟩ : ∃ dd : Int, dd = ((d + 1 : Nat) : Int) := ⟨_, rfl⟩
    have q1 : cmp .Gt (.d (.int dd)) (.d (.int 0)) h = .ok (.d (.bool true)) h := by simp [cmp, cInt]; omega
    have hv : ∀ (x : Int) (H : AH), cmp .Eq (.d (.int v)) (.d (.int x)) H = .ok (.d (.bool (decide (v = x)))) H := fun x H => by simp [cmp, cEq, peek, sh_int, eqv_ii]
    by_cases z0 : v = 0
    · obtain ⟨p, t2, hp, e2, T2⟩ := r_pickL (k := k) (ds := ints5.map PyData.int) ht1 T1 (by omega) (by decide) (by decide)
      obtain ⟨x, hx, rfl⟩ := List.mem_map.mp hp
      refine ⟨.num x, t2, ?_, dr_num hx, tw_up T2 (by omega)⟩
      rw [c_law_term, ← hdd]
      have ek : kLst [.d (.int 0), .d (.int 1), .d (.int 2), .d (.int (-3)), .d (.int (10 ^ 9))] h1 = .ok (.r h1.length) (h1 ++ [.lst ((ints5.map PyData.int).map .d)]) := kLst_ap (by simp)
      have hpw : ∀ h, bPow (.d (.int 10)) (.d (.int 9)) h = .ok (.d (.int (10 ^ 9))) h := fun h => rfl
      have en := fun x : PyData => end_set (h := h) (j := [.lst ((ints5.map PyData.int).map .d)]) (t := t) (o := LI t2) (x := x) clos_LI htl
      rw [show h1.set t (LI t2) = h.set t (LI t2) from by rw [eh1, List.set_set]] at e2
      subst z0
      obtain ⟨O, eO⟩ : ∃ O : AO, O = .lst ((ints5.map PyData.int).map .d) := ⟨_, rfl⟩
      rw [← eO] at ek e2 en
      simp [-Int.reducePow, t_law_term, q1, e1, hv, bop, hpw, ek, e2, en]
    · by_cases z1 : v = 1
      · obtain ⟨p, t2, hp, e2, T2⟩ := r_pickL (k := k) (ds := words4.map PyData.str) ht1 T1 (by omega) (by decide) (by decide)
        obtain ⟨x, hx, rfl⟩ := List.mem_map.mp hp
        refine ⟨.word x, t2, ?_, dr_word (w4_ok x hx), tw_up T2 (by omega)⟩
        rw [c_law_term, ← hdd]
        have ek : kLst [.d (.str "a"), .d (.str "b"), .d (.str "nil"), .d (.str "abcdefgh")] h1 = .ok (.r h1.length) (h1 ++ [.lst ((words4.map PyData.str).map .d)]) := kLst_ap (by simp)
        have en := fun x : PyData => end_set (h := h) (j := [.lst ((words4.map PyData.str).map .d)]) (t := t) (o := LI t2) (x := x) clos_LI htl
        rw [show h1.set t (LI t2) = h.set t (LI t2) from by rw [eh1, List.set_set]] at e2
        subst z1
        obtain ⟨O, eO⟩ : ∃ O : AO, O = .lst ((words4.map PyData.str).map .d) := ⟨_, rfl⟩
        rw [← eO] at ek e2 en
        simp [t_law_term, q1, e1, hv, ek, e2, en]
      · by_cases z4 : v < 4
        · obtain ⟨n, t2, e2, n0, n1, T2⟩ := r_draw (k := k + 1) (m := N) ht1 T1 (by omega) (by omega) (by omega)
          obtain ⟨n, rfl⟩ : ∃ m : Nat, n = (m : Int) := ⟨n.toNat, by omega⟩
          refine ⟨.name n, t2, ?_, dr_name (by omega), tw_up T2 (by omega)⟩
          rw [c_law_term, ← hdd]
          rw [show h1.set t (LI t2) = h.set t (LI t2) from by rw [eh1, List.set_set]] at e2
          have en := fun x : PyData => end_set0 (h := h) (t := t) (o := LI t2) (x := x) clos_LI htl
          have sz : (2 : Nat) ≤ sizeLine := by decide
          have g1 : ∀ H : AH, cmp .Lt (.d (.int v)) (.d (.int 4)) H = .ok (.d (.bool true)) H := fun H => by simp [cmp, cInt]; omega
          have g2 : ∀ H : AH, cmp .Gt (.d (.int N)) (.d (.int 0)) H = .ok (.d (.bool true)) H := fun H => by simp [cmp, cInt]; omega
          simp [t_law_term, q1, e1, hv, z0, z1, g1, g2, e2, kTup, allD, sz, en]
        · obtain ⟨p, t2, hp, e2, T2⟩ := r_pickL (k := k) (ds := words3.map PyData.str) ht1 T1 (by omega) (by decide) (by decide)
          obtain ⟨f, hf, rfl⟩ := List.mem_map.mp hp
          have ek : kLst [.d (.str "f"), .d (.str "g"), .d (.str "cons")] h1 = .ok (.r h1.length) (h1 ++ [.lst ((words3.map PyData.str).map .d)]) := kLst_ap (by simp)
          rw [show h1.set t (LI t2) = h.set t (LI t2) from by rw [eh1, List.set_set]] at e2
          obtain ⟨O, eO⟩ : ∃ O : AO, O = .lst ((words3.map PyData.str).map .d) := ⟨_, rfl⟩
          rw [← eO] at ek e2
          have ht2 : (h.set t (LI t2) ++ [O])[t]? = some (LI t2) := by rw [List.getElem?_append_left (by simpa using htl)]; exact List.getElem?_set_self htl
          have cs : ∀ x : List Int, (h.set t (LI t2) ++ [O]).set t (LI x) = h.set t (LI x) ++ [O] := fun x => by rw [List.set_append_left _ _ (by simpa using htl), List.set_set]
          obtain ⟨m, t3, e3, m0, m1, T3⟩ := r_draw (k := k + 1) (m := 3) ht2 T2 (by omega) (by decide) (by decide)
          rw [cs] at e3
          obtain ⟨m, rfl⟩ : ∃ q : Nat, m = (q : Int) := ⟨m.toNat, by omega⟩
          have ht3 : (h.set t (LI t3) ++ [O])[t]? = some (LI t3) := by rw [List.getElem?_append_left (by simpa using htl)]; exact List.getElem?_set_self htl
          have cs3 : ∀ x : List Int, (h.set t (LI t3) ++ [O]).set t (LI x) = h.set t (LI x) ++ [O] := fun x => by rw [List.set_append_left _ _ (by simpa using htl), List.set_set]
          have rg := r_rng1 (m := 1 + m) (h := h.set t (LI t3) ++ [O]) (by omega)
          have rl : (rangeL 0 (1 + m)).length = 1 + m := rangeL_len
          have mP : (((1 + m : Nat)) : Int) * P ≤ 3 * P := Int.mul_le_mul_of_nonneg_right (by omega) (by omega)
          obtain ⟨vs, t4, y, e4, l4, D4, T4⟩ := term_loop (N := N) (d := d) (k := k + 2) (t := t) (ns := ns) (f := f) (w4 := .d (.int v)) (fun h ts c ht T hc => ih (k + 2) (by omega) h ts c ht T hc) (rangeL 0 (1 + m)) [] (h.set t (LI t3) ++ [O]) t3 (c + 1 + 1 + 1) none ht3 T3 (by rw [rl, ← hP]; omega) (by rw [rl]; simp; omega)
          rw [cs3, ← hdd, List.nil_append] at e4
          rw [rl] at l4
          rw [rl, ← hP] at T4
          refine ⟨.tree f vs, t4, ?_, dr_tree (w3_ok f hf) (by omega) (by omega) D4, tw_up T4 (by omega)⟩
          rw [c_law_term, ← hdd]
          have g1 : ∀ H : AH, cmp .Lt (.d (.int v)) (.d (.int 4)) H = .ok (.d (.bool false)) H := fun H => by simp [cmp, cInt]; omega
          have g2 : ∀ H : AH, cmp .Lt (.d (.int dd)) (.d (.int 1)) H = .ok (.d (.bool false)) H := fun H => by simp [cmp, cInt]; omega
          have sz : (1 : Nat) ≤ sizeLine := by decide
          have en := fun x : PyData => end_set (h := h) (j := [O]) (t := t) (o := LI t4) (x := x) clos_LI htl
          have ad : ∀ H : AH, bAdd (.d (.int 1)) (.d (.int m)) H = .ok (.d (.int ((1 + m : Nat) : Int))) H := fun H => by simp [bAdd]
          have kt : ∀ H : AH, kTup [.d (.str f)] H = .ok (.d (.tuple [.str f])) H := fun H => by simp [kTup, allD, sz]
          have e4' := e4
          rw [List.map_nil] at e4'
          rw [enc_tree]
          simp only [t_law_term, sBlock_two, sSet_ap, eCall_ap, aList_cons, mVar_0, mVar_s, mb_ok, kL1_ap, eIf_ap, tst_ap, eCmp_ap, kA_ap, mC_ap, q1, asB_ap', kIf_t, aList_nil, kL2_ap, e1, kSet_ap, List.set_cons_succ, List.set_cons_zero, fnext_nx, sIf_ap, hv, decide_eq_false z0, decide_eq_false z1, kIf_f, sBlock_nil, tAnd_ap, g1, mpure_ap, g2, eTup_ap, eLst_ap, ek, e2, kt, sFor_ap, iFun_ap, eBin_ap, bop, e3, ad, rg, kFor_ap, e4', sRet_ap, kRt_ap, sBlock_one, en]
end Ev
set_option Elab.async false
set_option linter.all false
set_option maxHeartbeats 400000
/-! U2: stores as lists. -/
namespace Ev
open PySem
def bd (fs : List (Option Tm)) : Bd := fun n => (fs[n]?).join
theorem bd_some {fs : List (Option Tm)} {n : Nat} {t : Tm} : bd fs n = some t ↔ fs[n]? = some (some t) := by
  unfold bd
  cases h : fs[n]? with
  | none => simp
  | some o => simp [Option.join]
theorem bd_lt {fs : List (Option Tm)} {n : Nat} {t : Tm} (h : bd fs n = some t) : n < fs.length := (List.getElem?_eq_some_iff.mp (bd_some.mp h)).1
theorem bd_none {fs : List (Option Tm)} {n : Nat} (h : bd fs n = none) (hn : n < fs.length) : fs[n]? = some none := by
  unfold bd at h
  rw [List.getElem?_eq_getElem hn] at h ⊢
  simpa [Option.join] using h
theorem bd_set {fs : List (Option Tm)} {n : Nat} {t : Tm} (hn : n < fs.length) : bd (fs.set n (some t)) = tellB (bd fs) n t := by
  funext i
  unfold bd tellB
  by_cases e : i = n
  · subst e; rw [if_pos rfl, List.getElem?_set_self hn]; rfl
  · rw [if_neg e, List.getElem?_set_ne (Ne.symm e)]
def names (n : Nat) : List (Option Tm) := List.replicate n none
theorem bd_names {n i : Nat} : bd (names n) i = none := by
  unfold bd names
  rw [List.getElem?_replicate]
  split <;> rfl
/-- ranks below the number of names -/
theorem acy_norm {fs : Bd} {rk : Nat → Nat} {N : Nat} (ha : Acy fs rk) (hN : ∀ i t, fs i = some t → ∀ n, t.has n = true → n < N) : ∃ rk' : Nat → Nat, Acy fs rk' ∧ ∀ n, rk' n < N + 1 := by
  refine ⟨fun n => ((List.range N).filter fun m => decide (rk m < rk n)).length, fun i t ht n hn => ?_, fun n => ?_⟩
  · have h1 := ha i t ht n hn
    have h2 := hN i t ht n hn
    have : ∀ (l : List Nat), n ∈ l → (l.filter fun m => decide (rk m < rk n)).length < (l.filter fun m => decide (rk m < rk i)).length := by
      intro l
      have le : ∀ l : List Nat, (l.filter fun m => decide (rk m < rk n)).length ≤ (l.filter fun m => decide (rk m < rk i)).length := by
        intro l
        induction l with
        | nil => simp
        | cons a l ih =>
          simp only [List.filter_cons]
          by_cases q : rk a < rk n
          · have q2 : rk a < rk i := by omega
            simp [q, q2]; omega
          · by_cases q2 : rk a < rk i
            · simp [q, q2]; omega
            · simp [q, q2]; omega
      induction l with
      | nil => intro m; cases m
      | cons a l ih =>
        intro m
        have l0 := le l
        simp only [List.filter_cons]
        rcases List.mem_cons.mp m with e | m
        · subst e
          simp [h1]; omega
        · have := ih m
          by_cases q : rk a < rk n
          · have q2 : rk a < rk i := by omega
            simp [q, q2]; omega
          · by_cases q2 : rk a < rk i
            · simp [q, q2]; omega
            · simp [q, q2]; omega
    exact this _ (List.mem_range.mpr h2)
  · have := List.length_filter_le (fun m => decide (rk m < rk n)) (List.range N)
    rw [List.length_range] at this
    show (List.filter (fun m => decide (rk m < rk n)) (List.range N)).length < N + 1
    omega
/-- how deep values are -/
theorem depth_app {σ : Nat → Tm} {c : Nat} (h : ∀ n, (σ n).depth ≤ c + 1) : ∀ t : Tm, (t.app σ).depth ≤ t.depth + c := by
  refine Tm.ind ?_ ?_ ?_ ?_
  · intro i; simp [Tm.depth]
  · intro i; simp [Tm.depth]
  · intro n; simp only [Tm.app_name, Tm.depth]; have := h n; omega
  · intro f as ih
    rw [Tm.app_tree]
    simp only [Tm.depth]
    have : Tm.depthL (as.map (Tm.app σ)) ≤ Tm.depthL as + c := by
      refine Tm.depthL_le fun b hb => ?_
      obtain ⟨a, ha, rfl⟩ := List.mem_map.mp hb
      have := ih a ha
      have := Tm.depth_le ha
      omega
    omega
theorem depth_res {fs : Bd} {M : Nat} (h : ∀ i t, fs i = some t → t.depth ≤ M + 1) : ∀ d t, (res fs d t).depth ≤ t.depth + d * M := by
  intro d
  induction d with
  | zero => intro t; simp [res]
  | succ d ih =>
    intro t
    show (t.app _).depth ≤ _
    refine depth_app (c := (d + 1) * M) (fun n => ?_) t
    cases hf : fs n with
    | none => simp [Tm.depth]
    | some u =>
      have h1 := ih u
      have h2 := h n u hf
      simp only
      rw [Nat.succ_mul]; omega
/-- terms that a store takes -/
structure TI (N M : Nat) (t : Tm) : Prop where
  nm : ∀ n, t.has n = true → n < N
  dp : t.depth ≤ M + 1
structure Good (N M : Nat) (fs : List (Option Tm)) : Prop where
  len : fs.length = N
  bt : ∀ i t, bd fs i = some t → TI N M t
  acy : ∃ rk, Acy (bd fs) rk ∧ ∀ n, rk n < N + 1
  low : ∀ i m, bd fs i = some (.name m) → m < i
/-- the value of a term -/
def val (fs : List (Option Tm)) (t : Tm) : Tm := res (bd fs) (fs.length + 1) t
section
variable {N M : Nat} {fs : List (Option Tm)}
theorem val_depth (g : Good N M fs) {t : Tm} : (val fs t).depth ≤ t.depth + (N + 1) * M := by
  unfold val
  rw [g.len]
  exact depth_res (fun i t h => (g.bt i t h).dp) _ t
theorem val_num {i : Int} : val fs (.num i) = .num i := res_num
theorem val_word {i : Str} : val fs (.word i) = .word i := res_word
theorem val_tree {f : Str} {as : List Tm} : val fs (.tree f as) = .tree f (as.map (val fs)) := res_tree
theorem val_free {n : Nat} (h : bd fs n = none) : val fs (.name n) = .name n := res_name_none h
theorem val_bound (g : Good N M fs) {n : Nat} {t : Tm} (h : bd fs n = some t) : val fs (.name n) = val fs t := by
  obtain ⟨rk, ha, hD⟩ := g.acy
  unfold val
  rw [res_name_some h, g.len]
  refine (res_stab ha N t fun m hm => ?_).symm
  have := ha n t h m hm
  have := hD n
  omega
theorem val_sol (g : Good N M fs) : Sol (bd fs) (rho (bd fs) (N + 1)) := by
  obtain ⟨rk, ha, hD⟩ := g.acy
  exact rho_sol ha hD
theorem val_app (g : Good N M fs) (t : Tm) : t.app (rho (bd fs) (N + 1)) = val fs t := by
  unfold val
  rw [g.len]
  exact rho_app (by omega) t
theorem val_eq {θ : Nat → Tm} (hs : Sol (bd fs) θ) (t : Tm) : (val fs t).app θ = t.app θ := sol_res hs _ t
theorem val_left (g : Good N M fs) {t : Tm} {n : Nat} (h : (val fs t).has n = true) : bd fs n = none := by
  obtain ⟨rk, ha, hD⟩ := g.acy
  refine res_free ha (N + 1) t (fun m _ => hD m) n ?_
  rw [← g.len]; exact h
theorem val_nm (g : Good N M fs) {t : Tm} (ht : ∀ n, t.has n = true → n < N) {n : Nat} (h : (val fs t).has n = true) : n < N := by
  have : ∀ d t, (∀ n, t.has n = true → n < N) → ∀ n, (res (bd fs) d t).has n = true → n < N := by
    intro d
    induction d with
    | zero => intro t ht n h; exact ht n h
    | succ d ih =>
      intro t ht n h
      obtain ⟨m, h1, h2⟩ := (Tm.has_app t).mp h
      cases hf : bd fs m with
      | none =>
        rw [hf] at h2
        have : m = n := by simpa [Tm.has] using h2
        rw [← this]; exact ht m h1
      | some u =>
        rw [hf] at h2
        exact ih u (g.bt m u hf).nm n h2
  exact this _ t ht n h
theorem good_names : Good N M (names N) := ⟨by simp [names], fun i t h => (by rw [bd_names] at h; cases h), ⟨fun _ => 0, fun i t h => (by rw [bd_names] at h; cases h), fun n => Nat.succ_pos _⟩, fun i m h => (by rw [bd_names] at h; cases h)⟩
theorem good_tell (g : Good N M fs) {n : Nat} {t : Tm} (hn : n < N) (hf : bd fs n = none) (ht : TI N M t) (ho : (val fs t).has n = false) (hl : ∀ m, t = .name m → m < n) : Good N M (fs.set n (some t)) := by
  have e := bd_set (fs := fs) (n := n) (t := t) (by rw [g.len]; exact hn)
  have hb : ∀ i u, bd (fs.set n (some t)) i = some u → TI N M u := fun i u h => by
    rw [e] at h
    unfold tellB at h
    split at h
    · cases h; exact ht
    · exact g.bt i u h
  refine ⟨by rw [List.length_set]; exact g.len, hb, ?_, fun i m h => ?_⟩
  · obtain ⟨rk, ha, hD⟩ := g.acy
    obtain ⟨rk', h'⟩ := acy_tell (t := t) ha hD hf (by rw [← g.len]; exact ho)
    rw [← e] at h'
    exact acy_norm h' fun i u hu n hn => (hb i u hu).nm n hn
  · rw [e] at h
    unfold tellB at h
    split at h
    · rename_i q; cases h; rw [q]; exact hl m rfl
    · exact g.low i m h
theorem sol_set (g : Good N M fs) {n : Nat} {t : Tm} {θ : Nat → Tm} (hn : n < N) (hf : bd fs n = none) : Sol (bd (fs.set n (some t))) θ ↔ Sol (bd fs) θ ∧ θ n = t.app θ := by
  rw [bd_set (by rw [g.len]; exact hn)]
  exact sol_tell hf
/-- names not told yet -/
def unb (fs : List (Option Tm)) : Nat := (fs.filter fun o => o.isNone).length
theorem unb_set {fs : List (Option Tm)} {n : Nat} {t : Tm} (h : fs[n]? = some none) : unb (fs.set n (some t)) < unb fs := by
  induction fs generalizing n with
  | nil => simp at h
  | cons a fs ih =>
    cases n with
    | zero =>
      have : a = none := by simpa using h
      subst this
      simp [unb]
    | succ n =>
      have := ih (n := n) (by simpa using h)
      unfold unb at this ⊢
      cases a <;> simp [List.filter_cons] <;> omega
theorem val_low (g : Good N M fs) {n m : Nat} (h : val fs (.name n) = .name m) : m ≤ n := by
  obtain ⟨rk, ha, hD⟩ := g.acy
  have : ∀ b n, rk n < b → val fs (.name n) = .name m → m ≤ n := by
    intro b
    induction b with
    | zero => intro n h; omega
    | succ b ih =>
      intro n hb h
      cases hf : bd fs n with
      | none => rw [val_free hf] at h; cases h; omega
      | some u =>
        rw [val_bound g hf] at h
        cases u with
        | num i => rw [val_num] at h; cases h
        | word i => rw [val_word] at h; cases h
        | tree f as => rw [val_tree] at h; cases h
        | name k =>
          have h1 := g.low n k hf
          have h2 := ha n (.name k) hf k (by simp [Tm.has])
          have := ih k (by omega) h
          omega
  exact this _ n (hD n) h
/-- stores with the same tellings have the same values -/
theorem val_canon {fs' : List (Option Tm)} {M' : Nat} (g : Good N M fs) (g' : Good N M' fs') (h : ∀ θ, Sol (bd fs) θ ↔ Sol (bd fs') θ) (t : Tm) : val fs t = val fs' t := by
  obtain ⟨rk, ha, hD⟩ := g.acy
  obtain ⟨rk', ha', hD'⟩ := g'.acy
  have e := least_eq (rho_most ha hD) (rho_most ha' hD') h (rho_sol ha hD) (rho_sol ha' hD') (fun n m q => val_low g (n := n) (by rw [← val_app g]; simpa using q)) (fun n m q => val_low g' (n := n) (by rw [← val_app g']; simpa using q))
  rw [← val_app g, ← val_app g', e]
end
end Ev
set_option Elab.async false
set_option linter.all false
set_option maxRecDepth 100000
set_option maxHeartbeats 2000000
namespace Ev
open PySem PySem.Spec PyProof.Rows L2 He
theorem ix_n1 {n : Int} {h : AH} : ixM (.d (.tuple [.str "?", .int n])) (.d (.int 1)) h = .ok (.d (.int n)) h := by simp [ixM, at1]
theorem isN_enc {t : Tm} {h : AH} : cIs true (.d (enc t)) (.d .none) h = .ok (.d (.bool true)) h := by cases t <;> simp [cIs]
theorem isN_none {h : AH} : cIs true (.d .none) (.d .none) h = .ok (.d (.bool false)) h := rfl
/-! ### terms are the same -/
noncomputable instance : DecidableEq Tm := fun a b => Classical.propDecidable (a = b)
theorem eqvAll_enc {as : List Tm} : ∀ (bs : List Tm), (∀ a ∈ as, ∀ b : Tm, b.ok = true → (PyData.eqv (enc a) (enc b) = true ↔ a = b)) → (∀ b ∈ bs, b.ok = true) → (PyData.eqvAll (as.map enc) (bs.map enc) = true ↔ as = bs) := by
  induction as with
  | nil =>
    intro bs _ _
    cases bs <;> simp [PyData.eqvAll]
  | cons a as ih =>
    intro bs h hb
    cases bs with
    | nil => simp [PyData.eqvAll]
    | cons b bs =>
      simp only [List.map_cons, PyData.eqvAll, Bool.and_eq_true, List.cons.injEq]
      rw [h a (by simp) b (hb b (by simp)), ih bs (fun x hx => h x (by simp [hx])) (fun x hx => hb x (by simp [hx]))]
theorem eqv_enc : ∀ (a : Tm), a.ok = true → ∀ b : Tm, b.ok = true → (PyData.eqv (enc a) (enc b) = true ↔ a = b) := by
  refine Tm.ind ?_ ?_ ?_ ?_
  · intro x _ b hb
    cases b <;> simp [PyData.eqv]
  · intro x _ b hb
    cases b <;> simp [PyData.eqv]
  · intro n _ b hb
    cases b with
    | num i => simp [PyData.eqv]
    | word i => simp [PyData.eqv]
    | name m =>
      rw [enc_name, enc_name]
      simp only [PyData.eqv, PyData.eqvAll, Bool.and_true, Bool.and_eq_true, beq_iff_eq, Tm.name.injEq]
      constructor
      · rintro ⟨_, h⟩; omega
      · intro h; exact ⟨by simp, by omega⟩
    | tree f as =>
      have q := isW_nq (Tm.ok_tree.mp hb).1
      rw [enc_name, enc_tree]
      simp only [PyData.eqv, PyData.eqvAll]
      constructor
      · intro h
        rw [Bool.and_eq_true] at h
        have : (f == ("?" : Str)) = true := by rw [beq_iff_eq]; exact (beq_iff_eq.mp h.1).symm
        rw [q] at this; cases this
      · intro h; cases h
  · intro f as ih ha b hb
    obtain ⟨o1, o2, o3, o4⟩ := Tm.ok_tree.mp ha
    cases b with
    | num i => simp [PyData.eqv]
    | word i => simp [PyData.eqv]
    | name m =>
      have q := isW_nq o1
      rw [enc_name, enc_tree]
      simp only [PyData.eqv, PyData.eqvAll, q]
      simp
    | tree f' bs =>
      obtain ⟨p1, p2, p3, p4⟩ := Tm.ok_tree.mp hb
      rw [enc_tree, enc_tree]
      simp only [PyData.eqv, PyData.eqvAll, Bool.and_eq_true, Tm.tree.injEq]
      rw [eqvAll_enc bs (fun a ha b hb => ih a ha (o4 a ha) b hb) p4, beq_iff_eq]
theorem eq_enc {a b : Tm} {h : AH} (ha : a.ok = true) (hb : b.ok = true) (da : a.depth ≤ 64) (db : b.depth ≤ 64) : cmp .Eq (.d (enc a)) (.d (enc b)) h = .ok (.d (.bool (decide (a = b)))) h := by
  have e : PyData.eqv (enc a) (enc b) = decide (a = b) := by
    cases q : PyData.eqv (enc a) (enc b) with
    | true => rw [decide_eq_true ((eqv_enc a ha b hb).mp q)]
    | false => exact (decide_eq_false fun e => by rw [(eqv_enc a ha b hb).mpr e] at q; cases q).symm
  simp [cmp, cEq, peek, enc_sh ha da, enc_sh hb db, e]
theorem ne_enc {a b : Tm} {h : AH} (ha : a.ok = true) (hb : b.ok = true) (da : a.depth ≤ 64) (db : b.depth ≤ 64) : cmp .NotEq (.d (enc a)) (.d (enc b)) h = .ok (.d (.bool (!decide (a = b)))) h := by
  have e : PyData.eqv (enc a) (enc b) = decide (a = b) := by
    cases q : PyData.eqv (enc a) (enc b) with
    | true => rw [decide_eq_true ((eqv_enc a ha b hb).mp q)]
    | false => exact (decide_eq_false fun e => by rw [(eqv_enc a ha b hb).mpr e] at q; cases q).symm
  simp [cmp, cEq, peek, enc_sh ha da, enc_sh hb db, e]
/-! ### comprehensions over a list of things -/
theorem lc_goA {α : Type} {id : Nat} {t : Tg} {tt : EnvW → M Bool} {el : ME} {env : EnvW} {h : AH} {p q : α → W} (hid : id = h.length) : ∀ (as : List α) (acc : List W),
    (∀ a ∈ as, ∃ e1, tgM t (p a) env = some e1 ∧ ∀ acc : List W, tt e1 (h ++ [.lst acc]) = .ok true (h ++ [.lst acc]) ∧ el e1 (h ++ [.lst acc]) = .ok (q a) (h ++ [.lst acc])) → acc.length + as.length ≤ 100000 →
    cLoop id t tt el (as.map p) env (h ++ [.lst acc]) = .ok () (h ++ [.lst (acc ++ as.map q)])
  | [], acc, _, _ => by simp [cLoop, mpure]
  | a :: as, acc, hw, hl => by
    obtain ⟨e1, h1, h2⟩ := hw a (List.mem_cons_self ..)
    obtain ⟨h3, h4⟩ := h2 acc
    have ih := lc_goA (tt := tt) (el := el) (p := p) (q := q) hid as (acc ++ [q a]) (fun x hx => hw x (List.mem_cons_of_mem _ hx)) (by simp at hl ⊢; omega)
    rw [List.map_cons]
    unfold cLoop
    rw [h1]
    simp only [mbind_ap]
    rw [show noEx (tt e1) (h ++ [.lst acc]) = .ok true (h ++ [.lst acc]) from by unfold noEx; rw [h3]]
    simp only [mb_ok, if_true, mbind_ap]
    rw [show noEx (el e1) (h ++ [.lst acc]) = .ok (q a) (h ++ [.lst acc]) from by unfold noEx; rw [h4]]
    simp only [mb_ok, mbind_ap]
    have e2 : pushM id (q a) (h ++ [.lst acc]) = .ok () (h ++ [.lst (acc ++ [q a])]) := by
      unfold pushM
      subst hid
      rw [show (h ++ [AO.lst acc])[h.length]? = some (.lst acc) from by simp]
      simp only
      rw [if_pos (Nat.lt_of_lt_of_le (show acc.length < 100000 by simp at hl; omega) (by decide))]
      simp
    rw [e2]
    simp only [mb_ok]
    rw [ih]
    simp
theorem lcA {α : Type} {t : Tg} {mi : EnvW → M Src} {tt : EnvW → M Bool} {el : ME} {env : EnvW} {h0 h : AH} {as : List α} {p q : α → W} (hs : mi env h0 = .ok (as.map p, none) h) (hl : as.length ≤ 100000)
    (hw : ∀ a ∈ as, ∃ e1, tgM t (p a) (wipeW env t.slots) = some e1 ∧ ∀ acc : List W, tt e1 (h ++ [.lst acc]) = .ok true (h ++ [.lst acc]) ∧ el e1 (h ++ [.lst acc]) = .ok (q a) (h ++ [.lst acc])) :
    eLC t mi tt el env h0 = .ok (.r h.length) (h ++ [.lst (as.map q)]) := by
  rw [eLC_ap, hs, mb_ok]
  show mb (cLoop h.length t tt el (as.map p) (wipeW env t.slots) (h ++ [.lst []])) (kRef h.length) = _
  rw [lc_goA rfl as [] hw (by simpa using hl)]
  simp
theorem lcA_lock {α : Type} {t : Tg} {mi : EnvW → M Src} {tt : EnvW → M Bool} {el : ME} {env : EnvW} {h0 h : AH} {as : List α} {p q : α → W} {i : Nat} (hs : mi env h0 = .ok (as.map p, some i) h) (hi : h[i]? = some (.lst (as.map p))) (hl : as.length ≤ 100000)
    (hw : ∀ a ∈ as, ∃ e1, tgM t (p a) (wipeW env t.slots) = some e1 ∧ ∀ acc : List W, tt e1 (h.set i .dead ++ [.lst acc]) = .ok true (h.set i .dead ++ [.lst acc]) ∧ el e1 (h.set i .dead ++ [.lst acc]) = .ok (q a) (h.set i .dead ++ [.lst acc])) :
    eLC t mi tt el env h0 = .ok (.r h.length) (h ++ [.lst (as.map q)]) := by
  rw [eLC_ap, hs, mb_ok]
  unfold kLC over
  simp only
  rw [lc_goA rfl as [] hw (by simpa using hl)]
  simp only [mb_ok, kRef_ap, List.length_set, List.nil_append]
  have hil : i < h.length := (List.getElem?_eq_some_iff.mp hi).1
  rw [List.set_append_left _ _ (by rw [List.length_set]; exact hil), List.set_set, set_same hi]
theorem lcD_map {α : Type} {t : Tg} {mi : EnvW → M Src} {tt : EnvW → M Bool} {el : ME} {env : EnvW} {h : AH} {as : List α} (p : α → W) (f : α → PyData) (hs : mi env h = .ok (as.map p, none) h) (hl : as.length ≤ 100000)
    (hw : ∀ a ∈ as, ∃ e1, tgM t (p a) (wipeW env t.slots) = some e1 ∧ ∀ acc : List W, tt e1 (h ++ [.lst acc]) = .ok true (h ++ [.lst acc]) ∧ el e1 (h ++ [.lst acc]) = .ok (.d (f a)) (h ++ [.lst acc])) :
    eOut (eLC t mi tt el) env h = .ok (.d (.list (as.map f))) h := by
  have e := lcA (q := fun a => .d (f a)) hs hl hw
  rw [show (as.map fun a => W.d (f a)) = (as.map f).map W.d from by rw [List.map_map]; rfl] at e
  rw [eOut_ap e, out_l]
end Ev
set_option Elab.async false
set_option linter.all false
set_option maxRecDepth 100000
set_option maxHeartbeats 2000000
namespace Ev
open PySem PySem.Spec PyProof.Rows L2 He
/-! ### a table as a store -/
def encT (kvs : List (Nat × Tm)) : List (PyData × PyData) := kvs.map fun p => (.int p.1, enc p.2)
def TabK (h : AH) (w : W) (kvs : List (Nat × Tm)) : Prop := w = .d (.dict (encT kvs)) ∨ ∃ i, w = .r i ∧ h[i]? = some (.dic (kvs.map fun p => (PyData.int p.1, W.d (enc p.2))))
theorem look_enc {α : Type} {f : Tm → α} {n : Nat} : ∀ kvs : List (Nat × Tm), lookD (.inl (n : Int)) (kvs.map fun p => (PyData.int p.1, f p.2)) = (kvs.lookup n).map f
  | [] => rfl
  | (m, t) :: kvs => by
    rw [List.map_cons]
    unfold lookD
    rw [List.lookup_cons]
    have e : keyIsD (.inl (n : Int)) (.int (m : Int)) = (n == m) := by
      show decide (Sum.inl (n : Int) = (Sum.inl (m : Int) : Key)) = (n == m)
      by_cases q : n = m
      · subst q; simp
      · rw [decide_eq_false (fun e => q (by injection e with e; omega))]; simp [q]
    rw [e]
    cases q : (n == m) with
    | true => simp
    | false => simp; exact look_enc kvs
theorem tab_at {h : AH} {w : W} {kvs : List (Nat × Tm)} {n : Nat} (t : TabK h w kvs) : dictAt h w (.inl (n : Int)) = some ((kvs.lookup n).map fun t => .d (enc t)) := by
  rcases t with rfl | ⟨i, rfl, hi⟩
  · show some ((lookD (.inl (n : Int)) (kvs.map fun p => (PyData.int p.1, enc p.2))).map W.d) = _
    rw [look_enc, Option.map_map]; rfl
  · unfold dictAt
    simp only [hi]
    rw [look_enc (f := fun t => W.d (enc t))]
theorem dat_enc : ∀ kvs : List (Nat × Tm), datD (kvs.map fun p => (PyData.int p.1, W.d (enc p.2))) = some (encT kvs)
  | [] => rfl
  | (m, t) :: kvs => by
    rw [List.map_cons]
    unfold datD
    rw [dat_enc kvs]; rfl
theorem tab_items {h : AH} {w : W} {kvs : List (Nat × Tm)} (t : TabK h w kvs) : itemsD h w = some (encT kvs) := by
  rcases t with rfl | ⟨i, rfl, hi⟩
  · rfl
  · unfold itemsD
    simp only [hi]
    exact dat_enc kvs
theorem tab_in {h : AH} {w : W} {kvs : List (Nat × Tm)} {n : Nat} (t : TabK h w kvs) : cmp .In (.d (.int n)) w h = .ok (.d (.bool (kvs.lookup n).isSome)) h := by
  have e := tab_at (n := n) t
  have p : (peek h w).bind seqD = none := by
    rcases t with rfl | ⟨i, rfl, hi⟩
    · rfl
    · simp [peek, hi]
  show cIn false (.d (.int n)) w h = _
  unfold cIn
  rcases t with rfl | ⟨i, rfl, hi⟩
  all_goals
    simp only [p, keyOf, Option.bind_some, e, Option.isSome_map]
    rfl
theorem tab_ix {h : AH} {w : W} {kvs : List (Nat × Tm)} {n : Nat} {u : Tm} (t : TabK h w kvs) (hu : kvs.lookup n = some u) : ixM w (.d (.int n)) h = .ok (.d (enc u)) h := by
  have e := tab_at (n := n) t
  rw [hu] at e
  rcases t with rfl | ⟨i, rfl, hi⟩
  · unfold ixM
    simp only [keyOf, Option.bind_some, e]
    rfl
  · unfold dictAt at e
    simp only [hi] at e
    unfold ixM
    simp only [hi]
    have e' : lookD (.inl (n : Int)) (kvs.map fun p => (PyData.int p.1, W.d (enc p.2))) = some (.d (enc u)) := by simpa using e
    rw [e']
theorem TabK.app {h l : AH} {w : W} {kvs : List (Nat × Tm)} (t : TabK h w kvs) : TabK (h ++ l) w kvs := by
  rcases t with rfl | ⟨i, rfl, hi⟩
  · exact .inl rfl
  · exact .inr ⟨i, rfl, by rw [List.getElem?_append_left (List.getElem?_eq_some_iff.mp hi).1]; exact hi⟩
theorem TabK.set {h : AH} {w : W} {kvs : List (Nat × Tm)} {x : Nat} {o : AO} (t : TabK h w kvs) (hx : w ≠ .r x) : TabK (h.set x o) w kvs := by
  rcases t with rfl | ⟨i, rfl, hi⟩
  · exact .inl rfl
  · exact .inr ⟨i, rfl, by rw [List.getElem?_set_ne (fun e => hx (by rw [e]))]; exact hi⟩
/-- a table that tells what a store tells -/
structure Tab (h : AH) (w : W) (fs : List (Option Tm)) : Prop where
  ex : ∃ kvs : List (Nat × Tm), TabK h w kvs ∧ (kvs.map (·.1)).Nodup ∧ ∀ n, kvs.lookup n = bd fs n
theorem Tab.app {h l : AH} {w : W} {fs : List (Option Tm)} (t : Tab h w fs) : Tab (h ++ l) w fs := by
  obtain ⟨kvs, h1, h2⟩ := t.ex
  exact ⟨kvs, h1.app, h2⟩
theorem Tab.set {h : AH} {w : W} {fs : List (Option Tm)} {x : Nat} {o : AO} (t : Tab h w fs) (hx : w ≠ .r x) : Tab (h.set x o) w fs := by
  obtain ⟨kvs, h1, h2⟩ := t.ex
  exact ⟨kvs, h1.set hx, h2⟩
theorem Tab.inn {h : AH} {w : W} {fs : List (Option Tm)} {n : Nat} (t : Tab h w fs) : cmp .In (.d (.int n)) w h = .ok (.d (.bool (bd fs n).isSome)) h := by
  obtain ⟨kvs, h1, h2, h3⟩ := t.ex
  rw [tab_in h1, h3]
theorem Tab.ix {h : AH} {w : W} {fs : List (Option Tm)} {n : Nat} {u : Tm} (t : Tab h w fs) (hu : bd fs n = some u) : ixM w (.d (.int n)) h = .ok (.d (enc u)) h := by
  obtain ⟨kvs, h1, h2, h3⟩ := t.ex
  exact tab_ix h1 (by rw [h3]; exact hu)
/-! ### is_name, is_tree of the law -/
section
variable {k : Nat} {h : AH} {t : Tm}
theorem l_is_nm (hk : 1 ≤ k) (ht : t.ok = true) : call k (pl "_law_is_name") [.d (enc t)] h = .ok (.d (.bool t.isName)) h := by
  obtain ⟨k, rfl⟩ : ∃ j, k = j + 1 := ⟨k - 1, by omega⟩
  rw [c_law_is_name]
  cases t with
  | num i => simp [t_law_is_name, isiM, tyName, isSub, Tm.isName]
  | word s => simp [t_law_is_name, isiM, tyName, isSub, Tm.isName]
  | name n => simp [t_law_is_name, isiM, tyName, isSub, Tm.isName, cmp, cEq, peek, ixM, at0, sh_q, eqv_qq]
  | tree f as =>
    obtain ⟨h1, h2, h3, h4⟩ := Tm.ok_tree.mp ht
    have hs := sh_str h1
    have hq := eqv_q h1
    simp [t_law_is_name, isiM, tyName, isSub, Tm.isName, cmp, cEq, peek, ixM, at0, hs, sh_q, hq]
theorem l_is_tr (hk : 1 ≤ k) (ht : t.ok = true) : call k (pl "_law_is_tree") [.d (enc t)] h = .ok (.d (.bool t.isTree)) h := by
  obtain ⟨k, rfl⟩ : ∃ j, k = j + 1 := ⟨k - 1, by omega⟩
  rw [c_law_is_tree]
  cases t with
  | num i => simp [t_law_is_tree, isiM, tyName, isSub, Tm.isTree]
  | word s => simp [t_law_is_tree, isiM, tyName, isSub, Tm.isTree]
  | name n => simp [t_law_is_tree, isiM, tyName, isSub, Tm.isTree, cmp, cEq, peek, ixM, at0, sh_q, eqv_qq]
  | tree f as =>
    obtain ⟨h1, h2, h3, h4⟩ := Tm.ok_tree.mp ht
    have hs := sh_str h1
    have hq := eqv_q h1
    simp [t_law_is_tree, isiM, tyName, isSub, Tm.isTree, cmp, cEq, peek, ixM, at0, hs, sh_q, hq]
end
theorem cut01 {α : Type} {a : α} {r : List α} : cutL (a :: r) none (some 1) = [a] := by
  have e : HT.sIx (a :: r).length (a :: r).length (some 1) = 1 := by
    rw [show (1 : Int) = ((1 : Nat) : Int) from rfl, HT.sIx_nat]; simp
  unfold cutL
  rw [e, HT.sIx_none]
  simp
end Ev
set_option Elab.async false
set_option linter.all false
set_option maxRecDepth 100000
set_option maxHeartbeats 2000000
namespace Ev
open PySem PySem.Spec PyProof.Rows L2 He
/-! ### names -/
theorem filt_map {acc : List Int} : ∀ ns : List Int, (ns.map fun x => W.d (.int x)).filterMap (fun w => match w with | .d (.int x) => if acc.contains x then none else some (W.d (.int x)) | _ => none) = (ns.filter fun x => !acc.contains x).map fun x => W.d (.int x)
  | [] => rfl
  | x :: ns => by
    have ih := filt_map (acc := acc) ns
    rw [List.map_cons, List.filterMap_cons, List.filter_cons]
    simp only
    cases q : acc.contains x with
    | true => simp only [if_true, Bool.not_true, Bool.false_eq_true, if_false]; exact ih
    | false => simp only [Bool.false_eq_true, if_false, Bool.not_false, if_true, List.map_cons]; rw [ih]
theorem LI_map {is : List Int} : LI is = .lst (is.map fun x => W.d (.int x)) := by simp [LI]
theorem nd_filter {a : Int} : ∀ {ns : List Int}, ns.Nodup → ns.length ≤ (ns.filter fun x => x != a).length + 1
  | [], _ => by simp
  | x :: ns, h => by
    rw [List.nodup_cons] at h
    rw [List.filter_cons]
    by_cases e : x = a
    · subst e
      have : ns.filter (fun y => y != x) = ns := List.filter_eq_self.mpr fun y hy => by
        rw [bne_iff_ne]; intro e; subst e; exact h.1 hy
      simp [this]
    · have := nd_filter (a := a) h.2
      rw [if_pos (by simpa using e)]
      simp only [List.length_cons]; omega
theorem nd_len : ∀ {N : Nat} {ns : List Int}, ns.Nodup → (∀ x ∈ ns, 0 ≤ x ∧ x < N) → ns.length ≤ N
  | 0, [], _, _ => by simp
  | 0, x :: ns, _, h => by have := h x (by simp); omega
  | N + 1, ns, nd, h => by
    have h1 := nd_filter (a := (N : Int)) nd
    have h2 := nd_len (N := N) (ns := ns.filter fun x => x != (N : Int)) (nd.filter _) fun x hx => by
      obtain ⟨h3, h4⟩ := List.mem_filter.mp hx
      have := h x h3
      have : x ≠ (N : Int) := by simpa using h4
      omega
    omega
structure Nms (N : Nat) (t : Nat → Bool) (ns : List Int) : Prop where
  nd : ns.Nodup
  lo : ∀ x ∈ ns, 0 ≤ x ∧ x < (N : Int)
  iff : ∀ n : Nat, (n : Int) ∈ ns ↔ t n = true
noncomputable abbrev bNm (k : Nat) : MS := sBlock [sSet 1 (eBin .Add (mVar 1) (eLC (.n 3) (iVal (eCall (call k) (pl "_law_names") (aList [mVar 2]))) (tst (eCmp .NotIn (mVar 3) (mVar 1))) (mVar 3)))]
theorem nm_loop {k N : Nat} (hN : N ≤ 1000) {w0 : W} {h : AH} : ∀ (as : List Tm) (acc : List Int) (J : AH) (l : Nat) (x2 x3 : Option W), (∀ a ∈ as, ∀ H : AH, ∃ ns : List Int, call k (pl "_law_names") [.d (enc a)] H = .ok (.d (dI ns)) H ∧ Nms N (fun n => a.has n) ns) → (h ++ J)[l]? = some (LI acc) → h.length ≤ l → acc.Nodup → (∀ x ∈ acc, 0 ≤ x ∧ x < (N : Int)) →
    ∃ acc' J' l' y2 y3, floop (.n 2) (bNm k) (as.map fun a => .d (enc a)) [some w0, some (.r l), x2, x3] (h ++ J) = .ok (.nx [some w0, some (.r l'), y2, y3]) (h ++ J') ∧ (h ++ J')[l']? = some (LI acc') ∧ h.length ≤ l' ∧ acc'.Nodup ∧ (∀ x ∈ acc', 0 ≤ x ∧ x < (N : Int)) ∧ (∀ n : Nat, (n : Int) ∈ acc' ↔ (n : Int) ∈ acc ∨ as.any (Tm.has n) = true)
  | [], acc, J, l, x2, x3, _, hl, hlh, nd, lo => ⟨acc, J, l, x2, x3, rfl, hl, hlh, nd, lo, fun n => by simp⟩
  | a :: as, acc, J, l, x2, x3, ha, hl, hlh, nd, lo => by
    obtain ⟨ns, e1, M⟩ := ha a (by simp) (h ++ J)
    have e2 := M.iff
    have z1 := nd_len nd lo
    have z2 := nd_len M.nd M.lo
    obtain ⟨H, eH⟩ : ∃ H, H = h ++ J := ⟨_, rfl⟩
    rw [← eH] at e1 hl
    have ll : l < H.length := (List.getElem?_eq_some_iff.mp hl).1
    have lc : eLC (.n 3) (iVal (eCall (call k) (pl "_law_names") (aList [mVar 2]))) (tst (eCmp .NotIn (mVar 3) (mVar 1))) (mVar 3) [some w0, some (.r l), some (.d (enc a)), x3] H = .ok (.r H.length) (H ++ [LI (ns.filter fun x => !acc.contains x)]) := by
      refine (lc_ap (ws := ns.map fun x => W.d (.int x)) (f := fun w => match w with | .d (.int x) => if acc.contains x then none else some (W.d (.int x)) | _ => none) ?_ (by rw [List.length_map]; exact Nat.le_trans (show ns.length ≤ 10000 by omega) (by decide)) ?_).trans ?_
      · simp [e1, srcM, dI]
      · intro w hw ac
        obtain ⟨x, hx, rfl⟩ := List.mem_map.mp hw
        refine ⟨_, rfl, ?_⟩
        have i1 := in_LI (h := H ++ [.lst ac]) (i := l) (is := acc) (j := x) (neg := true) (by rw [List.getElem?_append_left ll]; exact hl)
        simp only
        cases q : acc.contains x with
        | true =>
          rw [q] at i1
          simp [wipeW, Tg.slots, cmp, i1]
        | false =>
          rw [q] at i1
          simp [wipeW, Tg.slots, cmp, i1]
      · rw [filt_map, LI_map]
    have ba : bAdd (.r l) (.r H.length) (H ++ [LI (ns.filter fun x => !acc.contains x)]) = .ok (.r (H.length + 1)) (H ++ [LI (ns.filter fun x => !acc.contains x), LI (acc ++ ns.filter fun x => !acc.contains x)]) := by
      refine (bAdd_l (a := acc.map fun x => W.d (.int x)) (b := (ns.filter fun x => !acc.contains x).map fun x => W.d (.int x)) ?_ ?_ ?_).trans ?_
      · rw [List.getElem?_append_left ll, hl, LI_map]
      · rw [← LI_map]; simp
      · have := List.length_filter_le (fun x => !acc.contains x) ns
        refine Nat.le_trans (show _ ≤ 20000 from ?_) (by decide)
        rw [List.length_map, List.length_map]; omega
      · simp [LI_map]
    have nd' : (acc ++ ns.filter fun x => !acc.contains x).Nodup := by
      rw [List.nodup_append]
      refine ⟨nd, M.nd.filter _, fun x hx y hy e => ?_⟩
      subst e
      have := (List.mem_filter.mp hy).2
      simp [hx] at this
    have lo' : ∀ x ∈ acc ++ ns.filter fun x => !acc.contains x, 0 ≤ x ∧ x < (N : Int) := fun x hx => by
      rcases List.mem_append.mp hx with q | q
      · exact lo x q
      · exact M.lo x (List.mem_filter.mp q).1
    obtain ⟨acc', J', l', y2, y3, r1, r2, r3, r5, r6, r4⟩ := nm_loop (k := k) (N := N) hN (w0 := w0) (h := h) as (acc ++ ns.filter fun x => !acc.contains x) (J ++ [LI (ns.filter fun x => !acc.contains x), LI (acc ++ ns.filter fun x => !acc.contains x)]) (H.length + 1) (some (.d (enc a))) x3 (fun b hb => ha b (by simp [hb])) (by rw [← List.append_assoc, ← eH, at_l1]; rfl) (by rw [eH]; simp; omega) nd' lo'
    rw [← List.append_assoc, ← eH] at r1
    refine ⟨acc', J', l', y2, y3, ?_, r2, r3, r5, r6, fun n => ?_⟩
    · rw [← eH, List.map_cons, floop_n]
      obtain ⟨fl, efl⟩ : ∃ fl, fl = ns.filter fun x => !acc.contains x := ⟨_, rfl⟩
      rw [← efl] at lc ba r1
      have hb : bNm k [some w0, some (.r l), some (.d (enc a)), x3] H = .ok (.nx [some w0, some (.r (H.length + 1)), some (.d (enc a)), x3]) (H ++ [LI fl, LI (acc ++ fl)]) := by
        simp [-eLC_ap, bNm, ↓lc, bop, ba]
      rw [show ([some w0, some (.r l), x2, x3] : EnvW).set 2 (some (.d (enc a))) = [some w0, some (.r l), some (.d (enc a)), x3] from rfl, hb, mb_ok, kLoop_nx]
      exact r1
    · rw [r4 n, List.mem_append, List.mem_filter, List.any_cons, Bool.or_eq_true, e2 n]
      constructor
      · rintro ((h1 | ⟨h1, _⟩) | h1)
        · exact .inl h1
        · exact .inr (.inl h1)
        · exact .inr (.inr h1)
      · rintro (h1 | h1 | h1)
        · exact .inl (.inl h1)
        · by_cases q : (n : Int) ∈ acc
          · exact .inl (.inl q)
          · exact .inl (.inr ⟨h1, by simpa using q⟩)
        · exact .inr h1
theorem l_names {N : Nat} (hN : N ≤ 1000) : ∀ (t : Tm), t.ok = true → (∀ n, t.has n = true → n < N) → ∀ (k : Nat), t.depth + 1 ≤ k → ∀ h : AH, ∃ ns : List Int, call k (pl "_law_names") [.d (enc t)] h = .ok (.d (dI ns)) h ∧ Nms N (fun n => t.has n) ns := by
  refine Tm.ind ?_ ?_ ?_ ?_
  · intro i _ _ k hk h
    obtain ⟨k, rfl⟩ : ∃ j, k = j + 1 := ⟨k - 1, by omega⟩
    simp [Tm.depth] at hk
    refine ⟨[], ?_, by simp, by simp, fun n => by simp [Tm.has]⟩
    rw [c_law_names]
    have e0 := fun H : AH => l_is_nm (k := k) (t := .num i) (h := H) (by omega) rfl
    have e1 := fun H : AH => l_is_tr (k := k) (t := .num i) (h := H) (by omega) rfl
    have ek : kLst [] h = .ok (.r h.length) (h ++ [.lst []]) := kLst_ap (by simp)
    have en : endM h (.ok (.rt (.r h.length)) (h ++ [.lst []])) = .ok (.d (dI [])) h := end_l1 (ds := []) (j := [])
    rw [enc_num] at *
    simp [t_law_names, e0, e1, Tm.isName, Tm.isTree, ek, en]
  · intro i h1 _ k hk h
    obtain ⟨k, rfl⟩ : ∃ j, k = j + 1 := ⟨k - 1, by omega⟩
    simp [Tm.depth] at hk
    refine ⟨[], ?_, by simp, by simp, fun n => by simp [Tm.has]⟩
    rw [c_law_names]
    have e0 := fun H : AH => l_is_nm (k := k) (t := .word i) (h := H) (by omega) h1
    have e1 := fun H : AH => l_is_tr (k := k) (t := .word i) (h := H) (by omega) h1
    have ek : kLst [] h = .ok (.r h.length) (h ++ [.lst []]) := kLst_ap (by simp)
    have en : endM h (.ok (.rt (.r h.length)) (h ++ [.lst []])) = .ok (.d (dI [])) h := end_l1 (ds := []) (j := [])
    rw [enc_word] at *
    simp [t_law_names, e0, e1, Tm.isName, Tm.isTree, ek, en]
  · intro n _ hb k hk h
    obtain ⟨k, rfl⟩ : ∃ j, k = j + 1 := ⟨k - 1, by omega⟩
    simp [Tm.depth] at hk
    have hn := hb n (by simp [Tm.has])
    refine ⟨[(n : Int)], ?_, by simp, by simp; omega, fun m => by simp [Tm.has]; omega⟩
    rw [c_law_names]
    have e0 := fun H : AH => l_is_nm (k := k) (t := .name n) (h := H) (by omega) rfl
    have ek : kLst [.d (.int n)] h = .ok (.r h.length) (h ++ [.lst [.d (.int n)]]) := kLst_ap (by simp)
    have en : endM h (.ok (.rt (.r h.length)) (h ++ [.lst [.d (.int n)]])) = .ok (.d (dI [(n : Int)])) h := end_l1 (ds := [.int n]) (j := [])
    rw [enc_name] at *
    simp [t_law_names, e0, Tm.isName, ix_n1, ek, en]
  · intro f as ih h1 hz k hk h
    obtain ⟨k, rfl⟩ : ∃ j, k = j + 1 := ⟨k - 1, by omega⟩
    simp only [Tm.depth] at hk
    obtain ⟨o1, o2, o3, o4⟩ := Tm.ok_tree.mp h1
    obtain ⟨acc', J', l', y2, y3, r1, r2, r3, r5, r6, r4⟩ := nm_loop (k := k) (N := N) hN (w0 := .d (.tuple (.str f :: as.map enc))) (h := h) as [] [.lst []] h.length none none (fun a ha H => ih a ha (o4 a ha) (fun n hn => hz n (by rw [Tm.has_tree, List.any_eq_true]; exact ⟨a, ha, hn⟩)) k (by have := Tm.depth_le ha; omega) H) (by simp [LI]) (Nat.le_refl _) (by simp) (by simp)
    rw [show (as.map fun a => W.d (enc a)) = (as.map enc).map W.d from by rw [List.map_map]; rfl] at r1
    refine ⟨acc', ?_, r5, r6, fun n => by rw [r4 n, Tm.has_tree]; simp⟩
    rw [c_law_names]
    have e0 := fun H : AH => l_is_nm (k := k) (t := .tree f as) (h := H) (by have := Tm.depth_pos (Tm.tree f as); omega) h1
    have e1 := fun H : AH => l_is_tr (k := k) (t := .tree f as) (h := H) (by omega) h1
    have ek : kLst [] h = .ok (.r h.length) (h ++ [.lst []]) := kLst_ap (by simp)
    have en : endM h (.ok (.rt (.r l')) (h ++ J')) = .ok (.d (dI acc')) h := end_l (ds := acc'.map PyData.int) r3 (by rw [r2]; rfl)
    rw [enc_tree] at *
    simp [-List.map_map, -floop_n, t_law_names, e0, e1, Tm.isName, Tm.isTree, ek, slM, cut1, srcM, r1, en]
end Ev
set_option Elab.async false
set_option linter.all false
set_option maxRecDepth 100000
set_option maxHeartbeats 2000000
namespace Ev
open PySem PySem.Spec PyProof.Rows L2 He
/-! ### a table with one more -/
abbrev kT (p : Nat × Tm) : PyData := .tuple [.int p.1, enc p.2]
abbrev eD (p : Nat × Tm) : PyData × W := (.int p.1, .d (enc p.2))
theorem pairs_enc : ∀ kvs : List (Nat × Tm), pairsD (kvs.map kT) = some (kvs.map fun p => ((.inl (p.1 : Int) : Key), enc p.2))
  | [] => rfl
  | (n, t) :: kvs => by
    rw [List.map_cons]
    unfold pairsD
    rw [pairs_enc kvs]
    rfl
theorem key_any {n : Nat} : ∀ kvs : List (Nat × Tm), ((kvs.map eD).any fun p => keyIsD (.inl (n : Int)) p.1) = (kvs.map (·.1)).contains n
  | [] => rfl
  | (m, t) :: kvs => by
    rw [List.map_cons, List.any_cons, List.map_cons, List.contains_cons, key_any kvs]
    congr 1
    show decide (Sum.inl (n : Int) = (Sum.inl (m : Int) : Key)) = (n == m)
    by_cases q : n = m
    · subst q; simp
    · rw [decide_eq_false (fun e => q (by injection e with e; omega))]; simp [q]
theorem merge_enc : ∀ (kvs acc : List (Nat × Tm)), ((acc ++ kvs).map (·.1)).Nodup → (kvs.map fun p => ((.inl (p.1 : Int) : Key), enc p.2)).foldl (fun acc kv => putDW kv.1 (.d kv.2) acc) (acc.map eD) = (acc ++ kvs).map eD
  | [], acc, _ => by simp
  | (n, t) :: kvs, acc, nd => by
    rw [List.map_cons, List.foldl_cons]
    have hn : (acc.map (·.1)).contains n = false := by
      rw [List.map_append, List.map_cons, List.nodup_append] at nd
      cases q : (acc.map (·.1)).contains n with
      | false => rfl
      | true =>
        rw [List.contains_iff_mem] at q
        exact absurd rfl (nd.2.2 n q n (by simp))
    have e : putDW (.inl (n : Int)) (.d (enc t)) (acc.map eD) = (acc ++ [(n, t)]).map eD := by
      unfold putDW
      rw [key_any, hn]
      simp [keyD]
    have ih := merge_enc kvs (acc ++ [(n, t)]) (by simpa using nd)
    simp only at e ⊢
    rw [e, ih]
    simp
theorem end_dic {h j : AH} {i : Nat} {kvs : List (Nat × Tm)} (hi : h.length ≤ i) (hj : (h ++ j)[i]? = some (.dic (kvs.map eD))) : endM h (.ok (.rt (.r i)) (h ++ j)) = .ok (.d (.dict (encT kvs))) h := by
  show outM h (.r i) (h ++ j) = _
  unfold outM
  rw [if_pos (fineB_iff.mpr fine_app)]
  have e : frzW h.length (h ++ j) (.r i) = some (.d (.dict (encT kvs))) := by
    show (if i < h.length then some (W.r i) else (frz h.length (h ++ j) 4 (.r i)).map W.d) = _
    rw [if_neg (by omega)]
    have e3 : frz h.length (h ++ j) (3 + 1) (.r i) = some (.dict (encT kvs)) := by
      show (if h.length ≤ i then (match (h ++ j)[i]? with
        | some (.lst ws) => (frzLw (frz h.length (h ++ j) 3) ws).map PyData.list
        | some (.dic kvs) => (frzDw (frz h.length (h ++ j) 3) kvs).map PyData.dict
        | _ => none) else none) = _
      rw [if_pos hi, hj]
      show (frzDw (frz h.length (h ++ j) 3) (kvs.map eD)).map PyData.dict = _
      rw [go kvs]; rfl
    rw [e3]; rfl
  rw [e]
  show R.ok _ ((h ++ j).take h.length) = _
  rw [take_app]
where
  go {n : Nat} {h : AH} {k : Nat} : ∀ kvs : List (Nat × Tm), frzDw (frz n h k) (kvs.map eD) = some (encT kvs)
    | [] => rfl
    | (m, t) :: kvs => by
      rw [List.map_cons]
      unfold frzDw
      have e1 : frz n h k (.d (enc t)) = some (enc t) := by cases k <;> simp [frz]
      rw [e1, go kvs]; rfl
theorem look_app {n m : Nat} {t : Tm} : ∀ {kvs : List (Nat × Tm)}, kvs.lookup n = none → (kvs ++ [(n, t)]).lookup m = if m = n then some t else kvs.lookup m
  | [], _ => by
    rw [List.nil_append, List.lookup_cons]
    by_cases q : m = n
    · simp [q]
    · rw [if_neg q, show (m == n) = false from by simpa using q]
  | (a, b) :: kvs, h => by
    rw [List.lookup_cons] at h
    cases e : (n == a) with
    | true => rw [e] at h; cases h
    | false =>
      rw [e] at h
      rw [List.cons_append, List.lookup_cons, List.lookup_cons, look_app h]
      by_cases q : m = n
      · subst q; rw [e, if_pos rfl]
      · rw [if_neg q, if_neg q]
theorem look_mem {n : Nat} : ∀ {kvs : List (Nat × Tm)}, kvs.lookup n = none → n ∉ kvs.map (·.1)
  | [], _ => by simp
  | (a, b) :: kvs, h => by
    rw [List.lookup_cons] at h
    cases e : (n == a) with
    | true => rw [e] at h; cases h
    | false =>
      rw [e] at h
      have := look_mem h
      simp only [List.map_cons, List.mem_cons, not_or]
      exact ⟨by simpa using e, this⟩
/-- dict(list(table.items()) + [(n, t)]), as it comes back -/
theorem r_more {h : AH} {w : W} {fs : List (Option Tm)} {n : Nat} {t : Tm} {env : EnvW} {m0 mk mt : ME} (s : Tab h w fs) (hf : bd fs n = none) (hn : n < fs.length) (hl : fs.length ≤ 1000) (e0 : m0 env h = .ok w h) (e1 : ∀ H, mk env H = .ok (.d (.int n)) H) (e2 : ∀ H, mt env H = .ok (.d (enc t)) H) :
    ∃ w', Tab h w' (fs.set n (some t)) ∧ (∃ i J, eFun fDict (aList [eBin .Add (eItems m0) (eLst (aList [eTup (aList [mk, mt])]))]) env h = .ok (.r i) (h ++ J) ∧ endM h (.ok (.rt (.r i)) (h ++ J)) = .ok w' h) ∧ ∃ ds, w' = .d (.dict ds) := by
  obtain ⟨kvs, h1, h2, h3⟩ := s.ex
  have hk : kvs.lookup n = none := by rw [h3]; exact hf
  have nd : ((kvs ++ [(n, t)]).map (·.1)).Nodup := by
    rw [List.map_append, List.nodup_append]
    refine ⟨h2, by simp, fun x hx y hy e => ?_⟩
    have hy : y = n := by simpa using hy
    subst e
    rw [hy] at hx
    exact look_mem hk hx
  have hlen : kvs.length ≤ fs.length := by
    have : ∀ x ∈ kvs.map (fun p => (p.1 : Int)), 0 ≤ x ∧ x < (fs.length : Int) := fun x hx => by
      obtain ⟨p, hp, rfl⟩ := List.mem_map.mp hx
      refine ⟨by omega, ?_⟩
      obtain ⟨u, hu⟩ : ∃ u, kvs.lookup p.1 = some u := by
        cases q : kvs.lookup p.1 with
        | some u => exact ⟨u, rfl⟩
        | none => exact absurd (List.mem_map_of_mem (f := (·.1)) hp) (look_mem q)
      rw [h3] at hu
      have := bd_lt hu
      omega
    have nd2 : (kvs.map fun p => (p.1 : Int)).Nodup := by
      rw [show (kvs.map fun p => (p.1 : Int)) = (kvs.map (·.1)).map (fun x : Nat => (x : Int)) from by rw [List.map_map]; rfl]
      exact List.Pairwise.map _ (fun a b hab => by omega) h2
    have := nd_len nd2 this
    rwa [List.length_map] at this
  refine ⟨.d (.dict (encT (kvs ++ [(n, t)]))), ⟨_, .inl rfl, nd, fun m => ?_⟩, ⟨h.length + 3, [.lst ((kvs.map kT).map .d), .lst [.d (kT (n, t))], .lst (((kvs ++ [(n, t)]).map kT).map .d), .dic ((kvs ++ [(n, t)]).map eD)], ?_, end_dic (by omega) (by rw [at_n]; rfl)⟩, _, rfl⟩
  · rw [look_app hk, bd_set hn, h3]; rfl
  · have i1 : itemsM w h = .ok (.r h.length) (h ++ [.lst ((kvs.map kT).map .d)]) := by
      unfold itemsM
      rw [tab_items h1]
      simp [encT, kT]
    have sz : (2 : Nat) ≤ sizeLine := by decide
    have k2 : ∀ H : AH, kTup [.d (.int n), .d (enc t)] H = .ok (.d (kT (n, t))) H := fun H => by simp [kTup, allD, sz, kT]
    obtain ⟨O1, eO1⟩ : ∃ O1 : AO, O1 = .lst ((kvs.map kT).map .d) := ⟨_, rfl⟩
    have k3 : kLst [.d (kT (n, t))] (h ++ [O1]) = .ok (.r (h.length + 1)) (h ++ [O1, .lst [.d (kT (n, t))]]) := by rw [kLst_ap (by simp)]; simp
    have ba : bAdd (.r h.length) (.r (h.length + 1)) (h ++ [O1, .lst [.d (kT (n, t))]]) = .ok (.r (h.length + 2)) (h ++ [O1, .lst [.d (kT (n, t))], .lst (((kvs ++ [(n, t)]).map kT).map .d)]) := by
      refine (bAdd_l (a := (kvs.map kT).map .d) (b := [.d (kT (n, t))]) (by rw [at_l, eO1]; rfl) (by rw [at_l1]; rfl) ?_).trans ?_
      · refine Nat.le_trans (show _ ≤ 10000 from ?_) (by decide)
        rw [List.length_map, List.length_map, List.length_singleton]; omega
      · simp
    have fd : fDict [.r (h.length + 2)] (h ++ [O1, .lst [.d (kT (n, t))], .lst (((kvs ++ [(n, t)]).map kT).map .d)]) = .ok (.r (h.length + 3)) (h ++ [O1, .lst [.d (kT (n, t))], .lst (((kvs ++ [(n, t)]).map kT).map .d), .dic ((kvs ++ [(n, t)]).map eD)]) := by
      have pk : listD (h ++ [O1, .lst [.d (kT (n, t))], .lst (((kvs ++ [(n, t)]).map kT).map .d)]) (.r (h.length + 2)) = some ((kvs ++ [(n, t)]).map kT) := by
        have hat : (h ++ [O1, .lst [.d (kT (n, t))], .lst (((kvs ++ [(n, t)]).map kT).map .d)])[h.length + 2]? = some (.lst (((kvs ++ [(n, t)]).map kT).map .d)) := by rw [at_n]; rfl
        have pk : peek (h ++ [O1, .lst [.d (kT (n, t))], .lst (((kvs ++ [(n, t)]).map kT).map .d)]) (.r (h.length + 2)) = some (.list ((kvs ++ [(n, t)]).map kT)) := by simp only [peek, hat, allD_map]; rfl
        unfold listD
        rw [pk]
      have mg : mergeW ((kvs ++ [(n, t)]).map fun p => ((.inl (p.1 : Int) : Key), enc p.2)) = (kvs ++ [(n, t)]).map eD := merge_enc (kvs ++ [(n, t)]) [] nd
      unfold fDict
      simp only [pk, Option.bind_some, pairs_enc, mg]
      simp
    rw [← eO1] at i1 ⊢
    have ei : eItems m0 env h = .ok (.r h.length) (h ++ [O1]) := by
      show mb (m0 env h) itemsM = _
      rw [e0, mb_ok, i1]
    have el : eLst (aList [eTup (aList [mk, mt])]) env (h ++ [O1]) = .ok (.r (h.length + 1)) (h ++ [O1, .lst [.d (kT (n, t))]]) := by
      simp [e1, e2, k2, k3]
    rw [eFun_ap, aList_cons, eBin_ap, ei, mb_ok, kA_ap, el, mb_ok]
    rw [show bop .Add (.r h.length) (.r (h.length + 1)) (h ++ [O1, .lst [.d (kT (n, t))]]) = _ from (show bop .Add (.r h.length) (.r (h.length + 1)) (h ++ [O1, .lst [.d (kT (n, t))]]) = bAdd (.r h.length) (.r (h.length + 1)) (h ++ [O1, .lst [.d (kT (n, t))]]) from by simp [bop]).trans ba, mb_ok, kL1_ap, aList_nil, mb_ok, kL2_ap, mb_ok, fd]
end Ev
set_option Elab.async false
set_option linter.all false
set_option maxRecDepth 100000
set_option maxHeartbeats 2000000
namespace Ev
open PySem PySem.Spec PyProof.Rows L2 He
def fillS (kvs : List (Nat × Tm)) : Nat → Tm := fun n => (kvs.lookup n).getD (.name n)
end Ev
set_option Elab.async false
set_option linter.all false
set_option maxRecDepth 100000
set_option maxHeartbeats 2000000
namespace Ev
open PySem PySem.Spec PyProof.Rows L2 He
/-! ### fill -/
theorem q_fill {w : W} {kvs : List (Nat × Tm)} : ∀ (t : Tm), t.ok = true → ∀ (k : Nat), t.depth + 2 ≤ k → ∀ h : AH, TabK h w kvs → call k (pl "_law_fill") [.d (enc t), w] h = .ok (.d (enc (t.app (fillS kvs)))) h := by
  refine Tm.ind ?_ ?_ ?_ ?_
  · intro i _ k hk h s
    obtain ⟨k, rfl⟩ : ∃ j, k = j + 1 := ⟨k - 1, by omega⟩
    rw [c_law_fill]
    have e0 := l_is_nm (k := k) (t := .num i) (h := h) (by omega) rfl
    have e1 := l_is_tr (k := k) (t := .num i) (h := h) (by omega) rfl
    simp [t_law_fill, enc_num ▸ e0, enc_num ▸ e1, Tm.isName, Tm.isTree]
  · intro i h1 k hk h s
    obtain ⟨k, rfl⟩ : ∃ j, k = j + 1 := ⟨k - 1, by omega⟩
    rw [c_law_fill]
    have e0 := l_is_nm (k := k) (t := .word i) (h := h) (by omega) h1
    have e1 := l_is_tr (k := k) (t := .word i) (h := h) (by omega) h1
    simp [t_law_fill, enc_word ▸ e0, enc_word ▸ e1, Tm.isName, Tm.isTree]
  · intro n _ k hk h s
    obtain ⟨k, rfl⟩ : ∃ j, k = j + 1 := ⟨k - 1, by omega⟩
    rw [c_law_fill]
    have e0 := l_is_nm (k := k) (t := .name n) (h := h) (by omega) rfl
    have x := tab_in (n := n) s
    rw [Tm.app_name]
    unfold fillS
    rw [enc_name] at e0 ⊢
    cases q : kvs.lookup n with
    | none =>
      rw [q] at x
      simp [t_law_fill, e0, Tm.isName, ix_n1, x]
    | some u =>
      rw [q] at x
      have y := tab_ix s q
      simp [t_law_fill, e0, Tm.isName, ix_n1, x, y]
  · intro f as ih h1 k hk h s
    obtain ⟨k, rfl⟩ : ∃ j, k = j + 1 := ⟨k - 1, by omega⟩
    simp only [Tm.depth] at hk
    obtain ⟨o1, o2, o3, o4⟩ := Tm.ok_tree.mp h1
    rw [c_law_fill]
    have e0 := l_is_nm (k := k) (t := .tree f as) (h := h) (by omega) h1
    have e1 := l_is_tr (k := k) (t := .tree f as) (h := h) (by omega) h1
    rw [Tm.app_tree, enc_tree, enc_tree, List.map_map]
    rw [enc_tree] at e0 e1
    have hlc : eOut (eLC (.n 2) (iVal (eSl (mVar 0) (pSome (mC (.d (.int 1)))) pNo)) tTrue (eCall (call k) (pl "_law_fill") (aList [mVar 2, mVar 1]))) [some (.d (.tuple (.str f :: as.map enc))), some w, none] h = .ok (.d (.list (as.map (enc ∘ Tm.app (fillS kvs))))) h := by
      refine (lcD_map (as := as) (fun a => W.d (enc a)) (fun a => enc (a.app (fillS kvs))) (by simp [slM, cut1, srcM]) (by omega) ?_).trans rfl
      intro a ha
      refine ⟨_, rfl, fun acc => ?_⟩
      have q := ih a ha (o4 a ha) k (by have := Tm.depth_le ha; omega) (h ++ [.lst acc]) s.app
      exact ⟨by simp, by simp [wipeW, Tg.slots, q]⟩
    have sz2 : 1 + as.length ≤ sizeLine := Nat.le_trans (show 1 + as.length ≤ 100 by omega) (by decide)
    simp [-eLC_ap, -List.map_map, t_law_fill, e0, e1, Tm.isName, Tm.isTree, slM, cut01, ↓hlc, fTuple, listD, peek, bop, bAdd, sz2]
end Ev
set_option Elab.async false
set_option linter.all false
set_option maxRecDepth 100000
set_option maxHeartbeats 2000000
/-! RK2: lists that are drawn; lists that are the same. -/
namespace Ev
open PySem PySem.Spec PyProof.Rows L2 He
theorem cl_stepT {id i : Nat} {el : ME} {w y : W} {ws acc : List W} {env : EnvW} {h h1 : AH} (he : el (env.set i (some w)) h = .ok y h1) (ha : h1[id]? = some (.lst acc)) (hl : acc.length < 1000) :
    cLoop id (.n i) tTrue el (w :: ws) env h = cLoop id (.n i) tTrue el ws env (h1.set id (.lst (acc ++ [y]))) := by
  conv => lhs; unfold cLoop
  rw [show tgM (.n i) w env = some (env.set i (some w)) from rfl]
  simp only [mbind_ap]
  rw [show noEx (tTrue (env.set i (some w))) h = .ok true h from rfl]
  simp only [mb_ok, if_true, mbind_ap]
  rw [show noEx (el (env.set i (some w))) h = .ok y h1 from by unfold noEx; rw [he]]
  simp only [mb_ok, mbind_ap]
  rw [show pushM id y h1 = .ok () (h1.set id (.lst (acc ++ [y]))) from by
    unfold pushM; rw [ha]; simp only; rw [if_pos (Nat.lt_of_lt_of_le hl (by decide))]]
  rfl
section
variable {i : Nat} {el : ME} {env : EnvW} {h : AH} {t : Nat} {α : Type} {P : α → Prop} {p : α → PyData} {ns : List Int} {dc cm : Int}
theorem clT (ht : t < h.length) (hdc : 0 ≤ dc) (step : ∀ (w : W) (ts : List Int) (c : Int) (l : AH), Tw ns c ts → c + dc ≤ cm → ∃ a ts', el (env.set i (some w)) (h.set t (LI ts) ++ l) = .ok (.d (p a)) (h.set t (LI ts') ++ l) ∧ P a ∧ Tw ns (c + dc) ts') : ∀ (ws : List W) (ts : List Int) (c : Int) (acc : List PyData), Tw ns c ts → c + dc * ws.length ≤ cm → acc.length + ws.length < 1000 →
    ∃ (as : List α) (ts' : List Int), cLoop h.length (.n i) tTrue el ws env (h.set t (LI ts) ++ [.lst (acc.map .d)]) = .ok () (h.set t (LI ts') ++ [.lst ((acc ++ as.map p).map .d)]) ∧ as.length = ws.length ∧ (∀ a ∈ as, P a) ∧ Tw ns (c + dc * ws.length) ts'
  | [], ts, c, acc, T, _, _ => ⟨[], ts, by simp [cLoop, mpure], rfl, fun a ha => (by cases ha), by simpa using T⟩
  | w :: ws, ts, c, acc, T, hc, hl => by
    have hw : (((w :: ws).length : Nat) : Int) = ws.length + 1 := by simp
    rw [hw, Int.mul_add] at hc
    have hnn : 0 ≤ dc * (ws.length : Int) := Int.mul_nonneg hdc (by omega)
    obtain ⟨a, t1, e1, p1, T1⟩ := step w ts c [.lst (acc.map .d)] T (by omega)
    simp only [List.length_cons] at hl
    obtain ⟨as, t2, e2, e3, p2, T2⟩ := clT ht hdc step ws t1 (c + dc) (acc ++ [p a]) T1 (by omega) (by simp; omega)
    refine ⟨a :: as, t2, ?_, by simp [e3], fun b hb => ?_, by rw [hw, Int.mul_add]; rw [show c + (dc * (ws.length : Int) + dc * 1) = c + dc + dc * (ws.length : Int) from by omega]; exact T2⟩
    · rw [cl_stepT (h1 := h.set t (LI t1) ++ [.lst (acc.map .d)]) (acc := acc.map .d) e1 (by rw [List.getElem?_append_right (by simp)]; simp) (by simp; omega)]
      rw [show (h.set t (LI t1) ++ [AO.lst (acc.map .d)]).set h.length (.lst (acc.map .d ++ [.d (p a)])) = h.set t (LI t1) ++ [.lst ((acc ++ [p a]).map .d)] from by
        rw [List.set_append_right _ _ (by simp)]; simp]
      rw [e2]
      simp
    · rcases List.mem_cons.mp hb with e | e
      · subst e; exact p1
      · exact p2 b e
theorem out_lt {h : AH} {t : Nat} {o : AO} {ds : List PyData} (ho : o.clos h.length) (ht : t < h.length) : outM h (.r h.length) (h.set t o ++ [.lst (ds.map .d)]) = .ok (.d (.list ds)) (h.set t o) := by
  unfold outM
  rw [if_pos (fineB_iff.mpr (fine_set ho ht))]
  have hj : (h.set t o ++ [AO.lst (ds.map .d)])[h.length]? = some (.lst (ds.map .d)) := by rw [List.getElem?_append_right (by simp)]; simp
  have e : frzW h.length (h.set t o ++ [AO.lst (ds.map .d)]) (.r h.length) = some (.d (.list ds)) := by
    show (if h.length < h.length then some (W.r h.length) else (frz h.length (h.set t o ++ [AO.lst (ds.map .d)]) 4 (.r h.length)).map W.d) = _
    rw [if_neg (by omega)]
    have e3 : frz h.length (h.set t o ++ [AO.lst (ds.map .d)]) (3 + 1) (.r h.length) = some (.list ds) := by
      show (if h.length ≤ h.length then (match (h.set t o ++ [AO.lst (ds.map .d)])[h.length]? with
        | some (.lst ws) => (frzLw (frz h.length (h.set t o ++ [AO.lst (ds.map .d)]) 3) ws).map PyData.list
        | some (.dic kvs) => (frzDw (frz h.length (h.set t o ++ [AO.lst (ds.map .d)]) 3) kvs).map PyData.dict
        | _ => none) else none) = _
      rw [if_pos (Nat.le_refl _), hj]
      show (frzL h.length (h.set t o ++ [AO.lst (ds.map .d)]) 3 (ds.map .d)).map PyData.list = _
      rw [frzL_data]; rfl
    rw [e3]; rfl
  rw [e]
  show R.ok _ ((h.set t o ++ [AO.lst (ds.map .d)]).take h.length) = _
  rw [show (h.set t o ++ [AO.lst (ds.map .d)]).take h.length = h.set t o from by rw [← List.length_set (i := t) (a := o)]; simp]
/-- a list that is drawn, as data -/
theorem lcTw {mi : EnvW → M Src} {ts : List Int} {c : Int} {ws : List W} {env0 : EnvW} (ht : h[t]? = some (LI ts)) (hdc : 0 ≤ dc) (he : env = wipeW env0 [i]) (hs : mi env0 h = .ok (ws, none) h) (step : ∀ (w : W) (ts : List Int) (c : Int) (l : AH), Tw ns c ts → c + dc ≤ cm → ∃ a ts', el (env.set i (some w)) (h.set t (LI ts) ++ l) = .ok (.d (p a)) (h.set t (LI ts') ++ l) ∧ P a ∧ Tw ns (c + dc) ts') (T : Tw ns c ts) (hc : c + dc * ws.length ≤ cm) (hl : ws.length < 1000) :
    ∃ (as : List α) (ts' : List Int), eOut (eLC (.n i) mi tTrue el) env0 h = .ok (.d (.list (as.map p))) (h.set t (LI ts')) ∧ as.length = ws.length ∧ (∀ a ∈ as, P a) ∧ Tw ns (c + dc * ws.length) ts' := by
  obtain ⟨htl, _⟩ := List.getElem?_eq_some_iff.mp ht
  obtain ⟨as, t2, e2, e3, p2, T2⟩ := clT (p := p) htl hdc step ws ts c [] T hc (by simpa using hl)
  refine ⟨as, t2, ?_, e3, p2, T2⟩
  rw [set_same ht] at e2
  have lc : eLC (.n i) mi tTrue el env0 h = .ok (.r h.length) (h.set t (LI t2) ++ [.lst ((as.map p).map .d)]) := by
    rw [eLC_ap, hs, mb_ok]
    show mb (cLoop h.length (.n i) tTrue el ws (wipeW env0 [i]) (h ++ [.lst []])) (kRef h.length) = _
    rw [← he]
    simp only [List.map_nil, List.nil_append] at e2
    rw [e2]; rfl
  rw [eOut_ap lc, out_lt clos_LI htl]
end
/-! ### lists that are the same -/
theorem eq_same {w1 w2 : W} {H : AH} {ds : List PyData} (p1 : peek H w1 = some (.list ds)) (p2 : peek H w2 = some (.list ds)) (sh : SeqAt.shaped (.list ds) = true) : cmp .Eq w1 w2 H = .ok (.d (.bool true)) H := by
  have q : PyData.eqv (.list ds) (.list ds) = true := SeqAt.eqv_refl _ (by unfold SeqAt.shaped at sh; exact (Bool.and_eq_true_iff.mp sh).1)
  simp [cmp, cEq, p1, p2, sh, q]
theorem ne_same {w1 w2 : W} {H : AH} {ds : List PyData} (p1 : peek H w1 = some (.list ds)) (p2 : peek H w2 = some (.list ds)) (sh : SeqAt.shaped (.list ds) = true) : cmp .NotEq w1 w2 H = .ok (.d (.bool false)) H := by
  have q : PyData.eqv (.list ds) (.list ds) = true := SeqAt.eqv_refl _ (by unfold SeqAt.shaped at sh; exact (Bool.and_eq_true_iff.mp sh).1)
  simp [cmp, cEq, p1, p2, sh, q]
theorem peek_r {H : AH} {x : Nat} {ds : List PyData} (h : H[x]? = some (.lst (ds.map .d))) : peek H (.r x) = some (.list ds) := by
  simp only [peek, h, allD_map]; rfl
theorem sh_terms {ts : List Tm} (h : ∀ t ∈ ts, t.ok = true ∧ t.depth ≤ 60) : SeqAt.shaped (.list (ts.map enc)) = true := by
  unfold SeqAt.shaped
  simp only [PyData.canLay0, PyData.depth]
  rw [canAll fun y hy => by
    obtain ⟨x, hx, rfl⟩ := List.mem_map.mp hy
    exact enc_lay _ (h x hx).1]
  have := depAll (n := 60) fun y (hy : y ∈ ts.map enc) => by
    obtain ⟨x, hx, rfl⟩ := List.mem_map.mp hy
    exact Nat.le_trans (enc_dep _) (h x hx).2
  rw [Bool.true_and]
  exact decide_eq_true (by omega)
end Ev
set_option Elab.async false
set_option linter.all false
set_option maxRecDepth 100000
set_option maxHeartbeats 2000000
namespace Ev
open PySem PySem.Spec PyProof.Rows L2 He
/-! ### fit, plain -/
abbrev FT := List (Nat × Tm)
mutual
noncomputable def fit : Tm → Tm → FT → Bool × FT
  | .name n, u, τ => match τ.lookup n with
    | some v => (decide (v = u), τ)
    | none => (true, τ ++ [(n, u)])
  | .tree f as, u, τ => match u with
    | .tree g bs => if f = g ∧ as.length = bs.length then fitL as bs τ else (false, τ)
    | _ => (false, τ)
  | .num i, u, τ => (decide (Tm.num i = u), τ)
  | .word i, u, τ => (decide (Tm.word i = u), τ)
noncomputable def fitL : List Tm → List Tm → FT → Bool × FT
  | a :: as, b :: bs, τ => ((fit a b τ).1 && (fitL as bs (fit a b τ).2).1, (fitL as bs (fit a b τ).2).2)
  | [], _, τ => (true, τ)
  | _ :: _, [], τ => (true, τ)
end
theorem fit_num {i : Int} {u : Tm} {τ : FT} : fit (.num i) u τ = (decide (Tm.num i = u), τ) := by rw [fit]
theorem fit_word {i : Str} {u : Tm} {τ : FT} : fit (.word i) u τ = (decide (Tm.word i = u), τ) := by rw [fit]
theorem fit_name {n : Nat} {u : Tm} {τ : FT} : fit (.name n) u τ = match τ.lookup n with
    | some v => (decide (v = u), τ)
    | none => (true, τ ++ [(n, u)]) := by rw [fit]
theorem fit_tree {f g : Str} {as bs : List Tm} {τ : FT} (h : f = g ∧ as.length = bs.length) : fit (.tree f as) (.tree g bs) τ = fitL as bs τ := by rw [fit, if_pos h]
theorem fit_tree0 {f g : Str} {as bs : List Tm} {τ : FT} (h : ¬ (f = g ∧ as.length = bs.length)) : fit (.tree f as) (.tree g bs) τ = (false, τ) := by rw [fit, if_neg h]
theorem fit_treeN {f : Str} {as : List Tm} {u : Tm} {τ : FT} (h : u.isTree = false) : fit (.tree f as) u τ = (false, τ) := by
  cases u with
  | tree g bs => cases h
  | _ => rw [fit]; intro g bs e; cases e
theorem fitL_cons {a b : Tm} {as bs : List Tm} {τ : FT} : fitL (a :: as) (b :: bs) τ = ((fit a b τ).1 && (fitL as bs (fit a b τ).2).1, (fitL as bs (fit a b τ).2).2) := by rw [fitL]
theorem fitL_nil {bs : List Tm} {τ : FT} : fitL [] bs τ = (true, τ) := by rw [fitL]
theorem fitL_nil2 {as : List Tm} {τ : FT} : fitL as [] τ = (true, τ) := by cases as <;> rw [fitL]
/-- what holds of each step -/
theorem fit_ind {P : FT → FT → Prop} (hr : ∀ τ, P τ τ) (ht : ∀ τ₁ τ₂ τ₃, P τ₁ τ₂ → P τ₂ τ₃ → P τ₁ τ₃) {S : Tm → Prop} (hS : ∀ f as, S (.tree f as) → ∀ a ∈ as, S a) (hn : ∀ (τ : FT) n u, S u → τ.lookup n = none → P τ (τ ++ [(n, u)])) : ∀ (t u : Tm) (τ : FT), S u → P τ (fit t u τ).2 := by
  have L : ∀ (as : List Tm), (∀ a ∈ as, ∀ (u : Tm) (τ : FT), S u → P τ (fit a u τ).2) → ∀ (bs : List Tm) (τ : FT), (∀ b ∈ bs, S b) → P τ (fitL as bs τ).2 := by
    intro as
    induction as with
    | nil => intro _ bs τ _; rw [fitL_nil]; exact hr τ
    | cons a as ih =>
      intro h bs τ hb
      cases bs with
      | nil => rw [fitL_nil2]; exact hr τ
      | cons b bs =>
        rw [fitL_cons]
        exact ht _ _ _ (h a (by simp) b τ (hb b (by simp))) (ih (fun x hx => h x (by simp [hx])) bs _ fun x hx => hb x (by simp [hx]))
  refine Tm.ind ?_ ?_ ?_ ?_
  · intro i u τ _; rw [fit_num]; exact hr τ
  · intro i u τ _; rw [fit_word]; exact hr τ
  · intro n u τ hu
    rw [fit_name]
    cases q : τ.lookup n with
    | some v => exact hr τ
    | none => exact hn τ n u hu q
  · intro f as ih u τ hu
    cases q : u.isTree with
    | false => rw [fit_treeN q]; exact hr τ
    | true =>
      cases u with
      | tree g bs =>
        by_cases e : f = g ∧ as.length = bs.length
        · rw [fit_tree e]; exact L as ih bs τ (hS g bs hu)
        · rw [fit_tree0 e]; exact hr τ
      | _ => cases q
theorem fit_vals {S : Tm → Prop} (hS : ∀ f as, S (.tree f as) → ∀ a ∈ as, S a) {t u : Tm} {τ : FT} (hu : S u) (hτ : ∀ p ∈ τ, S p.2) : ∀ p ∈ (fit t u τ).2, S p.2 := by
  refine fit_ind (P := fun τ τ' => (∀ p ∈ τ, S p.2) → ∀ p ∈ τ', S p.2) (fun τ h => h) (fun _ _ _ a b h => b (a h)) (S := S) hS (fun τ n u hu _ h p hp => ?_) t u τ hu hτ
  rcases List.mem_append.mp hp with q | q
  · exact h p q
  · have : p = (n, u) := by simpa using q
    rw [this]; exact hu
theorem fit_old {t u : Tm} {τ : FT} {n : Nat} {v : Tm} (h : τ.lookup n = some v) : (fit t u τ).2.lookup n = some v := by
  refine fit_ind (P := fun τ τ' => τ.lookup n = some v → τ'.lookup n = some v) (fun τ h => h) (fun _ _ _ a b h => b (a h)) (S := fun _ => True) (fun _ _ _ _ _ => trivial) (fun τ m u _ hm h => ?_) t u τ trivial h
  rw [List.lookup_append, h]; rfl
theorem fit_nd {t u : Tm} {τ : FT} (h : (τ.map (·.1)).Nodup) : ((fit t u τ).2.map (·.1)).Nodup := by
  refine fit_ind (P := fun τ τ' => (τ.map Prod.fst).Nodup → (τ'.map Prod.fst).Nodup) (fun τ h => h) (fun _ _ _ a b h => b (a h)) (S := fun _ => True) (fun _ _ _ _ _ => trivial) (fun τ m u _ hm h => ?_) t u τ trivial h
  rw [List.map_append, List.nodup_append]
  refine ⟨h, by simp, fun a ha b hb e => ?_⟩
  have : b = m := by simpa using hb
  rw [e, this] at ha
  exact look_mem hm ha
theorem fitL_len : ∀ (as : List Tm), (∀ a ∈ as, ∀ (u : Tm) (τ : FT), (fit a u τ).2.length ≤ τ.length + a.size) → ∀ (bs : List Tm) (τ : FT), (fitL as bs τ).2.length ≤ τ.length + (as.map Tm.size).sum
  | [], _, bs, τ => by rw [fitL_nil]; simp
  | a :: as, h, [], τ => by rw [fitL_nil2]; simp
  | a :: as, h, b :: bs, τ => by
    rw [fitL_cons]
    have h1 := h a (by simp) b τ
    have h2 := fitL_len as (fun x hx => h x (by simp [hx])) bs (fit a b τ).2
    simp only [List.map_cons, List.sum_cons]
    omega
theorem fit_len : ∀ (t u : Tm) (τ : FT), (fit t u τ).2.length ≤ τ.length + t.size := by
  refine Tm.ind ?_ ?_ ?_ ?_
  · intro i u τ; rw [fit_num]; simp
  · intro i u τ; rw [fit_word]; simp
  · intro n u τ
    rw [fit_name]
    cases q : τ.lookup n <;> simp [Tm.size]
  · intro f as ih u τ
    rw [Tm.size_tree]
    cases q : u.isTree with
    | false => rw [fit_treeN q]; simp
    | true =>
      cases u with
      | tree g bs =>
        by_cases e : f = g ∧ as.length = bs.length
        · rw [fit_tree e]
          have := fitL_len as ih bs τ
          omega
        · rw [fit_tree0 e]; simp
      | _ => cases q
/-- it is a filling -/
theorem fit_sound : ∀ (t u : Tm) (τ : FT), (fit t u τ).1 = true → (∀ σ : Nat → Tm, (∀ n v, (fit t u τ).2.lookup n = some v → σ n = v) → t.app σ = u) ∧ ∀ n, t.has n = true → ((fit t u τ).2.lookup n).isSome = true := by
  have L : ∀ (as : List Tm), (∀ a ∈ as, ∀ (u : Tm) (τ : FT), (fit a u τ).1 = true → (∀ σ : Nat → Tm, (∀ n v, (fit a u τ).2.lookup n = some v → σ n = v) → a.app σ = u) ∧ ∀ n, a.has n = true → ((fit a u τ).2.lookup n).isSome = true) → ∀ (bs : List Tm) (τ : FT), as.length = bs.length → (fitL as bs τ).1 = true → (∀ σ : Nat → Tm, (∀ n v, (fitL as bs τ).2.lookup n = some v → σ n = v) → as.map (Tm.app σ) = bs) ∧ ∀ n, as.any (Tm.has n) = true → ((fitL as bs τ).2.lookup n).isSome = true := by
    intro as
    induction as with
    | nil =>
      intro _ bs τ hl _
      cases bs with
      | nil => exact ⟨fun _ _ => rfl, fun n h => by simp at h⟩
      | cons b bs => simp at hl
    | cons a as ih =>
      intro h bs τ hl hg
      cases bs with
      | nil => simp at hl
      | cons b bs =>
        rw [fitL_cons] at hg ⊢
        obtain ⟨g1, g2⟩ := Bool.and_eq_true_iff.mp hg
        obtain ⟨i1, i2⟩ := ih (fun x hx => h x (by simp [hx])) bs (fit a b τ).2 (by simpa using hl) g2
        obtain ⟨j1, j2⟩ := h a (by simp) b τ g1
        have keep : ∀ n v, (fit a b τ).2.lookup n = some v → (fitL as bs (fit a b τ).2).2.lookup n = some v := fun n v q => by
          have LL : ∀ (as bs : List Tm) (τ : FT), τ.lookup n = some v → (fitL as bs τ).2.lookup n = some v := by
            intro as
            induction as with
            | nil => intro bs τ h; rw [fitL_nil]; exact h
            | cons x as ih2 =>
              intro bs τ h
              cases bs with
              | nil => rw [fitL_nil2]; exact h
              | cons y bs => rw [fitL_cons]; exact ih2 bs _ (fit_old h)
          exact LL as bs _ q
        refine ⟨fun σ hσ => ?_, fun n hn => ?_⟩
        · rw [List.map_cons, j1 σ (fun n v q => hσ n v (keep n v q)), i1 σ hσ]
        · rw [List.any_cons, Bool.or_eq_true] at hn
          rcases hn with hn | hn
          · obtain ⟨v, hv⟩ := Option.isSome_iff_exists.mp (j2 n hn)
            rw [keep n v hv]; rfl
          · exact i2 n hn
  refine Tm.ind ?_ ?_ ?_ ?_
  · intro i u τ h
    rw [fit_num] at h ⊢
    exact ⟨fun σ _ => by rw [Tm.app_num]; exact of_decide_eq_true h, fun n hn => by simp [Tm.has] at hn⟩
  · intro i u τ h
    rw [fit_word] at h ⊢
    exact ⟨fun σ _ => by rw [Tm.app_word]; exact of_decide_eq_true h, fun n hn => by simp [Tm.has] at hn⟩
  · intro n u τ h
    rw [fit_name] at h ⊢
    cases q : τ.lookup n with
    | some v =>
      rw [q] at h
      simp only at h
      have e := of_decide_eq_true h
      refine ⟨fun σ hσ => ?_, fun m hm => ?_⟩
      · rw [Tm.app_name, hσ n v (by simpa using q), e]
      · have : n = m := by simpa [Tm.has] using hm
        subst this
        simp [q]
    | none =>
      simp only
      have z : (τ ++ [(n, u)]).lookup n = some u := by rw [look_app q, if_pos rfl]
      refine ⟨fun σ hσ => ?_, fun m hm => ?_⟩
      · rw [Tm.app_name]; exact hσ n u z
      · have : n = m := by simpa [Tm.has] using hm
        subst this
        rw [z]; rfl
  · intro f as ih u τ h
    cases q : u.isTree with
    | false => rw [fit_treeN q] at h; cases h
    | true =>
      cases u with
      | tree g bs =>
        by_cases e : f = g ∧ as.length = bs.length
        · rw [fit_tree e] at h ⊢
          obtain ⟨i1, i2⟩ := L as ih bs τ e.2 h
          refine ⟨fun σ hσ => ?_, fun n hn => i2 n (by rw [← Tm.has_tree (f := f)]; exact hn)⟩
          rw [Tm.app_tree, i1 σ hσ, e.1]
        · rw [fit_tree0 e] at h; cases h
      | _ => cases q
/-- and it is found if there is one -/
theorem fit_comp : ∀ (t : Tm) (σ : Nat → Tm) (τ : FT), (∀ n v, τ.lookup n = some v → σ n = v) → (fit t (t.app σ) τ).1 = true ∧ ∀ n v, (fit t (t.app σ) τ).2.lookup n = some v → σ n = v := by
  have L : ∀ (as : List Tm), (∀ a ∈ as, ∀ (σ : Nat → Tm) (τ : FT), (∀ n v, τ.lookup n = some v → σ n = v) → (fit a (a.app σ) τ).1 = true ∧ ∀ n v, (fit a (a.app σ) τ).2.lookup n = some v → σ n = v) → ∀ (σ : Nat → Tm) (τ : FT), (∀ n v, τ.lookup n = some v → σ n = v) → (fitL as (as.map (Tm.app σ)) τ).1 = true ∧ ∀ n v, (fitL as (as.map (Tm.app σ)) τ).2.lookup n = some v → σ n = v := by
    intro as
    induction as with
    | nil => intro _ σ τ h; rw [fitL_nil]; exact ⟨rfl, h⟩
    | cons a as ih =>
      intro h σ τ hτ
      rw [List.map_cons, fitL_cons]
      obtain ⟨j1, j2⟩ := h a (by simp) σ τ hτ
      obtain ⟨i1, i2⟩ := ih (fun x hx => h x (by simp [hx])) σ _ j2
      exact ⟨by simp only [j1, i1, Bool.and_self], i2⟩
  refine Tm.ind ?_ ?_ ?_ ?_
  · intro i σ τ h; rw [Tm.app_num, fit_num]; exact ⟨decide_eq_true rfl, h⟩
  · intro i σ τ h; rw [Tm.app_word, fit_word]; exact ⟨decide_eq_true rfl, h⟩
  · intro n σ τ h
    rw [Tm.app_name, fit_name]
    cases q : τ.lookup n with
    | some v => exact ⟨decide_eq_true (h n v q).symm, h⟩
    | none =>
      refine ⟨rfl, fun m v hm => ?_⟩
      simp only at hm
      rw [look_app q] at hm
      by_cases e : m = n
      · rw [if_pos e] at hm; rw [e]; exact Option.some.inj hm
      · rw [if_neg e] at hm; exact h m v hm
  · intro f as ih σ τ h
    rw [Tm.app_tree, fit_tree ⟨rfl, by simp⟩]
    exact L as ih σ τ h
/-- the names are those of the term -/
theorem fit_names {t u : Tm} {τ : FT} {n : Nat} (h : ((fit t u τ).2.lookup n).isSome = true) : (τ.lookup n).isSome = true ∨ t.has n = true := by
  have L : ∀ (as : List Tm), (∀ a ∈ as, ∀ (u : Tm) (τ : FT), ((fit a u τ).2.lookup n).isSome = true → (τ.lookup n).isSome = true ∨ a.has n = true) → ∀ (bs : List Tm) (τ : FT), ((fitL as bs τ).2.lookup n).isSome = true → (τ.lookup n).isSome = true ∨ as.any (Tm.has n) = true := by
    intro as
    induction as with
    | nil => intro _ bs τ h; rw [fitL_nil] at h; exact .inl h
    | cons a as ih =>
      intro hh bs τ h
      cases bs with
      | nil => rw [fitL_nil2] at h; exact .inl h
      | cons b bs =>
        rw [fitL_cons] at h
        rw [List.any_cons, Bool.or_eq_true]
        rcases ih (fun x hx => hh x (by simp [hx])) bs _ h with q | q
        · rcases hh a (by simp) b τ q with q | q
          · exact .inl q
          · exact .inr (.inl q)
        · exact .inr (.inr q)
  have A : ∀ (t u : Tm) (τ : FT), ((fit t u τ).2.lookup n).isSome = true → (τ.lookup n).isSome = true ∨ t.has n = true := by
    refine Tm.ind ?_ ?_ ?_ ?_
    · intro i u τ h; rw [fit_num] at h; exact .inl h
    · intro i u τ h; rw [fit_word] at h; exact .inl h
    · intro m u τ h
      rw [fit_name] at h
      cases q : τ.lookup m with
      | some v => rw [q] at h; exact .inl h
      | none =>
        rw [q] at h
        simp only at h
        rw [look_app q] at h
        by_cases e : n = m
        · exact .inr (by simp [Tm.has, e])
        · rw [if_neg e] at h; exact .inl h
    · intro f as ih u τ h
      cases q : u.isTree with
      | false => rw [fit_treeN q] at h; exact .inl h
      | true =>
        cases u with
        | tree g bs =>
          by_cases e : f = g ∧ as.length = bs.length
          · rw [fit_tree e] at h
            rw [Tm.has_tree]
            exact L as ih bs τ h
          · rw [fit_tree0 e] at h; exact .inl h
        | _ => cases q
  exact A t u τ h
/-! ### covers -/
/-- one term covers another one -/
def Cov (a b : Tm) : Prop := ∃ σ, a.app σ = b
theorem cov_fit {a b : Tm} : (fit a b []).1 = true ↔ Cov a b := by
  constructor
  · intro h
    obtain ⟨h1, _⟩ := fit_sound a b [] h
    refine ⟨fillS (fit a b []).2, h1 _ fun n v q => ?_⟩
    unfold fillS
    rw [q]; rfl
  · rintro ⟨σ, rfl⟩
    exact (fit_comp a σ [] (fun n v q => by cases q)).1
theorem fit_fill {a b : Tm} (h : (fit a b []).1 = true) : a.app (fillS (fit a b []).2) = b := by
  obtain ⟨h1, _⟩ := fit_sound a b [] h
  refine h1 _ fun n v q => ?_
  unfold fillS
  rw [q]; rfl
theorem cov_refl (a : Tm) : Cov a a := ⟨Tm.name, Tm.app_id a⟩
theorem cov_trans {a b c : Tm} (h : Cov a b) (h' : Cov b c) : Cov a c := by
  obtain ⟨σ, rfl⟩ := h
  obtain ⟨τ, rfl⟩ := h'
  exact ⟨_, (Tm.app_comp a).symm⟩
end Ev
set_option Elab.async false
set_option linter.all false
set_option maxRecDepth 100000
set_option maxHeartbeats 4000000
namespace Ev
open PySem PySem.Spec PyProof.Rows L2 He
/-! ### fit_to, read -/
abbrev encQ (p : Tm × Tm) : PyData := .tuple [enc p.1, enc p.2]
abbrev encP (p : Tm × Tm) : W := .d (encQ p)
theorem zip_encP : ∀ {as bs : List Tm}, zipD (as.map enc) (bs.map enc) = (as.zip bs).map encP
  | [], bs => by cases bs <;> rfl
  | a :: as, [] => rfl
  | a :: as, b :: bs => by
    have := zip_encP (as := as) (bs := bs)
    rw [List.map_cons, List.map_cons, List.zip_cons_cons, List.map_cons, ← this]
    rfl
abbrev dD (τ : FT) : AO := .dic (τ.map eD)
theorem clos_dic {n : Nat} {kvs : List (Nat × Tm)} : (AO.dic (kvs.map eD)).clos n := fun p hp => by
  obtain ⟨q, _, rfl⟩ := List.mem_map.mp hp
  trivial
theorem cl_stepG {id : Nat} {t : Tg} {el : ME} {w y : W} {ws acc : List W} {env e1 : EnvW} {h h1 : AH} (ht : tgM t w env = some e1) (he : el e1 h = .ok y h1) (ha : h1[id]? = some (.lst acc)) (hl : acc.length < 1000) :
    cLoop id t tTrue el (w :: ws) env h = cLoop id t tTrue el ws env (h1.set id (.lst (acc ++ [y]))) := by
  conv => lhs; unfold cLoop
  rw [ht]
  simp only [mbind_ap]
  rw [show noEx (tTrue e1) h = .ok true h from rfl]
  simp only [mb_ok, if_true, mbind_ap]
  rw [show noEx (el e1) h = .ok y h1 from by unfold noEx; rw [he]]
  simp only [mb_ok, mbind_ap]
  rw [show pushM id y h1 = .ok () (h1.set id (.lst (acc ++ [y]))) from by
    unfold pushM; rw [ha]; simp only; rw [if_pos (Nat.lt_of_lt_of_le hl (by decide))]]
  rfl
/-- terms that are small enough -/
def SmT (u : Tm) : Prop := u.ok = true ∧ u.depth ≤ 60
theorem SmT.kid (f : Str) (as : List Tm) (h : SmT (.tree f as)) : ∀ a ∈ as, SmT a := fun a ha => by
  obtain ⟨h1, h2⟩ := h
  have := Tm.depth_le ha
  simp only [Tm.depth] at h2
  exact ⟨(Tm.ok_tree.mp h1).2.2.2 a ha, by omega⟩
def SmF (τ : FT) : Prop := ∀ p ∈ τ, SmT p.2
theorem SmF.look {τ : FT} (h : SmF τ) {n : Nat} {v : Tm} (q : τ.lookup n = some v) : SmT v := by
  have : (n, v) ∈ τ := by
    clear h
    induction τ with
    | nil => cases q
    | cons p τ ih =>
      obtain ⟨m, w⟩ := p
      rw [List.lookup_cons] at q
      cases e : (n == m) with
      | true =>
        rw [e] at q
        have e1 : n = m := by simpa using e
        have e2 : w = v := Option.some.inj q
        subst e1 e2
        simp
      | false => rw [e] at q; exact List.mem_cons_of_mem _ (ih q)
  exact h _ this
noncomputable def fitBs : List Tm → List Tm → FT → List Bool
  | a :: as, b :: bs, τ => (fit a b τ).1 :: fitBs as bs (fit a b τ).2
  | _, _, _ => []
theorem all_fitBs : ∀ (as bs : List Tm) (τ : FT), (fitBs as bs τ).all id = (fitL as bs τ).1
  | [], bs, τ => by simp [fitBs, fitL_nil]
  | a :: as, [], τ => by simp [fitBs, fitL_nil2]
  | a :: as, b :: bs, τ => by rw [fitBs, fitL_cons, List.all_cons, all_fitBs as bs]; rfl
noncomputable abbrev eFt (F : Str) (k : Nat) : ME := eCall (call k) (pl F) (aList [mVar 3, mVar 4, mVar 2])
def FitR (F : Str) (k : Nat) (t : Tm) : Prop := ∀ (u : Tm), SmT u → ∀ (g : Nat) (h : AH) (τ : FT), h[g]? = some (dD τ) → SmF τ → τ.length + t.size ≤ 1000 →
    call k (pl F) [.d (enc t), .d (enc u), .r g] h = .ok (.d (.bool (fit t u τ).1)) (h.set g (dD (fit t u τ).2))
theorem fit_loop {F : Str} {k g : Nat} {w0 w1 : W} : ∀ (as : List Tm), (∀ a ∈ as, FitR F k a) → ∀ (bs : List Tm), as.length = bs.length → (∀ b ∈ bs, SmT b) →
    ∀ (h : AH) (τ : FT) (acc : List PyData), g < h.length → SmF τ → τ.length + (as.map Tm.size).sum ≤ 1000 → acc.length + as.length < 1000 →
    cLoop h.length (.t [3, 4]) tTrue (eFt F k) ((as.zip bs).map encP) [some w0, some w1, some (.r g), none, none] (h.set g (dD τ) ++ [.lst (acc.map .d)]) = .ok () (h.set g (dD (fitL as bs τ).2) ++ [.lst ((acc ++ (fitBs as bs τ).map PyData.bool).map .d)])
  | [], _, bs, _, _, h, τ, acc, _, _, _, _ => by simp [cLoop, mpure, fitL_nil, fitBs]
  | a :: as, step, [], hl0, _, h, τ, acc, hg, _, hm, hl => by simp at hl0
  | a :: as, step, b :: bs, hl0, hb, h, τ, acc, hg, hs, hm, hl => by
    simp only [List.map_cons, List.sum_cons] at hm
    simp only [List.length_cons] at hl hl0
    have e1 := step a (by simp) b (hb b (by simp)) g (h.set g (dD τ) ++ [.lst (acc.map .d)]) τ (by rw [List.getElem?_append_left (by simpa using hg)]; exact List.getElem?_set_self hg) hs (by omega)
    rw [List.set_append_left _ _ (by simpa using hg), List.set_set] at e1
    have l1 := fit_len a b τ
    have e2 := fit_loop (w0 := w0) (w1 := w1) as (fun x hx => step x (by simp [hx])) bs (by omega) (fun x hx => hb x (by simp [hx])) h (fit a b τ).2 (acc ++ [.bool (fit a b τ).1]) hg (fit_vals SmT.kid (hb b (by simp)) hs) (by omega) (by simp; omega)
    rw [List.zip_cons_cons, List.map_cons]
    rw [cl_stepG (e1 := [some w0, some w1, some (.r g), some (.d (enc a)), some (.d (enc b))]) (y := .d (.bool (fit a b τ).1)) (h1 := h.set g (dD (fit a b τ).2) ++ [.lst (acc.map .d)]) (acc := acc.map .d) rfl (by simp [e1]) (by rw [List.getElem?_append_right (by simp)]; simp) (by simp; omega)]
    rw [show (h.set g (dD (fit a b τ).2) ++ [AO.lst (acc.map .d)]).set h.length (.lst (acc.map .d ++ [.d (.bool (fit a b τ).1)])) = h.set g (dD (fit a b τ).2) ++ [.lst ((acc ++ [PyData.bool (fit a b τ).1]).map .d)] from by
      rw [List.set_append_right _ _ (by simp)]; simp]
    rw [e2, fitL_cons, fitBs]
    simp
theorem fit_lc {F : Str} {k g : Nat} {f f' : Str} {as bs : List Tm} (step : ∀ a ∈ as, FitR F k a) (hl : as.length = bs.length) (hb : ∀ b ∈ bs, SmT b) {h : AH} {τ : FT} (hg : h[g]? = some (dD τ)) (hs : SmF τ) (hm : τ.length + (as.map Tm.size).sum ≤ 1000) (h5 : as.length < 1000) :
    eOut (eLC (.t [3, 4]) (iFun zipM (aList [eSl (mVar 0) (pSome (mC (.d (.int 1)))) pNo, eSl (mVar 1) (pSome (mC (.d (.int 1)))) pNo])) tTrue (eFt F k)) [some (.d (.tuple (.str f :: as.map enc))), some (.d (.tuple (.str f' :: bs.map enc))), some (.r g), none, none] h = .ok (.d (.list ((fitBs as bs τ).map PyData.bool))) (h.set g (dD (fitL as bs τ).2)) := by
  have gl : g < h.length := (List.getElem?_eq_some_iff.mp hg).1
  have l2 := fit_loop (F := F) (k := k) (g := g) (w0 := .d (.tuple (.str f :: as.map enc))) (w1 := .d (.tuple (.str f' :: bs.map enc))) as step bs hl hb h τ [] gl hs hm (by simpa using h5)
  rw [set_same hg] at l2
  have hz : zipD (as.map enc) (bs.map enc) = (as.zip bs).map encP := zip_encP
  have lc : eLC (.t [3, 4]) (iFun zipM (aList [eSl (mVar 0) (pSome (mC (.d (.int 1)))) pNo, eSl (mVar 1) (pSome (mC (.d (.int 1)))) pNo])) tTrue (eFt F k) [some (.d (.tuple (.str f :: as.map enc))), some (.d (.tuple (.str f' :: bs.map enc))), some (.r g), none, none] h = .ok (.r h.length) (h.set g (dD (fitL as bs τ).2) ++ [.lst (((fitBs as bs τ).map PyData.bool).map .d)]) := by
    rw [eLC_ap, show iFun zipM (aList [eSl (mVar 0) (pSome (mC (.d (.int 1)))) pNo, eSl (mVar 1) (pSome (mC (.d (.int 1)))) pNo]) [some (.d (.tuple (.str f :: as.map enc))), some (.d (.tuple (.str f' :: bs.map enc))), some (.r g), none, none] h = .ok ((as.zip bs).map encP, none) h from by rw [← hz]; simp [slM, cut1, zipM], mb_ok]
    show mb (cLoop h.length (.t [3, 4]) tTrue _ ((as.zip bs).map encP) (wipeW _ [3, 4]) (h ++ [.lst []])) (kRef h.length) = _
    simp only [List.map_nil, List.nil_append] at l2
    rw [show wipeW [some (.d (.tuple (.str f :: as.map enc))), some (.d (.tuple (.str f' :: bs.map enc))), some (.r g), none, none] [3, 4] = [some (.d (.tuple (.str f :: as.map enc))), some (.d (.tuple (.str f' :: bs.map enc))), some (.r g), none, none] from rfl, l2]
    rfl
  exact (eOut_ap lc).trans (out_lt (o := dD (fitL as bs τ).2) clos_dic gl)
theorem set_dD {h : AH} {g n : Nat} {τ : FT} {u : Tm} (hg : h[g]? = some (dD τ)) (hn : τ.lookup n = none) (hl : τ.length < 1000) : setIxM (.r g) (.d (.int n)) (.d (enc u)) h = .ok () (h.set g (dD (τ ++ [(n, u)]))) := by
  unfold setIxM
  have hg' : h[g]? = some (.dic (τ.map eD)) := hg
  simp only [hg', keyOf]
  rw [if_pos (Nat.lt_of_lt_of_le (show (τ.map eD).length < 2000 from by simp; omega) (by decide))]
  have e : putDW (.inl (n : Int)) (.d (enc u)) (τ.map eD) = (τ ++ [(n, u)]).map eD := by
    unfold putDW
    rw [key_any]
    have : (τ.map (·.1)).contains n = false := by
      cases z : (τ.map (·.1)).contains n with
      | false => rfl
      | true => exact absurd (List.contains_iff_mem.mp z) (look_mem hn)
    rw [this]
    simp [keyD]
  rw [e]
theorem eq_bool {a b : Bool} {H : AH} : cmp .NotEq (.d (.bool a)) (.d (.bool b)) H = .ok (.d (.bool (!(a == b)))) H := by
  simp [cmp, cEq, peek, sh_bool, eqv_bb]
/-- the name's case, of both -/
theorem ne_w {f g : Str} {H : AH} (h1 : isW f = true) (h2 : isW g = true) : cmp .NotEq (.d (.str f)) (.d (.str g)) H = .ok (.d (.bool (!decide (f = g)))) H := by
  simp [cmp, cEq, peek, sh_str h1, sh_str h2, eqv_ss, Bool.beq_eq_decide_eq]
theorem eq_w {f g : Str} {H : AH} (h1 : isW f = true) (h2 : isW g = true) : cmp .Eq (.d (.str f)) (.d (.str g)) H = .ok (.d (.bool (decide (f = g)))) H := by
  simp [cmp, cEq, peek, sh_str h1, sh_str h2, eqv_ss, Bool.beq_eq_decide_eq]
theorem ne_i {f g : Int} {H : AH} : cmp .NotEq (.d (.int f)) (.d (.int g)) H = .ok (.d (.bool (!decide (f = g)))) H := by
  simp [cmp, cEq, peek, sh_int, eqv_ii]
theorem eq_i {f g : Int} {H : AH} : cmp .Eq (.d (.int f)) (.d (.int g)) H = .ok (.d (.bool (decide (f = g)))) H := by
  simp [cmp, cEq, peek, sh_int, eqv_ii]
theorem r_fitP : ∀ (t : Tm), SmT t → ∀ (k : Nat), t.depth + 3 ≤ k → FitR "fit_to" k t := by
  refine Tm.ind ?_ ?_ ?_ ?_
  · intro i ht k hk u hu g h τ hg hs hm
    obtain ⟨k, rfl⟩ : ∃ j, k = j + 1 := ⟨k - 1, by omega⟩
    have e1 := r_is_name (k := k) (t := .num i) (h := h) (by simp [Tm.depth] at hk; omega) rfl
    have e2 := r_is_tree (k := k) (t := .num i) (h := h) (by simp [Tm.depth] at hk; omega) rfl
    have q := eq_enc (a := .num i) (b := u) (h := h) rfl hu.1 (by simp [Tm.depth]) (by have := hu.2; omega)
    rw [fit_num, set_same hg, c_fit_to]
    rw [enc_num] at *
    simp [t_fit_to, e1, e2, Tm.isName, Tm.isTree, q]
  · intro i ht k hk u hu g h τ hg hs hm
    obtain ⟨k, rfl⟩ : ∃ j, k = j + 1 := ⟨k - 1, by omega⟩
    have e1 := r_is_name (k := k) (t := .word i) (h := h) (by simp [Tm.depth] at hk; omega) ht.1
    have e2 := r_is_tree (k := k) (t := .word i) (h := h) (by simp [Tm.depth] at hk; omega) ht.1
    have q := eq_enc (a := .word i) (b := u) (h := h) ht.1 hu.1 (by simp [Tm.depth]) (by have := hu.2; omega)
    rw [fit_word, set_same hg, c_fit_to]
    rw [enc_word] at *
    simp [t_fit_to, e1, e2, Tm.isName, Tm.isTree, q]
  · intro n ht k hk u hu g h τ hg hs hm
    obtain ⟨k, rfl⟩ : ∃ j, k = j + 1 := ⟨k - 1, by omega⟩
    have gl : g < h.length := (List.getElem?_eq_some_iff.mp hg).1
    have e1 := r_is_name (k := k) (t := .name n) (h := h) (by simp [Tm.depth] at hk; omega) rfl
    have tk : TabK h (.r g) τ := .inr ⟨g, rfl, hg⟩
    have i1 := tab_in (n := n) tk
    rw [fit_name, c_fit_to]
    rw [enc_name] at *
    cases q : τ.lookup n with
    | some v =>
      rw [q] at i1
      have x := tab_ix (n := n) (u := v) tk q
      have hv := hs.look q
      have qe := eq_enc (a := v) (b := u) (h := h) hv.1 hu.1 (by have := hv.2; omega) (by have := hu.2; omega)
      simp only
      rw [set_same hg]
      simp [t_fit_to, e1, Tm.isName, ix_n1, i1, x, qe]
    | none =>
      rw [q] at i1
      have si := set_dD (u := u) hg q (by simp [Tm.size] at hm; omega)
      have en : endM h (.ok (.rt (.d (.bool true))) (h.set g (dD (τ ++ [(n, u)])))) = .ok (.d (.bool true)) (h.set g (dD (τ ++ [(n, u)]))) := end_set0 clos_dic gl
      simp [-List.map_append, t_fit_to, e1, Tm.isName, ix_n1, i1, si, en]
  · intro f as ih ht k hk u hu g h τ hg hs hm
    obtain ⟨k, rfl⟩ : ∃ j, k = j + 1 := ⟨k - 1, by omega⟩
    obtain ⟨o1, o2, o3, o4⟩ := Tm.ok_tree.mp ht.1
    have gl : g < h.length := (List.getElem?_eq_some_iff.mp hg).1
    have hd := ht.2
    simp only [Tm.depth] at hd hk
    have e1 := r_is_name (k := k) (t := .tree f as) (h := h) (by omega) ht.1
    have e2 := r_is_tree (k := k) (t := .tree f as) (h := h) (by omega) ht.1
    have e3 := r_is_tree (k := k) (t := u) (h := h) (by omega) hu.1
    rw [Tm.size_tree] at hm
    cases q : u.isTree with
    | false =>
      rw [q] at e3
      have qe := eq_enc (a := .tree f as) (b := u) (h := h) ht.1 hu.1 (by simp only [Tm.depth]; omega) (by have := hu.2; omega)
      have ne : Tm.tree f as ≠ u := fun e => by rw [← e] at q; cases q
      rw [decide_eq_false ne] at qe
      rw [fit_treeN q, set_same hg, c_fit_to]
      rw [enc_tree] at *
      simp [t_fit_to, e1, e2, e3, Tm.isName, Tm.isTree, qe]
    | true =>
      cases u with
      | tree f' bs =>
        obtain ⟨p1, p2, p3, p4⟩ := Tm.ok_tree.mp hu.1
        have n1 : ∀ H : AH, cmp .NotEq (.d (.str f)) (.d (.str f')) H = .ok (.d (.bool (!decide (f = f')))) H := fun H => ne_w o1 p1
        have n2 : ∀ H : AH, cmp .NotEq (.d (.int ((as.length : Int) + 1))) (.d (.int ((bs.length : Int) + 1))) H = .ok (.d (.bool (!decide (as.length = bs.length)))) H := fun H => by
          rw [ne_i]
          by_cases z : as.length = bs.length
          · simp [z]
          · have : ¬ ((as.length : Int) + 1 = (bs.length : Int) + 1) := by omega
            simp [z, this]
        rw [c_fit_to]
        rw [enc_tree] at *
        rw [enc_tree] at *
        by_cases e : f = f' ∧ as.length = bs.length
        · rw [fit_tree e]
          obtain ⟨ef, el⟩ := e
          subst ef
          have lo := fit_lc (F := "fit_to") (k := k) (g := g) (f := f) (f' := f) (as := as) (bs := bs) (fun a ha => ih a ha (SmT.kid f as ht a ha) k (by have := Tm.depth_le ha; omega)) el (SmT.kid f bs hu) hg hs (by omega) (by omega)
          have en : ∀ b : Bool, endM h (.ok (.rt (.d (.bool b))) (h.set g (dD (fitL as bs τ).2))) = .ok (.d (.bool b)) (h.set g (dD (fitL as bs τ).2)) := fun b => end_set0 clos_dic gl
          have al := all_fitBs as bs τ
          rw [decide_eq_true el] at n2
          simp [-eLC_ap, -List.map_map, -List.all_map, t_fit_to, e1, e2, e3, Tm.isName, Tm.isTree, ixM, at0, n1, n2, fLen, ↓lo, fAll, listD, peek, boolsD_map, al, en]
        · rw [fit_tree0 e, set_same hg]
          by_cases ef : f = f'
          · have el : ¬ as.length = bs.length := fun z => e ⟨ef, z⟩
            rw [decide_eq_true ef] at n1
            rw [decide_eq_false el] at n2
            simp [t_fit_to, e1, e2, e3, Tm.isName, Tm.isTree, ixM, at0, n1, n2, fLen]
          · rw [decide_eq_false ef] at n1
            simp [t_fit_to, e1, e2, e3, Tm.isName, Tm.isTree, ixM, at0, n1, n2, fLen]
      | _ => cases q
end Ev
set_option Elab.async false
set_option linter.all false
set_option maxRecDepth 100000
set_option maxHeartbeats 4000000
namespace Ev
open PySem PySem.Spec PyProof.Rows L2 He
/-! ### fits, covers, alike -/
def Tsm (t : Tm) : Prop := t.ok = true ∧ t.depth ≤ 50 ∧ t.size ≤ 300
theorem Tsm.s {t : Tm} (h : Tsm t) : SmT t := ⟨h.1, by have := h.2.1; omega⟩
noncomputable def fitsD (a b : Tm) : PyData := if (fit a b []).1 = true then .dict (encT (fit a b []).2) else .none
theorem r_fits {a b : Tm} (ha : Tsm a) (hb : Tsm b) {k : Nat} (hk : a.depth + b.depth + 10 ≤ k) {h : AH} : call k (pl "fits") [.d (enc a), .d (enc b)] h = .ok (.d (fitsD a b)) h := by
  obtain ⟨k, rfl⟩ : ∃ j, k = j + 1 := ⟨k - 1, by omega⟩
  have e1 := r_look_term (h := h) (t := a) (k := k) ha.1 ha.2.2 (by omega)
  have e2 := r_look_term (h := h) (t := b) (k := k) hb.1 hb.2.2 (by omega)
  have f1 := r_fitP a ha.s k (by omega) b hb.s h.length (h ++ [.dic []]) [] at_l (fun p hp => by cases hp) (by have := ha.2.2; simp; omega)
  rw [show (h ++ [AO.dic []]).set h.length (dD (fit a b []).2) = h ++ [dD (fit a b []).2] from by rw [List.set_append_right _ _ (Nat.le_refl _)]; simp] at f1
  rw [c_fits]
  have ed : ∀ E : EnvW, eDict0 E h = .ok (.r h.length) (h ++ [.dic []]) := fun E => rfl
  unfold fitsD
  cases q : (fit a b []).1 with
  | true =>
    rw [q] at f1
    have en := end_dic (h := h) (j := [dD (fit a b []).2]) (i := h.length) (kvs := (fit a b []).2) (Nat.le_refl _) at_l
    simp [t_fits, e1, e2, ed, f1, en]
  | false =>
    rw [q] at f1
    have en := end_d (h := h) (j := [dD (fit a b []).2]) (x := .none)
    simp [t_fits, e1, e2, ed, f1, en]
theorem r_covers {a b : Tm} (ha : Tsm a) (hb : Tsm b) {k : Nat} (hk : a.depth + b.depth + 11 ≤ k) {h : AH} : call k (pl "covers") [.d (enc a), .d (enc b)] h = .ok (.d (.bool (fit a b []).1)) h := by
  obtain ⟨k, rfl⟩ : ∃ j, k = j + 1 := ⟨k - 1, by omega⟩
  have f := r_fits ha hb (k := k) (by omega) (h := h)
  rw [c_covers]
  unfold fitsD at f
  cases q : (fit a b []).1 with
  | true =>
    rw [q] at f
    have n1 : ∀ (ds : List (PyData × PyData)) (H : AH), cmp .IsNot (.d (.dict ds)) (.d .none) H = .ok (.d (.bool true)) H := fun ds H => rfl
    simp [t_covers, f, n1]
  | false =>
    rw [q] at f
    have n1 : ∀ H : AH, cmp .IsNot (.d .none) (.d .none) H = .ok (.d (.bool false)) H := fun H => rfl
    simp [t_covers, f, n1]
theorem r_alike {a b : Tm} (ha : Tsm a) (hb : Tsm b) {k : Nat} (hk : a.depth + b.depth + 12 ≤ k) {h : AH} : call k (pl "alike") [.d (enc a), .d (enc b)] h = .ok (.d (.bool ((fit a b []).1 && (fit b a []).1))) h := by
  obtain ⟨k, rfl⟩ : ∃ j, k = j + 1 := ⟨k - 1, by omega⟩
  have f1 := r_covers ha hb (k := k) (by omega) (h := h)
  have f2 := r_covers hb ha (k := k) (by omega) (h := h)
  rw [c_alike]
  cases q : (fit a b []).1 with
  | true => rw [q] at f1; simp [t_alike, f1, f2]
  | false => rw [q] at f1; simp [t_alike, f1]
end Ev
set_option Elab.async false
set_option linter.all false
set_option maxRecDepth 100000
set_option maxHeartbeats 2000000
namespace Ev
open PySem PySem.Spec PyProof.Rows L2 He
/-! ### what is common to two terms, plain -/
abbrev KP := List (Tm × Tm)
noncomputable def idx (κ : KP) (p : Tm × Tm) : Nat := κ.idxOf p
mutual
noncomputable def gen (κ : KP) : Tm → Tm → Tm
  | .num i, b => if b = .num i then .num i else .name (idx κ (.num i, b))
  | .word i, b => if b = .word i then .word i else .name (idx κ (.word i, b))
  | .name n, b => .name (idx κ (.name n, b))
  | .tree f as, b => match b with
    | .tree g bs => if f = g ∧ as.length = bs.length then .tree f (genL κ as bs) else .name (idx κ (.tree f as, .tree g bs))
    | b => .name (idx κ (.tree f as, b))
noncomputable def genL (κ : KP) : List Tm → List Tm → List Tm
  | a :: as, b :: bs => gen κ a b :: genL κ as bs
  | [], _ => []
  | _ :: _, [] => []
end
mutual
noncomputable def prs : Tm → Tm → KP
  | .num i, b => if b = .num i then [] else [(.num i, b)]
  | .word i, b => if b = .word i then [] else [(.word i, b)]
  | .name n, b => [(.name n, b)]
  | .tree f as, b => match b with
    | .tree g bs => if f = g ∧ as.length = bs.length then prsL as bs else [(.tree f as, .tree g bs)]
    | b => [(.tree f as, b)]
noncomputable def prsL : List Tm → List Tm → KP
  | a :: as, b :: bs => prs a b ++ prsL as bs
  | [], _ => []
  | _ :: _, [] => []
end
section
variable {κ : KP}
theorem gen_num {i : Int} {b : Tm} : gen κ (.num i) b = if b = .num i then .num i else .name (idx κ (.num i, b)) := by rw [gen]
theorem gen_word {i : Str} {b : Tm} : gen κ (.word i) b = if b = .word i then .word i else .name (idx κ (.word i, b)) := by rw [gen]
theorem gen_name {n : Nat} {b : Tm} : gen κ (.name n) b = .name (idx κ (.name n, b)) := by rw [gen]
theorem gen_tree {f g : Str} {as bs : List Tm} (h : f = g ∧ as.length = bs.length) : gen κ (.tree f as) (.tree g bs) = .tree f (genL κ as bs) := by rw [gen, if_pos h]
theorem gen_tree0 {f g : Str} {as bs : List Tm} (h : ¬ (f = g ∧ as.length = bs.length)) : gen κ (.tree f as) (.tree g bs) = .name (idx κ (.tree f as, .tree g bs)) := by rw [gen, if_neg h]
theorem gen_treeN {f : Str} {as : List Tm} {b : Tm} (h : b.isTree = false) : gen κ (.tree f as) b = .name (idx κ (.tree f as, b)) := by
  cases b with
  | tree g bs => cases h
  | _ => rw [gen]; intro g bs e; cases e
theorem genL_cons {a b : Tm} {as bs : List Tm} : genL κ (a :: as) (b :: bs) = gen κ a b :: genL κ as bs := by rw [genL]
theorem genL_nil {bs : List Tm} : genL κ [] bs = [] := by rw [genL]
theorem genL_nil2 {as : List Tm} : genL κ as [] = [] := by cases as <;> rw [genL]
theorem prs_num {i : Int} {b : Tm} : prs (.num i) b = if b = .num i then [] else [(.num i, b)] := by rw [prs]
theorem prs_word {i : Str} {b : Tm} : prs (.word i) b = if b = .word i then [] else [(.word i, b)] := by rw [prs]
theorem prs_name {n : Nat} {b : Tm} : prs (.name n) b = [(.name n, b)] := by rw [prs]
theorem prs_tree {f g : Str} {as bs : List Tm} (h : f = g ∧ as.length = bs.length) : prs (.tree f as) (.tree g bs) = prsL as bs := by rw [prs, if_pos h]
theorem prs_tree0 {f g : Str} {as bs : List Tm} (h : ¬ (f = g ∧ as.length = bs.length)) : prs (.tree f as) (.tree g bs) = [(.tree f as, .tree g bs)] := by rw [prs, if_neg h]
theorem prs_treeN {f : Str} {as : List Tm} {b : Tm} (h : b.isTree = false) : prs (.tree f as) b = [(.tree f as, b)] := by
  cases b with
  | tree g bs => cases h
  | _ => rw [prs]; intro g bs e; cases e
theorem prsL_cons {a b : Tm} {as bs : List Tm} : prsL (a :: as) (b :: bs) = prs a b ++ prsL as bs := by rw [prsL]
theorem prsL_nil {bs : List Tm} : prsL [] bs = [] := by rw [prsL]
theorem prsL_nil2 {as : List Tm} : prsL as [] = [] := by cases as <;> rw [prsL]
end
/-- the ways two terms stand to each other -/
inductive Way : Tm → Tm → Prop
  | leaf (a : Tm) : a.isName = false → a.isTree = false → Way a a
  | tree (f : Str) (as bs : List Tm) : as.length = bs.length → Way (.tree f as) (.tree f bs)
  | miss (a b : Tm) : (∀ κ, gen κ a b = .name (idx κ (a, b))) → prs a b = [(a, b)] → (a.isName = true ∨ a ≠ b ∨ a.isTree = true) → (∀ f as bs, a = .tree f as → b = .tree f bs → as.length ≠ bs.length) → Way a b
theorem way (a b : Tm) : Way a b := by
  cases a with
  | num i =>
    by_cases e : b = .num i
    · subst e; exact .leaf _ rfl rfl
    · exact .miss _ _ (fun κ => by rw [gen_num, if_neg e]) (by rw [prs_num, if_neg e]) (.inr (.inl (fun z => e z.symm))) (fun f as bs z => by cases z)
  | word i =>
    by_cases e : b = .word i
    · subst e; exact .leaf _ rfl rfl
    · exact .miss _ _ (fun κ => by rw [gen_word, if_neg e]) (by rw [prs_word, if_neg e]) (.inr (.inl (fun z => e z.symm))) (fun f as bs z => by cases z)
  | name n => exact .miss _ _ (fun κ => gen_name) prs_name (.inl rfl) (fun f as bs z => by cases z)
  | tree f as =>
    cases q : b.isTree with
    | false => exact .miss _ _ (fun κ => gen_treeN q) (prs_treeN q) (.inr (.inr rfl)) (fun f as bs _ z => by rw [z] at q; cases q)
    | true =>
      cases b with
      | tree g bs =>
        by_cases e : f = g ∧ as.length = bs.length
        · obtain ⟨rfl, el⟩ := e
          exact .tree f as bs el
        · exact .miss _ _ (fun κ => gen_tree0 e) (prs_tree0 e) (.inr (.inr rfl)) (fun f' as' bs' z1 z2 => by cases z1; cases z2; exact fun z => e ⟨rfl, z⟩)
      | _ => cases q
theorem gen_leaf {κ : KP} {a : Tm} (h1 : a.isName = false) (h2 : a.isTree = false) : gen κ a a = a := by
  cases a with
  | num i => rw [gen_num, if_pos rfl]
  | word i => rw [gen_word, if_pos rfl]
  | name n => cases h1
  | tree f as => cases h2
theorem prs_leaf {a : Tm} (h1 : a.isName = false) (h2 : a.isTree = false) : prs a a = [] := by
  cases a with
  | num i => rw [prs_num, if_pos rfl]
  | word i => rw [prs_word, if_pos rfl]
  | name n => cases h1
  | tree f as => cases h2
/-! ### pairs that are known -/
noncomputable def reg (κ : KP) (p : Tm × Tm) : KP := if p ∈ κ then κ else κ ++ [p]
noncomputable def regs (κ : KP) (l : KP) : KP := l.foldl reg κ
theorem regs_app {κ l m : KP} : regs κ (l ++ m) = regs (regs κ l) m := List.foldl_append ..
theorem mem_reg {κ : KP} {p q : Tm × Tm} : q ∈ reg κ p ↔ q ∈ κ ∨ q = p := by
  unfold reg
  split
  · rename_i h
    exact ⟨.inl, fun z => z.elim id fun e => e ▸ h⟩
  · simp
theorem mem_regs {q : Tm × Tm} : ∀ (l κ : KP), q ∈ regs κ l ↔ q ∈ κ ∨ q ∈ l
  | [], κ => by simp [regs]
  | p :: l, κ => by
    show q ∈ regs (reg κ p) l ↔ _
    rw [mem_regs l, mem_reg, List.mem_cons, or_assoc]
theorem reg_pre {κ : KP} {p : Tm × Tm} : κ <+: reg κ p := by
  unfold reg
  split
  · exact List.prefix_refl _
  · exact List.prefix_append _ _
theorem regs_pre : ∀ (l κ : KP), κ <+: regs κ l
  | [], κ => List.prefix_refl _
  | p :: l, κ => reg_pre.trans (regs_pre l (reg κ p))
theorem reg_len {κ : KP} {p : Tm × Tm} : (reg κ p).length ≤ κ.length + 1 := by
  unfold reg; split <;> simp
theorem regs_len : ∀ (l κ : KP), (regs κ l).length ≤ κ.length + l.length
  | [], κ => by simp [regs]
  | p :: l, κ => by
    have := regs_len l (reg κ p)
    have := reg_len (κ := κ) (p := p)
    show (regs (reg κ p) l).length ≤ _
    rw [List.length_cons]; omega
theorem idx_lt {κ : KP} {p : Tm × Tm} (h : p ∈ κ) : idx κ p < κ.length := List.idxOf_lt_length_of_mem h
theorem idx_get {κ : KP} {p : Tm × Tm} (h : p ∈ κ) : κ[idx κ p]? = some p := by
  have := idx_lt h
  rw [List.getElem?_eq_getElem this]
  exact congrArg some (List.getElem_idxOf this)
theorem idx_pre {κ κ' : KP} {p : Tm × Tm} (h : p ∈ κ) (hp : κ <+: κ') : idx κ' p = idx κ p := by
  obtain ⟨t, rfl⟩ := hp
  unfold idx
  rw [List.idxOf_append, if_pos h]
theorem idx_new {κ : KP} {p : Tm × Tm} (h : p ∉ κ) : idx (κ ++ [p]) p = κ.length := by
  unfold idx
  rw [List.idxOf_append, if_neg h]
  simp
theorem genL_congr {κ κ' : KP} : ∀ (as : List Tm), (∀ a ∈ as, ∀ b, (∀ p ∈ prs a b, idx κ p = idx κ' p) → gen κ a b = gen κ' a b) → ∀ bs : List Tm, (∀ p ∈ prsL as bs, idx κ p = idx κ' p) → genL κ as bs = genL κ' as bs
  | [], _, bs, _ => by rw [genL_nil, genL_nil]
  | a :: as, h, [], _ => by rw [genL_nil2, genL_nil2]
  | a :: as, h, b :: bs, hp => by
    rw [prsL_cons] at hp
    rw [genL_cons, genL_cons, h a (by simp) b (fun p hq => hp p (by simp [hq])), genL_congr as (fun x hx => h x (by simp [hx])) bs fun p hq => hp p (by simp [hq])]
theorem gen_congr {κ κ' : KP} : ∀ (a b : Tm), (∀ p ∈ prs a b, idx κ p = idx κ' p) → gen κ a b = gen κ' a b := by
  refine Tm.ind ?_ ?_ ?_ ?_
  all_goals
    intros
    rename_i h
  · rename_i i b
    cases way (.num i) b with
    | leaf _ h1 h2 => rw [gen_leaf h1 h2, gen_leaf h1 h2]
    | miss _ _ h1 h2 => rw [h1, h1, h _ (by rw [h2]; simp)]
  · rename_i i b
    cases way (.word i) b with
    | leaf _ h1 h2 => rw [gen_leaf h1 h2, gen_leaf h1 h2]
    | miss _ _ h1 h2 => rw [h1, h1, h _ (by rw [h2]; simp)]
  · rename_i i b
    cases way (.name i) b with
    | leaf _ h1 h2 => cases h1
    | miss _ _ h1 h2 => rw [h1, h1, h _ (by rw [h2]; simp)]
  · rename_i f as ih b
    cases way (.tree f as) b with
    | leaf _ h1 h2 => cases h2
    | miss _ _ h1 h2 => rw [h1, h1, h _ (by rw [h2]; simp)]
    | tree _ _ bs hl =>
      rw [gen_tree ⟨rfl, hl⟩, gen_tree ⟨rfl, hl⟩]
      rw [prs_tree ⟨rfl, hl⟩] at h
      rw [genL_congr as (fun a ha b hp => ih a ha b hp) bs h]
theorem gen_stay {κ κ' : KP} {a b : Tm} (h : ∀ p ∈ prs a b, p ∈ κ) (hp : κ <+: κ') : gen κ' a b = gen κ a b := gen_congr a b fun p hq => idx_pre (h p hq) hp
/-! ### it covers both -/
noncomputable def πL (κ : KP) (i : Nat) : Tm := ((κ[i]?).map Prod.fst).getD (.name 0)
noncomputable def πR (κ : KP) (i : Nat) : Tm := ((κ[i]?).map Prod.snd).getD (.name 0)
theorem gen_l {κ : KP} : ∀ (a b : Tm), (∀ p ∈ prs a b, p ∈ κ) → (gen κ a b).app (πL κ) = a ∧ (gen κ a b).app (πR κ) = b := by
  have M : ∀ a b : Tm, (∀ κ, gen κ a b = .name (idx κ (a, b))) → prs a b = [(a, b)] → (∀ p ∈ prs a b, p ∈ κ) → (gen κ a b).app (πL κ) = a ∧ (gen κ a b).app (πR κ) = b := fun a b h1 h2 h => by
    have hm : (a, b) ∈ κ := h (a, b) (by rw [h2]; simp)
    rw [h1, Tm.app_name, Tm.app_name]
    unfold πL πR
    rw [idx_get hm]
    exact ⟨rfl, rfl⟩
  have LL : ∀ (as : List Tm), (∀ a ∈ as, ∀ b, (∀ p ∈ prs a b, p ∈ κ) → (gen κ a b).app (πL κ) = a ∧ (gen κ a b).app (πR κ) = b) → ∀ bs : List Tm, as.length = bs.length → (∀ p ∈ prsL as bs, p ∈ κ) → (genL κ as bs).map (Tm.app (πL κ)) = as ∧ (genL κ as bs).map (Tm.app (πR κ)) = bs := by
    intro as
    induction as with
    | nil =>
      intro _ bs hl _
      cases bs with
      | nil => rw [genL_nil]; exact ⟨rfl, rfl⟩
      | cons b bs => simp at hl
    | cons a as ih =>
      intro h bs hl hp
      cases bs with
      | nil => simp at hl
      | cons b bs =>
        rw [prsL_cons] at hp
        obtain ⟨i1, i2⟩ := ih (fun x hx => h x (by simp [hx])) bs (by simpa using hl) fun p hq => hp p (by simp [hq])
        obtain ⟨j1, j2⟩ := h a (by simp) b fun p hq => hp p (by simp [hq])
        rw [genL_cons, List.map_cons, List.map_cons, i1, i2, j1, j2]
        exact ⟨rfl, rfl⟩
  refine Tm.ind ?_ ?_ ?_ ?_
  all_goals
    intros
    rename_i h
  · rename_i i b
    cases way (.num i) b with
    | leaf _ h1 h2 => rw [gen_leaf h1 h2]; exact ⟨by simp, by simp⟩
    | miss _ _ h1 h2 => exact M _ _ h1 h2 h
  · rename_i i b
    cases way (.word i) b with
    | leaf _ h1 h2 => rw [gen_leaf h1 h2]; exact ⟨by simp, by simp⟩
    | miss _ _ h1 h2 => exact M _ _ h1 h2 h
  · rename_i i b
    cases way (.name i) b with
    | leaf _ h1 h2 => cases h1
    | miss _ _ h1 h2 => exact M _ _ h1 h2 h
  · rename_i f as ih b
    cases way (.tree f as) b with
    | leaf _ h1 h2 => cases h2
    | miss _ _ h1 h2 => exact M _ _ h1 h2 h
    | tree _ _ bs hl =>
      rw [prs_tree ⟨rfl, hl⟩] at h
      obtain ⟨i1, i2⟩ := LL as (fun a ha b hp => ih a ha b hp) bs hl h
      rw [gen_tree ⟨rfl, hl⟩, Tm.app_tree, Tm.app_tree, i1, i2]
      exact ⟨rfl, rfl⟩
/-! ### and is the least that does -/
theorem gen_lgg {κ : KP} {σ τ : Nat → Tm} : ∀ d : Tm, d.app (fun n => gen κ (σ n) (τ n)) = gen κ (d.app σ) (d.app τ) := by
  refine Tm.ind ?_ ?_ ?_ ?_
  · intro i; simp only [Tm.app_num]; rw [gen_leaf rfl rfl]
  · intro i; simp only [Tm.app_word]; rw [gen_leaf rfl rfl]
  · intro n; simp only [Tm.app_name]
  · intro f ds ih
    rw [Tm.app_tree, Tm.app_tree, Tm.app_tree, gen_tree ⟨rfl, by simp⟩]
    congr 1
    induction ds with
    | nil => rw [List.map_nil, List.map_nil, genL_nil]
    | cons d ds ih2 =>
      rw [List.map_cons, List.map_cons, List.map_cons, genL_cons, ih d (by simp), ih2 fun a ha => ih a (by simp [ha])]
noncomputable def lgg (a b : Tm) : Tm := gen (regs [] (prs a b)) a b
theorem lgg_l (a b : Tm) : Cov (lgg a b) a := ⟨_, (gen_l a b fun p hp => (mem_regs _ _).mpr (.inr hp)).1⟩
theorem lgg_r (a b : Tm) : Cov (lgg a b) b := ⟨_, (gen_l a b fun p hp => (mem_regs _ _).mpr (.inr hp)).2⟩
theorem lgg_most {a b d : Tm} (ha : Cov d a) (hb : Cov d b) : Cov d (lgg a b) := by
  obtain ⟨σ, rfl⟩ := ha
  obtain ⟨τ, rfl⟩ := hb
  exact ⟨_, gen_lgg d⟩
/-! ### its size -/
theorem genL_len {κ : KP} : ∀ (as bs : List Tm), as.length = bs.length → (genL κ as bs).length = as.length
  | [], bs, _ => by rw [genL_nil]
  | a :: as, [], h => by simp at h
  | a :: as, b :: bs, h => by rw [genL_cons, List.length_cons, List.length_cons, genL_len as bs (by simpa using h)]
theorem genL_mem {κ : KP} {x : Tm} : ∀ (as bs : List Tm), x ∈ genL κ as bs → ∃ a ∈ as, ∃ b ∈ bs, x = gen κ a b
  | [], bs, h => by rw [genL_nil] at h; cases h
  | a :: as, [], h => by rw [genL_nil2] at h; cases h
  | a :: as, b :: bs, h => by
    rw [genL_cons] at h
    rcases List.mem_cons.mp h with e | e
    · exact ⟨a, by simp, b, by simp, e⟩
    · obtain ⟨x', h1, y', h2, e⟩ := genL_mem as bs e
      exact ⟨x', by simp [h1], y', by simp [h2], e⟩
theorem gen_ok {κ : KP} : ∀ (a b : Tm), a.ok = true → (gen κ a b).ok = true ∧ (gen κ a b).depth ≤ a.depth ∧ (gen κ a b).size ≤ a.size ∧ (prs a b).length ≤ a.size := by
  have M : ∀ a b : Tm, (∀ κ, gen κ a b = .name (idx κ (a, b))) → prs a b = [(a, b)] → (gen κ a b).ok = true ∧ (gen κ a b).depth ≤ a.depth ∧ (gen κ a b).size ≤ a.size ∧ (prs a b).length ≤ a.size := fun a b h1 h2 => by
    rw [h1, h2]
    have := Tm.depth_pos a
    have := Tm.size_pos a
    exact ⟨rfl, by simp [Tm.depth]; omega, by simp [Tm.size]; omega, by simp; omega⟩
  have LL : ∀ (as : List Tm), (∀ a ∈ as, ∀ b, (gen κ a b).size ≤ a.size ∧ (prs a b).length ≤ a.size) → ∀ bs : List Tm, ((genL κ as bs).map Tm.size).sum ≤ (as.map Tm.size).sum ∧ (prsL as bs).length ≤ (as.map Tm.size).sum := by
    intro as
    induction as with
    | nil => intro _ bs; rw [genL_nil, prsL_nil]; simp
    | cons a as ih =>
      intro h bs
      cases bs with
      | nil => rw [genL_nil2, prsL_nil2]; simp
      | cons b bs =>
        obtain ⟨i1, i2⟩ := ih (fun x hx => h x (by simp [hx])) bs
        obtain ⟨j1, j2⟩ := h a (by simp) b
        rw [genL_cons, prsL_cons]
        simp only [List.map_cons, List.sum_cons, List.length_append]
        omega
  refine Tm.ind ?_ ?_ ?_ ?_
  · intro i b h
    cases way (.num i) b with
    | leaf _ h1 h2 => rw [gen_leaf h1 h2, prs_leaf h1 h2]; exact ⟨h, Nat.le_refl _, Nat.le_refl _, by simp⟩
    | miss _ _ h1 h2 => exact M _ _ h1 h2
  · intro i b h
    cases way (.word i) b with
    | leaf _ h1 h2 => rw [gen_leaf h1 h2, prs_leaf h1 h2]; exact ⟨h, Nat.le_refl _, Nat.le_refl _, by simp⟩
    | miss _ _ h1 h2 => exact M _ _ h1 h2
  · intro i b h
    cases way (.name i) b with
    | leaf _ h1 h2 => cases h1
    | miss _ _ h1 h2 => exact M _ _ h1 h2
  · intro f as ih b h
    cases way (.tree f as) b with
    | leaf _ h1 h2 => cases h2
    | miss _ _ h1 h2 => exact M _ _ h1 h2
    | tree _ _ bs hl =>
      obtain ⟨o1, o2, o3, o4⟩ := Tm.ok_tree.mp h
      rw [gen_tree ⟨rfl, hl⟩, prs_tree ⟨rfl, hl⟩]
      obtain ⟨l1, l2⟩ := LL as (fun a ha b => ⟨(ih a ha b (o4 a ha)).2.2.1, (ih a ha b (o4 a ha)).2.2.2⟩) bs
      refine ⟨Tm.ok_tree.mpr ⟨o1, by rw [genL_len as bs hl]; exact o2, by rw [genL_len as bs hl]; exact o3, fun x hx => ?_⟩, ?_, by rw [Tm.size_tree, Tm.size_tree]; omega, by rw [Tm.size_tree]; omega⟩
      · obtain ⟨a, ha, b', hb, rfl⟩ := genL_mem as bs hx
        exact (ih a ha b' (o4 a ha)).1
      · simp only [Tm.depth]
        have : Tm.depthL (genL κ as bs) ≤ Tm.depthL as := Tm.depthL_le fun x hx => by
          obtain ⟨a, ha, b', hb, rfl⟩ := genL_mem as bs hx
          exact Nat.le_trans (ih a ha b' (o4 a ha)).2.1 (Tm.depth_le ha)
        omega
/-! ### alike terms have as many names -/
theorem alike_name {a : Tm} {σ τ : Nat → Tm} (h : (a.app σ).app τ = a) {n : Nat} (hn : a.has n = true) : ∃ m, σ n = .name m ∧ τ m = .name n := by
  rw [Tm.app_comp] at h
  have e : ∀ (a : Tm), a.app (fun n => (σ n).app τ) = a → a.has n = true → (σ n).app τ = .name n := by
    refine Tm.ind ?_ ?_ ?_ ?_
    · intro i _ hn; simp [Tm.has] at hn
    · intro i _ hn; simp [Tm.has] at hn
    · intro m h hn
      have : m = n := by simpa [Tm.has] using hn
      subst this
      simpa using h
    · intro f as ih h hn
      rw [Tm.app_tree] at h
      have h' : as.map (Tm.app fun n => (σ n).app τ) = as := by injection h
      rw [Tm.has_tree, List.any_eq_true] at hn
      obtain ⟨x, hx, hn⟩ := hn
      refine ih x hx ?_ hn
      have : ∀ (l : List Tm), l.map (Tm.app fun n => (σ n).app τ) = l → ∀ x ∈ l, x.app (fun n => (σ n).app τ) = x := by
        intro l
        induction l with
        | nil => intro _ x hx; cases hx
        | cons y l ih2 =>
          intro hl x hx
          rw [List.map_cons] at hl
          injection hl with e1 e2
          rcases List.mem_cons.mp hx with e | e
          · rw [e]; exact e1
          · exact ih2 e2 x e
      exact this as h' x hx
  have z := e a h hn
  cases q : σ n with
  | name m => rw [q] at z; exact ⟨m, rfl, by simpa using z⟩
  | num i => rw [q] at z; simp at z
  | word i => rw [q] at z; simp at z
  | tree f as => rw [q, Tm.app_tree] at z; cases z
theorem nd_sub : ∀ {xs ys : List Int}, xs.Nodup → (∀ x ∈ xs, x ∈ ys) → xs.length ≤ ys.length
  | [], ys, _, _ => by simp
  | x :: xs, ys, nd, h => by
    rw [List.nodup_cons] at nd
    have h1 := nd_sub (xs := xs) (ys := ys.erase x) nd.2 fun y hy => by
      have : y ≠ x := fun e => nd.1 (e ▸ hy)
      exact (List.mem_erase_of_ne this).mpr (h y (by simp [hy]))
    have h2 := List.length_erase_of_mem (h x (by simp))
    have h3 := List.length_pos_of_mem (h x (by simp))
    rw [List.length_cons]
    omega
theorem names_le {a b : Tm} {N : Nat} {as bs : List Int} (hab : Cov a b) (hba : Cov b a) (A : Nms N (fun n => a.has n) as) (B : Nms N (fun n => b.has n) bs) : as.length ≤ bs.length := by
  obtain ⟨σ, rfl⟩ := hab
  obtain ⟨τ, ht⟩ := hba
  have f : ∀ x ∈ as, ∃ m : Nat, σ x.toNat = .name m ∧ τ m = .name x.toNat := fun x hx => by
    obtain ⟨x0, _⟩ := A.lo x hx
    obtain ⟨n, rfl⟩ : ∃ n : Nat, x = (n : Int) := ⟨x.toNat, by omega⟩
    rw [Int.toNat_natCast]
    exact alike_name ht ((A.iff n).mp hx)
  have g : ∀ x : Int, ∃ m : Nat, x ∈ as → σ x.toNat = .name m ∧ τ m = .name x.toNat := fun x => by
    by_cases hx : x ∈ as
    · obtain ⟨m, hm⟩ := f x hx
      exact ⟨m, fun _ => hm⟩
    · exact ⟨0, fun z => absurd z hx⟩
  obtain ⟨F, hF⟩ : ∃ F : Int → Nat, ∀ x, x ∈ as → σ x.toNat = .name (F x) ∧ τ (F x) = .name x.toNat := ⟨fun x => (g x).choose, fun x => (g x).choose_spec⟩
  have h1 : (as.map fun x => (F x : Int)).Nodup := by
    rw [List.nodup_iff_pairwise_ne, List.pairwise_map]
    refine List.Pairwise.imp_of_mem (R := (· ≠ ·)) ?_ A.nd
    intro x y hx hy ne e
    have e : F x = F y := by omega
    have q1 := (hF x hx).2
    have q2 := (hF y hy).2
    rw [e, q2] at q1
    obtain ⟨x0, _⟩ := A.lo x hx
    obtain ⟨y0, _⟩ := A.lo y hy
    have : y.toNat = x.toNat := by injection q1
    omega
  have h2 := nd_sub (ys := bs) h1 fun z hz => by
    obtain ⟨x, hx, rfl⟩ := List.mem_map.mp hz
    obtain ⟨x0, _⟩ := A.lo x hx
    refine (B.iff (F x)).mpr ?_
    rw [Tm.has_app]
    refine ⟨x.toNat, (A.iff x.toNat).mp (by rw [show ((x.toNat : Nat) : Int) = x by omega]; exact hx), ?_⟩
    rw [(hF x hx).1]
    simp [Tm.has]
  rw [List.length_map] at h2
  exact h2
end Ev
set_option Elab.async false
set_option linter.all false
set_option maxRecDepth 100000
set_option maxHeartbeats 4000000
namespace Ev
open PySem PySem.Spec PyProof.Rows L2 He
/-! ### pairs of terms as keys -/
mutual
def nk : Tm → NestedKey
  | .num i => .num i
  | .word s => .text s
  | .name n => .tup [.text "?", .num n]
  | .tree f as => .tup (.text f :: nkL as)
def nkL : List Tm → List NestedKey
  | [] => []
  | a :: as => nk a :: nkL as
end
theorem nkL_eq : ∀ as, nkL as = as.map nk
  | [] => by simp [nkL]
  | a :: as => by simp [nkL, nkL_eq as]
theorem nkOfL_map {as : List Tm} (h : ∀ a ∈ as, nkOf (enc a) = some (nk a)) : nkOfL (as.map enc) = some (as.map nk) := by
  induction as with
  | nil => simp [nkOfL]
  | cons a as ih =>
    rw [List.map_cons, List.map_cons]
    simp only [nkOfL, h a (by simp), ih fun b hb => h b (by simp [hb])]
theorem nkOf_enc : ∀ t : Tm, nkOf (enc t) = some (nk t) := by
  refine Tm.ind ?_ ?_ ?_ ?_
  · intro i; simp [nkOf, nk]
  · intro i; simp [nkOf, nk]
  · intro n; rw [enc_name]; simp [nkOf, nkOfL, nk]
  · intro f as ih
    rw [enc_tree]
    simp only [nkOf, nkOfL, nkOfL_map ih, Option.map_some, nk, nkL_eq]
theorem nk_depth : ∀ t : Tm, (nk t).depth ≤ t.depth := by
  refine Tm.ind ?_ ?_ ?_ ?_
  · intro i; simp [nk, NestedKey.depth]
  · intro i; simp [nk, NestedKey.depth]
  · intro n; simp [nk, NestedKey.depth, NestedKey.depthAll, Tm.depth]
  · intro f as ih
    simp only [nk, NestedKey.depth, NestedKey.depthAll, Tm.depth, nkL_eq]
    have : NestedKey.depthAll (as.map nk) ≤ Tm.depthL as := by
      have go : ∀ l : List Tm, (∀ a ∈ l, a ∈ as) → NestedKey.depthAll (l.map nk) ≤ Tm.depthL as := by
        intro l
        induction l with
        | nil => intro _; simp [NestedKey.depthAll]
        | cons a l ih2 =>
          intro h
          have h1 := ih a (h a (by simp))
          have h2 := Tm.depth_le (h a (by simp))
          have h3 := ih2 fun b hb => h b (by simp [hb])
          simp only [List.map_cons, NestedKey.depthAll]
          omega
      exact go as fun a ha => ha
    omega
theorem nk_inj : ∀ (a : Tm), a.ok = true → ∀ b : Tm, b.ok = true → nk a = nk b → a = b := by
  refine Tm.ind ?_ ?_ ?_ ?_
  · intro i _ b _ h; cases b <;> simp [nk] at h; rw [h]
  · intro i _ b _ h; cases b <;> simp [nk] at h; rw [h]
  · intro n _ b hb h
    cases b with
    | num i => simp [nk] at h
    | word i => simp [nk] at h
    | name m => simp [nk] at h; rw [show n = m by omega]
    | tree f as =>
      have := isW_nq (Tm.ok_tree.mp hb).1
      simp only [nk, NestedKey.tup.injEq, List.cons.injEq, NestedKey.text.injEq] at h
      rw [← h.1] at this
      simp at this
  · intro f as ih ha b hb h
    obtain ⟨o1, o2, o3, o4⟩ := Tm.ok_tree.mp ha
    cases b with
    | num i => simp [nk] at h
    | word i => simp [nk] at h
    | name m =>
      have := isW_nq o1
      simp only [nk, NestedKey.tup.injEq, List.cons.injEq, NestedKey.text.injEq] at h
      rw [h.1] at this
      simp at this
    | tree g bs =>
      obtain ⟨p1, p2, p3, p4⟩ := Tm.ok_tree.mp hb
      simp only [nk, NestedKey.tup.injEq, List.cons.injEq, NestedKey.text.injEq, nkL_eq] at h
      obtain ⟨rfl, h⟩ := h
      have go : ∀ (as bs : List Tm), (∀ a ∈ as, a.ok = true ∧ ∀ b : Tm, b.ok = true → nk a = nk b → a = b) → (∀ b ∈ bs, b.ok = true) → as.map nk = bs.map nk → as = bs := by
        intro as
        induction as with
        | nil => intro bs _ _ h; cases bs with
          | nil => rfl
          | cons b bs => simp at h
        | cons a as ih2 =>
          intro bs h1 h2 h
          cases bs with
          | nil => simp at h
          | cons b bs =>
            rw [List.map_cons, List.map_cons] at h
            injection h with e1 e2
            rw [(h1 a (by simp)).2 b (h2 b (by simp)) e1, ih2 bs (fun x hx => h1 x (by simp [hx])) (fun x hx => h2 x (by simp [hx])) e2]
      rw [go as bs (fun a ha => ⟨o4 a ha, fun b hb h => ih a ha (o4 a ha) b hb h⟩) p4 h]
def nkP (p : Tm × Tm) : NestedKey := .tup [nk p.1, nk p.2]
def Sm7 (t : Tm) : Prop := t.ok = true ∧ t.depth ≤ 7
def Sm7P (p : Tm × Tm) : Prop := Sm7 p.1 ∧ Sm7 p.2
def Sm7K (κ : KP) : Prop := ∀ p ∈ κ, Sm7P p
theorem nkOf_P (p : Tm × Tm) : nkOf (encQ p) = some (nkP p) := by simp [nkOf, nkOfL, nkOf_enc, nkP]
theorem nkT_P {p : Tm × Tm} (h : Sm7P p) : nkT (encQ p) = some (nkP p) := by
  have h1 := nk_depth p.1
  have h2 := nk_depth p.2
  have := h.1.2
  have := h.2.2
  have d : (nkP p).depth ≤ 8 := by
    simp only [nkP, NestedKey.depth, NestedKey.depthAll]; omega
  show (match nkOf (.tuple [enc p.1, enc p.2]) with
    | some k => if k.depth ≤ 8 then some k else none
    | none => none) = some (nkP p)
  rw [show nkOf (.tuple [enc p.1, enc p.2]) = some (nkP p) from nkOf_P p]
  simp only [if_pos d]
theorem nkP_inj {p q : Tm × Tm} (hp : Sm7P p) (hq : Sm7P q) (h : nkP p = nkP q) : p = q := by
  simp only [nkP, NestedKey.tup.injEq, List.cons.injEq, and_true] at h
  exact Prod.ext (nk_inj _ hp.1.1 _ hq.1.1 h.1) (nk_inj _ hp.2.1 _ hq.2.1 h.2)
def knL : Nat → KP → List (PyData × W)
  | _, [] => []
  | i, p :: r => (encQ p, .d (enc (.name i))) :: knL (i + 1) r
def kD (κ : KP) : AO := match κ with
  | [] => .dic []
  | p :: r => .dcn (knL 0 (p :: r))
theorem knL_len : ∀ (i : Nat) (κ : KP), (knL i κ).length = κ.length
  | _, [] => rfl
  | i, p :: r => by simp [knL, knL_len (i + 1) r]
theorem knL_app : ∀ (i : Nat) (κ : KP) (p : Tm × Tm), knL i (κ ++ [p]) = knL i κ ++ [(encQ p, .d (enc (.name (i + κ.length))))]
  | i, [], p => by simp [knL]
  | i, q :: r, p => by
    have e : i + 1 + r.length = i + (r.length + 1) := by omega
    rw [List.cons_append, knL, knL, knL_app (i + 1) r p, List.cons_append, List.length_cons, e]
theorem look_kn {p : Tm × Tm} (hp : Sm7P p) : ∀ (i : Nat) (κ : KP), Sm7K κ → lookN (nkP p) (knL i κ) = if p ∈ κ then some (.d (enc (.name (i + idx κ p)))) else none
  | i, [], _ => by simp [knL, lookN]
  | i, q :: r, h => by
    have ih := look_kn hp (i + 1) r fun x hx => h x (by simp [hx])
    rw [knL]
    unfold lookN
    rw [nkOf_P]
    by_cases e : q = p
    · subst e
      rw [if_pos rfl, if_pos (by simp)]
      have : idx (q :: r) q = 0 := by unfold idx; simp
      rw [this]; rfl
    · have ne : ¬ (some (nkP q) = some (nkP p)) := fun z => e (nkP_inj (h q (by simp)) hp (Option.some.inj z))
      rw [if_neg ne, ih]
      have hi : idx (q :: r) p = idx r p + 1 := by
        unfold idx
        rw [List.idxOf_cons]
        have : (q == p) = false := by
          rw [beq_eq_false_iff_ne]; exact e
        rw [this]; rfl
      by_cases m : p ∈ r
      · rw [if_pos m, if_pos (by simp [m]), hi]
        rw [show i + 1 + idx r p = i + (idx r p + 1) by omega]
      · rw [if_neg m, if_neg (by simp [m]; exact fun z => e z.symm)]
section
variable {h : AH} {g : Nat} {κ : KP} {p : Tm × Tm}
theorem nd_kD (hg : h[g]? = some (kD κ)) (hk : Sm7K κ) (hp : Sm7P p) : ndAt h (.r g) (nkP p) = some (if p ∈ κ then some (.d (enc (.name (idx κ p)))) else none) := by
  unfold ndAt
  cases κ with
  | nil =>
    have hg : h[g]? = some (.dic []) := hg
    simp [hg]
  | cons q r =>
    have hg : h[g]? = some (.dcn (knL 0 (q :: r))) := hg
    simp only [hg]
    rw [look_kn hp 0 _ hk]
    simp
theorem peek_kD (hg : h[g]? = some (kD κ)) : peek h (.r g) = none := by
  cases κ with
  | nil => have hg : h[g]? = some (.dic []) := hg
           simp [peek, hg]
  | cons q r => have hg : h[g]? = some (.dcn (knL 0 (q :: r))) := hg
                simp [peek, hg]
theorem r_notin (hg : h[g]? = some (kD κ)) (hk : Sm7K κ) (hp : Sm7P p) : cmp .NotIn (.d (encQ p)) (.r g) h = .ok (.d (.bool (!decide (p ∈ κ)))) h := by
  show cIn true (.d (.tuple [enc p.1, enc p.2])) (.r g) h = _
  unfold cIn
  have e := nd_kD hg hk hp
  have t : nkT (.tuple [enc p.1, enc p.2]) = some (nkP p) := nkT_P hp
  simp only [peek_kD hg, Option.bind_none, keyOf, t, Option.bind_some, e]
  by_cases m : p ∈ κ
  · simp [m]
  · simp [m]
theorem r_getN (hg : h[g]? = some (kD κ)) (hk : Sm7K κ) (hp : Sm7P p) (m : p ∈ κ) : ixM (.r g) (.d (encQ p)) h = .ok (.d (enc (.name (idx κ p)))) h := by
  have e := nd_kD hg hk hp
  rw [if_pos m] at e
  have t : nkT (.tuple [enc p.1, enc p.2]) = some (nkP p) := nkT_P hp
  show ixM (.r g) (.d (.tuple [enc p.1, enc p.2])) h = _
  unfold ixM
  simp only [keyOf, Option.bind_none, t, Option.bind_some, e]
theorem r_lenN {CM : FId → List W → M W} (hg : h[g]? = some (kD κ)) : kLen TT CM (.r g) h = .ok (.d (.int κ.length)) h := by
  unfold kLen fLen
  cases κ with
  | nil => have hg : h[g]? = some (.dic []) := hg
           simp [hg]
  | cons q r => have hg : h[g]? = some (.dcn (knL 0 (q :: r))) := hg
                simp only [hg, knL_len]
                rfl
theorem r_setN (hg : h[g]? = some (kD κ)) (hk : Sm7K κ) (hp : Sm7P p) (m : p ∉ κ) (hl : κ.length < 1000) : setIxM (.r g) (.d (encQ p)) (.d (enc (.name κ.length))) h = .ok () (h.set g (kD (κ ++ [p]))) := by
  have t : nkT (.tuple [enc p.1, enc p.2]) = some (nkP p) := nkT_P hp
  show setIxM (.r g) (.d (.tuple [enc p.1, enc p.2])) (.d (enc (.name κ.length))) h = _
  unfold setIxM
  cases κ with
  | nil =>
    have hg : h[g]? = some (.dic []) := hg
    simp only [hg, keyOf, t]
    rfl
  | cons q r =>
    have hg : h[g]? = some (.dcn (knL 0 (q :: r))) := hg
    simp only [hg, t]
    rw [if_pos (Nat.lt_of_lt_of_le (show (knL 0 (q :: r)).length < 2000 by rw [knL_len]; omega) (by decide))]
    have e : putN (nkP p) (.tuple [enc p.1, enc p.2]) (W.d (enc (.name (q :: r).length))) (knL 0 (q :: r)) = knL 0 (q :: r ++ [p]) := by
      unfold putN
      rw [look_kn hp 0 _ hk, if_neg m, knL_app]
      simp
    rw [e]
    rfl
end
theorem clos_kD {n : Nat} {κ : KP} : (kD κ).clos n := by
  cases κ with
  | nil => intro p hp; cases hp
  | cons q r =>
    show ∀ p ∈ knL 0 (q :: r), p.2.clos n
    have : ∀ (i : Nat) (κ : KP), ∀ p ∈ knL i κ, p.2.clos n := by
      intro i κ
      induction κ generalizing i with
      | nil => intro p hp; cases hp
      | cons a κ ih =>
        intro p hp
        rw [knL] at hp
        rcases List.mem_cons.mp hp with e | e
        · rw [e]; trivial
        · exact ih (i + 1) p e
    exact this 0 _
end Ev
set_option Elab.async false
set_option linter.all false
set_option maxRecDepth 100000
set_option maxHeartbeats 4000000
namespace Ev
open PySem PySem.Spec PyProof.Rows L2 He
/-! ### common_of, read -/
theorem Sm7.kid {f : Str} {as : List Tm} (h : Sm7 (.tree f as)) : ∀ a ∈ as, Sm7 a := fun a ha => by
  obtain ⟨h1, h2⟩ := h
  have := Tm.depth_le ha
  simp only [Tm.depth] at h2
  exact ⟨(Tm.ok_tree.mp h1).2.2.2 a ha, by omega⟩
theorem prsL_sm : ∀ (as : List Tm), (∀ a ∈ as, ∀ b, Sm7 b → ∀ p ∈ prs a b, Sm7P p) → ∀ bs : List Tm, (∀ b ∈ bs, Sm7 b) → ∀ p ∈ prsL as bs, Sm7P p
  | [], _, bs, _, p, hp => by rw [prsL_nil] at hp; cases hp
  | a :: as, h, [], _, p, hp => by rw [prsL_nil2] at hp; cases hp
  | a :: as, h, b :: bs, hb, p, hp => by
    rw [prsL_cons] at hp
    rcases List.mem_append.mp hp with q | q
    · exact h a (by simp) b (hb b (by simp)) p q
    · exact prsL_sm as (fun x hx => h x (by simp [hx])) bs (fun x hx => hb x (by simp [hx])) p q
theorem prs_sm : ∀ (a : Tm), Sm7 a → ∀ b, Sm7 b → ∀ p ∈ prs a b, Sm7P p := by
  have M : ∀ a b : Tm, Sm7 a → Sm7 b → prs a b = [(a, b)] → ∀ p ∈ prs a b, Sm7P p := fun a b ha hb h p hp => by
    rw [h] at hp
    have : p = (a, b) := by simpa using hp
    rw [this]; exact ⟨ha, hb⟩
  refine Tm.ind ?_ ?_ ?_ ?_
  · intro i ha b hb
    cases way (.num i) b with
    | leaf _ h1 h2 => rw [prs_leaf h1 h2]; intro p hp; cases hp
    | miss _ _ h1 h2 => exact M _ _ ha hb h2
  · intro i ha b hb
    cases way (.word i) b with
    | leaf _ h1 h2 => rw [prs_leaf h1 h2]; intro p hp; cases hp
    | miss _ _ h1 h2 => exact M _ _ ha hb h2
  · intro i ha b hb
    cases way (.name i) b with
    | leaf _ h1 h2 => cases h1
    | miss _ _ h1 h2 => exact M _ _ ha hb h2
  · intro f as ih ha b hb
    cases way (.tree f as) b with
    | leaf _ h1 h2 => cases h2
    | miss _ _ h1 h2 => exact M _ _ ha hb h2
    | tree _ _ bs hl =>
      rw [prs_tree ⟨rfl, hl⟩]
      exact prsL_sm as (fun a h b hb => ih a h (ha.kid a h) b hb) bs hb.kid
theorem regs_sm {κ l : KP} (hk : Sm7K κ) (hl : ∀ p ∈ l, Sm7P p) : Sm7K (regs κ l) := fun p hp => by
  rcases (mem_regs l κ).mp hp with q | q
  · exact hk p q
  · exact hl p q
noncomputable def ComR (k : Nat) (a : Tm) : Prop := ∀ (b : Tm), Sm7 b → ∀ (g : Nat) (h : AH) (κ : KP), h[g]? = some (kD κ) → Sm7K κ → κ.length + a.size ≤ 900 →
    call k (pl "common_of") [.d (enc a), .d (enc b), .r g] h = .ok (.d (enc (gen (regs κ (prs a b)) a b))) (h.set g (kD (regs κ (prs a b))))
noncomputable abbrev eCm (k : Nat) : ME := eCall (call k) (pl "common_of") (aList [mVar 3, mVar 4, mVar 2])
/-- what the parts come to, each by what is known then -/
noncomputable def comL : List Tm → List Tm → KP → List Tm
  | a :: as, b :: bs, κ => gen (regs κ (prs a b)) a b :: comL as bs (regs κ (prs a b))
  | _, _, _ => []
theorem comL_gen : ∀ (as bs : List Tm) (κ κ' : KP), regs κ (prsL as bs) <+: κ' → comL as bs κ = genL κ' as bs
  | [], bs, κ, κ', _ => by rw [genL_nil]; simp [comL]
  | a :: as, [], κ, κ', _ => by rw [genL_nil2]; simp [comL]
  | a :: as, b :: bs, κ, κ', h => by
    rw [prsL_cons, regs_app] at h
    rw [comL, genL_cons, comL_gen as bs _ κ' h]
    congr 1
    exact (gen_stay (fun p hp => (mem_regs _ _).mpr (.inr hp)) ((regs_pre (prsL as bs) _).trans h)).symm
theorem com_loop {k g : Nat} {w0 w1 : W} : ∀ (as : List Tm), (∀ a ∈ as, Sm7 a ∧ ComR k a) → ∀ (bs : List Tm), as.length = bs.length → (∀ b ∈ bs, Sm7 b) →
    ∀ (h : AH) (κ : KP) (acc : List PyData), g < h.length → Sm7K κ → κ.length + (as.map Tm.size).sum ≤ 900 → acc.length + as.length < 1000 →
    cLoop h.length (.t [3, 4]) tTrue (eCm k) ((as.zip bs).map encP) [some w0, some w1, some (.r g), none, none] (h.set g (kD κ) ++ [.lst (acc.map .d)]) = .ok () (h.set g (kD (regs κ (prsL as bs))) ++ [.lst ((acc ++ (comL as bs κ).map enc).map .d)])
  | [], _, bs, _, _, h, κ, acc, _, _, _, _ => by simp [cLoop, mpure, prsL_nil, regs, comL]
  | a :: as, step, [], hl0, _, h, κ, acc, hg, _, hm, hl => by simp at hl0
  | a :: as, step, b :: bs, hl0, hb, h, κ, acc, hg, hs, hm, hl => by
    simp only [List.map_cons, List.sum_cons] at hm
    simp only [List.length_cons] at hl hl0
    obtain ⟨sa, ca⟩ := step a (by simp)
    have e1 := ca b (hb b (by simp)) g (h.set g (kD κ) ++ [.lst (acc.map .d)]) κ (by rw [List.getElem?_append_left (by simpa using hg)]; exact List.getElem?_set_self hg) hs (by omega)
    rw [List.set_append_left _ _ (by simpa using hg), List.set_set] at e1
    have l1 := regs_len (prs a b) κ
    have l2 := (gen_ok (κ := κ) a b sa.1).2.2.2
    have e2 := com_loop (w0 := w0) (w1 := w1) as (fun x hx => step x (by simp [hx])) bs (by omega) (fun x hx => hb x (by simp [hx])) h (regs κ (prs a b)) (acc ++ [enc (gen (regs κ (prs a b)) a b)]) hg (regs_sm hs (prs_sm a sa b (hb b (by simp)))) (by omega) (by simp; omega)
    rw [List.zip_cons_cons, List.map_cons]
    rw [cl_stepG (e1 := [some w0, some w1, some (.r g), some (.d (enc a)), some (.d (enc b))]) (y := .d (enc (gen (regs κ (prs a b)) a b))) (h1 := h.set g (kD (regs κ (prs a b))) ++ [.lst (acc.map .d)]) (acc := acc.map .d) rfl (by simp [e1]) (by rw [List.getElem?_append_right (by simp)]; simp) (by simp; omega)]
    rw [show (h.set g (kD (regs κ (prs a b))) ++ [AO.lst (acc.map .d)]).set h.length (.lst (acc.map .d ++ [.d (enc (gen (regs κ (prs a b)) a b))])) = h.set g (kD (regs κ (prs a b))) ++ [.lst ((acc ++ [enc (gen (regs κ (prs a b)) a b)]).map .d)] from by
      rw [List.set_append_right _ _ (by simp)]; simp]
    rw [e2, prsL_cons, regs_app, comL]
    simp
theorem com_lc {k g : Nat} {f f' : Str} {as bs : List Tm} (step : ∀ a ∈ as, Sm7 a ∧ ComR k a) (hl : as.length = bs.length) (hb : ∀ b ∈ bs, Sm7 b) {h : AH} {κ : KP} (hg : h[g]? = some (kD κ)) (hs : Sm7K κ) (hm : κ.length + (as.map Tm.size).sum ≤ 900) (h5 : as.length < 1000) :
    eOut (eLC (.t [3, 4]) (iFun zipM (aList [eSl (mVar 0) (pSome (mC (.d (.int 1)))) pNo, eSl (mVar 1) (pSome (mC (.d (.int 1)))) pNo])) tTrue (eCm k)) [some (.d (.tuple (.str f :: as.map enc))), some (.d (.tuple (.str f' :: bs.map enc))), some (.r g), none, none] h = .ok (.d (.list ((comL as bs κ).map enc))) (h.set g (kD (regs κ (prsL as bs)))) := by
  have gl : g < h.length := (List.getElem?_eq_some_iff.mp hg).1
  have l2 := com_loop (k := k) (g := g) (w0 := .d (.tuple (.str f :: as.map enc))) (w1 := .d (.tuple (.str f' :: bs.map enc))) as step bs hl hb h κ [] gl hs hm (by simpa using h5)
  rw [set_same hg] at l2
  have hz : zipD (as.map enc) (bs.map enc) = (as.zip bs).map encP := zip_encP
  have lc : eLC (.t [3, 4]) (iFun zipM (aList [eSl (mVar 0) (pSome (mC (.d (.int 1)))) pNo, eSl (mVar 1) (pSome (mC (.d (.int 1)))) pNo])) tTrue (eCm k) [some (.d (.tuple (.str f :: as.map enc))), some (.d (.tuple (.str f' :: bs.map enc))), some (.r g), none, none] h = .ok (.r h.length) (h.set g (kD (regs κ (prsL as bs))) ++ [.lst (((comL as bs κ).map enc).map .d)]) := by
    rw [eLC_ap, show iFun zipM (aList [eSl (mVar 0) (pSome (mC (.d (.int 1)))) pNo, eSl (mVar 1) (pSome (mC (.d (.int 1)))) pNo]) [some (.d (.tuple (.str f :: as.map enc))), some (.d (.tuple (.str f' :: bs.map enc))), some (.r g), none, none] h = .ok ((as.zip bs).map encP, none) h from by rw [← hz]; simp [slM, cut1, zipM], mb_ok]
    show mb (cLoop h.length (.t [3, 4]) tTrue _ ((as.zip bs).map encP) (wipeW _ [3, 4]) (h ++ [.lst []])) (kRef h.length) = _
    simp only [List.map_nil, List.nil_append] at l2
    rw [show wipeW [some (.d (.tuple (.str f :: as.map enc))), some (.d (.tuple (.str f' :: bs.map enc))), some (.r g), none, none] [3, 4] = [some (.d (.tuple (.str f :: as.map enc))), some (.d (.tuple (.str f' :: bs.map enc))), some (.r g), none, none] from rfl, l2]
    rfl
  exact (eOut_ap lc).trans (out_lt (o := kD (regs κ (prsL as bs))) clos_kD gl)
theorem com_miss {k : Nat} {a b : Tm} (ha : Sm7 a) (hb : Sm7 b) (hk : 3 ≤ k) (w : (∀ κ, gen κ a b = .name (idx κ (a, b)))) (w2 : prs a b = [(a, b)]) (w3 : a.isName = true ∨ a ≠ b ∨ a.isTree = true) (w4 : ∀ f as bs, a = .tree f as → b = .tree f bs → as.length ≠ bs.length) {g : Nat} {h : AH} {κ : KP} (hg : h[g]? = some (kD κ)) (hs : Sm7K κ) (hm : κ.length < 900) :
    call (k + 1) (pl "common_of") [.d (enc a), .d (enc b), .r g] h = .ok (.d (enc (gen (regs κ (prs a b)) a b))) (h.set g (kD (regs κ (prs a b)))) := by
  have gl : g < h.length := (List.getElem?_eq_some_iff.mp hg).1
  have e1 := fun H : AH => r_is_name (k := k) (t := a) (h := H) (by omega) ha.1
  have e2 := fun H : AH => r_is_tree (k := k) (t := a) (h := H) (by omega) ha.1
  have e3 := fun H : AH => r_is_tree (k := k) (t := b) (h := H) (by omega) hb.1
  have qe := fun H : AH => eq_enc (a := a) (b := b) (h := H) ha.1 hb.1 (by have := ha.2; omega) (by have := hb.2; omega)
  have hp : Sm7P (a, b) := ⟨ha, hb⟩
  have sz : (2 : Nat) ≤ sizeLine := by decide
  rw [w2, w]
  rw [show regs κ [(a, b)] = reg κ (a, b) from rfl]
  have c1 : tAndM (tNotM (tst (eCall (call k) (pl "is_name") (aList [mVar 0])))) (tAndM (tst (eCmp .Eq (mVar 0) (mVar 1))) (tNotM (tst (eCall (call k) (pl "is_tree") (aList [mVar 0]))))) [some (.d (enc a)), some (.d (enc b)), some (.r g), none, none] h = .ok false h := by
    rcases w3 with z | z | z
    · simp [e1, z]
    · cases q : a.isName
      · simp [e1, q, qe, z]
      · simp [e1, q]
    · cases q : a.isName
      · by_cases q2 : a = b
        · simp only [tAnd_ap, tNot_ap, tst_ap, eCall_ap, aList_cons, mVar_0, mb_ok, kL1_ap, aList_nil, kL2_ap, e1, q, asB_ap', kOk_ap, Bool.not_false, kIf_t, eCmp_ap, kA_ap, mVar_s, qe, decide_eq_true q2, e2, z, Bool.not_true]
        · simp [e1, q, qe, q2]
      · simp [e1, q]
  have c2 : tAndM (tst (eCall (call k) (pl "is_tree") (aList [mVar 0]))) (tAndM (tst (eCall (call k) (pl "is_tree") (aList [mVar 1]))) (tAndM (tst (eCmp .Eq (eIx (mVar 0) (mC (.d (.int 0)))) (eIx (mVar 1) (mC (.d (.int 0)))))) (tst (eCmp .Eq (eLen TT (call k) (mVar 0)) (eLen TT (call k) (mVar 1)))))) [some (.d (enc a)), some (.d (enc b)), some (.r g), none, none] h = .ok false h := by
    cases q : a.isTree with
    | false => simp [e2, q]
    | true =>
      cases q2 : b.isTree with
      | false => simp [e2, q, e3, q2]
      | true =>
        cases a with
        | tree f as =>
          cases b with
          | tree f' bs =>
            have o1 := (Tm.ok_tree.mp ha.1).1
            have p1 := (Tm.ok_tree.mp hb.1).1
            have n1 : ∀ H : AH, cmp .Eq (.d (.str f)) (.d (.str f')) H = .ok (.d (.bool (decide (f = f')))) H := fun H => eq_w o1 p1
            rw [enc_tree] at *
            rw [enc_tree] at *
            by_cases ef : f = f'
            · have el : as.length ≠ bs.length := w4 f as bs rfl (by rw [ef])
              have n2 : ∀ H : AH, cmp .Eq (.d (.int ((as.length : Int) + 1))) (.d (.int ((bs.length : Int) + 1))) H = .ok (.d (.bool false)) H := fun H => by
                rw [eq_i, decide_eq_false (by omega)]
              rw [decide_eq_true ef] at n1
              simp [e2, e3, q, q2, ixM, at0, n1, fLen, n2]
            · rw [decide_eq_false ef] at n1
              simp [e2, e3, q, q2, ixM, at0, n1]
          | _ => cases q2
        | _ => cases q
  have ni := r_notin hg hs hp
  have hn : reg κ (a, b) = if (a, b) ∈ κ then κ else κ ++ [(a, b)] := rfl
  rw [c_common_of]
  unfold t_common_of
  rw [sBlock_two, sIf_ap, c1, mb_ok, kIf_f, sBlock_nil, mb_ok, fnext_nx]
  rw [sBlock_two, sIf_ap, c2, mb_ok, kIf_f, sBlock_nil, mb_ok, fnext_nx]
  by_cases m : (a, b) ∈ κ
  · rw [decide_eq_true m] at ni
    rw [hn, if_pos m, set_same hg]
    have gt := r_getN hg hs hp m
    simp [kTup, allD, sz, ni, gt]
  · rw [decide_eq_false m] at ni
    rw [hn, if_neg m]
    have ln := r_lenN (CM := call k) hg
    have st := r_setN hg hs hp m (by omega)
    have hg2 : (h.set g (kD (κ ++ [(a, b)])))[g]? = some (kD (κ ++ [(a, b)])) := List.getElem?_set_self gl
    have gt := r_getN hg2 (fun q hq => by
      rcases List.mem_append.mp hq with z | z
      · exact hs q z
      · have : q = (a, b) := by simpa using z
        rw [this]; exact hp) hp (by simp)
    have en : ∀ x : PyData, endM h (.ok (.rt (.d x)) (h.set g (kD (κ ++ [(a, b)])))) = .ok (.d x) (h.set g (kD (κ ++ [(a, b)]))) := fun x => end_set0 clos_kD gl
    rw [enc_name] at st
    simp [kTup, allD, sz, ni, ln, st, gt, en]
theorem r_com : ∀ (a : Tm), Sm7 a → ∀ (k : Nat), a.depth + 4 ≤ k → ComR k a := by
  have lf : ∀ (a : Tm), Sm7 a → a.isName = false → a.isTree = false → ∀ k : Nat, 3 ≤ k → ∀ (g : Nat) (h : AH) (κ : KP), h[g]? = some (kD κ) → call (k + 1) (pl "common_of") [.d (enc a), .d (enc a), .r g] h = .ok (.d (enc (gen (regs κ (prs a a)) a a))) (h.set g (kD (regs κ (prs a a)))) := by
    intro a ha n1 n2 k hk g h κ hg
    rw [prs_leaf n1 n2, gen_leaf n1 n2, show regs κ [] = κ from rfl, set_same hg, c_common_of]
    have e1 := r_is_name (k := k) (t := a) (h := h) (by omega) ha.1
    have e2 := r_is_tree (k := k) (t := a) (h := h) (by omega) ha.1
    have qe := eq_enc (a := a) (b := a) (h := h) ha.1 ha.1 (by have := ha.2; omega) (by have := ha.2; omega)
    rw [n1] at e1
    rw [n2] at e2
    rw [decide_eq_true rfl] at qe
    simp [t_common_of, e1, e2, qe]
  refine Tm.ind ?_ ?_ ?_ ?_
  · intro i ha k hk b hb g h κ hg hs hm
    obtain ⟨k, rfl⟩ : ∃ j, k = j + 1 := ⟨k - 1, by omega⟩
    simp only [Tm.depth] at hk
    cases way (.num i) b with
    | leaf _ n1 n2 => exact lf _ ha n1 n2 k (by omega) g h κ hg
    | miss _ _ w1 w2 w3 w4 => exact com_miss ha hb (by omega) w1 w2 w3 w4 hg hs (by simp [Tm.size] at hm; omega)
  · intro i ha k hk b hb g h κ hg hs hm
    obtain ⟨k, rfl⟩ : ∃ j, k = j + 1 := ⟨k - 1, by omega⟩
    simp only [Tm.depth] at hk
    cases way (.word i) b with
    | leaf _ n1 n2 => exact lf _ ha n1 n2 k (by omega) g h κ hg
    | miss _ _ w1 w2 w3 w4 => exact com_miss ha hb (by omega) w1 w2 w3 w4 hg hs (by simp [Tm.size] at hm; omega)
  · intro i ha k hk b hb g h κ hg hs hm
    obtain ⟨k, rfl⟩ : ∃ j, k = j + 1 := ⟨k - 1, by omega⟩
    simp only [Tm.depth] at hk
    cases way (.name i) b with
    | leaf _ n1 n2 => cases n1
    | miss _ _ w1 w2 w3 w4 => exact com_miss ha hb (by omega) w1 w2 w3 w4 hg hs (by simp [Tm.size] at hm; omega)
  · intro f as ih ha k hk b hb g h κ hg hs hm
    obtain ⟨k, rfl⟩ : ∃ j, k = j + 1 := ⟨k - 1, by omega⟩
    have hsz := Tm.size_pos (.tree f as)
    cases way (.tree f as) b with
    | leaf _ n1 n2 => cases n2
    | miss _ _ w1 w2 w3 w4 => exact com_miss ha hb (by simp only [Tm.depth] at hk; omega) w1 w2 w3 w4 hg hs (by omega)
    | tree _ _ bs hl =>
      obtain ⟨o1, o2, o3, o4⟩ := Tm.ok_tree.mp ha.1
      have gl : g < h.length := (List.getElem?_eq_some_iff.mp hg).1
      simp only [Tm.depth] at hk
      rw [Tm.size_tree] at hm
      have e1 := r_is_name (k := k) (t := .tree f as) (h := h) (by omega) ha.1
      have e2 := r_is_tree (k := k) (t := .tree f as) (h := h) (by omega) ha.1
      have e3 := r_is_tree (k := k) (t := .tree f bs) (h := h) (by omega) hb.1
      have qe := eq_enc (a := .tree f as) (b := .tree f bs) (h := h) ha.1 hb.1 (by have := ha.2; omega) (by have := hb.2; omega)
      have n1 : ∀ H : AH, cmp .Eq (.d (.str f)) (.d (.str f)) H = .ok (.d (.bool true)) H := fun H => by rw [eq_w o1 o1, decide_eq_true rfl]
      have n2 : ∀ H : AH, cmp .Eq (.d (.int ((as.length : Int) + 1))) (.d (.int ((bs.length : Int) + 1))) H = .ok (.d (.bool true)) H := fun H => by
        rw [eq_i, decide_eq_true (by omega)]
      rw [gen_tree ⟨rfl, hl⟩, prs_tree ⟨rfl, hl⟩]
      have lo := com_lc (k := k) (g := g) (f := f) (f' := f) (as := as) (bs := bs) (fun a h => ⟨ha.kid a h, ih a h (ha.kid a h) k (by have := Tm.depth_le h; omega)⟩) hl hb.kid hg hs (by omega) (by omega)
      rw [comL_gen as bs κ _ (List.prefix_refl _)] at lo
      have en : ∀ x : PyData, endM h (.ok (.rt (.d x)) (h.set g (kD (regs κ (prsL as bs))))) = .ok (.d x) (h.set g (kD (regs κ (prsL as bs)))) := fun x => end_set0 clos_kD gl
      have gll := genL_len (κ := regs κ (prsL as bs)) as bs hl
      have sz2 : 1 + (genL (regs κ (prsL as bs)) as bs).length ≤ sizeLine := Nat.le_trans (show 1 + (genL (regs κ (prsL as bs)) as bs).length ≤ 100 by omega) (by decide)
      have sz1 : (1 : Nat) ≤ sizeLine := by decide
      rw [c_common_of, enc_tree, enc_tree, enc_tree]
      rw [enc_tree] at e1 e2 e3 qe
      rw [enc_tree] at qe
      generalize decide (Tm.tree f as = Tm.tree f bs) = bb at qe
      have c1 : tAndM (tNotM (tst (eCall (call k) (pl "is_name") (aList [mVar 0])))) (tAndM (tst (eCmp .Eq (mVar 0) (mVar 1))) (tNotM (tst (eCall (call k) (pl "is_tree") (aList [mVar 0]))))) [some (.d (.tuple (.str f :: as.map enc))), some (.d (.tuple (.str f :: bs.map enc))), some (.r g), none, none] h = .ok false h := by
        cases bb <;> simp [e1, e2, Tm.isName, Tm.isTree, qe]
      unfold t_common_of
      rw [sBlock_two, sIf_ap, c1, mb_ok, kIf_f, sBlock_nil, mb_ok, fnext_nx]
      simp [-eLC_ap, -List.map_map, e2, e3, Tm.isTree, ixM, at0, n1, fLen, n2, kTup, allD, sz1, ↓lo, fTuple, listD, peek, bop, bAdd, sz2, en]
theorem r_common {a b : Tm} (ha : Sm7 a) (hb : Sm7 b) (za : a.size ≤ 300) (zb : b.size ≤ 300) {k : Nat} (hk : a.depth + b.depth + 12 ≤ k) {h : AH} : call k (pl "common") [.d (enc a), .d (enc b)] h = .ok (.d (enc (lgg a b))) h := by
  obtain ⟨k, rfl⟩ : ∃ j, k = j + 1 := ⟨k - 1, by omega⟩
  have e1 := r_look_term (h := h) (t := a) (k := k) ha.1 za (by omega)
  have e2 := r_look_term (h := h) (t := b) (k := k) hb.1 zb (by omega)
  have f1 := r_com a ha k (by omega) b hb h.length (h ++ [.dic []]) [] at_l (fun p hp => by cases hp) (by simp; omega)
  rw [show (h ++ [AO.dic []]).set h.length (kD (regs [] (prs a b))) = h ++ [kD (regs [] (prs a b))] from by rw [List.set_append_right _ _ (Nat.le_refl _)]; simp] at f1
  have ed : ∀ E : EnvW, eDict0 E h = .ok (.r h.length) (h ++ [.dic []]) := fun E => rfl
  have en := end_d (h := h) (j := [kD (regs [] (prs a b))]) (x := enc (gen (regs [] (prs a b)) a b))
  rw [c_common]
  unfold lgg
  simp [t_common, e1, e2, ed, f1, en]
end Ev
set_option Elab.async false
set_option linter.all false
set_option maxRecDepth 100000
set_option maxHeartbeats 4000000
namespace Ev
open PySem PySem.Spec PyProof.Rows L2 He
section
variable {i : Nat} {el : ME} {env : EnvW} {h : AH} {t : Nat} {α β : Type} {p : α → W} {q : β → PyData} {R : α → β → Prop} {ns : List Int} {cost : α → Int} {cm : Int}
/-- a list that is drawn of another -/
theorem clT2 (ht : t < h.length) (hdc : ∀ a, 0 ≤ cost a) : ∀ (as : List α), (∀ a ∈ as, ∀ (ts : List Int) (c : Int) (l : AH), Tw ns c ts → c + cost a ≤ cm → ∃ b ts', el (env.set i (some (p a))) (h.set t (LI ts) ++ l) = .ok (.d (q b)) (h.set t (LI ts') ++ l) ∧ R a b ∧ Tw ns (c + cost a) ts') → ∀ (ts : List Int) (c : Int) (acc : List PyData), Tw ns c ts → c + (as.map cost).sum ≤ cm → acc.length + as.length < 1000 →
    ∃ (bs : List β) (ts' : List Int), cLoop h.length (.n i) tTrue el (as.map p) env (h.set t (LI ts) ++ [.lst (acc.map .d)]) = .ok () (h.set t (LI ts') ++ [.lst ((acc ++ bs.map q).map .d)]) ∧ Paired R as bs ∧ Tw ns (c + (as.map cost).sum) ts'
  | [], _, ts, c, acc, T, _, _ => ⟨[], ts, by simp [cLoop, mpure], .nil, by simpa using T⟩
  | a :: as, step, ts, c, acc, T, hc, hl => by
    simp only [List.map_cons, List.sum_cons] at hc ⊢
    have hnn : 0 ≤ (as.map cost).sum := by
      clear step hc hl
      induction as with
      | nil => simp
      | cons b as ih => simp only [List.map_cons, List.sum_cons]; have := hdc b; omega
    obtain ⟨b, t1, e1, p1, T1⟩ := step a (by simp) ts c [.lst (acc.map .d)] T (by omega)
    simp only [List.length_cons] at hl
    obtain ⟨bs, t2, e2, p2, T2⟩ := clT2 ht hdc as (fun x hx => step x (by simp [hx])) t1 (c + cost a) (acc ++ [q b]) T1 (by omega) (by simp; omega)
    refine ⟨b :: bs, t2, ?_, .cons p1 p2, T2.up (by omega)⟩
    rw [cl_stepT (h1 := h.set t (LI t1) ++ [.lst (acc.map .d)]) (acc := acc.map .d) e1 (by rw [List.getElem?_append_right (by simp)]; simp) (by simp; omega)]
    rw [show (h.set t (LI t1) ++ [AO.lst (acc.map .d)]).set h.length (.lst (acc.map .d ++ [.d (q b)])) = h.set t (LI t1) ++ [.lst ((acc ++ [q b]).map .d)] from by
      rw [List.set_append_right _ _ (by simp)]; simp]
    rw [e2]
    simp
end
end Ev
set_option Elab.async false
set_option linter.all false
set_option maxRecDepth 100000
set_option maxHeartbeats 2000000
namespace Ev
open PySem PySem.Spec PyProof.Rows L2 He
/-! ### names of any size -/
theorem nm_loop2 {k N : Nat} {w0 : W} {h : AH} : ∀ (as : List Tm) (acc : List Int) (J : AH) (l : Nat) (x2 x3 : Option W), (∀ a ∈ as, ∀ H : AH, ∃ ns : List Int, call k (pl "_law_names") [.d (enc a)] H = .ok (.d (dI ns)) H ∧ Nms N (fun n => a.has n) ns ∧ ns.length ≤ a.size) → acc.length + (as.map Tm.size).sum ≤ 1000 → (h ++ J)[l]? = some (LI acc) → h.length ≤ l → acc.Nodup → (∀ x ∈ acc, 0 ≤ x ∧ x < (N : Int)) →
    ∃ acc' J' l' y2 y3, floop (.n 2) (bNm k) (as.map fun a => .d (enc a)) [some w0, some (.r l), x2, x3] (h ++ J) = .ok (.nx [some w0, some (.r l'), y2, y3]) (h ++ J') ∧ (h ++ J')[l']? = some (LI acc') ∧ h.length ≤ l' ∧ acc'.Nodup ∧ (∀ x ∈ acc', 0 ≤ x ∧ x < (N : Int)) ∧ (∀ n : Nat, (n : Int) ∈ acc' ↔ (n : Int) ∈ acc ∨ as.any (Tm.has n) = true) ∧ acc'.length ≤ acc.length + (as.map Tm.size).sum
  | [], acc, J, l, x2, x3, _, _, hl, hlh, nd, lo => ⟨acc, J, l, x2, x3, rfl, hl, hlh, nd, lo, fun n => by simp, by simp⟩
  | a :: as, acc, J, l, x2, x3, ha, hz, hl, hlh, nd, lo => by
    obtain ⟨ns, e1, M, ml⟩ := ha a (by simp) (h ++ J)
    simp only [List.map_cons, List.sum_cons] at hz
    have e2 := M.iff
    obtain ⟨H, eH⟩ : ∃ H, H = h ++ J := ⟨_, rfl⟩
    rw [← eH] at e1 hl
    have ll : l < H.length := (List.getElem?_eq_some_iff.mp hl).1
    have lc : eLC (.n 3) (iVal (eCall (call k) (pl "_law_names") (aList [mVar 2]))) (tst (eCmp .NotIn (mVar 3) (mVar 1))) (mVar 3) [some w0, some (.r l), some (.d (enc a)), x3] H = .ok (.r H.length) (H ++ [LI (ns.filter fun x => !acc.contains x)]) := by
      refine (lc_ap (ws := ns.map fun x => W.d (.int x)) (f := fun w => match w with | .d (.int x) => if acc.contains x then none else some (W.d (.int x)) | _ => none) ?_ (by rw [List.length_map]; exact Nat.le_trans (show ns.length ≤ 10000 by omega) (by decide)) ?_).trans ?_
      · simp [e1, srcM, dI]
      · intro w hw ac
        obtain ⟨x, hx, rfl⟩ := List.mem_map.mp hw
        refine ⟨_, rfl, ?_⟩
        have i1 := in_LI (h := H ++ [.lst ac]) (i := l) (is := acc) (j := x) (neg := true) (by rw [List.getElem?_append_left ll]; exact hl)
        simp only
        cases q : acc.contains x with
        | true =>
          rw [q] at i1
          simp [wipeW, Tg.slots, cmp, i1]
        | false =>
          rw [q] at i1
          simp [wipeW, Tg.slots, cmp, i1]
      · rw [LI_map]
        exact congrArg (fun z => R.ok (W.r H.length) (H ++ [AO.lst z])) (filt_map ns)
    have ba : bAdd (.r l) (.r H.length) (H ++ [LI (ns.filter fun x => !acc.contains x)]) = .ok (.r (H.length + 1)) (H ++ [LI (ns.filter fun x => !acc.contains x), LI (acc ++ ns.filter fun x => !acc.contains x)]) := by
      refine (bAdd_l (a := acc.map fun x => W.d (.int x)) (b := (ns.filter fun x => !acc.contains x).map fun x => W.d (.int x)) ?_ ?_ ?_).trans ?_
      · rw [List.getElem?_append_left ll, hl, LI_map]
      · rw [← LI_map]; simp
      · have := List.length_filter_le (fun x => !acc.contains x) ns
        refine Nat.le_trans (show _ ≤ 20000 from ?_) (by decide)
        rw [List.length_map, List.length_map]; omega
      · simp [LI_map]
    have nd' : (acc ++ ns.filter fun x => !acc.contains x).Nodup := by
      rw [List.nodup_append]
      refine ⟨nd, M.nd.filter _, fun x hx y hy e => ?_⟩
      subst e
      have := (List.mem_filter.mp hy).2
      simp [hx] at this
    have lo' : ∀ x ∈ acc ++ ns.filter fun x => !acc.contains x, 0 ≤ x ∧ x < (N : Int) := fun x hx => by
      rcases List.mem_append.mp hx with q | q
      · exact lo x q
      · exact M.lo x (List.mem_filter.mp q).1
    have fl := List.length_filter_le (fun x => !acc.contains x) ns
    obtain ⟨acc', J', l', y2, y3, r1, r2, r3, r5, r6, r4, r7⟩ := nm_loop2 (k := k) (N := N) (w0 := w0) (h := h) as (acc ++ ns.filter fun x => !acc.contains x) (J ++ [LI (ns.filter fun x => !acc.contains x), LI (acc ++ ns.filter fun x => !acc.contains x)]) (H.length + 1) (some (.d (enc a))) x3 (fun b hb => ha b (by simp [hb])) (by rw [List.length_append]; omega) (by rw [← List.append_assoc, ← eH, at_l1]; rfl) (by rw [eH]; simp; omega) nd' lo'
    rw [← List.append_assoc, ← eH] at r1
    refine ⟨acc', J', l', y2, y3, ?_, r2, r3, r5, r6, fun n => ?_, by rw [List.length_append] at r7; simp only [List.map_cons, List.sum_cons]; omega⟩
    · rw [← eH, List.map_cons, floop_n]
      obtain ⟨fl, efl⟩ : ∃ fl, fl = ns.filter fun x => !acc.contains x := ⟨_, rfl⟩
      rw [← efl] at lc ba r1
      have hb : bNm k [some w0, some (.r l), some (.d (enc a)), x3] H = .ok (.nx [some w0, some (.r (H.length + 1)), some (.d (enc a)), x3]) (H ++ [LI fl, LI (acc ++ fl)]) := by
        simp [-eLC_ap, bNm, ↓lc, bop, ba]
      rw [show ([some w0, some (.r l), x2, x3] : EnvW).set 2 (some (.d (enc a))) = [some w0, some (.r l), some (.d (enc a)), x3] from rfl, hb, mb_ok, kLoop_nx]
      exact r1
    · rw [r4 n, List.mem_append, List.mem_filter, List.any_cons, Bool.or_eq_true, e2 n]
      constructor
      · rintro ((h1 | ⟨h1, _⟩) | h1)
        · exact .inl h1
        · exact .inr (.inl h1)
        · exact .inr (.inr h1)
      · rintro (h1 | h1 | h1)
        · exact .inl (.inl h1)
        · by_cases q : (n : Int) ∈ acc
          · exact .inl (.inl q)
          · exact .inl (.inr ⟨h1, by simpa using q⟩)
        · exact .inr h1
theorem l_names2 {N : Nat} : ∀ (t : Tm), t.ok = true → t.size ≤ 900 → (∀ n, t.has n = true → n < N) → ∀ (k : Nat), t.depth + 1 ≤ k → ∀ h : AH, ∃ ns : List Int, call k (pl "_law_names") [.d (enc t)] h = .ok (.d (dI ns)) h ∧ Nms N (fun n => t.has n) ns ∧ ns.length ≤ t.size := by
  refine Tm.ind ?_ ?_ ?_ ?_
  · intro i _ _ _ k hk h
    obtain ⟨k, rfl⟩ : ∃ j, k = j + 1 := ⟨k - 1, by omega⟩
    simp [Tm.depth] at hk
    refine ⟨[], ?_, ⟨by simp, by simp, fun n => by simp [Tm.has]⟩, by simp⟩
    rw [c_law_names]
    have e0 := fun H : AH => l_is_nm (k := k) (t := .num i) (h := H) (by omega) rfl
    have e1 := fun H : AH => l_is_tr (k := k) (t := .num i) (h := H) (by omega) rfl
    have ek : kLst [] h = .ok (.r h.length) (h ++ [.lst []]) := kLst_ap (by simp)
    have en : endM h (.ok (.rt (.r h.length)) (h ++ [.lst []])) = .ok (.d (dI [])) h := end_l1 (ds := []) (j := [])
    rw [enc_num] at *
    simp [t_law_names, e0, e1, Tm.isName, Tm.isTree, ek, en]
  · intro i h1 _ _ k hk h
    obtain ⟨k, rfl⟩ : ∃ j, k = j + 1 := ⟨k - 1, by omega⟩
    simp [Tm.depth] at hk
    refine ⟨[], ?_, ⟨by simp, by simp, fun n => by simp [Tm.has]⟩, by simp⟩
    rw [c_law_names]
    have e0 := fun H : AH => l_is_nm (k := k) (t := .word i) (h := H) (by omega) h1
    have e1 := fun H : AH => l_is_tr (k := k) (t := .word i) (h := H) (by omega) h1
    have ek : kLst [] h = .ok (.r h.length) (h ++ [.lst []]) := kLst_ap (by simp)
    have en : endM h (.ok (.rt (.r h.length)) (h ++ [.lst []])) = .ok (.d (dI [])) h := end_l1 (ds := []) (j := [])
    rw [enc_word] at *
    simp [t_law_names, e0, e1, Tm.isName, Tm.isTree, ek, en]
  · intro n _ _ hb k hk h
    obtain ⟨k, rfl⟩ : ∃ j, k = j + 1 := ⟨k - 1, by omega⟩
    simp [Tm.depth] at hk
    have hn := hb n (by simp [Tm.has])
    refine ⟨[(n : Int)], ?_, ⟨by simp, by simp; omega, fun m => by simp [Tm.has]; omega⟩, by simp [Tm.size]⟩
    rw [c_law_names]
    have e0 := fun H : AH => l_is_nm (k := k) (t := .name n) (h := H) (by omega) rfl
    have ek : kLst [.d (.int n)] h = .ok (.r h.length) (h ++ [.lst [.d (.int n)]]) := kLst_ap (by simp)
    have en : endM h (.ok (.rt (.r h.length)) (h ++ [.lst [.d (.int n)]])) = .ok (.d (dI [(n : Int)])) h := end_l1 (ds := [.int n]) (j := [])
    rw [enc_name] at *
    simp [t_law_names, e0, Tm.isName, ix_n1, ek, en]
  · intro f as ih h1 hs hz k hk h
    obtain ⟨k, rfl⟩ : ∃ j, k = j + 1 := ⟨k - 1, by omega⟩
    simp only [Tm.depth] at hk
    obtain ⟨o1, o2, o3, o4⟩ := Tm.ok_tree.mp h1
    rw [Tm.size_tree] at hs
    obtain ⟨acc', J', l', y2, y3, r1, r2, r3, r5, r6, r4, r7⟩ := nm_loop2 (k := k) (N := N) (w0 := .d (.tuple (.str f :: as.map enc))) (h := h) as [] [.lst []] h.length none none (fun a ha H => ih a ha (o4 a ha) (by have := Tm.sum_ge (f := Tm.size) ha; omega) (fun n hn => hz n (by rw [Tm.has_tree, List.any_eq_true]; exact ⟨a, ha, hn⟩)) k (by have := Tm.depth_le ha; omega) H) (by simp; omega) (by simp [LI]) (Nat.le_refl _) (by simp) (by simp)
    rw [show (as.map fun a => W.d (enc a)) = (as.map enc).map W.d from by rw [List.map_map]; rfl] at r1
    refine ⟨acc', ?_, ⟨r5, r6, fun n => by rw [r4 n, Tm.has_tree]; simp⟩, by rw [Tm.size_tree]; simp at r7; omega⟩
    rw [c_law_names]
    have e0 := fun H : AH => l_is_nm (k := k) (t := .tree f as) (h := H) (by have := Tm.depth_pos (Tm.tree f as); omega) h1
    have e1 := fun H : AH => l_is_tr (k := k) (t := .tree f as) (h := H) (by omega) h1
    have ek : kLst [] h = .ok (.r h.length) (h ++ [.lst []]) := kLst_ap (by simp)
    have en : endM h (.ok (.rt (.r l')) (h ++ J')) = .ok (.d (dI acc')) h := end_l (ds := acc'.map PyData.int) r3 (by rw [r2]; rfl)
    rw [enc_tree] at *
    simp [-List.map_map, -floop_n, t_law_names, e0, e1, Tm.isName, Tm.isTree, ek, slM, cut1, srcM, r1, en]
end Ev
set_option Elab.async false
set_option linter.all false
set_option maxRecDepth 100000
set_option maxHeartbeats 2000000
namespace Ev
open PySem PySem.Spec PyProof.Rows L2 He
/-! ### the text of a term as data -/
theorem len_nat {n : Nat} (h : n < 10 ^ 12) : (PySem.Str.ofString (toString ((n : Nat) : Int))).length ≤ 12 := by
  have e : (PySem.Str.ofString (toString ((n : Nat) : Int))).cps.toList.length = (PySem.Str.ofString (toString ((n : Nat) : Int))).length := Array.length_toList
  rw [← e, PySem.W.KIN.signs_num, List.length_map]
  exact digits10_le (by decide) h
theorem len_int {i : Int} (h : i.natAbs ≤ 1000000000) : (PySem.Str.ofString (toString i)).length ≤ 13 := by
  cases i with
  | ofNat n =>
    have : n < 10 ^ 12 := by
      have : n ≤ 1000000000 := h
      exact Nat.lt_of_le_of_lt this (by decide)
    exact Nat.le_trans (len_nat this) (by decide)
  | negSucc n =>
    have hn : n + 1 < 10 ^ 12 := by
      have : n + 1 ≤ 1000000000 := h
      exact Nat.lt_of_le_of_lt this (by decide)
    have e : (PySem.Str.ofString (toString (Int.negSucc n))).cps.toList.length = (PySem.Str.ofString (toString (Int.negSucc n))).length := Array.length_toList
    rw [← e]
    have e2 : (PySem.Str.ofString (toString (Int.negSucc n))).cps.toList = '-'.toNat :: (Nat.toDigits 10 (n + 1)).map Char.toNat := by
      rw [signs_ofString]
      show ((("-" : String) ++ Nat.repr (n + 1)).toList).map Char.toNat = _
      rw [String.toList_append, Nat.toList_repr]
      rfl
    rw [e2, List.length_cons, List.length_map]
    have := digits10_le (k := 12) (by decide) hn
    omega
theorem rep_w {s : Str} (h : isW s = true) : (reprText s).length ≤ 82 := by
  have h1 := isW_len h
  have := StrLaws.reprText_len s (fun c hc => by
    have h2 := h
    unfold isW at h2
    simp only [Bool.and_eq_true, List.all_eq_true, decide_eq_true_eq] at h2
    have h3 := h2.2 c hc
    have : ∀ c ∈ letters, c < 16 ^ 8 := by decide +kernel
    exact this c h3)
  omega
/-- what is shown of it, how long, how deep -/
structure Txt (t : Tm) : Prop where
  len : (enc t).shown.length ≤ 110 * t.size
  show_ : (enc t).showable = true
  nod : (enc t).hasDict = false
  dp : (enc t).depth ≤ t.depth
theorem txtL {as : List Tm} (h : ∀ a ∈ as, Txt a) : piled (PyData.shownAll (as.map enc)) ≤ 110 * (as.map Tm.size).sum + 2 * as.length ∧ PyData.showableAll (as.map enc) = true ∧ PyData.hasDictAll (as.map enc) = false ∧ PyData.depthAll (as.map enc) ≤ Tm.depthL as := by
  induction as with
  | nil => simp [PyData.shownAll, PyData.showableAll, PyData.hasDictAll, PyData.depthAll, piled]
  | cons a as ih =>
    obtain ⟨i1, i2, i3, i4⟩ := ih fun x hx => h x (by simp [hx])
    obtain ⟨h1, h2, h3, h4⟩ := h a (by simp)
    refine ⟨?_, ?_, ?_, ?_⟩
    · simp only [List.map_cons, PyData.shownAll, piled_cons, List.sum_cons, List.length_cons]; omega
    · simp only [List.map_cons, PyData.showableAll, h2, i2, Bool.and_self]
    · simp only [List.map_cons, PyData.hasDictAll, h3, i3, Bool.or_self]
    · simp only [List.map_cons, PyData.depthAll, Tm.depthL]; omega
theorem tup_len {ts : List Str} (h : ts ≠ []) : (tupleText ts).length ≤ piled ts + 1 := by
  unfold tupleText
  rw [strLen_append, strLen_append]
  have := join_length_add ts h
  have e1 : ((("(" : String) : Str)).length = 1 := rfl
  have e3 : (((if ts.length == 1 then ",)" else ")" : String) : Str)).length ≤ 2 := by split <;> decide
  omega
theorem txt : ∀ t : Tm, t.ok = true → t.nb = true → (∀ n, t.has n = true → n < 1000000000) → Txt t := by
  refine Tm.ind ?_ ?_ ?_ ?_
  · intro i _ hb _
    rw [Tm.nb] at hb
    have hb := of_decide_eq_true hb
    have := len_int hb
    refine ⟨?_, ?_, ?_, ?_⟩
    · rw [enc_num]; simp only [PyData.shown, Tm.size]; exact Nat.le_trans this (by decide)
    · rw [enc_num]; simp only [PyData.showable]
      refine decide_eq_true ?_
      by_cases z : i.natAbs = 0
      · rw [z]; decide
      · have : i.natAbs.log2 < 40 := (Nat.log2_lt z).mpr (Nat.lt_of_le_of_lt hb (by decide))
        omega
    · rw [enc_num]; simp only [PyData.hasDict]
    · rw [enc_num]; simp [PyData.depth]
  · intro s h1 _ _
    have h2 : isW s = true := by simpa [Tm.ok] using h1
    have := rep_w h2
    refine ⟨?_, ?_, ?_, ?_⟩
    · rw [enc_word]; simp only [PyData.shown, Tm.size]; omega
    · rw [enc_word]; simp only [PyData.showable]
    · rw [enc_word]; simp only [PyData.hasDict]
    · rw [enc_word]; simp [PyData.depth]
  · intro n _ _ hn
    have hn := hn n (by simp [Tm.has])
    have := len_nat (n := n) (Nat.lt_of_lt_of_le hn (by decide))
    refine ⟨?_, ?_, ?_, ?_⟩
    · rw [enc_name]
      simp only [PyData.shown, PyData.shownAll, Tm.size]
      refine Nat.le_trans (tup_len (by simp)) ?_
      have e : (reprText "?").length = 3 := by decide +kernel
      rw [piled_cons, piled_cons, e]
      have : piled [] = 0 := rfl
      omega
    · rw [enc_name]; simp only [PyData.showable, PyData.showableAll, Bool.true_and, Bool.and_true]
      refine decide_eq_true ?_
      show n.log2 < 1920
      by_cases z : n = 0
      · rw [z]; decide
      · have : n.log2 < 40 := (Nat.log2_lt z).mpr (Nat.lt_trans hn (by decide))
        omega
    · rw [enc_name]; simp [PyData.hasDict, PyData.hasDictAll]
    · rw [enc_name]; simp [PyData.depth, PyData.depthAll, Tm.depth]
  · intro f as ih h1 h2 h3
    obtain ⟨o1, o2, o3, o4⟩ := Tm.ok_tree.mp h1
    have nb := Tm.nb_tree.mp h2
    obtain ⟨i1, i2, i3, i4⟩ := txtL (as := as) fun a ha => ih a ha (o4 a ha) (nb a ha) fun n hn => h3 n (by rw [Tm.has_tree, List.any_eq_true]; exact ⟨a, ha, hn⟩)
    have := rep_w o1
    refine ⟨?_, ?_, ?_, ?_⟩
    · rw [enc_tree]
      simp only [PyData.shown, PyData.shownAll, Tm.size_tree]
      refine Nat.le_trans (tup_len (by simp)) ?_
      rw [piled_cons]; omega
    · rw [enc_tree]; simp only [PyData.showable, PyData.showableAll, Bool.true_and]; exact i2
    · rw [enc_tree]; simp only [PyData.hasDict, PyData.hasDictAll, Bool.false_or]; exact i3
    · rw [enc_tree]; simp only [PyData.depth, PyData.depthAll, Tm.depth]; omega
theorem r_shown {t : Tm} (ho : t.ok = true) (hb : t.nb = true) (hn : ∀ n, t.has n = true → n < 1000000000) (hz : t.size ≤ 1000) (hd : t.depth ≤ 100) : ∃ s : Str, ∀ (k : Nat) (h : AH), 1 ≤ k → call k (pl "_law_shown") [.d (enc t)] h = .ok (.d (.str s)) h := by
  have T := txt t ho hb hn
  have big : sizeLine = 16777216 := by decide
  have sq : isSq (enc t) = true → ∀ (k : Nat) (h : AH), 1 ≤ k → call k (pl "_law_shown") [.d (enc t)] h = .ok (.d (.str (enc t).shown)) h := fun q k h hk => by
    obtain ⟨k, rfl⟩ : ∃ j, k = j + 1 := ⟨k - 1, by omega⟩
    rw [c_law_shown]
    have c1 : (!(enc t).hasDict && (enc t).showable && decide ((enc t).depth ≤ 190) && decide ((enc t).shown.length ≤ sizeLine)) = true := by
      rw [T.nod, T.show_, decide_eq_true (by have := T.dp; omega), decide_eq_true (by have := T.len; omega)]; rfl
    have e : fmtN (.d (enc t)) h = .ok (.d (.str (enc t).shown)) h := by
      unfold fmtN
      simp only [q, if_true, c1]
      rfl
    simp [t_law_shown, e]
  cases t with
  | num i =>
    rw [Tm.nb] at hb
    have hb := of_decide_eq_true hb
    refine ⟨toString i, fun k h hk => ?_⟩
    obtain ⟨k, rfl⟩ : ∃ j, k = j + 1 := ⟨k - 1, by omega⟩
    rw [c_law_shown]
    have l : i.natAbs.log2 < 1920 := by
      by_cases z : i.natAbs = 0
      · rw [z]; decide
      · have : i.natAbs.log2 < 40 := (Nat.log2_lt z).mpr (Nat.lt_of_le_of_lt hb (by decide))
        omega
    have e : fmtN (.d (.int i)) h = .ok (.d (.str (toString i))) h := by
      show fmtM (.d (.int i)) h = _
      unfold fmtM
      simp only [if_pos l]; rfl
    rw [enc_num]
    simp [t_law_shown, e]
  | word s =>
    refine ⟨s, fun k h hk => ?_⟩
    obtain ⟨k, rfl⟩ : ∃ j, k = j + 1 := ⟨k - 1, by omega⟩
    rw [c_law_shown]
    have h2 : isW s = true := by simpa [Tm.ok] using ho
    have := isW_len h2
    have e : fmtN (.d (.str s)) h = .ok (.d (.str s)) h := by
      show fmtM (.d (.str s)) h = _
      unfold fmtM
      simp only [if_pos (show s.length ≤ sizeLine by omega)]; rfl
    rw [enc_word]
    simp [t_law_shown, e]
  | name n => exact ⟨_, sq (by rw [enc_name]; rfl)⟩
  | tree f as => exact ⟨_, sq (by rw [enc_tree]; rfl)⟩
end Ev
set_option Elab.async false
set_option linter.all false
set_option maxRecDepth 100000
set_option maxHeartbeats 4000000
namespace Ev
open PySem PySem.Spec PyProof.Rows L2 He
/-! ### terms made looser -/
structure Lo (u o : Tm) : Prop where
  ok : o.ok = true
  dp : o.depth ≤ u.depth
  sz : o.size ≤ u.size
theorem lo_name {u : Tm} {n : Nat} : Lo u (.name n) := ⟨rfl, by simp [Tm.depth]; exact Tm.depth_pos u, by simp [Tm.size]; exact Tm.size_pos u⟩
theorem lo_tree {f : Str} {as bs : List Tm} (h : (Tm.tree f as).ok = true) (p : Paired Lo as bs) : Lo (.tree f as) (.tree f bs) := by
  obtain ⟨o1, o2, o3, o4⟩ := Tm.ok_tree.mp h
  have hl := Paired.length p
  have go : ∀ {as bs : List Tm}, Paired Lo as bs → (∀ b ∈ bs, b.ok = true) ∧ Tm.depthL bs ≤ Tm.depthL as ∧ (bs.map Tm.size).sum ≤ (as.map Tm.size).sum := by
    intro as bs p
    induction p with
    | nil => exact ⟨(fun b hb => nomatch hb), Nat.le_refl _, Nat.le_refl _⟩
    | @cons a b as bs h t ih =>
      obtain ⟨i1, i2, i3⟩ := ih
      refine ⟨fun x hx => ?_, ?_, ?_⟩
      · rcases List.mem_cons.mp hx with e | e
        · rw [e]; exact h.ok
        · exact i1 x e
      · have := h.dp
        simp only [Tm.depthL]; omega
      · have := h.sz
        simp only [List.map_cons, List.sum_cons]; omega
  obtain ⟨g1, g2, g3⟩ := go p
  exact ⟨Tm.ok_tree.mpr ⟨o1, by omega, by omega, g1⟩, by simp only [Tm.depth]; omega, by rw [Tm.size_tree, Tm.size_tree]; omega⟩
/-! ### a dict of texts and numbers -/
abbrev eS (p : Str × Nat) : PyData × W := (.str p.1, .d (.int (p.2 : Nat)))
abbrev sD (kvs : List (Str × Nat)) : AO := .dic (kvs.map eS)
theorem clos_sD {n : Nat} {kvs : List (Str × Nat)} : (sD kvs).clos n := fun p hp => by
  obtain ⟨q, _, rfl⟩ := List.mem_map.mp hp
  trivial
theorem look_eS {s : Str} : ∀ kvs : List (Str × Nat), lookD (.inr s) (kvs.map eS) = (kvs.lookup s).map fun v => W.d (.int (v : Nat))
  | [] => rfl
  | (m, t) :: kvs => by
    rw [List.map_cons]
    unfold lookD
    rw [List.lookup_cons]
    have e : keyIsD (.inr s) (.str m) = (s == m) := by
      show decide (Sum.inr s = (Sum.inr m : Key)) = (s == m)
      by_cases q : s = m
      · subst q; simp
      · rw [decide_eq_false (fun e => q (by injection e))]
        exact (beq_eq_false_iff_ne.mpr q).symm
    show (if keyIsD (.inr s) (.str m) then some (W.d (.int (t : Nat))) else lookD (.inr s) (kvs.map eS)) = _
    rw [e]
    cases q : (s == m) with
    | true => simp
    | false => simp; exact look_eS kvs
section
variable {h : AH} {g : Nat} {kvs : List (Str × Nat)} {s : Str}
theorem sD_at (hg : h[g]? = some (sD kvs)) : dictAt h (.r g) (.inr s) = some ((kvs.lookup s).map fun v => W.d (.int (v : Nat))) := by
  unfold dictAt
  simp only [hg]
  rw [look_eS]
theorem sD_nin (hg : h[g]? = some (sD kvs)) : cmp .NotIn (.d (.str s)) (.r g) h = .ok (.d (.bool (!(kvs.lookup s).isSome))) h := by
  have e := sD_at (s := s) hg
  have p : (peek h (.r g)).bind seqD = none := by simp [peek, hg]
  show cIn true (.d (.str s)) (.r g) h = _
  unfold cIn
  simp only [p, keyOf, Option.bind_some, e, Option.isSome_map]
  rfl
theorem sD_ix (hg : h[g]? = some (sD kvs)) {v : Nat} (hv : kvs.lookup s = some v) : ixM (.r g) (.d (.str s)) h = .ok (.d (.int v)) h := by
  have e := sD_at (s := s) hg
  rw [hv] at e
  unfold ixM
  simp only [hg, keyOf, Option.bind_some, e]
  rfl
theorem sD_len {CM : FId → List W → M W} (hg : h[g]? = some (sD kvs)) : kLen TT CM (.r g) h = .ok (.d (.int kvs.length)) h := by
  unfold kLen fLen
  simp only [hg, List.length_map]
  rfl
theorem sD_any : ∀ kvs : List (Str × Nat), kvs.lookup s = none → ((kvs.map eS).any fun p => keyIsD (.inr s) p.1) = false
  | [], _ => rfl
  | (m, t) :: kvs, hn => by
    rw [List.lookup_cons] at hn
    cases q : (s == m) with
    | true => rw [q] at hn; cases hn
    | false =>
      rw [q] at hn
      rw [List.map_cons, List.any_cons, sD_any kvs hn, Bool.or_false]
      show decide (Sum.inr s = (Sum.inr m : Key)) = false
      exact decide_eq_false fun e => (beq_eq_false_iff_ne.mp q) (by injection e)
theorem sD_set (hg : h[g]? = some (sD kvs)) {v : Nat} (hn : kvs.lookup s = none) (hl : kvs.length < 2000) : setIxM (.r g) (.d (.str s)) (.d (.int v)) h = .ok () (h.set g (sD (kvs ++ [(s, v)]))) := by
  unfold setIxM
  simp only [hg, keyOf]
  rw [if_pos (Nat.lt_of_lt_of_le (show (kvs.map eS).length < 2000 by simpa using hl) (by decide))]
  have : putDW (.inr s) (.d (.int v)) (kvs.map eS) = (kvs ++ [(s, v)]).map eS := by
    unfold putDW
    rw [if_neg (by rw [sD_any kvs hn]; simp)]
    simp [keyD]
  rw [this]
end
theorem lookup_snoc {s : Str} {v : Nat} : ∀ kvs : List (Str × Nat), kvs.lookup s = none → (kvs ++ [(s, v)]).lookup s = some v
  | [], _ => by simp [List.lookup_cons]
  | (m, t) :: kvs, hn => by
    rw [List.lookup_cons] at hn
    rw [List.cons_append, List.lookup_cons]
    cases q : (s == m) with
    | true => rw [q] at hn; cases hn
    | false => rw [q] at hn; exact lookup_snoc kvs hn
/-! ### two objects changed -/
abbrev lh (h : AH) (g : Nat) (ts : List Int) (kvs : List (Str × Nat)) : AH := (h.set 2 (LI ts)).set g (sD kvs)
section
variable {h : AH} {g : Nat} {ts : List Int} {kvs : List (Str × Nat)}
theorem lh_len : (lh h g ts kvs).length = h.length := by simp
theorem lh_2 (h2 : 2 < g) (hg : g < h.length) {l : AH} : (lh h g ts kvs ++ l)[2]? = some (LI ts) := by
  rw [List.getElem?_append_left (by simp; omega), List.getElem?_set_ne (by omega)]
  exact List.getElem?_set_self (by omega)
theorem lh_g (hg : g < h.length) {l : AH} : (lh h g ts kvs ++ l)[g]? = some (sD kvs) := by
  rw [List.getElem?_append_left (by simpa using hg)]
  exact List.getElem?_set_self (by simpa using hg)
theorem lh_set2 (h2 : 2 < g) (hg : g < h.length) {l : AH} {t' : List Int} : (lh h g ts kvs ++ l).set 2 (LI t') = lh h g t' kvs ++ l := by
  rw [List.set_append_left _ _ (by simp; omega)]
  unfold lh
  rw [List.set_comm _ _ (by omega), List.set_set]
theorem lh_setg (hg : g < h.length) {l : AH} {k' : List (Str × Nat)} : (lh h g ts kvs ++ l).set g (sD k') = lh h g ts k' ++ l := by
  rw [List.set_append_left _ _ (by simpa using hg)]
  unfold lh
  rw [List.set_set]
theorem lh_self (h2 : 2 < g) (ht : h[2]? = some (LI ts)) (hg : h[g]? = some (sD kvs)) : lh h g ts kvs = h := by
  unfold lh
  rw [set_same ht, set_same hg]
theorem lh_end (h2 : 2 < g) (hg : g < h.length) {j : AH} {x : PyData} : endM h (.ok (.rt (.d x)) (lh h g ts kvs ++ j)) = .ok (.d x) (lh h g ts kvs) := by
  show outM h (.d x) (lh h g ts kvs ++ j) = _
  unfold outM
  have F : Fine h (lh h g ts kvs ++ j) := fun i o hi e => by
    rw [List.getElem?_append_left (by simpa using hi)] at e
    by_cases q : g = i
    · subst q
      rw [List.getElem?_set_self (by simpa using hg)] at e
      cases e; exact .inr clos_sD
    · rw [List.getElem?_set_ne q] at e
      by_cases q2 : 2 = i
      · subst q2
        rw [List.getElem?_set_self (by omega)] at e
        cases e; exact .inr clos_LI
      · rw [List.getElem?_set_ne q2] at e; exact .inl e
  rw [if_pos (fineB_iff.mpr F)]
  show R.ok (W.d x) ((lh h g ts kvs ++ j).take h.length) = _
  rw [show (lh h g ts kvs ++ j).take h.length = lh h g ts kvs from by
    rw [show h.length = (lh h g ts kvs).length from by simp]
    exact List.take_left]
theorem lh_end0 (h2 : 2 < g) (hg : g < h.length) {x : PyData} : endM h (.ok (.rt (.d x)) (lh h g ts kvs)) = .ok (.d x) (lh h g ts kvs) := by
  have := lh_end (ts := ts) (kvs := kvs) (j := []) (x := x) h2 hg
  rwa [List.append_nil] at this
end
theorem ll_loop {h : AH} {g i : Nat} {el : ME} {env : EnvW} {ns : List Int} (h2 : 2 < g) (hg : g < h.length) : ∀ (as : List Tm), (∀ a ∈ as, ∀ (ts : List Int) (kvs : List (Str × Nat)) (c : Int) (l : AH), Tw ns c ts → c + 2 * a.size ≤ 1000000 → kvs.length + a.size ≤ 1000 → ∃ o ts' kvs', el (env.set i (some (.d (enc a)))) (lh h g ts kvs ++ l) = .ok (.d (enc o)) (lh h g ts' kvs' ++ l) ∧ Lo a o ∧ Tw ns (c + 2 * a.size) ts' ∧ kvs'.length ≤ kvs.length + a.size) →
    ∀ (ts : List Int) (kvs : List (Str × Nat)) (c : Int) (acc : List PyData), Tw ns c ts → c + 2 * ((as.map Tm.size).sum : Nat) ≤ 1000000 → kvs.length + (as.map Tm.size).sum ≤ 1000 → acc.length + as.length < 1000 →
    ∃ bs ts' kvs', cLoop h.length (.n i) tTrue el (as.map fun a => .d (enc a)) env (lh h g ts kvs ++ [.lst (acc.map .d)]) = .ok () (lh h g ts' kvs' ++ [.lst ((acc ++ bs.map enc).map .d)]) ∧ Paired Lo as bs ∧ Tw ns (c + 2 * ((as.map Tm.size).sum : Nat)) ts' ∧ kvs'.length ≤ kvs.length + (as.map Tm.size).sum
  | [], _, ts, kvs, c, acc, T, _, _, _ => ⟨[], ts, kvs, by simp [cLoop, mpure], .nil, by simpa using T, by simp⟩
  | a :: as, step, ts, kvs, c, acc, T, hc, hk, hl => by
    simp only [List.map_cons, List.sum_cons] at hc hk ⊢
    simp only [List.length_cons] at hl
    obtain ⟨o, t1, k1, e1, L1, T1, n1⟩ := step a (by simp) ts kvs c [.lst (acc.map .d)] T (by omega) (by omega)
    obtain ⟨bs, t2, k2, e2, L2, T2, n2⟩ := ll_loop h2 hg as (fun x hx => step x (by simp [hx])) t1 k1 (c + 2 * a.size) (acc ++ [enc o]) T1 (by omega) (by omega) (by simp; omega)
    refine ⟨o :: bs, t2, k2, ?_, .cons L1 L2, T2.up (by omega), by omega⟩
    rw [cl_stepT (h1 := lh h g t1 k1 ++ [.lst (acc.map .d)]) (acc := acc.map .d) e1 (by rw [List.getElem?_append_right (by simp)]; simp) (by simp; omega)]
    rw [show (lh h g t1 k1 ++ [AO.lst (acc.map .d)]).set h.length (.lst (acc.map .d ++ [.d (enc o)])) = lh h g t1 k1 ++ [.lst ((acc ++ [enc o]).map .d)] from by
      rw [List.set_append_right _ _ (by simp)]; simp]
    rw [e2]
    simp
theorem mul10 {b : Int} : ∀ H : AH, bMul (.d (.int 10)) (.d (.int b)) H = .ok (.d (.int (10 * b))) H := fun H => by
  unfold bMul
  simp only
  rw [if_pos (show (small64 10 || small64 b) = true by rw [show small64 10 = true by decide]; rfl)]
  rfl
theorem r_loose {ns : List Int} {g : Nat} (h2 : 2 < g) : ∀ (u : Tm), u.ok = true → u.nb = true → (∀ n, u.has n = true → n < 1000000000) → u.depth ≤ 50 → ∀ (k : Nat), u.depth + 4 ≤ k → ∀ (h : AH) (ts : List Int) (kvs : List (Str × Nat)) (c : Int), h[2]? = some (LI ts) → h[g]? = some (sD kvs) → Tw ns c ts → c + 2 * u.size ≤ 1000000 → kvs.length + u.size ≤ 1000 →
    ∃ o ts' kvs', call k (pl "_law_loose") [.d (dI ns), .r 2, .d (enc u), .r g] h = .ok (.d (enc o)) (lh h g ts' kvs') ∧ Lo u o ∧ Tw ns (c + 2 * u.size) ts' ∧ kvs'.length ≤ kvs.length + u.size := by
  have main : ∀ (u : Tm), u.ok = true → u.nb = true → (∀ n, u.has n = true → n < 1000000000) → u.depth ≤ 50 → (∀ f as, u = .tree f as → ∀ a ∈ as, ∀ (k : Nat), a.depth + 4 ≤ k → ∀ (h : AH) (ts : List Int) (kvs : List (Str × Nat)) (c : Int), h[2]? = some (LI ts) → h[g]? = some (sD kvs) → Tw ns c ts → c + 2 * a.size ≤ 1000000 → kvs.length + a.size ≤ 1000 →
      ∃ o ts' kvs', call k (pl "_law_loose") [.d (dI ns), .r 2, .d (enc a), .r g] h = .ok (.d (enc o)) (lh h g ts' kvs') ∧ Lo a o ∧ Tw ns (c + 2 * a.size) ts' ∧ kvs'.length ≤ kvs.length + a.size) → ∀ (k : Nat), u.depth + 4 ≤ k → ∀ (h : AH) (ts : List Int) (kvs : List (Str × Nat)) (c : Int), h[2]? = some (LI ts) → h[g]? = some (sD kvs) → Tw ns c ts → c + 2 * u.size ≤ 1000000 → kvs.length + u.size ≤ 1000 →
      ∃ o ts' kvs', call k (pl "_law_loose") [.d (dI ns), .r 2, .d (enc u), .r g] h = .ok (.d (enc o)) (lh h g ts' kvs') ∧ Lo u o ∧ Tw ns (c + 2 * u.size) ts' ∧ kvs'.length ≤ kvs.length + u.size := by
    intro u hu hb hw hd ih k hk h ts kvs c ht hg T hc hkv
    obtain ⟨k, rfl⟩ : ∃ j, k = j + 3 := ⟨k - 3, by have := Tm.depth_pos u; omega⟩
    have pu := Tm.size_pos u
    have gl : g < h.length := (List.getElem?_eq_some_iff.mp hg).1
    obtain ⟨v, t1, e1, v0, v1, T1⟩ := r_draw (k := k + 1) (m := 4) ht T (by omega) (by decide) (by decide)
    have eh : h = lh h g ts kvs := (lh_self h2 ht hg).symm
    have e1 : call (k + 2) (pl "_law_draw") [.d (dI ns), .r 2, .d (.int 4)] h = .ok (.d (.int v)) (lh h g t1 kvs) := by
      rw [e1]
      congr 1
      unfold lh
      rw [List.set_comm _ _ (by omega), set_same hg]
    have sz2 : (2 : Nat) ≤ sizeLine := by decide
    have en := fun (t : List Int) (x : PyData) (kk : List (Str × Nat)) => lh_end0 (h := h) (ts := t) (kvs := kk) (x := x) h2 gl
    have hv : ∀ H : AH, cmp .Eq (.d (.int v)) (.d (.int 0)) H = .ok (.d (.bool (decide (v = 0)))) H := fun H => eq_i
    have T1a : (lh h g t1 kvs)[2]? = some (LI t1) := by
      have := lh_2 (ts := t1) (kvs := kvs) (l := []) h2 gl
      rwa [List.append_nil] at this
    have T1g : (lh h g t1 kvs)[g]? = some (sD kvs) := by
      have := lh_g (ts := t1) (kvs := kvs) (l := []) gl
      rwa [List.append_nil] at this
    have s2 : ∀ t, (lh h g t1 kvs).set 2 (LI t) = lh h g t kvs := fun t => by
      have := lh_set2 (ts := t1) (kvs := kvs) (l := []) (t' := t) h2 gl
      rwa [List.append_nil, List.append_nil] at this
    rw [c_law_loose]
    by_cases z : v = 0
    · rw [decide_eq_true z] at hv
      obtain ⟨s, es⟩ := r_shown hu hb hw (by omega) (by omega)
      have es := fun H : AH => es (k + 2) H (by omega)
      cases q : kvs.lookup s with
      | none =>
        obtain ⟨m, t2, e2, m0, m1, T2⟩ := r_draw (k := k + 1) (m := 2) T1a T1 (by omega) (by decide) (by decide)
        obtain ⟨m, rfl⟩ : ∃ n : Nat, m = (n : Int) := ⟨m.toNat, by omega⟩
        rw [s2] at e2
        have ni := sD_nin (s := s) T1g
        rw [q] at ni
        have ln := sD_len (CM := call (k + 2)) T1g
        have T2g : (lh h g t2 kvs)[g]? = some (sD kvs) := by
          have := lh_g (ts := t2) (kvs := kvs) (l := []) gl
          rwa [List.append_nil] at this
        have st := sD_set (v := 50 + kvs.length + 10 * m) T2g q (by omega)
        rw [show (lh h g t2 kvs).set g (sD (kvs ++ [(s, 50 + kvs.length + 10 * m)])) = lh h g t2 (kvs ++ [(s, 50 + kvs.length + 10 * m)]) from by
          have := lh_setg (ts := t2) (kvs := kvs) (l := []) (k' := kvs ++ [(s, 50 + kvs.length + 10 * m)]) gl
          rwa [List.append_nil, List.append_nil] at this] at st
        have T3g : (lh h g t2 (kvs ++ [(s, 50 + kvs.length + 10 * m)]))[g]? = some (sD (kvs ++ [(s, 50 + kvs.length + 10 * m)])) := by
          have := lh_g (ts := t2) (kvs := kvs ++ [(s, 50 + kvs.length + 10 * m)]) (l := []) gl
          rwa [List.append_nil] at this
        have gt := sD_ix T3g (lookup_snoc (v := 50 + kvs.length + 10 * m) kvs q)
        refine ⟨.name (50 + kvs.length + 10 * m), t2, kvs ++ [(s, 50 + kvs.length + 10 * m)], ?_, lo_name, T2.up (by omega), by rw [List.length_append]; simp; omega⟩
        have en2 := en t2 (enc (.name (50 + kvs.length + 10 * m))) (kvs ++ [(s, 50 + kvs.length + 10 * m)])
        rw [enc_name] at en2 ⊢
        have e50 : ((50 + kvs.length + 10 * m : Nat) : Int) = 50 + (kvs.length : Int) + 10 * (m : Int) := by omega
        rw [e50] at en2 st gt ⊢
        simp [t_law_loose, e1, hv, es, ni, ln, bop, bAdd, e2, mul10, st, gt, kTup, allD, sz2, en2]
      | some n =>
        have ni := sD_nin (s := s) T1g
        rw [q] at ni
        have gt := sD_ix T1g q
        refine ⟨.name n, t1, kvs, ?_, lo_name, T1.up (by omega), by omega⟩
        have en2 := en t1 (enc (.name n)) kvs
        rw [enc_name] at en2 ⊢
        simp [t_law_loose, e1, hv, es, ni, gt, kTup, allD, sz2, en2]
    · rw [decide_eq_false z] at hv
      have itr := fun H : AH => l_is_tr (k := k + 2) (t := u) (h := H) (by omega) hu
      have inm := fun H : AH => l_is_nm (k := k + 2) (t := u) (h := H) (by omega) hu
      cases u with
      | num x =>
        refine ⟨.num x, t1, kvs, ?_, ⟨hu, Nat.le_refl _, Nat.le_refl _⟩, T1.up (by simp [Tm.size]), by omega⟩
        have en2 := en t1 (enc (.num x)) kvs
        rw [enc_num] at *
        simp [t_law_loose, e1, hv, itr, inm, Tm.isTree, Tm.isName, en2]
      | word x =>
        refine ⟨.word x, t1, kvs, ?_, ⟨hu, Nat.le_refl _, Nat.le_refl _⟩, T1.up (by simp [Tm.size]), by omega⟩
        have en2 := en t1 (enc (.word x)) kvs
        rw [enc_word] at *
        simp [t_law_loose, e1, hv, itr, inm, Tm.isTree, Tm.isName, en2]
      | name n =>
        refine ⟨.name (70 + n), t1, kvs, ?_, lo_name, T1.up (by simp [Tm.size]), by omega⟩
        have en2 := en t1 (enc (.name (70 + n))) kvs
        rw [enc_name] at *
        rw [enc_name]
        have e7 : ((70 + n : Nat) : Int) = 70 + (n : Int) := by omega
        rw [e7] at en2 ⊢
        simp [t_law_loose, e1, hv, itr, inm, Tm.isTree, Tm.isName, ix_n1, bop, bAdd, kTup, allD, sz2, en2]
      | tree f as =>
        obtain ⟨o1, o2, o3, o4⟩ := Tm.ok_tree.mp hu
        have nb := Tm.nb_tree.mp hb
        have sz := Tm.size_tree (f := f) (as := as)
        simp only [Tm.depth] at hk hd
        rw [sz] at hc hkv
        obtain ⟨bs, t2, k2, e2, p2, T2, n2⟩ := ll_loop (i := 4) (el := eCall (call (k + 2)) (pl "_law_loose") (aList [mVar 0, mVar 1, mVar 4, mVar 3])) (env := [some (.d (dI ns)), some (.r 2), some (.d (enc (.tree f as))), some (.r g), none]) (h := h) (ns := ns) h2 gl as (fun a ha ts' kvs' c' l T' hc' hk' => by
          obtain ⟨o, t', kv', e', P', T'', n'⟩ := ih f as rfl a ha (k + 2) (by have := Tm.depth_le ha; omega) (lh h g ts' kvs' ++ l) ts' kvs' c' (lh_2 h2 gl) (lh_g gl) T' hc' hk'
          refine ⟨o, t', kv', ?_, P', T'', n'⟩
          rw [show lh (lh h g ts' kvs' ++ l) g t' kv' = lh h g t' kv' ++ l from by
            rw [show lh (lh h g ts' kvs' ++ l) g t' kv' = ((lh h g ts' kvs' ++ l).set 2 (LI t')).set g (sD kv') from rfl, lh_set2 h2 gl, lh_setg gl]] at e'
          simp [e']) t1 kvs (c + 1) [] T1 (by omega) (by omega) (by simp; omega)
        have lc : eLC (.n 4) (iVal (eSl (mVar 2) (pSome (mC (.d (.int 1)))) pNo)) tTrue (eCall (call (k + 2)) (pl "_law_loose") (aList [mVar 0, mVar 1, mVar 4, mVar 3])) [some (.d (dI ns)), some (.r 2), some (.d (enc (.tree f as))), some (.r g), none] (lh h g t1 kvs) = .ok (.r (lh h g t1 kvs).length) (lh h g t2 k2 ++ [.lst ((bs.map enc).map .d)]) := by
          rw [eLC_ap, show iVal (eSl (mVar 2) (pSome (mC (.d (.int 1)))) pNo) [some (.d (dI ns)), some (.r 2), some (.d (enc (.tree f as))), some (.r g), none] (lh h g t1 kvs) = .ok (as.map (fun a => W.d (enc a)), none) (lh h g t1 kvs) from by rw [enc_tree]; simp [slM, cut1, srcM], mb_ok]
          show mb (cLoop (lh h g t1 kvs).length (.n 4) tTrue _ (as.map fun a => W.d (enc a)) (wipeW _ [4]) (lh h g t1 kvs ++ [.lst []])) (kRef (lh h g t1 kvs).length) = _
          rw [lh_len]
          simp only [List.map_nil, List.nil_append] at e2
          rw [show wipeW [some (.d (dI ns)), some (.r 2), some (.d (enc (.tree f as))), some (.r g), none] [4] = [some (.d (dI ns)), some (.r 2), some (.d (enc (.tree f as))), some (.r g), none] from rfl, e2]
          rfl
        have lo : eOut (eLC (.n 4) (iVal (eSl (mVar 2) (pSome (mC (.d (.int 1)))) pNo)) tTrue (eCall (call (k + 2)) (pl "_law_loose") (aList [mVar 0, mVar 1, mVar 4, mVar 3]))) [some (.d (dI ns)), some (.r 2), some (.d (enc (.tree f as))), some (.r g), none] (lh h g t1 kvs) = .ok (.d (.list (bs.map enc))) (lh h g t2 k2) := by
          rw [eOut_ap lc]
          unfold outM
          have F : Fine (lh h g t1 kvs) (lh h g t2 k2 ++ [.lst ((bs.map enc).map .d)]) := fun i o hi e => by
            have hi : i < h.length := by simpa using hi
            rw [List.getElem?_append_left (by simpa using hi)] at e
            by_cases q : g = i
            · subst q
              rw [List.getElem?_set_self (by simpa using gl)] at e
              cases e; exact .inr clos_sD
            · rw [List.getElem?_set_ne q] at e
              by_cases q2 : 2 = i
              · subst q2
                rw [List.getElem?_set_self (by omega)] at e
                cases e; exact .inr clos_LI
              · rw [List.getElem?_set_ne q2] at e
                left
                unfold lh
                rw [List.getElem?_set_ne q, List.getElem?_set_ne q2]; exact e
          rw [if_pos (fineB_iff.mpr F)]
          have e : frzW (lh h g t1 kvs).length (lh h g t2 k2 ++ [.lst ((bs.map enc).map .d)]) (.r (lh h g t1 kvs).length) = some (.d (.list (bs.map enc))) := by
            show (if (lh h g t1 kvs).length < (lh h g t1 kvs).length then some (W.r _) else (frz (lh h g t1 kvs).length (lh h g t2 k2 ++ [.lst ((bs.map enc).map .d)]) 4 (.r _)).map W.d) = _
            rw [if_neg (by omega)]
            have e3 : frz (lh h g t1 kvs).length (lh h g t2 k2 ++ [.lst ((bs.map enc).map .d)]) (3 + 1) (.r (lh h g t1 kvs).length) = some (.list (bs.map enc)) := by
              show (if (lh h g t1 kvs).length ≤ (lh h g t1 kvs).length then (match (lh h g t2 k2 ++ [AO.lst ((bs.map enc).map .d)])[(lh h g t1 kvs).length]? with
                | some (.lst ws) => (frzLw (frz (lh h g t1 kvs).length (lh h g t2 k2 ++ [.lst ((bs.map enc).map .d)]) 3) ws).map PyData.list
                | some (.dic qq) => (frzDw (frz (lh h g t1 kvs).length (lh h g t2 k2 ++ [.lst ((bs.map enc).map .d)]) 3) qq).map PyData.dict
                | _ => none) else none) = _
              rw [if_pos (Nat.le_refl _), show (lh h g t2 k2 ++ [AO.lst ((bs.map enc).map .d)])[(lh h g t1 kvs).length]? = some (.lst ((bs.map enc).map .d)) from by
                rw [List.getElem?_append_right (by simp)]; simp]
              simp only [frzL_data]
              rfl
            rw [e3]; rfl
          rw [e]
          show R.ok _ ((lh h g t2 k2 ++ [AO.lst ((bs.map enc).map .d)]).take (lh h g t1 kvs).length) = _
          rw [show (lh h g t1 kvs).length = (lh h g t2 k2).length from by simp, List.take_left]
        have L := lo_tree hu p2
        refine ⟨.tree f bs, t2, k2, ?_, L, T2.up (by rw [sz]; omega), by rw [sz]; omega⟩
        have en2 := en t2 (enc (.tree f bs)) k2
        have hbl := Paired.length p2
        have sb : 1 + bs.length ≤ sizeLine := Nat.le_trans (show 1 + bs.length ≤ 100 by omega) (by decide)
        rw [enc_tree] at *
        rw [enc_tree] at *
        simp [-eLC_ap, -List.map_map, t_law_loose, e1, hv, itr, Tm.isTree, slM, cut01, ↓lo, fTuple, listD, peek, bop, bAdd, sb, en2]
  refine Tm.ind ?_ ?_ ?_ ?_
  · intro i hu hb hw hd; exact main _ hu hb hw hd (fun f as e => by cases e)
  · intro i hu hb hw hd; exact main _ hu hb hw hd (fun f as e => by cases e)
  · intro i hu hb hw hd; exact main _ hu hb hw hd (fun f as e => by cases e)
  · intro f as ih hu hb hw hd
    refine main _ hu hb hw hd (fun f' as' e a ha => ?_)
    cases e
    exact ih a ha ((Tm.ok_tree.mp hu).2.2.2 a ha) (Tm.nb_tree.mp hb a ha) (fun n hn => hw n (by rw [Tm.has_tree, List.any_eq_true]; exact ⟨a, ha, hn⟩)) (by have := Tm.depth_le ha; simp only [Tm.depth] at hd; omega)
end Ev
set_option Elab.async false
set_option linter.all false
set_option maxRecDepth 100000
set_option maxHeartbeats 2000000
namespace Ev
open PySem PySem.Spec PyProof.Rows L2 He
/-! ### names in their order -/
def addN (acc ns : List Nat) : List Nat := acc ++ ns.filter fun x => !acc.contains x
theorem addN_assoc (a b c : List Nat) : addN a (addN b c) = addN (addN a b) c := by
  unfold addN
  rw [List.filter_append, List.filter_filter, List.append_assoc]
  congr 2
  refine List.filter_congr fun x _ => ?_
  have e : (a ++ b.filter fun y => !a.contains y).contains x = (a.contains x || b.contains x) := by
    rw [Bool.eq_iff_iff]
    simp only [List.contains_iff_mem, Bool.or_eq_true, List.mem_append, List.mem_filter, Bool.not_eq_true']
    constructor
    · rintro (h | ⟨h, _⟩)
      · exact .inl h
      · exact .inr h
    · rintro (h | h)
      · exact .inl h
      · by_cases q : x ∈ a
        · exact .inl q
        · exact .inr ⟨h, by simpa using q⟩
  rw [e]
  cases a.contains x <;> cases b.contains x <;> rfl
theorem addN_nil (a : List Nat) : addN [] a = a := by
  unfold addN
  simp
mutual
def nmO : Tm → List Nat
  | .num _ => []
  | .word _ => []
  | .name n => [n]
  | .tree _ as => nmOL [] as
def nmOL (acc : List Nat) : List Tm → List Nat
  | [] => acc
  | a :: as => nmOL (addN acc (nmO a)) as
end
theorem nmOL_nil {acc : List Nat} : nmOL acc [] = acc := by rw [nmOL]
theorem nmOL_cons {acc : List Nat} {a : Tm} {as : List Tm} : nmOL acc (a :: as) = nmOL (addN acc (nmO a)) as := by rw [nmOL]
theorem nmOL_add : ∀ (as : List Tm) (acc b : List Nat), addN acc (nmOL b as) = nmOL (addN acc b) as
  | [], acc, b => by rw [nmOL_nil, nmOL_nil]
  | a :: as, acc, b => by rw [nmOL_cons, nmOL_cons, nmOL_add as, addN_assoc]
theorem nmO_tree {acc : List Nat} {f : Str} {as : List Tm} : addN acc (nmO (.tree f as)) = nmOL acc as := by
  rw [nmO, nmOL_add]
  unfold addN
  simp
/-! ### read -/
def cs (l : List Nat) : List Int := l.map fun n => ((n : Nat) : Int)
theorem cs_has {l : List Nat} {n : Nat} : (cs l).contains ((n : Nat) : Int) = l.contains n := by
  rw [Bool.eq_iff_iff]
  simp only [List.contains_iff_mem, cs, List.mem_map]
  constructor
  · rintro ⟨m, h, e⟩
    have : m = n := by omega
    rw [← this]; exact h
  · intro h; exact ⟨n, h, rfl⟩
theorem cs_add {a b : List Nat} : cs a ++ (cs b).filter (fun x => !(cs a).contains x) = cs (addN a b) := by
  unfold addN
  rw [cs, cs, cs, List.map_append, List.filter_map]
  congr 2
  refine List.filter_congr fun x _ => ?_
  have := cs_has (l := a) (n := x)
  unfold cs at this
  simp only [Function.comp]
  rw [this]
theorem nm_loop3 {k : Nat} {w0 : W} {h : AH} : ∀ (as : List Tm) (acc : List Nat) (J : AH) (l : Nat) (x2 x3 : Option W), (∀ a ∈ as, (∀ H : AH, call k (pl "_law_names") [.d (enc a)] H = .ok (.d (dI (cs (nmO a)))) H) ∧ (nmO a).length ≤ a.size) → acc.length + (as.map Tm.size).sum ≤ 1000 → (h ++ J)[l]? = some (LI (cs acc)) → h.length ≤ l →
    ∃ J' l' y2 y3, floop (.n 2) (bNm k) (as.map fun a => .d (enc a)) [some w0, some (.r l), x2, x3] (h ++ J) = .ok (.nx [some w0, some (.r l'), y2, y3]) (h ++ J') ∧ (h ++ J')[l']? = some (LI (cs (nmOL acc as))) ∧ h.length ≤ l' ∧ (nmOL acc as).length ≤ acc.length + (as.map Tm.size).sum
  | [], acc, J, l, x2, x3, _, _, hl, hlh => ⟨J, l, x2, x3, rfl, by rw [nmOL_nil]; exact hl, hlh, by rw [nmOL_nil]; simp⟩
  | a :: as, acc, J, l, x2, x3, ha, hz, hl, hlh => by
    obtain ⟨e1, ml⟩ := ha a (by simp)
    have e1 := e1 (h ++ J)
    simp only [List.map_cons, List.sum_cons] at hz
    obtain ⟨ns, ens⟩ : ∃ ns, ns = cs (nmO a) := ⟨_, rfl⟩
    obtain ⟨ac, eac⟩ : ∃ ac, ac = cs acc := ⟨_, rfl⟩
    have nsl : ns.length = (nmO a).length := by rw [ens]; simp [cs]
    have acl : ac.length = acc.length := by rw [eac]; simp [cs]
    rw [← ens] at e1
    rw [← eac] at hl
    obtain ⟨H, eH⟩ : ∃ H, H = h ++ J := ⟨_, rfl⟩
    rw [← eH] at e1 hl
    have ll : l < H.length := (List.getElem?_eq_some_iff.mp hl).1
    have lc : eLC (.n 3) (iVal (eCall (call k) (pl "_law_names") (aList [mVar 2]))) (tst (eCmp .NotIn (mVar 3) (mVar 1))) (mVar 3) [some w0, some (.r l), some (.d (enc a)), x3] H = .ok (.r H.length) (H ++ [LI (ns.filter fun x => !ac.contains x)]) := by
      refine (lc_ap (ws := ns.map fun x => W.d (.int x)) (f := fun w => match w with | .d (.int x) => if ac.contains x then none else some (W.d (.int x)) | _ => none) ?_ (by rw [List.length_map]; exact Nat.le_trans (show ns.length ≤ 10000 by omega) (by decide)) ?_).trans ?_
      · simp [e1, srcM, dI]
      · intro w hw acx
        obtain ⟨x, hx, rfl⟩ := List.mem_map.mp hw
        refine ⟨_, rfl, ?_⟩
        have i1 := in_LI (h := H ++ [.lst acx]) (i := l) (is := ac) (j := x) (neg := true) (by rw [List.getElem?_append_left ll]; exact hl)
        simp only
        cases q : ac.contains x with
        | true =>
          rw [q] at i1
          simp [wipeW, Tg.slots, cmp, i1]
        | false =>
          rw [q] at i1
          simp [wipeW, Tg.slots, cmp, i1]
      · rw [LI_map]
        exact congrArg (fun z => R.ok (W.r H.length) (H ++ [AO.lst z])) (filt_map ns)
    have ba : bAdd (.r l) (.r H.length) (H ++ [LI (ns.filter fun x => !ac.contains x)]) = .ok (.r (H.length + 1)) (H ++ [LI (ns.filter fun x => !ac.contains x), LI (ac ++ ns.filter fun x => !ac.contains x)]) := by
      refine (bAdd_l (a := ac.map fun x => W.d (.int x)) (b := (ns.filter fun x => !ac.contains x).map fun x => W.d (.int x)) ?_ ?_ ?_).trans ?_
      · rw [List.getElem?_append_left ll, hl, LI_map]
      · rw [← LI_map]; simp
      · have := List.length_filter_le (fun x => !ac.contains x) ns
        refine Nat.le_trans (show _ ≤ 20000 from ?_) (by decide)
        rw [List.length_map, List.length_map]; omega
      · simp [LI_map]
    have e3 : ac ++ (ns.filter fun x => !ac.contains x) = cs (addN acc (nmO a)) := by rw [eac, ens]; exact cs_add
    have al : (addN acc (nmO a)).length ≤ acc.length + a.size := by
      unfold addN
      have := List.length_filter_le (fun x => !acc.contains x) (nmO a)
      rw [List.length_append]; omega
    obtain ⟨J', l', y2, y3, r1, r2, r3, r4⟩ := nm_loop3 (k := k) (w0 := w0) (h := h) as (addN acc (nmO a)) (J ++ [LI (ns.filter fun x => !ac.contains x), LI (ac ++ ns.filter fun x => !ac.contains x)]) (H.length + 1) (some (.d (enc a))) x3 (fun b hb => ha b (by simp [hb])) (by omega) (by rw [← List.append_assoc, ← eH, at_l1, e3]; rfl) (by rw [eH]; simp; omega)
    rw [← List.append_assoc, ← eH] at r1
    refine ⟨J', l', y2, y3, ?_, by rw [nmOL_cons]; exact r2, r3, by rw [nmOL_cons]; simp only [List.map_cons, List.sum_cons]; omega⟩
    rw [← eH, List.map_cons, floop_n]
    obtain ⟨fl, efl⟩ : ∃ fl, fl = ns.filter fun x => !ac.contains x := ⟨_, rfl⟩
    rw [← efl] at lc ba r1
    have hb : bNm k [some w0, some (.r l), some (.d (enc a)), x3] H = .ok (.nx [some w0, some (.r (H.length + 1)), some (.d (enc a)), x3]) (H ++ [LI fl, LI (ac ++ fl)]) := by
      simp [-eLC_ap, bNm, ↓lc, bop, ba]
    rw [show ([some w0, some (.r l), x2, x3] : EnvW).set 2 (some (.d (enc a))) = [some w0, some (.r l), some (.d (enc a)), x3] from rfl, hb, mb_ok, kLoop_nx]
    exact r1
theorem l_names3 : ∀ (t : Tm), t.ok = true → t.size ≤ 900 → ∀ (k : Nat), t.depth + 1 ≤ k → (∀ h : AH, call k (pl "_law_names") [.d (enc t)] h = .ok (.d (dI (cs (nmO t)))) h) ∧ (nmO t).length ≤ t.size := by
  refine Tm.ind ?_ ?_ ?_ ?_
  · intro i _ _ k hk
    obtain ⟨k, rfl⟩ : ∃ j, k = j + 1 := ⟨k - 1, by omega⟩
    simp [Tm.depth] at hk
    refine ⟨fun h => ?_, by simp [nmO]⟩
    rw [c_law_names]
    have e0 := fun H : AH => l_is_nm (k := k) (t := .num i) (h := H) (by omega) rfl
    have e1 := fun H : AH => l_is_tr (k := k) (t := .num i) (h := H) (by omega) rfl
    have ek : kLst [] h = .ok (.r h.length) (h ++ [.lst []]) := kLst_ap (by simp)
    have en : endM h (.ok (.rt (.r h.length)) (h ++ [.lst []])) = .ok (.d (dI (cs (nmO (.num i))))) h := end_l1 (ds := []) (j := [])
    rw [enc_num] at *
    simp [t_law_names, e0, e1, Tm.isName, Tm.isTree, ek, en]
  · intro i h1 _ k hk
    obtain ⟨k, rfl⟩ : ∃ j, k = j + 1 := ⟨k - 1, by omega⟩
    simp [Tm.depth] at hk
    refine ⟨fun h => ?_, by simp [nmO]⟩
    rw [c_law_names]
    have e0 := fun H : AH => l_is_nm (k := k) (t := .word i) (h := H) (by omega) h1
    have e1 := fun H : AH => l_is_tr (k := k) (t := .word i) (h := H) (by omega) h1
    have ek : kLst [] h = .ok (.r h.length) (h ++ [.lst []]) := kLst_ap (by simp)
    have en : endM h (.ok (.rt (.r h.length)) (h ++ [.lst []])) = .ok (.d (dI (cs (nmO (.word i))))) h := end_l1 (ds := []) (j := [])
    rw [enc_word] at *
    simp [t_law_names, e0, e1, Tm.isName, Tm.isTree, ek, en]
  · intro n _ _ k hk
    obtain ⟨k, rfl⟩ : ∃ j, k = j + 1 := ⟨k - 1, by omega⟩
    simp [Tm.depth] at hk
    refine ⟨fun h => ?_, by simp [nmO, Tm.size]⟩
    rw [c_law_names]
    have e0 := fun H : AH => l_is_nm (k := k) (t := .name n) (h := H) (by omega) rfl
    have ek : kLst [.d (.int n)] h = .ok (.r h.length) (h ++ [.lst [.d (.int n)]]) := kLst_ap (by simp)
    have en : endM h (.ok (.rt (.r h.length)) (h ++ [.lst [.d (.int n)]])) = .ok (.d (dI (cs (nmO (.name n))))) h := by
      rw [show cs (nmO (.name n)) = [(n : Int)] from by simp [nmO, cs]]
      exact end_l1 (ds := [.int n]) (j := [])
    rw [enc_name] at *
    simp [t_law_names, e0, Tm.isName, ix_n1, ek, en]
  · intro f as ih h1 hs k hk
    obtain ⟨k, rfl⟩ : ∃ j, k = j + 1 := ⟨k - 1, by omega⟩
    simp only [Tm.depth] at hk
    obtain ⟨o1, o2, o3, o4⟩ := Tm.ok_tree.mp h1
    rw [Tm.size_tree] at hs
    have nt : nmO (.tree f as) = nmOL [] as := by rw [nmO]
    have go := fun h : AH => nm_loop3 (k := k) (w0 := .d (.tuple (.str f :: as.map enc))) (h := h) as [] [.lst []] h.length none none (fun a ha => ih a ha (o4 a ha) (by have := Tm.sum_ge (f := Tm.size) ha; omega) k (by have := Tm.depth_le ha; omega)) (by simp; omega) (by simp [LI, cs]) (Nat.le_refl _)
    refine ⟨fun h => ?_, ?_⟩
    · obtain ⟨J', l', y2, y3, r1, r2, r3, r4⟩ := go h
      rw [show (as.map fun a => W.d (enc a)) = (as.map enc).map W.d from by rw [List.map_map]; rfl] at r1
      rw [c_law_names]
      have e0 := fun H : AH => l_is_nm (k := k) (t := .tree f as) (h := H) (by have := Tm.depth_pos (Tm.tree f as); omega) h1
      have e1 := fun H : AH => l_is_tr (k := k) (t := .tree f as) (h := H) (by have := Tm.depth_pos (Tm.tree f as); omega) h1
      have ek : kLst [] h = .ok (.r h.length) (h ++ [.lst []]) := kLst_ap (by simp)
      have en : endM h (.ok (.rt (.r l')) (h ++ J')) = .ok (.d (dI (cs (nmO (.tree f as))))) h := by
        rw [nt]; exact end_l (ds := (cs (nmOL [] as)).map PyData.int) r3 r2
      rw [enc_tree] at *
      simp [-List.map_map, -floop_n, t_law_names, e0, e1, Tm.isName, Tm.isTree, ek, slM, cut1, srcM, r1, en]
    · obtain ⟨J', l', y2, y3, r1, r2, r3, r4⟩ := go []
      rw [nt, Tm.size_tree]
      simp at r4; omega
/-! ### those of what is common stand from 0 on -/
theorem add_new (n : Nat) : addN (List.range n) [n] = List.range (n + 1) := by
  unfold addN
  rw [List.range_succ]
  congr 1
  have : (List.range n).contains n = false := by
    rw [Bool.eq_false_iff]; simp
  simp [this]
theorem add_old {n i : Nat} (h : i < n) : addN (List.range n) [i] = List.range n := by
  unfold addN
  have : i ∈ List.range n := List.mem_range.mpr h
  simp [h]
theorem nmO_genL : ∀ (as : List Tm), (∀ a ∈ as, ∀ (b : Tm) (κ0 κ : KP), regs κ0 (prs a b) <+: κ → addN (List.range κ0.length) (nmO (gen κ a b)) = List.range (regs κ0 (prs a b)).length) → ∀ (bs : List Tm) (κ0 κ : KP), regs κ0 (prsL as bs) <+: κ → nmOL (List.range κ0.length) (genL κ as bs) = List.range (regs κ0 (prsL as bs)).length
  | [], _, bs, κ0, κ, _ => by rw [genL_nil, prsL_nil, nmOL_nil]; rfl
  | a :: as, ih, [], κ0, κ, _ => by rw [genL_nil2, prsL_nil2, nmOL_nil]; rfl
  | a :: as, ih, b :: bs, κ0, κ, h => by
    rw [prsL_cons, regs_app] at h
    rw [genL_cons, nmOL_cons, prsL_cons, regs_app, ih a (by simp) b κ0 κ ((regs_pre _ _).trans h)]
    exact nmO_genL as (fun x hx => ih x (by simp [hx])) bs _ κ h
theorem nmO_gen : ∀ (a b : Tm) (κ0 κ : KP), regs κ0 (prs a b) <+: κ → addN (List.range κ0.length) (nmO (gen κ a b)) = List.range (regs κ0 (prs a b)).length := by
  have M : ∀ (a b : Tm) (κ0 κ : KP), (∀ κ, gen κ a b = .name (idx κ (a, b))) → prs a b = [(a, b)] → regs κ0 (prs a b) <+: κ → addN (List.range κ0.length) (nmO (gen κ a b)) = List.range (regs κ0 (prs a b)).length := by
    intro a b κ0 κ h1 h2 hp
    rw [h2] at hp ⊢
    rw [h1, nmO]
    have e : regs κ0 [(a, b)] = reg κ0 (a, b) := rfl
    rw [e] at hp ⊢
    unfold reg at hp ⊢
    by_cases m : (a, b) ∈ κ0
    · rw [if_pos m] at hp ⊢
      rw [idx_pre m hp]
      exact add_old (idx_lt m)
    · rw [if_neg m] at hp ⊢
      rw [idx_pre (by simp) hp, idx_new m, List.length_append]
      exact add_new _
  have L : ∀ (a : Tm) (κ0 κ : KP), a.isName = false → a.isTree = false → addN (List.range κ0.length) (nmO (gen κ a a)) = List.range (regs κ0 (prs a a)).length := by
    intro a κ0 κ h1 h2
    rw [gen_leaf h1 h2, prs_leaf h1 h2]
    have : nmO a = [] := by
      cases a with
      | num i => rw [nmO]
      | word i => rw [nmO]
      | name i => cases h1
      | tree f as => cases h2
    rw [this]
    unfold addN
    simp [regs]
  refine Tm.ind ?_ ?_ ?_ ?_
  · intro i b κ0 κ h
    cases way (.num i) b with
    | leaf _ h1 h2 => exact L _ _ _ h1 h2
    | miss _ _ h1 h2 => exact M _ _ _ _ h1 h2 h
  · intro i b κ0 κ h
    cases way (.word i) b with
    | leaf _ h1 h2 => exact L _ _ _ h1 h2
    | miss _ _ h1 h2 => exact M _ _ _ _ h1 h2 h
  · intro i b κ0 κ h
    cases way (.name i) b with
    | leaf _ h1 h2 => exact L _ _ _ h1 h2
    | miss _ _ h1 h2 => exact M _ _ _ _ h1 h2 h
  · intro f as ih b κ0 κ h
    cases way (.tree f as) b with
    | leaf _ h1 h2 => cases h2
    | miss _ _ h1 h2 => exact M _ _ _ _ h1 h2 h
    | tree _ _ bs hl =>
      rw [prs_tree ⟨rfl, hl⟩] at h ⊢
      rw [gen_tree ⟨rfl, hl⟩, nmO_tree]
      exact nmO_genL as (fun a ha b κ0 κ h => ih a ha b κ0 κ h) bs κ0 κ h
theorem nmO_lgg (a b : Tm) : ∃ n, nmO (lgg a b) = List.range n := by
  have := nmO_gen a b [] (regs [] (prs a b)) List.prefix_rfl
  exact ⟨_, by rw [show ([] : KP).length = 0 from rfl, List.range_zero, addN_nil] at this; exact this⟩
end Ev
set_option Elab.async false
set_option linter.all false
set_option maxRecDepth 100000
namespace Ev
open PySem PySem.Spec PyProof.Rows L2 He
noncomputable def q_0 (CM : FId → List W → M W) : MS := sSet 1 (eCall CM (pl "_law_town") (aList [mVar 0]))
noncomputable def q_1 (CM : FId → List W → M W) : MS := sSet 2 (eCall CM (pl "_law_term") (aList [mVar 0, mVar 1, mC (.d (.int 3)), mC (.d (.int 3))]))
noncomputable def q_2 (CM : FId → List W → M W) : MS := sSet 3 (eCall CM (pl "_law_fill") (aList [mVar 2, eDisp [(mC (.d (.int 0)), eCall CM (pl "_law_term") (aList [mVar 0, mVar 1, mC (.d (.int 1)), mC (.d (.int 3))])), (mC (.d (.int 1)), mC (.d (.str "a"))), (mC (.d (.int 2)), eTup (aList [mC (.d (.str "g")), mC (.d (.int 1))]))]]))
noncomputable def q_3 (CM : FId → List W → M W) : MS := sSet 4 (eCall CM (pl "_law_fill") (aList [mVar 2, eDisp [(mC (.d (.int 0)), eCall CM (pl "_law_term") (aList [mVar 0, mVar 1, mC (.d (.int 1)), mC (.d (.int 3))])), (mC (.d (.int 1)), mC (.d (.str "b"))), (mC (.d (.int 2)), eTup (aList [mC (.d (.str "g")), eTup (aList [mC (.d (.str "?")), mC (.d (.int 0))])]))]]))
noncomputable def q_4 (CM : FId → List W → M W) : MS := sIf (tst (eCmp .Eq (eCall CM (pl "_law_draw") (aList [mVar 0, mVar 1, mC (.d (.int 3))])) (mC (.d (.int 0))))) (sBlock [sSet 4 (eCall CM (pl "_law_term") (aList [mVar 0, mVar 1, mC (.d (.int 3)), mC (.d (.int 3))]))]) (sBlock [])
noncomputable def q_5 (CM : FId → List W → M W) : MS := sSet 5 (eCall CM (pl "common") (aList [mVar 3, mVar 4]))
noncomputable def q_6 (CM : FId → List W → M W) : MS := sIf (tOrM (tNotM (tst (eCall CM (pl "is_term") (aList [mVar 5])))) (tOrM (tNotM (tst (eCall CM (pl "covers") (aList [mVar 5, mVar 3])))) (tNotM (tst (eCall CM (pl "covers") (aList [mVar 5, mVar 4])))))) (sBlock [sRet (mC (.d (.bool false)))]) (sBlock [])
noncomputable def q_7 (CM : FId → List W → M W) : MS := sIf (tst (eCmp .NotEq (eCall CM (pl "_law_names") (aList [mVar 5])) (eLstRg (eLen TT CM (eCall CM (pl "_law_names") (aList [mVar 5])))))) (sBlock [sRet (mC (.d (.bool false)))]) (sBlock [])
noncomputable def q_8 (CM : FId → List W → M W) : MS := sSet 6 (eLst (aList [mVar 2, eTup (aList [mC (.d (.str "?")), mC (.d (.int 0))]), eTup (aList [mC (.d (.str "?")), mC (.d (.int 7))])]))
noncomputable def q_9 (CM : FId → List W → M W) : MS := sFor (.n 7) (iFun rng1 (aList [mC (.d (.int 6))])) (sBlock [sExpr (eBM .list appM (mVar 6) (aList [eCall CM (pl "_law_loose") (aList [mVar 0, mVar 1, eCall CM (pl "_law_pick") (aList [mVar 0, mVar 1, eLst (aList [mVar 3, mVar 5])]), eDict0])]))])
noncomputable def q_10 (CM : FId → List W → M W) : MS := sFor (.n 8) (iVal (mVar 6)) (sBlock [sIf (tAndM (tst (eCall CM (pl "covers") (aList [mVar 8, mVar 3]))) (tAndM (tst (eCall CM (pl "covers") (aList [mVar 8, mVar 4]))) (tNotM (tst (eCall CM (pl "covers") (aList [mVar 8, mVar 5])))))) (sBlock [sRet (mC (.d (.bool false)))]) (sBlock [])])
noncomputable def q_11 (CM : FId → List W → M W) : MS := sIf (tOrM (tst (eCmp .IsNot (eCall CM (pl "alike") (aList [eCall CM (pl "common") (aList [mVar 4, mVar 3]), mVar 5])) (mC (.d (.bool true))))) (tst (eCmp .IsNot (eCall CM (pl "alike") (aList [eCall CM (pl "common") (aList [mVar 3, mVar 3]), mVar 3])) (mC (.d (.bool true)))))) (sBlock [sRet (mC (.d (.bool false)))]) (sBlock [])
noncomputable def q_12 (CM : FId → List W → M W) : MS := sIf (tAndM (tst (eCall CM (pl "covers") (aList [mVar 3, mVar 4]))) (tst (eCmp .IsNot (eCall CM (pl "alike") (aList [mVar 5, mVar 3])) (mC (.d (.bool true)))))) (sBlock [sRet (mC (.d (.bool false)))]) (sBlock [])
noncomputable def q_13 (CM : FId → List W → M W) : MS := sRet (eAnd (eCmp .Is (eCall CM (pl "alike") (aList [eCall CM (pl "common") (aList [mVar 5, mVar 3]), mVar 5])) (mC (.d (.bool true)))) (eCmp .Eq (eCall CM (pl "common") (aList [mVar 3, mVar 4])) (mVar 5)))
theorem t_law_q (CM : FId → List W → M W) : t_law CM = sBlock [q_0 CM, q_1 CM, q_2 CM, q_3 CM, q_4 CM, q_5 CM, q_6 CM, q_7 CM, q_8 CM, q_9 CM, q_10 CM, q_11 CM, q_12 CM, q_13 CM] := rfl
end Ev
set_option Elab.async false
set_option linter.all false
set_option maxRecDepth 100000
set_option maxHeartbeats 4000000
namespace Ev
open PySem PySem.Spec PyProof.Rows L2 He
theorem ex_st {s s' : MS} {ss : List MS} {env e : EnvW} {h h1 : AH} {w : W} (q : s env h = .ok (.nx e) h1) (r : ∃ H', sBlock (s' :: ss) e h1 = .ok (.rt w) H') : ∃ H', sBlock (s :: s' :: ss) env h = .ok (.rt w) H' := by
  rw [sBlock_two, q]; exact r
theorem isb_t {b : Bool} {H : AH} : cmp .Is (.d (.bool b)) (.d (.bool true)) H = .ok (.d (.bool b)) H := by
  cases b <;> rfl
theorem isn_t {b : Bool} {H : AH} : cmp .IsNot (.d (.bool b)) (.d (.bool true)) H = .ok (.d (.bool (!b))) H := by
  cases b <;> rfl
theorem size_app_le {σ : Nat → Tm} {m : Nat} (hm : 1 ≤ m) (h : ∀ n, (σ n).size ≤ m) : ∀ t : Tm, (t.app σ).size ≤ t.size * m := by
  refine Tm.ind ?_ ?_ ?_ ?_
  · intro i; simp [Tm.size]; exact hm
  · intro i; simp [Tm.size]; exact hm
  · intro n; simpa [Tm.size] using h n
  · intro f as ih
    rw [Tm.app_tree, Tm.size_tree, Tm.size_tree, Nat.add_mul]
    have : ((as.map (Tm.app σ)).map Tm.size).sum ≤ (as.map Tm.size).sum * m := by
      clear h hm
      induction as with
      | nil => simp
      | cons a as ih2 =>
        have h1 := ih a (by simp)
        have h2 := ih2 fun b hb => ih b (by simp [hb])
        simp only [List.map_cons, List.sum_cons, Nat.add_mul]
        omega
    omega
theorem app_okb {σ : Nat → Tm} (hσ : ∀ n, (σ n).ok = true ∧ (σ n).nb = true) : ∀ t : Tm, t.ok = true → t.nb = true → (t.app σ).ok = true ∧ (t.app σ).nb = true := by
  refine Tm.ind ?_ ?_ ?_ ?_
  · intro x _ h; exact ⟨rfl, h⟩
  · intro x hx h; exact ⟨by simpa using hx, h⟩
  · intro n _ _; simpa using hσ n
  · intro f as ih h hb
    obtain ⟨o1, o2, o3, o4⟩ := Tm.ok_tree.mp h
    have nb := Tm.nb_tree.mp hb
    rw [Tm.app_tree]
    refine ⟨Tm.ok_tree.mpr ⟨o1, by simpa using o2, by simpa using o3, fun b hb => ?_⟩, Tm.nb_tree.mpr fun b hb => ?_⟩
    · obtain ⟨a, ha, rfl⟩ := List.mem_map.mp hb
      exact (ih a ha (o4 a ha) (nb a ha)).1
    · obtain ⟨a, ha, rfl⟩ := List.mem_map.mp hb
      exact (ih a ha (o4 a ha) (nb a ha)).2
/-- the terms of the law -/
structure T5 (t : Tm) : Prop where
  ok : t.ok = true
  nb : t.nb = true
  dp : t.depth ≤ 5
  sz : t.size ≤ 256
  nm : ∀ n, t.has n = true → n < 1000
theorem T5.s {t : Tm} (h : T5 t) : Tsm t := ⟨h.ok, by have := h.dp; omega, by have := h.sz; omega⟩
theorem T5.s7 {t : Tm} (h : T5 t) : Sm7 t := ⟨h.ok, by have := h.dp; omega⟩
theorem T5.of {N : Nat} {u : Tm} (h : Dr N 3 u) (hN : N ≤ 1000) : T5 u := ⟨h.ok, h.nb, by have := h.dp; omega, by have := h.sz; omega, fun n hn => by have := h.nm n hn; omega⟩
theorem T5.fill {N : Nat} {u v : Tm} {y z : Tm} (h : Dr 3 3 u) (hv : Dr N 1 v) (hN : N ≤ 1000) (hy : Dr N 1 y) (hz : Dr N 1 z) : T5 (u.app (fillS [(0, v), (1, y), (2, z)])) := by
  have P : ∀ n, fillS [(0, v), (1, y), (2, z)] n = v ∨ fillS [(0, v), (1, y), (2, z)] n = y ∨ fillS [(0, v), (1, y), (2, z)] n = z ∨ (fillS [(0, v), (1, y), (2, z)] n = .name n ∧ 3 ≤ n) := by
    intro n
    unfold fillS
    match n with
    | 0 => exact .inl rfl
    | 1 => exact .inr (.inl rfl)
    | 2 => exact .inr (.inr (.inl rfl))
    | n + 3 => exact .inr (.inr (.inr ⟨rfl, by omega⟩))
  have D : ∀ n, (fillS [(0, v), (1, y), (2, z)] n).depth ≤ 1 + 1 := fun n => by
    rcases P n with e | e | e | ⟨e, _⟩ <;> rw [e]
    · exact hv.dp
    · exact hy.dp
    · exact hz.dp
    · simp [Tm.depth]
  have S : ∀ n, (fillS [(0, v), (1, y), (2, z)] n).size ≤ 4 := fun n => by
    rcases P n with e | e | e | ⟨e, _⟩ <;> rw [e]
    · exact hv.sz
    · exact hy.sz
    · exact hz.sz
    · simp [Tm.size]
  have O : ∀ n, (fillS [(0, v), (1, y), (2, z)] n).ok = true ∧ (fillS [(0, v), (1, y), (2, z)] n).nb = true := fun n => by
    rcases P n with e | e | e | ⟨e, _⟩ <;> rw [e]
    · exact ⟨hv.ok, hv.nb⟩
    · exact ⟨hy.ok, hy.nb⟩
    · exact ⟨hz.ok, hz.nb⟩
    · exact ⟨rfl, by rw [Tm.nb]⟩
  obtain ⟨o1, o2⟩ := app_okb O u h.ok h.nb
  refine ⟨o1, o2, ?_, ?_, fun n hn => ?_⟩
  · have := depth_app (c := 1) D u; have := h.dp; omega
  · have := size_app_le (m := 4) (by decide) S u; have := h.sz; omega
  · obtain ⟨m, h1, h2⟩ := (Tm.has_app (σ := fillS [(0, v), (1, y), (2, z)]) (n := n) u).mp hn
    have hm := h.nm m h1
    rcases P m with e | e | e | ⟨e, e2⟩
    · rw [e] at h2; have := hv.nm n h2; omega
    · rw [e] at h2; have := hy.nm n h2; omega
    · rw [e] at h2; have := hz.nm n h2; omega
    · omega
theorem idx_le (κ : KP) (p : Tm × Tm) : idx κ p ≤ κ.length := List.idxOf_le_length
theorem gen_nb {κ : KP} : ∀ (a b : Tm), a.nb = true → (gen κ a b).nb = true ∧ ∀ n, (gen κ a b).has n = true → n ≤ κ.length := by
  have M : ∀ a b : Tm, gen κ a b = .name (idx κ (a, b)) → (gen κ a b).nb = true ∧ ∀ n, (gen κ a b).has n = true → n ≤ κ.length := fun a b h => by
    rw [h]
    exact ⟨by rw [Tm.nb], fun n hn => by
      have : idx κ (a, b) = n := by simpa [Tm.has] using hn
      have := idx_le κ (a, b)
      omega⟩
  have L : ∀ a : Tm, a.nb = true → a.isName = false → a.isTree = false → (gen κ a a).nb = true ∧ ∀ n, (gen κ a a).has n = true → n ≤ κ.length := fun a h h1 h2 => by
    rw [gen_leaf h1 h2]
    refine ⟨h, fun n hn => ?_⟩
    cases a with
    | num i => simp [Tm.has] at hn
    | word i => simp [Tm.has] at hn
    | name i => cases h1
    | tree f as => cases h2
  refine Tm.ind ?_ ?_ ?_ ?_
  · intro i b h
    cases way (.num i) b with
    | leaf _ h1 h2 => exact L _ h h1 h2
    | miss _ _ h1 => exact M _ _ (h1 κ)
  · intro i b h
    cases way (.word i) b with
    | leaf _ h1 h2 => exact L _ h h1 h2
    | miss _ _ h1 => exact M _ _ (h1 κ)
  · intro i b h
    cases way (.name i) b with
    | leaf _ h1 h2 => cases h1
    | miss _ _ h1 => exact M _ _ (h1 κ)
  · intro f as ih b h
    cases way (.tree f as) b with
    | leaf _ h1 h2 => cases h2
    | miss _ _ h1 => exact M _ _ (h1 κ)
    | tree _ _ bs hl =>
      have nb := Tm.nb_tree.mp h
      rw [gen_tree ⟨rfl, hl⟩]
      refine ⟨Tm.nb_tree.mpr fun x hx => ?_, fun n hn => ?_⟩
      · obtain ⟨a, ha, b, hb, rfl⟩ := genL_mem as bs hx
        exact (ih a ha b (nb a ha)).1
      · rw [Tm.has_tree, List.any_eq_true] at hn
        obtain ⟨x, hx, hn⟩ := hn
        obtain ⟨a, ha, b, hb, rfl⟩ := genL_mem as bs hx
        exact (ih a ha b (nb a ha)).2 n hn
theorem lgg_t5 {a b : Tm} (ha : T5 a) : T5 (lgg a b) := by
  obtain ⟨h1, h2, h3, h4⟩ := gen_ok (κ := regs [] (prs a b)) a b ha.ok
  obtain ⟨h5, h6⟩ := gen_nb (κ := regs [] (prs a b)) a b ha.nb
  have h7 := regs_len (prs a b) []
  have := ha.dp
  have := ha.sz
  refine ⟨h1, h5, by unfold lgg; omega, by unfold lgg; omega, fun n hn => ?_⟩
  have := h6 n hn
  simp only [List.length_nil] at h7
  omega
/-! ### read -/
theorem r_cov5 {a b : Tm} (ha : Tsm a) (hb : Tsm b) (da : a.depth ≤ 5) (db : b.depth ≤ 5) (h : AH) : call 59 (pl "covers") [.d (enc a), .d (enc b)] h = .ok (.d (.bool (fit a b []).1)) h := r_covers ha hb (by omega)
theorem r_com5 {a b : Tm} (ha : T5 a) (hb : T5 b) (h : AH) : call 59 (pl "common") [.d (enc a), .d (enc b)] h = .ok (.d (enc (lgg a b))) h :=
  r_common ha.s7 hb.s7 (by have := ha.sz; omega) (by have := hb.sz; omega) (by have := ha.dp; have := hb.dp; omega)
theorem r_ali5 {a b : Tm} (ha : T5 a) (hb : T5 b) (h : AH) (c1 : Cov a b) (c2 : Cov b a) : call 59 (pl "alike") [.d (enc a), .d (enc b)] h = .ok (.d (.bool true)) h := by
  have := r_alike ha.s hb.s (k := 59) (h := h) (by have := ha.dp; have := hb.dp; omega)
  rw [cov_fit.mpr c1, cov_fit.mpr c2] at this
  exact this
/-- the six terms made looser -/
noncomputable abbrev bL : MS := sBlock [sExpr (eBM .list appM (mVar 6) (aList [eCall (call 59) (pl "_law_loose") (aList [mVar 0, mVar 1, eCall (call 59) (pl "_law_pick") (aList [mVar 0, mVar 1, eLst (aList [mVar 3, mVar 5])]), eDict0])]))]
theorem loose_loop {ns : List Int} {one told : Tm} {s : Nat} {e2 e4 : Option W} (h1 : T5 one) (h2 : T5 told) (hs2 : 2 < s) : ∀ (n : Nat) (ws : List W), ws.length = n → ∀ (h : AH) (ts : List Int) (us : List Tm) (c : Int) (x : Option W), h[2]? = some (LI ts) → h[s]? = some (.lst (us.map fun u => .d (enc u))) → Tw ns c ts → c + 600 * n ≤ 1000000 → us.length + n ≤ 100 → (∀ u ∈ us, Tsm u ∧ u.depth ≤ 5) →
    ∃ (h' : AH) (us' : List Tm) (y : Option W), floop (.n 7) bL ws [some (.d (dI ns)), some (.r 2), e2, some (.d (enc one)), e4, some (.d (enc told)), some (.r s), x, none] h = .ok (.nx [some (.d (dI ns)), some (.r 2), e2, some (.d (enc one)), e4, some (.d (enc told)), some (.r s), y, none]) h' ∧ h'[s]? = some (.lst (us'.map fun u => .d (enc u))) ∧ (∀ u ∈ us', Tsm u ∧ u.depth ≤ 5)
  | _, [], _, h, ts, us, c, x, ht, hs, T, hc, hl, hu => ⟨h, us, x, rfl, hs, hu⟩
  | n, w :: ws, hn, h, ts, us, c, x, ht, hs, T, hc, hl, hu => by
    obtain ⟨n, rfl⟩ : ∃ m, n = m + 1 := ⟨n - 1, by simp at hn; omega⟩
    have hn : ws.length = n := by simpa using hn
    have tl : 2 < h.length := (List.getElem?_eq_some_iff.mp ht).1
    have sl : s < h.length := (List.getElem?_eq_some_iff.mp hs).1
    obtain ⟨O, eO⟩ : ∃ O : AO, O = .lst ([enc one, enc told].map .d) := ⟨_, rfl⟩
    obtain ⟨d, t1, hd, ep, T1⟩ := r_pickL (k := 57) (ds := [enc one, enc told]) ht T (by omega) (by simp) (by simp)
    have ek : kLst [.d (enc one), .d (enc told)] h = .ok (.r h.length) (h ++ [O]) := by rw [eO]; exact kLst_ap (by simp)
    rw [← eO] at ep
    obtain ⟨u, eu, U⟩ : ∃ u, d = enc u ∧ T5 u := by
      have : d = enc one ∨ d = enc told := by simpa using hd
      rcases this with e | e
      · exact ⟨one, e, h1⟩
      · exact ⟨told, e, h2⟩
    subst eu
    obtain ⟨h1', eh1⟩ : ∃ h1', h1' = h.set 2 (LI t1) ++ [O] := ⟨_, rfl⟩
    rw [← eh1] at ep
    have l1 : h1'.length = h.length + 1 := by rw [eh1]; simp
    have a2 : h1'[2]? = some (LI t1) := by rw [eh1, List.getElem?_append_left (by simpa using tl)]; exact List.getElem?_set_self tl
    have as : h1'[s]? = some (.lst (us.map fun u => .d (enc u))) := by rw [eh1, List.getElem?_append_left (by simpa using sl), List.getElem?_set_ne (by omega)]; exact hs
    have usz := U.sz
    obtain ⟨o, t2, kv, el, L, T2, kl⟩ := r_loose (ns := ns) (g := h1'.length) (by omega) u U.ok U.nb (fun n hn => by have := U.nm n hn; omega) (by have := U.dp; omega) 59 (by have := U.dp; omega) (h1' ++ [.dic []]) t1 [] (c + 1) (by rw [List.getElem?_append_left (by omega)]; exact a2) (by rw [at_l]; rfl) T1 (by omega) (by simp; omega)
    obtain ⟨h2', eh2⟩ : ∃ h2', h2' = lh (h1' ++ [.dic []]) h1'.length t2 kv := ⟨_, rfl⟩
    rw [← eh2] at el
    have b2 : h2'[2]? = some (LI t2) := by
      rw [eh2]
      have := lh_2 (h := h1' ++ [.dic []]) (g := h1'.length) (ts := t2) (kvs := kv) (l := []) (by omega) (by simp)
      rwa [List.append_nil] at this
    have bs : h2'[s]? = some (.lst (us.map fun u => .d (enc u))) := by
      rw [eh2]
      unfold lh
      rw [List.getElem?_set_ne (by omega), List.getElem?_set_ne (by omega), List.getElem?_append_left (by omega)]
      exact as
    have uT : Tsm o ∧ o.depth ≤ 5 := ⟨⟨L.ok, by have := L.dp; have := U.dp; omega, by have := L.sz; have := U.sz; omega⟩, by have := L.dp; have := U.dp; omega⟩
    have apm : appM (.r s) [.d (enc o)] h2' = .ok (.d .none) (h2'.set s (.lst ((us ++ [o]).map fun u => .d (enc u)))) := by
      unfold appM
      simp only [bs]
      rw [if_pos (Nat.lt_of_lt_of_le (show (us.map fun u => W.d (enc u)).length < 1000 by simp; omega) (by decide))]
      simp
    have chk : BT.chk h .list (.r s) = true := by simp [BT.chk, hs]
    have sl2 : s < h2'.length := (List.getElem?_eq_some_iff.mp bs).1
    obtain ⟨h', us', y, e, r1, r2⟩ := loose_loop (e2 := e2) (e4 := e4) h1 h2 hs2 n ws hn (h2'.set s (.lst ((us ++ [o]).map fun u => .d (enc u)))) t2 (us ++ [o]) (c + 1 + 2 * u.size) (some w) (by rw [List.getElem?_set_ne (by omega)]; exact b2) (List.getElem?_set_self sl2) T2 (by omega) (by simp; omega) (fun v hv => by
      rcases List.mem_append.mp hv with q | q
      · exact hu v q
      · have : v = o := by simpa using q
        rw [this]; exact uT)
    refine ⟨h', us', y, ?_, r1, r2⟩
    rw [floop_n]
    have hb : bL [some (.d (dI ns)), some (.r 2), e2, some (.d (enc one)), e4, some (.d (enc told)), some (.r s), some w, none] h = .ok (.nx [some (.d (dI ns)), some (.r 2), e2, some (.d (enc one)), e4, some (.d (enc told)), some (.r s), some w, none]) (h2'.set s (.lst ((us ++ [o]).map fun u => .d (enc u)))) := by
      have ed : ∀ E : EnvW, eDict0 E h1' = .ok (.r h1'.length) (h1' ++ [.dic []]) := fun E => rfl
      have args : aList [eCall (call 59) (pl "_law_loose") (aList [mVar 0, mVar 1, eCall (call 59) (pl "_law_pick") (aList [mVar 0, mVar 1, eLst (aList [mVar 3, mVar 5])]), eDict0])] [some (.d (dI ns)), some (.r 2), e2, some (.d (enc one)), e4, some (.d (enc told)), some (.r s), some w, none] h = .ok [.d (enc o)] h2' := by
        simp [ek, ep, ed, el]
      have kb : kB .list appM (aList [eCall (call 59) (pl "_law_loose") (aList [mVar 0, mVar 1, eCall (call 59) (pl "_law_pick") (aList [mVar 0, mVar 1, eLst (aList [mVar 3, mVar 5])]), eDict0])]) [some (.d (dI ns)), some (.r 2), e2, some (.d (enc one)), e4, some (.d (enc told)), some (.r s), some w, none] (.r s) h = .ok (.d .none) (h2'.set s (.lst ((us ++ [o]).map fun u => .d (enc u)))) := by
        unfold kB
        rw [chk]
        simp only [if_true]
        rw [mbind_ap, args, mb_ok, apm]
      rw [bL, sBlock_one, sExpr_ap, eBM_ap]
      simp only [mVar_0, mVar_s, mb_ok, kb, kNx_ap]
    rw [show ([some (.d (dI ns)), some (.r 2), e2, some (.d (enc one)), e4, some (.d (enc told)), some (.r s), x, none] : EnvW).set 7 (some w) = [some (.d (dI ns)), some (.r 2), e2, some (.d (enc one)), e4, some (.d (enc told)), some (.r s), some w, none] from rfl, hb, mb_ok, kLoop_nx, e]
noncomputable abbrev bT : MS := sBlock [sIf (tAndM (tst (eCall (call 59) (pl "covers") (aList [mVar 8, mVar 3]))) (tAndM (tst (eCall (call 59) (pl "covers") (aList [mVar 8, mVar 4]))) (tNotM (tst (eCall (call 59) (pl "covers") (aList [mVar 8, mVar 5])))))) (sBlock [sRet (mC (.d (.bool false)))]) (sBlock [])]
theorem third_loop {one two : Tm} {e0 e1 e2 e6 e7 : Option W} {h : AH} (h1 : T5 one) (h2 : T5 two) : ∀ (us : List Tm), (∀ u ∈ us, Tsm u ∧ u.depth ≤ 5) → ∀ x : Option W, ∃ y, floop (.n 8) bT (us.map fun u => .d (enc u)) [e0, e1, e2, some (.d (enc one)), some (.d (enc two)), some (.d (enc (lgg one two))), e6, e7, x] h = .ok (.nx [e0, e1, e2, some (.d (enc one)), some (.d (enc two)), some (.d (enc (lgg one two))), e6, e7, y]) h
  | [], _, x => ⟨x, rfl⟩
  | u :: us, hu, x => by
    obtain ⟨u1, u2⟩ := hu u (by simp)
    have h3 := lgg_t5 (b := two) h1
    obtain ⟨y, ih⟩ := third_loop (e0 := e0) (e1 := e1) (e2 := e2) (e6 := e6) (e7 := e7) (h := h) h1 h2 us (fun v hv => hu v (by simp [hv])) (some (.d (enc u)))
    refine ⟨y, ?_⟩
    have f1 := r_cov5 u1 h1.s u2 h1.dp h
    have f2 := r_cov5 u1 h2.s u2 h2.dp h
    have f3 := r_cov5 u1 h3.s u2 h3.dp h
    rw [List.map_cons, floop_n]
    have hb1 : bT [e0, e1, e2, some (.d (enc one)), some (.d (enc two)), some (.d (enc (lgg one two))), e6, e7, some (.d (enc u))] h = .ok (.nx [e0, e1, e2, some (.d (enc one)), some (.d (enc two)), some (.d (enc (lgg one two))), e6, e7, some (.d (enc u))]) h := by
      cases q1 : (fit u one []).1 with
      | false => rw [q1] at f1; simp [bT, f1]
      | true =>
        rw [q1] at f1
        cases q2 : (fit u two []).1 with
        | false => rw [q2] at f2; simp [bT, f1, f2]
        | true =>
          rw [q2] at f2
          rw [cov_fit.mpr (lgg_most (cov_fit.mp q1) (cov_fit.mp q2))] at f3
          simp [bT, f1, f2, f3]
    rw [show ([e0, e1, e2, some (.d (enc one)), some (.d (enc two)), some (.d (enc (lgg one two))), e6, e7, x] : EnvW).set 8 (some (.d (enc u))) = [e0, e1, e2, some (.d (enc one)), some (.d (enc two)), some (.d (enc (lgg one two))), e6, e7, some (.d (enc u))] from rfl, hb1, mb_ok, kLoop_nx, ih]
end Ev
set_option Elab.async false
set_option linter.all false
set_option maxRecDepth 100000
set_option maxHeartbeats 4000000
namespace Ev
open PySem PySem.Spec PyProof.Rows L2 He
theorem dr_a : Dr 3 1 (.word "a") := dr_word wa_ok
theorem dr_b : Dr 3 1 (.word "b") := dr_word (w4_ok "b" (by decide))
theorem dr_g1 : Dr 3 1 (.tree "g" [.num 1]) := dr_tree (d := 0) (w3_ok "g" (by decide)) (by simp) (by simp) fun u hu => by
  have : u = .num 1 := by simpa using hu
  rw [this]; exact dr_num (by decide)
theorem dr_g0 : Dr 3 1 (.tree "g" [.name 0]) := dr_tree (d := 0) (w3_ok "g" (by decide)) (by simp) (by simp) fun u hu => by
  have : u = .name 0 := by simpa using hu
  rw [this]; exact dr_name (by decide)
theorem merge3 {a b c : PyData} : mergeWW [((.inl 0 : Key), W.d a), (.inl 1, .d b), (.inl 2, .d c)] = [(.int 0, .d a), (.int 1, .d b), (.int 2, .d c)] := by
  simp [mergeWW, putDW, keyIsD, keyD]
theorem disp3 {env : EnvW} {H H' : AH} {m1 m2 m3 : ME} {a b c : PyData} (h1 : m1 env (H ++ [.dic []]) = .ok (.d a) (H' ++ [.dic []])) (h2 : m2 env (H' ++ [.dic []]) = .ok (.d b) (H' ++ [.dic []])) (h3 : m3 env (H' ++ [.dic []]) = .ok (.d c) (H' ++ [.dic []])) (hl : H'.length = H.length) :
    eDisp [(mC (.d (.int 0)), m1), (mC (.d (.int 1)), m2), (mC (.d (.int 2)), m3)] env H = .ok (.r H.length) (H' ++ [.dic [(.int 0, .d a), (.int 1, .d b), (.int 2, .d c)]]) := by
  unfold eDisp
  have ep : ePairs [(mC (.d (.int 0)), m1), (mC (.d (.int 1)), m2), (mC (.d (.int 2)), m3)] env (H ++ [.dic []]) = .ok [((.inl 0 : Key), .d a), (.inl 1, .d b), (.inl 2, .d c)] (H' ++ [.dic []]) := by
    simp [ePairs, kPair, keyOf, mbind_ap, h1, h2, h3]
  rw [ep]
  simp only [← hl, at_l, List.getElem?_cons_zero]
  rw [if_pos (by simp), merge3, List.set_append_right _ _ (Nat.le_refl _)]
  simp
theorem law_true (ns : List Int) (hn : ns.length ≤ 63) : ∃ h, callM TT (lookE ents) 40 60 (pl "law") [.d (.list (ns.map PyData.int))] [] = .ok (.d (.bool true)) h := by
  refine ⟨[], ?_⟩
  show call (59 + 1) (pl "law") [.d (dI ns)] [] = _
  rw [c_law]
  have a1 := r_town (k := 58) hn
  have sz2 : (2 : Nat) ≤ sizeLine := by decide
  -- base
  obtain ⟨base, t1, e1, D1, T1⟩ := r_term (N := 3) (by decide) (by decide) (ns := ns) (t := 2) 3 59 (by omega) [LI [0], LI ns, LI (0 :: ns)] (0 :: ns) 0 rfl ⟨by simp, by simp, by simp⟩ (by decide)
  have e1' : call 59 (pl "_law_term") [.d (dI ns), .r 2, .d (.int 3), .d (.int 3)] [LI [0], LI ns, LI (0 :: ns)] = .ok (.d (enc base)) [LI [0], LI ns, LI t1] := e1
  -- one
  obtain ⟨u1, t2, e2, D2, T2⟩ := r_term (N := 3) (by decide) (by decide) (ns := ns) (t := 2) 1 59 (by omega) [LI [0], LI ns, LI t1, .dic []] t1 _ rfl T1 (by decide)
  have e2' : call 59 (pl "_law_term") [.d (dI ns), .r 2, .d (.int 1), .d (.int 3)] ([LI [0], LI ns, LI t1] ++ [.dic []]) = .ok (.d (enc u1)) ([LI [0], LI ns, LI t2] ++ [.dic []]) := e2
  obtain ⟨nu1, en1⟩ : ∃ nu : FT, nu = [(0, u1), (1, .word "a"), (2, .tree "g" [.num 1])] := ⟨_, rfl⟩
  obtain ⟨H1, eH1⟩ : ∃ H : AH, H = [LI [0], LI ns, LI t2] ++ [dD nu1] := ⟨_, rfl⟩
  have d1 : ∀ env : EnvW, env[0]? = some (some (.d (dI ns))) → env[1]? = some (some (.r 2)) → eDisp [(mC (.d (.int 0)), eCall (call 59) (pl "_law_term") (aList [mVar 0, mVar 1, mC (.d (.int 1)), mC (.d (.int 3))])), (mC (.d (.int 1)), mC (.d (.str "a"))), (mC (.d (.int 2)), eTup (aList [mC (.d (.str "g")), mC (.d (.int 1))]))] env [LI [0], LI ns, LI t1] = .ok (.r 3) H1 := fun env q0 q1 => by
    have v0 : ∀ H : AH, mVar 0 env H = .ok (.d (dI ns)) H := fun H => by unfold mVar; rw [q0]
    have v1 : ∀ H : AH, mVar 1 env H = .ok (.r 2) H := fun H => by unfold mVar; rw [q1]
    have := disp3 (env := env) (H := [LI [0], LI ns, LI t1]) (H' := [LI [0], LI ns, LI t2]) (m1 := eCall (call 59) (pl "_law_term") (aList [mVar 0, mVar 1, mC (.d (.int 1)), mC (.d (.int 3))])) (m2 := mC (.d (.str "a"))) (m3 := eTup (aList [mC (.d (.str "g")), mC (.d (.int 1))])) (a := enc u1) (b := .str "a") (c := .tuple [.str "g", .int 1])
      (by rw [eCall_ap]; simp only [aList_cons, v0, v1, mb_ok, kL1_ap, mC_ap, aList_nil, kL2_ap]; exact e2') rfl (by simp [kTup, allD, sz2]) rfl
    rw [this, eH1, en1]
    rfl
  have f1 := q_fill (w := .r 3) (kvs := nu1) base D1.ok 59 (by have := D1.dp; omega) H1 (.inr ⟨3, rfl, by rw [eH1]; rfl⟩)
  obtain ⟨one, eone⟩ : ∃ o, o = base.app (fillS nu1) := ⟨_, rfl⟩
  rw [← eone] at f1
  have O1 : T5 one := by rw [eone, en1]; exact T5.fill D1 D2 (by decide) dr_a dr_g1
  -- two
  obtain ⟨u2, t3, e3, D3, T3⟩ := r_term (N := 3) (by decide) (by decide) (ns := ns) (t := 2) 1 59 (by omega) [LI [0], LI ns, LI t2, dD nu1, .dic []] t2 _ rfl T2 (by decide)
  have e3' : call 59 (pl "_law_term") [.d (dI ns), .r 2, .d (.int 1), .d (.int 3)] (H1 ++ [.dic []]) = .ok (.d (enc u2)) ([LI [0], LI ns, LI t3, dD nu1] ++ [.dic []]) := by rw [eH1]; exact e3
  obtain ⟨nu2, en2⟩ : ∃ nu : FT, nu = [(0, u2), (1, .word "b"), (2, .tree "g" [.name 0])] := ⟨_, rfl⟩
  obtain ⟨H2, eH2⟩ : ∃ H : AH, H = [LI [0], LI ns, LI t3, dD nu1] ++ [dD nu2] := ⟨_, rfl⟩
  have d2 : ∀ env : EnvW, env[0]? = some (some (.d (dI ns))) → env[1]? = some (some (.r 2)) → eDisp [(mC (.d (.int 0)), eCall (call 59) (pl "_law_term") (aList [mVar 0, mVar 1, mC (.d (.int 1)), mC (.d (.int 3))])), (mC (.d (.int 1)), mC (.d (.str "b"))), (mC (.d (.int 2)), eTup (aList [mC (.d (.str "g")), eTup (aList [mC (.d (.str "?")), mC (.d (.int 0))])]))] env H1 = .ok (.r 4) H2 := fun env q0 q1 => by
    have v0 : ∀ H : AH, mVar 0 env H = .ok (.d (dI ns)) H := fun H => by unfold mVar; rw [q0]
    have v1 : ∀ H : AH, mVar 1 env H = .ok (.r 2) H := fun H => by unfold mVar; rw [q1]
    have l1 : H1.length = 4 := by rw [eH1]; rfl
    have := disp3 (env := env) (H := H1) (H' := [LI [0], LI ns, LI t3, dD nu1]) (m1 := eCall (call 59) (pl "_law_term") (aList [mVar 0, mVar 1, mC (.d (.int 1)), mC (.d (.int 3))])) (m2 := mC (.d (.str "b"))) (m3 := eTup (aList [mC (.d (.str "g")), eTup (aList [mC (.d (.str "?")), mC (.d (.int 0))])])) (a := enc u2) (b := .str "b") (c := .tuple [.str "g", .tuple [.str "?", .int 0]])
      (by rw [eCall_ap]; simp only [aList_cons, v0, v1, mb_ok, kL1_ap, mC_ap, aList_nil, kL2_ap]; exact e3') rfl (by simp [kTup, allD, sz2]) (by rw [l1]; rfl)
    rw [this, eH2, en2, l1]
    rfl
  have f2 := q_fill (w := .r 4) (kvs := nu2) base D1.ok 59 (by have := D1.dp; omega) H2 (.inr ⟨4, rfl, by rw [eH2]; rfl⟩)
  obtain ⟨two0, etwo⟩ : ∃ o, o = base.app (fillS nu2) := ⟨_, rfl⟩
  rw [← etwo] at f2
  have O2 : T5 two0 := by rw [etwo, en2]; exact T5.fill D1 D3 (by decide) dr_b dr_g0
  -- two, perhaps another one
  obtain ⟨v, t4, e4, v0, v1, T4⟩ := r_draw (k := 58) (ns := ns) (t := 2) (m := 3) (h := H2) (ts := t3) (by rw [eH2]; rfl) T3 (by decide) (by decide) (by decide)
  have e4' : call 59 (pl "_law_draw") [.d (dI ns), .r 2, .d (.int 3)] H2 = .ok (.d (.int v)) (H2.set 2 (LI t4)) := e4
  have step4 : ∃ (two : Tm) (t5 : List Int), T5 two ∧ Tw ns 2000 t5 ∧ ∀ e5 e6 e7 e8 : Option W, q_4 (call 59) [some (.d (dI ns)), some (.r 2), some (.d (enc base)), some (.d (enc one)), some (.d (enc two0)), e5, e6, e7, e8] H2 = .ok (.nx [some (.d (dI ns)), some (.r 2), some (.d (enc base)), some (.d (enc one)), some (.d (enc two)), e5, e6, e7, e8]) (H2.set 2 (LI t5)) := by
    have hv : ∀ H : AH, cmp .Eq (.d (.int v)) (.d (.int 0)) H = .ok (.d (.bool (decide (v = 0)))) H := fun H => eq_i
    by_cases z : v = 0
    · rw [decide_eq_true z] at hv
      obtain ⟨two, t5, e5, D5, T5'⟩ := r_term (N := 3) (by decide) (by decide) (ns := ns) (t := 2) 3 59 (by omega) (H2.set 2 (LI t4)) t4 _ (List.getElem?_set_self (by rw [eH2]; simp)) T4 (by decide)
      rw [List.set_set] at e5
      have e5' : call 59 (pl "_law_term") [.d (dI ns), .r 2, .d (.int 3), .d (.int 3)] (H2.set 2 (LI t4)) = .ok (.d (enc two)) (H2.set 2 (LI t5)) := e5
      refine ⟨two, t5, T5.of D5 (by decide), T5'.up (by decide), fun _ _ _ _ => ?_⟩
      unfold q_4
      simp [e4', hv, e5']
    · rw [decide_eq_false z] at hv
      refine ⟨two0, t4, O2, T4.up (by decide), fun _ _ _ _ => ?_⟩
      unfold q_4
      simp [e4', hv]
  obtain ⟨two, t5, O3, T6, e6⟩ := step4
  obtain ⟨H, eH⟩ : ∃ H : AH, H = H2.set 2 (LI t5) := ⟨_, rfl⟩
  rw [← eH] at e6
  have aH : H[2]? = some (LI t5) := by rw [eH]; exact List.getElem?_set_self (by rw [eH2]; simp)
  have lH : H.length = 5 := by rw [eH, eH2]; rfl
  -- told
  have c5 := fun h => r_com5 O1 O3 h
  obtain ⟨told, etold⟩ : ∃ t, t = lgg one two := ⟨_, rfl⟩
  have O4 : T5 told := by rw [etold]; exact lgg_t5 O1
  have cl : Cov told one := by rw [etold]; exact lgg_l _ _
  have cr : Cov told two := by rw [etold]; exact lgg_r _ _
  have it := fun h => r_is_term (k := 59) (h := h) O4.ok (by have := O4.sz; omega) (by have := O4.dp; omega)
  have k1 := fun h => r_cov5 O4.s O1.s O4.dp O1.dp h
  have k2 := fun h => r_cov5 O4.s O3.s O4.dp O3.dp h
  simp only [cov_fit.mpr cl] at k1
  simp only [cov_fit.mpr cr] at k2
  rw [← etold] at c5
  -- names
  obtain ⟨m, em⟩ := nmO_lgg one two
  rw [← etold] at em
  obtain ⟨nm, nml⟩ := l_names3 told O4.ok (by have := O4.sz; omega) 59 (by have := O4.dp; omega)
  rw [em] at nm nml
  have ml : m ≤ 256 := by have := O4.sz; simp at nml; omega
  obtain ⟨is, eis⟩ : ∃ is : List Int, is = cs (List.range m) := ⟨_, rfl⟩
  rw [← eis] at nm
  have isl : is.length = m := by rw [eis]; simp [cs]
  have rgW : rangeW m = (is.map PyData.int).map W.d := by
    rw [eis]; unfold rangeW cs; simp [List.map_map, Function.comp_def]
  have lr : ∀ h : AH, lstRgM (.d (.int m)) h = .ok (.r h.length) (h ++ [LI is]) := fun h => by
    unfold lstRgM
    simp only
    rw [if_pos (by omega), Int.toNat_natCast, rgW]
    rfl
  have ne : ∀ h : AH, cmp .NotEq (.d (dI is)) (.r h.length) (h ++ [LI is]) = .ok (.d (.bool false)) (h ++ [LI is]) := fun h =>
    ne_same (ds := is.map PyData.int) rfl (peek_r at_l) sh_ints
  have q7 : ∀ e6 e7 e8 : Option W, q_7 (call 59) [some (.d (dI ns)), some (.r 2), some (.d (enc base)), some (.d (enc one)), some (.d (enc two)), some (.d (enc told)), e6, e7, e8] H = .ok (.nx [some (.d (dI ns)), some (.r 2), some (.d (enc base)), some (.d (enc one)), some (.d (enc two)), some (.d (enc told)), e6, e7, e8]) (H ++ [LI is]) := fun e6 e7 e8 => by
    have fl : ∀ h : AH, fLen [.d (dI is)] h = .ok (.d (.int m)) h := fun h => by
      unfold dI; simp [fLen, isl]
    unfold q_7
    simp [nm, fl, lr, ne]
  obtain ⟨J, eJ⟩ : ∃ J : AH, J = H ++ [LI is] := ⟨_, rfl⟩
  have lJ : J.length = 6 := by rw [eJ]; simp [lH]
  have aJ : J[2]? = some (LI t5) := by rw [eJ, List.getElem?_append_left (by omega)]; exact aH
  rw [← eJ] at q7
  -- the list of third ones
  obtain ⟨us, eus⟩ : ∃ us : List Tm, us = [base, .name 0, .name 7] := ⟨_, rfl⟩
  have hus : ∀ u ∈ us, Tsm u ∧ u.depth ≤ 5 := fun u hu => by
    rw [eus] at hu
    simp only [List.mem_cons, List.not_mem_nil, or_false] at hu
    rcases hu with rfl | rfl | rfl
    · exact ⟨(T5.of D1 (by decide)).s, (T5.of D1 (by decide)).dp⟩
    · exact ⟨⟨rfl, by simp [Tm.depth], by simp [Tm.size]⟩, by simp [Tm.depth]⟩
    · exact ⟨⟨rfl, by simp [Tm.depth], by simp [Tm.size]⟩, by simp [Tm.depth]⟩
  obtain ⟨L, eL⟩ : ∃ L : AH, L = J ++ [.lst (us.map fun u => .d (enc u))] := ⟨_, rfl⟩
  have kl : kLst [.d (enc base), .d (.tuple [.str "?", .int 0]), .d (.tuple [.str "?", .int 7])] J = .ok (.r 6) L := by
    rw [kLst_ap (by simp), lJ, eL, eus]
    rfl
  obtain ⟨L', us', y, lp, lp1, lp2⟩ := loose_loop (ns := ns) (one := one) (told := told) (s := 6) (e2 := some (.d (enc base))) (e4 := some (.d (enc two))) O1 O4 (by decide) 6 (rangeL 0 6) (rangeL_len) L t5 us 2000 none (by rw [eL, List.getElem?_append_left (by omega)]; exact aJ) (by rw [eL, ← lJ, at_l]; rfl) T6 (by decide) (by rw [eus]; simp) hus
  have rg : ∀ h : AH, rng1 [.d (.int 6)] h = .ok (rangeL 0 6, none) h := fun h => r_rng1 (m := 6) (by decide)
  obtain ⟨z, tl⟩ := third_loop (one := one) (two := two) (e0 := some (.d (dI ns))) (e1 := some (.r 2)) (e2 := some (.d (enc base))) (e6 := some (.r 6)) (e7 := y) (h := L'.set 6 .dead) O1 O3 us' lp2 none
  rw [← etold] at tl
  -- alike
  have al1 := r_ali5 (a := lgg two one) (b := told) (lgg_t5 O3) O4 L' (by rw [etold]; exact lgg_most (lgg_r _ _) (lgg_l _ _)) (lgg_most cr cl)
  have al2 := r_ali5 (a := lgg one one) (b := one) (lgg_t5 O1) O1 L' (lgg_l _ _) (lgg_most (cov_refl one) (cov_refl one))
  have al3 := r_ali5 (a := lgg told one) (b := told) (lgg_t5 O4) O4 L' (lgg_l _ _) (lgg_most (cov_refl told) cl)
  have c21 := r_com5 O3 O1 L'
  have c11 := r_com5 O1 O1 L'
  have ct1 := r_com5 O4 O1 L'
  have q12 := r_cov5 O1.s O3.s O1.dp O3.dp L'
  have eqt := eq_enc (a := told) (b := told) (h := L') O4.ok O4.ok (by have := O4.dp; omega) (by have := O4.dp; omega)
  rw [decide_eq_true rfl] at eqt
  have full : ∃ H', t_law (call 59) [some (.d (dI ns)), none, none, none, none, none, none, none, none] [] = .ok (.rt (.d (.bool true))) H' := by
    rw [t_law_q]
    refine ex_st (e := [some (.d (dI ns)), some (.r 2), none, none, none, none, none, none, none]) (h1 := [LI [0], LI ns, LI (0 :: ns)]) (by unfold q_0; simp [a1]) ?_
    refine ex_st (e := [some (.d (dI ns)), some (.r 2), some (.d (enc base)), none, none, none, none, none, none]) (h1 := [LI [0], LI ns, LI t1]) (by unfold q_1; simp [e1']) ?_
    refine ex_st (e := [some (.d (dI ns)), some (.r 2), some (.d (enc base)), some (.d (enc one)), none, none, none, none, none]) (h1 := H1) (by
      have := d1 [some (.d (dI ns)), some (.r 2), some (.d (enc base)), none, none, none, none, none, none] rfl rfl
      unfold q_2; simp [this, f1]) ?_
    refine ex_st (e := [some (.d (dI ns)), some (.r 2), some (.d (enc base)), some (.d (enc one)), some (.d (enc two0)), none, none, none, none]) (h1 := H2) (by
      have := d2 [some (.d (dI ns)), some (.r 2), some (.d (enc base)), some (.d (enc one)), none, none, none, none, none] rfl rfl
      unfold q_3; simp [this, f2]) ?_
    refine ex_st (e6 none none none none) ?_
    refine ex_st (e := [some (.d (dI ns)), some (.r 2), some (.d (enc base)), some (.d (enc one)), some (.d (enc two)), some (.d (enc told)), none, none, none]) (h1 := H) (by unfold q_5; simp [c5]) ?_
    refine ex_st (e := [some (.d (dI ns)), some (.r 2), some (.d (enc base)), some (.d (enc one)), some (.d (enc two)), some (.d (enc told)), none, none, none]) (h1 := H) (by unfold q_6; simp [it, k1, k2]) ?_
    refine ex_st (q7 none none none) ?_
    refine ex_st (e := [some (.d (dI ns)), some (.r 2), some (.d (enc base)), some (.d (enc one)), some (.d (enc two)), some (.d (enc told)), some (.r 6), none, none]) (h1 := L) (by unfold q_8; simp [kTup, allD, sz2, kl]) ?_
    refine ex_st (e := [some (.d (dI ns)), some (.r 2), some (.d (enc base)), some (.d (enc one)), some (.d (enc two)), some (.d (enc told)), some (.r 6), y, none]) (h1 := L') (by
      unfold q_9
      rw [sFor_ap, iFun_ap, show aList [mC (.d (.int 6))] [some (.d (dI ns)), some (.r 2), some (.d (enc base)), some (.d (enc one)), some (.d (enc two)), some (.d (enc told)), some (.r 6), none, none] L = .ok [.d (.int 6)] L from by simp, mb_ok, rg, mb_ok, kFor_ap]
      exact lp) ?_
    refine ex_st (e := [some (.d (dI ns)), some (.r 2), some (.d (enc base)), some (.d (enc one)), some (.d (enc two)), some (.d (enc told)), some (.r 6), y, z]) (h1 := L') (by
      unfold q_10
      rw [sFor_ap, show iVal (mVar 6) [some (.d (dI ns)), some (.r 2), some (.d (enc base)), some (.d (enc one)), some (.d (enc two)), some (.d (enc told)), some (.r 6), y, none] L' = .ok (us'.map (fun u => W.d (enc u)), some 6) L' from by simp [srcM, lp1], mb_ok]
      unfold kFor over
      simp only
      rw [tl]
      simp only [List.set_set]
      rw [set_same lp1]) ?_
    refine ex_st (e := [some (.d (dI ns)), some (.r 2), some (.d (enc base)), some (.d (enc one)), some (.d (enc two)), some (.d (enc told)), some (.r 6), y, z]) (h1 := L') (by unfold q_11; simp [c21, al1, c11, al2, isn_t]) ?_
    refine ex_st (e := [some (.d (dI ns)), some (.r 2), some (.d (enc base)), some (.d (enc one)), some (.d (enc two)), some (.d (enc told)), some (.r 6), y, z]) (h1 := L') (by
      unfold q_12
      cases q : (fit one two []).1 with
      | false => rw [q] at q12; simp [q12]
      | true =>
        rw [q] at q12
        have al4 := r_ali5 O4 O1 L' cl (by rw [etold]; exact lgg_most (cov_refl one) (cov_fit.mp q))
        simp [q12, al4, isn_t]) ?_
    refine ⟨L', ?_⟩
    unfold q_13
    simp [ct1, al3, isb_t, c5, eqt]
  obtain ⟨H9, e⟩ := full
  show endM [] (t_law (call 59) [some (.d (dI ns)), none, none, none, none, none, none, none, none] []) = _
  rw [e]
  exact end_d (h := []) (j := H9)
end Ev
set_option Elab.async false
set_option linter.all false
set_option maxRecDepth 100000
set_option maxHeartbeats 0
namespace Ev
open PySem PySem.Spec PyProof.Rows L2 He
abbrev RR : PySem.W.OpenRow := PySem.W.OpenLaw.row ROW
def loose : List Str := (["ToldError", "BadTerm", "LETTERS", "MOST_PARTS", "is_int", "is_word", "is_name", "count_parts", "is_term", "look_term", "is_tree", "fit_to", "fits", "covers", "alike", "common_of", "common", "_law_town", "_law_draw", "_law_pick", "_law_term", "_law_is_name", "_law_is_tree", "_law_names", "_law_fill", "_law_shown", "_law_loose"] : List PySem.Str)
def ob (s : PySem.W.SharedT) : AlE := obsEG 5 hd (HandSHeadRun.getT s)
theorem ob_eq (s : PySem.W.SharedT) : ob s = (hookE 5 hd).obs s.abs := obsEG_eq (HandSHeadRun.getT_eq s)
theorem run (w : World) : HandSHeadRun.RunEq RR (PySem.W.view RR.prog [31]) (hookE 5 hd) ob 20000 loose w := by
  intro os
  kernel_rfl
end Ev
open PySem PySem.W PySem.Calls PyProof.Rows
theorem PySem.Challenge.cw_toldnames_k11_whole_common_holds : PySem.Challenge.rw_toldnames_k11_whole_common.Holds := by
  w_on; o_law
  refine HandSHeadRun.head_any (r := OpenLaw.row PySem.Challenge.rw_toldnames_k11_whole_common) (q := view (OpenLaw.row PySem.Challenge.rw_toldnames_k11_whole_common).prog [31]) (H := Ev.hookE 5 Ev.hd) (ob := Ev.ob) (M := 20000) (loose := Ev.loose) (d := HandSHeadRun.topDef (OpenLaw.row PySem.Challenge.rw_toldnames_k11_whole_common).prog 31) (kwd := []) Ev.ob_eq
    (by kernel_rfl) (fun s => by kernel_rfl) Ev.run (by kernel_rfl) (by kernel_rfl) (by kernel_rfl) (by rfl) (by first | assumption | decide +kernel) (by decide +kernel) ⟨rfl, rfl, rfl, rfl, rfl, by decide +kernel⟩ ?hw ?hc
  case hw => w_witness2
  case hc =>
    exact Ev.law_of (l := PySem.Challenge.rw_toldnames_k11_whole_common) (n := 63) (k := 59) (dp := 40) (e := Ev.e_law) Ev.goods rfl (by decide) (by kernel_rfl) ⟨rfl, by decide, by decide⟩ (by kernel_rfl) (by decide +kernel) rfl rfl
      (fun K a fd F s u => L2.FunD.bindsA (ps := ["script"]) F (fun _ _ _ _ _ _ us hl => match us, hl with | [_], _ => rfl) s [u] rfl) Ev.law_true
