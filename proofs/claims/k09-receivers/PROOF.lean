import PyProof.Rows.All
import Wide.All
import OpenK.AllK
import Wide.FinOn
import HandS.ForMost
import HandS.ForExc
import HandS.TupAny
import HandS.IsInst
import HandS.CallSlots
import HandS.Defaults
import HandS.Wide
import HandS.More
import HandS.TupMul
import HandS.Deep
import HandS.TupLe
import HandS.Style
import HandS.Flow
import HandS.Zip
import KE.GoesMore
import KE.GoesEnum
import HandS.ExcInit
import HandS.ExcField
import HandS.FStr
import HandS.Property
import HandS.SlotsOwn
import HandS.OwnEq
import PyProof.P3Eq
import HandS.TryOnly
import HandS.Head0
import HandS.Head1
import HandS.Head2
import HandS.HeadEnd
import HandS.HeadHook1
import HandS.HeadHook2
import HandS.HeadHook3
import HandS.HeadHook4
import PySem.Challenge.RW_beamframes_k09_receivers
set_option Elab.async false
set_option linter.all false
set_option maxRecDepth 100000
set_option maxHeartbeats 4000000
/-! The data layer: Python values as trees D over the layer L2. -/
namespace DL
open PySem L2

/-- a value of Python as a tree; loc: a mutable thing, by its number in the store -/
inductive D where
  | non | bl (b : Bool) | int (i : Int) | str (x : Str)
  | lst (xs : List D) | tup (xs : List D) | dic (ks : List Key) (vs : List D)
  | rat (n d : Int) | loc (n : Nat) | exc (c : Nat) (v : D) | scr

/-- a mutable thing -/
inductive MO where
  | dead
  | lst (xs : List D)
  | dic (kds : List (Key × D))
  | obj (c : Nat) (fs : List (Str × D))
  | hold (o : HO)
abbrev MS := List MO

/-- the errors by number: their classes, their fields -/
def erN : Nat → Str
  | 0 => "BadRatio" | 1 => "BadTable" | 2 => "BadWord" | 3 => "BadBurst" | 4 => "BadReceiver" | 5 => "BadNumber" | 6 => "BadPaper" | 7 => "BadStyle" | 8 => "BadRow" | 9 => "BadText" | _ => "NothingToUndo"
def erF : Nat → Str
  | 1 => "part" | 4 => "place" | 6 => "part" | 8 => "moment" | 9 => "word" | 10 => "count" | _ => "given"
/-! ### the classes of flat things; what isinstance asks of an own class -/
def tyL : List String := ["NoneType", "bool", "int", "str", "list", "tuple", "dict"]
/-- what isinstance asks of an instance's class -/
structure IsiC (K : PySem.W.Frag) (C : Addr) : Prop where
  cl : Cls K C
  ha : PySem.W.findIn K (.ref C) "__class__" = some (some (.builtin "object.__class__"))
  hn : PySem.W.specialIn K (.builtin "object.__class__") "__get__" = some (some (.builtin "getset_descriptor.__get__"))
  tk : PySem.W.takesIn K (.builtin "object.__class__") = some true
  mr : PySem.W.mroIn K C (.type "object") = some true
  no : ∀ t ∈ tyL, PySem.W.kitOne K (.type t) (.ref C) = some false
  me : PySem.W.kitOne K (.ref C) (.ref C) = some true
  ob : ∀ t ∈ tyL, PySem.W.kitOne K (.ref C) (.type t) = some false
/-- what is known of the text; hr: it has the class of ratios -/
structure Gx where
  K : PySem.W.Frag
  CR : Addr
  EC : Nat → Addr
  OC : Nat → Addr
  sa : Addr
  sx : List Int
  hr : Bool
  isi : hr = true → IsiC K CR

/-- a world: what is frozen, where the mutable things stand -/
structure Wd where
  B : Hp
  as : List Addr

structure Wd.le (w w' : Wd) : Prop where
  b : Same w.B w'.B
  a : w.as <+: w'.as
theorem Wd.le.refl (w : Wd) : w.le w := ⟨Same.refl _, List.prefix_refl _⟩
theorem Wd.le.trans {a b c : Wd} (h : a.le b) (k : b.le c) : a.le c := ⟨h.b.trans k.b, h.a.trans k.a⟩

def ratF (n d : Int) : List (Str × V) := [("own_num", .int n), ("own_den", .int d)]

/-- the script's list: an object of the module, or a frozen one -/
def ScrOk (K : PySem.W.Frag) (B : Hp) (a : Addr) (xs : List Int) : Prop := ∃ vs : List Value, PyProof.Rows.IntsAre vs xs ∧ xs.length ≤ sizeLine ∧
  (K.lookup a = some { cls := .type "list", data := .seq vs.toArray } ∨ B a = some (.frz { cls := .type "list", data := .seq vs.toArray } (.lst (xs.map V.int))))
mutual
inductive Rp (G : Gx) (w : Wd) : D → V → Prop
  | non : Rp G w .non .non
  | bl (b : Bool) : Rp G w (.bl b) (.bl b)
  | int (i : Int) : Rp G w (.int i) (.int i)
  | str (x : Str) : Rp G w (.str x) (.str x)
  | lst {a : Addr} {vs : List V} {xs : List D} : w.B a = some (.lst vs) → Rps G w xs vs → Rp G w (.lst xs) (.ref a)
  | tup {a : Addr} {vs : List V} {xs : List D} : SqT G.K w.B a vs → Rps G w xs vs → Rp G w (.tup xs) (.ref a)
  | dic {a : Addr} {kvs : List (Key × V)} {ks : List Key} {vs : List D} : w.B a = some (.dK kvs) → kvs.map (·.1) = ks → Rps G w vs (kvs.map (·.2)) → Rp G w (.dic ks vs) (.ref a)
  | rat {a dx : Addr} {n d : Int} : (G.hr = true ∧ w.B a = some (.ins G.CR dx (ratF n d))) → Rp G w (.rat n d) (.ref a)
  | loc {n : Nat} {a : Addr} : w.as[n]? = some a → Rp G w (.loc n) (.ref a)
  | scr : ScrOk G.K w.B G.sa G.sx → Rp G w .scr (.ref G.sa)
inductive Rps (G : Gx) (w : Wd) : List D → List V → Prop
  | nil : Rps G w [] []
  | cons {d : D} {v : V} {ds : List D} {vs : List V} : Rp G w d v → Rps G w ds vs → Rps G w (d :: ds) (v :: vs)
end

theorem Same.tq {K : PySem.W.Frag} {H H' : Hp} {a : Addr} {xs : List V} (e : Same H H') (h : SqT K H a xs) : SqT K H' a xs := by
  rcases h with (h | ⟨o, h⟩) | h
  · exact .inl (.inl (e _ _ h))
  · exact .inl (.inr ⟨o, e _ _ h⟩)
  · exact .inr h

theorem pre_get {α : Type} {l l' : List α} (h : l <+: l') {n : Nat} {a : α} (e : l[n]? = some a) : l'[n]? = some a := by
  obtain ⟨t, rfl⟩ := h
  have hn : n < l.length := by
    have := List.getElem?_eq_some_iff.mp e
    exact this.1
  rw [List.getElem?_append_left hn]
  exact e

mutual
theorem Rp.mono {G : Gx} {w w' : Wd} (l : w.le w') : ∀ {d : D} {v : V}, Rp G w d v → Rp G w' d v
  | _, _, .non => .non
  | _, _, .bl b => .bl b
  | _, _, .int i => .int i
  | _, _, .str x => .str x
  | _, _, .lst h hs => .lst (l.b _ _ h) (Rps.mono l hs)
  | _, _, .tup h hs => .tup (Same.tq l.b h) (Rps.mono l hs)
  | _, _, .dic h e hs => .dic (l.b _ _ h) e (Rps.mono l hs)
  | _, _, .rat h => .rat ⟨h.1, l.b _ _ h.2⟩
  | _, _, .loc h => .loc (pre_get l.a h)
  | _, _, .scr h => .scr (let ⟨vs, h1, h2, h3⟩ := h; ⟨vs, h1, h2, h3.imp id fun z => l.b _ _ z⟩)
theorem Rps.mono {G : Gx} {w w' : Wd} (l : w.le w') : ∀ {ds : List D} {vs : List V}, Rps G w ds vs → Rps G w' ds vs
  | _, _, .nil => .nil
  | _, _, .cons h hs => .cons (Rp.mono l h) (Rps.mono l hs)
end

theorem Rps.length {G : Gx} {w : Wd} : ∀ {ds : List D} {vs : List V}, Rps G w ds vs → ds.length = vs.length
  | _, _, .nil => rfl
  | _, _, .cons _ hs => by simp [Rps.length hs]
theorem Rps.get {G : Gx} {w : Wd} : ∀ {ds : List D} {vs : List V} {i : Nat} {d : D}, Rps G w ds vs → ds[i]? = some d → ∃ v, vs[i]? = some v ∧ Rp G w d v
  | _, _, _, _, .nil, e => by simp at e
  | _, _, 0, _, .cons h _, e => by simp at e; subst e; exact ⟨_, rfl, h⟩
  | _, _, i + 1, _, .cons _ hs, e => by
    rw [List.getElem?_cons_succ] at e
    obtain ⟨v, h1, h2⟩ := Rps.get hs e
    exact ⟨v, by simpa using h1, h2⟩
theorem Rps.getV {G : Gx} {w : Wd} : ∀ {ds : List D} {vs : List V} {i : Nat} {v : V}, Rps G w ds vs → vs[i]? = some v → ∃ d, ds[i]? = some d ∧ Rp G w d v
  | _, _, _, _, .nil, e => by simp at e
  | _, _, 0, _, .cons h _, e => by simp at e; subst e; exact ⟨_, rfl, h⟩
  | _, _, i + 1, _, .cons _ hs, e => by
    rw [List.getElem?_cons_succ] at e
    obtain ⟨v, h1, h2⟩ := Rps.getV hs e
    exact ⟨v, by simpa using h1, h2⟩
theorem Rps.append {G : Gx} {w : Wd} : ∀ {ds es : List D} {vs us : List V}, Rps G w ds vs → Rps G w es us → Rps G w (ds ++ es) (vs ++ us)
  | _, _, _, _, .nil, k => k
  | _, _, _, _, .cons h hs, k => .cons h (Rps.append hs k)
theorem Rps.take {G : Gx} {w : Wd} : ∀ {ds : List D} {vs : List V} (n : Nat), Rps G w ds vs → Rps G w (ds.take n) (vs.take n)
  | _, _, 0, _ => by simp; exact .nil
  | _, _, n + 1, .nil => by simp; exact .nil
  | _, _, n + 1, .cons h hs => .cons h (Rps.take n hs)
theorem Rps.drop {G : Gx} {w : Wd} : ∀ {ds : List D} {vs : List V} (n : Nat), Rps G w ds vs → Rps G w (ds.drop n) (vs.drop n)
  | _, _, 0, k => k
  | _, _, n + 1, .nil => by simp; exact .nil
  | _, _, n + 1, .cons h hs => Rps.drop n hs
theorem Rps.set {G : Gx} {w : Wd} {d : D} {v : V} (h : Rp G w d v) : ∀ {ds : List D} {vs : List V} (i : Nat), Rps G w ds vs → Rps G w (ds.set i d) (vs.set i v)
  | _, _, _, .nil => .nil
  | _, _, 0, .cons _ t => .cons h t
  | _, _, i + 1, .cons q t => .cons q (Rps.set h i t)
theorem Rps.rep {G : Gx} {w : Wd} {ds : List D} {vs : List V} (h : Rps G w ds vs) : ∀ k : Nat, Rps G w (List.replicate k ds).flatten (List.replicate k vs).flatten
  | 0 => .nil
  | k + 1 => by
    rw [List.replicate_succ, List.replicate_succ, List.flatten_cons, List.flatten_cons]
    exact h.append (Rps.rep h k)
theorem Rps.reverse {G : Gx} {w : Wd} : ∀ {ds : List D} {vs : List V}, Rps G w ds vs → Rps G w ds.reverse vs.reverse
  | _, _, .nil => .nil
  | _, _, .cons h t => by
    rw [List.reverse_cons, List.reverse_cons]
    exact (Rps.reverse t).append (.cons h .nil)
theorem Rps.dropLast {G : Gx} {w : Wd} {ds : List D} {vs : List V} (h : Rps G w ds vs) : Rps G w ds.dropLast vs.dropLast := by
  rw [List.dropLast_eq_take, List.dropLast_eq_take, h.length]
  exact h.take _
theorem Rps.nil_of {G : Gx} {w : Wd} {ds : List D} {vs : List V} (h : Rps G w ds vs) : vs = [] ↔ ds = [] := by
  cases h <;> simp

/-! ### the store -/
def PF (G : Gx) (w : Wd) : List (Str × D) → List (Str × V) → Prop := Paired fun (p : Str × D) (q : Str × V) => p.1 = q.1 ∧ Rp G w p.2 q.2
def KD (G : Gx) (w : Wd) : List (Key × D) → List (Key × V) → Prop := Paired fun (p : Key × D) (q : Key × V) => p.1 = q.1 ∧ Rp G w p.2 q.2
theorem KD.mono {G : Gx} {w w' : Wd} (l : w.le w') {ks : List (Key × D)} {vs : List (Key × V)} (h : KD G w ks vs) : KD G w' ks vs := Paired.mapP h fun _ _ z => ⟨z.1, z.2.mono l⟩
def MoOk (G : Gx) (w : Wd) (H : Hp) (a : Addr) : MO → Prop
  | .dead => True
  | .lst xs => w.B a = none ∧ ∃ vs, H a = some (.lst vs) ∧ Rps G w xs vs
  | .dic kds => w.B a = none ∧ ∃ kvs, H a = some (.dK kvs) ∧ KD G w kds kvs
  | .obj c fs => w.B a = none ∧ ∃ dx vs, H a = some (.ins (G.OC c) dx vs) ∧ PF G w fs vs
  | .hold o => w.B a = none ∧ H a = some o

structure SI (G : Gx) (w : Wd) (ms : MS) (H : Hp) : Prop where
  sub : Same w.B H
  len : w.as.length = ms.length
  nd : w.as.Nodup
  th : ∀ a ∈ w.as, ∃ o, H a = some o
  mo : ∀ (n : Nat) (a : Addr) (o : MO), w.as[n]? = some a → ms[n]? = some o → MoOk G w H a o

/-- slots -/
abbrev DE := List (Option D)
structure EnvOk (G : Gx) (w : Wd) (env : DE) (σ : St) : Prop where
  len : env.length = σ.length
  at_ : ∀ (i : Nat) (d : D), env[i]? = some (some d) → ∃ v, σ[i]? = some (some v) ∧ Rp G w d v
theorem EnvOk.mono {G : Gx} {w w' : Wd} {env : DE} {σ : St} (l : w.le w') (h : EnvOk G w env σ) : EnvOk G w' env σ :=
  ⟨h.len, fun i d e => let ⟨v, a, b⟩ := h.at_ i d e; ⟨v, a, b.mono l⟩⟩
theorem EnvOk.set {G : Gx} {w : Wd} {env : DE} {σ : St} {d : D} {v : V} (h : EnvOk G w env σ) (i : Nat) (r : Rp G w d v) : EnvOk G w (env.set i (some d)) (σ.set i (some v)) := by
  refine ⟨by simp [h.len], fun j e q => ?_⟩
  by_cases hij : i = j
  · subst hij
    by_cases hl : i < env.length
    · rw [List.getElem?_set_self hl] at q
      have q' : d = e := by simpa using q
      subst q'
      exact ⟨v, by rw [List.getElem?_set_self (by rw [← h.len]; exact hl)], r⟩
    · rw [List.getElem?_eq_none (by simpa using Nat.le_of_not_lt hl)] at q
      cases q
  · rw [List.getElem?_set_ne hij] at q
    rw [List.getElem?_set_ne hij]
    exact h.at_ j e q
theorem EnvOk.wipe1 {G : Gx} {w : Wd} {env : DE} {σ : St} (h : EnvOk G w env σ) (i : Nat) : EnvOk G w (env.set i none) (σ.set i none) := by
  refine ⟨by simp [h.len], fun j e q => ?_⟩
  by_cases hij : i = j
  · subst hij
    by_cases hl : i < env.length
    · rw [List.getElem?_set_self hl] at q
      cases q
    · rw [List.getElem?_eq_none (by simpa using Nat.le_of_not_lt hl)] at q
      cases q
  · rw [List.getElem?_set_ne hij] at q
    rw [List.getElem?_set_ne hij]
    exact h.at_ j e q

/-! ### results -/
inductive R (α : Type) where
  | ok (a : α) (ms : MS)
  | err (c : Nat) (v : D) (ms : MS)
  | stuck

/-- behind a statement -/
inductive RS where
  | nx (env : DE) (ms : MS) | ret (d : D) (ms : MS) | brk (env : DE) (ms : MS) | cnt (env : DE) (ms : MS)
  | err (c : Nat) (v : D) (env : DE) (ms : MS)
  | stuck

abbrev SE := DE → MS → R D
abbrev ST := DE → MS → R Bool
abbrev SA := DE → MS → R (List D)
abbrev SS := DE → MS → RS
abbrev SF := List D → MS → R D

def R.bind {α β : Type} (r : R α) (k : α → MS → R β) : R β := match r with
  | .ok a ms => k a ms
  | .err c v ms => .err c v ms
  | .stuck => .stuck

/-- the error object, its class, its own dict -/
def ErrOk (G : Gx) (w : Wd) (c : Nat) (x : D) (cls : Value) (dd : Option Addr) : Prop := cls = .ref (G.EC c) ∧ ∃ d v, dd = some d ∧ w.B d = some (.xd [(erF c, v)]) ∧ Rp G w x v

/-- behind a result: what is wanted of a value, of an error -/
def Out (G : Gx) (w : Wd) {α β : Type} (rel : Wd → α → β → Prop) (r : R α) (Q : β → Hp → Prop) (E : XK) : Prop := match r with
  | .ok a ms => ∀ (v : β) (H' : Hp) (w' : Wd), w.le w' → SI G w' ms H' → rel w' a v → Q v H'
  | .err c x ms => ∀ (cls : Value) (dd : Option Addr) (H' : Hp) (w' : Wd), w.le w' → SI G w' ms H' → ErrOk G w' c x cls dd → E cls dd H'
  | .stuck => False

theorem Out.mono {G : Gx} {w w' : Wd} {α β : Type} {rel : Wd → α → β → Prop} {r : R α} {Q : β → Hp → Prop} {E : XK} (l : w.le w') (h : Out G w rel r Q E) : Out G w' rel r Q E := by
  cases r with
  | ok a ms => exact fun v H' w2 l2 s q => h v H' w2 (l.trans l2) s q
  | err c x ms => exact fun cls dd H' w2 l2 s q => h cls dd H' w2 (l.trans l2) s q
  | stuck => exact h
theorem Out.imp {G : Gx} {w : Wd} {α β : Type} {rel : Wd → α → β → Prop} {r : R α} {Q Q' : β → Hp → Prop} {E E' : XK} (h : Out G w rel r Q E) (hq : ∀ v H, Q v H → Q' v H) (he : ∀ c d H, E c d H → E' c d H) : Out G w rel r Q' E' := by
  cases r with
  | ok a ms => exact fun v H' w2 l2 s q => hq _ _ (h v H' w2 l2 s q)
  | err c x ms => exact fun cls dd H' w2 l2 s q => he _ _ _ (h cls dd H' w2 l2 s q)
  | stuck => exact h
/-- two in a row -/
theorem Out.bind {G : Gx} {w : Wd} {α β γ δ : Type} {rel : Wd → α → β → Prop} {rel2 : Wd → γ → δ → Prop} {r : R α} {k : α → MS → R γ} {Q : δ → Hp → Prop} {P : β → Hp → Prop} {E : XK} (h : Out G w rel2 (r.bind k) Q E)
    (f : ∀ a ms v H' w', w.le w' → SI G w' ms H' → rel w' a v → Out G w' rel2 (k a ms) Q E → P v H') : Out G w rel r P E := by
  cases r with
  | ok a ms => exact fun v H' w2 l2 s q => f a ms v H' w2 l2 s q (Out.mono l2 h)
  | err c x ms => exact h
  | stuck => exact h

abbrev OutD (G : Gx) (w : Wd) (r : R D) (Q : VK) (E : XK) : Prop := Out G w (Rp G) r Q E
abbrev OutB (G : Gx) (w : Wd) (r : R Bool) (Q : Bool → Hp → Prop) (E : XK) : Prop := Out G w (fun _ (a b : Bool) => a = b) r Q E
abbrev OutL (G : Gx) (w : Wd) (r : R (List D)) (Q : List V → Hp → Prop) (E : XK) : Prop := Out G w (Rps G) r Q E

/-! ### the readings -/
structure At (G : Gx) (w : Wd) (env : DE) (ms : MS) (σ : St) (H : Hp) : Prop where
  e : EnvOk G w env σ
  s : SI G w ms H
theorem At.next {G : Gx} {w w' : Wd} {env : DE} {ms ms' : MS} {σ : St} {H H' : Hp} (a : At G w env ms σ H) (l : w.le w') (s : SI G w' ms' H') : At G w' env ms' σ H' := ⟨a.e.mono l, s⟩

def tE (G : Gx) (W : WX) (f : SE) : TE := fun σ H Q => ∃ w env ms, At G w env ms σ H ∧ OutD G w (f env ms) Q (fun c d H' => W c d σ H')
def tT (G : Gx) (W : WX) (f : ST) : TT := fun σ H Q => ∃ w env ms, At G w env ms σ H ∧ OutB G w (f env ms) Q (fun c d H' => W c d σ H')
def tA (G : Gx) (W : WX) (f : SA) : TA := fun σ H Q => ∃ w env ms, At G w env ms σ H ∧ OutL G w (f env ms) Q (fun c d H' => W c d σ H')
/-- behind a statement -/
def OutS (G : Gx) (w : Wd) (r : RS) (K : Ends) (W : WX) : Prop := match r with
  | .nx env ms => ∀ (σ' : St) (H' : Hp) (w' : Wd), w.le w' → At G w' env ms σ' H' → K.nx σ' H'
  | .brk env ms => ∀ (σ' : St) (H' : Hp) (w' : Wd), w.le w' → At G w' env ms σ' H' → K.bk σ' H'
  | .cnt env ms => ∀ (σ' : St) (H' : Hp) (w' : Wd), w.le w' → At G w' env ms σ' H' → K.ct σ' H'
  | .ret d ms => ∀ (v : V) (H' : Hp) (w' : Wd), w.le w' → SI G w' ms H' → Rp G w' d v → K.rt v H'
  | .err c x env ms => ∀ (cls : Value) (dd : Option Addr) (σ' : St) (H' : Hp) (w' : Wd), w.le w' → At G w' env ms σ' H' → ErrOk G w' c x cls dd → W cls dd σ' H'
  | .stuck => False
theorem OutS.mono {G : Gx} {w w' : Wd} {r : RS} {K : Ends} {W : WX} (l : w.le w') (h : OutS G w r K W) : OutS G w' r K W := by
  cases r with
  | nx e ms => exact fun σ' H' w2 l2 q => h σ' H' w2 (l.trans l2) q
  | brk e ms => exact fun σ' H' w2 l2 q => h σ' H' w2 (l.trans l2) q
  | cnt e ms => exact fun σ' H' w2 l2 q => h σ' H' w2 (l.trans l2) q
  | ret e ms => exact fun σ' H' w2 l2 q => h σ' H' w2 (l.trans l2) q
  | err c x e ms => exact fun cls dd σ' H' w2 l2 q => h cls dd σ' H' w2 (l.trans l2) q
  | stuck => exact h
/-- an expression, then a statement's end -/
def R.thenS {α : Type} (r : R α) (env : DE) (k : α → MS → RS) : RS := match r with
  | .ok a ms => k a ms
  | .err c v ms => .err c v env ms
  | .stuck => .stuck
theorem Out.thenS {G : Gx} {w : Wd} {α β : Type} {rel : Wd → α → β → Prop} {r : R α} {env : DE} {ms : MS} {σ : St} {H : Hp} {k : α → MS → RS} {K : Ends} {W : WX} {P : β → Hp → Prop} (a0 : At G w env ms σ H) (h : OutS G w (r.thenS env k) K W)
    (f : ∀ a ms v H' w', w.le w' → At G w' env ms σ H' → rel w' a v → OutS G w' (k a ms) K W → P v H') : Out G w rel r P (fun c d H' => W c d σ H') := by
  cases r with
  | ok a ms => exact fun v H' w2 l2 s q => f a ms v H' w2 l2 ⟨a0.e.mono l2, s⟩ q (OutS.mono l2 h)
  | err c x ms => exact fun cls dd H' w2 l2 s q => h cls dd σ H' w2 l2 ⟨a0.e.mono l2, s⟩ q
  | stuck => exact h
def tS (G : Gx) (W : WX) (f : SS) : TS := fun K σ H => ∃ w env ms, At G w env ms σ H ∧ OutS G w (f env ms) K W

def JE (G : Gx) (X : Cx) (W : WX) (e : Expr) (f : SE) : Prop := PE X e (tE G W f)
def JT (G : Gx) (X : Cx) (W : WX) (e : Expr) (f : ST) : Prop := PT X e (tT G W f)
def JA (G : Gx) (X : Cx) (W : WX) (es : List Expr) (f : SA) : Prop := PA X es (tA G W f)
def JS (G : Gx) (X : Cx) (W : WX) (st : Stmt) (f : SS) : Prop := PS X st (tS G W f)
def JSs (G : Gx) (X : Cx) (W : WX) (st : List Stmt) (f : SS) : Prop := PSs X st (tS G W f)

theorem PE.imp {X : Cx} {e : Expr} {t t' : TE} (h : PE X e t) (k : ∀ σ H Q, t' σ H Q → t σ H Q) : PE X e t' := ⟨fun pins s σ H Q I q => h.run pins s σ H Q I (k _ _ _ q)⟩
theorem PT.imp {X : Cx} {e : Expr} {t t' : TT} (h : PT X e t) (k : ∀ σ H Q, t' σ H Q → t σ H Q) : PT X e t' := ⟨fun pins s σ H Q I q => h.run pins s σ H Q I (k _ _ _ q)⟩
theorem PW.imp {X : Cx} {e : Expr} {t t' : TT} (h : PW X e t) (k : ∀ σ H Q, t' σ H Q → t σ H Q) : PW X e t' := ⟨fun whole pins s σ H Q I q => h.run whole pins s σ H Q I (k _ _ _ q)⟩
theorem PA.imp {X : Cx} {e : List Expr} {t t' : TA} (h : PA X e t) (k : ∀ σ H Q, t' σ H Q → t σ H Q) : PA X e t' := ⟨fun pos pins s σ H Q I q => h.run pos pins s σ H Q I (k _ _ _ q)⟩
theorem PS.imp {X : Cx} {e : Stmt} {t t' : TS} (h : PS X e t) (k : ∀ D σ H, t' D σ H → t D σ H) : PS X e t' := ⟨fun pins s σ H Q I q => h.run pins s σ H Q I (k _ _ _ q)⟩
theorem PSs.imp {X : Cx} {e : List Stmt} {t t' : TS} (h : PSs X e t) (k : ∀ D σ H, t' D σ H → t D σ H) : PSs X e t' := ⟨fun pins s σ H Q I q => h.run pins s σ H Q I (k _ _ _ q)⟩
end DL

/-! operations on trees -/
namespace DL
open PySem L2

/-! ### laying a frozen object -/
theorem SI.lay {G : Gx} {w : Wd} {ms : MS} {H : Hp} {p : Addr} (s : SI G w ms H) (hp : H p = none) (o : HO) : SI G ⟨upd w.B p o, w.as⟩ ms (upd H p o) ∧ w.le ⟨upd w.B p o, w.as⟩ := by
  have bp : w.B p = none := s.sub.free hp
  have l : w.le ⟨upd w.B p o, w.as⟩ := ⟨fun b u e => by show upd w.B p o b = some u; rw [upd_ne (ne_of_none e bp)]; exact e, List.prefix_refl _⟩
  refine ⟨⟨fun b u e => ?_, s.len, s.nd, fun a ha => let ⟨u, hu⟩ := s.th a ha; ⟨u, by rw [upd_ne (ne_of_none hu hp)]; exact hu⟩, fun n a m ha hm => ?_⟩, l⟩
  · by_cases hb : b = p
    · subst hb
      have e' : upd w.B b o b = some u := e
      rw [upd_same] at e'
      rw [upd_same]; exact e'
    · have e' : upd w.B p o b = some u := e
      rw [upd_ne hb] at e'
      rw [upd_ne hb]; exact s.sub b u e'
  · have q := s.mo n a m ha hm
    cases m with
    | dead => trivial
    | lst xs =>
      obtain ⟨h1, vs, h2, h3⟩ := q
      have ne : a ≠ p := ne_of_none h2 hp
      exact ⟨by show upd w.B p o a = none; rw [upd_ne ne]; exact h1, vs, by rw [upd_ne ne]; exact h2, h3.mono l⟩
    | dic kds =>
      obtain ⟨h1, kvs, h2, h3⟩ := q
      have ne : a ≠ p := ne_of_none h2 hp
      exact ⟨by show upd w.B p o a = none; rw [upd_ne ne]; exact h1, kvs, by rw [upd_ne ne]; exact h2, h3.mono l⟩
    | obj c fs =>
      obtain ⟨h1, dx, vs, h2, h3⟩ := q
      have ne : a ≠ p := ne_of_none h2 hp
      exact ⟨by show upd w.B p o a = none; rw [upd_ne ne]; exact h1, dx, vs, by rw [upd_ne ne]; exact h2, Paired.mapP h3 fun _ _ z => ⟨z.1, z.2.mono l⟩⟩
    | hold ob =>
      obtain ⟨h1, h2⟩ := q
      have ne : a ≠ p := ne_of_none h2 hp
      exact ⟨by show upd w.B p o a = none; rw [upd_ne ne]; exact h1, by rw [upd_ne ne]; exact h2⟩

/-- what is wanted of a value behind an operation that leaves the store -/
def Want (G : Gx) (w : Wd) (ms : MS) (d : D) (Q : VK) : Prop := ∀ (v : V) (H' : Hp) (w' : Wd), w.le w' → SI G w' ms H' → Rp G w' d v → Q v H'
theorem Want.here {G : Gx} {w : Wd} {ms : MS} {d : D} {Q : VK} {H : Hp} {v : V} (k : Want G w ms d Q) (s : SI G w ms H) (r : Rp G w d v) : Q v H := k v H w (Wd.le.refl w) s r
theorem Want.newL {G : Gx} {w : Wd} {ms : MS} {xs : List D} {vs : List V} {Q : VK} {H : Hp} (k : Want G w ms (.lst xs) Q) (s : SI G w ms H) (r : Rps G w xs vs) : ∀ p, H p = none → Q (.ref p) (upd H p (.lst vs)) := fun p hp => by
  obtain ⟨s', l⟩ := s.lay hp (.lst vs)
  exact k _ _ _ l s' (.lst upd_same (r.mono l))
theorem Want.newT {G : Gx} {w : Wd} {ms : MS} {xs : List D} {vs : List V} {Q : VK} {H : Hp} (k : Want G w ms (.tup xs) Q) (s : SI G w ms H) (r : Rps G w xs vs) : ∀ p, H p = none → Q (.ref p) (upd H p (.tup vs)) := fun p hp => by
  obtain ⟨s', l⟩ := s.lay hp (.tup vs)
  exact k _ _ _ l s' (.tup (SqT.of upd_same) (r.mono l))

/-! ### what is read off the store -/
def lstOf (ms : MS) : D → Option (List D)
  | .lst xs => some xs
  | .loc n => match ms[n]? with
    | some (.lst xs) => some xs
    | _ => none
  | _ => none
theorem lstOf_ok {G : Gx} {w : Wd} {ms : MS} {H : Hp} {d : D} {xs : List D} {v : V} (s : SI G w ms H) (e : lstOf ms d = some xs) (r : Rp G w d v) : ∃ a vs, v = .ref a ∧ H a = some (.lst vs) ∧ Rps G w xs vs := by
  cases r with
  | lst h hs => simp only [lstOf, Option.some.injEq] at e; subst e; exact ⟨_, _, rfl, s.sub _ _ h, hs⟩
  | @loc n a h =>
    simp only [lstOf] at e
    cases q : ms[n]? with
    | none => rw [q] at e; cases e
    | some m =>
      rw [q] at e
      cases m with
      | lst ys =>
        simp only [Option.some.injEq] at e; subst e
        obtain ⟨_, vs, h2, h3⟩ := s.mo n a _ h q
        exact ⟨a, vs, rfl, h2, h3⟩
      | _ => cases e
  | _ => cases e
/-- a list's or a tuple's items -/
def seqOf (ms : MS) : D → Option (List D)
  | .tup xs => some xs
  | d => lstOf ms d
theorem tq_of {G : Gx} {w : Wd} {ms : MS} {H : Hp} {a : Addr} {vs : List V} (s : SI G w ms H) (h : SqT G.K w.B a vs) : SqT G.K H a vs := Same.tq s.sub h
theorem seqOf_ok {G : Gx} {w : Wd} {ms : MS} {H : Hp} {d : D} {xs : List D} {v : V} (s : SI G w ms H) (e : seqOf ms d = some xs) (r : Rp G w d v) : ∃ a vs, v = .ref a ∧ (SqL G.K H a vs ∨ SqT G.K H a vs) ∧ Rps G w xs vs := by
  cases d with
  | tup ys =>
    simp only [seqOf, Option.some.injEq] at e; subst e
    cases r with
    | tup h hs => exact ⟨_, _, rfl, .inr (tq_of s h), hs⟩
  | _ =>
    simp only [seqOf] at e
    obtain ⟨a, vs, rfl, h, hs⟩ := lstOf_ok s e r
    exact ⟨a, vs, rfl, .inl (SqL.of h), hs⟩

/-! ### data without ratios and mutable things, as the library has it -/
mutual
def toP : D → Option PyData
  | .non => some .none
  | .bl b => some (.bool b)
  | .int i => some (.int i)
  | .str x => some (.str x)
  | .lst xs => match toPs xs with
    | some ps => some (.list ps)
    | none => none
  | .tup xs => match toPs xs with
    | some ps => some (.tuple ps)
    | none => none
  | .dic _ _ => none
  | .rat _ _ => none
  | .loc _ => none
  | .exc _ _ => none
  | .scr => none
def toPs : List D → Option (List PyData)
  | [] => some []
  | d :: ds => match toP d, toPs ds with
    | some p, some ps => some (p :: ps)
    | _, _ => none
end
mutual
theorem toP_ok {G : Gx} {w : Wd} {H : Hp} (sb : Same w.B H) : ∀ {d : D} {v : V} {p : PyData}, Rp G w d v → toP d = some p → Dp G.K H v p
  | _, _, _, .non, e => by simp only [toP, Option.some.injEq] at e; subst e; exact .non
  | _, _, _, .bl b, e => by simp only [toP, Option.some.injEq] at e; subst e; exact .bl b
  | _, _, _, .int b, e => by simp only [toP, Option.some.injEq] at e; subst e; exact .int b
  | _, _, _, .str b, e => by simp only [toP, Option.some.injEq] at e; subst e; exact .str b
  | _, _, _, .lst (xs := xs) h hs, e => by
    simp only [toP] at e
    cases q : toPs xs with
    | none => rw [q] at e; cases e
    | some ps =>
      rw [q] at e; simp only [Option.some.injEq] at e; subst e
      exact .lst (SqL.of (sb _ _ h)) (toPs_ok sb hs q)
  | _, _, _, .tup (xs := xs) h hs, e => by
    simp only [toP] at e
    cases q : toPs xs with
    | none => rw [q] at e; cases e
    | some ps =>
      rw [q] at e; simp only [Option.some.injEq] at e; subst e
      exact .tup (Same.tq sb h) (toPs_ok sb hs q)
  | _, _, _, .dic _ _ _, e => by simp only [toP] at e; cases e
  | _, _, _, .rat _, e => by simp only [toP] at e; cases e
  | _, _, _, .loc _, e => by simp only [toP] at e; cases e
  | _, _, _, .scr _, e => by simp only [toP] at e; cases e
theorem toPs_ok {G : Gx} {w : Wd} {H : Hp} (sb : Same w.B H) : ∀ {ds : List D} {vs : List V} {ps : List PyData}, Rps G w ds vs → toPs ds = some ps → DpAll G.K H vs ps
  | _, _, _, .nil, e => by simp only [toPs, Option.some.injEq] at e; subst e; exact .nil
  | _, _, _, .cons (d := d) (ds := ds) h hs, e => by
    simp only [toPs] at e
    cases q : toP d with
    | none => rw [q] at e; cases e
    | some p =>
      cases q2 : toPs ds with
      | none => rw [q, q2] at e; cases e
      | some ps =>
        rw [q, q2] at e; simp only [Option.some.injEq] at e; subst e
        exact .cons (toP_ok sb h q) (toPs_ok sb hs q2)
end
/-- .. a mutable list at the top too -/
def pdOf (ms : MS) : D → Option PyData
  | .loc n => match lstOf ms (.loc n) with
    | some xs => match toPs xs with
      | some ps => some (.list ps)
      | none => none
    | none => none
  | d => toP d
theorem pdOf_ok {G : Gx} {w : Wd} {ms : MS} {H : Hp} {d : D} {v : V} {p : PyData} (s : SI G w ms H) (r : Rp G w d v) (e : pdOf ms d = some p) : Dp G.K H v p := by
  cases d with
  | loc n =>
    simp only [pdOf] at e
    cases q : lstOf ms (.loc n) with
    | none => rw [q] at e; cases e
    | some xs =>
      rw [q] at e
      simp only at e
      cases q2 : toPs xs with
      | none => rw [q2] at e; cases e
      | some ps =>
        rw [q2] at e; simp only [Option.some.injEq] at e; subst e
        obtain ⟨a, vs, rfl, h, hs⟩ := lstOf_ok s q r
        exact .lst (SqL.of h) (toPs_ok s.sub hs q2)
  | _ => exact toP_ok s.sub r e

/-! ### two-place operations -/
abbrev VO2 := MS → D → D → Option D
def Op2 (G : Gx) (X : Cx) (f : Value → Value → Sem Value) (o : VO2) : Prop :=
  ∀ (pins : List (Addr × Obj)) (s : Shared) (σ : St) (H : Hp) (x y : V) (v u : Value) (Q : VK) (w : Wd) (ms : MS) (a b d : D), Inv X pins σ H s → RelV x v → RelV y u → SI G w ms H → Rp G w a x → Rp G w b y → o ms a b = some d → Want G w ms d Q →
    wpAny (model X.prog X.w) X.A (f v u) (EP X pins σ Q) X.xe s
theorem Op2.of {G : Gx} {X : Cx} {f : Value → Value → Sem Value} {r : R2} {o : VO2} (h : OpR X f r)
    (k : ∀ (H : Hp) (x y : V) (Q : VK) (w : Wd) (ms : MS) (a b d : D), SI G w ms H → Rp G w a x → Rp G w b y → o ms a b = some d → Want G w ms d Q → r x y H Q) : Op2 G X f o :=
  fun pins s σ H x y v u Q w ms a b d I rx ry si ra rb e q => h pins s σ H x y v u Q I rx ry (k H x y Q w ms a b d si ra rb e q)
theorem Op2.or {G : Gx} {X : Cx} {f : Value → Value → Sem Value} {o o1 o2 : VO2} (h1 : Op2 G X f o1) (h2 : Op2 G X f o2) (k : ∀ ms a b d, o ms a b = some d → o1 ms a b = some d ∨ o2 ms a b = some d) : Op2 G X f o :=
  fun pins s σ H x y v u Q w ms a b d I rx ry si ra rb e q => (k ms a b d e).elim (fun e => h1 pins s σ H x y v u Q w ms a b d I rx ry si ra rb e q) (fun e => h2 pins s σ H x y v u Q w ms a b d I rx ry si ra rb e q)

def iop (g : Int → Int → Option D) : VO2 := fun _ a b => match a, b with
  | .int i, .int j => g i j
  | _, _ => none
theorem op2_int {G : Gx} {X : Cx} {f : Value → Value → Sem Value} {C : Int → Int → Prop} {h : Int → Int → V} {g : Int → Int → Option D} (o : OpR X f (rI C h)) (k : ∀ i j d, g i j = some d → C i j ∧ ∀ (G : Gx) (w : Wd), Rp G w d (h i j)) : Op2 G X f (iop g) :=
  Op2.of o fun H x y Q w ms a b d si ra rb e q => by
    cases ra with
    | int i => cases rb with
      | int j =>
        obtain ⟨h1, h2⟩ := k i j d e
        exact ⟨i, j, rfl, rfl, h1, q.here si (h2 G w)⟩
      | _ => cases e
    | _ => cases e
theorem op2_int0 {G : Gx} {X : Cx} {f : Value → Value → Sem Value} {h : Int → Int → V} {g : Int → Int → Option D} (o : OpR X f (rI0 h)) (k : ∀ i j d, g i j = some d → ∀ (G : Gx) (w : Wd), Rp G w d (h i j)) : Op2 G X f (iop g) :=
  Op2.of o fun H x y Q w ms a b d si ra rb e q => by
    cases ra with
    | int i => cases rb with
      | int j => exact ⟨i, j, rfl, rfl, q.here si (k i j d e G w)⟩
      | _ => cases e
    | _ => cases e
theorem some_int {i : Int} {d : D} (e : some (D.int i) = some d) (G : Gx) (w : Wd) : Rp G w d (.int i) := by cases e; exact .int i
theorem some_bl {i : Bool} {d : D} (e : some (D.bl i) = some d) (G : Gx) (w : Wd) : Rp G w d (.bl i) := by cases e; exact .bl i

/-- + of ints, texts, lists, tuples -/
def addS : VO2 := fun _ a b => match a, b with
  | .str x, .str y => if x.length + y.length ≤ 16777216 then some (.str (x ++ y)) else none
  | _, _ => none
def addT : VO2 := fun _ a b => match a, b with
  | .tup x, .tup y => if x.length + y.length ≤ 16777216 then some (.tup (x ++ y)) else none
  | _, _ => none
def addL : VO2 := fun ms a b => match lstOf ms a, lstOf ms b with
  | some x, some y => if x.length + y.length ≤ 16777216 then some (.lst (x ++ y)) else none
  | _, _ => none
def addD : VO2 := fun ms a b => match a, b with
  | .int i, .int j => some (.int (i + j))
  | .str x, .str y => addS ms (.str x) (.str y)
  | .tup x, .tup y => addT ms (.tup x) (.tup y)
  | a, b => addL ms a b
theorem op2_addS {G : Gx} {X : Cx} : Op2 G X (binaryOp .Add) addS :=
  Op2.of op_add_str fun H x y Q w ms a b d si ra rb e q => by
    cases ra with
    | str i => cases rb with
      | str j =>
        simp only [addS] at e
        split at e
        · rename_i h
          cases e
          exact ⟨i, j, rfl, rfl, by rw [sizeLine_eq]; exact h, q.here si (.str _)⟩
        · cases e
      | _ => cases e
    | _ => cases e
theorem op2_addT {G : Gx} {X : Cx} (hK : X.K = G.K) : Op2 G X (binaryOp .Add) addT :=
  Op2.of op_catA fun H x y Q w ms a b d si ra rb e q => by
    cases ra with
    | tup h1 hs1 => cases rb with
      | tup h2 hs2 =>
        simp only [addT] at e
        split at e
        · rename_i h
          cases e
          rw [hs1.length, hs2.length] at h
          refine ⟨_, _, _, _, rfl, rfl, hK ▸ tq_of si h1, hK ▸ tq_of si h2, by rw [sizeLine_eq]; exact h, fun z => ?_, fun _ z => ?_, fun _ _ p hp => ?_⟩
          · have z' := (hs1.nil_of).mp z
            subst z'
            exact q.here si (.tup h2 hs2)
          · have z' := (hs2.nil_of).mp z
            subst z'
            rw [List.append_nil] at q
            exact q.here si (.tup h1 hs1)
          · exact q.newT si (hs1.append hs2) p hp
        · cases e
      | _ => cases e
    | _ => cases e
theorem op2_addL {G : Gx} {X : Cx} : Op2 G X (binaryOp .Add) addL :=
  Op2.of op_cat fun H x y Q w ms a b d si ra rb e q => by
    simp only [addL] at e
    cases q1 : lstOf ms a with
    | none => rw [q1] at e; cases e
    | some xs =>
      cases q2 : lstOf ms b with
      | none => rw [q1, q2] at e; cases e
      | some ys =>
        rw [q1, q2] at e
        simp only at e
        split at e
        · rename_i h
          cases e
          obtain ⟨l, vs, rfl, hl, r1⟩ := lstOf_ok si q1 ra
          obtain ⟨k, us, rfl, hk, r2⟩ := lstOf_ok si q2 rb
          rw [r1.length, r2.length] at h
          exact ⟨l, k, vs, us, rfl, rfl, hl, hk, by rw [sizeLine_eq]; exact h, q.newL si (r1.append r2)⟩
        · cases e
theorem op2_add {G : Gx} {X : Cx} (hK : X.K = G.K) : Op2 G X (binaryOp .Add) addD :=
  Op2.or (o1 := iop fun i j => some (.int (i + j))) (op2_int0 op_add fun i j d e => some_int e)
    (Op2.or (o := fun ms a b => match addS ms a b, addT ms a b with | some d, _ => some d | none, some d => some d | none, none => addL ms a b) op2_addS (Op2.or (o := fun ms a b => match addT ms a b with | some d => some d | none => addL ms a b) (op2_addT hK) op2_addL
      (fun ms a b d e => by cases q : addT ms a b with | some z => rw [q] at e; cases e; exact .inl rfl | none => rw [q] at e; exact .inr e))
      (fun ms a b d e => by
        cases q : addS ms a b with
        | some z => rw [q] at e; cases e; exact .inl rfl
        | none =>
          rw [q] at e
          cases q2 : addT ms a b with
          | some z => rw [q2] at e; cases e; exact .inr (by simp only)
          | none => rw [q2] at e; exact .inr e))
    (fun ms a b d e => by
      cases a <;> cases b <;> first | exact .inl e | (refine .inr ?_; simp only [addD] at e; simp only [addS, addT]; exact e) | (refine .inr ?_; simp only [addD] at e; simp only [addS, addT] at e ⊢; split at e <;> simp_all))
end DL

/-! tuple * int, the small cases -/
namespace DL
open PySem PySem.Spec PyProof.Rows L2
theorem tuple_mul1 (l : Addr) (items : Array Value) (n : Nat) (dd : Option Addr) (sl : Array (Option Value)) (x : Int) (u : Tok) (c0 : (decide (x < -(2 ^ 63)) || decide (x ≥ 2 ^ 63)) = false) (c1 : (items.isEmpty || x == 1) = true) :
    Meets (Builtin.«tuple.__mul__» ⟨[.ref l, .int x u], []⟩) (fun _ R s => s.heap.get? l = some { cls := .type "tuple", dict := dd, data := .seq items n, slots := sl } ∧ R (.ok (.ret (Value.ref l))) s) :=
  .of_wp fun prog w A R s h => by
    obtain ⟨hp, g, d, tk, os⟩ := s
    obtain ⟨hl, h⟩ := h
    have f1 := AutoSeq1.idx_int
    wp_walk using wpAny_loadPart' hl
    refine wpAny_ite_false (decide_eq_false (by rw [c0]; exact Bool.false_ne_true)) ?_
    wp_walk using wpAny_loadPart' hl
    exact ⟨_, rfl, h⟩
theorem tuple_mul0 (l : Addr) (items : Array Value) (n : Nat) (dd : Option Addr) (sl : Array (Option Value)) (x : Int) (u : Tok) (c0 : (decide (x < -(2 ^ 63)) || decide (x ≥ 2 ^ 63)) = false) (c1 : (items.isEmpty || x == 1) = false) (c2 : (decide (x ≤ 0) || items.isEmpty) = true) :
    Meets (Builtin.«tuple.__mul__» ⟨[.ref l, .int x u], []⟩) (fun _ R s => s.heap.get? l = some { cls := .type "tuple", dict := dd, data := .seq items n, slots := sl } ∧ R (.ok (.ret (Value.ref s.heap.objs.size))) { s with heap := s.heap.push { cls := Value.type "tuple", data := Data.seq #[] }, toks := s.toks }) :=
  .of_wp fun prog w A R s h => by
    obtain ⟨hp, g, d, tk, os⟩ := s
    obtain ⟨hl, h⟩ := h
    have f1 := AutoSeq1.idx_int
    wp_walk using wpAny_loadPart' hl
    refine wpAny_ite_false (decide_eq_false (by rw [c0]; exact Bool.false_ne_true)) ?_
    wp_walk using wpAny_loadPart' hl
    first
      | exact ⟨_, rfl, h⟩
      | (refine wpAny_ite_false (decide_eq_false (by rw [c1]; exact Bool.false_ne_true)) ?_; wp_walk using wpAny_loadPart' hl; exact ⟨_, rfl, h⟩)
      | (refine wpAny_ite_true (decide_eq_true c2) ?_; wp_walk using wpAny_loadPart' hl; exact ⟨_, rfl, h⟩)
def rRepS (K : PySem.W.Frag) : R2 := fun x y H Q => ∃ l k xs, x = .ref l ∧ y = .int k ∧ SqT K H l xs ∧ -1000 ≤ k ∧ k ≤ 1000 ∧ ((xs = [] ∨ k = 1) ∧ Q (.ref l) H ∨ (xs ≠ [] ∧ k ≤ 0) ∧ ∀ p, H p = none → Q (.ref p) (upd H p (.tup [])))
section
variable {X : Cx}
theorem op_repS : OpR X (binaryOp .Mult) (rRepS X.K) := by
  intro pins s σ H x y v u Q I rx ry h
  obtain ⟨l, k, xs, rfl, rfl, hT, h1, h2, q⟩ := h
  cases rx
  obtain ⟨t, rfl⟩ := ry
  obtain ⟨its, r, ⟨⟨cls, dd, data, sl⟩, ho, hc, n, hd⟩, hs⟩ := I.tuple hT
  simp only at hc hd
  subst hc hd
  have hle : its.length = xs.length := r.length.symm
  have c0 : (decide (k < -(2 ^ 63)) || decide (k ≥ 2 ^ 63)) = false := by
    rw [decide_eq_false (by omega), decide_eq_false (by omega)] <;> rfl
  rcases q with ⟨hc, q⟩ | ⟨⟨hn, hk⟩, q⟩
  · have c1 : (its.toArray.isEmpty || k == 1) = true := by
      rcases hc with e | e
      · subst e
        have : its = [] := List.eq_nil_of_length_eq_zero hle
        subst this; rfl
      · subst e; simp
    refine wpAny_binaryOp_repeat_ref (T := "tuple") (U := "int") (by decide) ⟨_, ho, rfl⟩ (fun s' => typeIs_int s' k t) noFill_tuple_mul F.fills_int_mul F.slot_int_rmul repeat_tuple F.slot_int_index.lookup
      (call_meets F.slot_int_rmul (typeIs_int s k t) F.entry_int_rmul (F.args_int_rmul_2 _ _) (int_rmul_tuple k t l its.toArray n dd sl)
        ⟨ho, rfl, ⟨_, ho, rfl⟩, call_meets F.slot_tuple_mul ⟨_, ho, rfl⟩ F.entry_tuple_mul (F.args_tuple_mul_2 _ _) (tuple_mul1 l its.toArray n dd sl k t c0 c1) ⟨ho, ?_⟩⟩)
    exact ⟨.ref l, H, I, rfl, q⟩
  · have hi : its.toArray.isEmpty = false := by
      cases its with
      | nil => exact absurd (List.eq_nil_of_length_eq_zero hle.symm) hn
      | cons a b => rfl
    have c1 : (its.toArray.isEmpty || k == 1) = false := by
      rw [hi, Bool.false_or]
      exact beq_eq_false_iff_ne.mpr (by omega)
    have c2 : (decide (k ≤ 0) || its.toArray.isEmpty) = true := by
      rw [hi, Bool.or_false]
      exact decide_eq_true (by omega)
    refine wpAny_binaryOp_repeat_ref (T := "tuple") (U := "int") (by decide) ⟨_, ho, rfl⟩ (fun s' => typeIs_int s' k t) noFill_tuple_mul F.fills_int_mul F.slot_int_rmul repeat_tuple F.slot_int_index.lookup
      (call_meets F.slot_int_rmul (typeIs_int s k t) F.entry_int_rmul (F.args_int_rmul_2 _ _) (int_rmul_tuple k t l its.toArray n dd sl)
        ⟨ho, rfl, ⟨_, ho, rfl⟩, call_meets F.slot_tuple_mul ⟨_, ho, rfl⟩ F.entry_tuple_mul (F.args_tuple_mul_2 _ _) (tuple_mul0 l its.toArray n dd sl k t c0 c1 c2) ⟨ho, ?_⟩⟩)
    refine ⟨.ref s.heap.objs.size, _, I.laid (t' := s.toks) (o := .tup []) (fun b ob q => Heap.get?_push_of_some _ q) (Nat.le_refl _) ?_, rfl, q _ (I.hok.fresh (Nat.le_refl _))⟩
    exact ⟨by rw [sizeLine_eq]; decide, [], .nil, IsTup.new _ _⟩
end
end DL

namespace DL
open PySem L2

def subD : VO2 := iop fun i j => some (.int (i - j))
theorem op2_sub {G : Gx} {X : Cx} : Op2 G X (binaryOp .Sub) subD := op2_int0 op_sub fun i j d e => some_int e

/-- * of ints that are not too great; a list, a tuple several times -/
def mulOk (i j : Int) : Bool := decide (i.natAbs.log2 + j.natAbs.log2 < 1000000)
def mulI : VO2 := iop fun i j => if mulOk i j then some (.int (i * j)) else none
def mulL : VO2 := fun ms a b => match lstOf ms a, b with
  | some xs, .int k => if 0 ≤ k ∧ k ≤ 1000 ∧ xs.length ≤ 1000 then some (.lst (List.replicate k.toNat xs).flatten) else none
  | _, _ => none
def mulT : VO2 := fun _ a b => match a, b with
  | .tup xs, .int k => if -1000 ≤ k ∧ k ≤ 1000 ∧ xs.length ≤ 1000 then some (.tup (List.replicate k.toNat xs).flatten) else none
  | _, _ => none
def mulD : VO2 := fun ms a b => match a with
  | .int i => mulI ms (.int i) b
  | .tup xs => mulT ms (.tup xs) b
  | a => mulL ms a b
theorem op2_mulI {G : Gx} {X : Cx} : Op2 G X (binaryOp .Mult) mulI := op2_int op_mulW fun i j d e => by
  try dsimp only at e
  split at e
  · rename_i h
    have h' : i.natAbs.log2 + j.natAbs.log2 < 1000000 := of_decide_eq_true h
    exact ⟨h', some_int e⟩
  · cases e
theorem op2_mulL {G : Gx} {X : Cx} : Op2 G X (binaryOp .Mult) mulL :=
  Op2.of op_rep fun H x y Q w ms a b d si ra rb e q => by
    simp only [mulL] at e
    cases q1 : lstOf ms a with
    | none => rw [q1] at e; cases e
    | some xs =>
      rw [q1] at e
      cases rb with
      | int k =>
        simp only at e
        split at e
        · rename_i h
          cases e
          obtain ⟨l, vs, rfl, hl, r1⟩ := lstOf_ok si q1 ra
          obtain ⟨h0, h1, h2⟩ := h
          rw [r1.length] at h2
          have hk : k.toNat ≤ 1000 := by omega
          refine ⟨l, k, vs, rfl, rfl, hl, by omega, by omega, ?_, q.newL si (r1.rep _)⟩
          rw [sizeLine_eq]
          exact Nat.le_trans (Nat.mul_le_mul h2 hk) (by decide)
        · cases e
      | _ => cases e
theorem op2_mulT {G : Gx} {X : Cx} (hK : X.K = G.K) : Op2 G X (binaryOp .Mult) mulT :=
  Op2.of (OpR.or op_repT op_repS) fun H x y Q w ms a b d si ra rb e q => by
    cases ra with
    | @tup pa vs1 xs1 h1 hs1 => cases rb with
      | int k =>
        simp only [mulT] at e
        split at e
        · rename_i h
          cases e
          obtain ⟨h2, h3, h4⟩ := h
          rw [hs1.length] at h4
          by_cases hx : xs1 = []
          · subst hx
            have e0 : (List.replicate k.toNat ([] : List D)).flatten = [] := by simp
            rw [e0] at q
            exact .inr ⟨_, k, _, rfl, rfl, hK ▸ tq_of si h1, h2, h3, .inl ⟨.inl (hs1.nil_of.mpr rfl), q.here si (.tup h1 hs1)⟩⟩
          · by_cases h1k : k = 1
            · subst h1k
              have e0 : (List.replicate (1 : Int).toNat xs1).flatten = xs1 := by simp
              rw [e0] at q
              exact .inr ⟨_, 1, _, rfl, rfl, hK ▸ tq_of si h1, h2, h3, .inl ⟨.inr rfl, q.here si (.tup h1 hs1)⟩⟩
            · by_cases h0k : k ≤ 0
              · have e0 : (List.replicate k.toNat xs1).flatten = [] := by rw [show k.toNat = 0 by omega]; simp
                rw [e0] at q
                exact .inr ⟨_, k, _, rfl, rfl, hK ▸ tq_of si h1, h2, h3, .inr ⟨⟨fun z => hx (hs1.nil_of.mp z), h0k⟩, q.newT si .nil⟩⟩
              · exact .inl ⟨_, k, _, rfl, rfl, hK ▸ tq_of si h1, fun z => hx (hs1.nil_of.mp z), by omega, h3, h4, q.newT si (hs1.rep _)⟩
        · cases e
      | _ => cases e
    | _ => cases e
theorem op2_mul {G : Gx} {X : Cx} (hK : X.K = G.K) : Op2 G X (binaryOp .Mult) mulD := fun pins s σ H x y v u Q w ms a b d I rx ry si ra rb e q => by
  cases a with
  | int i => exact op2_mulI pins s σ H x y v u Q w ms _ b d I rx ry si ra rb e q
  | tup i => exact op2_mulT hK pins s σ H x y v u Q w ms _ b d I rx ry si ra rb e q
  | _ => exact op2_mulL pins s σ H x y v u Q w ms _ b d I rx ry si ra rb e q

/-- // and % by a positive number -/
def fdivD : VO2 := iop fun i j => if 0 < j ∧ j.natAbs.log2 < 9000 then some (.int (i / j)) else none
def modD : VO2 := iop fun i j => if 0 < j then some (.int (i % j)) else none
def powD : VO2 := iop fun i j => if 0 ≤ j ∧ j ≤ 1000000 ∧ i.natAbs < 2 ^ 64 then some (.int (i ^ j.toNat)) else none
theorem op2_fdiv {G : Gx} {X : Cx} : Op2 G X (binaryOp .FloorDiv) fdivD := op2_int op_fdivW fun i j d e => by
  try dsimp only at e
  split at e
  · rename_i h; exact ⟨h, some_int e⟩
  · cases e
theorem op2_mod {G : Gx} {X : Cx} : Op2 G X (binaryOp .Mod) modD := op2_int op_mod fun i j d e => by
  try dsimp only at e
  split at e
  · rename_i h; exact ⟨h, some_int e⟩
  · cases e
theorem op2_pow {G : Gx} {X : Cx} : Op2 G X (binaryOp .Pow) powD := op2_int op_pow fun i j d e => by
  try dsimp only at e
  split at e
  · rename_i h; exact ⟨h, some_int e⟩
  · cases e

/-! ### == -/
def eqP (ms : MS) (a b : D) : Option Bool := match pdOf ms a, pdOf ms b with
  | some p, some q => if SeqAt.shaped p = true ∧ SeqAt.shaped q = true then some (PyData.eqv p q) else none
  | _, _ => none
def eqB (ms : MS) (a b : D) : Option Bool := match a, b with
  | .int i, .int j => some (decide (i = j))
  | .str x, .str y => some (decide (x = y))
  | .bl x, .bl y => some (decide (x = y))
  | a, b => eqP ms a b
def eqD : VO2 := fun ms a b => (eqB ms a b).map D.bl
def neD : VO2 := fun ms a b => (eqB ms a b).map fun k => D.bl (!k)
theorem eqB_cases {ms : MS} {a b : D} {k : Bool} (e : eqB ms a b = some k) : (∃ v u, (∀ (G : Gx) (w : Wd) x, Rp G w a x → x = v) ∧ (∀ (G : Gx) (w : Wd) y, Rp G w b y → y = u) ∧ scal v u = true ∧ k = decide (v = u)) ∨ eqP ms a b = some k := by
  cases a with
  | int i => cases b with
    | int j =>
      simp only [eqB, Option.some.injEq] at e
      exact .inl ⟨.int i, .int j, fun _ _ _ r => by cases r; rfl, fun _ _ _ r => by cases r; rfl, rfl, by rw [← e]; simp⟩
    | _ => exact .inr e
  | str i => cases b with
    | str j =>
      simp only [eqB, Option.some.injEq] at e
      exact .inl ⟨.str i, .str j, fun _ _ _ r => by cases r; rfl, fun _ _ _ r => by cases r; rfl, rfl, by rw [← e]; simp⟩
    | _ => exact .inr e
  | bl i => cases b with
    | bl j =>
      simp only [eqB, Option.some.injEq] at e
      exact .inl ⟨.bl i, .bl j, fun _ _ _ r => by cases r; rfl, fun _ _ _ r => by cases r; rfl, rfl, by rw [← e]; simp⟩
    | _ => exact .inr e
  | _ => exact .inr e
theorem eqP_dp {G : Gx} {w : Wd} {ms : MS} {H : Hp} {a b : D} {x y : V} {k : Bool} (si : SI G w ms H) (ra : Rp G w a x) (rb : Rp G w b y) (e : eqP ms a b = some k) :
    ∃ p q, Dp G.K H x p ∧ Dp G.K H y q ∧ SeqAt.shaped p = true ∧ SeqAt.shaped q = true ∧ k = PyData.eqv p q := by
  simp only [eqP] at e
  cases q1 : pdOf ms a with
  | none => rw [q1] at e; cases e
  | some p => cases q2 : pdOf ms b with
    | none => rw [q1, q2] at e; cases e
    | some q =>
      rw [q1, q2] at e
      simp only at e
      split at e
      · rename_i h; cases e
        exact ⟨p, q, pdOf_ok si ra q1, pdOf_ok si rb q2, h.1, h.2, rfl⟩
      · cases e
theorem op2_eq {G : Gx} {X : Cx} (hK : X.K = G.K) (hu : X.A.units + 64 < cLine) : Op2 G X (compareOp .Eq) eqD :=
  Op2.of (OpR.or L2.op_eq (op_eqD hu)) fun H x y Q w ms a b d si ra rb e q => by
    simp only [eqD, Option.map_eq_some_iff] at e
    obtain ⟨k, e, rfl⟩ := e
    rcases eqB_cases e with ⟨v, u, hv, hu', hs, rfl⟩ | e
    · obtain rfl := hv G w x ra
      obtain rfl := hu' G w y rb
      exact .inl ⟨hs, q.here si (.bl _)⟩
    · obtain ⟨p, z, h1, h2, h3, h4, rfl⟩ := eqP_dp si ra rb e
      exact .inr ⟨p, z, hK ▸ h1, hK ▸ h2, h3, h4, q.here si (.bl _)⟩
theorem op2_ne {G : Gx} {X : Cx} (hK : X.K = G.K) (hu : X.A.units + 64 < cLine) : Op2 G X (compareOp .NotEq) neD :=
  Op2.of (OpR.or L2.op_ne (op_neD hu)) fun H x y Q w ms a b d si ra rb e q => by
    simp only [neD, Option.map_eq_some_iff] at e
    obtain ⟨k, e, rfl⟩ := e
    rcases eqB_cases e with ⟨v, u, hv, hu', hs, rfl⟩ | e
    · obtain rfl := hv G w x ra
      obtain rfl := hu' G w y rb
      exact .inl ⟨hs, q.here si (.bl _)⟩
    · obtain ⟨p, z, h1, h2, h3, h4, rfl⟩ := eqP_dp si ra rb e
      exact .inr ⟨p, z, hK ▸ h1, hK ▸ h2, h3, h4, q.here si (.bl _)⟩

/-! ### the order of ints -/
def ltD : VO2 := iop fun i j => some (.bl (decide (i < j)))
def leD : VO2 := iop fun i j => some (.bl (decide (i ≤ j)))
def gtD : VO2 := iop fun i j => some (.bl (decide (j < i)))
def geD : VO2 := iop fun i j => some (.bl (decide (j ≤ i)))
theorem op2_lt {G : Gx} {X : Cx} : Op2 G X (compareOp .Lt) ltD := op2_int0 op_lt fun i j d e => some_bl e
theorem op2_le {G : Gx} {X : Cx} : Op2 G X (compareOp .LtE) leD := op2_int0 op_le fun i j d e => some_bl e
theorem op2_gt {G : Gx} {X : Cx} : Op2 G X (compareOp .Gt) gtD := op2_int0 op_gt fun i j d e => some_bl e
theorem op2_ge {G : Gx} {X : Cx} : Op2 G X (compareOp .GtE) geD := op2_int0 op_ge fun i j d e => some_bl e

/-! ### is: None, bools -/
def isNon : D → Bool
  | .non => true
  | _ => false
theorem isNon_ok {G : Gx} {w : Wd} {a : D} {x : V} (r : Rp G w a x) : decide (x = V.non) = isNon a := by
  cases r <;> rfl
def isD : VO2 := fun _ a b => match a, b with
  | a, .non => some (.bl (isNon a))
  | .bl x, .bl y => some (.bl (decide (x = y)))
  | _, _ => none
def isnD : VO2 := fun _ a b => match a, b with
  | a, .non => some (.bl (!isNon a))
  | .bl x, .bl y => some (.bl (!decide (x = y)))
  | _, _ => none
theorem op2_is {G : Gx} {X : Cx} : Op2 G X (compareOp .Is) isD :=
  Op2.of (OpR.or op_isN op_isBl) fun H x y Q w ms a b d si ra rb e q => by
    cases rb with
    | non =>
      have e' : some (D.bl (isNon a)) = some d := by cases a <;> exact e
      cases e'
      exact .inl ⟨rfl, by rw [isNon_ok ra]; exact q.here si (.bl _)⟩
    | bl k => cases ra with
      | bl j => cases e; exact .inr ⟨j, k, rfl, rfl, q.here si (.bl _)⟩
      | _ => cases e
    | _ => cases ra <;> cases e
theorem op2_isn {G : Gx} {X : Cx} : Op2 G X (compareOp .IsNot) isnD :=
  Op2.of (OpR.or op_notN op_notBl) fun H x y Q w ms a b d si ra rb e q => by
    cases rb with
    | non =>
      have e' : some (D.bl (!isNon a)) = some d := by cases a <;> exact e
      cases e'
      exact .inl ⟨rfl, by rw [isNon_ok ra]; exact q.here si (.bl _)⟩
    | bl k => cases ra with
      | bl j => cases e; exact .inr ⟨j, k, rfl, rfl, q.here si (.bl _)⟩
      | _ => cases e
    | _ => cases ra <;> cases e

/-! ### in -/
def flD : D → Option V
  | .non => some .non
  | .bl b => some (.bl b)
  | .int i => some (.int i)
  | .str x => some (.str x)
  | _ => none
theorem flD_ok {G : Gx} {w : Wd} {a : D} {x v : V} (r : Rp G w a x) (e : flD a = some v) : x = v ∧ flatV v = true := by
  cases r <;> cases e <;> exact ⟨rfl, rfl⟩
def flDs : List D → Option (List V)
  | [] => some []
  | d :: ds => match flD d, flDs ds with
    | some v, some vs => some (v :: vs)
    | _, _ => none
theorem flDs_ok {G : Gx} {w : Wd} : ∀ {ds : List D} {xs vs : List V}, Rps G w ds xs → flDs ds = some vs → xs = vs ∧ vs.all flatV = true
  | _, _, _, .nil, e => by cases e; exact ⟨rfl, rfl⟩
  | _, _, _, .cons (d := d) (ds := ds) h hs, e => by
    simp only [flDs] at e
    cases q1 : flD d with
    | none => rw [q1] at e; cases e
    | some v => cases q2 : flDs ds with
      | none => rw [q1, q2] at e; cases e
      | some vs =>
        rw [q1, q2] at e
        cases e
        obtain ⟨rfl, f1⟩ := flD_ok h q1
        obtain ⟨rfl, f2⟩ := flDs_ok hs q2
        exact ⟨rfl, by simp [f1, f2]⟩
def inF (ms : MS) (a b : D) : Option Bool := match seqOf ms b with
  | some ys => match flD a, flDs ys with
    | some v, some vs => some (inV v vs)
    | _, _ => none
  | none => none
def inP (ms : MS) (a b : D) : Option Bool := match lstOf ms b with
  | some _ => match pdOf ms a, pdOf ms b with
    | some p, some (.list ps) => if SeqAt.shaped p = true ∧ SeqAt.shaped (.list ps) = true then some (ps.any fun z => PyData.eqv z p) else none
    | _, _ => none
  | none => none
def inS (a b : D) : Option Bool := match a, b with
  | .str x, .str y => match x.cps.toList with
    | [c] => some (decide (c ∈ y.cps.toList))
    | _ => none
  | _, _ => none
def inB (ms : MS) (a b : D) : Option Bool := match inS a b with
  | some k => some k
  | none => match inF ms a b with
    | some k => some k
    | none => inP ms a b
def inD : VO2 := fun ms a b => (inB ms a b).map D.bl
def notinD : VO2 := fun ms a b => (inB ms a b).map fun k => D.bl (!k)
theorem inF_ok {G : Gx} {w : Wd} {ms : MS} {H : Hp} {a b : D} {x y : V} {k : Bool} (si : SI G w ms H) (ra : Rp G w a x) (rb : Rp G w b y) (e : inF ms a b = some k) :
    ∃ p xs, y = .ref p ∧ (SqL G.K H p xs ∨ SqT G.K H p xs) ∧ flatV x = true ∧ xs.all flatV = true ∧ k = inV x xs := by
  simp only [inF] at e
  cases q1 : seqOf ms b with
  | none => rw [q1] at e; cases e
  | some ys =>
    rw [q1] at e
    simp only at e
    cases q2 : flD a with
    | none => rw [q2] at e; cases e
    | some v => cases q3 : flDs ys with
      | none => rw [q2, q3] at e; cases e
      | some vs =>
        rw [q2, q3] at e; cases e
        obtain ⟨p, us, rfl, h, hs⟩ := seqOf_ok si q1 rb
        obtain ⟨rfl, f1⟩ := flD_ok ra q2
        obtain ⟨rfl, f2⟩ := flDs_ok hs q3
        exact ⟨p, us, rfl, h, f1, f2, rfl⟩
theorem inP_ok {G : Gx} {w : Wd} {ms : MS} {H : Hp} {a b : D} {x y : V} {k : Bool} (si : SI G w ms H) (ra : Rp G w a x) (rb : Rp G w b y) (e : inP ms a b = some k) :
    ∃ d ds, Dp G.K H x d ∧ Dp G.K H y (.list ds) ∧ SeqAt.shaped d = true ∧ SeqAt.shaped (.list ds) = true ∧ k = ds.any fun z => PyData.eqv z d := by
  simp only [inP] at e
  cases q1 : lstOf ms b with
  | none => rw [q1] at e; cases e
  | some ys =>
    rw [q1] at e
    simp only at e
    cases q2 : pdOf ms a with
    | none => rw [q2] at e; cases e
    | some p => cases q3 : pdOf ms b with
      | none => rw [q2, q3] at e; cases e
      | some z =>
        rw [q2, q3] at e
        cases z with
        | list ps =>
          simp only at e
          split at e
          · rename_i h; cases e
            exact ⟨p, ps, pdOf_ok si ra q2, pdOf_ok si rb q3, h.1, h.2, rfl⟩
          · cases e
        | _ => cases e
theorem str_one {x : Str} {c : Nat} (e : x.cps.toList = [c]) : x = ⟨#[c]⟩ := by
  cases x with
  | mk cps =>
    have : cps = #[c] := by
      apply Array.toList_inj.mp
      exact e
    rw [this]
theorem inB_cases {ms : MS} {a b : D} {k : Bool} (e : inB ms a b = some k) : inS a b = some k ∨ inF ms a b = some k ∨ inP ms a b = some k := by
  simp only [inB] at e
  cases q1 : inS a b with
  | some z => rw [q1] at e; exact .inl e
  | none =>
    rw [q1] at e; simp only at e
    cases q2 : inF ms a b with
    | some z => rw [q2] at e; exact .inr (.inl e)
    | none => rw [q2] at e; exact .inr (.inr e)
theorem inS_ok {G : Gx} {w : Wd} {a b : D} {x y : V} {k : Bool} (ra : Rp G w a x) (rb : Rp G w b y) (e : inS a b = some k) : ∃ c z, x = .str ⟨#[c]⟩ ∧ y = .str z ∧ k = decide (c ∈ z.cps.toList) := by
  cases ra with
  | str i => cases rb with
    | str j =>
      simp only [inS] at e
      split at e
      · rename_i c h
        cases e
        exact ⟨c, j, by rw [str_one h], rfl, rfl⟩
      · cases e
    | _ => cases e
  | _ => cases e
theorem op2_in {G : Gx} {X : Cx} (hK : X.K = G.K) (hu : X.A.units + 65 < cLine) : Op2 G X (compareOp .In) inD :=
  Op2.of (OpR.or op_in_sign (OpR.or op_in_seq (op_inD hu))) fun H x y Q w ms a b d si ra rb e q => by
    simp only [inD, Option.map_eq_some_iff] at e
    obtain ⟨k, e, rfl⟩ := e
    rcases inB_cases e with e | e | e
    · obtain ⟨c, z, rfl, rfl, rfl⟩ := inS_ok ra rb e
      exact .inl ⟨c, z, rfl, rfl, q.here si (.bl _)⟩
    · obtain ⟨p, xs, rfl, h, f1, f2, rfl⟩ := inF_ok si ra rb e
      exact .inr (.inl ⟨p, xs, rfl, hK ▸ h, f1, f2, q.here si (.bl _)⟩)
    · obtain ⟨p, z, h1, h2, h3, h4, rfl⟩ := inP_ok si ra rb e
      exact .inr (.inr ⟨p, z, hK ▸ h1, hK ▸ h2, h3, h4, q.here si (.bl _)⟩)
theorem op2_notin {G : Gx} {X : Cx} (hK : X.K = G.K) (hu : X.A.units + 65 < cLine) : Op2 G X (compareOp .NotIn) notinD :=
  Op2.of (OpR.or op_notIn_sign (OpR.or op_notIn_seq (op_notInD hu))) fun H x y Q w ms a b d si ra rb e q => by
    simp only [notinD, Option.map_eq_some_iff] at e
    obtain ⟨k, e, rfl⟩ := e
    rcases inB_cases e with e | e | e
    · obtain ⟨c, z, rfl, rfl, rfl⟩ := inS_ok ra rb e
      exact .inl ⟨c, z, rfl, rfl, q.here si (.bl _)⟩
    · obtain ⟨p, xs, rfl, h, f1, f2, rfl⟩ := inF_ok si ra rb e
      exact .inr (.inl ⟨p, xs, rfl, hK ▸ h, f1, f2, q.here si (.bl _)⟩)
    · obtain ⟨p, z, h1, h2, h3, h4, rfl⟩ := inP_ok si ra rb e
      exact .inr (.inr ⟨p, z, hK ▸ h1, hK ▸ h2, h3, h4, q.here si (.bl _)⟩)

/-! ### truth -/
def truD (ms : MS) : D → Option Bool
  | .non => some false
  | .bl b => some b
  | .int i => some (i != 0)
  | .str x => if x.length ≤ 16777216 then some ((x.length : Int) != 0) else none
  | d => match seqOf ms d with
    | some xs => some (!xs.isEmpty)
    | none => none
theorem Rps.empty {G : Gx} {w : Wd} {ds : List D} {vs : List V} (h : Rps G w ds vs) : ds.isEmpty = vs.isEmpty := by cases h <;> rfl
theorem truD_ok {G : Gx} {w : Wd} {ms : MS} {H : Hp} {a : D} {x : V} {k : Bool} (si : SI G w ms H) (ra : Rp G w a x) (e : truD ms a = some k) : TruV G.K x H k := by
  have sq : ∀ {d : D} {v : V}, Rp G w d v → (match seqOf ms d with | some xs => some (!xs.isEmpty) | none => none) = some k → TruV G.K v H k := fun {d v} r e => by
    cases q1 : seqOf ms d with
    | none => rw [q1] at e; cases e
    | some xs =>
      rw [q1] at e; cases e
      obtain ⟨p, us, rfl, h, hs⟩ := seqOf_ok si q1 r
      rcases h with h | h
      · exact .inl ⟨us, h, by rw [hs.empty]⟩
      · exact .inr (.inl ⟨us, h, by rw [hs.empty]⟩)
  cases ra with
  | non => cases e; rfl
  | bl b => cases e; rfl
  | int i => cases e; rfl
  | str y =>
    simp only [truD] at e
    split at e
    · rename_i h; cases e; exact ⟨by rw [sizeLine_eq]; exact h, rfl⟩
    · cases e
  | lst h hs => exact sq (.lst h hs) e
  | tup h hs => exact sq (.tup h hs) e
  | loc h => exact sq (.loc h) e
  | dic _ _ _ => cases e
  | rat _ => cases e
  | scr _ => cases e
end DL

/-! expressions -/
namespace DL
open PySem L2

def optR {α : Type} (o : Option α) (ms : MS) : R α := match o with
  | some d => .ok d ms
  | none => .stuck
@[simp] theorem optR_some {α : Type} (d : α) (ms : MS) : optR (some d) ms = .ok d ms := rfl
@[simp] theorem optR_none {α : Type} (ms : MS) : optR (none : Option α) ms = .stuck := rfl
@[simp] theorem R.bind_ok {α β : Type} (a : α) (ms : MS) (k : α → MS → R β) : (R.ok a ms).bind k = k a ms := rfl
@[simp] theorem R.bind_err {α β : Type} (c : Nat) (v : D) (ms : MS) (k : α → MS → R β) : (R.err c v ms : R α).bind k = .err c v ms := rfl
@[simp] theorem R.bind_stuck {α β : Type} (k : α → MS → R β) : (R.stuck : R α).bind k = .stuck := rfl
@[simp] theorem R.thenS_ok {α : Type} (a : α) (ms : MS) (env : DE) (k : α → MS → RS) : (R.ok a ms).thenS env k = k a ms := rfl
@[simp] theorem R.thenS_err {α : Type} (c : Nat) (v : D) (ms : MS) (env : DE) (k : α → MS → RS) : (R.err c v ms : R α).thenS env k = .err c v env ms := rfl
@[simp] theorem R.thenS_stuck {α : Type} (env : DE) (k : α → MS → RS) : (R.stuck : R α).thenS env k = .stuck := rfl

theorem Out.opt {G : Gx} {w : Wd} {ms : MS} {o : Option D} {Q : VK} {E : XK} (h : OutD G w (optR o ms) Q E) : ∃ d, o = some d ∧ Want G w ms d Q := by
  cases o with
  | some d => exact ⟨d, rfl, h⟩
  | none => exact h.elim

/-! ### names, constants -/
def sVar (i : Nat) : SE := fun env ms => match env[i]? with
  | some (some d) => .ok d ms
  | _ => .stuck
def sCst (d : D) : SE := fun _ ms => .ok d ms
section
variable {G : Gx} {X : Cx} {W : WX} {a b c e : Expr} {es : List Expr} {fa fb fc : SE} {pos : Pos}
theorem je_var {i : Nat} {x : Str} (hN : X.N[i]? = some x) (hv : Vis X.env.scope x) (hd : (x == ("__debug__" : Str)) = false) (hcd : (x == ("__classdict__" : Str)) = false) : JE G X W (.Name x pos) (sVar i) :=
  PE.imp (pe_var hN hv hd hcd) fun σ H Q ⟨w, env, ms, a, o⟩ => by
    simp only [sVar] at o
    cases q : env[i]? with
    | none => rw [q] at o; exact o.elim
    | some z =>
      cases z with
      | none => rw [q] at o; exact o.elim
      | some d =>
        rw [q] at o
        obtain ⟨v, hv, r⟩ := a.e.at_ i d q
        exact ⟨v, hv, o v H w (Wd.le.refl w) a.s r⟩
/-- a value that every world has -/
theorem je_val {d : D} {v : V} (h : PE X e (tC v)) (r : ∀ w, Rp G w d v) : JE G X W e (sCst d) :=
  PE.imp h fun σ H Q ⟨w, env, ms, a, o⟩ => o v H w (Wd.le.refl w) a.s (r w)

/-! ### two-place operators -/
def rD (G : Gx) (o : VO2) : R2 := fun x y H Q => ∃ w ms a b d, SI G w ms H ∧ Rp G w a x ∧ Rp G w b y ∧ o ms a b = some d ∧ Want G w ms d Q
theorem Op2.opR {f : Value → Value → Sem Value} {o : VO2} (h : Op2 G X f o) : OpR X f (rD G o) := fun pins s σ H x y v u Q I rx ry ⟨w, ms, a, b, d, si, ra, rb, e, q⟩ => h pins s σ H x y v u Q w ms a b d I rx ry si ra rb e q
def sBin (o : VO2) (fa fb : SE) : SE := fun env ms => (fa env ms).bind fun x ms => (fb env ms).bind fun y ms => optR (o ms x y) ms
theorem tOp_of {o : VO2} {σ : St} {H : Hp} {Q : VK} (h : tE G W (sBin o fa fb) σ H Q) : tOp (rD G o) (tE G W fa) (tE G W fb) σ H Q := by
  obtain ⟨w, env, ms, a, out⟩ := h
  refine ⟨w, env, ms, a, Out.bind out fun x ms1 v H1 w1 l1 s1 r1 out1 => ⟨w1, env, ms1, a.next l1 s1, Out.bind out1 fun y ms2 u H2 w2 l2 s2 r2 out2 => ?_⟩⟩
  obtain ⟨d, e, q⟩ := Out.opt out2
  exact ⟨w2, ms2, x, y, d, s2, r1.mono l2, r2, e, q⟩
theorem je_bin {op : Operator} {o : VO2} (ho : Op2 G X (binaryOp op) o) (ha : JE G X W a fa) (hb : JE G X W b fb) : JE G X W (.BinOp a op b pos) (sBin o fa fb) :=
  PE.imp (pe_op ho.opR ha hb) fun _ _ _ h => tOp_of h
theorem je_cmp {op : CmpOp} {o : VO2} (ho : Op2 G X (compareOp op) o) (ha : JE G X W a fa) (hb : JE G X W b fb) (hm : behindInMarks op b = false) : JE G X W (.Compare a [op] [b] pos) (sBin o fa fb) :=
  PE.imp (pe_cmpR ho.opR ha hb hm) fun _ _ _ h => tOp_of h
/-- a op1 b op2 c -/
def sChain (o o' : VO2) (fa fb fc : SE) : SE := fun env ms => (fa env ms).bind fun x ms => (fb env ms).bind fun y ms => (optR (o ms x y) ms).bind fun z ms => match z with
  | .bl true => (fc env ms).bind fun u ms => optR (o' ms y u) ms
  | .bl false => .ok (.bl false) ms
  | _ => .stuck
theorem tChain_of {o o' : VO2} {σ : St} {H : Hp} {Q : VK} (h : tE G W (sChain o o' fa fb fc) σ H Q) : tChain (rD G o) (rD G o') (tE G W fa) (tE G W fb) (tE G W fc) σ H Q := by
  obtain ⟨w, env, ms, a, out⟩ := h
  refine ⟨w, env, ms, a, Out.bind out fun x ms1 v H1 w1 l1 s1 r1 out1 => ⟨w1, env, ms1, a.next l1 s1, Out.bind out1 fun y ms2 u H2 w2 l2 s2 r2 out2 => ?_⟩⟩
  cases e : o ms2 x y with
  | none => rw [e] at out2; exact out2.elim
  | some d =>
    rw [e] at out2
    refine ⟨w2, ms2, x, y, d, s2, r1.mono l2, r2, e, fun z H3 w3 l3 s3 rz => ?_⟩
    cases rz with
    | bl k =>
      refine ⟨k, rfl, ?_⟩
      cases k with
      | true =>
        refine iteT ⟨w3, env, ms2, (a.next l1 s1).next (l2.trans l3) s3, Out.bind (Out.mono l3 out2) fun u' ms4 v4 H4 w4 l4 s4 r4 out4 => ?_⟩
        obtain ⟨d', e', q⟩ := Out.opt out4
        exact ⟨w4, ms4, y, u', d', s4, r2.mono (l3.trans l4), r4, e', q⟩
      | false =>
        exact iteF (out2 (.bl false) H3 w3 l3 s3 (.bl _))
    | _ => exact out2.elim
theorem je_chain {op op' : CmpOp} {o o' : VO2} (ho : Op2 G X (compareOp op) o) (ho' : Op2 G X (compareOp op') o') (ha : JE G X W a fa) (hb : JE G X W b fb) (hc : JE G X W c fc) (hm : lastMarks [op, op'] [b, c] = false) :
    JE G X W (.Compare a [op, op'] [b, c] pos) (sChain o o' fa fb fc) :=
  PE.imp (pe_chain ho.opR ho'.opR ha hb hc hm) fun _ _ _ h => tChain_of h

/-! ### tests -/
/-- a comparison's answer -/
def sTst (f : SE) : ST := fun env ms => (f env ms).bind fun d ms => match d with
  | .bl k => .ok k ms
  | _ => .stuck
theorem tTest_of {t : TE} {f : SE} {σ : St} {H : Hp} {Q : Bool → Hp → Prop} (ht : ∀ Q, tE G W f σ H Q → t σ H Q) (h : tT G W (sTst f) σ H Q) : tTest t σ H Q := by
  obtain ⟨w, env, ms, a, out⟩ := h
  refine ht _ ⟨w, env, ms, a, Out.bind out fun x ms1 v H1 w1 l1 s1 r1 out1 => ?_⟩
  cases r1 with
  | bl k => exact ⟨k, rfl, out1 k H1 w1 (Wd.le.refl _) s1 rfl⟩
  | _ => exact out1.elim
theorem jt_cmp {op : CmpOp} {o : VO2} (ho : Op2 G X (compareOp op) o) (ha : JE G X W a fa) (hb : JE G X W b fb) (hm : behindInMarks op b = false) : JT G X W (.Compare a [op] [b] pos) (sTst (sBin o fa fb)) :=
  PT.imp (pt_cmpR ho.opR ha hb hm) fun _ _ _ h => tTest_of (fun _ h => tOp_of h) h
theorem jt_chain {op op' : CmpOp} {o o' : VO2} (ho : Op2 G X (compareOp op) o) (ho' : Op2 G X (compareOp op') o') (ha : JE G X W a fa) (hb : JE G X W b fb) (hc : JE G X W c fc) (hm : lastMarks [op, op'] [b, c] = false) :
    JT G X W (.Compare a [op, op'] [b, c] pos) (sTst (sChain o o' fa fb fc)) :=
  PT.imp (pt_chain ho.opR ho'.opR ha hb hc hm) fun _ _ _ h => tTest_of (fun _ h => tChain_of h) h
/-- by truth -/
def sTru (f : SE) : ST := fun env ms => (f env ms).bind fun d ms => optR (truD ms d) ms
theorem jt_val (hK : X.K = G.K) (ha : JE G X W a fa) (he : ∀ whole, isTrue a X.env whole = (do let v ← whole; standAt a.pos; holding [v] (truthy v))) : JT G X W a (sTru fa) :=
  PT.imp (pt_truth ha he) fun σ H Q ⟨w, env, ms, at_, out⟩ => ⟨w, env, ms, at_, Out.bind out fun x ms1 v H1 w1 l1 s1 r1 out1 => by
    cases e : truD ms1 x with
    | none => rw [e] at out1; exact out1.elim
    | some k => rw [e] at out1; exact ⟨k, hK ▸ truD_ok s1 r1 e, out1 k H1 w1 (Wd.le.refl _) s1 rfl⟩⟩
variable {ta tb tc : ST}
def sNotT (f : ST) : ST := fun env ms => (f env ms).bind fun k ms => .ok (!k) ms
theorem jt_not (ha : JT G X W a ta) : JT G X W (.UnaryOp .Not a pos) (sNotT ta) :=
  PT.imp (pt_not ha) fun σ H Q ⟨w, env, ms, at_, out⟩ => ⟨w, env, ms, at_, Out.bind out fun x ms1 v H1 w1 l1 s1 r1 out1 => by
    subst r1; exact out1 _ H1 w1 (Wd.le.refl _) s1 rfl⟩
def sAndT (f g : ST) : ST := fun env ms => (f env ms).bind fun k ms => if k = true then g env ms else .ok false ms
def sOrT (f g : ST) : ST := fun env ms => (f env ms).bind fun k ms => if k = true then .ok true ms else g env ms
def JW (G : Gx) (X : Cx) (W : WX) (op : BoolOp) (es : List Expr) (f : ST) : Prop := ∀ pos, PW X (.BoolOp op es pos) (tT G W f)
theorem jw_one {op : BoolOp} (ha : JT G X W a ta) : JW G X W op [a] ta := fun pos => by
  cases op with
  | And => exact pw_and1 ha
  | Or => exact pw_or1 ha
theorem jw_and (ha : JT G X W a ta) (hb : JW G X W .And (b :: es) tb) : JW G X W .And (a :: b :: es) (sAndT ta tb) := fun pos =>
  PW.imp (pw_and ha (hb pos)) fun σ H Q ⟨w, env, ms, at_, out⟩ => ⟨w, env, ms, at_, Out.bind out fun x ms1 v H1 w1 l1 s1 r1 out1 => by
    subst r1
    cases x with
    | true => exact iteT ⟨w1, env, ms1, at_.next l1 s1, out1⟩
    | false => exact iteF (out1 false H1 w1 (Wd.le.refl _) s1 rfl)⟩
theorem jw_or (ha : JT G X W a ta) (hb : JW G X W .Or (b :: es) tb) : JW G X W .Or (a :: b :: es) (sOrT ta tb) := fun pos =>
  PW.imp (pw_or ha (hb pos)) fun σ H Q ⟨w, env, ms, at_, out⟩ => ⟨w, env, ms, at_, Out.bind out fun x ms1 v H1 w1 l1 s1 r1 out1 => by
    subst r1
    cases x with
    | true => exact iteT (out1 true H1 w1 (Wd.le.refl _) s1 rfl)
    | false => exact iteF ⟨w1, env, ms1, at_.next l1 s1, out1⟩⟩
theorem jt_bool {op : BoolOp} (h : JW G X W op es ta) : JT G X W (.BoolOp op es pos) ta := (h pos).pt
/-! .. as values -/
def sAndV (f g : SE) : SE := fun env ms => (f env ms).bind fun d ms => (optR (truD ms d) ms).bind fun k ms => if k = true then g env ms else .ok d ms
def sOrV (f g : SE) : SE := fun env ms => (f env ms).bind fun d ms => (optR (truD ms d) ms).bind fun k ms => if k = true then .ok d ms else g env ms
def sNotV (f : SE) : SE := fun env ms => (f env ms).bind fun d ms => (optR (truD ms d) ms).bind fun k ms => .ok (.bl (!k)) ms
def JV (G : Gx) (X : Cx) (W : WX) (op : BoolOp) (es : List Expr) (f : SE) : Prop := ∀ pos, PE X (.BoolOp op es pos) (tE G W f)
theorem jv_one {op : BoolOp} (ha : JE G X W a fa) : JV G X W op [a] fa := fun pos => pe_one ha
theorem jv_and (hK : X.K = G.K) (ha : JE G X W a fa) (hb : JV G X W .And (b :: es) fb) : JV G X W .And (a :: b :: es) (sAndV fa fb) := fun pos =>
  PE.imp (pe_andT ha (hb pos)) fun σ H Q ⟨w, env, ms, at_, out⟩ => ⟨w, env, ms, at_, Out.bind out fun x ms1 v H1 w1 l1 s1 r1 out1 => by
    cases e : truD ms1 x with
    | none => rw [e] at out1; exact out1.elim
    | some k =>
      rw [e] at out1
      refine ⟨k, hK ▸ truD_ok s1 r1 e, ?_⟩
      cases k with
      | true => exact iteT ⟨w1, env, ms1, at_.next l1 s1, out1⟩
      | false => exact iteF (out1 v H1 w1 (Wd.le.refl _) s1 r1)⟩
theorem jv_or (hK : X.K = G.K) (ha : JE G X W a fa) (hb : JV G X W .Or (b :: es) fb) : JV G X W .Or (a :: b :: es) (sOrV fa fb) := fun pos =>
  PE.imp (pe_orT ha (hb pos)) fun σ H Q ⟨w, env, ms, at_, out⟩ => ⟨w, env, ms, at_, Out.bind out fun x ms1 v H1 w1 l1 s1 r1 out1 => by
    cases e : truD ms1 x with
    | none => rw [e] at out1; exact out1.elim
    | some k =>
      rw [e] at out1
      refine ⟨k, hK ▸ truD_ok s1 r1 e, ?_⟩
      cases k with
      | true => exact iteT (out1 v H1 w1 (Wd.le.refl _) s1 r1)
      | false => exact iteF ⟨w1, env, ms1, at_.next l1 s1, out1⟩⟩
theorem je_bool {op : BoolOp} (h : JV G X W op es fa) : JE G X W (.BoolOp op es pos) fa := h pos
theorem je_not (hK : X.K = G.K) (ha : JE G X W a fa) : JE G X W (.UnaryOp .Not a pos) (sNotV fa) :=
  PE.imp (pe_notT ha) fun σ H Q ⟨w, env, ms, at_, out⟩ => ⟨w, env, ms, at_, Out.bind out fun x ms1 v H1 w1 l1 s1 r1 out1 => by
    cases e : truD ms1 x with
    | none => rw [e] at out1; exact out1.elim
    | some k => rw [e] at out1; exact ⟨k, hK ▸ truD_ok s1 r1 e, out1 _ H1 w1 (Wd.le.refl _) s1 (.bl _)⟩⟩
def sNeg (f : SE) : SE := fun env ms => (f env ms).bind fun d ms => match d with
  | .int i => .ok (.int (-i)) ms
  | _ => .stuck
theorem je_neg (ha : JE G X W a fa) : JE G X W (.UnaryOp .USub a pos) (sNeg fa) :=
  PE.imp (pe_un un_neg ha) fun σ H Q ⟨w, env, ms, at_, out⟩ => ⟨w, env, ms, at_, Out.bind out fun x ms1 v H1 w1 l1 s1 r1 out1 => by
    cases r1 with
    | int i => exact ⟨i, rfl, out1 _ H1 w1 (Wd.le.refl _) s1 (.int _)⟩
    | _ => exact out1.elim⟩
def sIte (c : ST) (f g : SE) : SE := fun env ms => (c env ms).bind fun k ms => if k = true then f env ms else g env ms
theorem je_ite (hc : JT G X W c tc) (ha : JE G X W a fa) (hb : JE G X W b fb) : JE G X W (.IfExp c a b pos) (sIte tc fa fb) :=
  PE.imp (pe_ifExp hc ha hb) fun σ H Q ⟨w, env, ms, at_, out⟩ => ⟨w, env, ms, at_, Out.bind out fun x ms1 v H1 w1 l1 s1 r1 out1 => by
    subst r1
    cases x with
    | true => exact iteT ⟨w1, env, ms1, at_.next l1 s1, out1⟩
    | false => exact iteF ⟨w1, env, ms1, at_.next l1 s1, out1⟩⟩

/-! ### lists of arguments -/
def sNil : SA := fun _ ms => .ok [] ms
def sCons (f : SE) (g : SA) : SA := fun env ms => (f env ms).bind fun d ms => (g env ms).bind fun ds ms => .ok (d :: ds) ms
theorem ja_nil : JA G X W [] sNil := PA.imp pa_nil fun σ H Q ⟨w, env, ms, at_, out⟩ => out [] H w (Wd.le.refl _) at_.s .nil
variable {ga : SA}
theorem ja_cons (ha : JE G X W a fa) (hr : JA G X W es ga) (hs : starEach (a :: es) X.env = (false, eval a X.env) :: starEach es X.env) : JA G X W (a :: es) (sCons fa ga) :=
  PA.imp (pa_cons ha hr hs) fun σ H Q ⟨w, env, ms, at_, out⟩ => ⟨w, env, ms, at_, Out.bind out fun x ms1 v H1 w1 l1 s1 r1 out1 => ⟨w1, env, ms1, at_.next l1 s1, Out.bind out1 fun xs ms2 vs H2 w2 l2 s2 r2 out2 =>
    out2 (v :: vs) H2 w2 (Wd.le.refl _) s2 (.cons (r1.mono l2) r2)⟩⟩
/-- displays -/
def sTup (g : SA) : SE := fun env ms => (g env ms).bind fun ds ms => if ds.length ≤ 1000 then .ok (.tup ds) ms else .stuck
def sLst (g : SA) : SE := fun env ms => (g env ms).bind fun ds ms => if ds.length ≤ 1000 then .ok (.lst ds) ms else .stuck
/-- .. of a mutable list -/
def sNewL (g : SA) : SE := fun env ms => (g env ms).bind fun ds ms => if ds.length ≤ 1000 then .ok (.loc ms.length) (ms ++ [.lst ds]) else .stuck
theorem k1000 {n : Nat} (h : n ≤ 1000) : n ≤ sizeLine := by rw [sizeLine_eq]; omega
theorem je_tup {k : Nat} (ha : JA G X W es ga) : JE G X W (.Tuple es k pos) (sTup ga) :=
  PE.imp (pe_tup ha) fun σ H Q ⟨w, env, ms, at_, out⟩ => ⟨w, env, ms, at_, Out.bind out fun xs ms1 vs H1 w1 l1 s1 r1 out1 => by
    split at out1
    · rename_i h
      rw [r1.length] at h
      exact ⟨k1000 h, Want.newT out1 s1 r1⟩
    · exact out1.elim⟩
theorem je_lst (ha : JA G X W es ga) : JE G X W (.List es pos) (sLst ga) :=
  PE.imp (pe_lst ha) fun σ H Q ⟨w, env, ms, at_, out⟩ => ⟨w, env, ms, at_, Out.bind out fun xs ms1 vs H1 w1 l1 s1 r1 out1 => by
    split at out1
    · rename_i h
      rw [r1.length] at h
      exact ⟨k1000 h, Want.newL out1 s1 r1⟩
    · exact out1.elim⟩
end
/-- a new mutable thing in the store -/
theorem SI.new {G : Gx} {w : Wd} {ms : MS} {H : Hp} {p : Addr} {o : HO} {m : MO} (s : SI G w ms H) (hp : H p = none) (hm : MoOk G ⟨w.B, w.as ++ [p]⟩ (upd H p o) p m) : SI G ⟨w.B, w.as ++ [p]⟩ (ms ++ [m]) (upd H p o) ∧ w.le ⟨w.B, w.as ++ [p]⟩ := by
  have l : w.le ⟨w.B, w.as ++ [p]⟩ := ⟨Same.refl _, List.prefix_append _ _⟩
  have bp : w.B p = none := s.sub.free hp
  have hw : p ∉ w.as := fun h => let ⟨u, hu⟩ := s.th p h; by rw [hp] at hu; cases hu
  refine ⟨⟨fun b u e => ?_, by simp [s.len], ?_, fun a ha => ?_, fun n a mo ha hmo => ?_⟩, l⟩
  · rw [upd_ne (ne_of_none e bp)]; exact s.sub b u e
  · show (w.as ++ [p]).Nodup
    rw [List.nodup_append]
    refine ⟨s.nd, by simp, fun a ha b hb => ?_⟩
    simp at hb; subst hb
    exact fun z => hw (z ▸ ha)
  · have ha' : a ∈ w.as ++ [p] := ha
    rcases List.mem_append.mp ha' with h | h
    · obtain ⟨u, hu⟩ := s.th a h
      exact ⟨u, by rw [upd_ne (ne_of_none hu hp)]; exact hu⟩
    · simp at h; subst h; exact ⟨o, upd_same⟩
  · by_cases hn : n < w.as.length
    · have ha' : w.as[n]? = some a := by rw [← List.getElem?_append_left (l₂ := [p]) hn]; exact ha
      have hn' : n < ms.length := by rw [← s.len]; exact hn
      have hmo' : ms[n]? = some mo := by rw [← List.getElem?_append_left (l₂ := [m]) hn']; exact hmo
      have q := s.mo n a mo ha' hmo'
      have ne : a ≠ p := fun z => hw (z ▸ List.mem_of_getElem? ha')
      cases mo with
      | dead => trivial
      | lst xs => obtain ⟨h1, vs, h2, h3⟩ := q; exact ⟨h1, vs, by rw [upd_ne ne]; exact h2, h3.mono l⟩
      | dic kds => obtain ⟨h1, kvs, h2, h3⟩ := q; exact ⟨h1, kvs, by rw [upd_ne ne]; exact h2, h3.mono l⟩
      | obj c fs => obtain ⟨h1, dx, vs, h2, h3⟩ := q; exact ⟨h1, dx, vs, by rw [upd_ne ne]; exact h2, Paired.mapP h3 fun _ _ z => ⟨z.1, z.2.mono l⟩⟩
      | hold ob => obtain ⟨h1, h2⟩ := q; exact ⟨h1, by rw [upd_ne ne]; exact h2⟩
    · have hlen : w.as.length = ms.length := s.len
      have ha' : (w.as ++ [p])[n]? = some a := ha
      rw [List.getElem?_append_right (by omega)] at ha'
      rw [List.getElem?_append_right (by omega)] at hmo
      have e0 : n - w.as.length = 0 := by
        have := List.getElem?_eq_some_iff.mp ha'
        obtain ⟨h, _⟩ := this
        simp at h
        omega
      rw [e0] at ha'
      rw [show n - ms.length = 0 by omega] at hmo
      simp at ha' hmo
      subst ha' hmo
      exact hm
theorem last_at {w : Wd} {p : Addr} {ms : MS} (h : w.as.length = ms.length) : (w.as ++ [p])[ms.length]? = some p := by rw [← h]; simp
end DL

namespace DL
open PySem L2

/-! ### the store changes at one place -/
theorem nd_get {α : Type} {l : List α} (h : l.Nodup) {i j : Nat} {a : α} (x : l[i]? = some a) (y : l[j]? = some a) : i = j := nd_ix h x y
theorem MoOk.at_ne {G : Gx} {w : Wd} {H : Hp} {a b : Addr} {o : HO} {m : MO} (ne : a ≠ b) (h : MoOk G w H a m) : MoOk G w (upd H b o) a m := by
  cases m with
  | dead => trivial
  | lst xs => obtain ⟨h1, vs, h2, h3⟩ := h; exact ⟨h1, vs, by rw [upd_ne ne]; exact h2, h3⟩
  | dic kds => obtain ⟨h1, kvs, h2, h3⟩ := h; exact ⟨h1, kvs, by rw [upd_ne ne]; exact h2, h3⟩
  | obj c fs => obtain ⟨h1, dx, vs, h2, h3⟩ := h; exact ⟨h1, dx, vs, by rw [upd_ne ne]; exact h2, h3⟩
  | hold ob => obtain ⟨h1, h2⟩ := h; exact ⟨h1, by rw [upd_ne ne]; exact h2⟩
theorem SI.put {G : Gx} {w : Wd} {ms : MS} {H : Hp} {n : Nat} {a : Addr} {o : HO} {m : MO} (s : SI G w ms H) (ha : w.as[n]? = some a) (hb : w.B a = none) (hm : MoOk G w (upd H a o) a m) : SI G w (ms.set n m) (upd H a o) := by
  refine ⟨fun b u e => ?_, by simp [s.len], s.nd, fun b hb' => ?_, fun k c mo hc hmo => ?_⟩
  · rw [upd_ne (ne_of_none e hb)]; exact s.sub b u e
  · by_cases z : b = a
    · subst z; exact ⟨o, upd_same⟩
    · rw [upd_ne z]; exact s.th b hb'
  · by_cases hk : n = k
    · subst hk
      rw [ha] at hc; cases hc
      have hl : n < ms.length := by rw [← s.len]; exact (List.getElem?_eq_some_iff.mp ha).1
      rw [List.getElem?_set_self hl] at hmo
      cases hmo
      exact hm
    · rw [List.getElem?_set_ne hk] at hmo
      have ne : c ≠ a := fun z => hk (nd_get s.nd ha (z ▸ hc))
      exact (s.mo k c mo hc hmo).at_ne ne
theorem MoOk.mono {G : Gx} {w w' : Wd} {H : Hp} {a : Addr} {m : MO} (l : w.le w') (hb : m ≠ .dead → w'.B a = none) (h : MoOk G w H a m) : MoOk G w' H a m := by
  cases m with
  | dead => trivial
  | lst xs => obtain ⟨h1, vs, h2, h3⟩ := h; exact ⟨hb (by simp), vs, h2, h3.mono l⟩
  | dic kds => obtain ⟨h1, kvs, h2, h3⟩ := h; exact ⟨hb (by simp), kvs, h2, h3.mono l⟩
  | obj c fs => obtain ⟨h1, dx, vs, h2, h3⟩ := h; exact ⟨hb (by simp), dx, vs, h2, Paired.mapP h3 fun _ _ z => ⟨z.1, z.2.mono l⟩⟩
  | hold ob => obtain ⟨h1, h2⟩ := h; exact ⟨hb (by simp), h2⟩
theorem MoOk.b {G : Gx} {w : Wd} {H : Hp} {a : Addr} {m : MO} (h : MoOk G w H a m) (hd : m ≠ .dead) : w.B a = none := by
  cases m with
  | dead => exact absurd rfl hd
  | lst xs => exact h.1
  | dic kds => exact h.1
  | obj c fs => exact h.1
  | hold ob => exact h.1
/-- a mutable thing is frozen -/
theorem SI.frz {G : Gx} {w : Wd} {ms : MS} {H : Hp} {n : Nat} {a : Addr} {o : HO} (s : SI G w ms H) (ha : w.as[n]? = some a) (hb : w.B a = none) (ho : H a = some o) : SI G ⟨upd w.B a o, w.as⟩ (ms.set n .dead) H ∧ w.le ⟨upd w.B a o, w.as⟩ := by
  have l : w.le ⟨upd w.B a o, w.as⟩ := ⟨fun b u e => by show upd w.B a o b = some u; rw [upd_ne (ne_of_none e hb)]; exact e, List.prefix_refl _⟩
  refine ⟨⟨fun b u e => ?_, by simp [s.len], s.nd, s.th, fun k c mo hc hmo => ?_⟩, l⟩
  · have e' : upd w.B a o b = some u := e
    by_cases z : b = a
    · subst z; rw [upd_same] at e'; rw [ho]; exact e'
    · rw [upd_ne z] at e'; exact s.sub b u e'
  · by_cases hk : n = k
    · subst hk
      have hl : n < ms.length := by rw [← s.len]; exact (List.getElem?_eq_some_iff.mp ha).1
      rw [List.getElem?_set_self hl] at hmo
      cases hmo
      trivial
    · rw [List.getElem?_set_ne hk] at hmo
      have ne : c ≠ a := fun z => hk (nd_get s.nd ha (z ▸ hc))
      have q := s.mo k c mo hc hmo
      exact q.mono l fun hd => by show upd w.B a o c = none; rw [upd_ne ne]; exact q.b hd

section
variable {G : Gx} {X : Cx} {W : WX} {a b c e : Expr} {es : List Expr} {fa fb fc : SE} {ga : SA} {pos : Pos}
/-- [..], a mutable list -/
theorem je_newL (ha : JA G X W es ga) : JE G X W (.List es pos) (sNewL ga) :=
  PE.imp (pe_lst ha) fun σ H Q ⟨w, env, ms, at_, out⟩ => ⟨w, env, ms, at_, Out.bind out fun xs ms1 vs H1 w1 l1 s1 r1 out1 => by
    split at out1
    · rename_i h
      rw [r1.length] at h
      refine ⟨k1000 h, fun p hp => ?_⟩
      have l : w1.le ⟨w1.B, w1.as ++ [p]⟩ := ⟨Same.refl _, List.prefix_append _ _⟩
      obtain ⟨s2, l2⟩ := s1.new (m := .lst xs) (o := .lst vs) hp ⟨s1.sub.free hp, vs, upd_same, r1.mono l⟩
      exact out1 _ _ _ l2 s2 (.loc (last_at s1.len))
    · exact out1.elim⟩
/-- a name whose mutable list is frozen as it is read -/
def sFrz (i : Nat) : SE := fun env ms => match env[i]? with
  | some (some (.loc n)) => match ms[n]? with
    | some (.lst xs) => .ok (.lst xs) (ms.set n .dead)
    | _ => .stuck
  | some (some d) => .ok d ms
  | _ => .stuck
theorem je_frz {i : Nat} {x : Str} (hN : X.N[i]? = some x) (hv : Vis X.env.scope x) (hd : (x == ("__debug__" : Str)) = false) (hcd : (x == ("__classdict__" : Str)) = false) : JE G X W (.Name x pos) (sFrz i) :=
  PE.imp (pe_var hN hv hd hcd) fun σ H Q ⟨w, env, ms, a, o⟩ => by
    simp only [sFrz] at o
    cases q : env[i]? with
    | none => rw [q] at o; exact o.elim
    | some z =>
      cases z with
      | none => rw [q] at o; exact o.elim
      | some d =>
        rw [q] at o
        obtain ⟨v, hv, r⟩ := a.e.at_ i d q
        refine ⟨v, hv, ?_⟩
        cases r with
        | @loc n p h =>
          simp only at o
          cases q2 : ms[n]? with
          | none => rw [q2] at o; exact o.elim
          | some m =>
            rw [q2] at o
            cases m with
            | lst xs =>
              obtain ⟨h1, vs, h2, h3⟩ := a.s.mo n p _ h q2
              obtain ⟨s2, l2⟩ := a.s.frz h h1 h2
              exact o _ H _ l2 s2 (.lst upd_same (h3.mono l2))
            | _ => exact o.elim
        | non => exact o _ H w (Wd.le.refl w) a.s .non
        | bl b => exact o _ H w (Wd.le.refl w) a.s (.bl _)
        | int b => exact o _ H w (Wd.le.refl w) a.s (.int _)
        | str b => exact o _ H w (Wd.le.refl w) a.s (.str _)
        | lst h hs => exact o _ H w (Wd.le.refl w) a.s (.lst h hs)
        | tup h hs => exact o _ H w (Wd.le.refl w) a.s (.tup h hs)
        | dic h e hs => exact o _ H w (Wd.le.refl w) a.s (.dic h e hs)
        | rat h => exact o _ H w (Wd.le.refl w) a.s (.rat h)
        | scr h => exact o _ H w (Wd.le.refl w) a.s (.scr h)

/-! ### a[b] -/
theorem Rps.atI {w : Wd} {ds : List D} {vs : List V} {i : Int} {d : D} (h : Rps G w ds vs) (e : L2.atI ds i = some d) : ∃ v, L2.atI vs i = some v ∧ Rp G w d v := by
  simp only [L2.atI] at e ⊢
  rw [← h.length]
  cases q : ixN ds.length i with
  | none => rw [q] at e; cases e
  | some j => rw [q] at e; exact h.get e
def idxD : VO2 := fun ms a b => match b with
  | .int i => match a with
    | .str z => if z.length ≤ 16777216 then (atI z.cps.toList i).map fun c => .str ⟨#[c]⟩ else none
    | a => match seqOf ms a with
      | some xs => atI xs i
      | none => none
  | _ => none
theorem idx_rIx {w : Wd} {ms : MS} {H : Hp} {a b d : D} {x y : V} {Q : VK} (si : SI G w ms H) (ra : Rp G w a x) (rb : Rp G w b y) (e : idxD ms a b = some d) (q : Want G w ms d Q) : rIx G.K x y H Q := by
  cases rb with
  | int i =>
    have sq : ∀ {a : D} {x : V}, Rp G w a x → (match seqOf ms a with | some xs => atI xs i | none => none) = some d → rIx G.K x (.int i) H Q := fun {a x} ra e => by
      cases q1 : seqOf ms a with
      | none => rw [q1] at e; cases e
      | some xs =>
        rw [q1] at e
        obtain ⟨p, vs, rfl, h, hs⟩ := seqOf_ok si q1 ra
        obtain ⟨v, hv, r⟩ := hs.atI e
        rcases h with h | h
        · exact .inl ⟨p, vs, i, v, rfl, rfl, h, hv, q.here si r⟩
        · exact .inr (.inl ⟨p, vs, i, v, rfl, rfl, h, hv, q.here si r⟩)
    cases ra with
    | str z =>
      simp only [idxD] at e
      split at e
      · rename_i h
        simp only [Option.map_eq_some_iff] at e
        obtain ⟨c, e, rfl⟩ := e
        exact .inr (.inr ⟨z, i, c, rfl, rfl, by rw [sizeLine_eq]; exact h, e, q.here si (.str _)⟩)
      · cases e
    | lst h hs => exact sq (.lst h hs) e
    | tup h hs => exact sq (.tup h hs) e
    | loc h => exact sq (.loc h) e
    | dic _ _ _ => cases e
    | rat _ => cases e
    | scr _ => cases e
    | non => cases e
    | bl _ => cases e
    | int _ => cases e
  | _ => cases e
def rIxD (G : Gx) : R2 := fun x y H Q => ∃ w ms a b d, SI G w ms H ∧ Rp G w a x ∧ Rp G w b y ∧ idxD ms a b = some d ∧ Want G w ms d Q
theorem je_idx (hK : X.K = G.K) (ha : JE G X W a fa) (hb : JE G X W b fb) (hs : PlainIx b) : JE G X W (.Subscript a b pos) (sBin idxD fa fb) :=
  PE.imp (pe_ix (ix_seq (X := X)) ha hb hs) fun σ H Q h => by
    obtain ⟨w, env, ms, at_, out⟩ := tOp_of h
    refine ⟨w, env, ms, at_, Out.imp out (fun v H1 ⟨w1, env1, ms1, at1, out1⟩ => ⟨w1, env1, ms1, at1, Out.imp out1 (fun u H2 ⟨w2, ms2, x, y, d, si, rx, ry, e, q⟩ => ?_) fun _ _ _ h => h⟩) fun _ _ _ h => h⟩
    rw [hK]
    exact idx_rIx si rx ry e q

/-! ### d[k] -/
def keyD : D → Option Key
  | .int i => some (.inl i)
  | .str x => some (.inr x)
  | _ => none
theorem keyD_ok {w : Wd} {d : D} {v : V} {k : Key} (r : Rp G w d v) (e : keyD d = some k) : v = kV k := by
  cases r <;> cases e <;> rfl
def dicOf (ms : MS) : D → Option (List (Key × D))
  | .dic ks vs => if ks.length = vs.length then some (ks.zip vs) else none
  | .loc n => match ms[n]? with
    | some (.dic kds) => some kds
    | _ => none
  | _ => none
theorem kd_zip {w : Wd} : ∀ {kvs : List (Key × V)} {vs : List D}, Rps G w vs (kvs.map (·.2)) → KD G w ((kvs.map (·.1)).zip vs) kvs
  | [], _, h => by cases h; exact .nil
  | (k, v) :: r, _, h => by cases h with | cons h hs => exact .cons ⟨rfl, h⟩ (kd_zip hs)
theorem dicOf_ok {w : Wd} {ms : MS} {H : Hp} {d : D} {v : V} {kds : List (Key × D)} (si : SI G w ms H) (r : Rp G w d v) (e : dicOf ms d = some kds) : ∃ a kvs, v = .ref a ∧ H a = some (.dK kvs) ∧ KD G w kds kvs := by
  cases r with
  | @dic a kvs ks vs h e1 hs =>
    simp only [dicOf] at e
    split at e
    · cases e; subst e1; exact ⟨a, kvs, rfl, si.sub _ _ h, kd_zip hs⟩
    · cases e
  | @loc n a h =>
    simp only [dicOf] at e
    cases q : ms[n]? with
    | none => rw [q] at e; cases e
    | some m =>
      rw [q] at e
      cases m with
      | dic x => cases e; obtain ⟨_, kvs, h2, h3⟩ := si.mo n a _ h q; exact ⟨a, kvs, rfl, h2, h3⟩
      | _ => cases e
  | _ => cases e
def valD (kds : List (Key × D)) (k : Key) : Option D := (kds.find? fun kv => decide (kv.1 = k)).map (·.2)
theorem valD_cons (p : Key × D) (r : List (Key × D)) (k : Key) : valD (p :: r) k = if p.1 = k then some p.2 else valD r k := by
  unfold valD
  rw [List.find?_cons]
  by_cases h : p.1 = k <;> simp [h]
theorem kd_val {w : Wd} {k : Key} : ∀ {kds : List (Key × D)} {kvs : List (Key × V)}, KD G w kds kvs → (∀ d, valD kds k = some d → ∃ v, valV kvs k = some v ∧ Rp G w d v) ∧ (valD kds k = none → valV kvs k = none)
  | _, _, .nil => ⟨fun d e => (by cases e), fun _ => rfl⟩
  | _, _, .cons (a := p) (b := q) h hs => by
    obtain ⟨i1, i2⟩ := kd_val (k := k) hs
    rw [valD_cons]
    by_cases e : p.1 = k
    · rw [if_pos e, valV_pos (h.1.symm.trans e)]
      exact ⟨fun d z => (by cases z; exact ⟨_, rfl, h.2⟩), fun z => (by cases z)⟩
    · rw [if_neg e, valV_neg (fun z => e (h.1.trans z))]
      exact ⟨i1, i2⟩
def dgetD : VO2 := fun ms a b => (dicOf ms a).bind fun kds => (keyD b).bind fun k => valD kds k
/-- a[b] of a list, tuple, text or dict -/
def atD : VO2 := fun ms a b => match dicOf ms a with
  | some _ => dgetD ms a b
  | none => idxD ms a b
theorem PE.or {t t' : TE} (h : PE X e t) (h' : PE X e t') : PE X e (fun σ H Q => t σ H Q ∨ t' σ H Q) := ⟨fun pins s σ H Q I q => q.elim (h.run pins s σ H Q I) (h'.run pins s σ H Q I)⟩
theorem je_at (hK : X.K = G.K) (hu : X.A.units + 1 < cLine) (ha : JE G X W a fa) (hb : JE G X W b fb) (hs : PlainIx b) : JE G X W (.Subscript a b pos) (sBin atD fa fb) :=
  PE.imp (PE.or (pe_ix (ix_seq (X := X)) ha hb hs) (pe_dget hu ha hb hs)) fun σ H Q ⟨w, env, ms, at_, out⟩ => by
    simp only [sBin] at out
    cases q : fa env ms with
    | stuck => rw [q] at out; exact out.elim
    | err c x m => rw [q] at out; exact .inl ⟨w, env, ms, at_, by rw [q]; exact out⟩
    | ok d m =>
      rw [q] at out
      simp only [R.bind_ok] at out
      cases q1 : fb env m with
      | stuck => rw [q1] at out; exact out.elim
      | err c x m1 =>
        rw [q1] at out
        refine .inl ⟨w, env, ms, at_, ?_⟩
        rw [q]
        exact fun v H1 w1 l1 s1 r1 => ⟨w1, env, m, at_.next l1 s1, by rw [q1]; exact Out.mono l1 out⟩
      | ok d2 m2 =>
        rw [q1] at out
        simp only [R.bind_ok] at out
        obtain ⟨r, e, k⟩ := Out.opt out
        unfold atD at e
        cases q2 : dicOf m2 d with
        | none =>
          rw [q2] at e
          refine .inl ⟨w, env, ms, at_, ?_⟩
          rw [q]
          intro v H1 w1 l1 s1 r1
          refine ⟨w1, env, m, at_.next l1 s1, ?_⟩
          rw [q1]
          intro v2 H2 w2 l2 s2 r2
          rw [hK]
          exact idx_rIx s2 (r1.mono l2) r2 e (fun v' H' w' l' => k v' H' w' (l1.trans (l2.trans l')))
        | some kds =>
          rw [q2] at e
          refine .inr ⟨w, env, ms, at_, ?_⟩
          rw [q]
          intro v H1 w1 l1 s1 r1
          refine ⟨w1, env, m, at_.next l1 s1, ?_⟩
          rw [q1]
          intro v2 H2 w2 l2 s2 r2
          unfold dgetD at e
          rw [q2] at e
          simp only [Option.bind_some] at e
          cases q3 : keyD d2 with
          | none => rw [q3] at e; cases e
          | some ky =>
            rw [q3] at e
            obtain ⟨p, kvs, rfl, h, kd⟩ := dicOf_ok s2 (r1.mono l2) q2
            obtain rfl := keyD_ok r2 q3
            obtain ⟨u, hu', ru⟩ := (kd_val kd).1 _ e
            exact ⟨p, u, rfl, hu' ▸ DGet.k h, k u H2 w2 (l1.trans l2) s2 ru⟩

/-! ### a[lo:hi] -/
abbrev SO := DE → MS → R (Option Int)
def JO (G : Gx) (X : Cx) (W : WX) (e : Option Expr) (f : SO) : Prop := PO X e (fun σ H Q => ∃ w env ms, At G w env ms σ H ∧ Out G w (fun _ (a b : Option Int) => a = b) (f env ms) Q (fun c d H' => W c d σ H'))
def sNoPart : SO := fun _ ms => .ok none ms
def sPart (f : SE) : SO := fun env ms => (f env ms).bind fun d ms => match d with
  | .int i => .ok (some i) ms
  | _ => .stuck
theorem PO.imp {e : Option Expr} {t t' : TO} (h : PO X e t) (k : ∀ σ H Q, t' σ H Q → t σ H Q) : PO X e t' := ⟨fun pins s σ H Q I q => h.run pins s σ H Q I (k _ _ _ q)⟩
theorem jo_none : JO G X W none sNoPart := PO.imp po_none fun σ H Q ⟨w, env, ms, at_, out⟩ => out none H w (Wd.le.refl w) at_.s rfl
theorem jo_some (ha : JE G X W a fa) : JO G X W (some a) (sPart fa) := PO.imp (po_some ha) fun σ H Q ⟨w, env, ms, at_, out⟩ => ⟨w, env, ms, at_, Out.bind out fun x ms1 v H1 w1 l1 s1 r1 out1 => by
    cases r1 with
    | int i => exact ⟨i, rfl, out1 _ H1 w1 (Wd.le.refl _) s1 rfl⟩
    | _ => exact out1.elim⟩
def cutL {α : Type} (xs : List α) (lo hi : Option Int) : List α := (xs.drop (HT.sIx xs.length 0 lo)).take (HT.sIx xs.length xs.length hi - HT.sIx xs.length 0 lo)
theorem Rps.cut {w : Wd} {ds : List D} {vs : List V} (h : Rps G w ds vs) (lo hi : Option Int) : Rps G w (cutL ds lo hi) (cutV vs lo hi) := by
  simp only [cutL, cutV, h.length]
  exact (h.drop _).take _
def slcD (ms : MS) (d : D) (lo hi : Option Int) : Option D := match d with
  | .str z => if z.length ≤ 16777216 then some (.str (cutS z lo hi)) else none
  | .tup xs => some (.tup (cutL xs lo hi))
  | d => match lstOf ms d with
    | some xs => some (.lst (cutL xs lo hi))
    | none => none
theorem cut_whole {α : Type} {xs : List α} {lo hi : Option Int} (h : HT.sIx xs.length 0 lo = 0 ∧ HT.sIx xs.length xs.length hi = xs.length) : cutL xs lo hi = xs := by
  simp [cutL, h.1, h.2]
theorem slc_r {w : Wd} {ms : MS} {H : Hp} {a d : D} {x : V} {lo hi : Option Int} {Q : VK} (si : SI G w ms H) (ra : Rp G w a x) (e : slcD ms a lo hi = some d) (q : Want G w ms d Q) : rSlS x lo hi H Q ∨ rSlA G.K x lo hi H Q ∨ rSlL G.K x lo hi H Q := by
  have sq : ∀ {a : D} {x : V}, Rp G w a x → (match lstOf ms a with | some xs => some (.lst (cutL xs lo hi)) | none => none) = some d → rSlL G.K x lo hi H Q := fun {a x} ra e => by
      cases q1 : lstOf ms a with
      | none => rw [q1] at e; cases e
      | some xs =>
        rw [q1] at e; cases e
        obtain ⟨p, vs, rfl, h, hs⟩ := lstOf_ok si q1 ra
        exact ⟨p, vs, rfl, SqL.of h, q.newL si (hs.cut lo hi)⟩
  cases ra with
  | str z =>
    simp only [slcD] at e
    split at e
    · rename_i h; cases e
      exact .inl ⟨z, rfl, by rw [sizeLine_eq]; exact h, q.here si (.str _)⟩
    · cases e
  | tup h hs =>
    cases e
    refine .inr (.inl ⟨_, _, rfl, tq_of si h, fun z => ?_, fun z => q.newT si (hs.cut lo hi)⟩)
    rw [← hs.length] at z
    rw [cut_whole z] at q
    exact q.here si (.tup h hs)
  | lst h hs => exact .inr (.inr (sq (.lst h hs) e))
  | loc h => exact .inr (.inr (sq (.loc h) e))
  | dic _ _ _ => cases e
  | rat _ => cases e
  | scr _ => cases e
  | non => cases e
  | bl _ => cases e
  | int _ => cases e
def sSlc (fa : SE) (fl fh : SO) : SE := fun env ms => (fa env ms).bind fun d ms => (fl env ms).bind fun lo ms => (fh env ms).bind fun hi ms => optR (slcD ms d lo hi) ms
theorem je_slc {lo hi : Option Expr} {fl fh : SO} {p2 : Pos} (hK : X.K = G.K) (ha : JE G X W a fa) (hl : JO G X W lo fl) (hh : JO G X W hi fh) : JE G X W (.Subscript a (.Slice lo hi none p2) pos) (sSlc fa fl fh) :=
  PE.imp (pe_slice (SlR.or sl_str (SlR.or sl_tupA sl_list)) ha hl hh) fun σ H Q ⟨w, env, ms, at_, out⟩ => ⟨w, env, ms, at_, Out.bind out fun x ms1 v H1 w1 l1 s1 r1 out1 => ⟨w1, env, ms1, at_.next l1 s1, Out.bind out1 fun lo ms2 lo' H2 w2 l2 s2 r2 out2 =>
    ⟨w2, env, ms2, (at_.next l1 s1).next l2 s2, Out.bind out2 fun hi ms3 hi' H3 w3 l3 s3 r3 out3 => by
      subst r2 r3
      obtain ⟨d, e, q⟩ := Out.opt out3
      rw [hK]
      exact slc_r s3 (r1.mono (l2.trans l3)) e q⟩⟩⟩

/-! ### calls of built-ins -/
abbrev VOn := MS → List D → Option D
def CallD (G : Gx) (X : Cx) (f : Value) (o : VOn) : Prop :=
  ∀ (pins : List (Addr × Obj)) (s : Shared) (σ : St) (H : Hp) (xs : List V) (us : List Value) (Q : VK) (w : Wd) (ms : MS) (ds : List D) (d : D), Inv X pins σ H s → Vals xs us → SI G w ms H → Rps G w ds xs → o ms ds = some d → Want G w ms d Q →
    wpAny (model X.prog X.w) X.A (call f us) (EP X pins σ Q) X.xe s
theorem CallD.of {f : Value} {r : List V → Hp → VK → Prop} {o : VOn} (h : CallR X f r) (k : ∀ (H : Hp) (xs : List V) (Q : VK) (w : Wd) (ms : MS) (ds : List D) (d : D), SI G w ms H → Rps G w ds xs → o ms ds = some d → Want G w ms d Q → r xs H Q) : CallD G X f o :=
  fun pins s σ H xs us Q w ms ds d I r si rd e q => h pins s σ H xs us Q I r (k H xs Q w ms ds d si rd e q)
def rDn (G : Gx) (o : VOn) : List V → Hp → VK → Prop := fun xs H Q => ∃ w ms ds d, SI G w ms H ∧ Rps G w ds xs ∧ o ms ds = some d ∧ Want G w ms d Q
theorem CallD.callR {f : Value} {o : VOn} (h : CallD G X f o) : CallR X f (rDn G o) := fun pins s σ H xs us Q I r ⟨w, ms, ds, d, si, rd, e, q⟩ => h pins s σ H xs us Q w ms ds d I r si rd e q
def sBif (o : VOn) (ga : SA) : SE := fun env ms => (ga env ms).bind fun ds ms => optR (o ms ds) ms
theorem tCB_of {o : VOn} {σ : St} {H : Hp} {Q : VK} (h : tE G W (sBif o ga) σ H Q) : tCB (rDn G o) (tA G W ga) σ H Q := by
  obtain ⟨w, env, ms, a, out⟩ := h
  refine ⟨w, env, ms, a, Out.bind out fun x ms1 v H1 w1 l1 s1 r1 out1 => ?_⟩
  obtain ⟨d, e, q⟩ := Out.opt out1
  exact ⟨w1, ms1, x, d, s1, r1, e, q⟩
theorem je_callB {x : Str} {id : String} {o : VOn} {p : Pos} (hc : CallD G X (.builtin id) o) (hg : Gl X x) (hm : X.mg x = none) (hv : bootBuiltins x = some (.builtin id)) (ha : JA G X W (e :: es) ga) (hn : x ≠ "__name__") (hdb : (x == ("__debug__" : Str)) = false)
    (he : starEach (e :: es) X.env = (false, eval e X.env) :: starEach es X.env) (hpl : (backTo pos (starEach es X.env)).any (·.1) = false) : JE G X W (.Call (.Name x p) (e :: es) [] pos) (sBif o ga) :=
  PE.imp (pe_callB hc.callR hg hm hv ha hn hdb he hpl) fun _ _ _ h => tCB_of h
theorem je_callTy {x : Str} {T : String} {o : VOn} {p : Pos} (hc : CallD G X (.type T) o) (hg : Gl X x) (hm : X.mg x = none) (hv : bootBuiltins x = some (.type T)) (ha : JA G X W (e :: es) ga) (hn : x ≠ "__name__") (hdb : (x == ("__debug__" : Str)) = false)
    (he : starEach (e :: es) X.env = (false, eval e X.env) :: starEach es X.env) (hpl : (backTo pos (starEach es X.env)).any (·.1) = false) : JE G X W (.Call (.Name x p) (e :: es) [] pos) (sBif o ga) :=
  PE.imp (pe_callTy hc.callR hg hm hv ha hn hdb he hpl) fun _ _ _ h => tCB_of h

/-! len, tuple, list, all, any, int -/
def lenD : VOn := fun ms ds => match ds with
  | [.str z] => if z.length ≤ 16777216 then some (.int z.length) else none
  | [d] => (seqOf ms d).map fun xs => .int xs.length
  | _ => none
theorem len_tail {ms : MS} {d r : D} (hs : ∀ z, d ≠ .str z) (e : lenD ms [d] = some r) : ∃ xs, seqOf ms d = some xs ∧ r = .int xs.length := by
  cases d with
  | str z => exact absurd rfl (hs z)
  | _ =>
    simp only [lenD, Option.map_eq_some_iff] at e
    obtain ⟨xs, e, rfl⟩ := e
    exact ⟨xs, e, rfl⟩
theorem call_lenD (hK : X.K = G.K) : CallD G X (.builtin "len") lenD := CallD.of L2.call_len fun H xs Q w ms ds d si rd e q => by
  cases rd with
  | nil => cases e
  | cons r rs => cases rs with
    | cons _ _ => simp only [lenD] at e; cases e
    | nil =>
      cases r with
      | str z =>
        simp only [lenD] at e
        split at e
        · rename_i h; cases e
          exact ⟨.str z, _, rfl, ⟨by rw [sizeLine_eq]; exact h, rfl⟩, q.here si (.int _)⟩
        · cases e
      | non => cases e
      | bl _ => cases e
      | int _ => cases e
      | dic _ _ _ => cases e
      | rat _ => cases e
      | scr _ => cases e
      | lst h hs =>
        obtain ⟨ys, e1, rfl⟩ := len_tail (fun z q => by cases q) e
        obtain ⟨p, vs, e2, h', hs'⟩ := seqOf_ok si e1 (.lst h hs)
        cases e2
        refine ⟨_, _, rfl, ?_, q.here si (.int _)⟩
        rw [hK]
        rcases h' with h' | h'
        · exact .inl ⟨vs, h', hs'.length⟩
        · exact .inr ⟨vs, h', hs'.length⟩
      | tup h hs =>
        obtain ⟨ys, e1, rfl⟩ := len_tail (fun z q => by cases q) e
        obtain ⟨p, vs, e2, h', hs'⟩ := seqOf_ok si e1 (.tup h hs)
        cases e2
        refine ⟨_, _, rfl, ?_, q.here si (.int _)⟩
        rw [hK]
        rcases h' with h' | h'
        · exact .inl ⟨vs, h', hs'.length⟩
        · exact .inr ⟨vs, h', hs'.length⟩
      | loc h =>
        obtain ⟨ys, e1, rfl⟩ := len_tail (fun z q => by cases q) e
        obtain ⟨p, vs, e2, h', hs'⟩ := seqOf_ok si e1 (.loc h)
        cases e2
        refine ⟨_, _, rfl, ?_, q.here si (.int _)⟩
        rw [hK]
        rcases h' with h' | h'
        · exact .inl ⟨vs, h', hs'.length⟩
        · exact .inr ⟨vs, h', hs'.length⟩
def tupleD : VOn := fun ms ds => match ds with
  | [d] => (seqOf ms d).map .tup
  | _ => none
def listD : VOn := fun ms ds => match ds with
  | [d] => (seqOf ms d).map .lst
  | _ => none
theorem call_tupleD (hK : X.K = G.K) : CallD G X (.type "tuple") tupleD := CallD.of call_tuple_of fun H xs Q w ms ds d si rd e q => by
  cases rd with
  | nil => cases e
  | cons r rs => cases rs with
    | cons _ _ => simp only [tupleD] at e; cases e
    | nil =>
      simp only [tupleD, Option.map_eq_some_iff] at e
      obtain ⟨ys, e1, rfl⟩ := e
      rename_i z v
      cases z with
      | tup zs =>
        simp only [seqOf, Option.some.injEq] at e1
        subst e1
        cases r with
        | tup h hs => exact ⟨_, _, rfl, .inr ⟨hK ▸ tq_of si h, q.here si (.tup h hs)⟩⟩
      | _ =>
        simp only [seqOf] at e1
        obtain ⟨p, vs, rfl, h, hs⟩ := lstOf_ok si e1 r
        exact ⟨p, vs, rfl, .inl ⟨SqL.of h, q.newT si hs⟩⟩
theorem call_listD (hK : X.K = G.K) : CallD G X (.type "list") listD := CallD.of call_list_of fun H xs Q w ms ds d si rd e q => by
  cases rd with
  | nil => cases e
  | cons r rs => cases rs with
    | cons _ _ => simp only [listD] at e; cases e
    | nil =>
      simp only [listD, Option.map_eq_some_iff] at e
      obtain ⟨ys, e1, rfl⟩ := e
      obtain ⟨p, vs, rfl, h, hs⟩ := seqOf_ok si e1 r
      exact ⟨p, vs, rfl, hK ▸ h, q.newL si hs⟩
def blsD : List D → Option (List Bool)
  | [] => some []
  | .bl b :: ds => (blsD ds).map (b :: ·)
  | _ => none
theorem blsD_ok {w : Wd} : ∀ {ds : List D} {vs : List V} {bs : List Bool}, Rps G w ds vs → blsD ds = some bs → vs = bs.map V.bl
  | _, _, _, .nil, e => by cases e; rfl
  | _, _, _, .cons (d := d) (ds := ds) h hs, e => by
    cases h with
    | bl b =>
      simp only [blsD, Option.map_eq_some_iff] at e
      obtain ⟨bs, e, rfl⟩ := e
      rw [blsD_ok hs e]; rfl
    | _ => simp only [blsD] at e; cases e
def allD : VOn := fun ms ds => match ds with
  | [d] => match lstOf ms d with
    | some xs => (blsD xs).map fun bs => .bl (bs.all id)
    | none => none
  | _ => none
def anyD : VOn := fun ms ds => match ds with
  | [d] => match lstOf ms d with
    | some xs => (blsD xs).map fun bs => .bl (bs.any id)
    | none => none
  | _ => none
theorem call_allD (hc : X.calm = true) : CallD G X (.builtin "all") allD := CallD.of (cr_all hc) fun H xs Q w ms ds d si rd e q => by
  cases rd with
  | nil => cases e
  | cons r rs => cases rs with
    | cons _ _ => simp only [allD] at e; cases e
    | nil =>
      rename_i z v
      simp only [allD] at e
      cases q1 : lstOf ms z with
      | none => rw [q1] at e; cases e
      | some ys =>
        rw [q1] at e
        simp only [Option.map_eq_some_iff] at e
        obtain ⟨bs, e, rfl⟩ := e
        obtain ⟨p, vs, rfl, h, hs⟩ := lstOf_ok si q1 r
        rw [blsD_ok hs e] at h
        exact ⟨p, bs, rfl, SqL.of h, q.here si (.bl _)⟩
theorem call_anyD (hc : X.calm = true) : CallD G X (.builtin "any") anyD := CallD.of (cr_any hc) fun H xs Q w ms ds d si rd e q => by
  cases rd with
  | nil => cases e
  | cons r rs => cases rs with
    | cons _ _ => simp only [anyD] at e; cases e
    | nil =>
      rename_i z v
      simp only [anyD] at e
      cases q1 : lstOf ms z with
      | none => rw [q1] at e; cases e
      | some ys =>
        rw [q1] at e
        simp only [Option.map_eq_some_iff] at e
        obtain ⟨bs, e, rfl⟩ := e
        obtain ⟨p, vs, rfl, h, hs⟩ := lstOf_ok si q1 r
        rw [blsD_ok hs e] at h
        exact ⟨p, bs, rfl, SqL.of h, q.here si (.bl _)⟩
def intD : VOn := fun _ ds => match ds with
  | [.int i] => some (.int i)
  | [.bl b] => some (.int (if b then 1 else 0))
  | [.str x] => if x.length ≤ 640 then (PySem.intText? x).map .int else none
  | _ => none
theorem call_intD : CallD G X (.type "int") intD := CallD.of (CallR.or call_int1 call_int_str) fun H xs Q w ms ds d si rd e q => by
  cases rd with
  | nil => cases e
  | cons r rs => cases rs with
    | cons _ _ => cases r <;> simp only [intD] at e <;> cases e
    | nil =>
      cases r with
      | int i => cases e; exact .inl (.inl ⟨i, rfl, q.here si (.int _)⟩)
      | bl b => cases e; exact .inl (.inr ⟨b, rfl, q.here si (.int _)⟩)
      | str x =>
        simp only [intD] at e
        split at e
        · rename_i h
          simp only [Option.map_eq_some_iff] at e
          obtain ⟨n, e, rfl⟩ := e
          exact .inr ⟨x, n, rfl, e, h, q.here si (.int _)⟩
        · cases e
      | _ => cases e
def strD : VOn := fun _ ds => match ds with
  | [.int i] => if i.natAbs.log2 < 1920 then some (.str (toString i)) else none
  | _ => none
theorem call_strD : CallD G X (.type "str") strD := CallD.of call_str_int fun H xs Q w ms ds d si rd e q => by
  cases rd with
  | nil => cases e
  | cons r rs => cases rs with
    | cons _ _ => cases r <;> simp only [strD] at e <;> cases e
    | nil =>
      cases r with
      | int i =>
        simp only [strD] at e
        split at e
        · rename_i h; cases e
          exact ⟨i, rfl, h, q.here si (.str _)⟩
        · cases e
      | _ => cases e

/-! ### isinstance(e, T), T a built-in class -/
def tyN (ms : MS) : D → Option String
  | .non => some "NoneType"
  | .bl _ => some "bool"
  | .int _ => some "int"
  | .str _ => some "str"
  | .lst _ => some "list"
  | .tup _ => some "tuple"
  | .dic _ _ => some "dict"
  | .loc n => match ms[n]? with
    | some (.lst _) => some "list"
    | some (.dic _) => some "dict"
    | _ => none
  | _ => none
theorem tyN_ok {w : Wd} {ms : MS} {H : Hp} {d : D} {v : V} {t : String} (si : SI G w ms H) (r : Rp G w d v) (e : tyN ms d = some t) : TyX G.K H v (.type t) := by
  cases r with
  | non => cases e; exact .base .non
  | bl b => cases e; exact .base (.bl b)
  | int b => cases e; exact .base (.int b)
  | str b => cases e; exact .base (.str b)
  | lst h hs => cases e; exact .base (.lst (si.sub _ _ h))
  | tup h hs =>
    cases e
    rcases tq_of si h with (h | ⟨o, h⟩) | ⟨o, its, n, h1, h2, _⟩
    · exact .base (.tup h)
    · exact .fTuple h
    · exact .kTuple h1 h2
  | dic h _ _ => cases e; exact .base (.dK (si.sub _ _ h))
  | rat h => cases e
  | scr h => cases e
  | @loc n a h =>
    simp only [tyN] at e
    cases q : ms[n]? with
    | none => rw [q] at e; cases e
    | some m =>
      rw [q] at e
      cases m with
      | lst xs => cases e; obtain ⟨_, vs, h2, _⟩ := si.mo n a _ h q; exact .base (.lst h2)
      | dic xs => cases e; obtain ⟨_, vs, h2, _⟩ := si.mo n a _ h q; exact .base (.dK h2)
      | _ => cases e
def isiB (T : String) (ms : MS) (d : D) : Option Bool := match tyN ms d with
  | some t => kitB t T
  | none => (match d with
    | .rat _ _ => if tyL.contains T = true then some false else none
    | _ => none)
end
end DL

/-! calls and defs -/
namespace DL
open PySem L2 PyProof.Rows PySem.Spec

/-- a def's promise -/
def spF (G : Gx) (F : SF) (n : Nat) : Sp := fun vs H Q E => ∃ w ms ds, SI G w ms H ∧ Rps G w ds vs ∧ ds.length = n ∧ OutD G w (F ds ms) Q E

/-! ### a def that is called where no repr is under way -/
structure FnG (P : Program) (w : World) (K : PySem.W.Frag) (mg : Str → Option Value) (base : Heap) (k : Nat) (f : Addr) (fd : FuncData) (ps : List Str) (sp : Sp) : Prop where
  len : ∀ vs H Q E, sp vs H Q E → vs.length = ps.length
  run : ∀ (A : Around) (fr : List Env) (s : Shared) (H : Hp) (args : Args) (us : List Value) (vs : List V) (Q : VK) (E : XK), A.guards = some [] → Room k A → Env0 P w K mg base A fr s H → BindsTo s fd args (ps.zip us) → Vals vs us → sp vs H Q E →
    codeAny (model P w) A (.call (.ref f) args) (CR (L2.CX P w) fr P w H s Q E) s
theorem FnG.of {P : Program} {w : World} {K : PySem.W.Frag} {mg : Str → Option Value} {base : Heap} {k : Nat} {f : Addr} {fd : FuncData} {ps : List Str} {sp : Sp} (F : FnOk P w K mg base (L2.CX P w) k f fd ps sp) : FnG P w K mg base k f fd ps sp :=
  ⟨F.len, fun A fr s H args us vs Q E _ hr e0 b r h => F.run A fr s H args us vs Q E hr e0 b r h⟩
theorem FnG.imp {P : Program} {w : World} {K : PySem.W.Frag} {mg : Str → Option Value} {base : Heap} {k : Nat} {f : Addr} {fd : FuncData} {ps : List Str} {sp sp' : Sp} (F : FnG P w K mg base k f fd ps sp) (h : ∀ vs H Q E, sp' vs H Q E → sp vs H Q E) : FnG P w K mg base k f fd ps sp' :=
  ⟨fun vs H Q E z => F.len vs H Q E (h _ _ _ _ z), fun A fr s H args us vs Q E g hr e0 b r z => F.run A fr s H args us vs Q E g hr e0 b r (h _ _ _ _ z)⟩
theorem FnG.mono {P : Program} {w : World} {K : PySem.W.Frag} {mg : Str → Option Value} {base : Heap} {j k : Nat} {f : Addr} {fd : FuncData} {ps : List Str} {sp : Sp} (F : FnG P w K mg base j f fd ps sp) (h : j ≤ k) : FnG P w K mg base k f fd ps sp :=
  ⟨F.len, fun A fr s H args us vs Q E g hr e0 b r z => F.run A fr s H args us vs Q E g (hr.mono h) e0 b r z⟩
/-- a def of the text, with any defaults -/
structure FunE (K : PySem.W.Frag) (x qual : Str) (st : Stmt) (f : Addr) (fd : FuncData) : Prop where
  ex : ∃ (oc : Value) (od : Option Addr) (dV kV doc pm : Value) (an : Option Addr) (cdv ct : Value) (osl : Array (Option Value)),
    fd = PySem.W.fnOf x qual (defArgs st) (defBody st) (defScope st) dV kV doc pm an cdv ct ∧ K.lookup f = some ⟨oc, od, .func fd, osl⟩ ∧ PySem.W.codeIn K cdv qual = true
theorem funE {K : PySem.W.Frag} {x qual : Str} {st : Stmt} {f : Addr} {fd : FuncData} (h : Fun K x qual st f fd) : FunE K x qual st f fd := by
  obtain ⟨oc, od, kV, doc, pm, an, cdv, ct, osl, e, lk, hcd⟩ := h.ex
  exact ⟨oc, od, _, kV, doc, pm, an, cdv, ct, osl, e, lk, hcd⟩
theorem funDE {K : PySem.W.Frag} {x qual : Str} {st : Stmt} {f : Addr} {fd : FuncData} {dvs : List V} {kws : List (Str × V)} (F : FunD K x qual (defArgs st) (defBody st) (defScope st) dvs kws f fd) : FunE K x qual st f fd := by
  obtain ⟨oc, od, dV, kV, doc, pm0, an, cdv, ct, osl, e, lk, hcd, hD, hK⟩ := F.ex
  exact ⟨oc, od, dV, kV, doc, pm0, an, cdv, ct, osl, e, lk, hcd⟩
theorem fnG_of {P : Program} {w : World} {K : PySem.W.Frag} {mg : Str → Option Value} {base : Heap} {k : Nat} {x qual : Str} {st : Stmt} {f : Addr} {fd : FuncData} {N ps : List Str} {sp : Sp} (Fu : FunE K x qual st f fd) (Sc : FnScope N ps (defScope st))
    (len : ∀ vs H Q E, sp vs H Q E → vs.length = ps.length)
    (hbody : ∀ (cdv : Value) (A : Around) (fr : List Env) (s : Shared) (H : Hp) (vs : List V) (Q : VK) (E : XK), A.guards = some [] → Room k (A.deeper (envOfC qual (defScope st) s.heap.objs.size f cdv)) → sp vs H Q E →
      ∃ t, PSs (cxOf (L2.CX P w) P w K mg base N qual (defScope st) f cdv A fr s H E) (defBody st) t ∧ t { nx := fun _ H' => Q .non H', rt := Q } (L2.start N vs) H) :
    FnG P w K mg base (k + 1) f fd ps sp := by
  refine ⟨len, fun A fr s H args us vs Q E hgd room env0 hbind rel hsp => ?_⟩
  obtain ⟨oc, od, dV, kV, doc, pm, an, cdv, ct, osl, rfl, hlook, hcode⟩ := Fu.ex
  have vlen := len vs H Q E hsp
  have old : ∀ b o, base.get? b = some o → s.heap.get? b = some o := fun b o z => (env0.bs b o z).1
  have KIn : K.In s.heap := env0.mod.kin.keeps old
  have free : s.heap.NoLimit := env0.mod.nolimit.keeps old
  have kinds : ∀ y ∈ ps.zip us, (defScope st).names.lookup y.1 = some .local ∨ ((defScope st).names.lookup y.1 = some .cell ∧ ((cellsFrom (s.heap.objs.size + 1) (defScope st).names []).lookup y.1).isSome = true) := by
    rintro ⟨n, v⟩ hy
    cases Sc.par n (List.of_mem_zip hy).1 with
    | inl z => exact .inl z
    | inr z => exact .inr ⟨z, PySem.W.cellsFrom_some _ _ _ (.inl z)⟩
  refine codeAny_call_function room.depth (KIn _ _ hlook) rfl Sc.co Sc.gen rfl (PySem.W.codeRec_of KIn hcode) (hbind _ _ _ _ ?_)
  refine wpAny_newFunctionEnv_cells Sc.kind kinds fun env he s1 entered => ?_
  subst he
  refine ⟨free.keeps entered.toInCall.keep, codeAny_func ?_⟩
  obtain ⟨t, derivation, reading⟩ := hbody cdv A fr s H vs Q E hgd (room.deeper _) hsp
  have start_inv : Inv (cxOf (L2.CX P w) P w K mg base N qual (defScope st) f cdv A fr s H E) [] (L2.start N vs) H s1 := inv_start Sc room.hd env0 vlen rel entered
  refine wpAny_mono (derivation.run [] s1 (L2.start N vs) H _ start_inv reading) (fun fl s' hs => ?_) fun _ _ z => z
  cases fl with
  | ret u => obtain ⟨v, σ', H', J, rv, q⟩ := hs; exact ⟨v, H', J.os, J.bare, J.base, J.hok, rv, q⟩
  | next => obtain ⟨σ', H', J, q⟩ := hs; exact ⟨V.non, H', J.os, J.bare, J.base, J.hok, rfl, q⟩
  | brk => obtain ⟨_, _, _, q⟩ := hs; exact q.elim
  | cont => obtain ⟨_, _, _, q⟩ := hs; exact q.elim

/-! ### the arguments in the parameters' order -/
def pm {α : Type} (perm : List Nat) (l : List α) : List α := perm.filterMap fun i => l[i]?
theorem pm_nil {α : Type} (l : List α) : pm [] l = [] := rfl
theorem pm_cons {α : Type} (i : Nat) (p : List Nat) (l : List α) : pm (i :: p) l = (match l[i]? with | some a => a :: pm p l | none => pm p l) := by
  unfold pm
  rw [List.filterMap_cons]
  cases l[i]? <;> rfl
theorem pm_length {α : Type} {l : List α} : ∀ {perm : List Nat}, (∀ i ∈ perm, i < l.length) → (pm perm l).length = perm.length
  | [], _ => rfl
  | i :: p, h => by
    rw [pm_cons]
    have hi : i < l.length := h i List.mem_cons_self
    rw [List.getElem?_eq_getElem hi]
    show (pm p l).length + 1 = p.length + 1
    rw [pm_length fun j hj => h j (List.mem_cons_of_mem _ hj)]
theorem pm_vals {vs : List V} {us : List Value} (h : Vals vs us) : ∀ perm : List Nat, Vals (pm perm vs) (pm perm us)
  | [] => .nil
  | i :: p => by
    rw [pm_cons, pm_cons]
    cases q : vs[i]? with
    | none => rw [h.none_of q]; exact pm_vals h p
    | some v =>
      obtain ⟨u, e, r⟩ := h.get q
      rw [e]
      exact .cons r (pm_vals h p)
theorem pm_rps {G : Gx} {w : Wd} {ds : List D} {vs : List V} (h : Rps G w ds vs) : ∀ perm : List Nat, Rps G w (pm perm ds) (pm perm vs)
  | [] => .nil
  | i :: p => by
    rw [pm_cons, pm_cons]
    cases q : ds[i]? with
    | none =>
      have : vs[i]? = none := by
        rw [List.getElem?_eq_none_iff] at q ⊢
        rw [← h.length]; exact q
      rw [this]; exact pm_rps h p
    | some v =>
      obtain ⟨u, e, r⟩ := h.get q
      rw [e]
      exact .cons r (pm_rps h p)

/-- how a def is called with keywords: n positional values, the keywords ks; where each parameter's value stands -/
structure Shape where
  n : Nat
  ks : List Str
  perm : List Nat
/-- a def that may be called by the name x, with n arguments, or as the shapes tell -/
structure Callee (G : Gx) (X : Cx) (x : Str) (F : SF) (n : Nat) (shapes : List Shape) : Prop where
  ex : ∃ (k : Nat) (f : Addr) (fd : FuncData) (ps : List Str), FnG X.prog X.w X.K X.mg X.base k f fd ps (spF G F n) ∧ Room k X.A ∧ X.A.guards = some [] ∧ X.mg x = some (.ref f) ∧ PySem.W.keepIn X.K (.ref f) = true ∧ ps.length = n ∧ Binds X.K fd ps [] ∧
    ∀ t ∈ shapes, t.perm.length = n ∧ (∀ i ∈ t.perm, i < t.n + t.ks.length) ∧ KBn X.K fd ps t.n t.ks (fun us ws => pm t.perm (us ++ ws)) (fun vs zs => pm t.perm (vs ++ zs))

def sCall (F : SF) (n : Nat) (ga : SA) : SE := fun env ms => (ga env ms).bind fun ds ms => if ds.length = n then F ds ms else .stuck
def sCallK (F : SF) (t : Shape) (ga gk : SA) : SE := fun env ms => (ga env ms).bind fun ds ms => (gk env ms).bind fun es ms => if ds.length = t.n ∧ es.length = t.ks.length then F (pm t.perm (ds ++ es)) ms else .stuck

section
variable {G : Gx} {X : Cx} {W : WX} {e : Expr} {es : List Expr} {ga gk : SA} {pos p : Pos} {x : Str} {F : SF} {n : Nat} {shapes : List Shape}
def JK (G : Gx) (X : Cx) (W : WX) (kws : List Keyword) (f : SA) : Prop := PK X kws (tA G W f)
theorem PK.imp {kws : List Keyword} {t t' : TA} (h : PK X kws t) (k : ∀ σ H Q, t' σ H Q → t σ H Q) : PK X kws t' := ⟨fun pos pins s σ H Q I q => h.run pos pins s σ H Q I (k _ _ _ q)⟩
theorem jk_nil : JK G X W [] sNil := PK.imp pk_nil fun σ H Q ⟨w, env, ms, at_, out⟩ => out [] H w (Wd.le.refl _) at_.s .nil
theorem jk_cons {fa : SE} {kws : List Keyword} {nm : Option Str} {kpos : Pos} (ha : JE G X W e fa) (hr : JK G X W kws ga) : JK G X W (⟨nm, e, kpos⟩ :: kws) (sCons fa ga) :=
  PK.imp (pk_cons ha hr) fun σ H Q ⟨w, env, ms, at_, out⟩ => ⟨w, env, ms, at_, Out.bind out fun x ms1 v H1 w1 l1 s1 r1 out1 => ⟨w1, env, ms1, at_.next l1 s1, Out.bind out1 fun xs ms2 vs H2 w2 l2 s2 r2 out2 =>
    out2 (v :: vs) H2 w2 (Wd.le.refl _) s2 (.cons (r1.mono l2) r2)⟩⟩
theorem run_callG {k : Nat} {f : Addr} {fd : FuncData} {ps : List Str} {sp : Sp} (tk : Takes X W) (Fk : FnG X.prog X.w X.K X.mg X.base k f fd ps sp) (hr : Room k X.A) (hgd : X.A.guards = some []) {pins : List (Addr × Obj)} {σ : L2.St} {H : Hp} {s : Shared} {Q : VK} {args : Args} {us : List Value} {vs : List V}
    (I : Inv X pins σ H s) (hb : BindsTo s fd args (ps.zip us)) (r : Vals vs us) (h : sp vs H Q (WE W σ)) : wpAny (model X.prog X.w) X.A (call (.ref f) args.pos args.kw) (EP X pins σ Q) X.xe s := by
  obtain ⟨ap, ak⟩ := args
  refine wpAny_call (codeAny_mono (Fk.run X.A X.stack s H ⟨ap, ak⟩ us vs Q (WE W σ) hgd hr I.env0 hb r h) fun res s' hq => ?_)
  match res, hq with
  | .error e, hq => exact passAt tk σ pins H s e s' I hq
  | .ok (.ret u), hq => exact I.after hq
/-- f(e, ..) -/
theorem je_call (C : Callee G X x F n shapes) (tk : Takes X W) (hg : Gl X x) (hdb : (x == ("__debug__" : Str)) = false) (ha : JA G X W (e :: es) ga)
    (he : starEach (e :: es) X.env = (false, eval e X.env) :: starEach es X.env) (hpl : (backTo pos (starEach es X.env)).any (·.1) = false) : JE G X W (.Call (.Name x p) (e :: es) [] pos) (sCall F n ga) := by
  obtain ⟨k, f, fd, ps, Fk, hr, hgd, hm, hk, hn, hb, _⟩ := C.ex
  refine ⟨fun pins s σ H Q I ⟨w, env, ms, at_, out⟩ => ?_⟩
  refine wpAny_Call_Name_kw (ld_glob I hg hm ?_ hdb)
  refine PySem.W.callWith_K (h₀ := X.base) I.ok.mod.kin hk (thn (PA.run ha pos pins s σ H (fun vs H1 => spF G F n vs H1 Q (WE W σ)) I ⟨w, env, ms, at_, Out.bind out fun ds ms1 vs H1 w1 l1 s1 r1 out1 => ?_⟩) fun us s1 ⟨vs, H1, I1, r, q⟩ => ⟨I1.kIn, ?_⟩) he hpl
  · split at out1
    · rename_i h
      exact ⟨w1, ms1, ds, s1, r1, h, out1⟩
    · exact out1.elim
  · have hl : us.length = ps.length := by rw [← r.length]; exact Fk.len _ _ _ _ q
    have b := hb s1 us I1.kIn (by rw [List.append_nil]; exact hl)
    rw [List.append_nil] at b
    exact run_callG (args := ⟨us, []⟩) tk Fk hr hgd I1 b r q
/-- f() -/
theorem je_call0 (C : Callee G X x F n shapes) (tk : Takes X W) (hg : Gl X x) (hdb : (x == ("__debug__" : Str)) = false) : JE G X W (.Call (.Name x p) [] [] pos) (sCall F n sNil) := by
  obtain ⟨k, f, fd, ps, Fk, hr, hgd, hm, hk, hn, hb, _⟩ := C.ex
  refine ⟨fun pins s σ H Q I h => ?_⟩
  refine wpAny_Call_Name_kw (ld_glob I hg hm ?_ hdb)
  obtain ⟨w, env, ms, at_, out⟩ := h
  have out' : OutD G w (if ([] : List D).length = n then F [] ms else .stuck) Q (fun c d H' => W c d σ H') := out
  split at out'
  · rename_i hl
    have b := hb s [] I.kIn (by rw [hn]; exact hl)
    exact PySem.W.callWith_K0 I.kIn hk (run_callG (args := ⟨[], []⟩) (us := []) (vs := []) tk Fk hr hgd I b .nil ⟨w, ms, [], at_.s, .nil, hl, out'⟩)
  · exact out'.elim
theorem run_callK {t : Shape} {k : Nat} {f : Addr} {fd : FuncData} {ps : List Str} (tk : Takes X W) (Fk : FnG X.prog X.w X.K X.mg X.base k f fd ps (spF G F n)) (hr : Room k X.A) (hgd : X.A.guards = some [])
    (hb : KBn X.K fd ps t.n t.ks (fun us ws => pm t.perm (us ++ ws)) (fun vs zs => pm t.perm (vs ++ zs))) (hp : t.perm.length = n) (hi : ∀ i ∈ t.perm, i < t.n + t.ks.length) {pins : List (Addr × Obj)} {σ : L2.St} {H : Hp} {s : Shared} {Q : VK} {us ws : List Value} {vs zs : List V} {w : Wd} {ms : MS} {ds es : List D}
    (I : Inv X pins σ H s) (r : Vals vs us) (rz : Vals zs ws) (si : SI G w ms H) (rd : Rps G w ds vs) (re : Rps G w es zs)
    (out : OutD G w (if ds.length = t.n ∧ es.length = t.ks.length then F (pm t.perm (ds ++ es)) ms else .stuck) Q (fun c d H' => W c d σ H')) : wpAny (model X.prog X.w) X.A (call (.ref f) us (t.ks.zip ws)) (EP X pins σ Q) X.xe s := by
  split at out
  · rename_i hl
    have hl2 : (pm t.perm (ds ++ es)).length = n := by
      rw [pm_length (fun i h => by rw [List.length_append, hl.1, hl.2]; exact hi i h)]
      exact hp
    have h : spF G F n (pm t.perm (vs ++ zs)) H Q (WE W σ) := ⟨w, ms, _, si, pm_rps (rd.append re) t.perm, hl2, out⟩
    have l1 : us.length = t.n := by rw [← r.length, ← rd.length]; exact hl.1
    have l2 : ws.length = t.ks.length := by rw [← rz.length, ← re.length]; exact hl.2
    exact run_callG (args := ⟨us, t.ks.zip ws⟩) tk Fk hr hgd I (hb.to s us ws I.kIn l1 l2) (hb.rel r rz) h
  · exact out.elim
/-- f(e, .., k = v, ..) -/
theorem je_callK {kws : List Keyword} {t : Shape} (C : Callee G X x F n shapes) (ht : t ∈ shapes) (tk : Takes X W) (hg : Gl X x) (hdb : (x == ("__debug__" : Str)) = false) (ha : JA G X W (e :: es) ga) (hk' : JK G X W kws gk)
    (he : starEach (e :: es) X.env = (false, eval e X.env) :: starEach es X.env) (hall : (backToKw pos (keywordEach kws X.env)).all (·.1.isSome) = true) (hks : (backToKw pos (keywordEach kws X.env)).filterMap (·.1) = t.ks)
    (hpl : ((backTo pos (starEach (e :: es) X.env)).any (·.1) || (backToKw pos (keywordEach kws X.env)).any (·.1.isNone)) = false) : JE G X W (.Call (.Name x p) (e :: es) kws pos) (sCallK F t ga gk) := by
  obtain ⟨k, f, fd, ps, Fk, hr, hgd, hm, hk, hn, _, hsh⟩ := C.ex
  obtain ⟨hp, hi, hb⟩ := hsh t ht
  refine ⟨fun pins s σ H Q I ⟨w, env, ms, at_, out⟩ => ?_⟩
  refine wpAny_Call_Name_kw (ld_glob I hg hm ?_ hdb)
  refine PySem.W.callWith_KW (h₀ := X.base) I.ok.mod.kin hk hall (thn (PA.run ha pos pins s σ H _ I ⟨w, env, ms, at_, Out.bind out fun ds ms1 vs H1 w1 l1 s1 r1 out1 => (⟨w1, env, ms1, at_.next l1 s1, Out.bind (P := fun zs H2 => ∃ w2 ms2 ds' es', SI G w2 ms2 H2 ∧ Rps G w2 ds' vs ∧ Rps G w2 es' zs ∧
    OutD G w2 (if ds'.length = t.n ∧ es'.length = t.ks.length then F (pm t.perm (ds' ++ es')) ms2 else .stuck) Q (fun c d H' => W c d σ H')) out1 fun es' ms2 zs H2 w2 l2 s2 r2 out2 => ⟨w2, ms2, ds, es', s2, r1.mono l2, r2, out2⟩⟩ : tA G W gk σ H1 _)⟩) fun us s1 ⟨vs, H1, I1, r, q⟩ => ?_) hpl he
  refine thn (PK.run hk' pos pins s1 σ H1 _ I1 q) fun ws s2 ⟨zs, H2, I2, rz, w2, ms2, ds, es', si, rd, re, o⟩ => ⟨I2.kIn, ?_⟩
  rw [hks]
  exact run_callK tk Fk hr hgd hb hp hi I2 r rz si rd re o
/-- f(k = v, ..) -/
theorem je_callK0 {kws : List Keyword} {t : Shape} (C : Callee G X x F n shapes) (ht : t ∈ shapes) (tk : Takes X W) (hg : Gl X x) (hdb : (x == ("__debug__" : Str)) = false) (hk' : JK G X W kws gk)
    (hall : (backToKw pos (keywordEach kws X.env)).all (·.1.isSome) = true) (hks : (backToKw pos (keywordEach kws X.env)).filterMap (·.1) = t.ks)
    (hpl : ((backTo pos (starEach [] X.env)).any (·.1) || (backToKw pos (keywordEach kws X.env)).any (·.1.isNone)) = false) : JE G X W (.Call (.Name x p) [] kws pos) (sCallK F t sNil gk) := by
  obtain ⟨k, f, fd, ps, Fk, hr, hgd, hm, hk, hn, _, hsh⟩ := C.ex
  obtain ⟨hp, hi, hb⟩ := hsh t ht
  refine ⟨fun pins s σ H Q I ⟨w, env, ms, at_, out⟩ => ?_⟩
  refine wpAny_Call_Name_kw (ld_glob I hg hm ?_ hdb)
  have out' : OutD G w ((gk env ms).bind fun es ms => if ([] : List D).length = t.n ∧ es.length = t.ks.length then F (pm t.perm ([] ++ es)) ms else .stuck) Q (fun c d H' => W c d σ H') := out
  refine PySem.W.callWith_KW0 (h₀ := X.base) I.ok.mod.kin hk hall (thn (PK.run hk' pos pins s σ H (fun zs H2 => ∃ w2 ms2 es', SI G w2 ms2 H2 ∧ Rps G w2 es' zs ∧
    OutD G w2 (if ([] : List D).length = t.n ∧ es'.length = t.ks.length then F (pm t.perm ([] ++ es')) ms2 else .stuck) Q (fun c d H' => W c d σ H')) I ⟨w, env, ms, at_, Out.bind out' fun es' ms2 zs H2 w2 l2 s2 r2 out2 => ⟨w2, ms2, es', s2, r2, out2⟩⟩) fun ws s2 ⟨zs, H2, I2, rz, w2, ms2, es', si, re, o⟩ => ⟨I2.kIn, ?_⟩) hpl
  rw [hks]
  exact run_callK (us := []) (vs := []) (ds := []) tk Fk hr hgd hb hp hi I2 .nil rz si .nil re o
end

/-! ### a def -/
def runD (n : Nat) (body : SS) : SF := fun ds ms => match body (ds.map some ++ List.replicate (n - ds.length) none) ms with
  | .nx _ ms' => .ok .non ms'
  | .ret d ms' => .ok d ms'
  | .err c v _ ms' => .err c v ms'
  | _ => .stuck
theorem start_ok {G : Gx} {w : Wd} {N : List Str} {ds : List D} {vs : List V} (h : Rps G w ds vs) : EnvOk G w (ds.map some ++ List.replicate (N.length - ds.length) none) (L2.start N vs) := by
  unfold L2.start
  refine ⟨by simp [h.length], fun i d e => ?_⟩
  by_cases hi : i < ds.length
  · rw [List.getElem?_append_left (by simpa using hi), List.getElem?_map] at e
    cases q : ds[i]? with
    | none => rw [q] at e; cases e
    | some d' =>
      rw [q] at e
      simp at e
      subst e
      obtain ⟨v, hv, r⟩ := h.get q
      refine ⟨v, ?_, r⟩
      rw [List.getElem?_append_left (by simpa [← h.length] using hi), List.getElem?_map, hv]; rfl
  · rw [List.getElem?_append_right (by simpa using Nat.le_of_not_lt hi)] at e
    rw [List.getElem?_replicate] at e
    split at e
    · cases e
    · cases e
theorem runD_out {G : Gx} {w : Wd} {n : Nat} {body : SS} {ds : List D} {ms : MS} {Q : VK} {E : XK} (h : OutD G w (runD n body ds ms) Q E) :
    OutS G w (body (ds.map some ++ List.replicate (n - ds.length) none) ms) { nx := fun _ H' => Q .non H', rt := Q } (fun c d _ H => E c d H) := by
  simp only [runD] at h
  cases q : body (ds.map some ++ List.replicate (n - ds.length) none) ms with
  | nx env ms' => rw [q] at h; exact fun σ' H' w' l a => h .non H' w' l a.s .non
  | ret d ms' => rw [q] at h; exact fun v H' w' l s r => h v H' w' l s r
  | err c v env ms' => rw [q] at h; exact fun cls dd σ' H' w' l a r => h cls dd H' w' l a.s r
  | brk env ms' => rw [q] at h; exact h.elim
  | cnt env ms' => rw [q] at h; exact h.elim
  | stuck => rw [q] at h; exact h.elim
/-- THE RULE of a def -/
theorem fn_def {G : Gx} {P : Program} {w : World} {mg : Str → Option Value} {base : Heap} {x qual : Str} {st : Stmt} {f : Addr} {fd : FuncData} {N ps : List Str} {k : Nat} {body : SS} (F : FunE G.K x qual st f fd) (S : FnScope N ps (defScope st))
    (hb : ∀ (X : Cx) (W : WX), X.prog = P → X.w = w → X.K = G.K → X.mg = mg → X.base = base → X.N = N → X.env.scope = defScope st → X.calm = true → X.fn = (fun _ => true) → X.ex = [] → X.stack = X.env :: X.outer → X.env.frame = some X.env.locals → Room k X.A → X.A.guards = some [] → Takes X W → PassesOwn (model X.prog X.w) X.A X.env X.xe → JSs G X W (defBody st) body) :
    FnG P w G.K mg base (k + 1) f fd ps (spF G (runD N.length body) ps.length) := by
  refine fnG_of F S (fun vs H Q E h => ?_) (fun cdv A outer s H vs Q E hgd hr h => ?_)
  · obtain ⟨w, ms, ds, si, rd, hl, _⟩ := h
    rw [← rd.length]; exact hl
  · obtain ⟨w', ms, ds, si, rd, hl, out⟩ := h
    refine ⟨_, hb _ (fun cls d _ H => E cls d H) rfl rfl rfl rfl rfl rfl rfl rfl rfl rfl rfl rfl hr hgd (takes_of rfl rfl rfl rfl) (passes_of rfl), ⟨w', _, ms, ⟨start_ok rd, si⟩, runD_out out⟩⟩
end DL

/-! statements -/
namespace DL
open PySem L2

section
variable {G : Gx} {X : Cx} {W : WX} {a b c e : Expr} {es : List Expr} {fa fb fc : SE} {ga : SA} {tc : ST} {pos : Pos} {st : Stmt} {sts : List Stmt} {g h : SS}

/-! ### blocks -/
def sSkip : SS := fun env ms => .nx env ms
def sSeq (f g : SS) : SS := fun env ms => match f env ms with
  | .nx env ms => g env ms
  | r => r
theorem jss_nil : JSs G X W [] sSkip := PSs.imp pss_nil fun K σ H ⟨w, env, ms, at_, out⟩ => out σ H w (Wd.le.refl w) at_
theorem js_seq_out {w : Wd} {env : DE} {ms : MS} {K : Ends} (out : OutS G w (sSeq g h env ms) K W) : OutS G w (g env ms) { K with nx := tS G W h K } W := by
  simp only [sSeq] at out
  cases q : g env ms with
  | nx e m => rw [q] at out; exact fun σ' H' w' l a' => ⟨w', e, m, a', OutS.mono l out⟩
  | brk e m => rw [q] at out; exact out
  | cnt e m => rw [q] at out; exact out
  | ret e m => rw [q] at out; exact out
  | err c x e m => rw [q] at out; exact out
  | stuck => rw [q] at out; exact out
theorem jss_cons (h1 : JS G X W st g) (h2 : JSs G X W sts h) : JSs G X W (st :: sts) (sSeq g h) := PSs.imp (pss_cons h1 h2) fun K σ H ⟨w, env, ms, at_, out⟩ => ⟨w, env, ms, at_, js_seq_out out⟩
theorem jss_one (h1 : JS G X W st g) : JSs G X W [st] g := pss_one h1
theorem js_pass : JS G X W (.Pass pos) sSkip := PS.imp ps_pass fun K σ H ⟨w, env, ms, at_, out⟩ => out σ H w (Wd.le.refl w) at_

/-! ### return, expressions, if -/
def sRet (f : SE) : SS := fun env ms => (f env ms).thenS env fun d ms => .ret d ms
theorem js_ret (ha : JE G X W a fa) : JS G X W (.Return (some a) pos) (sRet fa) := PS.imp (ps_ret ha) fun K σ H ⟨w, env, ms, at_, out⟩ => ⟨w, env, ms, at_, Out.thenS at_ out fun d ms1 v H1 w1 l1 a1 r1 out1 => out1 v H1 w1 (Wd.le.refl _) a1.s r1⟩
def sRetN : SS := fun env ms => .ret .non ms
theorem js_retN : JS G X W (.Return none pos) sRetN := PS.imp ps_retN fun K σ H ⟨w, env, ms, at_, out⟩ => out .non H w (Wd.le.refl _) at_.s .non
def sDrop (f : SE) : SS := fun env ms => (f env ms).thenS env fun _ ms => .nx env ms
theorem js_expr (ha : JE G X W a fa) (hs : swapsWith a none pos.line X.env = pure false) : JS G X W (.Expr a pos) (sDrop fa) := PS.imp (ps_expr ha hs) fun K σ H ⟨w, env, ms, at_, out⟩ => ⟨w, env, ms, at_, Out.thenS at_ out fun d ms1 v H1 w1 l1 a1 r1 out1 => out1 σ H1 w1 (Wd.le.refl _) a1⟩
def sIf (c : ST) (f g : SS) : SS := fun env ms => (c env ms).thenS env fun k ms => if k = true then f env ms else g env ms
theorem js_if {sa sb : List Stmt} (hc : JT G X W c tc) (ha : JSs G X W sa g) (hb : JSs G X W sb h) : JS G X W (.If c sa sb pos) (sIf tc g h) := PS.imp (ps_if hc ha hb) fun K σ H ⟨w, env, ms, at_, out⟩ => ⟨w, env, ms, at_, Out.thenS at_ out fun k ms1 k' H1 w1 l1 a1 r1 out1 => by
  subst r1
  cases k with
  | true => exact iteT ⟨w1, env, ms1, a1, out1⟩
  | false => exact iteF ⟨w1, env, ms1, a1, out1⟩⟩

/-! ### targets -/
abbrev VG := MS → D → DE → Option DE
abbrev VGs := MS → List D → DE → Option DE
/-- no slot but those of vs is changed -/
structure Chg (vs : List Nat) (σ σ' : St) : Prop where
  len : σ'.length = σ.length
  at_ : ∀ i, i ∉ vs → σ'[i]? = σ[i]?
theorem Chg.refl (vs : List Nat) (σ : St) : Chg vs σ σ := ⟨rfl, fun _ _ => rfl⟩
theorem Chg.trans {vs : List Nat} {σ σ1 σ2 : St} (a : Chg vs σ σ1) (b : Chg vs σ1 σ2) : Chg vs σ σ2 := ⟨b.len.trans a.len, fun i h => (b.at_ i h).trans (a.at_ i h)⟩
theorem Chg.set {vs : List Nat} {σ : St} {i : Nat} (h : i ∈ vs) (x : Option V) : Chg vs σ (σ.set i x) := ⟨by simp, fun j hj => List.getElem?_set_ne (fun (z : i = j) => hj (z ▸ h))⟩
theorem wipe_get {σ : St} : ∀ (vs : List Nat) (i : Nat), i ∈ vs → i < σ.length → (wipe σ vs)[i]? = some none
  | [], _, h, _ => by cases h
  | v :: vs, i, h, hl => by
    show ((wipe σ vs).set v none)[i]? = some none
    by_cases e : v = i
    · subst e; rw [List.getElem?_set_self (by rw [wipe_length]; exact hl)]
    · rw [List.getElem?_set_ne e]
      rcases List.mem_cons.mp h with z | z
      · exact absurd z.symm e
      · exact wipe_get vs i z hl
theorem wipe_off {σ : St} : ∀ (vs : List Nat) (i : Nat), i ∉ vs → (wipe σ vs)[i]? = σ[i]?
  | [], _, _ => rfl
  | v :: vs, i, h => by
    show ((wipe σ vs).set v none)[i]? = σ[i]?
    rw [List.getElem?_set_ne (fun (e : v = i) => h (e ▸ List.mem_cons_self))]
    exact wipe_off vs i fun z => h (List.mem_cons_of_mem _ z)
theorem Chg.wipe {vs : List Nat} {σ σ' : St} (c : Chg vs σ σ') : wipe σ' vs = wipe σ vs := by
  apply List.ext_getElem?
  intro i
  by_cases h : i ∈ vs
  · by_cases hl : i < σ.length
    · rw [wipe_get vs i h hl, wipe_get vs i h (by rw [c.len]; exact hl)]
    · rw [List.getElem?_eq_none (by rw [wipe_length, c.len]; omega), List.getElem?_eq_none (by rw [wipe_length]; omega)]
  · rw [wipe_off vs i h, wipe_off vs i h, c.at_ i h]
theorem wipe_wipe {vs : List Nat} {σ : St} : L2.wipe (L2.wipe σ vs) vs = L2.wipe σ vs := Chg.wipe ⟨wipe_length _ _, fun i h => wipe_off vs i h⟩
def tG (G : Gx) (vs : List Nat) (g : VG) : TG := fun v σ H Q => ∃ w env ms d env', At G w env ms σ H ∧ Rp G w d v ∧ g ms d env = some env' ∧ ∀ σ', At G w env' ms σ' H → Chg vs σ σ' → Q σ' H
def tGs (G : Gx) (ws : List Nat) (g : VGs) : TGs := fun vs σ H Q => ∃ w env ms ds env', At G w env ms σ H ∧ Rps G w ds vs ∧ g ms ds env = some env' ∧ ∀ σ', At G w env' ms σ' H → Chg ws σ σ' → Q σ' H
def JG (G : Gx) (X : Cx) (vs : List Nat) (tg : Expr) (g : VG) : Prop := PG X tg (tG G vs g)
def JGs (G : Gx) (X : Cx) (vs : List Nat) (tgs : List Expr) (g : VGs) : Prop := PGs X tgs (tGs G vs g)
variable {ws : List Nat}
theorem PG.imp {tg : Expr} {t t' : TG} (h : PG X tg t) (k : ∀ v σ H Q, t' v σ H Q → t v σ H Q) : PG X tg t' := ⟨fun pins s σ H v u Q I r q => h.run pins s σ H v u Q I r (k _ _ _ _ q)⟩
theorem PGs.imp {tg : List Expr} {t t' : TGs} (h : PGs X tg t) (k : ∀ v σ H Q, t' v σ H Q → t v σ H Q) : PGs X tg t' := ⟨fun pins s σ H v u Q I r q => h.run pins s σ H v u Q I r (k _ _ _ _ q)⟩
theorem PG.or {tg : Expr} {t t' : TG} (h : PG X tg t) (h' : PG X tg t') : PG X tg (fun v σ H Q => t v σ H Q ∨ t' v σ H Q) := ⟨fun pins s σ H v u Q I r q => q.elim (h.run pins s σ H v u Q I r) (h'.run pins s σ H v u Q I r)⟩
def gNm (i : Nat) : VG := fun _ d env => some (env.set i (some d))
theorem jg_name {i : Nat} {x : Str} (hN : X.N.Nodup) (hi : X.N[i]? = some x) (hx : Loc X.env.scope x) (hf : X.fn x = true ∨ X.env.scope.names.lookup x = some .local) (hw : i ∈ ws) : JG G X ws (.Name x pos) (gNm i) :=
  PG.imp (pg_name hN hi hx hf) fun v σ H Q ⟨w, env, ms, d, env', at_, r, e, k⟩ => by
    cases e
    exact k _ ⟨at_.e.set i r, at_.s⟩ (Chg.set hw _)
def gsNil : VGs := fun _ ds env => match ds with
  | [] => some env
  | _ => none
def gsCons (g : VG) (gs : VGs) : VGs := fun ms ds env => match ds with
  | d :: ds => match g ms d env with
    | some env => gs ms ds env
    | none => none
  | [] => none
theorem jgs_nil : JGs G X ws [] gsNil := PGs.imp pgs_nil fun vs σ H Q ⟨w, env, ms, ds, env', at_, r, e, k⟩ => by
  cases r with
  | nil => cases e; exact ⟨rfl, k σ at_ (Chg.refl _ _)⟩
  | cons _ _ => cases e
theorem jgs_cons {g1 : VG} {g2 : VGs} (h1 : JG G X ws a g1) (h2 : JGs G X ws es g2) (hs : (assignEach (a :: es) X.env).map (·.2) = assign a X.env :: (assignEach es X.env).map (·.2)) : JGs G X ws (a :: es) (gsCons g1 g2) :=
  PGs.imp (pgs_cons h1 h2 hs) fun vs σ H Q ⟨w, env, ms, ds, env', at_, r, e, k⟩ => by
    cases r with
    | nil => cases e
    | @cons d v ds' vs' rd rs =>
      simp only [gsCons] at e
      cases q : g1 ms d env with
      | none => rw [q] at e; cases e
      | some env1 =>
        rw [q] at e
        exact ⟨v, vs', rfl, w, env, ms, d, env1, at_, rd, q, fun σ1 a1 c1 => ⟨w, env1, ms, ds', env', a1, rs, e, fun σ2 a2 c2 => k σ2 a2 (c1.trans c2)⟩⟩
def gTu (n : Nat) (gs : VGs) : VG := fun ms d env => match seqOf ms d with
  | some xs => if xs.length = n then gs ms xs env else none
  | none => none
theorem jg_tup {k n : Nat} {gs : VGs} (hK : X.K = G.K) (hc : X.calm = true) (h : JGs G X ws es gs) (hn : (assignEach es X.env).length = n) (hst : (assignEach es X.env).findIdx? (·.1) = none) : JG G X ws (.Tuple es k pos) (gTu n gs) :=
  PG.imp (PG.or (pg_tup hc h hn hst) (pg_lst hc h hn hst)) fun v σ H Q ⟨w, env, ms, d, env', at_, r, e, k⟩ => by
    simp only [gTu] at e
    cases q : seqOf ms d with
    | none => rw [q] at e; cases e
    | some xs =>
      rw [q] at e
      simp only at e
      split at e
      · rename_i hl
        obtain ⟨p, vs, rfl, hp, hs⟩ := seqOf_ok at_.s q r
        rw [hs.length] at hl
        rcases hp with hp | hp
        · exact .inr ⟨p, vs, rfl, hK ▸ hp, hl, w, env, ms, xs, env', at_, hs, e, k⟩
        · exact .inl ⟨p, vs, rfl, hK ▸ hp, hl, w, env, ms, xs, env', at_, hs, e, k⟩
      · cases e

/-! ### assignments -/
def sAsg (f : SE) (gt : VG) : SS := fun env ms => (f env ms).thenS env fun d ms => match gt ms d env with
  | some env => .nx env ms
  | none => .stuck
theorem asg_out {t : TE} {gt : VG} {σ : St} {H : Hp} {K : Ends} (ht : ∀ Q, tE G W fa σ H Q → t σ H Q) (h : tS G W (sAsg fa gt) K σ H) : tAsg t (tG G ws gt) K σ H := by
  obtain ⟨w, env, ms, at_, out⟩ := h
  refine ht _ ⟨w, env, ms, at_, Out.thenS at_ out fun d ms1 v H1 w1 l1 a1 r1 out1 => ?_⟩
  cases q : gt ms1 d env with
  | none => rw [q] at out1; exact out1.elim
  | some env' => rw [q] at out1; exact ⟨w1, env, ms1, d, env', a1, r1, q, fun σ' a' _ => out1 σ' H1 w1 (Wd.le.refl _) a'⟩
theorem js_asg {tg : Expr} {gt : VG} (ha : JE G X W a fa) (hg : JG G X ws tg gt) (hs : swapsWithSole [tg] a pos.line X.env = pure false) (hw : swappedStores [tg] a X.env = pure none)
    (h1 : (assignEach [tg] X.env).map (·.2) = [assign tg X.env]) : JS G X W (.Assign [tg] a pos) (sAsg fa gt) :=
  PS.imp (ps_asg ha hg hs hw h1) fun K σ H h => asg_out (fun _ q => q) h
/-- a, b = x, y at once -/
def setAll : List Nat → List D → DE → Option DE
  | [], [], env => some env
  | i :: is, d :: ds, env => setAll is ds (env.set i (some d))
  | _, _, _ => none
def sPar (is : List Nat) (ga : SA) : SS := fun env ms => (ga env ms).thenS env fun ds ms => match setAll is ds env with
  | some env => .nx env ms
  | none => .stuck
theorem js_par {i j : Nat} {x y : Str} {px py pt : Pos} {kt k2 : Nat} {pt2 : Pos} (hc : X.calm = true) (hN : X.N.Nodup) (hi : X.N[i]? = some x) (hj : X.N[j]? = some y) (hij : i ≠ j)
    (hx : X.env.scope.names.lookup x = some .local) (hy : X.env.scope.names.lookup y = some .local) (ha : JA G X W [a, b] ga)
    (hw : swappedStores [.Tuple [.Name x px, .Name y py] kt pt] (.Tuple [a, b] k2 pt2) X.env = pure (some [x, y]))
    (hs : swapsWithSole [.Tuple [.Name x px, .Name y py] kt pt] (.Tuple [a, b] k2 pt2) pos.line X.env = pure false) : JS G X W (.Assign [.Tuple [.Name x px, .Name y py] kt pt] (.Tuple [a, b] k2 pt2) pos) (sPar [i, j] ga) :=
  PS.imp (ps_par hc hN hi hj hij hx hy ha hw hs) fun K σ H ⟨w, env, ms, at_, out⟩ => ⟨w, env, ms, at_, Out.thenS at_ out fun ds ms1 vs H1 w1 l1 a1 r1 out1 => by
    cases r1 with
    | nil => exact out1.elim
    | cons r rs => cases rs with
      | nil => exact out1.elim
      | cons r2 rs2 => cases rs2 with
        | cons _ _ => exact out1.elim
        | nil => exact ⟨_, _, rfl, out1 _ H1 w1 (Wd.le.refl _) ⟨(a1.e.set i r).set j r2, a1.s⟩⟩⟩
theorem js_par3 {i j l : Nat} {x y z : Str} {px py pz pt : Pos} {kt k2 : Nat} {pt2 : Pos} (hc : X.calm = true) (hN : X.N.Nodup) (hi : X.N[i]? = some x) (hj : X.N[j]? = some y) (hl : X.N[l]? = some z) (hij : i ≠ j) (hil : i ≠ l) (hjl : j ≠ l)
    (hx : X.env.scope.names.lookup x = some .local) (hy : X.env.scope.names.lookup y = some .local) (hz : X.env.scope.names.lookup z = some .local) (ha : JA G X W [a, b, c] ga)
    (hw : swappedStores [.Tuple [.Name x px, .Name y py, .Name z pz] kt pt] (.Tuple [a, b, c] k2 pt2) X.env = pure (some [x, y, z]))
    (hs : swapsWithSole [.Tuple [.Name x px, .Name y py, .Name z pz] kt pt] (.Tuple [a, b, c] k2 pt2) pos.line X.env = pure false) : JS G X W (.Assign [.Tuple [.Name x px, .Name y py, .Name z pz] kt pt] (.Tuple [a, b, c] k2 pt2) pos) (sPar [i, j, l] ga) :=
  PS.imp (ps_par3 hc hN hi hj hl hij hil hjl hx hy hz ha hw hs) fun K σ H ⟨w, env, ms, at_, out⟩ => ⟨w, env, ms, at_, Out.thenS at_ out fun ds ms1 vs H1 w1 l1 a1 r1 out1 => by
    cases r1 with
    | nil => exact out1.elim
    | cons r rs => cases rs with
      | nil => exact out1.elim
      | cons r2 rs2 => cases rs2 with
        | nil => exact out1.elim
        | cons r3 rs3 => cases rs3 with
          | cons _ _ => exact out1.elim
          | nil => exact ⟨_, _, _, rfl, out1 _ H1 w1 (Wd.le.refl _) ⟨((a1.e.set i r).set j r2).set l r3, a1.s⟩⟩⟩

/-! ### x.append(e), x a mutable list -/
def isLst (ms : MS) (n : Nat) : Bool := match ms[n]? with
  | some (.lst _) => true
  | _ => false
theorem isLst_ok {ms : MS} {n : Nat} (h : isLst ms n = true) : ∃ xs, ms[n]? = some (.lst xs) := by
  simp only [isLst] at h
  cases q : ms[n]? with
  | none => rw [q] at h; cases h
  | some m =>
    rw [q] at h
    cases m with
    | lst xs => exact ⟨xs, rfl⟩
    | _ => cases h
def appM (n : Nat) (d : D) (env : DE) (ms : MS) : RS := match ms[n]? with
  | some (.lst xs) => if xs.length < 16777216 then .nx env (ms.set n (.lst (xs ++ [d]))) else .stuck
  | _ => .stuck
def sAppend (i : Nat) (f : SE) : SS := fun env ms => match env[i]? with
  | some (some (.loc n)) => if isLst ms n = true then (f env ms).thenS env fun d ms => appM n d env ms else .stuck
  | _ => .stuck
theorem js_append {i : Nat} {x : Str} {p1 p2 p3 p4 : Pos} (hN : X.N[i]? = some x) (hv : Vis X.env.scope x) (hd : (x == ("__debug__" : Str)) = false) (hcd : (x == ("__classdict__" : Str)) = false) (hK : X.K = G.K) (ha : JE G X W a fa)
    (hs : starEach [a] X.env = [(false, eval a X.env)]) (hline : (p2.endLine == p3.line) = true) : JS G X W (.Expr (.Call (.Attribute (.Name x p1) "append" p2) [a] [] p3) p4) (sAppend i fa) := by
  refine PS.imp (ps_expr (pe_bm PySem.F.plainAttrs_list PySem.F.slot_list_append PySem.F.type_list_append mt_append (pe_var (i := i) hN hv hd hcd) (pa_cons ha pa_nil hs) rfl (by rw [hs]; rfl) hline hs rfl) rfl) fun K σ H ⟨w, env, ms, at_, out⟩ => ?_
  simp only [sAppend] at out
  cases q : env[i]? with
  | none => rw [q] at out; exact out.elim
  | some z =>
    rw [q] at out
    cases z with
    | none => exact out.elim
    | some d =>
      cases d with
      | loc n =>
        simp only at out
        split at out
        · rename_i hl
          obtain ⟨xs, hx⟩ := isLst_ok hl
          obtain ⟨v, hv', r⟩ := at_.e.at_ i _ q
          cases r with
          | @loc _ p hp =>
            obtain ⟨h1, vs, h2, h3⟩ := at_.s.mo n p _ hp hx
            refine ⟨.ref p, hv', .inl ⟨rfl, vs, hK ▸ SqL.of h2⟩, w, env, ms, at_, Out.thenS at_ out fun d ms1 v H1 w1 l1 a1 r1 out1 => ?_⟩
            simp only [appM] at out1
            cases q2 : ms1[n]? with
            | none => rw [q2] at out1; exact out1.elim
            | some m =>
              rw [q2] at out1
              cases m with
              | lst ys =>
                simp only at out1
                split at out1
                · rename_i hz
                  have hp1 := pre_get l1.a hp
                  obtain ⟨b1, us, b2, b3⟩ := a1.s.mo n p _ hp1 q2
                  rw [b3.length] at hz
                  refine ⟨p, us, v, rfl, rfl, b2, by rw [sizeLine_eq]; exact hz, out1 σ _ w1 (Wd.le.refl _) ⟨a1.e, a1.s.put hp1 b1 ⟨b1, _, upd_same, b3.append (.cons r1 .nil)⟩⟩⟩
                · exact out1.elim
              | _ => exact out1.elim
        · exact out.elim
      | _ => exact out.elim

/-! ### x[k] = e, x a mutable list -/
def putM (n : Nat) (i : Int) (d : D) (env : DE) (ms : MS) : RS := match ms[n]? with
  | some (.lst xs) => match ixN xs.length i with
    | some j => .nx env (ms.set n (.lst (xs.set j d)))
    | none => .stuck
  | _ => .stuck
def sPut (i : Nat) (fi f : SE) : SS := fun env ms => (f env ms).thenS env fun d ms => match env[i]? with
  | some (some (.loc n)) => (fi env ms).thenS env fun k ms => match k with
    | .int j => putM n j d env ms
    | _ => .stuck
  | _ => .stuck
theorem js_put {i : Nat} {x : Str} {p1 p2 : Pos} (hN : X.N[i]? = some x) (hv : Vis X.env.scope x) (hd : (x == ("__debug__" : Str)) = false) (hcd : (x == ("__classdict__" : Str)) = false) (hK : X.K = G.K) (ha : JE G X W a fa) (hb : JE G X W b fb)
    (hsub : ∀ v, assign (.Subscript (.Name x p1) b p2) X.env v = (do
      let ov ← holding [v] (eval (.Name x p1) X.env)
      let iv ← holding [v, ov] (eval b X.env)
      standAt p2
      holding [v, ov, iv] (setItem ov iv v)
      release [v, ov, iv] []))
    (hs : swapsWithSole [.Subscript (.Name x p1) b p2] a pos.line X.env = pure false) (hw : swappedStores [.Subscript (.Name x p1) b p2] a X.env = pure none) : JS G X W (.Assign [.Subscript (.Name x p1) b p2] a pos) (sPut i fb fa) := by
  refine PS.imp (ps_asg ha (pg_sub (pe_var (i := i) hN hv hd hcd) hb set_list hsub) hs hw rfl) fun K σ H ⟨w, env, ms, at_, out⟩ => ⟨w, env, ms, at_, Out.thenS at_ out fun d ms1 v H1 w1 l1 a1 r1 out1 => ?_⟩
  cases q : env[i]? with
  | none => rw [q] at out1; exact out1.elim
  | some z =>
    rw [q] at out1
    cases z with
    | none => exact out1.elim
    | some dd =>
      cases dd with
      | loc n =>
        obtain ⟨u, hv', r⟩ := a1.e.at_ i _ q
        refine ⟨u, hv', w1, env, ms1, a1, Out.thenS a1 out1 fun k ms2 vk H2 w2 l2 a2 r2 out2 => ?_⟩
        cases r with
        | @loc _ p hp =>
          cases r2 with
          | int j =>
            simp only [putM] at out2
            cases q2 : ms2[n]? with
            | none => rw [q2] at out2; exact out2.elim
            | some m =>
              rw [q2] at out2
              cases m with
              | lst ys =>
                simp only at out2
                have hp2 := pre_get l2.a hp
                obtain ⟨b1, us, b2, b3⟩ := a2.s.mo n p _ hp2 q2
                cases q3 : ixN ys.length j with
                | none => rw [q3] at out2; exact out2.elim
                | some t =>
                  rw [q3] at out2
                  rw [b3.length] at q3
                  exact ⟨p, us, j, t, rfl, rfl, b2, q3, out2 σ _ w2 (Wd.le.refl _) ⟨a2.e, a2.s.put hp2 b1 ⟨b1, _, upd_same, b3.set (r1.mono l2) t⟩⟩⟩
              | _ => exact out2.elim
          | _ => exact out2.elim
      | _ => exact out1.elim

/-! ### x op= e, x a name -/
def sAug (o : VO2) (i : Nat) (f : SE) : SS := fun env ms => match env[i]? with
  | some (some x) => (f env ms).thenS env fun y ms => match o ms x y with
    | some d => .nx (env.set i (some d)) ms
    | none => .stuck
  | _ => .stuck
theorem js_aug {i : Nat} {x : Str} {op : Operator} {o : VO2} {pos' : Pos} (ho : Op2 G X (inplaceOp op) o) (hN : X.N.Nodup) (hi : X.N[i]? = some x) (hx : Loc X.env.scope x) (ha : JE G X W a fa) (hf : X.fn x = true ∨ X.env.scope.names.lookup x = some .local) :
    JS G X W (.AugAssign (.Name x pos') op a pos) (sAug o i fa) :=
  PS.imp (ps_aug hN hi hx ha (ti := rD G o) (fun pins s σ H x y v u Q I rx ry ⟨w, ms, a, b, d, si, ra, rb, e, q⟩ => ho pins s σ H x y v u Q w ms a b d I rx ry si ra rb e q) hf) fun K σ H ⟨w, env, ms, at_, out⟩ => by
    simp only [sAug] at out
    cases q : env[i]? with
    | none => rw [q] at out; exact out.elim
    | some z =>
      rw [q] at out
      cases z with
      | none => exact out.elim
      | some dx =>
        obtain ⟨v, hv, r⟩ := at_.e.at_ i _ q
        refine ⟨v, hv, w, env, ms, at_, Out.thenS at_ out fun y ms1 u H1 w1 l1 a1 r1 out1 => ?_⟩
        cases e : o ms1 dx y with
        | none => rw [e] at out1; exact out1.elim
        | some d =>
          rw [e] at out1
          exact ⟨w1, ms1, dx, y, d, a1.s, r.mono l1, r1, e, fun v' H' w' l' s' r' => out1 _ H' w' l' ⟨(a1.e.mono l').set i r', s'⟩⟩
theorem op2_iadd : Op2 G X (inplaceOp .Add) (iop fun i j => some (.int (i + j))) := op2_int0 iop_add fun i j d e => some_int e
theorem op2_isub : Op2 G X (inplaceOp .Sub) (iop fun i j => some (.int (i - j))) := op2_int0 iop_sub fun i j d e => some_int e

/-! ### while -/
def whileN (c : ST) (body : SS) : Nat → SS
  | 0 => fun _ _ => .stuck
  | n + 1 => fun env ms => (c env ms).thenS env fun k ms => if k = true then (match body env ms with
    | .nx env ms => whileN c body n env ms
    | .cnt env ms => whileN c body n env ms
    | .brk env ms => .nx env ms
    | r => r) else .nx env ms
theorem js_while {sb : List Stmt} (fuel : Nat) (hp : PassesOwn (model X.prog X.w) X.A X.env X.xe) (hc : JT G X W c tc) (hb : JSs G X W sb g) : JS G X W (.While c sb [] pos) (whileN tc g fuel) :=
  PS.imp (ps_while hp hc hb) fun K σ H ⟨w, env, ms, at_, out⟩ => by
    refine ⟨fun m σ H => ∃ w env ms, At G w env ms σ H ∧ OutS G w (whileN tc g m env ms) K W, ⟨fuel, w, env, ms, at_, out⟩, fun m σ H ⟨w, env, ms, at_, out⟩ => ?_⟩
    cases m with
    | zero => exact out.elim
    | succ m =>
      refine ⟨w, env, ms, at_, Out.thenS at_ out fun k ms1 k' H1 w1 l1 a1 r1 out1 => ?_⟩
      subst r1
      cases k with
      | false => exact iteF (out1 σ H1 w1 (Wd.le.refl _) a1)
      | true =>
        refine iteT ⟨fun σ' H' => ∃ w env ms, At G w env ms σ' H' ∧ OutS G w (whileN tc g m env ms) K W, fun σ' H' h => ⟨m, Nat.lt_succ_self m, h⟩, w1, env, ms1, a1, ?_⟩
        simp only [↓reduceIte] at out1
        cases q : g env ms1 with
        | nx e m' => rw [q] at out1; exact fun σ' H' w' l a' => ⟨w', e, m', a', OutS.mono l out1⟩
        | cnt e m' => rw [q] at out1; exact fun σ' H' w' l a' => ⟨w', e, m', a', OutS.mono l out1⟩
        | brk e m' => rw [q] at out1; exact out1
        | ret e m' => rw [q] at out1; exact out1
        | err c x e m' => rw [q] at out1; exact out1
        | stuck => rw [q] at out1; exact out1

/-! ### what a for walks -/
/-- the iterator J yields the items ds, whatever the worlds do -/
def ItOk (G : Gx) (w : Wd) (J : It) (ds : List D) : Prop :=
  (∀ (w' : Wd) (ms : MS) (H : Hp) (i : Nat) (d : D), w.le w' → SI G w' ms H → ds[i]? = some d → J.go i H ∧ ∀ x H', J.yld i H x H' → ∃ w'', w'.le w'' ∧ SI G w'' ms H' ∧ Rp G w'' d x) ∧
  ∀ (w' : Wd) (ms : MS) (H : Hp), w.le w' → SI G w' ms H → J.stop ds.length H
theorem ItOk.mono {w w' : Wd} {J : It} {ds : List D} (l : w.le w') (h : ItOk G w J ds) : ItOk G w' J ds := ⟨fun w2 ms H i d l2 s e => h.1 w2 ms H i d (l.trans l2) s e, fun w2 ms H l2 s => h.2 w2 ms H (l.trans l2) s⟩
abbrev SI' := DE → MS → R (List D)
def JI (G : Gx) (X : Cx) (W : WX) (tg iter : Expr) (f : SI') : Prop := PI X tg iter (fun σ H R => ∃ w env ms, At G w env ms σ H ∧ Out G w (fun w' ds J => ItOk G w' J ds) (f env ms) R (fun c d H' => W c d σ H'))
theorem PI.imp {tg iter : Expr} {t t' : TI} (h : PI X tg iter t) (k : ∀ σ H R, t' σ H R → t σ H R) : PI X tg iter t' := ⟨fun pins s σ H R I q => h.run pins s σ H R I (k _ _ _ q)⟩
/-! ### for -/
def forL (gt : VG) (body : SS) : List D → SS
  | [] => fun env ms => .nx env ms
  | d :: ds => fun env ms => match gt ms d env with
    | none => .stuck
    | some env => match body env ms with
      | .nx env ms => forL gt body ds env ms
      | .cnt env ms => forL gt body ds env ms
      | .brk env ms => .nx env ms
      | r => r
def sFor (fi : SI') (gt : VG) (body : SS) : SS := fun env ms => (fi env ms).thenS env fun ds ms => forL gt body ds env ms
theorem js_for {tg iter : Expr} {sb : List Stmt} {fi : SI'} {gt : VG} (hp : PassesOwn (model X.prog X.w) X.A X.env X.xe) (hc : X.calm = true) (hi : JI G X W tg iter fi) (hg : JG G X ws tg gt) (hb : JSs G X W sb g)
    (hs : ∀ x, foldedSetIterable iter X.env x = pure x) : JS G X W (.For tg iter sb [] pos) (sFor fi gt g) :=
  PS.imp (ps_for hp hc hi hg hb hs) fun K σ H ⟨w, env, ms, at_, out⟩ => ⟨w, env, ms, at_, Out.thenS at_ out fun ds ms1 J H1 w1 l1 a1 io out1 => by
    refine ⟨fun i m σ H => m = ds.length - i ∧ i ≤ ds.length ∧ ∃ w env ms, w1.le w ∧ At G w env ms σ H ∧ OutS G w (forL gt g (ds.drop i) env ms) K W, ⟨_, rfl, Nat.zero_le _, w1, env, ms1, Wd.le.refl _, a1, out1⟩, fun i m σ H ⟨hm, hi, w, env, ms, l, at_, out⟩ => ?_⟩
    cases q : ds[i]? with
    | none =>
      have hn : ds.length ≤ i := List.getElem?_eq_none_iff.mp q
      have e : i = ds.length := Nat.le_antisymm hi hn
      subst e
      rw [List.drop_length] at out
      exact .inl ⟨io.2 w ms H l at_.s, out σ H w (Wd.le.refl _) at_⟩
    | some d =>
      have hlt : i < ds.length := (List.getElem?_eq_some_iff.mp q).1
      obtain ⟨hgo, hy⟩ := io.1 w ms H i d l at_.s q
      have hdrop : ds.drop i = d :: ds.drop (i + 1) := by
        rw [List.drop_eq_getElem_cons hlt]
        rw [List.getElem?_eq_getElem hlt] at q
        cases q; rfl
      rw [hdrop] at out
      refine .inr ⟨hgo, fun σ' H' => ∃ w env ms, w1.le w ∧ At G w env ms σ' H' ∧ OutS G w (forL gt g (ds.drop (i + 1)) env ms) K W, fun σ' H' h => ⟨ds.length - (i + 1), by omega, rfl, hlt, h⟩, fun x H' hx => ?_⟩
      obtain ⟨w2, l2, s2, r2⟩ := hy x H' hx
      simp only [forL] at out
      cases q2 : gt ms d env with
      | none => rw [q2] at out; exact out.elim
      | some env' =>
        rw [q2] at out
        refine ⟨w2, env, ms, d, env', ⟨at_.e.mono l2, s2⟩, r2, q2, fun σ2 a2 _ => ⟨w2, env', ms, a2, ?_⟩⟩
        simp only at out
        cases q3 : g env' ms with
        | nx e m' => rw [q3] at out; exact fun σ' H' w' l' a' => ⟨w', e, m', l.trans (l2.trans l'), a', OutS.mono (l2.trans l') out⟩
        | cnt e m' => rw [q3] at out; exact fun σ' H' w' l' a' => ⟨w', e, m', l.trans (l2.trans l'), a', OutS.mono (l2.trans l') out⟩
        | brk e m' => rw [q3] at out; exact fun σ' H' w' l' a' => out σ' H' w' (l2.trans l') a'
        | ret e m' => rw [q3] at out; exact fun σ' H' w' l' a' => out σ' H' w' (l2.trans l') a'
        | err c x e m' => rw [q3] at out; exact fun cls dd σ' H' w' l' a' => out cls dd σ' H' w' (l2.trans l') a'
        | stuck => rw [q3] at out; exact out.elim⟩
end
end DL

/-! what is walked; comprehensions -/
namespace DL
open PySem L2

section
variable {G : Gx} {X : Cx} {W : WX} {a b c e tg : Expr} {es : List Expr} {fa fb fc : SE} {ga : SA} {tc : ST} {pos p : Pos}
theorem PI.or {tg iter : Expr} {t t' : TI} (h : PI X tg iter t) (h' : PI X tg iter t') : PI X tg iter (fun σ H R => t σ H R ∨ t' σ H R) := ⟨fun pins s σ H R I q => q.elim (h.run pins s σ H R I) (h'.run pins s σ H R I)⟩
theorem itl_ok {w : Wd} {a : Addr} {vs : List V} {ds : List D} (h : w.B a = some (.lst vs)) (hs : Rps G w ds vs) : ItOk G w (Itl G.K a) ds := by
  refine ⟨fun w' ms H i d l s e => ?_, fun w' ms H l s => ⟨vs, SqL.of (s.sub _ _ (l.b _ _ h)), Nat.le_of_eq hs.length.symm⟩⟩
  obtain ⟨v, hv, r⟩ := (hs.mono l).get e
  refine ⟨⟨vs, v, SqL.of (s.sub _ _ (l.b _ _ h)), hv⟩, fun x H' ⟨eH, hx⟩ => ?_⟩
  subst eH
  have := hx vs (SqL.of (s.sub _ _ (l.b _ _ h)))
  rw [hv] at this
  cases this
  exact ⟨w', Wd.le.refl _, s, r⟩
theorem itt_ok {w : Wd} {a : Addr} {vs : List V} {ds : List D} (h : SqT G.K w.B a vs) (hs : Rps G w ds vs) : ItOk G w (Itt G.K a) ds := by
  refine ⟨fun w' ms H i d l s e => ?_, fun w' ms H l s => ⟨vs, tq_of s (Same.tq l.b h), Nat.le_of_eq hs.length.symm⟩⟩
  obtain ⟨v, hv, r⟩ := (hs.mono l).get e
  refine ⟨⟨vs, v, tq_of s (Same.tq l.b h), hv⟩, fun x H' ⟨eH, hx⟩ => ?_⟩
  subst eH
  have := hx vs (tq_of s (Same.tq l.b h))
  rw [hv] at this
  cases this
  exact ⟨w', Wd.le.refl _, s, r⟩
/-- a list or tuple that stands still, a text -/
def itemsD : D → Option (List D)
  | .lst xs => some xs
  | .tup xs => some xs
  | .str x => some (x.cps.toList.map fun c => .str ⟨#[c]⟩)
  | _ => none
def sItems (f : SE) : SI' := fun env ms => (f env ms).bind fun d ms => optR (itemsD d) ms
theorem its_ok {w : Wd} {x : Str} : ItOk G w (Its x) (x.cps.toList.map fun c => D.str ⟨#[c]⟩) := by
  refine ⟨fun w' ms H i d l s e => ?_, fun w' ms H l s => by show x.cps.size ≤ _; simp⟩
  rw [List.getElem?_map] at e
  cases q : x.cps.toList[i]? with
  | none => rw [q] at e; cases e
  | some c =>
    rw [q] at e
    simp at e
    subst e
    have hl : i < x.cps.size := by
      have := (List.getElem?_eq_some_iff.mp q).1
      simpa using this
    refine ⟨hl, fun v H' ⟨eH, c', hc, ev⟩ => ?_⟩
    subst eH ev
    have q' : x.cps[i]? = some c := by rw [← Array.getElem?_toList]; exact q
    rw [q'] at hc
    cases hc
    exact ⟨w', Wd.le.refl _, s, .str _⟩
theorem ji_items (hK : X.K = G.K) (ha : JE G X W a fa) : JI G X W tg a (sItems fa) :=
  PI.imp (PI.or (pi_list ha) (PI.or (pi_tup ha) (pi_str ha))) fun σ H R ⟨w, env, ms, at_, out⟩ => by
    simp only [sItems] at out
    cases q : fa env ms with
    | stuck => rw [q] at out; exact out.elim
    | err c x m => rw [q] at out; exact .inl ⟨w, env, ms, at_, by rw [q]; exact out⟩
    | ok d m =>
      rw [q] at out
      simp only [DL.R.bind_ok] at out
      cases q2 : itemsD d with
      | none => rw [q2] at out; exact out.elim
      | some ds =>
        rw [q2] at out
        cases d with
        | lst xs =>
          cases q2
          refine .inl ⟨w, env, ms, at_, ?_⟩
          rw [q]
          intro v H1 w1 l1 s1 r
          cases r with
          | @lst p vs _ h hs => exact ⟨p, rfl, ⟨vs, hK ▸ SqL.of (s1.sub _ _ h)⟩, out _ H1 w1 l1 s1 (hK ▸ itl_ok h hs)⟩
        | tup xs =>
          cases q2
          refine .inr (.inl ⟨w, env, ms, at_, ?_⟩)
          rw [q]
          intro v H1 w1 l1 s1 r
          cases r with
          | @tup p vs _ h hs => exact ⟨p, rfl, ⟨vs, hK ▸ tq_of s1 h⟩, out _ H1 w1 l1 s1 (hK ▸ itt_ok h hs)⟩
        | str x =>
          cases q2
          refine .inr (.inr ⟨w, env, ms, at_, ?_⟩)
          rw [q]
          intro v H1 w1 l1 s1 r
          cases r with
          | str _ => exact ⟨x, rfl, out _ H1 w1 l1 s1 its_ok⟩
        | _ => cases q2
/-- range -/
def rngL (lo : Int) (n : Nat) : List D := (List.range n).map fun (k : Nat) => D.int (lo + (k : Int))
theorem itr_ok {w : Wd} {lo : Int} {n : Nat} : ItOk G w (Itr lo n) (rngL lo n) := by
  refine ⟨fun w' ms H i d l s e => ?_, fun w' ms H l s => by show n ≤ _; simp [rngL]⟩
  unfold rngL at e
  rw [List.getElem?_map] at e
  cases q : (List.range n)[i]? with
  | none => rw [q] at e; cases e
  | some k =>
    rw [q] at e
    simp at e
    subst e
    have hh := List.getElem?_eq_some_iff.mp q
    obtain ⟨hl, hk⟩ := hh
    simp at hl hk
    subst hk
    exact ⟨hl, fun x H' ⟨eH, ex⟩ => by subst eH ex; exact ⟨w', Wd.le.refl _, s, .int _⟩⟩
def inR (j : Int) : Bool := decide (-(2 ^ 62) ≤ j ∧ j < 2 ^ 62)
def sRange1 (ga : SA) : SI' := fun env ms => (ga env ms).bind fun ds ms => match ds with
  | [.int j] => if inR j = true then .ok (rngL 0 j.toNat) ms else .stuck
  | _ => .stuck
def sRange2 (ga : SA) : SI' := fun env ms => (ga env ms).bind fun ds ms => match ds with
  | [.int i, .int j] => if inR i = true ∧ inR j = true then .ok (rngL i (j - i).toNat) ms else .stuck
  | _ => .stuck
theorem ji_range1 (hg : Gl X "range") (hm : X.mg "range" = none) (ha : JA G X W [a] ga) (hs : starEach [a] X.env = [(false, eval a X.env)]) : JI G X W tg (.Call (.Name "range" p) [a] [] pos) (sRange1 ga) :=
  PI.imp (pi_range1 hg hm ha hs) fun σ H R ⟨w, env, ms, at_, out⟩ => ⟨w, env, ms, at_, Out.bind out fun ds ms1 vs H1 w1 l1 s1 r1 out1 => by
    cases r1 with
    | nil => exact out1.elim
    | cons r rs => cases rs with
      | cons _ _ => cases r <;> exact out1.elim
      | nil => cases r with
        | int j =>
          simp only at out1
          split at out1
          · rename_i h
            have h' := of_decide_eq_true h
            exact ⟨j, rfl, h'.1, h'.2, out1 _ H1 w1 (Wd.le.refl _) s1 itr_ok⟩
          · exact out1.elim
        | _ => exact out1.elim⟩
theorem ji_range2 (hg : Gl X "range") (hm : X.mg "range" = none) (ha : JA G X W [a, b] ga) (hs : starEach [a, b] X.env = [(false, eval a X.env), (false, eval b X.env)]) (hs2 : starEach [b] X.env = [(false, eval b X.env)]) : JI G X W tg (.Call (.Name "range" p) [a, b] [] pos) (sRange2 ga) :=
  PI.imp (pi_range2 hg hm ha hs hs2) fun σ H R ⟨w, env, ms, at_, out⟩ => ⟨w, env, ms, at_, Out.bind out fun ds ms1 vs H1 w1 l1 s1 r1 out1 => by
    cases r1 with
    | nil => exact out1.elim
    | cons r rs => cases rs with
      | nil => cases r <;> exact out1.elim
      | cons r2 rs2 => cases rs2 with
        | cons _ _ => cases r <;> cases r2 <;> exact out1.elim
        | nil => cases r with
          | int i => cases r2 with
            | int j =>
              simp only at out1
              split at out1
              · rename_i h
                have h1 := of_decide_eq_true h.1
                have h2 := of_decide_eq_true h.2
                exact ⟨i, j, rfl, ⟨h1.1, h1.2, h2.1, h2.2⟩, out1 _ H1 w1 (Wd.le.refl _) s1 itr_ok⟩
              · exact out1.elim
            | _ => exact out1.elim
          | _ => cases r2 <;> exact out1.elim⟩

/-! ### enumerate, zip: each item a new pair -/
theorem ite_ok {w : Wd} {a : Addr} {vs : List V} {ds : List D} (h : w.B a = some (.lst vs)) (hs : Rps G w ds vs) : ItOk G w (Ite G.K a) (ds.mapIdx fun i d => D.tup [.int (i : Nat), d]) := by
  refine ⟨fun w' ms H i d l s e => ?_, fun w' ms H l s => ⟨vs, SqL.of (s.sub _ _ (l.b _ _ h)), by simp [hs.length]⟩⟩
  rw [List.getElem?_mapIdx] at e
  cases q : ds[i]? with
  | none => rw [q] at e; cases e
  | some d0 =>
    rw [q] at e
    simp at e
    subst e
    obtain ⟨v, hv, r⟩ := (hs.mono l).get q
    refine ⟨⟨vs, v, SqL.of (s.sub _ _ (l.b _ _ h)), hv⟩, fun x H' ⟨T, y, ex, hT, eH, hy⟩ => ?_⟩
    subst ex eH
    have := hy vs (SqL.of (s.sub _ _ (l.b _ _ h)))
    rw [hv] at this
    cases this
    obtain ⟨s2, l2⟩ := s.lay hT (.tup [.int (i : Nat), v])
    exact ⟨_, l2, s2, .tup (SqT.of upd_same) (.cons (.int _) (.cons (r.mono l2) .nil))⟩
def sEnum (ga : SA) : SI' := fun env ms => (ga env ms).bind fun ds ms => match ds with
  | [.lst xs] => .ok (xs.mapIdx fun i d => D.tup [.int (i : Nat), d]) ms
  | _ => .stuck
theorem ji_enum {elts : List Expr} {kk : Nat} {tpos : Pos} (hK : X.K = G.K) (hg : Gl X "enumerate") (hm : X.mg "enumerate" = none) (ha : JA G X W [a] ga) (hs : starEach [a] X.env = [(false, eval a X.env)]) : JI G X W (.Tuple elts kk tpos) (.Call (.Name "enumerate" p) [a] [] pos) (sEnum ga) :=
  PI.imp (pi_enum hg hm ha hs) fun σ H R ⟨w, env, ms, at_, out⟩ => ⟨w, env, ms, at_, Out.bind out fun ds ms1 vs H1 w1 l1 s1 r1 out1 => by
    cases r1 with
    | nil => exact out1.elim
    | cons r rs => cases rs with
      | cons _ _ => cases r <;> exact out1.elim
      | nil => cases r with
        | @lst q vs _ h hs => exact ⟨q, vs, rfl, hK ▸ SqL.of (s1.sub _ _ h), out1 _ H1 w1 (Wd.le.refl _) s1 (hK ▸ ite_ok h hs)⟩
        | _ => exact out1.elim⟩
def zipD (xs ys : List D) : List D := List.zipWith (fun x y => D.tup [x, y]) xs ys
theorem zipD_get {xs ys : List D} {i : Nat} {d : D} (e : (zipD xs ys)[i]? = some d) : ∃ x y, xs[i]? = some x ∧ ys[i]? = some y ∧ d = .tup [x, y] := by
  unfold zipD at e
  rw [List.getElem?_zipWith] at e
  cases q : xs[i]? with
  | none => rw [q] at e; cases e
  | some x => cases q2 : ys[i]? with
    | none => rw [q, q2] at e; cases e
    | some y => rw [q, q2] at e; simp at e; exact ⟨x, y, rfl, rfl, e.symm⟩
theorem itz_ok {w : Wd} {a b : Addr} {vs us : List V} {ds es : List D} (h : w.B a = some (.lst vs)) (hs : Rps G w ds vs) (k : w.B b = some (.lst us)) (ks : Rps G w es us) : ItOk G w (Itz G.K a b) (zipD ds es) := by
  refine ⟨fun w' ms H i d l s e => ?_, fun w' ms H l s => ⟨vs, us, SqL.of (s.sub _ _ (l.b _ _ h)), SqL.of (s.sub _ _ (l.b _ _ k)), ?_⟩⟩
  · obtain ⟨x, y, ex, ey, rfl⟩ := zipD_get e
    obtain ⟨v, hv, r⟩ := (hs.mono l).get ex
    obtain ⟨u, hu, r'⟩ := (ks.mono l).get ey
    refine ⟨⟨vs, us, v, u, SqL.of (s.sub _ _ (l.b _ _ h)), SqL.of (s.sub _ _ (l.b _ _ k)), hv, hu⟩, fun z H' ⟨T, x', y', ez, hT, eH, hx', hy'⟩ => ?_⟩
    subst ez eH
    have z1 := hx' vs (SqL.of (s.sub _ _ (l.b _ _ h)))
    have z2 := hy' us (SqL.of (s.sub _ _ (l.b _ _ k)))
    rw [hv] at z1; rw [hu] at z2
    cases z1; cases z2
    obtain ⟨s2, l2⟩ := s.lay hT (.tup [v, u])
    exact ⟨_, l2, s2, .tup (SqT.of upd_same) (.cons (r.mono l2) (.cons (r'.mono l2) .nil))⟩
  · have h1 := hs.length
    have h2 := ks.length
    simp only [zipD, List.length_zipWith]
    omega
theorem itzT_ok {w : Wd} {a b : Addr} {vs us : List V} {ds es : List D} (h : SqT G.K w.B a vs) (hs : Rps G w ds vs) (k : SqT G.K w.B b us) (ks : Rps G w es us) : ItOk G w (RZ.ItzT G.K a b) (zipD ds es) := by
  refine ⟨fun w' ms H i d l s e => ?_, fun w' ms H l s => ⟨vs, us, tq_of s (Same.tq l.b h), tq_of s (Same.tq l.b k), ?_⟩⟩
  · obtain ⟨x, y, ex, ey, rfl⟩ := zipD_get e
    obtain ⟨v, hv, r⟩ := (hs.mono l).get ex
    obtain ⟨u, hu, r'⟩ := (ks.mono l).get ey
    refine ⟨⟨vs, us, v, u, tq_of s (Same.tq l.b h), tq_of s (Same.tq l.b k), hv, hu⟩, fun z H' ⟨T, x', y', ez, hT, eH, hx', hy'⟩ => ?_⟩
    subst ez eH
    have z1 := hx' vs (tq_of s (Same.tq l.b h))
    have z2 := hy' us (tq_of s (Same.tq l.b k))
    rw [hv] at z1; rw [hu] at z2
    cases z1; cases z2
    obtain ⟨s2, l2⟩ := s.lay hT (.tup [v, u])
    exact ⟨_, l2, s2, .tup (SqT.of upd_same) (.cons (r.mono l2) (.cons (r'.mono l2) .nil))⟩
  · have h1 := hs.length
    have h2 := ks.length
    simp only [zipD, List.length_zipWith]
    omega
def sZip (ga : SA) : SI' := fun env ms => (ga env ms).bind fun ds ms => match ds with
  | [.lst xs, .lst ys] => .ok (zipD xs ys) ms
  | [.tup xs, .tup ys] => .ok (zipD xs ys) ms
  | _ => .stuck
theorem ji_zip {elts : List Expr} {kk : Nat} {tpos : Pos} (hK : X.K = G.K) (hg : Gl X "zip") (hm : X.mg "zip" = none) (ha : JA G X W [a, b] ga) (hs : starEach [a, b] X.env = (false, eval a X.env) :: starEach [b] X.env) (hpl : (backTo pos (starEach [b] X.env)).any (·.1) = false) :
    JI G X W (.Tuple elts kk tpos) (.Call (.Name "zip" p) [a, b] [] pos) (sZip ga) :=
  PI.imp (RZ.pi_zipA hg hm ha hs hpl) fun σ H R ⟨w, env, ms, at_, out⟩ => ⟨w, env, ms, at_, Out.bind out fun ds ms1 vs H1 w1 l1 s1 r1 out1 => by
    cases r1 with
    | nil => exact out1.elim
    | cons r rs => cases rs with
      | nil => cases r <;> exact out1.elim
      | cons r2 rs2 => cases rs2 with
        | cons _ _ => cases r <;> cases r2 <;> exact out1.elim
        | nil => cases r with
          | @lst q vs _ h hs => cases r2 with
            | @lst q2 us _ h2 hs2 => exact ⟨q, q2, vs, us, rfl, .inl ⟨hK ▸ SqL.of (s1.sub _ _ h), hK ▸ SqL.of (s1.sub _ _ h2), out1 _ H1 w1 (Wd.le.refl _) s1 (hK ▸ itz_ok h hs h2 hs2)⟩⟩
            | _ => exact out1.elim
          | @tup q vs _ h hs => cases r2 with
            | @tup q2 us _ h2 hs2 => exact ⟨q, q2, vs, us, rfl, .inr ⟨hK ▸ tq_of s1 h, hK ▸ tq_of s1 h2, out1 _ H1 w1 (Wd.le.refl _) s1 (hK ▸ itzT_ok h hs h2 hs2)⟩⟩
            | _ => exact out1.elim
          | _ => cases r2 <;> exact out1.elim⟩

/-! ### list comprehensions -/
def wipeD (env : DE) : List Nat → DE
  | [] => env
  | v :: vs => (wipeD env vs).set v none
theorem wipeD_ok {w : Wd} {env : DE} {σ : St} (h : EnvOk G w env σ) : ∀ vs : List Nat, EnvOk G w (wipeD env vs) (wipe σ vs)
  | [] => h
  | v :: vs => (wipeD_ok h vs).wipe1 v
/-- no error leaves -/
def nox {α β : Type} (r : R α) (k : α → MS → R β) : R β := match r with
  | .ok a ms => k a ms
  | _ => .stuck
def lcL (gt : VG) (tt : ST) (fe : SE) (env : DE) (n : Nat) : List D → MS → R Unit
  | [], ms => .ok () ms
  | d :: ds, ms => match gt ms d env with
    | none => .stuck
    | some env1 => nox (tt env1 ms) fun k ms => if k = true then nox (fe env1 ms) fun y ms => match ms[n]? with
        | some (.lst acc) => if acc.length < 16777216 then lcL gt tt fe env n ds (ms.set n (.lst (acc ++ [y]))) else .stuck
        | _ => .stuck
      else lcL gt tt fe env n ds ms
def lcEnd (n : Nat) (ms : MS) : R D := match ms[n]? with
  | some (.lst xs) => .ok (.lst xs) (ms.set n .dead)
  | _ => .stuck
/-- mu: the new list is changed later -/
def lcE (mu : Bool) (n : Nat) (ms : MS) : R D := match ms[n]? with
  | some (.lst xs) => if mu = true then .ok (.loc n) ms else .ok (.lst xs) (ms.set n .dead)
  | _ => .stuck
def sLcG (mu : Bool) (fi : SI') (vs : List Nat) (gt : VG) (tt : ST) (fe : SE) : SE := fun env ms => (fi env ms).bind fun ds ms => (lcL gt tt fe (wipeD env vs) ms.length ds (ms ++ [.lst []])).bind fun _ ms' => lcE mu ms.length ms'
theorem lcE_f (n : Nat) (ms : MS) : lcE false n ms = lcEnd n ms := rfl
abbrev W0 : WX := fun _ _ _ _ => False
theorem sYes_ok : PTs X [] (tT G W (fun _ ms => .ok true ms)) := ⟨fun pins s σ H Q I ⟨w, env, ms, at_, out⟩ => (pts_nil (X := X)).run pins s σ H Q I (out true H w (Wd.le.refl _) at_.s rfl)⟩
/-- a result that is no error, without errors wished -/
theorem nox_out {w : Wd} {α β γ : Type} {rel : Wd → α → β → Prop} {r : R α} {k : α → MS → R γ} {P : β → Hp → Prop} {Z : R γ → Wd → Prop} (hz : ∀ w, ¬ Z .stuck w) (h : Z (nox r k) w)
    (f : ∀ a ms, r = .ok a ms → ∀ v H' w', w.le w' → SI G w' ms H' → rel w' a v → P v H') : Out G w rel r P (fun _ _ _ => False) := by
  cases r with
  | ok a ms => exact fun v H' w' l s q => f a ms rfl v H' w' l s q
  | err c x ms => exact (hz _ h).elim
  | stuck => exact (hz _ h).elim
/-- the reading of a comprehension -/
theorem lc_readG {mu : Bool} {fi : SI'} {vs : List Nat} {gt : VG} {tt : ST} {fe : SE} {σ : St} {H : Hp} {Q : VK} (h : tE G W (sLcG mu fi vs gt tt fe) σ H Q) :
    tLc (fun σ H R => ∃ w env ms, At G w env ms σ H ∧ Out G w (fun w' ds J => ItOk G w' J ds) (fi env ms) R (fun c d H' => W c d σ H')) (tG G vs gt) (tT G W0 tt) (tE G W0 fe) vs σ H Q := by
  obtain ⟨w, env, ms, at_, out⟩ := h
  refine ⟨w, env, ms, at_, Out.bind out fun ds ms1 J H1 w1 l1 s1 io out1 => ?_⟩
  intro Dd hD
  have l0 : w1.le ⟨w1.B, w1.as ++ [Dd]⟩ := ⟨Same.refl _, List.prefix_append _ _⟩
  obtain ⟨s2, l2⟩ := s1.new (m := .lst []) (o := .lst []) hD ⟨s1.sub.free hD, [], upd_same, .nil⟩
  have hn : (w1.as ++ [Dd])[ms1.length]? = some Dd := last_at s1.len
  let envw := wipeD env vs
  let Inv' (i : Nat) (H : Hp) := ∃ (w : Wd) (ms : MS), (Wd.mk w1.B (w1.as ++ [Dd])).le w ∧ SI G w ms H ∧ OutD G w ((lcL gt tt fe envw ms1.length (ds.drop i) ms).bind fun _ ms' => lcE mu ms1.length ms') Q (fun c d H' => W c d σ H')
  refine ⟨fun i m H => m = ds.length - i ∧ i ≤ ds.length ∧ Inv' i H, ⟨_, rfl, Nat.zero_le _, ⟨_, _, Wd.le.refl _, s2, Out.mono l2 out1⟩⟩, fun i m H ⟨hm, hi, w, ms, l, si, out⟩ => ?_⟩
  have lw : w1.le w := l0.trans l
  cases q : ds[i]? with
  | none =>
    have hge : ds.length ≤ i := List.getElem?_eq_none_iff.mp q
    have e : i = ds.length := Nat.le_antisymm hi hge
    subst e
    rw [List.drop_length] at out
    refine .inl ⟨io.2 w ms H lw si, ?_⟩
    have out' : OutD G w (lcE mu ms1.length ms) Q (fun c d H' => W c d σ H') := out
    simp only [lcE] at out'
    cases q2 : ms[ms1.length]? with
    | none => rw [q2] at out'; exact out'.elim
    | some mo =>
      rw [q2] at out'
      cases mo with
      | lst xs =>
        have hp := pre_get l.a hn
        obtain ⟨b1, us, b2, b3⟩ := si.mo _ Dd _ hp q2
        cases mu with
        | true => exact out' _ H w (Wd.le.refl w) si (.loc hp)
        | false =>
          obtain ⟨s3, l3⟩ := si.frz hp b1 b2
          exact out' _ H _ l3 s3 (.lst upd_same (b3.mono l3))
      | _ => exact out'.elim
  | some d =>
    have hlt : i < ds.length := (List.getElem?_eq_some_iff.mp q).1
    obtain ⟨hgo, hy⟩ := io.1 w ms H i d lw si q
    have hdrop : ds.drop i = d :: ds.drop (i + 1) := by
      rw [List.drop_eq_getElem_cons hlt]
      rw [List.getElem?_eq_getElem hlt] at q
      cases q; rfl
    rw [hdrop] at out
    refine .inr ⟨hgo, Inv' (i + 1), fun H' h => ⟨ds.length - (i + 1), by omega, rfl, hlt, h⟩, fun x H' hx => ?_⟩
    obtain ⟨w2, l2', sI2, r2⟩ := hy x H' hx
    simp only [lcL] at out
    cases q2 : gt ms d envw with
    | none => rw [q2] at out; exact out.elim
    | some env1 =>
      rw [q2] at out
      simp only at out
      have e1 : EnvOk G w2 envw (wipe σ vs) := wipeD_ok (at_.e.mono (l1.trans (lw.trans l2'))) vs
      refine ⟨w2, envw, ms, d, env1, ⟨e1, sI2⟩, r2, q2, fun σ2 a2 c2 => ⟨?_, w2, env1, ms, a2, ?_⟩⟩
      · rw [c2.wipe, wipe_wipe]
      · have hz : ∀ w', ¬ (fun (r : R Unit) (w' : Wd) => OutD G w' (r.bind fun _ ms' => lcE mu ms1.length ms') Q (fun c d H' => W c d σ H')) .stuck w' := fun _ z => z
        refine nox_out (Z := fun r w' => OutD G w' (r.bind fun _ ms' => lcE mu ms1.length ms') Q (fun c d H' => W c d σ H')) hz (Out.mono l2' out) fun k ms3 ek k' H3 w3 l3 s3 rk => ?_
        rw [ek] at out
        subst rk
        cases k with
        | false => exact iteF ⟨w3, ms3, l.trans (l2'.trans l3), s3, Out.mono (l2'.trans l3) out⟩
        | true =>
          refine iteT ⟨w3, env1, ms3, ⟨a2.e.mono l3, s3⟩, ?_⟩
          have out3 : OutD G w3 ((nox (fe env1 ms3) fun y ms => match ms[ms1.length]? with
            | some (.lst acc) => if acc.length < 16777216 then lcL gt tt fe envw ms1.length (ds.drop (i + 1)) (ms.set ms1.length (.lst (acc ++ [y]))) else .stuck
            | _ => .stuck).bind fun _ ms' => lcE mu ms1.length ms') Q (fun c d H' => W c d σ H') := Out.mono (l2'.trans l3) out
          refine nox_out (Z := fun r w' => OutD G w' (r.bind fun _ ms' => lcE mu ms1.length ms') Q (fun c d H' => W c d σ H')) hz out3 fun y ms4 ey v H4 w4 l4 s4 ry => ?_
          rw [ey] at out3
          simp only [nox] at out3
          have lall : (Wd.mk w1.B (w1.as ++ [Dd])).le w4 := l.trans (l2'.trans (l3.trans l4))
          cases q5 : ms4[ms1.length]? with
          | none => rw [q5] at out3; exact out3.elim
          | some mo =>
            rw [q5] at out3
            cases mo with
            | lst acc =>
              simp only at out3
              split at out3
              · rename_i hlen
                have hp := pre_get lall.a hn
                obtain ⟨b1, us, b2, b3⟩ := s4.mo _ Dd _ hp q5
                rw [b3.length] at hlen
                exact ⟨us, b2, by rw [sizeLine_eq]; exact hlen, w4, _, lall, s4.put (m := .lst (acc ++ [y])) hp b1 ⟨b1, _, upd_same, b3.append (.cons ry .nil)⟩, Out.mono l4 out3⟩
              · exact out3.elim
            | _ => exact out3.elim
end
end DL

/-! enumerate over a tuple -/
namespace DL
open PySem PySem.Spec PyProof.Rows L2
section
variable {v : Value} {o : Obj} {Hh : Heap → Prop}
theorem enum_new (B : Begins v o Hh) : Meets (Builtin.«enumerate.__new__» ⟨[.type "enumerate", v], []⟩) fun _ R s => Hh s.heap ∧ R (.ok (.ret (.ref (s.heap.push o).objs.size)))
    { s with heap := (s.heap.push o).push { cls := .type "enumerate", data := .fields #[.none, .bool false, .ref s.heap.objs.size, rawInt 0, .none, .none] } } :=
  .of_wp fun prog w A R s hh => by
    obtain ⟨hp, g, d, tk, os⟩ := s
    obtain ⟨h1, h⟩ := hh
    have isub := sub_enumerate
    have step : ∀ {A' : Around} {E : Value → Shared → Prop} {Q : Value → Shared → Prop}, Q (.ref hp.objs.size) ⟨hp.push o, g, d, tk, os⟩ → wpAny (model prog w) A' (pyIter v) Q E ⟨hp, g, d, tk, os⟩ := fun q => B.iter prog w _ _ _ _ h1 q
    wp_walk using step
    refine wpAny_stack_any fun st => wpAny_pure ?_
    split
    · rename_i c _ _ _ _ _
      cases (c == Value.type "enumerate") <;> (wp_walk using step; exact ⟨_, rfl, h⟩)
    · wp_walk using step
      exact ⟨_, rfl, h⟩
theorem enum_call {prog : Program} {w : World} {A : Around} {E : Value → Shared → Prop} {s : Shared} {Q : Value → Shared → Prop} (B : Begins v o Hh) (h1 : Hh s.heap)
    (k : ∀ h', IsEnum h' (s.heap.objs.size + 1) s.heap.objs.size 0 .none → h'.get? s.heap.objs.size = some o → (∀ b u, s.heap.get? b = some u → h'.get? b = some u) → Q (.ref (s.heap.objs.size + 1)) { s with heap := h' }) :
    wpAny (model prog w) A (call (.type "enumerate") [v]) Q E s := by
  refine callType_new F.called_enumerate (by decide) (F.typeCall_enumerate_1 _) (F.newCall_enumerate_1 _) (fun z => F.args_object_init_2 z _) F.entry_enumerate_new (enum_new B) ⟨h1, ?_⟩
  have sz : (s.heap.push o).objs.size = s.heap.objs.size + 1 := Heap.size_push ..
  have en : IsEnum ((s.heap.push o).push { cls := .type "enumerate", data := .fields #[.none, .bool false, .ref s.heap.objs.size, rawInt 0, .none, .none] }) (s.heap.objs.size + 1) s.heap.objs.size 0 .none := by
    rw [← sz]; exact Heap.get?_push_size _ rfl
  have fin := k _ en (Heap.get?_push_of_some _ (Heap.get?_push_size _ B.free)) (fun b u x => Heap.get?_push_of_some _ (Heap.get?_push_of_some _ x))
  rw [sz]
  exact ⟨⟨_, en, rfl⟩, fin⟩
end
/-- the tuple at a, each item in a new pair -/
def IteT (K : PySem.W.Frag) (a : Addr) : It where
  go := fun i H => ∃ (xs : List V) (x : V), SqT K H a xs ∧ xs[i]? = some x
  yld := fun i H v H' => ∃ T x, v = .ref T ∧ H T = none ∧ H' = upd H T (.tup [.int (i : Nat), x]) ∧ ∀ xs, SqT K H a xs → xs[i]? = some x
  stop := fun i H => ∃ xs : List V, SqT K H a xs ∧ xs.length ≤ i
theorem turn_enumT {P : Program} {w : World} {K : PySem.W.Frag} {elts : List Expr} {kk : Nat} {tpos : Pos} (a e it : Addr) (na : a ≠ it) :
    Turn P w K (.Tuple elts kk tpos) (IteT K a) [e, it] e (fun i h => (∃ old, IsEnum h e it ((i : Nat) : Int) old) ∧ h.IsTupleIter it a i ∧ e ≠ it ∧ a ≠ e) where
  mem := List.mem_cons_self
  obj := fun i h ⟨⟨old, he⟩, ⟨u, hu, _, hd⟩, _⟩ b hb => by
    rcases List.mem_cons.mp hb with rfl | hb
    · exact ⟨_, he, fun _ q => nomatch q⟩
    · obtain rfl := List.mem_singleton.mp hb
      exact ⟨u, hu, fun _ q => by rw [hd] at q; cases q⟩
  keep := fun i h h' ⟨⟨old, he⟩, hi, n1, n2⟩ k => ⟨⟨old, k e List.mem_cons_self _ he⟩, hi.at fun u q => k it (by simp) u q, n1, n2⟩
  item := by
    rintro X rfl rfl rfl hc i pins s σ H E I hf ⟨⟨old, he⟩, hit, ne, nae⟩ ⟨xs, x, hq, hx⟩
    obtain ⟨its, rv, tp, _⟩ := I.tuple hq
    obtain ⟨u, hu, ru⟩ := rv.get hx
    have le : e < s.heap.objs.size := Heap.lt_size he
    have li : it < s.heap.objs.size := by
      obtain ⟨_, q, _⟩ := hit
      exact Heap.lt_size q
    have hlen : i < its.toArray.size := by
      have := (List.getElem?_eq_some_iff.mp hu).1
      simpa using this
    have dr := Draws.tuple (prog := X.prog) (w := X.w) (A := X.A.in1) (show X.A.in1.handled = none from I.ok.hd hc) it a na its.toArray
    refine wpAny_pyNext_enum_itemD dr he ⟨hit, tp⟩ hlen ne (by simp [ne, nae.symm]) fun y h' tk hy ho st2 hT _ hk => ?_
    have ey : y = u := by
      have h1 : its[i]? = some y := by simpa using hy
      rw [hu] at h1
      exact (Option.some.inj h1).symm
    subst ey
    refine ⟨_, rfl, wpAny_letOwnedTupleGo_enum (s := { s with heap := h', toks := tk + 1 }) ho fun h2 he2 sb => ?_⟩
    have hT2 : h2.get? s.heap.objs.size = some { cls := .type "tuple", data := .seq #[.int i tk, y] } := (sb.2 _ (Nat.ne_of_gt le)).trans hT
    have I1 : Inv X pins σ (upd H s.heap.objs.size (.tup [.int (i : Nat), x])) { s with heap := h2, toks := tk + 1 } :=
      I.turnedNew (ch := [e, it]) (fun b ob hb q => by
        simp only [List.mem_cons, List.not_mem_nil, or_false, not_or] at hb
        exact (sb.2 b hb.1).trans (hk b ob hb.1 hb.2 q)) hf (Nat.le_refl _) ⟨by show 2 ≤ sizeLine; decide, [.int i tk, y], .cons ⟨_, rfl⟩ (.cons ru .nil), ⟨_, hT2, rfl, _, rfl⟩⟩
    refine ⟨.ref s.heap.objs.size, _, I1, rfl, ⟨_, x, rfl, I.hok.fresh (Nat.le_refl _), rfl, fun zs hz => ?_⟩, ⟨⟨y, ?_⟩, st2.1.at fun ob q => (sb.2 it (Ne.symm ne)).trans q, ne, nae⟩, fun b hb => ?_⟩
    · rw [I.tuple_inj hz hq]; exact hx
    · rw [Int.natCast_succ]; exact he2
    · have lb : b < s.heap.objs.size := by
        rcases List.mem_cons.mp hb with rfl | hb
        · exact le
        · rw [List.mem_singleton.mp hb]; exact li
      rw [upd_ne (Nat.ne_of_lt lb)]
      exact (hf b hb).1
  done := by
    rintro X rfl rfl rfl hc i pins s σ H E I hf ⟨⟨old, he⟩, hit, ne, nae⟩ ⟨xs, hq, hx⟩
    obtain ⟨its, rv, tp, _⟩ := I.tuple hq
    obtain ⟨f0, f1, _, f3, f4, f5⟩ := hf it (by simp)
    have hl := rv.length
    have hT : s.TypeIs (.ref e) "enumerate" := ⟨_, he, rfl⟩
    unfold pyNext
    refine wpAny_bind (wpAny_attempt (wpAny_callSpecial?_slot (name := Str.ofString "__next__") hT F.slot_enumerate_next (wpAny_call_entry F.slot_enumerate_next hT F.entry_enumerate_next ?_ (F.args_enumerate_next_1 _))))
    show wpAny _ _ (field (.ref e) 2 >>= _) _ _ _
    refine wpAny_bind (wpAny_field he rfl (x := .ref it) rfl (wpAny_bind (wpAny_nextOf_tuple_end (show X.A.in1.handled = none from I.ok.hd hc) hit tp (by simp; omega) fun h' z eb hz => ?_)))
    obtain ⟨ob, hob, hcl⟩ := hz
    exact wpAny_bind (wpAny_isInstance (T := "StopIteration") (b := true) ⟨ob, hob, hcl⟩ isSubtype_stop (wpAny_pure ⟨rfl, I.turned (t' := s.toks) (fun b u hb q => eb b u hb q) f0 f1 f3 f4 f5⟩))
  self := fun A i s Q E ⟨⟨_, he⟩, _⟩ h => wpAny_pyIter_enum he h
def iEnumT (K : PySem.W.Frag) (ta : TA) : TI := fun σ H R => ta σ H fun vs H1 => ∃ a xs, vs = [.ref a] ∧ ((SqL K H1 a xs ∧ R (Ite K a) H1) ∨ (SqT K H1 a xs ∧ R (IteT K a) H1))
theorem pi_enumA {X : Cx} {e : Expr} {ta : TA} {p pos tpos : Pos} {elts : List Expr} {kk : Nat} (hg : Gl X "enumerate") (hm : X.mg "enumerate" = none) (ha : PA X [e] ta) (hs : starEach [e] X.env = [(false, eval e X.env)]) :
    PI X (.Tuple elts kk tpos) (.Call (.Name "enumerate" p) [e] [] pos) (iEnumT X.K ta) := by
  refine ⟨fun pins s σ H R I h => Call_ (ld_blt I hg hm boot_enumerate (PyProof.Rows.callWith_type1 (thn (ha.run pos pins s σ H _ I h) fun us s1 ⟨vs, H1, I1, r1, a, xs, ex, q1⟩ => ?_) hs rfl))⟩
  subst ex
  cases r1 with
  | cons r rr =>
    cases rr
    cases r
    have ap : ∀ b, b ∈ [s1.heap.objs.size + 1, s1.heap.objs.size] → FpOk X pins H1 b := fun b hb => by
      have hle : s1.heap.objs.size ≤ b := by
        rcases List.mem_cons.mp hb with rfl | hb
        · exact Nat.le_succ _
        · rw [List.mem_singleton.mp hb]; exact Nat.le_refl _
      exact I1.fpOk hle (I1.hok.fresh hle)
    rcases q1 with ⟨hq, q⟩ | ⟨hq, q⟩
    · obtain ⟨its, rv, p', hz⟩ := I1.list hq
      refine enum_call (begins_list a its.toArray) p'.isList fun h' he hit hk => wpAny_pyIter_enum he ?_
      have I2 : Inv X pins σ H1 { s1 with heap := h' } := I1.kept (t' := s1.toks) hk
      exact ⟨_, _, _, _, H1, rfl, I2, turn_enum a (s1.heap.objs.size + 1) s1.heap.objs.size, ⟨⟨.none, he⟩, ⟨_, hit, rfl, rfl⟩, Nat.succ_ne_self _⟩, ap, q⟩
    · obtain ⟨its, rv, tp, hz⟩ := I1.tuple hq
      have la : a < s1.heap.objs.size := by
        obtain ⟨_, q, _⟩ := tp
        exact Heap.lt_size q
      refine enum_call (begins_tuple a its.toArray) tp fun h' he hit hk => wpAny_pyIter_enum he ?_
      have I2 : Inv X pins σ H1 { s1 with heap := h' } := I1.kept (t' := s1.toks) hk
      exact ⟨_, _, _, _, H1, rfl, I2, turn_enumT a (s1.heap.objs.size + 1) s1.heap.objs.size (Nat.ne_of_lt la), ⟨⟨.none, he⟩, ⟨_, hit, rfl, rfl⟩, Nat.succ_ne_self _, Nat.ne_of_lt (Nat.lt_succ_of_lt la)⟩, ap, q⟩
section
variable {G : Gx} {X : Cx} {W : WX} {a : Expr} {ga : SA} {p pos : Pos}
theorem iteT_ok {w : Wd} {a : Addr} {vs : List V} {ds : List D} (h : SqT G.K w.B a vs) (hs : Rps G w ds vs) : ItOk G w (IteT G.K a) (ds.mapIdx fun i d => D.tup [.int (i : Nat), d]) := by
  refine ⟨fun w' ms H i d l s e => ?_, fun w' ms H l s => ⟨vs, tq_of s (Same.tq l.b h), by simp [hs.length]⟩⟩
  rw [List.getElem?_mapIdx] at e
  cases q : ds[i]? with
  | none => rw [q] at e; cases e
  | some d0 =>
    rw [q] at e
    simp at e
    subst e
    obtain ⟨v, hv, r⟩ := (hs.mono l).get q
    refine ⟨⟨vs, v, tq_of s (Same.tq l.b h), hv⟩, fun x H' ⟨T, y, ex, hT, eH, hy⟩ => ?_⟩
    subst ex eH
    have := hy vs (tq_of s (Same.tq l.b h))
    rw [hv] at this
    cases this
    obtain ⟨s2, l2⟩ := s.lay hT (.tup [.int (i : Nat), v])
    exact ⟨_, l2, s2, .tup (SqT.of upd_same) (.cons (.int _) (.cons (r.mono l2) .nil))⟩
def sEnumA (ga : SA) : SI' := fun env ms => (ga env ms).bind fun ds ms => match ds with
  | [.lst xs] => .ok (xs.mapIdx fun i d => D.tup [.int (i : Nat), d]) ms
  | [.tup xs] => .ok (xs.mapIdx fun i d => D.tup [.int (i : Nat), d]) ms
  | _ => .stuck
theorem ji_enumA {elts : List Expr} {kk : Nat} {tpos : Pos} (hK : X.K = G.K) (hg : Gl X "enumerate") (hm : X.mg "enumerate" = none) (ha : JA G X W [a] ga) (hs : starEach [a] X.env = [(false, eval a X.env)]) : JI G X W (.Tuple elts kk tpos) (.Call (.Name "enumerate" p) [a] [] pos) (sEnumA ga) :=
  PI.imp (pi_enumA hg hm ha hs) fun σ H R ⟨w, env, ms, at_, out⟩ => ⟨w, env, ms, at_, Out.bind out fun ds ms1 vs H1 w1 l1 s1 r1 out1 => by
    cases r1 with
    | nil => exact out1.elim
    | cons r rs => cases rs with
      | cons _ _ => cases r <;> exact out1.elim
      | nil => cases r with
        | @lst q vs _ h hs => exact ⟨q, vs, rfl, .inl ⟨hK ▸ SqL.of (s1.sub _ _ h), out1 _ H1 w1 (Wd.le.refl _) s1 (hK ▸ ite_ok h hs)⟩⟩
        | @tup q vs _ h hs => exact ⟨q, vs, rfl, .inr ⟨hK ▸ tq_of s1 h, out1 _ H1 w1 (Wd.le.refl _) s1 (hK ▸ iteT_ok h hs)⟩⟩
        | _ => exact out1.elim⟩
end
end DL

namespace DL
open PySem L2

/-! ### the store is cut behind a call -/
mutual
def locsLt (n : Nat) : D → Bool
  | .loc k => decide (k < n)
  | .lst xs => locsLts n xs
  | .tup xs => locsLts n xs
  | .dic _ vs => locsLts n vs
  | .exc _ v => locsLt n v
  | .non => true
  | .bl _ => true
  | .int _ => true
  | .str _ => true
  | .rat _ _ => true
  | .scr => true
def locsLts (n : Nat) : List D → Bool
  | [] => true
  | d :: ds => locsLt n d && locsLts n ds
end
mutual
theorem Rp.lt {G : Gx} {w : Wd} : ∀ {d : D} {v : V}, Rp G w d v → locsLt w.as.length d = true
  | _, _, .non => by simp only [locsLt]
  | _, _, .bl _ => by simp only [locsLt]
  | _, _, .int _ => by simp only [locsLt]
  | _, _, .str _ => by simp only [locsLt]
  | _, _, .lst _ hs => by simp only [locsLt]; exact Rps.lt hs
  | _, _, .tup _ hs => by simp only [locsLt]; exact Rps.lt hs
  | _, _, .dic _ _ hs => by simp only [locsLt]; exact Rps.lt hs
  | _, _, .rat _ => by simp only [locsLt]
  | _, _, .scr _ => by simp only [locsLt]
  | _, _, .loc h => by simp only [locsLt]; exact decide_eq_true (List.getElem?_eq_some_iff.mp h).1
theorem Rps.lt {G : Gx} {w : Wd} : ∀ {ds : List D} {vs : List V}, Rps G w ds vs → locsLts w.as.length ds = true
  | _, _, .nil => by simp only [locsLts]
  | _, _, .cons h hs => by simp only [locsLts, Rp.lt h, Rps.lt hs, Bool.and_self]
end
mutual
theorem Rp.cutW {G : Gx} {w : Wd} {n : Nat} : ∀ {d : D} {v : V}, Rp G w d v → locsLt n d = true → Rp G ⟨w.B, w.as.take n⟩ d v
  | _, _, .non, _ => .non
  | _, _, .bl _, _ => .bl _
  | _, _, .int _, _ => .int _
  | _, _, .str _, _ => .str _
  | _, _, .lst h hs, e => by simp only [locsLt] at e; exact .lst h (Rps.cutW hs e)
  | _, _, .tup h hs, e => by simp only [locsLt] at e; exact .tup h (Rps.cutW hs e)
  | _, _, .dic h q hs, e => by simp only [locsLt] at e; exact .dic h q (Rps.cutW hs e)
  | _, _, .rat h, _ => .rat h
  | _, _, .scr h, _ => .scr h
  | _, _, .loc h, e => by
    simp only [locsLt] at e
    exact .loc (by show (w.as.take n)[_]? = _; rw [List.getElem?_take_of_lt (of_decide_eq_true e)]; exact h)
theorem Rps.cutW {G : Gx} {w : Wd} {n : Nat} : ∀ {ds : List D} {vs : List V}, Rps G w ds vs → locsLts n ds = true → Rps G ⟨w.B, w.as.take n⟩ ds vs
  | _, _, .nil, _ => .nil
  | _, _, .cons h hs, e => by simp only [locsLts, Bool.and_eq_true] at e; exact .cons (Rp.cutW h e.1) (Rps.cutW hs e.2)
end
/-- a mutable thing that holds no mutable ones above n -/
def moLt (n : Nat) : MO → Bool
  | .lst xs => locsLts n xs
  | .obj _ fs => fs.all fun p => locsLt n p.2
  | .dic kds => kds.all fun p => locsLt n p.2
  | _ => true
theorem kd_lt {G : Gx} {w : Wd} : ∀ {fs : List (Key × D)} {vs : List (Key × V)}, KD G w fs vs → (fs.all fun p => locsLt w.as.length p.2) = true
  | _, _, .nil => rfl
  | _, _, .cons h hs => by rw [List.all_cons, h.2.lt, kd_lt hs]; rfl
theorem kd_cut {G : Gx} {w : Wd} {n : Nat} : ∀ {fs : List (Key × D)} {vs : List (Key × V)}, KD G w fs vs → (fs.all fun p => locsLt n p.2) = true → KD G ⟨w.B, w.as.take n⟩ fs vs
  | _, _, .nil, _ => .nil
  | _, _, .cons h hs, e => by
    rw [List.all_cons, Bool.and_eq_true] at e
    exact .cons ⟨h.1, h.2.cutW e.1⟩ (kd_cut hs e.2)
theorem pf_lt {G : Gx} {w : Wd} : ∀ {fs : List (Str × D)} {vs : List (Str × V)}, PF G w fs vs → (fs.all fun p => locsLt w.as.length p.2) = true
  | _, _, .nil => rfl
  | _, _, .cons h hs => by rw [List.all_cons, h.2.lt, pf_lt hs]; rfl
theorem pf_cut {G : Gx} {w : Wd} {n : Nat} : ∀ {fs : List (Str × D)} {vs : List (Str × V)}, PF G w fs vs → (fs.all fun p => locsLt n p.2) = true → PF G ⟨w.B, w.as.take n⟩ fs vs
  | _, _, .nil, _ => .nil
  | _, _, .cons h hs, e => by
    rw [List.all_cons, Bool.and_eq_true] at e
    exact .cons ⟨h.1, h.2.cutW e.1⟩ (pf_cut hs e.2)
theorem MoOk.lt {G : Gx} {w : Wd} {H : Hp} {a : Addr} {m : MO} (h : MoOk G w H a m) : moLt w.as.length m = true := by
  cases m with
  | lst xs => obtain ⟨_, vs, _, hs⟩ := h; exact hs.lt
  | obj c fs => obtain ⟨_, dx, vs, _, hs⟩ := h; exact pf_lt hs
  | dic kds => obtain ⟨_, kvs, _, hs⟩ := h; exact kd_lt hs
  | _ => rfl
theorem MoOk.cutW {G : Gx} {w : Wd} {H : Hp} {a : Addr} {m : MO} {n : Nat} (h : MoOk G w H a m) (e : moLt n m = true) : MoOk G ⟨w.B, w.as.take n⟩ H a m := by
  cases m with
  | dead => trivial
  | lst xs => obtain ⟨h1, vs, h2, hs⟩ := h; exact ⟨h1, vs, h2, hs.cutW e⟩
  | dic kds => obtain ⟨h1, kvs, h2, hs⟩ := h; exact ⟨h1, kvs, h2, kd_cut hs e⟩
  | obj c fs => obtain ⟨h1, dx, vs, h2, hs⟩ := h; exact ⟨h1, dx, vs, h2, pf_cut hs e⟩
  | hold o => exact h
/-- the old things stand, or hold nothing new -/
def Kept (ms ms' : MS) : Prop := ms.length ≤ ms'.length ∧ ∀ (n : Nat) (o : MO), ms[n]? = some o → ∃ o', ms'[n]? = some o' ∧ (o' = o ∨ moLt ms.length o' = true)
theorem Kept.refl (ms : MS) : Kept ms ms := ⟨Nat.le_refl _, fun n o h => ⟨o, h, .inl rfl⟩⟩
theorem Kept.app (ms xs : MS) : Kept ms (ms ++ xs) := ⟨by simp, fun n o h => ⟨o, by rw [List.getElem?_append_left (List.getElem?_eq_some_iff.mp h).1]; exact h, .inl rfl⟩⟩
theorem SI.cut {G : Gx} {w w' : Wd} {ms ms' : MS} {H H' : Hp} (s : SI G w ms H) (l : w.le w') (s' : SI G w' ms' H') (k : Kept ms ms') : SI G ⟨w'.B, w'.as.take ms.length⟩ (ms'.take ms.length) H' ∧ w.le ⟨w'.B, w'.as.take ms.length⟩ := by
  have hlen : w.as.length = ms.length := s.len
  refine ⟨⟨s'.sub, ?_, ?_, fun a ha => s'.th a (List.mem_of_mem_take ha), fun n a m ha hm => ?_⟩, ⟨l.b, ?_⟩⟩
  · show (w'.as.take ms.length).length = (ms'.take ms.length).length
    rw [List.length_take, List.length_take, s'.len]
  · exact List.Nodup.sublist (List.take_sublist _ _) s'.nd
  · have hn : n < ms.length := by
      have h1 := (List.getElem?_eq_some_iff.mp hm).1
      rw [List.length_take] at h1
      omega
    have ha' : w'.as[n]? = some a := by
      have : (w'.as.take ms.length)[n]? = some a := ha
      rw [List.getElem?_take_of_lt hn] at this
      exact this
    rw [List.getElem?_take_of_lt hn] at hm
    have q := s'.mo n a m ha' hm
    refine q.cutW ?_
    have ho : ms[n]? = some ms[n] := List.getElem?_eq_getElem hn
    obtain ⟨o', h1, h2⟩ := k.2 n _ ho
    rw [hm] at h1
    cases h1
    rcases h2 with h2 | h2
    · have hn' : n < w.as.length := by rw [hlen]; exact hn
      have old := (s.mo n _ _ (List.getElem?_eq_getElem hn') ho).lt
      rw [h2, ← hlen]
      exact old
    · exact h2
  · show w.as <+: w'.as.take ms.length
    obtain ⟨t, ht⟩ := l.a
    rw [← ht, ← hlen, List.take_left]
    exact List.prefix_refl _
open Classical in
/-- what a comprehension made is no part of the store behind it -/
noncomputable def cutE (f : SE) : SE := fun env ms => match f env ms with
  | .ok d ms' => if Kept ms ms' ∧ locsLt ms.length d = true then .ok d (ms'.take ms.length) else .stuck
  | .err c v ms' => .err c v ms'
  | .stuck => .stuck
noncomputable def cutM (mu : Bool) (f : SE) : SE := match mu with
  | true => f
  | false => cutE f
/-- a comprehension whose list is not changed -/
noncomputable def sLc (fi : SI') (vs : List Nat) (gt : VG) (tt : ST) (fe : SE) : SE := cutE (sLcG false fi vs gt tt fe)
section
variable {G : Gx} {X : Cx} {W : WX} {e : Expr} {st : Stmt} {f : SE}
theorem cut_out {w : Wd} {env : DE} {ms : MS} {σ : St} {H : Hp} {Q : VK} {E : XK} (a : At G w env ms σ H) (out : OutD G w (cutE f env ms) Q E) : OutD G w (f env ms) Q E := by
  unfold cutE at out
  cases q : f env ms with
  | stuck => rw [q] at out; exact out.elim
  | err c x m => rw [q] at out; exact out
  | ok d m =>
    rw [q] at out
    simp only at out
    split at out
    · rename_i hc
      intro v H' w' l s r
      obtain ⟨s2, l2⟩ := a.s.cut l s hc.1
      exact out v H' _ l2 s2 (r.cutW hc.2)
    · exact out.elim
theorem je_cut (h : JE G X W e f) : JE G X W e (cutE f) := PE.imp h fun σ H Q ⟨w, env, ms, a, out⟩ => ⟨w, env, ms, a, cut_out a out⟩
theorem je_cutM {mu : Bool} (h : JE G X W e f) : JE G X W e (cutM mu f) := by
  cases mu with
  | true => exact h
  | false => exact je_cut h
theorem js_cut {i : Nat} (h : JS G X W st (sAsg f (gNm i))) : JS G X W st (sAsg (cutE f) (gNm i)) := PS.imp h fun K σ H ⟨w, env, ms, a, out⟩ => by
  refine ⟨w, env, ms, a, ?_⟩
  have o1 : OutS G w ((cutE f env ms).thenS env fun d ms => match gNm i ms d env with | some env' => .nx env' ms | none => .stuck) K W := out
  show OutS G w ((f env ms).thenS env fun d ms => match gNm i ms d env with | some env' => .nx env' ms | none => .stuck) K W
  unfold cutE at o1
  cases q : f env ms with
  | stuck => rw [q] at o1; exact o1
  | err c x m => rw [q] at o1; exact o1
  | ok d m =>
    rw [q] at o1
    simp only at o1
    split at o1
    · rename_i hc
      intro σ' H' w' l at'
      obtain ⟨s2, l2⟩ := a.s.cut l at'.s hc.1
      refine o1 σ' H' _ l2 ⟨⟨at'.e.len, fun j d' hj => ?_⟩, s2⟩
      obtain ⟨v, hv, r⟩ := at'.e.at_ j d' hj
      refine ⟨v, hv, r.cutW ?_⟩
      have hj' : (env.set i (some d))[j]? = some (some d') := hj
      by_cases e : i = j
      · subst e
        by_cases hl : i < env.length
        · rw [List.getElem?_set_self hl] at hj'
          have z : d = d' := by simpa using hj'
          rw [← z]; exact hc.2
        · rw [List.getElem?_eq_none (by simpa using Nat.le_of_not_lt hl)] at hj'
          cases hj'
      · rw [List.getElem?_set_ne e] at hj'
        obtain ⟨v0, _, r0⟩ := a.e.at_ j d' hj'
        have z := r0.lt
        rw [a.s.len] at z
        exact z
    · exact o1.elim
theorem js_cutM {mu : Bool} {i : Nat} (h : JS G X W st (sAsg f (gNm i))) : JS G X W st (sAsg (cutM mu f) (gNm i)) := by
  cases mu with
  | true => exact h
  | false => exact js_cut h
end
end DL

/-! repr; raise that is never come to -/
namespace DL
open PySem L2
theorem ob {α β : Type} {x : Option α} {f : α → Option β} {b : β} (h : x.bind f = some b) : ∃ a, x = some a ∧ f a = some b := by
  cases x with
  | none => cases h
  | some a => exact ⟨a, rfl, h⟩
theorem og {α : Type} {c : Bool} {x : Option α} {b : α} (h : (if c = true then x else none) = some b) : c = true ∧ x = some b := by
  split at h
  · rename_i hc; exact ⟨hc, h⟩
  · cases h

def refB : D → Bool
  | .lst _ => true
  | .tup _ => true
  | .loc _ => true
  | _ => false
def reprD : VOn := fun ms ds => match ds with
  | [d] => (match pdOf ms d with
    | some p => if SeqAt.shaped p = true ∧ p.showable = true ∧ p.shown.length ≤ 16777216 then some (.str p.shown) else none
    | none => none)
  | _ => none
section
variable {G : Gx} {X : Cx} {W : WX}
theorem call_reprD (hK : X.K = G.K) (hg : X.A.guards = some []) (hu : X.A.units + 66 < cLine) : CallD G X (.builtin "repr") reprD := fun pins s σ H xs us Q w ms ds d I r si rd e q => by
  cases rd with
  | nil => cases e
  | cons r1 rs => cases rs with
    | cons _ _ => simp only [reprD] at e; cases e
    | nil =>
      rename_i z v
      obtain ⟨u, rfl, ru⟩ := Vals.one r
      simp only [reprD] at e
      cases q1 : pdOf ms z with
      | none => rw [q1] at e; cases e
      | some p =>
        rw [q1] at e
        simp only at e
        split at e
        · rename_i hc
          cases e
          have dp : Dp X.K H v p := hK ▸ pdOf_ok si r1 q1
          by_cases isref : ∃ a, v = .ref a
          · obtain ⟨as, hr⟩ := Dp.reads I p v u dp ru
            obtain ⟨a, rfl⟩ := isref
            obtain rfl : u = Value.ref a := ru
            have hd : p.hasDict = false := PyData.hasDict_of_canLay p (SeqAt.canLay_of_shaped hc.1)
            have hdep := SeqAt.depth_of_shaped hc.1
            exact repr_of_reads' hr hc.2.1 (PyData.noDict_hsm hd) hg (by omega) (fun _ _ z => z) (fun h' u tk hk => ⟨.str p.shown, H, I.kept hk, ⟨u, rfl⟩, q.here si (.str _)⟩) (by rw [sizeLine_eq]; exact hc.2.2)
          · cases r1 with
            | non =>
              simp only [pdOf, toP, Option.some.injEq] at q1
              subst q1
              obtain rfl : u = Value.none := ru
              exact P.repr_of_none ⟨.str _, H, I.tok _, ⟨_, rfl⟩, q.here si (.str _)⟩
            | bl b =>
              simp only [pdOf, toP, Option.some.injEq] at q1
              subst q1
              obtain rfl : u = Value.bool b := ru
              exact P.repr_of_bool ⟨.str _, H, I.tok _, ⟨_, rfl⟩, by have := q.here si (Rp.str (G := G) (w := w) _); simpa only [PyData.shown] using this⟩
            | int i =>
              simp only [pdOf, toP, Option.some.injEq] at q1
              subst q1
              obtain ⟨t, rfl⟩ := ru
              have h2 := hc.2.1
              simp only [PyData.showable, decide_eq_true_eq] at h2
              exact P.repr_of_int h2 ⟨.str _, H, I.tok _, ⟨_, rfl⟩, by have := q.here si (Rp.str (G := G) (w := w) _); simpa only [PyData.shown] using this⟩
            | str x =>
              simp only [pdOf, toP, Option.some.injEq] at q1
              subst q1
              obtain ⟨t, rfl⟩ := ru
              have h2 := hc.2.2
              simp only [PyData.shown] at h2
              exact P.repr_of_str ⟨.str _, H, I.tok _, ⟨_, rfl⟩, by have := q.here si (Rp.str (G := G) (w := w) _); simpa only [PyData.shown] using this⟩ (by rw [sizeLine_eq]; exact h2)
            | _ => exact absurd ⟨_, rfl⟩ isref
        · cases e
end
end DL

/-! own errors -/
namespace DL
open PySem L2 PyProof.Rows PySem.Spec

/-! ### Base.__init__(self, text) -/
section
variable {X : Cx} {e : Expr} {es : List Expr} {ta : TA} {p1 p2 pos : Pos} {x : Str} {CF : Addr}
/-- what the text says of a plain error class: its __init__ is ValueError's -/
structure FeC (K : PySem.W.Frag) (CF : Addr) : Prop where
  rd : PySem.W.readsIn K CF (.type "type") = true
  val : PySem.W.findCls K (.ref CF) (.type "type") "__init__" = some (.val (.builtin "ValueError.__init__"))
  ga : PySem.W.specialIn K (.ref CF) "__getattribute__" = some (some (.builtin "type.__getattribute__"))
theorem pe_feinit {pl : Sem Bool} (hg : Gl X x) (hdb : (x == ("__debug__" : Str)) = false) (hm : X.mg x = some (.ref CF)) (hF : FeC X.K CF) (ha : PA X (e :: es) ta)
    (hc : eval (.Call (.Attribute (.Name x p1) "__init__" p2) (e :: es) [] pos) X.env = (do
      let base ← eval (.Name x p1) X.env
      standAt p2.atName
      let (fn, first) ← holding [base] (getMethod base "__init__" pl)
      callWith pos fn first (backTo pos (starEach (e :: es) X.env)) (backToKw pos (keywordEach [] X.env))))
    (he : starEach (e :: es) X.env = (false, eval e X.env) :: starEach es X.env) (hpl : (backTo pos (starEach es X.env)).any (·.1) = false) :
    PE X (.Call (.Attribute (.Name x p1) "__init__" p2) (e :: es) [] pos) (tVeI X.K ta) := by
  refine ⟨fun pins s σ H Q I h => ?_⟩
  refine PySem.W.methodCall_KW (ld_glob I hg hm ?_ hdb) hc
  refine PySem.W.method_cls I.kIn hF.ga (PySem.W.cls_value I.kIn hF.rd hF.val (by decide +kernel) ?_)
  show wpAny _ _ (callWith pos (Value.builtin "ValueError.__init__") [] (backTo pos (starEach (e :: es) X.env)) []) _ _ _
  refine PyProof.Rows.callWith_method1 (thn (ha.run pos pins _ σ H _ (I.tok _) h) fun us s1 ⟨vs, H1, I1, r1, a, C, ws, ev, hl, T, ea, q⟩ => ?_) he hpl
  subst ev
  cases r1 with
  | @cons _ u0 _ ur ra rest =>
    obtain rfl : u0 = Value.ref a := ra
    exact oinit_ok T I1 ea (by rw [← Paired.length rest, sizeLine_eq]; omega) fun s' J => ⟨.non, H1, J, rfl, q⟩
/-! ### what an error's own __init__ promises -/
/-- the value may stand in an f-string -/
def FOk : V → Prop
  | .str y => y.length ≤ 1000000
  | .int i => i.natAbs.log2 < 1000 ∧ (toString i : Str).length ≤ 1000000
  | _ => False
def spI (C : Addr) (fld : Str) (fs : Bool) : Sp := fun vs H Q _ => ∃ (a : Addr) (v : V), vs = [.ref a, v] ∧ H a = some (exo a C none) ∧ (fs = true → FOk v) ∧ ∀ dx, H dx = none → dx ≠ a → Q .non (upd (upd H dx (exd dx [(fld, v)])) a (exo a C (some dx)))
variable {fld par : Str} {arg : Expr} {t2 : TE} {p3 p5 p6 p7 p8 p9 : Pos} {C : Addr}
def tIn (K : PySem.W.Frag) (fld : Str) (t2 : TE) : TS := tSeq (tDrop (tVeI K (tCons (tVar 0) (tCons t2 tNil)))) (tOst K fld (tVar 0) (tVar 1))
theorem in_read {K : PySem.W.Frag} {fs : Bool} {vs : List V} {H : Hp} {Q : VK} {E : XK} (T : OexC K C) (hno : PySem.W.findIn K (.ref C) fld = some none) (h : spI C fld fs vs H Q E)
    (h2 : ∀ (a : Addr) (v : V) (H : Hp) (Q : VK), (fs = true → FOk v) → (∀ y : Str, Q (.str y) H) → t2 [some (.ref a), some v] H Q) : tIn K fld t2 { nx := fun _ H' => Q .non H', rt := Q } (L2.start [("self" : Str), par] vs) H := by
  obtain ⟨a, v, rfl, ea, hf, q⟩ := h
  refine ⟨.ref a, rfl, h2 a v H _ hf fun y => ?_⟩
  exact ⟨a, C, [.str y], rfl, by simp, T, ea, v, rfl, .ref a, rfl, a, C, rfl, T, hno, .inl ⟨ea, fun dx h1 h2 => q dx h1 h2⟩⟩
/-- how the call of the base's __init__ is read (the text's places decide it) -/
def FeCall (p1 p2 p3 pos : Pos) (arg : Expr) : Prop := ∀ env : Env, ∃ pl : Sem Bool, eval (.Call (.Attribute (.Name "FrameError" p1) "__init__" p2) [.Name "self" p3, arg] [] pos) env = (do
      let base ← eval (.Name "FrameError" p1) env
      standAt p2.atName
      let (fn, first) ← holding [base] (getMethod base "__init__" pl)
      callWith pos fn first (backTo pos (starEach [.Name "self" p3, arg] env)) (backToKw pos (keywordEach [] env)))
theorem in_body (hg : Gl X "FrameError") (hm : X.mg "FrameError" = some (.ref CF)) (hF : FeC X.K CF) (hN : X.N = [("self" : Str), par]) (v0 : Vis X.env.scope "self") (v1 : Vis X.env.scope par) (d1 : (par == ("__debug__" : Str)) = false) (d2 : (par == ("__classdict__" : Str)) = false)
    (ha : PE X arg t2) (he : starEach [.Name "self" p3, arg] X.env = (false, eval (.Name "self" p3) X.env) :: starEach [arg] X.env) (hpl : (backTo pos (starEach [arg] X.env)).any (·.1) = false) (hst : starEach [arg] X.env = (false, eval arg X.env) :: starEach [] X.env)
    (hc : FeCall p1 p2 p3 pos arg) :
    PSs X [.Expr (.Call (.Attribute (.Name "FrameError" p1) "__init__" p2) [.Name "self" p3, arg] [] pos) p5, .Assign [.Attribute (.Name "self" p6) fld p7] (.Name par p8) p9] (tIn X.K fld t2) := by
  have s0 : ∀ p, PE X (.Name "self" p) (tVar 0) := fun p => pe_var (by rw [hN]; rfl) v0
  obtain ⟨pl, hc⟩ := hc X.env
  refine pss_cons (ps_expr (pe_feinit hg (by decide) hm hF (pa_cons (s0 p3) (pa_cons ha pa_nil hst) he) hc he hpl)) (pss_one (ps_ost (s0 p6) (pe_var (by rw [hN]; rfl) v1 d1 d2)))
/-! the promise of an error's __init__: its text a constant (A), an f-string of three parts (B), of two (C) -/
section
variable {P : Program} {w : World} {K : PySem.W.Frag} {mg : Str → Option Value} {base : Heap} {qual msg m1 m2 : Str} {st : Stmt} {f : Addr} {fd : FuncData} {k j j2 : Nat} {q1 q2 q3 q4 q5 : Pos}
theorem initA (Fu : Fun K "__init__" qual st f fd) (S : FnScope [("self" : Str), par] [("self" : Str), par] (defScope st)) (hm : mg "FrameError" = some (.ref CF)) (hF : FeC K CF) (T : OexC K C) (hno : PySem.W.findIn K (.ref C) fld = some none)
    (hg : (defScope st).names.lookup ("FrameError" : Str) = some NameKind.globalImplicit) (v0 : Vis (defScope st) "self") (v1 : Vis (defScope st) par) (d1 : (par == ("__debug__" : Str)) = false) (d2 : (par == ("__classdict__" : Str)) = false)
    (hb : defBody st = [.Expr (.Call (.Attribute (.Name "FrameError" p1) "__init__" p2) [.Name "self" p3, .Constant (.str msg) j q1] [] pos) p5, .Assign [.Attribute (.Name "self" p6) fld p7] (.Name par p8) p9])
    (hc : FeCall p1 p2 p3 pos (.Constant (.str msg) j q1)) : FnOk P w K mg base CX0 (k + 1) f fd [("self" : Str), par] (spI C fld false) := by
  refine Fu.ok S (fun vs H Q E h => ?_) fun cdv A outer s H vs Q E hr h => ⟨tIn K fld (tC (.str msg)), ?_, in_read T hno h fun a v H Q _ q => q msg⟩
  · obtain ⟨a, v, rfl, _⟩ := h
    rfl
  · rw [hb]
    exact in_body (X := (cxOf CX0 P w K mg base [("self" : Str), par] qual (defScope st) f cdv A outer s H E).nox) hg hm hF rfl v0 v1 d1 d2 pe_str rfl rfl rfl hc
theorem fmt_read {a : Addr} {v : V} {H : Hp} {Q : VK} (hv : FOk v) (h : ∀ y : Str, y.length ≤ 1000000 → Q (.str y) H) : tFmt (tVar 1) [some (.ref a), some v] H Q := by
  refine ⟨v, rfl, ?_⟩
  cases v with
  | str y => exact .inl ⟨y, rfl, by rw [sizeLine_eq]; have := hv; simp only [FOk] at this; omega, h y hv⟩
  | int i => exact .inr ⟨i, rfl, by have := hv.1; omega, h _ hv.2⟩
  | _ => exact hv.elim
theorem initB (Fu : Fun K "__init__" qual st f fd) (S : FnScope [("self" : Str), par] [("self" : Str), par] (defScope st)) (hm : mg "FrameError" = some (.ref CF)) (hF : FeC K CF) (T : OexC K C) (hno : PySem.W.findIn K (.ref C) fld = some none)
    (hg : (defScope st).names.lookup ("FrameError" : Str) = some NameKind.globalImplicit) (v0 : Vis (defScope st) "self") (v1 : Vis (defScope st) par) (d1 : (par == ("__debug__" : Str)) = false) (d2 : (par == ("__classdict__" : Str)) = false) (l1 : m1.length ≤ 1000) (l2 : m2.length ≤ 1000)
    (hb : defBody st = [.Expr (.Call (.Attribute (.Name "FrameError" p1) "__init__" p2) [.Name "self" p3, .JoinedStr [.Constant (.str m1) j q1, .FormattedValue (.Name par q2) (-1) none q3, .Constant (.str m2) j2 q4] q5] [] pos) p5, .Assign [.Attribute (.Name "self" p6) fld p7] (.Name par p8) p9])
    (hc : FeCall p1 p2 p3 pos (.JoinedStr [.Constant (.str m1) j q1, .FormattedValue (.Name par q2) (-1) none q3, .Constant (.str m2) j2 q4] q5)) : FnOk P w K mg base CX0 (k + 1) f fd [("self" : Str), par] (spI C fld true) := by
  refine Fu.ok S (fun vs H Q E h => ?_) fun cdv A outer s H vs Q E hr h => ⟨tIn K fld (fun σ H Q => tJs [tC (.str m1), tFmt (tVar 1), tC (.str m2)] Str.empty σ H fun out H1 => Q (.str out) H1), ?_, in_read T hno h fun a v H Q hv q => ?_⟩
  · obtain ⟨a, v, rfl, _⟩ := h
    rfl
  · rw [hb]
    exact in_body (X := (cxOf CX0 P w K mg base [("self" : Str), par] qual (defScope st) f cdv A outer s H E).nox) hg hm hF rfl v0 v1 d1 d2 (pe_joined (.cons pe_str (.cons (pe_fmt (pe_var rfl v1 d1 d2)) (.cons pe_str .nil)))) rfl rfl rfl hc
  · have e0 : (Str.empty ++ m1).length = m1.length := by rw [strLen_append]; show 0 + _ = _; omega
    refine ⟨m1, rfl, by rw [e0, sizeLine_eq]; omega, fmt_read (hv rfl) fun y hy => ⟨y, rfl, by rw [strLen_append, e0, sizeLine_eq]; omega, m2, rfl, by rw [strLen_append, strLen_append, e0, sizeLine_eq]; omega, q _⟩⟩
theorem initC (Fu : Fun K "__init__" qual st f fd) (S : FnScope [("self" : Str), par] [("self" : Str), par] (defScope st)) (hm : mg "FrameError" = some (.ref CF)) (hF : FeC K CF) (T : OexC K C) (hno : PySem.W.findIn K (.ref C) fld = some none)
    (hg : (defScope st).names.lookup ("FrameError" : Str) = some NameKind.globalImplicit) (v0 : Vis (defScope st) "self") (v1 : Vis (defScope st) par) (d1 : (par == ("__debug__" : Str)) = false) (d2 : (par == ("__classdict__" : Str)) = false) (l1 : m1.length ≤ 1000)
    (hb : defBody st = [.Expr (.Call (.Attribute (.Name "FrameError" p1) "__init__" p2) [.Name "self" p3, .JoinedStr [.Constant (.str m1) j q1, .FormattedValue (.Name par q2) (-1) none q3] q5] [] pos) p5, .Assign [.Attribute (.Name "self" p6) fld p7] (.Name par p8) p9])
    (hc : FeCall p1 p2 p3 pos (.JoinedStr [.Constant (.str m1) j q1, .FormattedValue (.Name par q2) (-1) none q3] q5)) : FnOk P w K mg base CX0 (k + 1) f fd [("self" : Str), par] (spI C fld true) := by
  refine Fu.ok S (fun vs H Q E h => ?_) fun cdv A outer s H vs Q E hr h => ⟨tIn K fld (fun σ H Q => tJs [tC (.str m1), tFmt (tVar 1)] Str.empty σ H fun out H1 => Q (.str out) H1), ?_, in_read T hno h fun a v H Q hv q => ?_⟩
  · obtain ⟨a, v, rfl, _⟩ := h
    rfl
  · rw [hb]
    exact in_body (X := (cxOf CX0 P w K mg base [("self" : Str), par] qual (defScope st) f cdv A outer s H E).nox) hg hm hF rfl v0 v1 d1 d2 (pe_joined (.cons pe_str (.cons (pe_fmt (pe_var rfl v1 d1 d2)) .nil))) rfl rfl rfl hc
  · have e0 : (Str.empty ++ m1).length = m1.length := by rw [strLen_append]; show 0 + _ = _; omega
    refine ⟨m1, rfl, by rw [e0, sizeLine_eq]; omega, fmt_read (hv rfl) fun y hy => ⟨y, rfl, by rw [strLen_append, e0, sizeLine_eq]; omega, q _⟩⟩
end
end
/-- an error class under its name -/
def EGl (G : Gx) (X : Cx) (x : Str) (c : Nat) (fs : Bool) : Prop := ∃ (k : Nat) (fI : Addr) (fd : FuncData) (ps : List Str), OexC X.K (G.EC c) ∧ PySem.W.findIn X.K (.ref (G.EC c)) "__init__" = some (some (.ref fI)) ∧ PySem.W.typeIn X.K (.ref fI) = some (.type "function") ∧
  FnOk X.prog X.w X.K X.mg X.base CX0 k fI fd ps (spI (G.EC c) (erF c) fs) ∧ Room (k + 1) X.A ∧ Binds X.K fd ps [] ∧ X.mg x = some (.ref (G.EC c)) ∧ XfC X.K (G.EC c) ∧ PySem.W.findIn X.K (.ref (G.EC c)) (erF c) = some none
end DL

/-! objects of the text's own classes -/
namespace DL
open PySem L2 PyProof.Rows PySem.Spec

def starB : Expr → Bool
  | .Starred _ _ => true
  | _ => false
theorem star_plain {e : Expr} {es : List Expr} {env : Env} (h : starB e = false) : starEach (e :: es) env = (false, eval e env) :: starEach es env := by
  cases e <;> first | rfl | cases h
theorem star_all {es : List Expr} {env : Env} {pos : Pos} (h : es.all (fun e => !starB e) = true) : (backTo pos (starEach es env)).any (·.1) = false := by
  induction es with
  | nil => rfl
  | cons e es ih =>
    simp only [List.all_cons, Bool.and_eq_true, Bool.not_eq_true'] at h
    rw [star_plain h.1]
    show (false || (backTo pos (starEach es env)).any (·.1)) = false
    rw [ih h.2]; rfl

def ratD (n d : Int) : List (Str × D) := [("own_num", .int n), ("own_den", .int d)]
def putO (f : Str) (v : D) : List (Str × D) → List (Str × D)
  | [] => [(f, v)]
  | (g, x) :: r => if g = f then (g, v) :: r else (g, x) :: putO f v r
section
variable {G : Gx} {w : Wd}
theorem pf_look : ∀ {fs : List (Str × D)} {vs : List (Str × V)} {x : Str} {d : D}, PF G w fs vs → fs.lookup x = some d → ∃ v, vs.lookup x = some v ∧ Rp G w d v
  | _, _, x, d, .nil, e => by cases e
  | (f, d') :: fs, (g, v') :: vs, x, d, .cons h t, e => by
    obtain ⟨h1, h2⟩ := h
    simp only at h1 h2
    subst h1
    rw [List.lookup_cons] at e ⊢
    by_cases q : x = f
    · subst q
      rw [beq_self_eq_true] at e ⊢
      cases e
      exact ⟨v', rfl, h2⟩
    · rw [beq_false_of_ne q] at e ⊢
      exact pf_look t e
theorem pf_none : ∀ {fs : List (Str × D)} {vs : List (Str × V)} {x : Str}, PF G w fs vs → fs.lookup x = none → vs.lookup x = none
  | _, _, x, .nil, e => rfl
  | (f, d') :: fs, (g, v') :: vs, x, .cons h t, e => by
    obtain ⟨h1, h2⟩ := h
    simp only at h1 h2
    subst h1
    rw [List.lookup_cons] at e ⊢
    by_cases q : x = f
    · subst q
      rw [beq_self_eq_true] at e
      cases e
    · rw [beq_false_of_ne q] at e ⊢
      exact pf_none t e
theorem pf_put : ∀ {fs : List (Str × D)} {vs : List (Str × V)} {x : Str} {d : D} {v : V}, PF G w fs vs → Rp G w d v → PF G w (putO x d fs) (putF x v vs)
  | _, _, x, d, v, .nil, r => .cons ⟨rfl, r⟩ .nil
  | (f, d') :: fs, (g, v') :: vs, x, d, v, .cons h t, r => by
    obtain ⟨h1, h2⟩ := h
    simp only at h1 h2
    subst h1
    simp only [putO, putF]
    by_cases q : f = x
    · rw [if_pos q, if_pos q]
      exact .cons ⟨rfl, r⟩ t
    · rw [if_neg q, if_neg q]
      exact .cons ⟨rfl, h2⟩ (pf_put t r)
theorem pf_len : ∀ {fs : List (Str × D)} {vs : List (Str × V)}, PF G w fs vs → vs.length = fs.length
  | _, _, .nil => rfl
  | _ :: _, _ :: _, .cons h t => by rw [List.length_cons, List.length_cons, pf_len t]
theorem pf_rat {n d : Int} : PF G w (ratD n d) (ratF n d) := .cons ⟨rfl, .int n⟩ (.cons ⟨rfl, .int d⟩ .nil)
/-- a frozen ratio from an object -/
theorem pf_ratV {n d : Int} {vs : List (Str × V)} (h : PF G w (ratD n d) vs) : vs = ratF n d := by
  unfold ratD at h
  cases h with
  | cons h1 t => cases t with
    | cons h2 t => cases t with
      | nil =>
        rename_i p q
        obtain ⟨p1, p2⟩ := p
        obtain ⟨q1, q2⟩ := q
        obtain ⟨a1, a2⟩ := h1
        obtain ⟨b1, b2⟩ := h2
        simp only at a1 a2 b1 b2
        subst a1 b1
        cases a2
        cases b2
        rfl
end
/-! ### e.f -/
def attrB : Expr → Bool
  | .Call (.Name _ _) [] [] _ => false
  | _ => true
theorem attrB_ok {e : Expr} {f : Str} {env : Env} {whole : Sem Value} (h : attrB e = true) : attributeBase e f env whole = whole := by
  unfold attributeBase
  split
  · cases h
  · rfl
def fldD (cs : List (Nat × Bool)) (x : Str) (ms : MS) : D → Option D
  | .rat n d => if cs.any (fun c => c.2) = true then (ratD n d).lookup x else none
  | .loc k => match ms[k]? with
    | some (.obj c fs) => if cs.any (fun z => z.1 == c) = true then fs.lookup x else none
    | _ => none
  | _ => none
def sFld (cs : List (Nat × Bool)) (x : Str) (f : SE) : SE := fun env ms => (f env ms).bind fun d ms => optR (fldD cs x ms d) ms
/-- classes with a field -/
def FldOk (G : Gx) (X : Cx) (cs : List (Nat × Bool)) (x : Str) : Prop := ∀ c r, (c, r) ∈ cs → Cls X.K (G.OC c) ∧ NoAttr X.K (G.OC c) x ∧ (r = true → G.OC c = G.CR)
section
variable {G : Gx} {X : Cx} {W : WX} {a : Expr} {fa : SE} {x : Str} {pos : Pos} {cs : List (Nat × Bool)}
theorem je_fld (hc : FldOk G X cs x) (ha : JE G X W a fa) (hb : attrB a = true) : JE G X W (.Attribute a x pos) (sFld cs x fa) :=
  PE.imp (pe_fld ha (attrB_ok hb)) fun σ H Q ⟨w, env, ms, at_, out⟩ => ⟨w, env, ms, at_, Out.bind out fun d ms1 v H1 w1 l1 s1 r1 out1 => by
    obtain ⟨z, e, q⟩ := Out.opt out1
    cases r1 with
    | @rat p dx n m h =>
      simp only [fldD] at e
      split at e
      · rename_i ha
        obtain ⟨⟨c, r⟩, hm, hr⟩ := List.any_eq_true.mp ha
        obtain ⟨h1, h2, h3⟩ := hc c r hm
        obtain ⟨v, h4, h5⟩ := pf_look (pf_rat (G := G) (w := w1)) e
        exact ⟨p, G.OC c, dx, _, v, rfl, by rw [h3 hr]; exact s1.sub _ _ h.2, h1, h2, h4, q.here s1 h5⟩
      · cases e
    | @loc k p hp =>
      simp only [fldD] at e
      cases q1 : ms1[k]? with
      | none => rw [q1] at e; cases e
      | some o =>
        rw [q1] at e
        cases o with
        | obj c fs =>
          simp only at e
          split at e
          · rename_i ha
            obtain ⟨⟨c', r⟩, hm, hr⟩ := List.any_eq_true.mp ha
            obtain ⟨h1, h2, _⟩ := hc c' r hm
            have hcc : c' = c := by simpa using hr
            subst hcc
            obtain ⟨b1, dx, vs, b2, b3⟩ := s1.mo k p _ hp q1
            obtain ⟨v, h4, h5⟩ := pf_look b3 e
            exact ⟨p, _, dx, vs, v, rfl, b2, h1, h2, h4, q.here s1 h5⟩
          · cases e
        | _ => cases e
    | _ => cases e⟩
/-- n.x = e, n a mutable object -/
def setM (c : Nat) (x : Str) (n : Nat) (d : D) (env : DE) (ms : MS) : RS := match ms[n]? with
  | some (.obj c' fs) => if c' = c ∧ fs.length < 100 then .nx env (ms.set n (.obj c (putO x d fs))) else .stuck
  | _ => .stuck
def sSetF (i c : Nat) (x : Str) (f : SE) : SS := fun env ms => (f env ms).thenS env fun d ms => match env[i]? with
  | some (some (.loc n)) => setM c x n d env ms
  | _ => .stuck
theorem js_setF {i c : Nat} {y : Str} {p1 p2 : Pos} (hc : Cls X.K (G.OC c)) (hn : NoAttr X.K (G.OC c) x) (hN : X.N[i]? = some y) (hv : Vis X.env.scope y) (hd : (y == ("__debug__" : Str)) = false) (hcd : (y == ("__classdict__" : Str)) = false) (ha : JE G X W a fa)
    (hs : swapsWith a (some (.Attribute (.Name y p1) x p2)) pos.line X.env = pure false) : JS G X W (.Assign [.Attribute (.Name y p1) x p2] a pos) (sSetF i c x fa) := by
  refine PS.imp (ps_fld (pe_var (i := i) hN hv hd hcd) ha hs) fun K σ H ⟨w, env, ms, at_, out⟩ => ⟨w, env, ms, at_, Out.thenS at_ out fun d ms1 v H1 w1 l1 a1 r1 out1 => ?_⟩
  cases q : env[i]? with
  | none => rw [q] at out1; exact out1.elim
  | some z =>
    rw [q] at out1
    cases z with
    | none => exact out1.elim
    | some dd =>
      cases dd with
      | loc n =>
        obtain ⟨u, hv', r⟩ := a1.e.at_ i _ q
        refine ⟨u, hv', ?_⟩
        cases r with
        | @loc _ p hp =>
          simp only [setM] at out1
          cases q2 : ms1[n]? with
          | none => rw [q2] at out1; exact out1.elim
          | some m =>
            rw [q2] at out1
            cases m with
            | obj c' fs =>
              simp only at out1
              split at out1
              · rename_i hl
                obtain ⟨rfl, hl⟩ := hl
                obtain ⟨b1, dx, vs, b2, b3⟩ := a1.s.mo n p _ hp q2
                refine ⟨p, _, dx, vs, rfl, b2, hc, hn, by rw [pf_len b3]; omega, out1 σ _ w1 (Wd.le.refl _) ⟨a1.e, a1.s.put (m := .obj c' (putO x d fs)) hp b1 ⟨b1, dx, _, upd_same, pf_put b3 r1⟩⟩⟩
              · exact out1.elim
            | _ => exact out1.elim
      | _ => exact out1.elim
end
end DL

/-! properties, own comparisons -/
namespace DL
open PySem L2 PyProof.Rows PySem.Spec
/-- x is a property of the class whose getter gives the field fl -/
def PropG (X : Cx) (C : Addr) (x fl : Str) : Prop := ∃ (p g : Addr) (fd : FuncData) (ps : List Str) (k : Nat), PropOf X.K C x p g ∧ FnOk X.prog X.w X.K X.mg X.base CX0 k g fd ps (getSp C fl) ∧ Room (k + 1) X.A ∧ Binds X.K fd ps []
section
variable {G : Gx} {X : Cx} {W : WX} {a b : Expr} {fa fb : SE} {x fl : Str} {pos : Pos} {c : Nat} {r : Bool}
theorem je_prop (hc : Cls X.K (G.OC c)) (hr : r = true → G.OC c = G.CR) (hp : PropG X (G.OC c) x fl) (ha : JE G X W a fa) (hb : attrB a = true) : JE G X W (.Attribute a x pos) (sFld [(c, r)] fl fa) := by
  obtain ⟨p, g, fd, ps, k, P, F, room, bd⟩ := hp
  refine PE.imp (pe_prop (E := fun _ _ _ => False) ha hc P F room bd .nil pass0 (attrB_ok hb)) fun σ H Q ⟨w, env, ms, at_, out⟩ => ⟨w, env, ms, at_, Out.bind out fun d ms1 v H1 w1 l1 s1 r1 out1 => ?_⟩
  obtain ⟨z, e, q⟩ := Out.opt out1
  cases r1 with
  | @rat p dx n m h =>
    simp only [fldD] at e
    split at e
    · rename_i ha
      have hr' : r = true := by simpa using ha
      obtain ⟨v, h4, h5⟩ := pf_look (pf_rat (G := G) (w := w1)) e
      have hh : H1 p = some (.ins (G.OC c) dx (ratF n m)) := by rw [hr hr']; exact s1.sub _ _ h.2
      exact ⟨p, dx, _, rfl, hh, p, dx, _, v, rfl, hh, h4, q.here s1 h5⟩
    · cases e
  | @loc k p hp =>
    simp only [fldD] at e
    cases q1 : ms1[k]? with
    | none => rw [q1] at e; cases e
    | some o =>
      rw [q1] at e
      cases o with
      | obj c' fs =>
        simp only at e
        split at e
        · rename_i ha
          have hcc : c = c' := by simpa using ha
          subst hcc
          obtain ⟨b1, dx, vs, b2, b3⟩ := s1.mo k p _ hp q1
          obtain ⟨v, h4, h5⟩ := pf_look b3 e
          exact ⟨p, dx, vs, rfl, b2, p, dx, vs, v, rfl, b2, h4, q.here s1 h5⟩
        · cases e
      | _ => cases e
  | _ => cases e
/-! ### own comparisons -/
def ratB : D → Bool
  | .rat _ _ => true
  | _ => false
def cmpO (F : SF) (o : VO2) (ms : MS) (a b : D) : R D := if (ratB a && ratB b) = true then (match F [a, b] ms with
  | .ok d m => .ok d m
  | _ => .stuck) else optR (o ms a b) ms
def sCmpO (F : SF) (o : VO2) (fa fb : SE) : SE := fun env ms => (fa env ms).bind fun a ms => (fb env ms).bind fun b ms => cmpO F o ms a b
/-- the class's own def for an operator -/
def OwnG (G : Gx) (X : Cx) (op : CmpOp) (F : SF) : Prop := ∃ (g : Addr) (fd : FuncData) (ps : List Str) (k : Nat), PySem.W.findIn X.K (.ref G.CR) (cmpInfo op).2.1 = some (some (.ref g)) ∧ PySem.W.isFn X.K (.ref g) = true ∧
  FnG X.prog X.w X.K X.mg X.base k g fd ps (spF G F 2) ∧ Room k X.A ∧ Binds X.K fd ps []
theorem op_cmpO {op : CmpOp} {F : SF} {o : VO2} (hop : ∀ a b, compareOp op a b = richCompare op a b) (hgd : X.A.guards = some []) (tk : Takes X W) (hu : X.A.units < cLine) (h : OwnG G X op F) (h2 : Op2 G X (compareOp op) o) :
    OpR X (compareOp op) (fun x y H Q => ∃ w ms a b, SI G w ms H ∧ Rp G w a x ∧ Rp G w b y ∧ OutD G w (cmpO F o ms a b) Q (fun _ _ _ => True)) := by
  intro pins s σ H x y v u Q I rx ry h
  obtain ⟨w, ms, a, b, si, ra, rb, out⟩ := h
  unfold cmpO at out
  split at out
  · rename_i hh
    rw [Bool.and_eq_true] at hh
    obtain ⟨g, fd, ps, k, hs, hf, Fk, hr, hb⟩ := ‹OwnG G X op F›
    cases ra with
    | @rat p dx n m h1 => cases rb with
      | @rat q dy n' m' h3 =>
        cases rx
        cases ry
        obtain ⟨mA, J, _⟩ := ins_get I.hok (si.sub _ _ h1.2)
        obtain ⟨mB, J', _⟩ := ins_get I.hok (si.sub _ _ h3.2)
        obtain ⟨od, J, _⟩ := J.look
        obtain ⟨od', J', _⟩ := J'.look
        obtain ⟨m0, hF⟩ := I.fr
        rw [hop]
        refine PySem.W.cmp_K (op := op) (tb := .ref G.CR) hu hF I.ok.mod.kin J J'.type (by simp [PySem.W.notFirst]) hs hf ?_
        cases q2 : F [.rat n m, .rat n' m'] ms with
        | ok d ms' =>
          rw [q2] at out
          have hsp : spF G F 2 [.ref p, .ref q] H Q (WE W σ) := ⟨w, ms, [.rat n m, .rat n' m'], si, .cons (.rat h1) (.cons (.rat h3) .nil), rfl, by rw [q2]; exact out⟩
          have hl : [Value.ref p, Value.ref q].length = ps.length := by rw [← Fk.len _ _ _ _ hsp]; rfl
          have bd := hb s [.ref p, .ref q] I.kIn (by rw [List.append_nil]; exact hl)
          rw [List.append_nil] at bd
          refine wpAny_mono (run_callG (args := ⟨[.ref p, .ref q], []⟩) (us := [.ref p, .ref q]) (vs := [.ref p, .ref q]) tk Fk hr hgd I bd (.cons rfl (.cons rfl .nil)) hsp) (fun w' s' z => ?_) fun _ _ x => x
          obtain ⟨z', H', I', rz, qz⟩ := z
          exact SlX.cmpback rz ⟨z', H', I', rz, qz⟩
        | err c x m => rw [q2] at out; exact out.elim
        | stuck => rw [q2] at out; exact out.elim
      | _ => cases hh.2
    | _ => cases hh.1
  · obtain ⟨d, e, q⟩ := Out.opt out
    exact h2 pins s σ H x y v u Q w ms a b d I rx ry si ra rb e q
theorem je_cmpO {op : CmpOp} {F : SF} {o : VO2} (hop : ∀ a b, compareOp op a b = richCompare op a b) (hgd : X.A.guards = some []) (tk : Takes X W) (hu : X.A.units < cLine) (h : OwnG G X op F) (h2 : Op2 G X (compareOp op) o) (ha : JE G X W a fa) (hb : JE G X W b fb) (hm : behindInMarks op b = false) :
    JE G X W (.Compare a [op] [b] pos) (sCmpO F o fa fb) :=
  PE.imp (pe_cmpR (op_cmpO (W := W) hop hgd tk hu h h2) ha hb hm) fun σ H Q ⟨w, env, ms, at_, out⟩ => ⟨w, env, ms, at_, Out.bind out fun d ms1 v H1 w1 l1 s1 r1 out1 => ⟨w1, env, ms1, at_.next l1 s1, Out.bind out1 fun d2 ms2 v2 H2 w2 l2 s2 r2 out2 =>
    ⟨w2, ms2, d, d2, s2, r1.mono l2, r2, Out.imp out2 (fun _ _ z => z) fun _ _ _ _ => trivial⟩⟩⟩
end
end DL

/-! isinstance of an own class, making -/
namespace DL
open PySem L2 PyProof.Rows PySem.Spec
/-! ### isinstance -/
/-- isinstance(x, Ratio) -/
def isiR (ms : MS) (d : D) : Option Bool := match d with
  | .rat _ _ => some true
  | d => match tyN ms d with
    | some t => if tyL.contains t = true then some false else none
    | none => none
def sIsiR (f : SE) : SE := fun env ms => (f env ms).bind fun d ms => optR ((isiR ms d).map D.bl) ms
section
variable {G : Gx} {X : Cx} {W : WX} {a e : Expr} {es : List Expr} {fa : SE} {ga : SA} {pos p q : Pos}
theorem IsiC.ty {K : PySem.W.Frag} {H : Hp} {C a dx : Addr} {fs : List (Str × V)} (h : IsiC K C) (e : H a = some (.ins C dx fs)) : TyX K H (.ref a) (.ref C) := .base (.ins e h.cl h.ha h.hn h.tk h.mr)
theorem je_isiR {T : Str} (hK : X.K = G.K) (hc : IsiC X.K G.CR) (hg : Gl X "isinstance") (hm : X.mg "isinstance" = none) (hgT : Gl X T) (hmT : X.mg T = some (.ref G.CR)) (hd : (T == ("__debug__" : Str)) = false) (ha : JE G X W a fa)
    (hs : starB a = false) : JE G X W (.Call (.Name "isinstance" p) [a, .Name T q] [] pos) (sIsiR fa) :=
  PE.imp (pe_callB L2.call_isi hg hm (by decide +kernel) (pa_cons ha (pa_cons (pe_glob (v := .ref G.CR) hgT hmT rfl hd) pa_nil rfl) (star_plain hs)) (by decide) (by decide) (star_plain hs) rfl) fun σ H Q ⟨w, env, ms, at_, out⟩ =>
    ⟨w, env, ms, at_, Out.bind out fun d ms1 v H1 w1 l1 s1 r1 out1 => by
      obtain ⟨r, e, k⟩ := Out.opt out1
      simp only [Option.map_eq_some_iff] at e
      obtain ⟨b, e, rfl⟩ := e
      by_cases hr : ∃ n m, d = .rat n m
      · obtain ⟨n, m, rfl⟩ := hr
        cases e
        cases r1 with
        | rat h => exact ⟨_, .ref G.CR, .ref G.CR, .ref G.CR, true, rfl, .own _, hc.ty (s1.sub _ _ h.2), hc.me, k.here s1 (.bl _)⟩
      · have e' : (match tyN ms1 d with
          | some t => if tyL.contains t = true then some false else none
          | none => none) = some b := by
          cases d with
          | rat n m => exact absurd ⟨n, m, rfl⟩ hr
          | _ => exact e
        cases q1 : tyN ms1 d with
        | none => rw [q1] at e'; cases e'
        | some t' =>
          rw [q1] at e'
          simp only at e'
          split at e'
          · rename_i ht
            cases e'
            have hm : t' ∈ tyL := by simpa using ht
            exact ⟨v, .ref G.CR, .type t', .ref G.CR, false, rfl, .own _, hK ▸ tyN_ok s1 r1 q1, hc.no t' hm, k.here s1 (.bl _)⟩
          · cases e'⟩
/-! ### C(..) -/
/-- the class's __init__ with some defaults -/
def IniG (G : Gx) (X : Cx) (C : Addr) (F : SF) (n : Nat) (dd : List D) : Prop := ∃ (k : Nat) (f : Addr) (fd : FuncData) (ps : List Str) (dvs : List V) (ds : List Value), Mk X.K C f ∧ FnG X.prog X.w X.K X.mg X.base k f fd ps (spF G F n) ∧ Room (k + 1) X.A ∧ Binds X.K fd ps ds ∧ Vals dvs ds ∧ ∀ w, Rps G w dd dvs
theorem run_makeG {k : Nat} {C f : Addr} {fd : FuncData} {ps : List Str} {sp : Sp} {dvs : List V} {ds : List Value} {pins : List (Addr × Obj)} {σ : L2.St} {H : Hp} {s : Shared} {Q : VK} {us : List Value} {vs : List V} (tk : Takes X W) (hgd : X.A.guards = some []) (M : Mk X.K C f) (F : FnG X.prog X.w X.K X.mg X.base k f fd ps sp) (hr : Room (k + 1) X.A) (hb : Binds X.K fd ps ds) (hd : Vals dvs ds)
    (I : Inv X pins σ H s) (r : Vals vs us)
    (h : ∀ x dx, H x = none → H dx = none → dx ≠ x → sp (.ref x :: (vs ++ dvs)) (upd (upd H dx (.own x)) x (.ins C dx [])) (fun v H2 => v = .non ∧ Q (.ref x) H2) (WE W σ)) :
    wpAny (model X.prog X.w) X.A (call (.ref C) us) (EP X pins σ Q) X.xe s := by
  have hq := h (s.heap.objs.size + 1) s.heap.objs.size (I.hok.fresh (Nat.le_succ _)) (I.hok.fresh (Nat.le_refl _)) (Nat.ne_of_lt (Nat.lt_succ_self _))
  have I2 := Inv.made (C := C) I
  have r2 : Vals (V.ref (s.heap.objs.size + 1) :: (vs ++ dvs)) (Value.ref (s.heap.objs.size + 1) :: (us ++ ds)) := .cons rfl (r.append hd)
  have hl : (Value.ref (s.heap.objs.size + 1) :: us ++ ds).length = ps.length := by
    have e := r2.length
    rw [F.len _ _ _ _ hq] at e
    exact e.symm
  refine wpAny_call (make_map (f := f) I.kIn M.makes M.init (beq_iff_eq.mp M.fn) (codeAny_mono (F.run _ X.stack _ _ ⟨Value.ref (s.heap.objs.size + 1) :: us, []⟩ (Value.ref (s.heap.objs.size + 1) :: (us ++ ds)) _ _ (WE W σ) hgd (hr.make C us [])
    (I2.env0.make C us []) (hb _ (Value.ref (s.heap.objs.size + 1) :: us) I2.kIn hl) r2 hq) fun r s' hq' => ?_))
  match r, hq' with
  | .error e, hq' => exact passAt tk σ pins _ _ e s' I2 hq'
  | .ok (.ret u), hq' =>
    obtain ⟨v, H', I3, rv, ev, q3⟩ := I2.after hq'
    subst ev
    exact ⟨rv, ⟨V.ref (s.heap.objs.size + 1), H', I3, rfl, q3⟩⟩
def ratOf : List (Str × D) → Option (Int × Int)
  | [(x, .int n), (y, .int d)] => if x = "own_num" ∧ y = "own_den" then some (n, d) else none
  | _ => none
theorem ratOf_ok {fs : List (Str × D)} {n d : Int} (h : ratOf fs = some (n, d)) : fs = ratD n d := by
  unfold ratOf at h
  split at h
  · split at h
    · rename_i e
      cases h
      rw [e.1, e.2]; rfl
    · cases h
  · cases h
/-- what __init__ leaves -/
def mkEnd (rat : Bool) (c n : Nat) (r : R D) : R D := match r with
  | .ok .non ms => if rat = true then (match ms[n]? with
    | some (.obj c' fs) => if c' = c then (match ratOf fs with
      | some (x, y) => .ok (.rat x y) (ms.set n .dead)
      | none => .stuck) else .stuck
    | _ => .stuck) else .ok (.loc n) ms
  | .err c v ms => .err c v ms
  | _ => .stuck
def sMake (rat : Bool) (c : Nat) (F : SF) (n : Nat) (dd : List D) (ga : SA) : SE := fun env ms => (ga env ms).bind fun ds ms => if ds.length + dd.length + 1 = n then mkEnd rat c ms.length (F (.loc ms.length :: (ds ++ dd)) (ms ++ [.obj c []])) else .stuck
theorem mk_sp {rat : Bool} {c n : Nat} {F : SF} {dd ds : List D} {w : Wd} {ms : MS} {H : Hp} {vs dvs : List V} {Q : VK} {E : XK} (hrt : rat = true → G.OC c = G.CR ∧ G.hr = true) (hdd : ∀ w, Rps G w dd dvs) (s : SI G w ms H) (r : Rps G w ds vs) (hl : ds.length + dd.length + 1 = n)
    (out : OutD G w (mkEnd rat c ms.length (F (.loc ms.length :: (ds ++ dd)) (ms ++ [.obj c []]))) Q E) :
    ∀ x dx, H x = none → H dx = none → dx ≠ x → spF G F n (.ref x :: (vs ++ dvs)) (upd (upd H dx (.own x)) x (.ins (G.OC c) dx [])) (fun v H2 => v = .non ∧ Q (.ref x) H2) E := fun x dx hx hdx ne => by
  obtain ⟨s1, l1⟩ := s.lay hdx (.own x)
  have hx1 : upd H dx (.own x) x = none := by rw [upd_ne ne.symm]; exact hx
  obtain ⟨s2, l2⟩ := s1.new (p := x) (o := .ins (G.OC c) dx []) (m := .obj c []) hx1 ⟨by
    show upd w.B dx (.own x) x = none
    rw [upd_ne ne.symm]; exact s.sub.free hx, dx, [], upd_same, .nil⟩
  have l12 := l1.trans l2
  have ln : w.as.length = ms.length := s.len
  have hat : (w.as ++ [x])[ms.length]? = some x := by rw [List.getElem?_append_right (by omega), ln, Nat.sub_self]; rfl
  refine ⟨_, _, .loc ms.length :: (ds ++ dd), s2, .cons (.loc hat) ((r.mono l12).append (hdd _)), by rw [List.length_cons, List.length_append, ← hl], ?_⟩
  cases q : F (.loc ms.length :: (ds ++ dd)) (ms ++ [.obj c []]) with
  | stuck => rw [q] at out; exact out.elim
  | err c' v m => rw [q] at out; exact fun cls dd' H' w' l' s' e' => out cls dd' H' w' (l12.trans l') s' e'
  | ok d m =>
    rw [q] at out
    cases d with
    | non =>
      intro v H2 w3 l3 s3 r3
      cases r3
      refine ⟨rfl, ?_⟩
      have hx3 : w3.as[ms.length]? = some x := pre_get l3.a hat
      have l13 := l12.trans l3
      cases rat with
      | false => exact out (.ref x) H2 w3 l13 s3 (.loc hx3)
      | true =>
        simp only [mkEnd, if_true] at out
        cases q2 : m[ms.length]? with
        | none => rw [q2] at out; exact out.elim
        | some o =>
          rw [q2] at out
          cases o with
          | obj c' fs =>
            simp only at out
            split at out
            · rename_i hcc
              subst hcc
              cases q3 : ratOf fs with
              | none => rw [q3] at out; exact out.elim
              | some z =>
                obtain ⟨z1, z2⟩ := z
                rw [q3] at out
                obtain ⟨b1, dx', vs', b2, b3⟩ := s3.mo _ x _ hx3 q2
                rw [ratOf_ok q3] at b3
                have ev := pf_ratV b3
                subst ev
                obtain ⟨s4, l4⟩ := s3.frz hx3 b1 b2
                refine out (.ref x) H2 _ (l13.trans l4) s4 (.rat (dx := dx') ⟨(hrt rfl).2, ?_⟩)
                show upd w3.B x _ x = _
                rw [upd_same, (hrt rfl).1]
            · exact out.elim
          | _ => exact out.elim
    | _ => exact out.elim
theorem je_make {rat : Bool} {c n : Nat} {F : SF} {dd : List D} {x : Str} (hrt : rat = true → G.OC c = G.CR ∧ G.hr = true) (hI : IniG G X (G.OC c) F n dd) (hgd : X.A.guards = some []) (tk : Takes X W) (hg : Gl X x) (hm : X.mg x = some (.ref (G.OC c))) (hdb : (x == ("__debug__" : Str)) = false) (ha : JA G X W (e :: es) ga)
    (he : starEach (e :: es) X.env = (false, eval e X.env) :: starEach es X.env) (hpl : (backTo pos (starEach es X.env)).any (·.1) = false) : JE G X W (.Call (.Name x p) (e :: es) [] pos) (sMake rat c F n dd ga) := by
  obtain ⟨k, f, fd, ps, dvs, ds, M, Fk, hr, hb, hv, hdd⟩ := hI
  refine ⟨fun pins s σ H Q I ⟨w, env, ms, at_, out⟩ => ?_⟩
  refine wpAny_Call_Name_kw (ld_glob I hg hm ?_ hdb)
  refine PySem.W.callWith_K (h₀ := X.base) I.ok.mod.kin M.kp (thn (PA.run ha pos pins s σ H (fun vs H1 => ∀ x dx, H1 x = none → H1 dx = none → dx ≠ x → spF G F n (.ref x :: (vs ++ dvs)) (upd (upd H1 dx (.own x)) x (.ins (G.OC c) dx [])) (fun v H2 => v = .non ∧ Q (.ref x) H2) (WE W σ)) I ⟨w, env, ms, at_, Out.bind out fun ds ms1 vs H1 w1 l1 s1 r1 out1 => ?_⟩) fun us s1 ⟨vs, H1, I1, r, q⟩ => ⟨I1.kIn, ?_⟩) he hpl
  · split at out1
    · rename_i h
      exact mk_sp hrt hdd s1 r1 h out1
    · exact out1.elim
  · exact run_makeG tk hgd M Fk hr hb hv I1 r q
end
end DL

/-! comparisons of ratios as operations on trees; what is known of a class -/
namespace DL
open PySem L2 PyProof.Rows PySem.Spec
def Wf : WX := fun _ _ _ _ => False
theorem tkf {X : Cx} : Takes X Wf := fun u s' ⟨a, B, sI, pins, σ, H, cls, d, e, I, nb, up, sky, na, os, ag, w⟩ => w.elim
/-- a comparison of two ratios across, else the usual one -/
def rcmp (g : Int → Int → Bool) (o : VO2) : VO2 := fun ms a b => match a, b with
  | .rat n d, .rat n' d' => if (mulOk n d' && mulOk n' d) = true then some (.bl (g (n * d') (n' * d))) else none
  | a, b => o ms a b
/-- what an own comparison gives -/
def CmpF (F : SF) (g : Int → Int → Bool) : Prop := ∀ (n d n' d' : Int) (ms : MS), mulOk n d' = true → mulOk n' d = true → F [.rat n d, .rat n' d'] ms = .ok (.bl (g (n * d') (n' * d))) ms
theorem op2_rcmp {G : Gx} {X : Cx} {op : CmpOp} {F : SF} {g : Int → Int → Bool} {o : VO2} (hop : ∀ a b, compareOp op a b = richCompare op a b) (hgd : X.A.guards = some []) (hu : X.A.units < cLine) (h : OwnG G X op F) (hF : CmpF F g) (h2 : Op2 G X (compareOp op) o) : Op2 G X (compareOp op) (rcmp g o) :=
  fun pins s σ H x y v u Q w ms a b d I rx ry si ra rb e q => by
    refine op_cmpO (W := Wf) hop hgd tkf hu h h2 pins s σ H x y v u Q I rx ry ⟨w, ms, a, b, si, ra, rb, ?_⟩
    unfold cmpO
    by_cases hr : (ratB a && ratB b) = true
    · rw [if_pos hr]
      rw [Bool.and_eq_true] at hr
      cases a with
      | rat n dd => cases b with
        | rat n' d' =>
          simp only [rcmp] at e
          split at e
          · rename_i hm
            rw [Bool.and_eq_true] at hm
            cases e
            rw [hF n dd n' d' ms hm.1 hm.2]
            exact fun v H' w' l s r => q v H' w' l s r
          · cases e
        | _ => cases hr.2
      | _ => cases hr.1
    · rw [if_neg hr]
      have e' : o ms a b = some d := by
        cases a with
        | rat n dd => cases b with
          | rat n' d' => exact absurd rfl hr
          | _ => exact e
        | _ => exact e
      rw [e']
      exact fun v H' w' l s r => q v H' w' l s r
def ltX : VO2 := rcmp (fun x y => decide (x < y)) ltD
def leX : VO2 := rcmp (fun x y => decide (x ≤ y)) leD
def gtX : VO2 := rcmp (fun x y => decide (y < x)) gtD
def geX : VO2 := rcmp (fun x y => decide (y ≤ x)) geD
end DL

/-! == of tuples with any answer, where == of the items may run code -/
namespace DL
open PySem PySem.SeqAt
open AutoSeq1 (wpAny_loadPart')
open MeetsSeq MeetsSeq2 MeetsSeq3 SeqRoads2
section
variable {prog : Program} {w : World} {A : Around} {R : Result → Shared → Prop}
theorem tuple_eqB (l b : Addr) (items items2 : Array Value) (n n2 : Nat) (dd dd2 : Option Addr) (sl sl2 : Array (Option Value)) (e : Nat → Bool) (I : Shared → Prop)
    (turn : ∀ i (h1 : i < items.size) (h2 : i < items2.size) s, (∀ j, j < i → e j = true) → I s → wpAny (model prog w) A.in1 (eqBool items[i] items2[i]) (fun r s' => r = e i ∧ I s') (fun e s' => R (.error e) s') s)
    (fin : ∀ s, I s → R (.ok (.ret (.bool ((List.range (min items.size items2.size)).all e && items.size == items2.size)))) s) {s : Shared} (hl1 : s.heap.get? l = some { cls := .type "tuple", dict := dd, data := .seq items n, slots := sl }) (hb1 : s.heap.get? b = some { cls := .type "tuple", dict := dd2, data := .seq items2 n2, slots := sl2 }) (h : I s) :
    wpAny (model prog w) A.in1 (Builtin.«tuple.__eq__» ⟨[.ref l, .ref b], []⟩) (GQ.FinOf prog w A R) (fun e s' => R (.error e) s') s := by
  have f2 := AutoSeq1.sub_tuple_tuple
  have hZ : (items.toList.zip items2.toList).length = min items.size items2.size := by simp
  have h0 := h
  obtain ⟨hp, g, d, tk, os⟩ := s
  wp_walk using wpAny_loadPart' hl1, wpAny_loadPart' hb1, wpAny_forIn_list _ (fun rest b s' => b.1 = none ∧ I s' ∧ ∃ i, rest = (items.toList.zip items2.toList).drop i ∧
      (∀ j, j < i → e j = true) ∧ (List.range (min items.size items2.size)).all e = ((List.range (min items.size items2.size)).drop i).all e) _
  case turn =>
    rintro ⟨y, x⟩ rest b s' ⟨hb', hI, i, hz, hpre, hR⟩
    have hlt : i < (items.toList.zip items2.toList).length := by
      rcases Nat.lt_or_ge i (items.toList.zip items2.toList).length with h' | h'
      · exact h'
      · rw [List.drop_of_length_le h'] at hz; cases hz
    have hm : i < min items.size items2.size := hZ ▸ hlt
    have h1 : i < items.size := Nat.lt_of_lt_of_le hm (Nat.min_le_left _ _)
    have h2 : i < items2.size := Nat.lt_of_lt_of_le hm (Nat.min_le_right _ _)
    rw [List.drop_eq_getElem_cons hlt] at hz
    injection hz with hyx hrest
    have hy : y = items[i] := by have := congrArg Prod.fst hyx; simpa using this
    have hx : x = items2[i] := by have := congrArg Prod.snd hyx; simpa using this
    subst hy hx
    have hd : (List.range (min items.size items2.size)).drop i = i :: (List.range (min items.size items2.size)).drop (i + 1) := by simp [List.drop_eq_getElem_cons, hm]
    rw [hd, List.all_cons] at hR
    refine wpAny_bind (wpAny_mono (turn i h1 h2 s' hpre hI) (fun r s2 q2 => ?_) fun _ _ x => x)
    obtain ⟨hr, q2⟩ := q2
    subst hr
    cases hy : e i with
    | true =>
      rw [hy, Bool.true_and] at hR
      wp_walk
      exact ⟨rfl, q2, i + 1, hrest, fun j hj => by
        rcases Nat.lt_succ_iff_lt_or_eq.mp hj with h | h
        · exact hpre j h
        · rw [h]; exact hy, hR⟩
    | false =>
      rw [hy, Bool.false_and] at hR
      have hR' := fin s2 q2
      rw [hR, Bool.false_and] at hR'
      wp_walk
      exact hR'
  case fin =>
    rintro ⟨b1, b2⟩ s' ⟨hb', hI, i, hz, _, hR⟩
    simp only at hb'
    subst hb'
    have hge : min items.size items2.size ≤ i := by
      rcases Nat.lt_or_ge i (items.toList.zip items2.toList).length with h' | h'
      · rw [List.drop_eq_getElem_cons h'] at hz; cases hz
      · exact hZ ▸ h'
    rw [List.drop_of_length_le (by simpa using hge)] at hR
    have hR' := fin s' hI
    rw [hR] at hR'
    wp_walk
    simpa [Builtin.Tuple.tupleCompareSizes] using hR'
  case h =>
    exact ⟨rfl, h0, 0, rfl, fun j hj => absurd hj (Nat.not_lt_zero _), by simp⟩
theorem tuple_neB (l b : Addr) (items items2 : Array Value) (n n2 : Nat) (dd dd2 : Option Addr) (sl sl2 : Array (Option Value)) (e : Nat → Bool) (I : Shared → Prop)
    (turn : ∀ i (h1 : i < items.size) (h2 : i < items2.size) s, (∀ j, j < i → e j = true) → I s → wpAny (model prog w) A.in1 (eqBool items[i] items2[i]) (fun r s' => r = e i ∧ I s') (fun e s' => R (.error e) s') s)
    (fin : ∀ s, I s → R (.ok (.ret (.bool (!((List.range (min items.size items2.size)).all e && items.size == items2.size))))) s) {s : Shared} (hl1 : s.heap.get? l = some { cls := .type "tuple", dict := dd, data := .seq items n, slots := sl }) (hb1 : s.heap.get? b = some { cls := .type "tuple", dict := dd2, data := .seq items2 n2, slots := sl2 }) (h : I s) :
    wpAny (model prog w) A.in1 (Builtin.«tuple.__ne__» ⟨[.ref l, .ref b], []⟩) (GQ.FinOf prog w A R) (fun e s' => R (.error e) s') s := by
  have f2 := AutoSeq1.sub_tuple_tuple
  have hZ : (items.toList.zip items2.toList).length = min items.size items2.size := by simp
  have h0 := h
  obtain ⟨hp, g, d, tk, os⟩ := s
  wp_walk using wpAny_loadPart' hl1, wpAny_loadPart' hb1, wpAny_forIn_list _ (fun rest b s' => b.1 = none ∧ I s' ∧ ∃ i, rest = (items.toList.zip items2.toList).drop i ∧
      (∀ j, j < i → e j = true) ∧ (List.range (min items.size items2.size)).all e = ((List.range (min items.size items2.size)).drop i).all e) _
  case turn =>
    rintro ⟨y, x⟩ rest b s' ⟨hb', hI, i, hz, hpre, hR⟩
    have hlt : i < (items.toList.zip items2.toList).length := by
      rcases Nat.lt_or_ge i (items.toList.zip items2.toList).length with h' | h'
      · exact h'
      · rw [List.drop_of_length_le h'] at hz; cases hz
    have hm : i < min items.size items2.size := hZ ▸ hlt
    have h1 : i < items.size := Nat.lt_of_lt_of_le hm (Nat.min_le_left _ _)
    have h2 : i < items2.size := Nat.lt_of_lt_of_le hm (Nat.min_le_right _ _)
    rw [List.drop_eq_getElem_cons hlt] at hz
    injection hz with hyx hrest
    have hy : y = items[i] := by have := congrArg Prod.fst hyx; simpa using this
    have hx : x = items2[i] := by have := congrArg Prod.snd hyx; simpa using this
    subst hy hx
    have hd : (List.range (min items.size items2.size)).drop i = i :: (List.range (min items.size items2.size)).drop (i + 1) := by simp [List.drop_eq_getElem_cons, hm]
    rw [hd, List.all_cons] at hR
    refine wpAny_bind (wpAny_mono (turn i h1 h2 s' hpre hI) (fun r s2 q2 => ?_) fun _ _ x => x)
    obtain ⟨hr, q2⟩ := q2
    subst hr
    cases hy : e i with
    | true =>
      rw [hy, Bool.true_and] at hR
      wp_walk
      exact ⟨rfl, q2, i + 1, hrest, fun j hj => by
        rcases Nat.lt_succ_iff_lt_or_eq.mp hj with h | h
        · exact hpre j h
        · rw [h]; exact hy, hR⟩
    | false =>
      rw [hy, Bool.false_and] at hR
      have hR' := fin s2 q2
      rw [hR, Bool.false_and] at hR'
      wp_walk
      exact hR'
  case fin =>
    rintro ⟨b1, b2⟩ s' ⟨hb', hI, i, hz, _, hR⟩
    simp only at hb'
    subst hb'
    have hge : min items.size items2.size ≤ i := by
      rcases Nat.lt_or_ge i (items.toList.zip items2.toList).length with h' | h'
      · rw [List.drop_eq_getElem_cons h'] at hz; cases hz
      · exact hZ ▸ h'
    rw [List.drop_of_length_le (by simpa using hge)] at hR
    have hR' := fin s' hI
    rw [hR] at hR'
    wp_walk
    simpa [Builtin.Tuple.tupleCompareSizes, bne] using hR'
  case h =>
    exact ⟨rfl, h0, 0, rfl, fun j hj => absurd hj (Nat.not_lt_zero _), by simp⟩
end
section
variable {prog : Program} {w : World} {A : Around} {E : Value → Shared → Prop} {s : Shared}
theorem rc_tupB {l b : Addr} {items items2 : Array Value} {Q : Value → Shared → Prop} (e : Nat → Bool) (hu : A.units < cLine) (I : Shared → Prop)
    (hl : s.heap.IsTuple l items) (hb : s.heap.IsTuple b items2)
    (turn : ∀ i (h1 : i < items.size) (h2 : i < items2.size) s, (∀ j, j < i → e j = true) → I s → wpAny (model prog w) A.in1 (eqBool items[i] items2[i]) (fun r s' => r = e i ∧ I s') E s)
    (fin : ∀ s, I s → Q (.bool ((List.range (min items.size items2.size)).all e && items.size == items2.size)) s) (h : I s) : wpAny (model prog w) A (richCompare .Eq (.ref l) (.ref b)) Q E s := by
  obtain ⟨⟨cls, dd, data, sl⟩, ho, hc, n, hd⟩ := id hl
  obtain ⟨⟨cls2, dd2, data2, sl2⟩, ho2, hc2, n2, hd2⟩ := id hb
  simp only at hc hd hc2 hd2
  subst hc hd hc2 hd2
  refine wpAny_richCompare_same_room (op := .Eq) ⟨_, ho, rfl⟩ ⟨_, ho2, rfl⟩ F.slot_tuple_eq (GQ.call_here F.slot_tuple_eq ⟨_, ho, rfl⟩ F.entry_tuple_eq (F.args_tuple_eq_2 _ _) ?_) hu
  exact tuple_eqB (R := wants (fun v s' => v ≠ .notImplemented ∧ Q v s') E) l b items items2 n n2 dd dd2 sl sl2 e I turn (fun s' q => ⟨(fun x => nomatch x), fin s' q⟩) ho ho2 h
theorem rc_tupN {l b : Addr} {items items2 : Array Value} {Q : Value → Shared → Prop} (e : Nat → Bool) (hu : A.units < cLine) (I : Shared → Prop)
    (hl : s.heap.IsTuple l items) (hb : s.heap.IsTuple b items2)
    (turn : ∀ i (h1 : i < items.size) (h2 : i < items2.size) s, (∀ j, j < i → e j = true) → I s → wpAny (model prog w) A.in1 (eqBool items[i] items2[i]) (fun r s' => r = e i ∧ I s') E s)
    (fin : ∀ s, I s → Q (.bool (!((List.range (min items.size items2.size)).all e && items.size == items2.size))) s) (h : I s) : wpAny (model prog w) A (richCompare .NotEq (.ref l) (.ref b)) Q E s := by
  obtain ⟨⟨cls, dd, data, sl⟩, ho, hc, n, hd⟩ := id hl
  obtain ⟨⟨cls2, dd2, data2, sl2⟩, ho2, hc2, n2, hd2⟩ := id hb
  simp only at hc hd hc2 hd2
  subst hc hd hc2 hd2
  refine wpAny_richCompare_same_room (op := .NotEq) ⟨_, ho, rfl⟩ ⟨_, ho2, rfl⟩ F.slot_tuple_ne (GQ.call_here F.slot_tuple_ne ⟨_, ho, rfl⟩ F.entry_tuple_ne (F.args_tuple_ne_2 _ _) ?_) hu
  exact tuple_neB (R := wants (fun v s' => v ≠ .notImplemented ∧ Q v s') E) l b items items2 n n2 dd dd2 sl sl2 e I turn (fun s' q => ⟨(fun x => nomatch x), fin s' q⟩) ho ho2 h
end
end DL

/-! == of trees with ratios inside -/
namespace DL
open PySem PySem.Spec PyProof.Rows L2
def eqTs (f : D → D → Option Bool) : List D → List D → Option Bool
  | x :: xs, y :: ys => (match f x y with
    | some true => eqTs f xs ys
    | r => r)
  | _, _ => some true
def ansL (f : D → D → Option Bool) : List D → List D → List Bool
  | x :: xs, y :: ys => (f x y).getD true :: ansL f xs ys
  | _, _ => []
theorem ansL_len (f : D → D → Option Bool) : ∀ xs ys : List D, (ansL f xs ys).length = min xs.length ys.length
  | [], _ => by simp [ansL]
  | _ :: _, [] => by simp [ansL]
  | x :: xs, y :: ys => by simp only [ansL, List.length_cons, ansL_len f xs ys]; omega
theorem eqTs_all {f : D → D → Option Bool} : ∀ {xs ys : List D} {r : Bool}, eqTs f xs ys = some r → (ansL f xs ys).all id = r
  | [], _, r, h => by simp only [eqTs, Option.some.injEq] at h; subst h; rfl
  | _ :: _, [], r, h => by simp only [eqTs, Option.some.injEq] at h; subst h; rfl
  | x :: xs, y :: ys, r, h => by
    simp only [eqTs] at h
    simp only [ansL, List.all_cons, id]
    cases q : f x y with
    | none => rw [q] at h; cases h
    | some k =>
      rw [q] at h
      cases k with
      | true => simp only at h; simp only [Option.getD_some, Bool.true_and]; exact eqTs_all h
      | false => cases h; rfl
theorem eqTs_at {f : D → D → Option Bool} : ∀ {xs ys : List D} {r : Bool} {i : Nat} {x y : D}, eqTs f xs ys = some r → xs[i]? = some x → ys[i]? = some y → (∀ j, j < i → (ansL f xs ys).getD j false = true) → f x y = some ((ansL f xs ys).getD i false)
  | [], _, r, i, x, y, h, hx, hy, hp => by simp at hx
  | _ :: _, [], r, i, x, y, h, hx, hy, hp => by simp at hy
  | a :: xs, b :: ys, r, 0, x, y, h, hx, hy, hp => by
    simp only [eqTs] at h
    simp at hx hy
    subst hx hy
    cases q : f a b with
    | none => rw [q] at h; cases h
    | some k => simp [ansL, q]
  | a :: xs, b :: ys, r, i + 1, x, y, h, hx, hy, hp => by
    simp only [eqTs] at h
    rw [List.getElem?_cons_succ] at hx hy
    cases q : f a b with
    | none => rw [q] at h; cases h
    | some k =>
      rw [q] at h
      have h0 := hp 0 (by omega)
      simp only [ansL, q, Option.getD_some, List.getD_cons_zero] at h0
      subst h0
      simp only at h
      have := eqTs_at h hx hy fun j hj => by
        have := hp (j + 1) (by omega)
        simpa [ansL] using this
      simpa [ansL] using this
def diffB : D → D → Bool
  | .tup _, .lst _ => true
  | .lst _, .tup _ => true
  | .tup _, .non => true
  | .non, .tup _ => true
  | .tup _, .bl _ => true
  | .bl _, .tup _ => true
  | .tup _, .int _ => true
  | .int _, .tup _ => true
  | .tup _, .str _ => true
  | .str _, .tup _ => true
  | _, _ => false
def eqT (ms : MS) : Nat → D → D → Option Bool
  | 0, a, b => eqP ms a b
  | k + 1, a, b => match eqP ms a b with
    | some r => some r
    | none => (match a, b with
      | .rat n d, .rat n' d' => some (decide (n = n') && decide (d = d'))
      | .tup xs, .tup ys => (eqTs (eqT ms k) xs ys).map fun r => r && decide (xs.length = ys.length)
      | a, b => if diffB a b = true then some false else none)
/-- the class's own == -/
def EqG1 (G : Gx) (X : Cx) (k : Nat) : Prop := ∃ (g : Addr) (fd : FuncData) (ps : List Str) (F : SF), PySem.W.findIn X.K (.ref G.CR) (cmpInfo .Eq).2.1 = some (some (.ref g)) ∧ PySem.W.isFn X.K (.ref g) = true ∧ FnG X.prog X.w X.K X.mg X.base k g fd ps (spF G F 2) ∧ Binds X.K fd ps [] ∧
  ∀ (n d n' d' : Int) (ms : MS), F [.rat n d, .rat n' d'] ms = .ok (.bl (decide (n = n') && decide (d = d'))) ms
section
variable {G : Gx} {X : Cx} {K0 : Nat} {ms : MS}
def EqPost (G : Gx) (X : Cx) (pins : List (Addr × Obj)) (σ : L2.St) (w : Wd) (ms : MS) (s' : Shared) : Prop := ∃ H' w', Inv X pins σ H' s' ∧ w.le w' ∧ SI G w' ms H'
/-- two ratios -/
theorem eq_rat (hE : EqG1 G X K0) {A : Around} {pins : List (Addr × Obj)} {s : Shared} {σ : L2.St} {H : Hp} {w : Wd} {p q dx dy : Addr} {n d n' d' : Int} (sb : L2.Sub X K0 A) (hgd : A.guards = some []) (I : Inv X pins σ H s) (si : SI G w ms H) (hh : G.hr = true) (h1 : w.B p = some (.ins G.CR dx (ratF n d))) (h3 : w.B q = some (.ins G.CR dy (ratF n' d'))) :
    wpAny (model X.prog X.w) A (eqBool (.ref p) (.ref q)) (fun r' s' => r' = (decide (n = n') && decide (d = d')) ∧ EqPost G X pins σ w ms s') X.xe s := by
  by_cases hpq : p = q
  · subst hpq
    rw [h1] at h3
    have e : ratF n d = ratF n' d' := by injection h3 with h; injection h
    have e1 : n = n' ∧ d = d' := by
      simp only [ratF, List.cons.injEq, Prod.mk.injEq, V.int.injEq] at e
      exact ⟨e.1.2, e.2.1.2⟩
    exact SeqAt.EqAt.same (A := A) (s := s) (.ref p) X.prog X.w X.xe _ ⟨by rw [decide_eq_true e1.1, decide_eq_true e1.2]; rfl, H, w, I, Wd.le.refl _, si⟩
  · obtain ⟨g, fd, ps, F, hs, hf, Fk, hb, hF⟩ := hE
    obtain ⟨mA, J, _⟩ := ins_get I.hok (si.sub _ _ h1)
    obtain ⟨mB, J', _⟩ := ins_get I.hok (si.sub _ _ h3)
    obtain ⟨od, J, _⟩ := J.look
    obtain ⟨od', J', _⟩ := J'.look
    obtain ⟨m0, hFr⟩ := I.fr
    refine GQ.eqBool_refG hpq (PySem.W.cmp_K (op := .Eq) (tb := .ref G.CR) sb.room.units0 hFr I.ok.mod.kin J J'.type (by simp [PySem.W.notFirst]) hs hf ?_)
    have e0 : Env0 X.prog X.w X.K X.mg X.base A X.stack s H := by
      have e := I.env0
      exact ⟨by rw [sb.fr]; exact e.frames, e.mod, e.bs, e.bsz, e.funs, e.frf, e.hok, e.bare⟩
    have hsp : spF G F 2 [.ref p, .ref q] H (fun v H' => v = .bl (decide (n = n') && decide (d = d')) ∧ ∃ w', w.le w' ∧ SI G w' ms H') (fun _ _ _ => False) := ⟨w, ms, [.rat n d, .rat n' d'], si, .cons (.rat ⟨hh, h1⟩) (.cons (.rat ⟨hh, h3⟩) .nil), rfl, by
      rw [hF]
      intro v H' w' l s' r
      cases r
      exact ⟨rfl, w', l, s'⟩⟩
    have hl : [Value.ref p, Value.ref q].length = ps.length := by rw [← Fk.len _ _ _ _ hsp]; rfl
    have bd := hb s [.ref p, .ref q] I.kIn (by rw [List.append_nil]; exact hl)
    rw [List.append_nil] at bd
    refine wpAny_call (codeAny_mono (Fk.run A X.stack s H ⟨[.ref p, .ref q], []⟩ [.ref p, .ref q] [.ref p, .ref q] _ _ hgd sb.room e0 bd (.cons rfl (.cons rfl .nil)) hsp) fun res s' hq => ?_)
    match res, hq with
    | .error er, hq =>
      obtain ⟨_, _, _, _, _, _, _, _, _, _, _, _, z⟩ := hq
      exact z.elim
    | .ok (.ret u), hq =>
      obtain ⟨v, H', I', rv, ev, w', l, s2⟩ := I.after hq
      subst ev
      cases rv
      exact ⟨_, rfl, rfl, H', w', I', l, s2⟩
end
end DL

namespace DL
open PySem PySem.Spec PyProof.Rows L2
section
variable {G : Gx} {X : Cx} {K0 : Nat} {ms : MS}
theorem relV_fun {v v' : V} {u : Value} (h : RelV v u) (h' : RelV v' u) : v = v' := by
  cases v with
  | non => cases (show u = Value.none from h); cases v' <;> first | rfl | (obtain ⟨_, e⟩ := h'; cases e) | cases h'
  | bl b => cases (show u = Value.bool b from h); cases v' <;> first | (cases h'; rfl) | (obtain ⟨_, e⟩ := h'; cases e) | cases h'
  | int i => obtain ⟨t, e⟩ := (show ∃ t, u = Value.int i t from h); cases e; cases v' <;> first | (obtain ⟨_, e⟩ := h'; cases e; rfl) | (obtain ⟨_, e⟩ := h'; cases e) | cases h'
  | str i => obtain ⟨t, e⟩ := (show ∃ t, u = Value.str i t from h); cases e; cases v' <;> first | (obtain ⟨_, e⟩ := h'; cases e; rfl) | (obtain ⟨_, e⟩ := h'; cases e) | cases h'
  | byt i => obtain ⟨t, e⟩ := (show ∃ t, u = Value.bytes i t from h); cases e; cases v' <;> first | (obtain ⟨_, e⟩ := h'; cases e; rfl) | (obtain ⟨_, e⟩ := h'; cases e) | cases h'
  | flt i => obtain ⟨t, e⟩ := (show ∃ t, u = Value.float i t from h); cases e; cases v' <;> first | (obtain ⟨_, e⟩ := h'; cases e; rfl) | (obtain ⟨_, e⟩ := h'; cases e) | cases h'
  | ref a => cases (show u = Value.ref a from h); cases v' <;> first | (cases h'; rfl) | (obtain ⟨_, e⟩ := h'; cases e) | cases h'
  | ty a => cases (show u = Value.type a from h); cases v' <;> first | (cases h'; rfl) | (obtain ⟨_, e⟩ := h'; cases e) | cases h'
theorem vals_fun : ∀ {vs vs' : List V} {us : List Value}, Vals vs us → Vals vs' us → vs = vs'
  | _, _, _, .nil, .nil => rfl
  | _, _, _, .cons h t, .cons h' t' => by rw [relV_fun h h', vals_fun t t']
theorem plain_at {A : Around} {pins : List (Addr × Obj)} {s : Shared} {σ : L2.St} {H : Hp} {w : Wd} {a b : D} {x y : V} {u v : Value} {r : Bool} (hK : X.K = G.K) (hu : A.units + 64 < cLine) (I : Inv X pins σ H s) (rx : RelV x u) (ry : RelV y v) (si : SI G w ms H) (ra : Rp G w a x) (rb : Rp G w b y) (e : eqP ms a b = some r) : SeqAt.EqAt A s u v r := by
  obtain ⟨p, q, d1, d2, s1, s2, rfl⟩ := eqP_dp si ra rb e
  obtain ⟨as, r1⟩ := Dp.reads I p x u (hK ▸ d1) rx
  obtain ⟨bs, r2⟩ := Dp.reads I q y v (hK ▸ d2) ry
  exact SeqAt.eqAt_reads p q A s u v as bs r1 r2 (SeqAt.canLay_of_shaped s1) (SeqAt.canLay_of_shaped s2) (SeqAt.room_of_shaped s1 hu)
theorem plain_same {pins : List (Addr × Obj)} {s : Shared} {σ : L2.St} {H : Hp} {w : Wd} {a b : D} {x : V} {u : Value} {r : Bool} (hK : X.K = G.K) (I : Inv X pins σ H s) (rx : RelV x u) (si : SI G w ms H) (ra : Rp G w a x) (rb : Rp G w b x) (e : eqP ms a b = some r) : r = true := by
  obtain ⟨p, q, d1, d2, s1, s2, rfl⟩ := eqP_dp si ra rb e
  obtain ⟨as, r1⟩ := Dp.reads I p x u (hK ▸ d1) rx
  obtain ⟨bs, r2⟩ := Dp.reads I q x u (hK ▸ d2) rx
  have hc := SeqAt.canLay_of_shaped s1
  obtain rfl := SeqAt.Reads.unique p q u as bs hc r1 r2
  exact SeqAt.eqv_refl p hc
theorem eqTs_same {f : D → D → Option Bool} {w : Wd} (hf : ∀ a b x r, f a b = some r → Rp G w a x → Rp G w b x → r = true) : ∀ (xs ys : List D) (vs : List V) (r : Bool), eqTs f xs ys = some r → Rps G w xs vs → Rps G w ys vs → r = true
  | [], ys, vs, r, h, h1, h2 => by simp only [eqTs, Option.some.injEq] at h; exact h.symm
  | a :: xs, [], vs, r, h, h1, h2 => by simp only [eqTs, Option.some.injEq] at h; exact h.symm
  | a :: xs, b :: ys, [], r, h, h1, h2 => by cases h1
  | a :: xs, b :: ys, v :: vs, r, h, h1, h2 => by
    cases h1 with
    | cons g1 t1 => cases h2 with
      | cons g2 t2 =>
        simp only [eqTs] at h
        cases q : f a b with
        | none => rw [q] at h; cases h
        | some k =>
          rw [q] at h
          obtain rfl := hf _ _ _ _ q g1 g2
          exact eqTs_same hf xs ys vs r h t1 t2
theorem tup_lst {pins : List (Addr × Obj)} {s : Shared} {σ : L2.St} {H : Hp} {w : Wd} {p : Addr} {vs vs' : List V} (hK : X.K = G.K) (I : Inv X pins σ H s) (si : SI G w ms H) (h1 : SqT G.K w.B p vs) (h3 : w.B p = some (.lst vs')) : False := by
  obtain ⟨its, v1, t1, _⟩ := I.tuple (hK ▸ tq_of si h1 : SqT X.K H p vs)
  obtain ⟨_, its2, n2, r2, hl2, e2⟩ := I.lstM (si.sub _ _ h3)
  obtain ⟨o, ho, hc, _⟩ := t1
  rw [e2] at ho
  cases ho
  injection hc with hc
  exact absurd hc (by decide)
theorem sameT {pins : List (Addr × Obj)} {s : Shared} {σ : L2.St} {H : Hp} {w : Wd} (hK : X.K = G.K) (I : Inv X pins σ H s) (si : SI G w ms H) (hu : ∀ (a : D) (x : V), Rp G w a x → ∃ u, RelV x u) : ∀ (k : Nat) (a b : D) (x : V) (r : Bool), eqT ms k a b = some r → Rp G w a x → Rp G w b x → r = true
  | 0, a, b, x, r, e, ra, rb => by
    obtain ⟨u, rx⟩ := hu a x ra
    exact plain_same hK I rx si ra rb e
  | k + 1, a, b, x, r, e, ra, rb => by
    simp only [eqT] at e
    cases q : eqP ms a b with
    | some z =>
      rw [q] at e; cases e
      obtain ⟨u, rx⟩ := hu a x ra
      exact plain_same hK I rx si ra rb q
    | none =>
      rw [q] at e
      simp only at e
      cases ra with
      | @rat p dx n d h1 => cases rb with
        | @rat _ dy n' d' h3 =>
          cases e
          have h3 := h3.2
          rw [h1.2] at h3
          have e : ratF n d = ratF n' d' := by injection h3 with h; injection h
          simp only [ratF, List.cons.injEq, Prod.mk.injEq, V.int.injEq] at e
          rw [decide_eq_true e.1.2, decide_eq_true e.2.1.2]; rfl
        | _ => simp [diffB] at e
      | @tup p vs xs h1 hs => cases rb with
        | @tup _ vs' ys h3 hs' =>
          simp only [Option.map_eq_some_iff] at e
          obtain ⟨r0, e, rfl⟩ := e
          obtain rfl := I.tuple_inj (hK ▸ tq_of si h1 : SqT X.K H p vs) (hK ▸ tq_of si h3 : SqT X.K H p vs')
          have := eqTs_same (G := G) (w := w) (fun a b x r => sameT hK I si hu k a b x r) _ _ _ _ e hs hs'
          subst this
          rw [hs.length, hs'.length]
          simp
        | @lst _ vs' ys h3 hs' => exact (tup_lst hK I si h1 h3).elim
        | _ => simp [diffB] at e
      | @lst p vs xs h1 hs => cases rb with
        | @tup _ vs' ys h3 hs' => exact (tup_lst hK I si h3 h1).elim
        | _ => simp [diffB] at e
      | _ => cases rb <;> simp [diffB] at e
theorem relV_ex : ∀ x : V, ∃ u, RelV x u
  | .non => ⟨.none, rfl⟩
  | .bl b => ⟨.bool b, rfl⟩
  | .int i => ⟨.int i 0, 0, rfl⟩
  | .str i => ⟨.str i 0, 0, rfl⟩
  | .byt i => ⟨.bytes i 0, 0, rfl⟩
  | .flt i => ⟨.float i 0, 0, rfl⟩
  | .ref a => ⟨.ref a, rfl⟩
  | .ty n => ⟨.type n, rfl⟩
theorem diff_at {A : Around} {pins : List (Addr × Obj)} {s : Shared} {σ : L2.St} {H : Hp} {w : Wd} {a b : D} {x y : V} {u v : Value} (hK : X.K = G.K) (hu : A.units < cLine) (I : Inv X pins σ H s) (rx : RelV x u) (ry : RelV y v) (si : SI G w ms H) (ra : Rp G w a x) (rb : Rp G w b y) (e : diffB a b = true) : SeqAt.EqAt A s u v false := by
  cases ra with
  | @tup p vs xs h1 hs =>
    cases rx
    obtain ⟨its, v1, t1, _⟩ := I.tuple (hK ▸ tq_of si h1 : SqT X.K H p vs)
    cases rb with
    | @lst q vs' ys h3 hs' =>
      cases ry
      obtain ⟨_, its2, n2, r2, hl2, e2⟩ := I.lstM (si.sub _ _ h3)
      exact SeqAt.EqAt.tuple_list t1 ⟨_, e2, rfl, _, rfl⟩ hu
    | non => cases ry; exact SeqAt.EqAt.tuple_none t1 hu
    | bl k => cases ry; exact SeqAt.EqAt.tuple_bool k t1 hu
    | int k => obtain ⟨t, rfl⟩ := ry; exact SeqAt.EqAt.tuple_int k t t1 hu
    | str k => obtain ⟨t, rfl⟩ := ry; exact SeqAt.EqAt.tuple_str k t t1 hu
    | _ => simp [diffB] at e
  | @lst p vs xs h1 hs =>
    cases rx
    obtain ⟨_, its2, n2, r2, hl2, e2⟩ := I.lstM (si.sub _ _ h1)
    cases rb with
    | @tup q vs' ys h3 hs' =>
      cases ry
      obtain ⟨its, v1, t1, _⟩ := I.tuple (hK ▸ tq_of si h3 : SqT X.K H q vs')
      exact SeqAt.EqAt.list_tuple ⟨_, e2, rfl, _, rfl⟩ t1 hu
    | _ => simp [diffB] at e
  | non =>
    cases rx
    cases rb with
    | @tup q vs' ys h3 hs' =>
      cases ry
      obtain ⟨its, v1, t1, _⟩ := I.tuple (hK ▸ tq_of si h3 : SqT X.K H q vs')
      exact SeqAt.EqAt.none_tuple t1 hu
    | _ => simp [diffB] at e
  | bl k =>
    cases rx
    cases rb with
    | @tup q vs' ys h3 hs' =>
      cases ry
      obtain ⟨its, v1, t1, _⟩ := I.tuple (hK ▸ tq_of si h3 : SqT X.K H q vs')
      exact SeqAt.EqAt.bool_tuple k t1 hu
    | _ => simp [diffB] at e
  | int k =>
    obtain ⟨t, rfl⟩ := rx
    cases rb with
    | @tup q vs' ys h3 hs' =>
      cases ry
      obtain ⟨its, v1, t1, _⟩ := I.tuple (hK ▸ tq_of si h3 : SqT X.K H q vs')
      exact SeqAt.EqAt.int_tuple k t t1 hu
    | _ => simp [diffB] at e
  | str k =>
    obtain ⟨t, rfl⟩ := rx
    cases rb with
    | @tup q vs' ys h3 hs' =>
      cases ry
      obtain ⟨its, v1, t1, _⟩ := I.tuple (hK ▸ tq_of si h3 : SqT X.K H q vs')
      exact SeqAt.EqAt.str_tuple k t t1 hu
    | _ => simp [diffB] at e
  | _ => simp [diffB] at e
end
end DL

namespace DL
open PySem PySem.Spec PyProof.Rows L2
section
variable {G : Gx} {X : Cx} {K0 : Nat} {ms : MS}
def EqOk (G : Gx) (X : Cx) (ms : MS) (m : Nat) (a b : D) (r : Bool) : Prop := ∀ (A : Around) (pins : List (Addr × Obj)) (s : Shared) (σ : L2.St) (H : Hp) (x y : V) (u v : Value) (w : Wd), L2.Sub X m A → A.guards = some [] → Inv X pins σ H s → RelV x u → RelV y v → SI G w ms H → Rp G w a x → Rp G w b y →
  wpAny (model X.prog X.w) A (eqBool u v) (fun r' s' => r' = r ∧ EqPost G X pins σ w ms s') X.xe s
/-- the items, one by one -/
theorem turnT {f : D → D → Option Bool} {m : Nat} (hf : ∀ a b r, f a b = some r → EqOk G X ms m a b r) {A : Around} (sb : L2.Sub X (m + 1) A) (hgd : A.guards = some []) {pins : List (Addr × Obj)} {σ : L2.St} {w : Wd} {xs ys : List D} {vs vs' : List V} {its its2 : List Value} {r0 : Bool} (e : eqTs f xs ys = some r0) (h1 : Rps G w xs vs) (h2 : Rps G w ys vs') (v1 : Vals vs its) (v2 : Vals vs' its2)
    (i : Nat) (k1 : i < its.toArray.size) (k2 : i < its2.toArray.size) (s' : Shared) (pre : ∀ j, j < i → (ansL f xs ys).getD j false = true) (l : EqPost G X pins σ w ms s') :
    wpAny (model X.prog X.w) A.in1 (eqBool its.toArray[i] its2.toArray[i]) (fun r s2 => r = (ansL f xs ys).getD i false ∧ EqPost G X pins σ w ms s2) X.xe s' := by
  obtain ⟨H1, w1, I1, l1, s1⟩ := l
  have g1 : its[i]? = some its.toArray[i] := by
    have h1' : i < its.length := by simpa using k1
    rw [List.getElem?_eq_getElem h1'] <;> simp
  have g2 : its2[i]? = some its2.toArray[i] := by
    have h2' : i < its2.length := by simpa using k2
    rw [List.getElem?_eq_getElem h2'] <;> simp
  have n1 : i < vs.length := by rw [v1.length]; simpa using k1
  have n2 : i < vs'.length := by rw [v2.length]; simpa using k2
  obtain ⟨u, hu, ru⟩ := v1.get (List.getElem?_eq_getElem n1)
  obtain ⟨v, hv, rv⟩ := v2.get (List.getElem?_eq_getElem n2)
  rw [g1] at hu
  rw [g2] at hv
  obtain ⟨d, hd, rd⟩ := h1.getV (List.getElem?_eq_getElem n1)
  obtain ⟨d', hd', rd'⟩ := h2.getV (List.getElem?_eq_getElem n2)
  rw [Option.some.inj hu, Option.some.inj hv]
  refine wpAny_mono (hf d d' _ (eqTs_at e hd hd' pre) A.in1 pins s' σ H1 _ _ u v w1 sb.in1 hgd I1 ru rv s1 (rd.mono l1) (rd'.mono l1)) (fun r s2 q => ?_) fun _ _ x => x
  obtain ⟨hr, H2, w2, I2, l2, s2⟩ := q
  exact ⟨hr, H2, w2, I2, l1.trans l2, s2⟩
theorem all_ans {f : D → D → Option Bool} {xs ys : List D} {r : Bool} {a b : Nat} (e : eqTs f xs ys = some r) (ha : a = xs.length) (hb : b = ys.length) : ((List.range (min a b)).all fun i => (ansL f xs ys).getD i false) = r := by
  subst ha hb
  rw [← ansL_len f xs ys, L2.all_range, eqTs_all e]
theorem eqT_ok (hK : X.K = G.K) (hE : EqG1 G X K0) : ∀ (k : Nat) (a b : D) (r : Bool), eqT ms k a b = some r → EqOk G X ms (k + K0) a b r
  | 0, a, b, r, e => fun A pins s σ H x y u v w sb hgd I rx ry si ra rb => plain_at hK sb.room.units I rx ry si ra rb e X.prog X.w X.xe _ ⟨rfl, H, w, I, Wd.le.refl _, si⟩
  | k + 1, a, b, r, e => fun A pins s σ H x y u v w sb hgd I rx ry si ra rb => by
    have ih := eqT_ok hK hE k
    have e' := e
    simp only [eqT] at e
    cases q : eqP ms a b with
    | some z =>
      rw [q] at e; cases e
      exact plain_at hK sb.room.units I rx ry si ra rb q X.prog X.w X.xe _ ⟨rfl, H, w, I, Wd.le.refl _, si⟩
    | none =>
      rw [q] at e
      simp only at e
      have df : diffB a b = true → r = false → wpAny (model X.prog X.w) A (eqBool u v) (fun r' s' => r' = r ∧ EqPost G X pins σ w ms s') X.xe s := fun hd hr => by
        subst hr
        exact diff_at hK (by have := sb.room.units; omega) I rx ry si ra rb hd X.prog X.w X.xe _ ⟨rfl, H, w, I, Wd.le.refl _, si⟩
      split at e
      · cases e
        cases ra with
        | rat h1 => cases rb with
          | rat h3 =>
            cases rx
            cases ry
            exact eq_rat hE (sb.mono (by omega)) hgd I si h1.1 h1.2 h3.2
      · rename_i xs ys
        simp only [Option.map_eq_some_iff] at e
        obtain ⟨r0, e, rfl⟩ := e
        cases ra with
        | @tup p vs _ h1 hs => cases rb with
          | @tup p2 vs' _ h3 hs' =>
            cases rx
            cases ry
            by_cases hpq : p = p2
            · subst hpq
              have := sameT hK I si (fun _ x _ => relV_ex x) (k + 1) _ _ _ _ e' (.tup h1 hs) (.tup h3 hs')
              rw [this]
              exact SeqAt.EqAt.same (A := A) (s := s) (.ref p) X.prog X.w X.xe _ ⟨rfl, H, w, I, Wd.le.refl _, si⟩
            · obtain ⟨its, v1, t1, _⟩ := I.tuple (hK ▸ tq_of si h1 : SqT X.K H p vs)
              obtain ⟨its2, v2, t2, _⟩ := I.tuple (hK ▸ tq_of si h3 : SqT X.K H p2 vs')
              refine GQ.eqBool_refG hpq (rc_tupB (fun i => (ansL (eqT ms k) xs ys).getD i false) (by have := sb.room.units; omega) (EqPost G X pins σ w ms) t1 t2 (fun i k1 k2 s' pre l => turnT (m := k + K0) (fun a b r e => ih a b r e) (sb.mono (by omega)) hgd e hs hs' v1 v2 i k1 k2 s' pre l) (fun s' l => ⟨_, rfl, ?_, l⟩) ⟨H, w, I, Wd.le.refl _, si⟩)
              have l1 : its.toArray.size = xs.length := by rw [List.size_toArray, ← v1.length, hs.length]
              have l2 : its2.toArray.size = ys.length := by rw [List.size_toArray, ← v2.length, hs'.length]
              rw [all_ans e l1 l2, l1, l2]
              by_cases z : xs.length = ys.length <;> simp [z]
      · split at e
        · rename_i hd
          cases e
          exact df hd rfl
        · cases e
end
end DL

namespace DL
open PySem PySem.SeqAt
open AutoSeq1 (wpAny_loadPart')
open MeetsSeq MeetsSeq2 MeetsSeq3 SeqRoads2
theorem dict_eq_declines_tuple (l b : Addr) (dt : Data) (items2 : Array Value) (n2 : Nat) (dd2 : Option Addr) (sl2 : Array (Option Value)) :
    Meets (Builtin.«dict.__eq__» ⟨[.ref l, .ref b], []⟩) (fun _ R s => s.heap.get? l = some { cls := .type "dict", dict := none, data := dt, slots := #[] } ∧ s.heap.get? b = some { cls := .type "tuple", dict := dd2, data := .seq items2 n2, slots := sl2 } ∧ R (.ok (.ret .notImplemented)) s) :=
  .of_wp fun prog w A R s h => by
    obtain ⟨hp, g, d, tk, os⟩ := s; obtain ⟨hl, hb, h⟩ := h; have f1 := F.sub_tuple_dict; wp_walk using wpAny_loadPart' hl, wpAny_loadPart' hb; exact ⟨_, rfl, h⟩
theorem tuple_eq_declines_dict (l b : Addr) (dt : Data) (items : Array Value) (n : Nat) (dd : Option Addr) (sl : Array (Option Value)) :
    Meets (Builtin.«tuple.__eq__» ⟨[.ref l, .ref b], []⟩) (fun _ R s => s.heap.get? l = some { cls := .type "tuple", dict := dd, data := .seq items n, slots := sl } ∧ s.heap.get? b = some { cls := .type "dict", dict := none, data := dt, slots := #[] } ∧ R (.ok (.ret .notImplemented)) s) :=
  .of_wp fun prog w A R s h => by
    obtain ⟨hp, g, d, tk, os⟩ := s; obtain ⟨hl, hb, h⟩ := h; have f1 := F.sub_dict_tuple; wp_walk using wpAny_loadPart' hl, wpAny_loadPart' hb; exact ⟨_, rfl, h⟩
theorem rc_dict_tuple {A : Around} {s : Shared} {l b : Addr} {o : Obj} {items2 : Array Value} (ho : s.heap.get? l = some o) (hx : o.ExactDict) (hb : s.heap.IsTuple b items2) (hu : A.units < cLine) : RcAt A s (.ref l) (.ref b) false := fun prog w E Q h => by
  obtain ⟨⟨cls2, dd2, data2, sl2⟩, ho2, hc2, n2, hd2⟩ := id hb
  obtain ⟨cls, dd, dt, sl⟩ := o
  obtain ⟨h1, h2, h3⟩ := hx
  simp only at h1 h2 h3 hc2 hd2
  subst h1 h2 h3 hc2 hd2
  have hne : l ≠ b := fun e => by
    subst e
    rw [ho] at ho2
    exact absurd (congrArg Obj.cls (Option.some.inj ho2)) (by simp)
  exact (rc_eq_decline_or (k := false) ⟨_, ho, rfl⟩ ⟨_, ho2, rfl⟩ (by decide) F.sub_tuple_dict F.slot_dict_eq F.slot_tuple_eq_refl
    (fun _ hq => call_meets F.slot_dict_eq ⟨_, ho, rfl⟩ F.entry_dict_eq (F.args_dict_eq_2 _ _) (dict_eq_declines_tuple l b dt items2 n2 dd2 sl2) ⟨ho, ho2, hq⟩)
    (fun _ hq => call_meets F.slot_tuple_eq_refl ⟨_, ho2, rfl⟩ F.entry_tuple_eq (F.args_tuple_eq_2 _ _) (tuple_eq_declines_dict b l dt items2 n2 dd2 sl2) ⟨ho2, ho, hq⟩)
    (fun _ hq => wpAny_isSame_ref_other hne ho ho2 (by simp) hq) (.inr hu) h)
end DL

namespace DL
open PySem PySem.Spec PyProof.Rows L2
section
variable {G : Gx} {X : Cx} {K0 : Nat} {ms : MS}
theorem diff_rc {A : Around} {pins : List (Addr × Obj)} {s : Shared} {σ : L2.St} {H : Hp} {w : Wd} {a b : D} {x y : V} {u v : Value} (hK : X.K = G.K) (hu : A.units < cLine) (I : Inv X pins σ H s) (rx : RelV x u) (ry : RelV y v) (si : SI G w ms H) (ra : Rp G w a x) (rb : Rp G w b y) (e : diffB a b = true) : SeqAt.RcAt A s u v false := by
  cases ra with
  | @tup p vs xs h1 hs =>
    cases rx
    obtain ⟨its, v1, t1, _⟩ := I.tuple (hK ▸ tq_of si h1 : SqT X.K H p vs)
    cases rb with
    | @lst q vs' ys h3 hs' =>
      cases ry
      obtain ⟨_, its2, n2, r2, hl2, e2⟩ := I.lstM (si.sub _ _ h3)
      exact SeqAt.RcAt.tuple_list t1 ⟨_, e2, rfl, _, rfl⟩ hu
    | non => cases ry; exact SeqAt.RcAt.tuple_none t1 hu
    | bl k => cases ry; exact SeqAt.RcAt.tuple_bool k t1 hu
    | int k => obtain ⟨t, rfl⟩ := ry; exact SeqAt.RcAt.tuple_int k t t1 hu
    | str k => obtain ⟨t, rfl⟩ := ry; exact SeqAt.RcAt.tuple_str k t t1 hu
    | _ => simp [diffB] at e
  | @lst p vs xs h1 hs =>
    cases rx
    obtain ⟨_, its2, n2, r2, hl2, e2⟩ := I.lstM (si.sub _ _ h1)
    cases rb with
    | @tup q vs' ys h3 hs' =>
      cases ry
      obtain ⟨its, v1, t1, _⟩ := I.tuple (hK ▸ tq_of si h3 : SqT X.K H q vs')
      exact SeqAt.RcAt.list_tuple ⟨_, e2, rfl, _, rfl⟩ t1 hu
    | _ => simp [diffB] at e
  | non =>
    cases rx
    cases rb with
    | @tup q vs' ys h3 hs' =>
      cases ry
      obtain ⟨its, v1, t1, _⟩ := I.tuple (hK ▸ tq_of si h3 : SqT X.K H q vs')
      exact SeqAt.RcAt.none_tuple t1 hu
    | _ => simp [diffB] at e
  | bl k =>
    cases rx
    cases rb with
    | @tup q vs' ys h3 hs' =>
      cases ry
      obtain ⟨its, v1, t1, _⟩ := I.tuple (hK ▸ tq_of si h3 : SqT X.K H q vs')
      exact SeqAt.RcAt.bool_tuple k t1 hu
    | _ => simp [diffB] at e
  | int k =>
    obtain ⟨t, rfl⟩ := rx
    cases rb with
    | @tup q vs' ys h3 hs' =>
      cases ry
      obtain ⟨its, v1, t1, _⟩ := I.tuple (hK ▸ tq_of si h3 : SqT X.K H q vs')
      exact SeqAt.RcAt.int_tuple k t t1 hu
    | _ => simp [diffB] at e
  | str k =>
    obtain ⟨t, rfl⟩ := rx
    cases rb with
    | @tup q vs' ys h3 hs' =>
      cases ry
      obtain ⟨its, v1, t1, _⟩ := I.tuple (hK ▸ tq_of si h3 : SqT X.K H q vs')
      exact SeqAt.RcAt.str_tuple k t t1 hu
    | _ => simp [diffB] at e
  | _ => simp [diffB] at e
theorem diff_rn {A : Around} {pins : List (Addr × Obj)} {s : Shared} {σ : L2.St} {H : Hp} {w : Wd} {a b : D} {x y : V} {u v : Value} (hK : X.K = G.K) (hu : A.units < cLine) (I : Inv X pins σ H s) (rx : RelV x u) (ry : RelV y v) (si : SI G w ms H) (ra : Rp G w a x) (rb : Rp G w b y) (e : diffB a b = true) : SeqAt.RcNeAt A s u v true := by
  cases ra with
  | @tup p vs xs h1 hs =>
    cases rx
    obtain ⟨its, v1, t1, _⟩ := I.tuple (hK ▸ tq_of si h1 : SqT X.K H p vs)
    cases rb with
    | @lst q vs' ys h3 hs' =>
      cases ry
      obtain ⟨_, its2, n2, r2, hl2, e2⟩ := I.lstM (si.sub _ _ h3)
      exact SeqAt.RcNeAt.tuple_list t1 ⟨_, e2, rfl, _, rfl⟩ hu
    | non => cases ry; exact SeqAt.RcNeAt.tuple_none t1 hu
    | bl k => cases ry; exact SeqAt.RcNeAt.tuple_bool k t1 hu
    | int k => obtain ⟨t, rfl⟩ := ry; exact SeqAt.RcNeAt.tuple_int k t t1 hu
    | str k => obtain ⟨t, rfl⟩ := ry; exact SeqAt.RcNeAt.tuple_str k t t1 hu
    | _ => simp [diffB] at e
  | @lst p vs xs h1 hs =>
    cases rx
    obtain ⟨_, its2, n2, r2, hl2, e2⟩ := I.lstM (si.sub _ _ h1)
    cases rb with
    | @tup q vs' ys h3 hs' =>
      cases ry
      obtain ⟨its, v1, t1, _⟩ := I.tuple (hK ▸ tq_of si h3 : SqT X.K H q vs')
      exact SeqAt.RcNeAt.list_tuple ⟨_, e2, rfl, _, rfl⟩ t1 hu
    | _ => simp [diffB] at e
  | non =>
    cases rx
    cases rb with
    | @tup q vs' ys h3 hs' =>
      cases ry
      obtain ⟨its, v1, t1, _⟩ := I.tuple (hK ▸ tq_of si h3 : SqT X.K H q vs')
      exact SeqAt.RcNeAt.none_tuple t1 hu
    | _ => simp [diffB] at e
  | bl k =>
    cases rx
    cases rb with
    | @tup q vs' ys h3 hs' =>
      cases ry
      obtain ⟨its, v1, t1, _⟩ := I.tuple (hK ▸ tq_of si h3 : SqT X.K H q vs')
      exact SeqAt.RcNeAt.bool_tuple k t1 hu
    | _ => simp [diffB] at e
  | int k =>
    obtain ⟨t, rfl⟩ := rx
    cases rb with
    | @tup q vs' ys h3 hs' =>
      cases ry
      obtain ⟨its, v1, t1, _⟩ := I.tuple (hK ▸ tq_of si h3 : SqT X.K H q vs')
      exact SeqAt.RcNeAt.int_tuple k t t1 hu
    | _ => simp [diffB] at e
  | str k =>
    obtain ⟨t, rfl⟩ := rx
    cases rb with
    | @tup q vs' ys h3 hs' =>
      cases ry
      obtain ⟨its, v1, t1, _⟩ := I.tuple (hK ▸ tq_of si h3 : SqT X.K H q vs')
      exact SeqAt.RcNeAt.str_tuple k t t1 hu
    | _ => simp [diffB] at e
  | _ => simp [diffB] at e
/-- tuples with ratios inside -/
def tupT (ms : MS) (a b : D) : Option Bool := match a, b with
  | .tup xs, .tup ys => (eqTs (eqT ms 8) xs ys).map fun r => r && decide (xs.length = ys.length)
  | _, _ => none
def dtB : D → D → Bool
  | .dic _ _, .tup _ => true
  | _, _ => false
def eqX : VO2 := fun ms a b => match eqD ms a b with
  | some d => some d
  | none => match tupT ms a b with
    | some r => some (.bl r)
    | none => if diffB a b = true then some (.bl false) else if dtB a b = true then some (.bl false) else none
def neX : VO2 := fun ms a b => match neD ms a b with
  | some d => some d
  | none => match tupT ms a b with
    | some r => some (.bl (!r))
    | none => if diffB a b = true then some (.bl true) else none
theorem op2_eqX (hK : X.K = G.K) (hu : X.A.units + 64 < cLine) (hgd : X.A.guards = some []) (hE : EqG1 G X K0) (hr : Room (9 + K0) X.A) : Op2 G X (compareOp .Eq) eqX :=
  fun pins s σ H x y v u Q w ms a b d I rx ry si ra rb e q => by
    simp only [eqX] at e
    cases q0 : eqD ms a b with
    | some z =>
      rw [q0] at e; cases e
      exact op2_eq hK hu pins s σ H x y v u Q w ms a b d I rx ry si ra rb q0 q
    | none =>
      rw [q0] at e
      simp only at e
      show wpAny (model X.prog X.w) X.A (richCompare .Eq v u) (EP X pins σ Q) X.xe s
      cases q1 : tupT ms a b with
      | some r =>
        rw [q1] at e; cases e
        unfold tupT at q1
        split at q1
        · rename_i xs ys
          simp only [Option.map_eq_some_iff] at q1
          obtain ⟨r0, e, rfl⟩ := q1
          cases ra with
          | @tup p vs _ h1 hs => cases rb with
            | @tup p2 vs' _ h3 hs' =>
              cases rx
              cases ry
              obtain ⟨its, v1, t1, _⟩ := I.tuple (hK ▸ tq_of si h1 : SqT X.K H p vs)
              obtain ⟨its2, v2, t2, _⟩ := I.tuple (hK ▸ tq_of si h3 : SqT X.K H p2 vs')
              refine rc_tupB (fun i => (ansL (eqT ms 8) xs ys).getD i false) (by omega) (EqPost G X pins σ w ms) t1 t2 (fun i k1 k2 s' pre l => turnT (m := 8 + K0) (fun a b r e => eqT_ok hK hE 8 a b r e) ⟨by rw [show 8 + K0 + 1 = 9 + K0 by omega]; exact hr, rfl⟩ hgd e hs hs' v1 v2 i k1 k2 s' pre l) (fun s' l => ?_) ⟨H, w, I, Wd.le.refl _, si⟩
              have l1 : its.toArray.size = xs.length := by rw [List.size_toArray, ← v1.length, hs.length]
              have l2 : its2.toArray.size = ys.length := by rw [List.size_toArray, ← v2.length, hs'.length]
              obtain ⟨H', w', I', lw, s2⟩ := l
              have hb : (xs.length == ys.length) = decide (xs.length = ys.length) := by by_cases z : xs.length = ys.length <;> simp [z]
              rw [all_ans e l1 l2, l1, l2, hb]
              exact ⟨.bl _, H', I', rfl, q _ H' w' lw s2 (.bl _)⟩
        · cases q1
      | none =>
        rw [q1] at e
        simp only at e
        split at e
        · rename_i hd
          cases e
          exact diff_rc hK (by omega) I rx ry si ra rb hd X.prog X.w X.xe _ ⟨.bl false, H, I, rfl, q.here si (.bl _)⟩
        · split at e
          · rename_i hd
            cases e
            cases ra with
            | @dic p kvs _ _ h1 _ _ => cases rb with
              | @tup p2 vs' _ h3 hs' =>
                cases rx
                cases ry
                obtain ⟨its, v1, t1, _⟩ := I.tuple (hK ▸ tq_of si h3 : SqT X.K H p2 vs')
                obtain ⟨_, _, _, _, o, _, _, e1, ex, _⟩ := I.hok p _ (si.sub _ _ h1)
                exact rc_dict_tuple e1 ex t1 (by omega) X.prog X.w X.xe _ ⟨.bl false, H, I, rfl, q.here si (.bl _)⟩
              | _ => simp [dtB] at hd
            | _ => simp [dtB] at hd
          · cases e
theorem op2_neX (hK : X.K = G.K) (hu : X.A.units + 64 < cLine) (hgd : X.A.guards = some []) (hE : EqG1 G X K0) (hr : Room (9 + K0) X.A) : Op2 G X (compareOp .NotEq) neX :=
  fun pins s σ H x y v u Q w ms a b d I rx ry si ra rb e q => by
    simp only [neX] at e
    cases q0 : neD ms a b with
    | some z =>
      rw [q0] at e; cases e
      exact op2_ne hK hu pins s σ H x y v u Q w ms a b d I rx ry si ra rb q0 q
    | none =>
      rw [q0] at e
      simp only at e
      show wpAny (model X.prog X.w) X.A (richCompare .NotEq v u) (EP X pins σ Q) X.xe s
      cases q1 : tupT ms a b with
      | some r =>
        rw [q1] at e; cases e
        unfold tupT at q1
        split at q1
        · rename_i xs ys
          simp only [Option.map_eq_some_iff] at q1
          obtain ⟨r0, e, rfl⟩ := q1
          cases ra with
          | @tup p vs _ h1 hs => cases rb with
            | @tup p2 vs' _ h3 hs' =>
              cases rx
              cases ry
              obtain ⟨its, v1, t1, _⟩ := I.tuple (hK ▸ tq_of si h1 : SqT X.K H p vs)
              obtain ⟨its2, v2, t2, _⟩ := I.tuple (hK ▸ tq_of si h3 : SqT X.K H p2 vs')
              refine rc_tupN (fun i => (ansL (eqT ms 8) xs ys).getD i false) (by omega) (EqPost G X pins σ w ms) t1 t2 (fun i k1 k2 s' pre l => turnT (m := 8 + K0) (fun a b r e => eqT_ok hK hE 8 a b r e) ⟨by rw [show 8 + K0 + 1 = 9 + K0 by omega]; exact hr, rfl⟩ hgd e hs hs' v1 v2 i k1 k2 s' pre l) (fun s' l => ?_) ⟨H, w, I, Wd.le.refl _, si⟩
              have l1 : its.toArray.size = xs.length := by rw [List.size_toArray, ← v1.length, hs.length]
              have l2 : its2.toArray.size = ys.length := by rw [List.size_toArray, ← v2.length, hs'.length]
              obtain ⟨H', w', I', lw, s2⟩ := l
              have hb : (xs.length == ys.length) = decide (xs.length = ys.length) := by by_cases z : xs.length = ys.length <;> simp [z]
              rw [all_ans e l1 l2, l1, l2, hb]
              exact ⟨.bl _, H', I', rfl, q _ H' w' lw s2 (.bl _)⟩
        · cases q1
      | none =>
        rw [q1] at e
        simp only at e
        split at e
        · rename_i hd
          cases e
          exact diff_rn hK (by omega) I rx ry si ra rb hd X.prog X.w X.xe _ ⟨.bl true, H, I, rfl, q.here si (.bl _)⟩
        · cases e
end
end DL

/-! methods: y.m(..), y a mutable object -/
namespace DL
open PySem L2 PyProof.Rows PySem.Spec
def MethG (G : Gx) (X : Cx) (C : Addr) (m : Str) (F : SF) (n : Nat) : Prop := ∃ (f : Addr) (fd : FuncData) (ps : List Str) (k : Nat), Meth X.K C m f ∧ FnG X.prog X.w X.K X.mg X.base k f fd ps (spF G F n) ∧ Room k X.A ∧ Binds X.K fd ps []
def objD (c : Nat) (m : Str) (ms : MS) (d : D) : Bool := match d with
  | .loc k => (match ms[k]? with
    | some (.obj c' fs) => c' == c && (fs.lookup m).isNone
    | _ => false)
  | _ => false
def sMeth (c : Nat) (m : Str) (F : SF) (n : Nat) (fo : SE) (ga : SA) : SE := fun env ms => (fo env ms).bind fun d ms => if objD c m ms d = true then (ga env ms).bind fun ds ms => if ds.length + 1 = n then F (d :: ds) ms else .stuck else .stuck
theorem few_ok {es : List Expr} {env : Env} {pos : Pos} (h : es.all (fun e => !starB e) = true) (hn : es.length < 30) : methodCallForm (es.length + ([] : List Keyword).length) (backTo pos (starEach es env)) (backToKw pos (keywordEach [] env)) = true := by
  have h1 : (backTo pos (starEach es env)).all (!·.1) = true := by
    have h0 : ∀ l : List (Bool × Sem Value), l.any (·.1) = false → l.all (!·.1) = true := fun l => by
      induction l with
      | nil => intro _; rfl
      | cons a l ih =>
        intro q
        rw [List.any_cons, Bool.or_eq_false_iff] at q
        rw [List.all_cons, q.1, ih q.2]; rfl
    exact h0 _ (star_all h)
  show ((backTo pos (starEach es env)).all (!·.1) && true && decide (es.length + 0 + 0 < 30)) = true
  rw [h1]; simp [hn]
theorem meth_eq {es : List Expr} {env : Env} {y m : Str} {p apos pos : Pos} (h : es.all (fun e => !starB e) = true) (hn : es.length < 30) (hl : (apos.endLine == pos.line) = true) :
    eval (.Call (.Attribute (.Name y p) m apos) es [] pos) env = (do
      let ov ← eval (.Name y p) env
      standAt apos.atName
      let (f, first) ← holding [ov] (getMethod ov m (do return (← importBound (.Name y p) env).getD true))
      callWith pos f first (backTo pos (starEach es env)) (backToKw pos (keywordEach [] env))) := by
  show (do
    let ov ← eval (.Name y p) env
    standAt apos.atName
    methodCall (.Name y p) m apos pos env ov (es.length + ([] : List Keyword).length) (backTo pos (starEach es env)) (backToKw pos (keywordEach [] env))) = _
  refine bind_congr fun ov => bind_congr fun _ => ?_
  unfold methodCall
  rw [few_ok h hn]
  unfold calleeOf methodCallPos
  simp only [Bool.not_true, Bool.false_or, hl, if_true, pure_bind]
section
variable {G : Gx} {X : Cx} {W : WX} {e : Expr} {es : List Expr} {fo : SE} {ga : SA} {pos apos p : Pos} {c n : Nat} {m y : Str} {F : SF}
theorem objD_ok {w : Wd} {ms : MS} {H : Hp} {d : D} {v : V} (s : SI G w ms H) (r : Rp G w d v) (h : objD c m ms d = true) : ∃ a dx fs, v = .ref a ∧ H a = some (.ins (G.OC c) dx fs) ∧ fs.lookup m = none := by
  unfold objD at h
  cases r with
  | @loc k a ha =>
    simp only at h
    cases q : ms[k]? with
    | none => rw [q] at h; cases h
    | some o =>
      rw [q] at h
      cases o with
      | obj c' fs =>
        simp only [Bool.and_eq_true, beq_iff_eq, Option.isNone_iff_eq_none] at h
        obtain ⟨b1, dx, vs, b2, b3⟩ := s.mo k a _ ha q
        rw [h.1] at b2
        exact ⟨a, dx, vs, rfl, b2, pf_none b3 h.2⟩
      | _ => cases h
  | _ => cases h
theorem je_meth (hc : Cls X.K (G.OC c)) (hM : MethG G X (G.OC c) m F n) (hgd : X.A.guards = some []) (tk : Takes X W) (ho : JE G X W (.Name y p) fo) (ha : JA G X W (e :: es) ga)
    (hst : (e :: es).all (fun e => !starB e) = true) (hn : (e :: es).length < 30) (hl : (apos.endLine == pos.line) = true) : JE G X W (.Call (.Attribute (.Name y p) m apos) (e :: es) [] pos) (sMeth c m F n fo ga) := by
  obtain ⟨f, fd, ps, k, M, Fk, hr, hb⟩ := hM
  refine ⟨fun pins s σ H Q I ⟨w, env, ms, at_, out⟩ => ?_⟩
  refine PySem.W.methodCall_KW (thn (PE.run ho pins s σ H (fun v H1 => ∃ (w1 : Wd) (ms1 : MS) (d : D), At G w1 env ms1 σ H1 ∧ Rp G w1 d v ∧ objD c m ms1 d = true ∧ OutD G w1 ((ga env ms1).bind fun ds ms => if ds.length + 1 = n then F (d :: ds) ms else .stuck) Q (fun c d H' => W c d σ H')) I ⟨w, env, ms, at_, Out.bind out fun d ms1 v H1 w1 l1 s1 r1 out1 => ?_⟩) fun u s1 ⟨x, H1, I1, rx, w1, ms1, d, a1, r1, h1, out1⟩ => ?_) (meth_eq hst hn hl)
  · split at out1
    · rename_i h
      exact ⟨w1, ms1, d, at_.next l1 s1, r1, h, out1⟩
    · exact out1.elim
  · obtain ⟨a, dx, fs, rfl, ea, l⟩ := objD_ok a1.s r1 h1
    obtain rfl : u = Value.ref a := rx
    refine getmeth_ok I1 ea hc M l ?_
    refine PySem.W.callWith_K (first := [.ref a]) (h₀ := X.base) I.ok.mod.kin M.kp (thn (PA.run ha pos pins s1 σ H1 (fun vs H2 => spF G F n (.ref a :: vs) H2 Q (WE W σ)) I1 ⟨w1, env, ms1, a1, Out.bind out1 fun ds ms2 vs H2 w2 l2 s2 r2 out2 => ?_⟩) fun us s2 ⟨vs, H2, I2, r, q⟩ => ⟨I2.kIn, ?_⟩) (star_plain (by simp only [List.all_cons, Bool.and_eq_true, Bool.not_eq_true'] at hst; exact hst.1)) (star_all (by simp only [List.all_cons, Bool.and_eq_true] at hst; exact hst.2))
    · split at out2
      · rename_i h
        exact ⟨w2, ms2, d :: ds, s2, .cons (r1.mono l2) r2, h, out2⟩
      · exact out2.elim
    · have hl : (Value.ref a :: us).length = ps.length := by
        have e := Fk.len _ _ _ _ q
        rw [List.length_cons, r.length] at e
        rw [List.length_cons]; exact e
      have b := hb s2 (.ref a :: us) I2.kIn (by rw [List.append_nil]; exact hl)
      rw [List.append_nil] at b
      exact run_callG (args := ⟨.ref a :: us, []⟩) (us := .ref a :: us) (vs := .ref a :: vs) tk Fk hr hgd I2 b (.cons rfl r) q
theorem je_meth0 (hc : Cls X.K (G.OC c)) (hM : MethG G X (G.OC c) m F n) (hgd : X.A.guards = some []) (tk : Takes X W) (ho : JE G X W (.Name y p) fo) (hl : (apos.endLine == pos.line) = true) : JE G X W (.Call (.Attribute (.Name y p) m apos) [] [] pos) (sMeth c m F n fo sNil) := by
  obtain ⟨f, fd, ps, k, M, Fk, hr, hb⟩ := hM
  refine ⟨fun pins s σ H Q I ⟨w, env, ms, at_, out⟩ => ?_⟩
  refine PySem.W.methodCall_KW (thn (PE.run ho pins s σ H (fun v H1 => ∃ (w1 : Wd) (ms1 : MS) (d : D), At G w1 env ms1 σ H1 ∧ Rp G w1 d v ∧ objD c m ms1 d = true ∧ OutD G w1 (if 1 = n then F [d] ms1 else .stuck) Q (fun c d H' => W c d σ H')) I ⟨w, env, ms, at_, Out.bind out fun d ms1 v H1 w1 l1 s1 r1 out1 => ?_⟩) fun u s1 ⟨x, H1, I1, rx, w1, ms1, d, a1, r1, h1, out1⟩ => ?_) (meth_eq rfl (by decide) hl)
  · split at out1
    · rename_i h
      exact ⟨w1, ms1, d, at_.next l1 s1, r1, h, out1⟩
    · exact out1.elim
  · obtain ⟨a, dx, fs, rfl, ea, l⟩ := objD_ok a1.s r1 h1
    obtain rfl : u = Value.ref a := rx
    refine getmeth_ok I1 ea hc M l ?_
    split at out1
    · rename_i h
      have q : spF G F n [.ref a] H1 Q (WE W σ) := ⟨w1, ms1, [d], a1.s, .cons r1 .nil, h, out1⟩
      have hl : [Value.ref a].length = ps.length := Fk.len _ _ _ _ q
      have b := hb s1 [.ref a] I1.kIn (by rw [List.append_nil]; exact hl)
      rw [List.append_nil] at b
      exact PySem.W.callWith_K0 (first := [.ref a]) I1.kIn M.kp (run_callG (args := ⟨[.ref a], []⟩) (us := [.ref a]) (vs := [.ref a]) tk Fk hr hgd I1 b (.cons rfl .nil) q)
    · exact out1.elim
end
end DL

/-! what is known of a class -/
namespace DL
open PySem L2 PyProof.Rows PySem.Spec
/-- the orders where ratios are about -/
structure OrdR (G : Gx) (X : Cx) : Prop where
  lt : Op2 G X (compareOp .Lt) ltX
  le : Op2 G X (compareOp .LtE) leX
  gt : Op2 G X (compareOp .Gt) gtX
  ge : Op2 G X (compareOp .GtE) geX
  eq : Op2 G X (compareOp .Eq) eqX
  ne : Op2 G X (compareOp .NotEq) neX
theorem ordR {G : Gx} {X : Cx} {F1 F2 F3 F4 : SF} {K0 : Nat} (hK : X.K = G.K) (hgd : X.A.guards = some []) (hu' : X.A.units + 64 < cLine) (hE : EqG1 G X K0) (hr : Room (9 + K0) X.A) (h1 : OwnG G X .Lt F1) (h2 : OwnG G X .LtE F2) (h3 : OwnG G X .Gt F3) (h4 : OwnG G X .GtE F4)
    (c1 : CmpF F1 fun x y => decide (x < y)) (c2 : CmpF F2 fun x y => decide (x ≤ y)) (c3 : CmpF F3 fun x y => decide (y < x)) (c4 : CmpF F4 fun x y => decide (y ≤ x)) : OrdR G X :=
  have hu : X.A.units < cLine := by omega
  ⟨op2_rcmp (fun _ _ => rfl) hgd hu h1 c1 op2_lt, op2_rcmp (fun _ _ => rfl) hgd hu h2 c2 op2_le, op2_rcmp (fun _ _ => rfl) hgd hu h3 c3 op2_gt, op2_rcmp (fun _ _ => rfl) hgd hu h4 c4 op2_ge, op2_eqX hK hu' hgd hE hr, op2_neX hK hu' hgd hE hr⟩
/-- the class's own orders -/
def OrdG (G : Gx) (X : Cx) : Prop := ∃ F1 F2 F3 F4 : SF, OwnG G X .Lt F1 ∧ OwnG G X .LtE F2 ∧ OwnG G X .Gt F3 ∧ OwnG G X .GtE F4 ∧ CmpF F1 (fun x y => decide (x < y)) ∧ CmpF F2 (fun x y => decide (x ≤ y)) ∧ CmpF F3 (fun x y => decide (y < x)) ∧ CmpF F4 (fun x y => decide (y ≤ x)) ∧ ∃ K0, EqG1 G X K0 ∧ Room (9 + K0) X.A
theorem OrdG.r {G : Gx} {X : Cx} (h : OrdG G X) (hK : X.K = G.K) (hgd : X.A.guards = some []) (hu : X.A.units + 64 < cLine) : OrdR G X := by
  obtain ⟨F1, F2, F3, F4, h1, h2, h3, h4, c1, c2, c3, c4, K0, hE, hr⟩ := h
  exact ordR hK hgd hu hE hr h1 h2 h3 h4 c1 c2 c3 c4
/-- a class of the text -/
structure ClI where
  c : Nat
  rat : Bool := false
  fs : List Str := []
  nI : Nat := 0
  ini : List (Nat × SF × List D) := []
  pr : List (Str × Str) := []
  cm : Bool := false
  isi : Bool := false
  me : List (Str × SF × Nat) := []
structure ClOk (G : Gx) (X : Cx) (x : Str) (I : ClI) : Prop where
  mg : X.mg x = some (.ref (G.OC I.c))
  rt : I.rat = true → G.OC I.c = G.CR ∧ G.hr = true
  cls : Cls X.K (G.OC I.c)
  fs : ∀ f ∈ I.fs, NoAttr X.K (G.OC I.c) f
  ini : ∀ m F dd, I.ini.lookup m = some (F, dd) → IniG G X (G.OC I.c) F I.nI dd
  pr : ∀ p fl, I.pr.lookup p = some fl → PropG X (G.OC I.c) p fl
  cm : I.cm = true → OrdG G X
  isi : I.isi = true → G.OC I.c = G.CR ∧ IsiC X.K (G.OC I.c)
  me : ∀ m F n, I.me.lookup m = some (F, n) → MethG G X (G.OC I.c) m F n
theorem ClOk.blk {G : Gx} {X X' : Cx} {x : Str} {I : ClI} (c : ClOk G X x I) (h1 : X'.prog = X.prog) (h2 : X'.w = X.w) (h3 : X'.K = X.K) (h4 : X'.mg = X.mg) (h5 : X'.base = X.base) (h6 : X'.A = X.A) : ClOk G X' x I := by
  obtain ⟨a, b, c, d, e, f, g, h, i⟩ := c
  refine ⟨by rw [h4]; exact a, b, by rw [h3]; exact c, fun q hq => by rw [h3]; exact d q hq, fun m F dd z => ?_, fun p fl z => ?_, fun z => ?_, fun z => by rw [h3]; exact h z, fun m F n z => ?_⟩
  · have := e m F dd z
    unfold IniG at this ⊢
    rw [h1, h2, h3, h4, h5, h6]; exact this
  · have := f p fl z
    unfold PropG at this ⊢
    rw [h1, h2, h3, h4, h5, h6]; exact this
  · have := g z
    unfold OrdG OwnG EqG1 at this ⊢
    rw [h1, h2, h3, h4, h5, h6]; exact this
  · have := i m F n z
    unfold MethG at this ⊢
    rw [h1, h2, h3, h4, h5, h6]; exact this
end DL

/-! from the text to its meaning -/
namespace DL
open PySem L2

inductive BI where
  | len | tuple | list | all | any | int | str | isin | range | enum | zip | repr
def BI.nm : BI → Str
  | .len => "len" | .tuple => "tuple" | .list => "list" | .all => "all" | .any => "any" | .int => "int" | .str => "str" | .isin => "isinstance" | .range => "range" | .enum => "enumerate" | .zip => "zip" | .repr => "repr"
inductive GV where
  | fn (F : SF) (n : Nat) (sh : List Shape)
  | val (d : D)
  | bi (b : BI)
  | ty (t : String)
  | er (c : Nat) (fs : Bool) (ex : List (Nat × Bool))
  | tb (kvs : List (Str × D))
  | cl (I : ClI)

abbrev CE := Scope → Expr → Option SE
abbrev CT := Scope → Expr → Option ST
abbrev CSs := Scope → List Stmt → Option SS
structure Cfg where
  N : List Str
  gl : List (Str × GV)
  mt : List Str := []
  lend : List Str := []
  fuel : Nat := 1000000
  ex : CE → CT → CE := fun _ _ _ _ => none
  exS : CE → CT → CSs → Scope → Stmt → Option SS := fun _ _ _ _ _ => none

def GlOk (G : Gx) (X : Cx) (x : Str) : GV → Prop
  | .fn F n sh => Callee G X x F n sh
  | .val d => ∃ u v, X.mg x = some u ∧ RelV v u ∧ ∀ w, Rp G w d v
  | .bi b => X.mg x = none ∧ b.nm = x
  | .ty t => X.mg x = none ∧ bootBuiltins x = some (.type t) ∧ x ≠ "__name__"
  | .er c fs ex => EGl G X x c fs ∧ ∀ k b, ex.lookup k = some b → PySem.W.exmOne X.K (.ref (G.EC k)) (.ref (G.EC c)) = some b
  | .cl I => ClOk G X x I
  | .tb kvs => ∃ a, X.mg x = some (.ref a) ∧ ∀ k d, kvs.lookup k = some d → ∃ v, KDct X.K X.w a k v ∧ ∀ w, Rp G w d v

def locB (sc : Scope) (x : Str) : Bool := match sc.names.lookup x with
  | some .local => true
  | some .cell => true
  | _ => false
/-- where code of the def is run -/
structure Good (G : Gx) (C : Cfg) (scp lc : Scope) (X : Cx) (W : WX) : Prop where
  K : X.K = G.K
  N : X.N = C.N
  nd : C.N.Nodup
  sc : X.env.scope = scp
  calm : X.calm = true
  un : X.A.units + 65 < cLine
  un2 : X.A.units + 66 < cLine
  gd : X.A.guards = some []
  tk : Takes X W
  st : ∀ x, locB lc x = true → L2.Loc X.env.scope x ∧ (X.fn x = true ∨ X.env.scope.names.lookup x = some .local)
  gl : ∀ x g, C.gl.lookup x = some g → GlOk G X x g

def ixOf (N : List Str) (x : Str) : Option Nat := N.findIdx? (· == x)
theorem ixOf_ok {N : List Str} {x : Str} {i : Nat} (h : ixOf N x = some i) : N[i]? = some x := by
  unfold ixOf at h
  rw [List.findIdx?_eq_some_iff_getElem] at h
  obtain ⟨hl, hx, _⟩ := h
  rw [List.getElem?_eq_getElem hl]
  simpa using hx
def visB (sc : Scope) (x : Str) : Bool := match sc.names.lookup x with
  | some .local => true
  | some .cell => true
  | some .free => true
  | _ => false
theorem visB_ok {sc : Scope} {x : Str} (h : visB sc x = true) : Vis sc x := by
  unfold visB at h
  unfold Vis
  cases q : sc.names.lookup x with
  | none => rw [q] at h; cases h
  | some k => rw [q] at h; cases k <;> simp_all
theorem locB_ok {sc : Scope} {x : Str} (h : locB sc x = true) : L2.Loc sc x := by
  unfold locB at h
  unfold L2.Loc
  cases q : sc.names.lookup x with
  | none => rw [q] at h; cases h
  | some k => rw [q] at h; cases k <;> simp_all
def glB (sc : Scope) (x : Str) : Bool := match sc.names.lookup x with
  | some .globalImplicit => true
  | _ => false
theorem glB_ok {sc : Scope} {x : Str} (h : glB sc x = true) : sc.names.lookup x = some .globalImplicit := by
  unfold glB at h
  cases q : sc.names.lookup x with
  | none => rw [q] at h; cases h
  | some k => rw [q] at h; cases k <;> simp_all
def plB (x : Str) : Bool := !(x == ("__debug__" : Str)) && !(x == ("__classdict__" : Str)) && !(x == ("__name__" : Str))
theorem plB_ok {x : Str} (h : plB x = true) : (x == ("__debug__" : Str)) = false ∧ (x == ("__classdict__" : Str)) = false ∧ x ≠ "__name__" := by
  unfold plB at h
  simp only [Bool.and_eq_true, Bool.not_eq_true'] at h
  exact ⟨h.1.1, h.1.2, fun e => by rw [e] at h; simp at h⟩

/-! ### lists of expressions -/
def cA (ce : Expr → Option SE) : List Expr → Option SA
  | [] => some sNil
  | e :: es => if (!starB e) = true then (ce e).bind fun f => (cA ce es).bind fun g => some (sCons f g) else none
section
variable {G : Gx} {X : Cx} {W : WX}
theorem cA_ok {ce : Expr → Option SE} (h : ∀ e f, ce e = some f → JE G X W e f) : ∀ {es : List Expr} {g : SA}, cA ce es = some g → JA G X W es g
  | [], g, e => by cases e; exact ja_nil
  | x :: xs, g, e => by
    simp only [cA] at e
    obtain ⟨hs, e⟩ := og e
    obtain ⟨f, e1, e⟩ := ob e
    obtain ⟨g', e2, e⟩ := ob e
    cases e
    exact ja_cons (h _ _ e1) (cA_ok h e2) (star_plain (by simpa using hs))
theorem cA_star {ce : Expr → Option SE} : ∀ {es : List Expr} {g : SA}, cA ce es = some g → es.all (fun e => !starB e) = true
  | [], g, e => rfl
  | x :: xs, g, e => by
    simp only [cA] at e
    obtain ⟨hs, e⟩ := og e
    obtain ⟨f, e1, e⟩ := ob e
    obtain ⟨g', e2, e⟩ := ob e
    simp only [List.all_cons, Bool.and_eq_true]
    exact ⟨hs, cA_star e2⟩
def cK (ce : Expr → Option SE) : List Keyword → Option SA
  | [] => some sNil
  | ⟨_, e, _⟩ :: es => (ce e).bind fun f => (cK ce es).bind fun g => some (sCons f g)
theorem cK_ok {ce : Expr → Option SE} (h : ∀ e f, ce e = some f → JE G X W e f) : ∀ {es : List Keyword} {g : SA}, cK ce es = some g → JK G X W es g
  | [], g, e => by cases e; exact jk_nil
  | ⟨nm, x, p⟩ :: xs, g, e => by
    simp only [cK] at e
    obtain ⟨f, e1, e⟩ := ob e
    obtain ⟨g', e2, e⟩ := ob e
    cases e
    exact jk_cons (h _ _ e1) (cK_ok h e2)
def kwNames : List Keyword → Option (List Str)
  | [] => some []
  | ⟨some n, _, _⟩ :: r => (kwNames r).map (n :: ·)
  | ⟨none, _, _⟩ :: _ => none
theorem kwNames_ok {env : Env} {pos : Pos} : ∀ {kws : List Keyword} {ks : List Str}, kwNames kws = some ks →
    (backToKw pos (keywordEach kws env)).all (·.1.isSome) = true ∧ (backToKw pos (keywordEach kws env)).filterMap (·.1) = ks ∧ (backToKw pos (keywordEach kws env)).any (·.1.isNone) = false
  | [], ks, e => by cases e; exact ⟨rfl, rfl, rfl⟩
  | ⟨some n, x, p⟩ :: r, ks, e => by
    simp only [kwNames, Option.map_eq_some_iff] at e
    obtain ⟨ks', e, rfl⟩ := e
    obtain ⟨h1, h2, h3⟩ := kwNames_ok (env := env) (pos := pos) e
    refine ⟨?_, ?_, ?_⟩
    · show (true && (backToKw pos (keywordEach r env)).all (·.1.isSome)) = true
      rw [h1]; rfl
    · show n :: (backToKw pos (keywordEach r env)).filterMap (·.1) = n :: ks'
      rw [h2]
    · show (false || (backToKw pos (keywordEach r env)).any (·.1.isNone)) = false
      rw [h3]; rfl
  | ⟨none, x, p⟩ :: r, ks, e => by cases e
end

/-! ### operators -/
def bop : Operator → Option VO2
  | .Add => some addD
  | .Sub => some subD
  | .Mult => some mulD
  | .FloorDiv => some fdivD
  | .Mod => some modD
  | .Pow => some powD
  | _ => none
def cop0 : CmpOp → Option VO2
  | .Eq => some eqD
  | .NotEq => some neD
  | .Lt => some ltD
  | .LtE => some leD
  | .Gt => some gtD
  | .GtE => some geD
  | .Is => some isD
  | .IsNot => some isnD
  | .In => some inD
  | .NotIn => some notinD
/-- where ratios are about -/
def copR : CmpOp → Option VO2
  | .Eq => some eqX
  | .NotEq => some neX
  | .Lt => some ltX
  | .LtE => some leX
  | .Gt => some gtX
  | .GtE => some geX
  | op => cop0 op
def rtB (C : Cfg) : Bool := match C.gl.lookup ("Ratio" : Str) with
  | some (.cl I) => I.cm
  | _ => false
def cop (C : Cfg) (op : CmpOp) : Option VO2 := if rtB C = true then copR op else cop0 op
section
variable {G : Gx} {X : Cx} {W : WX} {C : Cfg} {sc lc : Scope}
theorem bop_ok (g : Good G C sc lc X W) {op : Operator} {o : VO2} (e : bop op = some o) : Op2 G X (binaryOp op) o := by
  cases op <;> cases e
  · exact op2_add g.K
  · exact op2_sub
  · exact op2_mul g.K
  · exact op2_mod
  · exact op2_pow
  · exact op2_fdiv
theorem cop0_ok (g : Good G C sc lc X W) {op : CmpOp} {o : VO2} (e : cop0 op = some o) : Op2 G X (compareOp op) o := by
  have h64 : X.A.units + 64 < cLine := Nat.lt_of_succ_lt g.un
  cases op <;> cases e
  · exact op2_eq g.K h64
  · exact op2_ne g.K h64
  · exact op2_lt
  · exact op2_le
  · exact op2_gt
  · exact op2_ge
  · exact op2_is
  · exact op2_isn
  · exact op2_in g.K g.un
  · exact op2_notin g.K g.un
theorem rtB_ok (g : Good G C sc lc X W) (h : rtB C = true) : OrdR G X := by
  unfold rtB at h
  split at h
  · rename_i I hl
    exact ((show ClOk G X "Ratio" I from g.gl _ _ hl).cm h).r g.K g.gd (by have := g.un; omega)
  · cases h
theorem cop_ok (g : Good G C sc lc X W) {op : CmpOp} {o : VO2} (e : cop C op = some o) : Op2 G X (compareOp op) o := by
  unfold cop at e
  split at e
  · rename_i h
    have R := rtB_ok g h
    cases op with
    | Lt => cases e; exact R.lt
    | LtE => cases e; exact R.le
    | Gt => cases e; exact R.gt
    | GtE => cases e; exact R.ge
    | Eq => cases e; exact R.eq
    | NotEq => cases e; exact R.ne
    | _ => exact cop0_ok g e
  · exact cop0_ok g e
end
def setB : Expr → Bool
  | .Set _ _ _ => true
  | _ => false
theorem noSet {op : CmpOp} {b : Expr} (h : setB b = false) : behindInMarks op b = false := by
  cases b <;> first | rfl | cases h
theorem noSet2 {op op' : CmpOp} {b c : Expr} (h : setB c = false) : lastMarks [op, op'] [b, c] = false := by
  show behindInMarks op' c = false
  exact noSet h
theorem noFold {e : Expr} {env : Env} (h : setB e = false) (x : Value) : foldedSetIterable e env x = pure x := by
  cases e <;> first | rfl | cases h
/-- a test by its value's truth -/
def truB : Expr → Bool
  | .UnaryOp .Not _ _ => false
  | .BoolOp _ _ _ => false
  | .IfExp _ _ _ _ => false
  | .Compare _ _ _ _ => false
  | _ => true
theorem truB_ok {e : Expr} {env : Env} (h : truB e = true) : ∀ whole, isTrue e env whole = (do let v ← whole; standAt e.pos; holding [v] (truthy v)) := by
  intro whole
  cases e with
  | UnaryOp op a p => cases op <;> first | rfl | cases h
  | BoolOp _ _ _ => cases h
  | IfExp _ _ _ _ => cases h
  | Compare _ _ _ _ => cases h
  | _ => rfl
def sliceB : Expr → Bool
  | .Slice _ _ _ _ => true
  | _ => false
theorem plainIx {b : Expr} (h : sliceB b = false) : PlainIx b := by
  intro o i
  cases b <;> first | rfl | cases h
def compB : Expr → Bool
  | .ListComp _ _ _ _ => true
  | .SetComp _ _ _ _ => true
  | .DictComp _ _ _ _ _ => true
  | _ => false
theorem noSwap {e : Expr} {t : Option Expr} {l : Nat} {env : Env} (h : compB e = false) : swapsWith e t l env = pure false := by
  cases e <;> first | rfl | cases h

/-! ### names -/
/-- a name: its slot; a mutable list's name is frozen unless it is only looked at (pk) -/
def cName (C : Cfg) (pk : Bool) (sc : Scope) (x : Str) : Option SE := if plB x = true then (match ixOf C.N x with
  | some i => if visB sc x = true then some (if (pk || !C.mt.contains x) = true then sVar i else sFrz i) else none
  | none => if glB sc x = true then (match C.gl.lookup x with
    | some (.val d) => some (sCst d)
    | _ => none) else none) else none
section
variable {G : Gx} {X : Cx} {W : WX} {C : Cfg} {sc lc : Scope}
theorem cName_ok (g : Good G C sc lc X W) {pk : Bool} {x : Str} {pos : Pos} {f : SE} (e : cName C pk sc x = some f) : JE G X W (.Name x pos) f := by
  unfold cName at e
  obtain ⟨hp, e⟩ := og e
  obtain ⟨h1, h2, h3⟩ := plB_ok hp
  cases q : ixOf C.N x with
  | some i =>
    rw [q] at e
    simp only at e
    obtain ⟨hv, e⟩ := og e
    have hN : X.N[i]? = some x := by rw [g.N]; exact ixOf_ok q
    have hV : Vis X.env.scope x := by rw [g.sc]; exact visB_ok hv
    split at e
    · cases e; exact je_var hN hV h1 h2
    · cases e; exact je_frz hN hV h1 h2
  | none =>
    rw [q] at e
    simp only at e
    obtain ⟨hg, e⟩ := og e
    cases q2 : C.gl.lookup x with
    | none => rw [q2] at e; cases e
    | some z =>
      rw [q2] at e
      cases z with
      | val d =>
        cases e
        obtain ⟨u, v, hm, r, hr⟩ := g.gl x _ q2
        exact je_val (pe_glob (by show X.env.scope.names.lookup x = _; rw [g.sc]; exact glB_ok hg) hm r h1) hr
      | _ => cases e
end
/-- looked at only -/
def cPk (C : Cfg) (ce : CE) (sc : Scope) (e : Expr) : Option SE := match e with
  | .Name x _ => cName C true sc x
  | e => ce sc e
/-- lent to a call -/
def cLd (C : Cfg) (ce : CE) (sc : Scope) (e : Expr) : Option SE := match e with
  | .Name x _ => cName C (C.lend.contains x) sc x
  | e => ce sc e
section
variable {G : Gx} {X : Cx} {W : WX} {C : Cfg} {sc lc : Scope}
theorem cPk_ok (g : Good G C sc lc X W) {ce : CE} (h : ∀ e f, ce sc e = some f → JE G X W e f) {e : Expr} {f : SE} (q : cPk C ce sc e = some f) : JE G X W e f := by
  cases e with
  | Name x p => exact cName_ok g q
  | _ => exact h _ _ q
theorem cLd_ok (g : Good G C sc lc X W) {ce : CE} (h : ∀ e f, ce sc e = some f → JE G X W e f) {e : Expr} {f : SE} (q : cLd C ce sc e = some f) : JE G X W e f := by
  cases e with
  | Name x p => exact cName_ok g q
  | _ => exact h _ _ q
end

/-! ### and, or -/
def cV (ce : Expr → Option SE) (op : BoolOp) : List Expr → Option SE
  | [] => none
  | [a] => ce a
  | a :: b :: es => (ce a).bind fun f => (cV ce op (b :: es)).bind fun g => some (match op with | .And => sAndV f g | .Or => sOrV f g)
def cW (ct : Expr → Option ST) (op : BoolOp) : List Expr → Option ST
  | [] => none
  | [a] => ct a
  | a :: b :: es => (ct a).bind fun f => (cW ct op (b :: es)).bind fun g => some (match op with | .And => sAndT f g | .Or => sOrT f g)
section
variable {G : Gx} {X : Cx} {W : WX}
theorem cV_ok (hK : X.K = G.K) {ce : Expr → Option SE} (h : ∀ e f, ce e = some f → JE G X W e f) {op : BoolOp} : ∀ {es : List Expr} {f : SE}, cV ce op es = some f → JV G X W op es f
  | [], _, e => by cases e
  | [a], f, e => jv_one (h _ _ e)
  | a :: b :: es, f, e => by
    simp only [cV] at e
    obtain ⟨f1, e1, e⟩ := ob e
    obtain ⟨f2, e2, e⟩ := ob e
    cases e
    cases op with
    | And => exact jv_and hK (h _ _ e1) (cV_ok hK h e2)
    | Or => exact jv_or hK (h _ _ e1) (cV_ok hK h e2)
theorem cW_ok {ct : Expr → Option ST} (h : ∀ e f, ct e = some f → JT G X W e f) {op : BoolOp} : ∀ {es : List Expr} {f : ST}, cW ct op es = some f → JW G X W op es f
  | [], _, e => by cases e
  | [a], f, e => jw_one (h _ _ e)
  | a :: b :: es, f, e => by
    simp only [cW] at e
    obtain ⟨f1, e1, e⟩ := ob e
    obtain ⟨f2, e2, e⟩ := ob e
    cases e
    cases op with
    | And => exact jw_and (h _ _ e1) (cW_ok h e2)
    | Or => exact jw_or (h _ _ e1) (cW_ok h e2)
end
def cO (ce : Expr → Option SE) : Option Expr → Option SO
  | none => some sNoPart
  | some e => (ce e).bind fun f => some (sPart f)
theorem cO_ok {G : Gx} {X : Cx} {W : WX} {ce : Expr → Option SE} (h : ∀ e f, ce e = some f → JE G X W e f) {o : Option Expr} {f : SO} (e : cO ce o = some f) : JO G X W o f := by
  cases o with
  | none => cases e; exact jo_none
  | some a =>
    simp only [cO] at e
    obtain ⟨f1, e1, e⟩ := ob e
    cases e
    exact jo_some (h _ _ e1)

/-! ### targets -/
mutual
def cG (C : Cfg) (ws : List Nat) (sc : Scope) : Nat → Expr → Option VG
  | 0, _ => none
  | n + 1, .Name x _ => if locB sc x = true then (ixOf C.N x).bind fun i => if ws.contains i = true then some (gNm i) else none else none
  | n + 1, .Tuple es _ _ => (cGs C ws sc n es).bind fun g => some (gTu es.length g)
  | n + 1, _ => none
def cGs (C : Cfg) (ws : List Nat) (sc : Scope) : Nat → List Expr → Option VGs
  | 0, _ => none
  | n + 1, [] => some gsNil
  | n + 1, e :: es => if (!starB e) = true then (cG C ws sc n e).bind fun g => (cGs C ws sc n es).bind fun gs => some (gsCons g gs) else none
end
theorem asgEach_plain {e : Expr} {es : List Expr} {env : Env} (h : starB e = false) : assignEach (e :: es) env = (false, assign e env) :: assignEach es env := by
  cases e <;> first | rfl | cases h
section
variable {G : Gx} {X : Cx} {W : WX} {C : Cfg} {sc lc : Scope} {ws : List Nat}
theorem cGs_star : ∀ {n : Nat} {es : List Expr} {g : VGs}, cGs C ws sc n es = some g → (assignEach es X.env).length = es.length ∧ (assignEach es X.env).findIdx? (·.1) = none
  | 0, _, _, e => by simp only [cGs] at e; cases e
  | n + 1, [], g, e => ⟨rfl, rfl⟩
  | n + 1, x :: xs, g, e => by
    simp only [cGs] at e
    obtain ⟨hs, e⟩ := og e
    obtain ⟨f1, e1, e⟩ := ob e
    obtain ⟨f2, e2, e⟩ := ob e
    obtain ⟨h1, h2⟩ := cGs_star e2
    rw [asgEach_plain (by simpa using hs)]
    refine ⟨by simp [h1], ?_⟩
    rw [List.findIdx?_cons]
    simp [h2]
mutual
theorem cG_ok (g : Good G C sc lc X W) : ∀ {n : Nat} {e : Expr} {f : VG}, cG C ws lc n e = some f → JG G X ws e f
  | 0, _, _, e => by simp only [cG] at e; cases e
  | n + 1, .Name x p, f, e => by
    simp only [cG] at e
    obtain ⟨hl, e⟩ := og e
    obtain ⟨i, e1, e⟩ := ob e
    obtain ⟨hw, e⟩ := og e
    cases e
    exact jg_name (by rw [g.N]; exact g.nd) (by rw [g.N]; exact ixOf_ok e1) (g.st x hl).1 (g.st x hl).2 (by simpa using hw)
  | n + 1, .Tuple es k p, f, e => by
    simp only [cG] at e
    obtain ⟨f1, e1, e⟩ := ob e
    cases e
    obtain ⟨h1, h2⟩ := cGs_star (X := X) e1
    exact jg_tup g.K g.calm (cGs_ok g e1) h1 h2
  | n + 1, .BoolOp .., _, e => by simp only [cG] at e; cases e
  | n + 1, .NamedExpr .., _, e => by simp only [cG] at e; cases e
  | n + 1, .BinOp .., _, e => by simp only [cG] at e; cases e
  | n + 1, .UnaryOp .., _, e => by simp only [cG] at e; cases e
  | n + 1, .Lambda .., _, e => by simp only [cG] at e; cases e
  | n + 1, .IfExp .., _, e => by simp only [cG] at e; cases e
  | n + 1, .Dict .., _, e => by simp only [cG] at e; cases e
  | n + 1, .Set .., _, e => by simp only [cG] at e; cases e
  | n + 1, .ListComp .., _, e => by simp only [cG] at e; cases e
  | n + 1, .SetComp .., _, e => by simp only [cG] at e; cases e
  | n + 1, .DictComp .., _, e => by simp only [cG] at e; cases e
  | n + 1, .GeneratorExp .., _, e => by simp only [cG] at e; cases e
  | n + 1, .Await .., _, e => by simp only [cG] at e; cases e
  | n + 1, .Yield .., _, e => by simp only [cG] at e; cases e
  | n + 1, .YieldFrom .., _, e => by simp only [cG] at e; cases e
  | n + 1, .Compare .., _, e => by simp only [cG] at e; cases e
  | n + 1, .Call .., _, e => by simp only [cG] at e; cases e
  | n + 1, .FormattedValue .., _, e => by simp only [cG] at e; cases e
  | n + 1, .JoinedStr .., _, e => by simp only [cG] at e; cases e
  | n + 1, .Constant .., _, e => by simp only [cG] at e; cases e
  | n + 1, .Attribute .., _, e => by simp only [cG] at e; cases e
  | n + 1, .Subscript .., _, e => by simp only [cG] at e; cases e
  | n + 1, .Starred .., _, e => by simp only [cG] at e; cases e
  | n + 1, .List .., _, e => by simp only [cG] at e; cases e
  | n + 1, .Slice .., _, e => by simp only [cG] at e; cases e
theorem cGs_ok (g : Good G C sc lc X W) : ∀ {n : Nat} {es : List Expr} {f : VGs}, cGs C ws lc n es = some f → JGs G X ws es f
  | 0, _, _, e => by simp only [cGs] at e; cases e
  | n + 1, [], f, e => by simp only [cGs] at e; cases e; exact jgs_nil
  | n + 1, x :: xs, f, e => by
    simp only [cGs] at e
    obtain ⟨hs, e⟩ := og e
    obtain ⟨f1, e1, e⟩ := ob e
    obtain ⟨f2, e2, e⟩ := ob e
    cases e
    refine jgs_cons (cG_ok g e1) (cGs_ok g e2) ?_
    rw [asgEach_plain (by simpa using hs)]
    rfl
end
end
end DL

namespace DL
open PySem L2

/-! ### isinstance -/
def sIsi (t : String) (f : SE) : SE := fun env ms => (f env ms).bind fun d ms => optR ((isiB t ms d).map D.bl) ms
section
variable {G : Gx} {X : Cx} {W : WX} {a e : Expr} {es : List Expr} {fa : SE} {ga : SA} {pos p q : Pos} {C : Cfg} {sc lc : Scope}
theorem je_isi {T : Str} {t : String} (hK : X.K = G.K) (hg : Gl X "isinstance") (hm : X.mg "isinstance" = none) (hgT : Gl X T) (hmT : X.mg T = none) (hvT : bootBuiltins T = some (.type t)) (hn : T ≠ "__name__") (hd : (T == ("__debug__" : Str)) = false) (ha : JE G X W a fa)
    (hs : starB a = false) : JE G X W (.Call (.Name "isinstance" p) [a, .Name T q] [] pos) (sIsi t fa) :=
  PE.imp (pe_callB L2.call_isi hg hm (by decide +kernel) (pa_cons ha (pa_cons (pe_bltn (v := .ty t) hgT hmT hvT rfl hn hd) pa_nil rfl) (star_plain hs)) (by decide) (by decide) (star_plain hs) rfl) fun σ H Q ⟨w, env, ms, at_, out⟩ =>
    ⟨w, env, ms, at_, Out.bind out fun d ms1 v H1 w1 l1 s1 r1 out1 => by
      obtain ⟨r, e, k⟩ := Out.opt out1
      simp only [Option.map_eq_some_iff] at e
      obtain ⟨b, e, rfl⟩ := e
      unfold isiB at e
      cases q1 : tyN ms1 d with
      | none =>
        rw [q1] at e
        simp only at e
        cases r1 with
        | rat h =>
          simp only at e
          split at e
          · rename_i ht
            cases e
            have hm : t ∈ tyL := by simpa using ht
            have hc : IsiC X.K G.CR := hK ▸ G.isi h.1
            exact ⟨_, .ty t, .ref G.CR, .type t, false, rfl, .ty t, hc.ty (s1.sub _ _ h.2), hc.ob t hm, k.here s1 (.bl _)⟩
          · cases e
        | _ => cases e
      | some t' =>
        rw [q1] at e
        exact ⟨v, .ty t, .type t', .type t, b, rfl, .ty t, hK ▸ tyN_ok s1 r1 q1, kit_ty e, k.here s1 (.bl _)⟩⟩

/-! ### built-ins by name -/
def biF : BI → Option VOn
  | .len => some lenD
  | .tuple => some tupleD
  | .list => some listD
  | .all => some allD
  | .any => some anyD
  | .int => some intD
  | .str => some strD
  | .repr => some reprD
  | _ => none
theorem bi_call (g : Good G C sc lc X W) {b : BI} {x : Str} {o : VOn} (hb : X.mg x = none ∧ b.nm = x) (e' : biF b = some o) (hg : Gl X x) (ha : JA G X W (e :: es) ga) (hs : starB e = false) (hpl : es.all (fun e => !starB e) = true) :
    JE G X W (.Call (.Name x p) (e :: es) [] pos) (sBif o ga) := by
  obtain ⟨hm, rfl⟩ := hb
  cases b <;> cases e'
  · exact je_callB (call_lenD g.K) hg hm PySem.boot_len ha (by decide) (by decide) (star_plain hs) (star_all hpl)
  · exact je_callTy (call_tupleD g.K) hg hm (by decide +kernel) ha (by decide) (by decide) (star_plain hs) (star_all hpl)
  · exact je_callTy (call_listD g.K) hg hm (by decide +kernel) ha (by decide) (by decide) (star_plain hs) (star_all hpl)
  · exact je_callB (call_allD g.calm) hg hm (by decide +kernel) ha (by decide) (by decide) (star_plain hs) (star_all hpl)
  · exact je_callB (call_anyD g.calm) hg hm (by decide +kernel) ha (by decide) (by decide) (star_plain hs) (star_all hpl)
  · exact je_callTy call_intD hg hm (by decide +kernel) ha (by decide) (by decide) (star_plain hs) (star_all hpl)
  · exact je_callTy call_strD hg hm (by decide +kernel) ha (by decide) (by decide) (star_plain hs) (star_all hpl)
  · exact je_callB (call_reprD g.K g.gd g.un2) hg hm (by decide +kernel) ha (by decide) (by decide) (star_plain hs) (star_all hpl)
end

/-! ### calls -/
def cBif (C : Cfg) (ce : CE) (sc : Scope) (b : BI) (args : List Expr) (kws : List Keyword) : Option SE := match kws with
  | [] => (match args with
    | a :: as => (biF b).bind fun o => (cA (cPk C ce sc) (a :: as)).bind fun ga => some (sBif o ga)
    | [] => none)
  | _ :: _ => none
def cIsi (C : Cfg) (ce : CE) (sc : Scope) (args : List Expr) (kws : List Keyword) : Option SE := match kws with
  | [] => (match args with
    | [a, .Name T _] => if (!starB a && glB sc T && plB T) = true then (match C.gl.lookup T with
        | some (.ty t) => (cPk C ce sc a).bind fun fa => some (sIsi t fa)
        | some (.cl I) => if I.isi = true then (cPk C ce sc a).bind fun fa => some (sIsiR fa) else none
        | _ => none) else none
    | _ => none)
  | _ :: _ => none
def cFn (C : Cfg) (ce : CE) (sc : Scope) (F : SF) (n : Nat) (sh : List Shape) (args : List Expr) (kws : List Keyword) : Option SE := (cA (cLd C ce sc) args).bind fun ga => (match kws with
      | [] => some (sCall F n ga)
      | kw :: kws => (kwNames (kw :: kws)).bind fun ks => (sh.find? fun t => t.n == args.length && t.ks == ks).bind fun t => (cK (cLd C ce sc) (kw :: kws)).bind fun gk => some (sCallK F t ga gk))
def cCall (C : Cfg) (ce : CE) (sc : Scope) (x : Str) (args : List Expr) (kws : List Keyword) : Option SE :=
  if (glB sc x && plB x && (ixOf C.N x).isNone) = true then (match C.gl.lookup x with
    | some (.fn F n sh) => cFn C ce sc F n sh args kws
    | some (.bi .isin) => cIsi C ce sc args kws
    | some (.bi b) => cBif C ce sc b args kws
    | _ => none) else none
section
variable {G : Gx} {X : Cx} {W : WX} {C : Cfg} {sc lc : Scope}
theorem gl_of (g : Good G C sc lc X W) {x : Str} (h : glB sc x = true) : Gl X x := by
  show X.env.scope.names.lookup x = _
  rw [g.sc]; exact glB_ok h
theorem find_mem {α : Type} {l : List α} {p : α → Bool} {a : α} (h : l.find? p = some a) : a ∈ l ∧ p a = true := ⟨List.mem_of_find?_eq_some h, List.find?_some h⟩
theorem cBif_ok (g : Good G C sc lc X W) {ce : CE} (h : ∀ e f, ce sc e = some f → JE G X W e f) {b : BI} {x : Str} {args : List Expr} {kws : List Keyword} {f : SE} {p pos : Pos} (gz : X.mg x = none ∧ b.nm = x) (hG : Gl X x) (e : cBif C ce sc b args kws = some f) : JE G X W (.Call (.Name x p) args kws pos) f := by
  cases kws with
  | cons _ _ => cases e
  | nil =>
    cases args with
    | nil => cases e
    | cons a as =>
      simp only [cBif] at e
      obtain ⟨o, e1, e⟩ := ob e
      obtain ⟨ga, e2, e⟩ := ob e
      cases e
      have ja := cA_ok (fun e f q => cPk_ok g h q) e2
      have st := cA_star e2
      simp only [List.all_cons, Bool.and_eq_true] at st
      exact bi_call g gz e1 hG ja (by simpa using st.1) st.2
theorem cIsi_ok (g : Good G C sc lc X W) {ce : CE} (h : ∀ e f, ce sc e = some f → JE G X W e f) {x : Str} {args : List Expr} {kws : List Keyword} {f : SE} {p pos : Pos} (gz : X.mg x = none ∧ BI.isin.nm = x) (hG : Gl X x) (e : cIsi C ce sc args kws = some f) : JE G X W (.Call (.Name x p) args kws pos) f := by
  cases kws with
  | cons _ _ => cases e
  | nil =>
    simp only [cIsi] at e
    split at e
    · rename_i a T pT
      obtain ⟨hc, e⟩ := og e
      simp only [Bool.and_eq_true, Bool.not_eq_true'] at hc
      obtain ⟨⟨hs, hgT⟩, hpT⟩ := hc
      obtain ⟨t1, t2, t3⟩ := plB_ok hpT
      cases q2 : C.gl.lookup T with
      | none => rw [q2] at e; cases e
      | some z =>
        rw [q2] at e
        have gT := g.gl T z q2
        cases z with
        | ty t =>
          simp only at e
          obtain ⟨fa, e1, e⟩ := ob e
          cases e
          obtain ⟨hm, hn⟩ := gz
          obtain rfl : "isinstance" = x := hn
          exact je_isi g.K hG hm (gl_of g hgT) gT.1 gT.2.1 gT.2.2 t1 (cPk_ok g h e1) hs
        | cl I =>
          simp only at e
          obtain ⟨hi, e⟩ := og e
          obtain ⟨fa, e1, e⟩ := ob e
          cases e
          obtain ⟨hm, hn⟩ := gz
          obtain rfl : "isinstance" = x := hn
          have gT : ClOk G X T I := gT
          obtain ⟨eC, hI⟩ := gT.isi hi
          rw [eC] at hI
          exact je_isiR g.K hI hG hm (gl_of g hgT) (by rw [← eC]; exact gT.mg) t1 (cPk_ok g h e1) hs
        | _ => cases e
    · cases e
theorem cFn_ok (g : Good G C sc lc X W) {ce : CE} (h : ∀ e f, ce sc e = some f → JE G X W e f) {x : Str} {F : SF} {n : Nat} {sh : List Shape} {args : List Expr} {kws : List Keyword} {f : SE} {p pos : Pos} (gz : Callee G X x F n sh) (hG : Gl X x) (p1 : (x == ("__debug__" : Str)) = false) (e : cFn C ce sc F n sh args kws = some f) :
    JE G X W (.Call (.Name x p) args kws pos) f := by
  unfold cFn at e
  obtain ⟨ga, e1, e⟩ := ob e
  have ja := cA_ok (fun e f q => cLd_ok g h q) e1
  have st := cA_star e1
  cases kws with
  | nil =>
    cases e
    cases args with
    | nil => cases e1; exact je_call0 gz g.tk hG p1
    | cons a as =>
      simp only [List.all_cons, Bool.and_eq_true] at st
      exact je_call gz g.tk hG p1 ja (star_plain (by simpa using st.1)) (star_all st.2)
  | cons kw kws =>
    simp only at e
    obtain ⟨ks, e2, e⟩ := ob e
    obtain ⟨t, e3, e⟩ := ob e
    obtain ⟨gk, e4, e⟩ := ob e
    cases e
    obtain ⟨ht, hq⟩ := find_mem e3
    simp only [Bool.and_eq_true, beq_iff_eq] at hq
    obtain ⟨k1, k2, k3⟩ := kwNames_ok (env := X.env) (pos := pos) e2
    have jk := cK_ok (fun e f q => cLd_ok g h q) e4
    cases args with
    | nil =>
      cases e1
      exact je_callK0 gz ht g.tk hG p1 jk k1 (k2.trans hq.2.symm) (by rw [k3]; rfl)
    | cons a as =>
      simp only [List.all_cons, Bool.and_eq_true] at st
      have hsa : starB a = false := by simpa using st.1
      refine je_callK gz ht g.tk hG p1 ja jk (star_plain hsa) k1 (k2.trans hq.2.symm) ?_
      rw [star_plain hsa, k3]
      show ((false || (backTo pos (starEach as X.env)).any (·.1)) || false) = false
      rw [star_all st.2]; rfl
theorem cCall_ok (g : Good G C sc lc X W) {ce : CE} (h : ∀ e f, ce sc e = some f → JE G X W e f) {x : Str} {args : List Expr} {kws : List Keyword} {f : SE} {p pos : Pos} (e : cCall C ce sc x args kws = some f) : JE G X W (.Call (.Name x p) args kws pos) f := by
  unfold cCall at e
  obtain ⟨hc, e⟩ := og e
  simp only [Bool.and_eq_true] at hc
  obtain ⟨⟨hg, hp⟩, _⟩ := hc
  have hG := gl_of g hg
  obtain ⟨p1, p2, p3⟩ := plB_ok hp
  cases q : C.gl.lookup x with
  | none => rw [q] at e; cases e
  | some z =>
    rw [q] at e
    have gz := g.gl x z q
    cases z with
    | fn F n sh => exact cFn_ok g h gz hG p1 e
    | bi b => cases b with
      | isin => exact cIsi_ok g h gz hG e
      | _ => exact cBif_ok g h gz hG e
    | val d => cases e
    | ty t => cases e
    | er c fs ex => cases e
    | tb kvs => cases e
    | cl I => cases e
end

/-! ### what is walked -/
def cI (C : Cfg) (ce : CE) (sc : Scope) (tg iter : Expr) : Option SI' := match iter with
  | .Call (.Name x p) args [] pos => if (glB sc x && plB x && (ixOf C.N x).isNone) = true then (match C.gl.lookup x with
    | some (.bi .range) => (match args with
      | [a] => (cA (cPk C ce sc) [a]).bind fun ga => some (sRange1 ga)
      | [a, b] => (cA (cPk C ce sc) [a, b]).bind fun ga => some (sRange2 ga)
      | _ => none)
    | some (.bi .enum) => (match args, tg with
      | [a], .Tuple _ _ _ => (cA (ce sc) [a]).bind fun ga => some (sEnumA ga)
      | _, _ => none)
    | some (.bi .zip) => (match args, tg with
      | [a, b], .Tuple _ _ _ => (cA (ce sc) [a, b]).bind fun ga => some (sZip ga)
      | _, _ => none)
    | _ => (ce sc (.Call (.Name x p) args [] pos)).bind fun f => some (sItems f)) else (ce sc (.Call (.Name x p) args [] pos)).bind fun f => some (sItems f)
  | e => (ce sc e).bind fun f => some (sItems f)
section
variable {G : Gx} {X : Cx} {W : WX} {C : Cfg} {sc lc : Scope}
theorem cI_ok (g : Good G C sc lc X W) {ce : CE} (h : ∀ e f, ce sc e = some f → JE G X W e f) {tg iter : Expr} {f : SI'} (e : cI C ce sc tg iter = some f) : JI G X W tg iter f := by
  have gen : ∀ {i : Expr}, ((ce sc i).bind fun f => some (sItems f)) = some f → JI G X W tg i f := fun e => by
    obtain ⟨f1, e1, e⟩ := ob e
    cases e
    exact ji_items g.K (h _ _ e1)
  unfold cI at e
  split at e
  · rename_i x p args pos
    split at e
    · rename_i hc
      simp only [Bool.and_eq_true] at hc
      have hG := gl_of g hc.1.1
      split at e
      · rename_i q
        obtain ⟨hm, hn⟩ := g.gl x _ q
        obtain rfl : "range" = x := hn
        split at e
        · rename_i a
          obtain ⟨ga, e1, e⟩ := ob e
          cases e
          have st := cA_star e1
          simp only [List.all_cons, Bool.and_eq_true, Bool.not_eq_true'] at st
          exact ji_range1 hG hm (cA_ok (fun e f q => cPk_ok g h q) e1) (star_plain st.1)
        · rename_i a b
          obtain ⟨ga, e1, e⟩ := ob e
          cases e
          have st := cA_star e1
          simp only [List.all_cons, Bool.and_eq_true, Bool.not_eq_true'] at st
          exact ji_range2 hG hm (cA_ok (fun e f q => cPk_ok g h q) e1) (by rw [star_plain st.1, star_plain st.2.1]; rfl) (star_plain st.2.1)
        · cases e
      · rename_i q
        obtain ⟨hm, hn⟩ := g.gl x _ q
        obtain rfl : "enumerate" = x := hn
        split at e
        · rename_i a _ _ _
          obtain ⟨ga, e1, e⟩ := ob e
          cases e
          have st := cA_star e1
          simp only [List.all_cons, Bool.and_eq_true, Bool.not_eq_true'] at st
          exact ji_enumA g.K hG hm (cA_ok h e1) (star_plain st.1)
        · cases e
      · rename_i q
        obtain ⟨hm, hn⟩ := g.gl x _ q
        obtain rfl : "zip" = x := hn
        split at e
        · rename_i a b _ _ _
          obtain ⟨ga, e1, e⟩ := ob e
          cases e
          have st := cA_star e1
          simp only [List.all_cons, Bool.and_eq_true, Bool.not_eq_true'] at st
          refine ji_zip g.K hG hm (cA_ok h e1) (star_plain st.1) (star_all ?_)
          simp [st.2.1]
        · cases e
      · exact gen e
    · exact gen e
  · exact gen e
end

/-! ### list comprehensions -/
def ownOf (N : List Str) (scope : Scope) : List (Str × Nat) := scope.names.filterMap fun (n, k) => match k with
  | .local => (ixOf N n).map fun i => (n, i)
  | .cell => (ixOf N n).map fun i => (n, i)
  | _ => none
def cIfs (ct : Expr → Option ST) : List Expr → Option ST
  | [] => some (fun _ ms => .ok true ms)
  | [c] => ct c
  | _ => none
/-- (source, the block's slots, target, test, element) -/
noncomputable def cLc (mu : Bool) (C : Cfg) (ce : CE) (ct : CT) (sc : Scope) (elt tg iter : Expr) (ifs : List Expr) (scope : Scope) : Option SE :=
  if (blkC C.N sc scope (ownOf C.N scope) && !setB iter) = true then (cI C ce sc tg iter).bind fun fi => (cG C ((ownOf C.N scope).map (·.2)) scope 10 tg).bind fun gt => (cIfs (ct (relS scope sc)) ifs).bind fun tt => (ce (relS scope sc) elt).bind fun fe =>
    some (cutM mu (sLcG mu fi ((ownOf C.N scope).map (·.2)) gt tt fe)) else none
section
variable {G : Gx} {X : Cx} {W : WX} {C : Cfg} {sc lc : Scope}
theorem Callee.blk {x : Str} {F : SF} {n : Nat} {sh : List Shape} (c : Callee G X x F n sh) (X' : Cx) (h1 : X'.prog = X.prog) (h2 : X'.w = X.w) (h3 : X'.K = X.K) (h4 : X'.mg = X.mg) (h5 : X'.base = X.base) (h6 : X'.A = X.A) : Callee G X' x F n sh := by
  obtain ⟨ex⟩ := c
  refine ⟨?_⟩
  rw [h1, h2, h3, h4, h5, h6]
  exact ex
theorem GlOk.blk {x : Str} {v : GV} (c : GlOk G X x v) (X' : Cx) (h1 : X'.prog = X.prog) (h2 : X'.w = X.w) (h3 : X'.K = X.K) (h4 : X'.mg = X.mg) (h5 : X'.base = X.base) (h6 : X'.A = X.A) : GlOk G X' x v := by
  cases v with
  | fn F n sh => exact Callee.blk c X' h1 h2 h3 h4 h5 h6
  | val d => obtain ⟨u, v, a, b, c⟩ := c; exact ⟨u, v, by rw [h4]; exact a, b, c⟩
  | bi b => exact ⟨by rw [h4]; exact c.1, c.2⟩
  | ty t => exact ⟨by rw [h4]; exact c.1, c.2⟩
  | er c' fs ex => exact ⟨by unfold EGl; rw [h1, h2, h3, h4, h5, h6]; exact c.1, by rw [h3]; exact c.2⟩
  | tb kvs => unfold GlOk; rw [h2, h3, h4]; exact c
  | cl I => exact ClOk.blk c h1 h2 h3 h4 h5 h6
theorem Good.blk (g : Good G C sc lc X W) (s : Shared) (H : Hp) (scope : Scope) (cl : List (Str × Addr)) (Ca : Addr) (fp : List Addr) : Good G C (relS scope sc) scope (X.blk s H scope (compEnvC scope cl Ca X.env) fp) W0 where
  K := g.K
  N := g.N
  nd := g.nd
  sc := by
    show relabel scope X.env = relS scope sc
    rw [← g.sc]; rfl
  calm := g.calm
  un := g.un
  un2 := g.un2
  gd := g.gd
  tk := takes0
  st := fun x h => by
    have hk : ∀ k, k ≠ NameKind.free → scope.names.lookup x = some k → (relabel scope X.env).names.lookup x = some k := fun k hk e => by
      have : relabel scope X.env = relS scope X.env.scope := rfl
      rw [this]
      exact lookup_relS_keep hk e
    rcases locB_ok h with e | e
    · exact ⟨.inl (hk _ (by simp) e), .inr (hk _ (by simp) e)⟩
    · exact ⟨.inr (hk _ (by simp) e), .inl (by show (scope.names.lookup x == some .cell) = true; rw [e]; rfl)⟩
  gl := fun x v e => (g.gl x v e).blk _ rfl rfl rfl rfl rfl rfl
/-- what is known of a compiler: in every good place it tells the truth -/
structure Snd (G : Gx) (C : Cfg) (ce : CE) (ct : CT) : Prop where
  e : ∀ (sc lc : Scope) (X : Cx) (W : WX), Good G C sc lc X W → ∀ e f, ce sc e = some f → JE G X W e f
  t : ∀ (sc lc : Scope) (X : Cx) (W : WX), Good G C sc lc X W → ∀ e f, ct sc e = some f → JT G X W e f
theorem cLc_parts {mu : Bool} (g : Good G C sc lc X W) {ce : CE} {ct : CT} (h : Snd G C ce ct) {elt tg iter : Expr} {ifs : List Expr} {scope : Scope} {f : SE} (e : cLc mu C ce ct sc elt tg iter ifs scope = some f) :
    ∃ fi gt tt fe, f = cutM mu (sLcG mu fi ((ownOf C.N scope).map (·.2)) gt tt fe) ∧ JI G X W tg iter fi ∧ BlkOk X.N X.env.scope scope (ownOf C.N scope) ∧ setB iter = false ∧
      (∀ (s : Shared) (H : Hp) (Ca : Addr) (cl : List (Str × Addr)) (fp : List Addr), PG (X.blk s H scope (compEnvC scope cl Ca X.env) fp) tg (tG G ((ownOf C.N scope).map (·.2)) gt)) ∧
      (∀ (s : Shared) (H : Hp) (Ca : Addr) (cl : List (Str × Addr)) (fp : List Addr), PTs (X.blk s H scope (compEnvC scope cl Ca X.env) fp) ifs (tT G W0 tt)) ∧
      (∀ (s : Shared) (H : Hp) (Ca : Addr) (cl : List (Str × Addr)) (fp : List Addr), PE (X.blk s H scope (compEnvC scope cl Ca X.env) fp) elt (tE G W0 fe)) := by
  unfold cLc at e
  obtain ⟨hc, e⟩ := og e
  simp only [Bool.and_eq_true, Bool.not_eq_true'] at hc
  obtain ⟨fi, e1, e⟩ := ob e
  obtain ⟨gt, e2, e⟩ := ob e
  obtain ⟨tt, e3, e⟩ := ob e
  obtain ⟨fe, e4, e⟩ := ob e
  cases e
  refine ⟨fi, gt, tt, fe, rfl, cI_ok g (h.e sc lc X W g) e1, ?_, hc.2, fun s H Ca cl fp => cG_ok (g.blk s H scope cl Ca fp) e2, fun s H Ca cl fp => ?_, fun s H Ca cl fp => h.e _ _ _ _ (g.blk s H scope cl Ca fp) _ _ e4⟩
  · rw [g.N, g.sc]; exact blkOk_by hc.1
  · cases ifs with
    | nil => cases e3; exact sYes_ok
    | cons c cs => cases cs with
      | nil => exact pts_one (h.t _ _ _ _ (g.blk s H scope cl Ca fp) _ _ e3)
      | cons _ _ => cases e3
theorem cLc_ok {mu : Bool} (g : Good G C sc lc X W) {ce : CE} {ct : CT} (h : Snd G C ce ct) {elt tg iter : Expr} {ifs : List Expr} {scope : Scope} {f : SE} {pos : Pos} (e : cLc mu C ce ct sc elt tg iter ifs scope = some f) : JE G X W (.ListComp elt [⟨tg, iter, ifs, 0⟩] scope pos) f := by
  obtain ⟨fi, gt, tt, fe, rfl, ji, bk, hs, pg, pt, pe⟩ := cLc_parts g h e
  refine je_cutM ?_
  exact PE.imp (pe_lc g.calm (by rw [g.N]; exact g.nd) ji bk pg pt pe (fun x => noFold hs x)) fun σ H Q h => lc_readG h
theorem cLc_set {mu : Bool} (g : Good G C sc lc X W) {ce : CE} {ct : CT} (h : Snd G C ce ct) {elt tg iter : Expr} {ifs : List Expr} {scope : Scope} {f : SE} {pos spos py : Pos} {y : Str} {i : Nat} (e : cLc mu C ce ct sc elt tg iter ifs scope = some f) (hi : ixOf C.N y = some i) (hyl : sc.names.lookup y = some .local)
    (hsw : swapsWith (.ListComp elt [⟨tg, iter, ifs, 0⟩] scope pos) (some (.Name y py)) spos.line X.env = pure true) : JS G X W (.Assign [.Name y py] (.ListComp elt [⟨tg, iter, ifs, 0⟩] scope pos) spos) (sAsg f (gNm i)) := by
  obtain ⟨fi, gt, tt, fe, rfl, ji, bk, hs, pg, pt, pe⟩ := cLc_parts g h e
  refine js_cutM ?_
  refine PS.imp (ps_setLc g.calm (by rw [g.N]; exact g.nd) (by rw [g.N]; exact ixOf_ok hi) (by rw [g.sc]; exact hyl) hsw ji bk pg pt pe (fun x => noFold hs x)) fun K σ H h => ?_
  have h' := asg_out (ws := [i]) (t := tLc _ _ _ _ _) (fun Q q => lc_readG q) h
  obtain ⟨w, env, ms, at_, out⟩ := h'
  refine ⟨w, env, ms, at_, ?_⟩
  refine Out.imp out (fun J H1 q => ?_) (fun _ _ _ h => h)
  intro Dd hD
  obtain ⟨Wv, h0, hst⟩ := q Dd hD
  refine ⟨Wv, h0, fun i' m H2 hw => ?_⟩
  rcases hst i' m H2 hw with ⟨z1, z2⟩ | z
  · refine .inl ⟨z1, ?_⟩
    obtain ⟨w2, env2, ms2, d2, env2', a2, r2, e2, k2⟩ := z2
    cases e2
    exact k2 _ ⟨a2.e.set i r2, a2.s⟩ (Chg.set (by simp) _)
  · exact .inr z
end
end DL

namespace DL
open PySem L2

/-! ### expressions -/
noncomputable def stepE (C : Cfg) (ce : CE) (ct : CT) (sc : Scope) : Expr → Option SE
  | .Constant (.int i) _ _ => some (sCst (.int i))
  | .Constant (.bool b) _ _ => some (sCst (.bl b))
  | .Constant .none _ _ => some (sCst .non)
  | .Constant (.str x) _ _ => some (sCst (.str x))
  | .Name x _ => cName C false sc x
  | .BinOp a op b _ => (bop op).bind fun o => (cPk C ce sc a).bind fun f => (cPk C ce sc b).bind fun g => some (sBin o f g)
  | .Compare a [op] [b] _ => if (!setB b) = true then (cop C op).bind fun o => (cPk C ce sc a).bind fun f => (cPk C ce sc b).bind fun g => some (sBin o f g) else none
  | .Compare a [op, op'] [b, c] _ => if (!setB c) = true then (cop C op).bind fun o => (cop C op').bind fun o' => (cPk C ce sc a).bind fun f => (cPk C ce sc b).bind fun g => (cPk C ce sc c).bind fun h => some (sChain o o' f g h) else none
  | .BoolOp op es _ => cV (ce sc) op es
  | .UnaryOp .Not a _ => (ce sc a).bind fun f => some (sNotV f)
  | .UnaryOp .USub a _ => (ce sc a).bind fun f => some (sNeg f)
  | .IfExp c a b _ => (ct sc c).bind fun t => (ce sc a).bind fun f => (ce sc b).bind fun g => some (sIte t f g)
  | .Tuple es _ _ => (cA (ce sc) es).bind fun g => some (sTup g)
  | .List es _ => (cA (ce sc) es).bind fun g => some (sLst g)
  | .Subscript a (.Slice lo hi none _) _ => (cPk C ce sc a).bind fun f => (cO (ce sc) lo).bind fun l => (cO (ce sc) hi).bind fun h => some (sSlc f l h)
  | .Subscript a b _ => if (!sliceB b) = true then (cPk C ce sc a).bind fun f => (cPk C ce sc b).bind fun g => some (sBin atD f g) else none
  | .Call (.Name x _) args kws _ => cCall C ce sc x args kws
  | .ListComp elt [⟨tg, iter, ifs, 0⟩] scope _ => cLc false C ce ct sc elt tg iter ifs scope
  | _ => none
noncomputable def stepE' (C : Cfg) (ce : CE) (ct : CT) (sc : Scope) (e : Expr) : Option SE := match C.ex ce ct sc e with
  | some f => some f
  | none => stepE C ce ct sc e
/-- what the hooks must keep -/
structure ExOk (G : Gx) (C : Cfg) : Prop where
  e : ∀ (ce : CE) (ct : CT), Snd G C ce ct → ∀ (sc lc : Scope) (X : Cx) (W : WX), Good G C sc lc X W → ∀ e f, C.ex ce ct sc e = some f → JE G X W e f
section
variable {G : Gx} {X : Cx} {W : WX} {C : Cfg} {sc lc : Scope}
theorem stepE_ok {ce : CE} {ct : CT} (h : Snd G C ce ct) (g : Good G C sc lc X W) {e : Expr} {f : SE} (q : stepE C ce ct sc e = some f) : JE G X W e f := by
  have he := h.e sc lc X W g
  have ht := h.t sc lc X W g
  have hpk : ∀ e f, cPk C ce sc e = some f → JE G X W e f := fun e f q => cPk_ok g he q
  unfold stepE at q
  split at q
  · cases q; exact je_val pe_int fun w => .int _
  · cases q; exact je_val pe_bl fun w => .bl _
  · cases q; exact je_val pe_non fun w => .non
  · cases q; exact je_val pe_str fun w => .str _
  · exact cName_ok g q
  · obtain ⟨o, e1, q⟩ := ob q
    obtain ⟨f1, e2, q⟩ := ob q
    obtain ⟨f2, e3, q⟩ := ob q
    cases q
    exact je_bin (bop_ok g e1) (hpk _ _ e2) (hpk _ _ e3)
  · obtain ⟨hs, q⟩ := og q
    obtain ⟨o, e1, q⟩ := ob q
    obtain ⟨f1, e2, q⟩ := ob q
    obtain ⟨f2, e3, q⟩ := ob q
    cases q
    exact je_cmp (cop_ok g e1) (hpk _ _ e2) (hpk _ _ e3) (noSet (by simpa using hs))
  · obtain ⟨hs, q⟩ := og q
    obtain ⟨o, e1, q⟩ := ob q
    obtain ⟨o', e1', q⟩ := ob q
    obtain ⟨f1, e2, q⟩ := ob q
    obtain ⟨f2, e3, q⟩ := ob q
    obtain ⟨f3, e4, q⟩ := ob q
    cases q
    exact je_chain (cop_ok g e1) (cop_ok g e1') (hpk _ _ e2) (hpk _ _ e3) (hpk _ _ e4) (noSet2 (by simpa using hs))
  · exact je_bool (cV_ok g.K he q)
  · obtain ⟨f1, e1, q⟩ := ob q
    cases q; exact je_not g.K (he _ _ e1)
  · obtain ⟨f1, e1, q⟩ := ob q
    cases q; exact je_neg (he _ _ e1)
  · obtain ⟨t, e1, q⟩ := ob q
    obtain ⟨f1, e2, q⟩ := ob q
    obtain ⟨f2, e3, q⟩ := ob q
    cases q
    exact je_ite (ht _ _ e1) (he _ _ e2) (he _ _ e3)
  · obtain ⟨f1, e1, q⟩ := ob q
    cases q; exact je_tup (cA_ok he e1)
  · obtain ⟨f1, e1, q⟩ := ob q
    cases q; exact je_lst (cA_ok he e1)
  · obtain ⟨f1, e1, q⟩ := ob q
    obtain ⟨f2, e2, q⟩ := ob q
    obtain ⟨f3, e3, q⟩ := ob q
    cases q; exact je_slc g.K (hpk _ _ e1) (cO_ok he e2) (cO_ok he e3)
  · obtain ⟨hs, q⟩ := og q
    obtain ⟨f1, e1, q⟩ := ob q
    obtain ⟨f2, e2, q⟩ := ob q
    cases q
    exact je_at g.K (by have := g.un; omega) (hpk _ _ e1) (hpk _ _ e2) (plainIx (by simpa using hs))
  · exact cCall_ok g he q
  · exact cLc_ok g h q
  · cases q

/-! ### tests -/
noncomputable def stepT (C : Cfg) (ce : CE) (ct : CT) (sc : Scope) : Expr → Option ST
  | .Compare a [op] [b] _ => if (!setB b) = true then (cop C op).bind fun o => (cPk C ce sc a).bind fun f => (cPk C ce sc b).bind fun g => some (sTst (sBin o f g)) else none
  | .Compare a [op, op'] [b, c] _ => if (!setB c) = true then (cop C op).bind fun o => (cop C op').bind fun o' => (cPk C ce sc a).bind fun f => (cPk C ce sc b).bind fun g => (cPk C ce sc c).bind fun h => some (sTst (sChain o o' f g h)) else none
  | .BoolOp op es _ => cW (ct sc) op es
  | .UnaryOp .Not a _ => (ct sc a).bind fun f => some (sNotT f)
  | e => if truB e = true then (cPk C ce sc e).bind fun f => some (sTru f) else none
theorem stepT_ok {ce : CE} {ct : CT} (h : Snd G C ce ct) (g : Good G C sc lc X W) {e : Expr} {f : ST} (q : stepT C ce ct sc e = some f) : JT G X W e f := by
  have he := h.e sc lc X W g
  have ht := h.t sc lc X W g
  have hpk : ∀ e f, cPk C ce sc e = some f → JE G X W e f := fun e f q => cPk_ok g he q
  unfold stepT at q
  split at q
  · obtain ⟨hs, q⟩ := og q
    obtain ⟨o, e1, q⟩ := ob q
    obtain ⟨f1, e2, q⟩ := ob q
    obtain ⟨f2, e3, q⟩ := ob q
    cases q
    exact jt_cmp (cop_ok g e1) (hpk _ _ e2) (hpk _ _ e3) (noSet (by simpa using hs))
  · obtain ⟨hs, q⟩ := og q
    obtain ⟨o, e1, q⟩ := ob q
    obtain ⟨o', e1', q⟩ := ob q
    obtain ⟨f1, e2, q⟩ := ob q
    obtain ⟨f2, e3, q⟩ := ob q
    obtain ⟨f3, e4, q⟩ := ob q
    cases q
    exact jt_chain (cop_ok g e1) (cop_ok g e1') (hpk _ _ e2) (hpk _ _ e3) (hpk _ _ e4) (noSet2 (by simpa using hs))
  · exact jt_bool (cW_ok ht q)
  · obtain ⟨f1, e1, q⟩ := ob q
    cases q; exact jt_not (ht _ _ e1)
  · obtain ⟨hs, q⟩ := og q
    obtain ⟨f1, e1, q⟩ := ob q
    cases q; exact jt_val g.K (hpk _ _ e1) (truB_ok hs)
end
/-- the compilers by depth -/
noncomputable def cp (C : Cfg) : Nat → CE × CT
  | 0 => (fun _ _ => none, fun _ _ => none)
  | n + 1 => (stepE' C (cp C n).1 (cp C n).2, stepT C (cp C n).1 (cp C n).2)
theorem cp_ok {G : Gx} {C : Cfg} (hx : ExOk G C) : ∀ n : Nat, Snd G C (cp C n).1 (cp C n).2
  | 0 => ⟨fun _ _ _ _ _ _ _ q => (by cases q), fun _ _ _ _ _ _ _ q => (by cases q)⟩
  | n + 1 => by
    have h := cp_ok hx n
    refine ⟨fun sc lc X W g e f q => ?_, fun sc lc X W g e f q => stepT_ok h g q⟩
    have q' : stepE' C (cp C n).1 (cp C n).2 sc e = some f := q
    unfold stepE' at q'
    split at q'
    · rename_i f' hf
      cases q'
      exact hx.e _ _ h sc lc X W g e f hf
    · exact stepE_ok h g q'

/-! ### statements -/
structure GoodS (G : Gx) (C : Cfg) (scp : Scope) (X : Cx) (W : WX) : Prop extends Good G C scp scp X W where
  po : PassesOwn (model X.prog X.w) X.A X.env X.xe
  kd : scp.kind = .function
  stk : X.stack = X.env :: X.outer
  fr : X.env.frame = some X.env.locals
structure SndS (G : Gx) (C : Cfg) (cs : CSs) : Prop where
  s : ∀ (sc : Scope) (X : Cx) (W : WX), GoodS G C sc X W → ∀ ss f, cs sc ss = some f → JSs G X W ss f

theorem blockFn {env : Env} {sc : Scope} (he : env.scope = sc) (hk : sc.kind = .function) : env.blockKind = .function := by
  unfold Env.blockKind
  rw [he, hk]
  rfl
def isLoc (sc : Scope) (x : Str) : Bool := sc.names.lookup x == some .local
/-- a, b = x, y: swapped (some true), plain (some false) -/
def par2 (sc : Scope) (x y : Str) (px py : Pos) (a b : Expr) : Option Bool :=
  if (starB a || starB b) = true then none else
  if (isLoc sc x && isLoc sc y && px.line == py.line && !(x == y)) = true then (if (foldedForSure 8 a && foldedForSure 8 b) = true then some false else if (constantsAlone 8 a && constantsAlone 8 b) = true then none else some true) else
  if (isLoc sc x && isLoc sc y) = true then none else some false
def par3 (sc : Scope) (x y z : Str) (px py pz : Pos) (a b c : Expr) : Option Bool :=
  if (starB a || starB b || starB c) = true then none else
  if (isLoc sc x && isLoc sc y && isLoc sc z && px.line == py.line && px.line == pz.line && !(x == y) && !(x == z) && !(y == z)) = true then (if (foldedForSure 8 a && foldedForSure 8 b && foldedForSure 8 c) = true then some false else if (constantsAlone 8 a && constantsAlone 8 b && constantsAlone 8 c) = true then none else some true) else
  if (isLoc sc x && isLoc sc y && isLoc sc z) = true then none else some false
def isStar : Expr → Bool
  | .Starred .. => true
  | _ => false
theorem star1 {e : Expr} (h : starB e = false) : isStar e = false := by
  cases e <;> first | rfl | (exact absurd h (by simp [starB]))
theorem sw2 {env : Env} {x y : Str} {px py : Pos} {a b : Expr} {k k2 : Nat} {p p2 : Pos} (hk : env.blockKind = .function) (ha : starB a = false) (hb : starB b = false) :
    swappedStores [.Tuple [.Name x px, .Name y py] k p] (.Tuple [a, b] k2 p2) env = (
      if (isLoc env.scope x && isLoc env.scope y && py.line == px.line && !(x == y)) = true then (if (foldedForSure 8 a && foldedForSure 8 b) = true then pure none else if (constantsAlone 8 a && constantsAlone 8 b) = true then (do unsupported "assign.tuple-of-constant-expressions:order-of-the-stores"; pure (some [x, y])) else pure (some [x, y])) else pure none) := by
  unfold swappedStores
  simp only [pure_bind, hk]
  have hst : ([a, b].any fun | .Starred .. => true | _ => false) = false := by
    show (isStar a || (isStar b || false)) = false
    rw [star1 ha, star1 hb]; rfl
  simp only [List.length_cons, List.length_nil, List.all_cons, List.all_nil, Bool.and_true, List.head?_cons, Option.map_some, Option.getD_some]
  show (if (!(2 == 2 || 2 == 3) || 2 != 2 || false) = true then _ else if ([a, b].any fun | .Starred .. => true | _ => false) = true then _ else _) = _
  rw [hst]
  simp only [Expr.pos, List.filterMap_cons, List.filterMap_nil, beq_self_eq_true, Bool.and_true]
  have k1 : (env.kindOf x == some .local) = isLoc env.scope x := rfl
  have k2 : (env.kindOf y == some .local) = isLoc env.scope y := rfl
  rw [k1, k2]
  by_cases h1 : isLoc env.scope x = true <;> by_cases h2 : isLoc env.scope y = true <;> by_cases h3 : (py.line == px.line) = true <;> (try simp only [Bool.not_eq_true] at h1 h2 h3) <;> simp [h1, h2, h3]
  by_cases e : x = y
  · subst e; simp [List.eraseDups_cons]
  · have e' : (y == x) = false := by simpa using fun z => e z.symm
    simp [List.eraseDups_cons, e, e']
end DL

namespace DL
open PySem L2

theorem sw3 {env : Env} {x y z : Str} {px py pz : Pos} {a b c : Expr} {k k2 : Nat} {p p2 : Pos} (hk : env.blockKind = .function) (ha : starB a = false) (hb : starB b = false) (hc : starB c = false)
    (l1 : isLoc env.scope x = true) (l2 : isLoc env.scope y = true) (l3 : isLoc env.scope z = true) (e1 : px.line = py.line) (e2 : px.line = pz.line) (n1 : x ≠ y) (n2 : x ≠ z) (n3 : y ≠ z) :
    swappedStores [.Tuple [.Name x px, .Name y py, .Name z pz] k p] (.Tuple [a, b, c] k2 p2) env = (
      if (foldedForSure 8 a && (foldedForSure 8 b && foldedForSure 8 c)) = true then pure none else if (constantsAlone 8 a && (constantsAlone 8 b && constantsAlone 8 c)) = true then (do unsupported "assign.tuple-of-constant-expressions:order-of-the-stores"; pure (some [x, y, z])) else pure (some [x, y, z])) := by
  unfold swappedStores
  simp only [pure_bind, hk]
  have hst : ([a, b, c].any fun | .Starred .. => true | _ => false) = false := by
    show (isStar a || (isStar b || (isStar c || false))) = false
    rw [star1 ha, star1 hb, star1 hc]; rfl
  simp only [List.length_cons, List.length_nil, List.all_cons, List.all_nil, Bool.and_true, List.head?_cons, Option.map_some, Option.getD_some]
  show (if (!(3 == 2 || 3 == 3) || 3 != 3 || false) = true then _ else if ([a, b, c].any fun | .Starred .. => true | _ => false) = true then _ else _) = _
  rw [hst]
  simp only [Expr.pos, List.filterMap_cons, List.filterMap_nil, beq_self_eq_true, Bool.and_true]
  have k1 : (env.kindOf x == some .local) = isLoc env.scope x := rfl
  have k2 : (env.kindOf y == some .local) = isLoc env.scope y := rfl
  have k3 : (env.kindOf z == some .local) = isLoc env.scope z := rfl
  rw [k1, k2, k3]
  have e1' : (py.line == px.line) = true := by simp [e1]
  have e2' : (pz.line == px.line) = true := by simp [e2]
  have n1' : (y == x) = false := by simpa using fun z => n1 z.symm
  have n2' : (z == x) = false := by simpa using fun q => n2 q.symm
  have n3' : (z == y) = false := by simpa using fun q => n3 q.symm
  simp [l1, l2, l3, e1', e2', List.eraseDups_cons, n1', n2', n3']
theorem sw3n {env : Env} {x y z : Str} {px py pz : Pos} {a b c : Expr} {k k2 : Nat} {p p2 : Pos} (hk : env.blockKind = .function) (ha : starB a = false) (hb : starB b = false) (hc : starB c = false)
    (l1 : (isLoc env.scope x && isLoc env.scope y && isLoc env.scope z) = false) :
    swappedStores [.Tuple [.Name x px, .Name y py, .Name z pz] k p] (.Tuple [a, b, c] k2 p2) env = pure none := by
  unfold swappedStores
  simp only [pure_bind, hk]
  have hst : ([a, b, c].any fun | .Starred .. => true | _ => false) = false := by
    show (isStar a || (isStar b || (isStar c || false))) = false
    rw [star1 ha, star1 hb, star1 hc]; rfl
  simp only [List.length_cons, List.length_nil, List.all_cons, List.all_nil, Bool.and_true, List.head?_cons, Option.map_some, Option.getD_some]
  show (if (!(3 == 2 || 3 == 3) || 3 != 3 || false) = true then _ else if ([a, b, c].any fun | .Starred .. => true | _ => false) = true then _ else _) = _
  rw [hst]
  simp only [Expr.pos, List.filterMap_cons, List.filterMap_nil, beq_self_eq_true, Bool.and_true]
  have k1 : (env.kindOf x == some .local) = isLoc env.scope x := rfl
  have k2 : (env.kindOf y == some .local) = isLoc env.scope y := rfl
  have k3 : (env.kindOf z == some .local) = isLoc env.scope z := rfl
  rw [k1, k2, k3]
  by_cases h1 : isLoc env.scope x = true <;> by_cases h2 : isLoc env.scope y = true <;> by_cases h3 : isLoc env.scope z = true <;> by_cases h4 : (py.line == px.line) = true <;> by_cases h5 : (pz.line == px.line) = true <;> (try simp only [Bool.not_eq_true] at h1 h2 h3 h4 h5) <;> first | (rw [h1, h2, h3] at l1; cases l1; done) | simp [h1, h2, h3, h4, h5]

/-! ### statements -/
theorem sole {t v : Expr} {l : Nat} {env : Env} : swapsWithSole [t] v l env = swapsWith v (some t) l env := by
  unfold swapsWithSole; rfl
theorem noSole {t e : Expr} {l : Nat} {env : Env} (h : compB e = false) : swapsWithSole [t] e l env = pure false := by rw [sole]; exact noSwap h
def tupB : Expr → Bool
  | .Tuple _ _ _ => true
  | _ => false
theorem sw_other {env : Env} {tg a : Expr} (h : tupB a = false) : swappedStores [tg] a env = pure none := by
  cases a with
  | Tuple _ _ _ => cases h
  | _ => cases tg <;> rfl
theorem sw_name {env : Env} {x : Str} {p : Pos} {a : Expr} : swappedStores [.Name x p] a env = pure none := by
  cases a <;> rfl
theorem sw_sub {env : Env} {o i : Expr} {p : Pos} {a : Expr} : swappedStores [.Subscript o i p] a env = pure none := by
  cases a <;> rfl
/-- the value for a target: a mutable list where the name's list is changed later -/
def cMt (C : Cfg) (ce : CE) (sc : Scope) (x : Str) (e : Expr) : Option SE := match e with
  | .List es p => if C.mt.contains x = true then (cA (ce sc) es).bind fun g => some (sNewL g) else ce sc (.List es p)
  | e => ce sc e
def cAm (C : Cfg) (ce : CE) (sc : Scope) : List Str → List Expr → Option SA
  | [], [] => some sNil
  | x :: xs, e :: es => if (!starB e) = true then (cMt C ce sc x e).bind fun f => (cAm C ce sc xs es).bind fun g => some (sCons f g) else none
  | _, _ => none
section
variable {G : Gx} {X : Cx} {W : WX} {C : Cfg} {sc lc : Scope}
theorem cMt_ok {ce : CE} (h : ∀ e f, ce sc e = some f → JE G X W e f) {x : Str} {e : Expr} {f : SE} (q : cMt C ce sc x e = some f) : JE G X W e f := by
  cases e with
  | List es p =>
    simp only [cMt] at q
    split at q
    · obtain ⟨g, e1, q⟩ := ob q
      cases q
      exact je_newL (cA_ok h e1)
    · exact h _ _ q
  | _ => exact h _ _ q
theorem cAm_ok {ce : CE} (h : ∀ e f, ce sc e = some f → JE G X W e f) : ∀ {xs : List Str} {es : List Expr} {g : SA}, cAm C ce sc xs es = some g → JA G X W es g
  | [], [], g, e => by cases e; exact ja_nil
  | x :: xs, e :: es, g, q => by
    simp only [cAm] at q
    obtain ⟨hs, q⟩ := og q
    obtain ⟨f, e1, q⟩ := ob q
    obtain ⟨g', e2, q⟩ := ob q
    cases q
    exact ja_cons (cMt_ok h e1) (cAm_ok h e2) (star_plain (by simpa using hs))
  | [], _ :: _, _, e => by cases e
  | _ :: _, [], _, e => by cases e
end
/-- the slots of a target -/
def tgIx (C : Cfg) : Nat → Expr → List Nat
  | 0, _ => []
  | n + 1, .Name x _ => (ixOf C.N x).toList
  | n + 1, .Tuple es _ _ => es.flatMap (tgIx C n)
  | _, _ => []
def cAsg (C : Cfg) (ce : CE) (sc : Scope) (tg a : Expr) : Option SS := (ce sc a).bind fun f => (cG C (tgIx C 5 tg) sc 10 tg).bind fun g => if (!compB a && !starB tg) = true then some (sAsg f g) else none
section
variable {G : Gx} {X : Cx} {W : WX} {C : Cfg} {sc lc : Scope}
theorem cAsg_ok (g : Good G C sc sc X W) {ce : CE} (h : ∀ e f, ce sc e = some f → JE G X W e f) {tg a : Expr} {f : SS} {pos : Pos} (hw : swappedStores [tg] a X.env = pure none) (e : cAsg C ce sc tg a = some f) : JS G X W (.Assign [tg] a pos) f := by
  unfold cAsg at e
  obtain ⟨fa, e1, e⟩ := ob e
  obtain ⟨gt, e2, e⟩ := ob e
  obtain ⟨hc, e⟩ := og e
  cases e
  simp only [Bool.and_eq_true, Bool.not_eq_true'] at hc
  refine js_asg (h _ _ e1) (cG_ok g e2) (noSole hc.1) hw ?_
  rw [asgEach_plain hc.2]
  rfl
end
def swB (sc : Scope) (t : Str) (p vp : Pos) (scope : Scope) : Bool := isLoc sc t && p.line == vp.line && !(scope.names.any fun (n, k) => n == t && (k == .local || k == .cell))
theorem swB_ok {env : Env} {sc : Scope} {t : Str} {p vp : Pos} {scope : Scope} {elt : Expr} {gens : List Comprehension} {l : Nat} (he : env.scope = sc) (hk : sc.kind = .function) : swapsWith (.ListComp elt gens scope vp) (some (.Name t p)) l env = pure (swB sc t p vp scope) := by
  unfold swapsWith swB isLoc
  have hb := blockFn he hk
  simp only [pure_bind, hb]
  have : env.kindOf t = sc.names.lookup t := by unfold Env.kindOf; rw [he]
  rw [this]
  rfl
noncomputable def assignC (C : Cfg) (ce : CE) (ct : CT) (sc : Scope) (tg a : Expr) (pos : Pos) : Option SS := match tg, a with
  | .Name x p, .ListComp elt [⟨tg', iter, ifs, 0⟩] scope vp => if (isLoc sc x) = true then (if swB sc x p vp scope = true then (ixOf C.N x).bind fun i => (cLc (C.mt.contains x) C ce ct sc elt tg' iter ifs scope).bind fun f => some (sAsg f (gNm i)) else none)
      else (cLc (C.mt.contains x) C ce ct sc elt tg' iter ifs scope).bind fun f => (cG C (tgIx C 5 (.Name x p)) sc 10 (.Name x p)).bind fun g => some (sAsg f g)
  | .Name x p, a => (cMt C ce sc x a).bind fun f => (cG C (tgIx C 5 (.Name x p)) sc 10 (.Name x p)).bind fun g => if (!compB a) = true then some (sAsg f g) else none
  | .Tuple [.Name x px, .Name y py] k p, .Tuple [u, v] k2 p2 => (match par2 sc x y px py u v with
    | some true => (ixOf C.N x).bind fun i => (ixOf C.N y).bind fun j => (cAm C ce sc [x, y] [u, v]).bind fun g => some (sPar [i, j] g)
    | some false => cAsg C ce sc (.Tuple [.Name x px, .Name y py] k p) (.Tuple [u, v] k2 p2)
    | none => none)
  | .Tuple [.Name x px, .Name y py, .Name z pz] k p, .Tuple [u, v, w] k2 p2 => (match par3 sc x y z px py pz u v w with
    | some true => (ixOf C.N x).bind fun i => (ixOf C.N y).bind fun j => (ixOf C.N z).bind fun l => (cAm C ce sc [x, y, z] [u, v, w]).bind fun g => some (sPar [i, j, l] g)
    | some false => cAsg C ce sc (.Tuple [.Name x px, .Name y py, .Name z pz] k p) (.Tuple [u, v, w] k2 p2)
    | none => none)
  | .Subscript (.Name x p1) i p2, a => if (plB x && visB sc x && !compB a && !sliceB i) = true then (ixOf C.N x).bind fun j => (ce sc a).bind fun f => (ce sc i).bind fun fi => some (sPut j fi f) else none
  | tg, a => if (!tupB a) = true then cAsg C ce sc tg a else none
theorem ix_ne {N : List Str} {x y : Str} {i j : Nat} (hx : ixOf N x = some i) (hy : ixOf N y = some j) (h : x ≠ y) : i ≠ j := fun e => by
  subst e
  have a := ixOf_ok hx
  have b := ixOf_ok hy
  rw [a] at b
  cases b
  exact h rfl
section
variable {G : Gx} {X : Cx} {W : WX} {C : Cfg} {sc lc : Scope}
theorem loc_lk (g : Good G C sc sc X W) {x : Str} (h : isLoc sc x = true) : X.env.scope.names.lookup x = some .local := by
  rw [g.sc]; simpa [isLoc] using h
theorem assignC_ok (g : GoodS G C sc X W) {ce : CE} {ct : CT} (h : Snd G C ce ct) {tg a : Expr} {f : SS} {pos : Pos} (q : assignC C ce ct sc tg a pos = some f) : JS G X W (.Assign [tg] a pos) f := by
  have he := h.e sc sc X W g.toGood
  have hbk : X.env.blockKind = .function := blockFn g.sc g.kd
  unfold assignC at q
  split at q
  · rename_i x p elt tg' iter ifs scope vp
    split at q
    · rename_i hl
      split at q
      · rename_i hsw
        obtain ⟨i, e1, q⟩ := ob q
        obtain ⟨f1, e2, q⟩ := ob q
        cases q
        exact cLc_set g.toGood h e2 e1 (by simpa [isLoc] using hl) (by rw [swB_ok g.sc g.kd, hsw])
      · cases q
    · rename_i hl
      obtain ⟨f1, e1, q⟩ := ob q
      obtain ⟨gt, e2, q⟩ := ob q
      cases q
      refine js_asg (cLc_ok g.toGood h e1) (cG_ok g.toGood e2) ?_ sw_name rfl
      rw [sole]
      rw [swB_ok g.sc g.kd]
      have : swB sc x p vp scope = false := by unfold swB; rw [Bool.eq_false_iff.mpr hl]; rfl
      rw [this]
  · rename_i x p hnot
    obtain ⟨f1, e1, q⟩ := ob q
    obtain ⟨gt, e2, q⟩ := ob q
    obtain ⟨hc, q⟩ := og q
    cases q
    exact js_asg (cMt_ok he e1) (cG_ok g.toGood e2) (noSole (by simpa using hc)) sw_name rfl
  · rename_i x px y py k p u v k2 p2
    cases q1 : par2 sc x y px py u v with
    | none => rw [q1] at q; cases q
    | some bb =>
      rw [q1] at q
      unfold par2 at q1
      split at q1
      · cases q1
      · rename_i hst
        simp only [Bool.or_eq_true, not_or, Bool.not_eq_true] at hst
        have s2 := sw2 (env := X.env) (x := x) (y := y) (px := px) (py := py) (k := k) (k2 := k2) (p := p) (p2 := p2) hbk hst.1 hst.2
        rw [g.sc] at s2
        split at q1
        · rename_i hc
          simp only [Bool.and_eq_true, beq_iff_eq, Bool.not_eq_true', beq_eq_false_iff_ne] at hc
          obtain ⟨⟨⟨c1, c2⟩, c3⟩, c4⟩ := hc
          have cnd : (isLoc sc x && isLoc sc y && py.line == px.line && !(x == y)) = true := by simp [c1, c2, c3, c4]
          rw [if_pos cnd] at s2
          split at q1
          · rename_i hf
            cases q1
            rw [if_pos hf] at s2
            exact cAsg_ok g.toGood he s2 q
          · rename_i hf
            rw [if_neg hf] at s2
            split at q1
            · cases q1
            · rename_i hcn
              cases q1
              rw [if_neg hcn] at s2
              simp only at q
              obtain ⟨i, e1, q⟩ := ob q
              obtain ⟨j, e2, q⟩ := ob q
              obtain ⟨ga, e3, q⟩ := ob q
              cases q
              exact js_par g.calm (by rw [g.N]; exact g.nd) (by rw [g.N]; exact ixOf_ok e1) (by rw [g.N]; exact ixOf_ok e2) (ix_ne e1 e2 c4) (loc_lk g.toGood c1) (loc_lk g.toGood c2) (cAm_ok he e3) s2 (noSole rfl)
        · rename_i hc
          split at q1
          · cases q1
          · rename_i hnl
            cases q1
            have cnd : ¬ (isLoc sc x && isLoc sc y && py.line == px.line && !(x == y)) = true := by
              simp only [Bool.and_eq_true] at hnl ⊢
              exact fun z => hnl z.1.1
            rw [if_neg cnd] at s2
            exact cAsg_ok g.toGood he s2 q
  · rename_i x px y py z pz k p u v w k2 p2
    cases q1 : par3 sc x y z px py pz u v w with
    | none => rw [q1] at q; cases q
    | some bb =>
      rw [q1] at q
      unfold par3 at q1
      split at q1
      · cases q1
      · rename_i hst
        simp only [Bool.or_eq_true, not_or, Bool.not_eq_true] at hst
        obtain ⟨⟨hs1, hs2⟩, hs3⟩ := hst
        split at q1
        · rename_i hc
          simp only [Bool.and_eq_true, beq_iff_eq, Bool.not_eq_true', beq_eq_false_iff_ne] at hc
          obtain ⟨⟨⟨⟨⟨⟨⟨c1, c2⟩, c3⟩, c4⟩, c5⟩, c6⟩, c7⟩, c8⟩ := hc
          have s2 := sw3 (env := X.env) (x := x) (y := y) (z := z) (px := px) (py := py) (pz := pz) (k := k) (k2 := k2) (p := p) (p2 := p2) hbk hs1 hs2 hs3 (by rw [g.sc]; exact c1) (by rw [g.sc]; exact c2) (by rw [g.sc]; exact c3) c4 c5 c6 c7 c8
          simp only [← Bool.and_assoc] at s2
          split at q1
          · rename_i hf
            cases q1
            rw [if_pos hf] at s2
            exact cAsg_ok g.toGood he s2 q
          · rename_i hf
            rw [if_neg hf] at s2
            split at q1
            · cases q1
            · rename_i hcn
              cases q1
              rw [if_neg hcn] at s2
              simp only at q
              obtain ⟨i, e1, q⟩ := ob q
              obtain ⟨j, e2, q⟩ := ob q
              obtain ⟨l, e3, q⟩ := ob q
              obtain ⟨ga, e4, q⟩ := ob q
              cases q
              exact js_par3 g.calm (by rw [g.N]; exact g.nd) (by rw [g.N]; exact ixOf_ok e1) (by rw [g.N]; exact ixOf_ok e2) (by rw [g.N]; exact ixOf_ok e3) (ix_ne e1 e2 c6) (ix_ne e1 e3 c7) (ix_ne e2 e3 c8) (loc_lk g.toGood c1) (loc_lk g.toGood c2) (loc_lk g.toGood c3) (cAm_ok he e4) s2 (noSole rfl)
        · rename_i hc
          split at q1
          · cases q1
          · rename_i hnl
            cases q1
            have s2 := sw3n (env := X.env) (x := x) (y := y) (z := z) (px := px) (py := py) (pz := pz) (k := k) (k2 := k2) (p := p) (p2 := p2) hbk hs1 hs2 hs3 (by rw [g.sc]; simpa using hnl)
            exact cAsg_ok g.toGood he s2 q
  · rename_i x p1 i p2
    obtain ⟨hc, q⟩ := og q
    simp only [Bool.and_eq_true, Bool.not_eq_true'] at hc
    obtain ⟨⟨⟨hp, hv⟩, hcm⟩, hsl⟩ := hc
    obtain ⟨h1, h2, h3⟩ := plB_ok hp
    obtain ⟨j, e1, q⟩ := ob q
    obtain ⟨fa, e2, q⟩ := ob q
    obtain ⟨fi, e3, q⟩ := ob q
    cases q
    refine js_put (by rw [g.N]; exact ixOf_ok e1) (by rw [g.sc]; exact visB_ok hv) h1 h2 g.K (he _ _ e2) (he _ _ e3) ?_ (noSole hcm) sw_sub
    intro v
    cases i <;> first | rfl | cases hsl
  · obtain ⟨hc, q⟩ := og q
    exact cAsg_ok g.toGood he (sw_other (by simpa using hc)) q
end
end DL

namespace DL
open PySem L2

def cBlock (cs : Stmt → Option SS) : List Stmt → Option SS
  | [] => some sSkip
  | s :: ss => match ss with
    | [] => cs s
    | _ :: _ => (cs s).bind fun f => (cBlock cs ss).bind fun g => some (sSeq f g)
theorem cBlock_ok {G : Gx} {X : Cx} {W : WX} {cs : Stmt → Option SS} (h : ∀ s f, cs s = some f → JS G X W s f) : ∀ {ss : List Stmt} {f : SS}, cBlock cs ss = some f → JSs G X W ss f
  | [], f, e => by simp only [cBlock] at e; cases e; exact jss_nil
  | [s], f, e => by simp only [cBlock] at e; exact jss_one (h _ _ e)
  | s :: t :: ss, f, e => by
    rw [cBlock] at e
    obtain ⟨f1, e1, e⟩ := ob e
    obtain ⟨f2, e2, e⟩ := ob e
    cases e
    exact jss_cons (h _ _ e1) (cBlock_ok h e2)
def appB (C : Cfg) (sc : Scope) (x at_ : Str) (p2 p3 : Pos) (a : Expr) : Bool := at_ == ("append" : Str) && plB x && visB sc x && !starB a && p2.endLine == p3.line
def iopF : Operator → Option VO2
  | .Add => some (iop fun i j => some (.int (i + j)))
  | .Sub => some (iop fun i j => some (.int (i - j)))
  | _ => none
def exprC (C : Cfg) (ce : CE) (sc : Scope) : Expr → Option SS
  | .Call (.Attribute (.Name x _) at_ p2) [a] [] p3 => if appB C sc x at_ p2 p3 a = true then (ixOf C.N x).bind fun i => (ce sc a).bind fun f => some (sAppend i f) else none
  | e => if (!compB e) = true then (ce sc e).bind fun f => some (sDrop f) else none
noncomputable def stepS (C : Cfg) (ce : CE) (ct : CT) (css : CSs) (sc : Scope) : Stmt → Option SS
  | .Pass _ => some sSkip
  | .Expr e _ => (match exprC C ce sc e with
    | some f => some f
    | none => if (!compB e) = true then (ce sc e).bind fun f => some (sDrop f) else none)
  | .Return (some e) _ => (ce sc e).bind fun f => some (sRet f)
  | .Return none _ => some sRetN
  | .If c a b _ => (ct sc c).bind fun t => (css sc a).bind fun f => (css sc b).bind fun g => some (sIf t f g)
  | .For tg iter body [] _ => if (!setB iter) = true then (cI C ce sc tg iter).bind fun fi => (cG C (tgIx C 5 tg) sc 10 tg).bind fun gt => (css sc body).bind fun f => some (sFor fi gt f) else none
  | .While c body [] _ => (ct sc c).bind fun t => (css sc body).bind fun f => some (whileN t f C.fuel)
  | .Assign [tg] a pos => assignC C ce ct sc tg a pos
  | .AugAssign (.Name x _) op a _ => if locB sc x = true then (iopF op).bind fun o => (ixOf C.N x).bind fun i => (ce sc a).bind fun f => some (sAug o i f) else none
  | _ => none
structure ExOkS (G : Gx) (C : Cfg) : Prop extends ExOk G C where
  s : ∀ (ce : CE) (ct : CT) (css : CSs), Snd G C ce ct → SndS G C css → ∀ (sc : Scope) (X : Cx) (W : WX), GoodS G C sc X W → ∀ st f, C.exS ce ct css sc st = some f → JS G X W st f
section
variable {G : Gx} {X : Cx} {W : WX} {C : Cfg} {sc lc : Scope}
theorem iopF_ok {op : Operator} {o : VO2} (e : iopF op = some o) : Op2 G X (inplaceOp op) o := by
  cases op <;> cases e
  · exact op2_iadd
  · exact op2_isub
theorem exprC_ok (g : GoodS G C sc X W) {ce : CE} {ct : CT} (h : Snd G C ce ct) {e : Expr} {f : SS} {pos : Pos} (q : exprC C ce sc e = some f) : JS G X W (.Expr e pos) f := by
  have he := h.e sc sc X W g.toGood
  unfold exprC at q
  split at q
  · rename_i x p1 at_ p2 a p3
    obtain ⟨hc, q1⟩ := og q
    clear q
    unfold appB at hc
    simp only [Bool.and_eq_true, Bool.not_eq_true', beq_iff_eq] at hc
    obtain ⟨⟨⟨⟨c1, c2⟩, c3⟩, c4⟩, c5⟩ := hc
    subst c1
    obtain ⟨h1, h2, h3⟩ := plB_ok c2
    obtain ⟨i, e1, q2⟩ := ob q1
    obtain ⟨fa, e2, q3⟩ := ob q2
    cases q3
    exact js_append (by rw [g.N]; exact ixOf_ok e1) (by rw [g.sc]; exact visB_ok c3) h1 h2 g.K (he _ _ e2) (star_plain c4) (by simpa using c5)
  · obtain ⟨hc, q⟩ := og q
    obtain ⟨fa, e2, q⟩ := ob q
    cases q
    exact js_expr (he _ _ e2) (noSwap (by simpa using hc))
theorem stepS_ok (g : GoodS G C sc X W) {ce : CE} {ct : CT} {css : CSs} (h : Snd G C ce ct) (hs : SndS G C css) {st : Stmt} {f : SS} (q : stepS C ce ct css sc st = some f) : JS G X W st f := by
  have he := h.e sc sc X W g.toGood
  have ht := h.t sc sc X W g.toGood
  have hss := hs.s sc X W g
  unfold stepS at q
  split at q
  · cases q; exact js_pass
  · split at q
    · rename_i f' e1
      cases q
      exact exprC_ok g h e1
    · obtain ⟨hc, q⟩ := og q
      obtain ⟨fa, e2, q⟩ := ob q
      cases q
      exact js_expr (he _ _ e2) (noSwap (by simpa using hc))
  · obtain ⟨fa, e2, q⟩ := ob q
    cases q; exact js_ret (he _ _ e2)
  · cases q; exact js_retN
  · obtain ⟨t, e1, q⟩ := ob q
    obtain ⟨f1, e2, q⟩ := ob q
    obtain ⟨f2, e3, q⟩ := ob q
    cases q; exact js_if (ht _ _ e1) (hss _ _ e2) (hss _ _ e3)
  · obtain ⟨hc, q⟩ := og q
    obtain ⟨fi, e1, q⟩ := ob q
    obtain ⟨gt, e2, q⟩ := ob q
    obtain ⟨f1, e3, q⟩ := ob q
    cases q
    exact js_for g.po g.calm (cI_ok g.toGood he e1) (cG_ok g.toGood e2) (hss _ _ e3) (fun x => noFold (by simpa using hc) x)
  · obtain ⟨t, e1, q⟩ := ob q
    obtain ⟨f1, e2, q⟩ := ob q
    cases q; exact js_while C.fuel g.po (ht _ _ e1) (hss _ _ e2)
  · exact assignC_ok g h q
  · rename_i x p op a pos
    obtain ⟨hl, q⟩ := og q
    obtain ⟨o, e1, q⟩ := ob q
    obtain ⟨i, e2, q⟩ := ob q
    obtain ⟨f1, e3, q⟩ := ob q
    cases q
    exact js_aug (iopF_ok e1) (by rw [g.N]; exact g.nd) (by rw [g.N]; exact ixOf_ok e2) (g.st x hl).1 (he _ _ e3) (g.st x hl).2
  · cases q
end
noncomputable def stepS' (C : Cfg) (ce : CE) (ct : CT) (css : CSs) (sc : Scope) (st : Stmt) : Option SS := match C.exS ce ct css sc st with
  | some f => some f
  | none => stepS C ce ct css sc st
noncomputable def cpS (C : Cfg) (d : Nat) : Nat → CSs
  | 0 => fun _ _ => none
  | n + 1 => fun sc ss => cBlock (stepS' C (cp C d).1 (cp C d).2 (cpS C d n) sc) ss
theorem cpS_ok {G : Gx} {C : Cfg} (hx : ExOkS G C) (d : Nat) : ∀ n : Nat, SndS G C (cpS C d n)
  | 0 => ⟨fun _ _ _ _ _ _ q => by cases q⟩
  | n + 1 => ⟨fun sc X W g ss f q => by
    refine cBlock_ok (fun s f q => ?_) q
    unfold stepS' at q
    split at q
    · rename_i f' hf
      cases q
      exact hx.s _ _ _ (cp_ok hx.toExOk d) (cpS_ok hx d n) sc X W g s f hf
    · exact stepS_ok g (cp_ok hx.toExOk d) (cpS_ok hx d n) q⟩

/-! ### what is left behind a call -/
open Classical in
/-- what is left behind a call -/
noncomputable def cutF (F : SF) : SF := fun ds ms => match F ds ms with
  | .ok d ms' => if Kept ms ms' ∧ locsLt ms.length d = true then .ok d (ms'.take ms.length) else .stuck
  | .err c v ms' => if Kept ms ms' ∧ locsLt ms.length v = true then .err c v (ms'.take ms.length) else .stuck
  | .stuck => .stuck
theorem spF_cut {G : Gx} {F : SF} {n : Nat} {vs : List V} {H : Hp} {Q : VK} {E : XK} (h : spF G (cutF F) n vs H Q E) : spF G F n vs H Q E := by
  obtain ⟨w, ms, ds, si, rd, hl, out⟩ := h
  refine ⟨w, ms, ds, si, rd, hl, ?_⟩
  unfold cutF at out
  cases q : F ds ms with
  | stuck => rw [q] at out; exact out.elim
  | ok d ms' =>
    rw [q] at out
    simp only at out
    split at out
    · rename_i hc
      intro v H' w' l s r
      obtain ⟨s2, l2⟩ := si.cut l s hc.1
      exact out v H' _ l2 s2 (r.cutW hc.2)
    · exact out.elim
  | err c x ms' =>
    rw [q] at out
    simp only at out
    split at out
    · rename_i hc
      intro cls dd H' w' l s ⟨e1, d, v, e2, e3, r⟩
      obtain ⟨s2, l2⟩ := si.cut l s hc.1
      exact out cls dd H' _ l2 s2 ⟨e1, d, v, e2, e3, r.cutW hc.2⟩
    · exact out.elim
/-- THE RULE: a def whose body's meaning is known, and a function F that says at least as much -/
theorem fn_okE {G : Gx} {P : Program} {w : World} {mg : Str → Option Value} {base : Heap} {x qual : Str} {st : Stmt} {f : Addr} {fd : FuncData} {ps : List Str} {k d n : Nat} {C : Cfg} {body : SS} {F : SF} (Fu : FunE G.K x qual st f fd) (S : FnScope C.N ps (defScope st)) (hx : ExOkS G C)
    (hgl : ∀ (X : Cx), X.prog = P → X.w = w → X.K = G.K → X.mg = mg → X.base = base → Room k X.A → X.A.guards = some [] → ∀ x g, C.gl.lookup x = some g → GlOk G X x g)
    (hb : cpS C d n (defScope st) (defBody st) = some body) (hF : ∀ ds ms, F ds ms ≠ .stuck → ds.length = ps.length → cutF (runD C.N.length body) ds ms = F ds ms) :
    FnG P w G.K mg base (k + 1) f fd ps (spF G F ps.length) := by
  have h := fn_def (G := G) (P := P) (w := w) (mg := mg) (base := base) (k := k) (body := body) Fu S fun X W h1 h2 h3 h4 h5 h6 h7 h8 h9 h10 h11 h12 hr hgd tk po => by
    refine (cpS_ok hx d n).s (defScope st) X W ?_ _ _ hb
    exact { K := h3, N := h6, nd := S.nd, sc := h7, calm := h8, un := by have := hr.un; omega, un2 := by have := hr.un; omega, gd := hgd, tk := tk, st := fun x hl => ⟨by rw [h7]; exact locB_ok hl, .inl (by rw [h9])⟩, gl := hgl X h1 h2 h3 h4 h5 hr hgd, po := po, kd := S.kind, stk := h11, fr := h12 }
  refine h.imp fun vs H Q E q => spF_cut ?_
  obtain ⟨w', ms, ds, si, rd, hl, out⟩ := q
  refine ⟨w', ms, ds, si, rd, hl, ?_⟩
  by_cases hs : F ds ms = .stuck
  · rw [hs] at out; exact out.elim
  · rw [hF ds ms hs hl]; exact out
theorem fn_ok {G : Gx} {P : Program} {w : World} {mg : Str → Option Value} {base : Heap} {x qual : Str} {st : Stmt} {f : Addr} {fd : FuncData} {ps : List Str} {k d n : Nat} {C : Cfg} {body : SS} {F : SF} (Fu : Fun G.K x qual st f fd) (S : FnScope C.N ps (defScope st)) (hx : ExOkS G C)
    (hgl : ∀ (X : Cx), X.prog = P → X.w = w → X.K = G.K → X.mg = mg → X.base = base → Room k X.A → X.A.guards = some [] → ∀ x g, C.gl.lookup x = some g → GlOk G X x g)
    (hb : cpS C d n (defScope st) (defBody st) = some body) (hF : ∀ ds ms, F ds ms ≠ .stuck → ds.length = ps.length → cutF (runD C.N.length body) ds ms = F ds ms) :
    FnG P w G.K mg base (k + 1) f fd ps (spF G F ps.length) :=
  fn_okE (funE Fu) S hx hgl hb hF
end DL

/-! dicts: displays, stores -/
namespace DL
open PySem L2

def putD (kds : List (Key × D)) (k : Key) (d : D) : List (Key × D) :=
  if (kds.any fun kv => decide (kv.1 = k)) = true then kds.map (fun kv => if kv.1 = k then (kv.1, d) else kv) else kds ++ [(k, d)]
def mergeD (kds more : List (Key × D)) : List (Key × D) := more.foldl (fun acc kv => putD acc kv.1 kv.2) kds
section
variable {G : Gx} {X : Cx} {W : WX} {a b c e : Expr} {es : List Expr} {fa fb fc : SE} {ga : SA} {pos : Pos}
theorem KD.any {w : Wd} {k : Key} : ∀ {kds : List (Key × D)} {kvs : List (Key × V)}, KD G w kds kvs → (kds.any fun kv => decide (kv.1 = k)) = (kvs.any fun kv => decide (kv.1 = k))
  | _, _, .nil => rfl
  | _, _, .cons h hs => by rw [List.any_cons, List.any_cons, h.1, KD.any hs]
theorem KD.app {w : Wd} {a a' : List (Key × D)} {b b' : List (Key × V)} (h : KD G w a b) (h' : KD G w a' b') : KD G w (a ++ a') (b ++ b') := by
  induction h with
  | nil => exact h'
  | cons z _ ih => exact .cons z ih
theorem KD.set {w : Wd} {k : Key} {d : D} {v : V} (r : Rp G w d v) : ∀ {kds : List (Key × D)} {kvs : List (Key × V)}, KD G w kds kvs → KD G w (kds.map fun kv => if kv.1 = k then (kv.1, d) else kv) (kvs.map fun kv => if kv.1 = k then (kv.1, v) else kv)
  | _, _, .nil => .nil
  | _, _, .cons (a := p) (b := q) h hs => by
    refine .cons ?_ (KD.set r hs)
    dsimp only
    rw [← h.1]
    by_cases e : p.1 = k
    · rw [if_pos e, if_pos e]; exact ⟨rfl, r⟩
    · rw [if_neg e, if_neg e]; exact h
theorem KD.put {w : Wd} {k : Key} {d : D} {v : V} {kds : List (Key × D)} {kvs : List (Key × V)} (h : KD G w kds kvs) (r : Rp G w d v) : KD G w (putD kds k d) (putK kvs k v) := by
  unfold putD putK
  rw [h.any]
  split
  · exact h.set r
  · exact h.app (.cons ⟨rfl, r⟩ .nil)
theorem KD.merge {w : Wd} : ∀ {more : List (Key × D)} {moreV : List (Key × V)} {kds : List (Key × D)} {kvs : List (Key × V)}, KD G w more moreV → KD G w kds kvs → KD G w (mergeD kds more) (mergeK kvs moreV)
  | _, _, _, _, .nil, h => h
  | _, _, _, _, .cons (a := p) (b := q) z zs, h => by
    show KD G w (mergeD (putD _ p.1 p.2) _) (mergeK (putK _ q.1 q.2) _)
    rw [← z.1]
    exact KD.merge zs (h.put z.2)
theorem KD.len {w : Wd} {kds : List (Key × D)} {kvs : List (Key × V)} (h : KD G w kds kvs) : kds.length = kvs.length := Paired.length h
theorem KD.keys {w : Wd} {kds : List (Key × D)} {kvs : List (Key × V)} (h : KD G w kds kvs) : kvs.map (·.1) = kds.map (·.1) := by
  induction h with
  | nil => rfl
  | cons z _ ih => rw [List.map_cons, List.map_cons, ih, z.1]
theorem KD.vals {w : Wd} {kds : List (Key × D)} {kvs : List (Key × V)} (h : KD G w kds kvs) : Rps G w (kds.map (·.2)) (kvs.map (·.2)) := by
  induction h with
  | nil => exact .nil
  | cons z _ ih => exact .cons z.2 ih

/-! ### displays -/
def sPairs : List (SE × SE) → DE → MS → R (List (D × D))
  | [], _, ms => .ok [] ms
  | (f, g) :: r, env, ms => (f env ms).bind fun k ms => (g env ms).bind fun v ms => (sPairs r env ms).bind fun ps ms => .ok ((k, v) :: ps) ms
def keysD : List (D × D) → Option (List (Key × D))
  | [] => some []
  | (k, v) :: r => (keyD k).bind fun k => (keysD r).bind fun r => some ((k, v) :: r)
abbrev RpP (G : Gx) (w : Wd) : List (D × D) → List (V × V) → Prop := Paired fun p q => Rp G w p.1 q.1 ∧ Rp G w p.2 q.2
theorem pairs_read {σ : St} {Q : List (V × V) → Hp → Prop} : ∀ {prs : List (SE × SE)} {H : Hp}, (∃ w env ms, At G w env ms σ H ∧ Out G w (RpP G) (sPairs prs env ms) Q (fun c d H' => W c d σ H')) → tPairs (prs.map fun p => (tE G W p.1, tE G W p.2)) σ H Q
  | [], H, ⟨w, env, ms, at_, out⟩ => out [] H w (Wd.le.refl _) at_.s .nil
  | (f, g) :: r, H, ⟨w, env, ms, at_, out⟩ => ⟨w, env, ms, at_, Out.bind out fun k ms1 vk H1 w1 l1 s1 r1 out1 => ⟨w1, env, ms1, at_.next l1 s1, Out.bind out1 fun v ms2 vv H2 w2 l2 s2 r2 out2 =>
      pairs_read ⟨w2, env, ms2, (at_.next l1 s1).next l2 s2, Out.bind out2 fun ps ms3 vps H3 w3 l3 s3 r3 out3 => out3 _ H3 w3 (Wd.le.refl _) s3 (.cons ⟨r1.mono (l2.trans l3), r2.mono l3⟩ r3)⟩⟩⟩
theorem keysD_ok {w : Wd} : ∀ {ps : List (D × D)} {vps : List (V × V)} {kds : List (Key × D)}, RpP G w ps vps → keysD ps = some kds → ∃ kvs : List (Key × V), vps = kvs.map (fun kv => (kV kv.1, kv.2)) ∧ KD G w kds kvs
  | _, _, _, .nil, e => by cases e; exact ⟨[], rfl, .nil⟩
  | _, _, _, .cons (a := p) (b := q) h hs, e => by
    obtain ⟨k, v⟩ := p
    simp only [keysD] at e
    obtain ⟨ky, e1, e⟩ := ob e
    obtain ⟨r, e2, e⟩ := ob e
    cases e
    obtain ⟨kvs, rfl, kd⟩ := keysD_ok hs e2
    have := keyD_ok h.1 e1
    refine ⟨(ky, q.2) :: kvs, ?_, .cons ⟨rfl, h.2⟩ kd⟩
    rw [List.map_cons, ← this]
/-- {k: v, ..}; mut: it is changed later -/
def dicEnd (mu : Bool) (n : Nat) (ps : List (D × D)) (ms : MS) : R D := match keysD ps, ms[n]? with
  | some kds, some (.dic []) => if kds.length ≤ 15 then (if mu = true then .ok (.loc n) (ms.set n (.dic (mergeD [] kds))) else .ok (.dic ((mergeD [] kds).map (·.1)) ((mergeD [] kds).map (·.2))) (ms.set n .dead)) else .stuck
  | _, _ => .stuck
def sDic (mu : Bool) (prs : List (SE × SE)) : SE := fun env ms => (sPairs prs env (ms ++ [.dic []])).bind fun ps ms' => dicEnd mu ms.length ps ms'
theorem dic_fin {w2 : Wd} {p : Addr} {ms1 ms2 : MS} {H2 : Hp} {mu : Bool} {kds : List (Key × D)} {kvs : List (Key × V)} {Q : VK} {E : XK} (hn : w2.as[ms1.length]? = some p) (s2 : SI G w2 ms2 H2) (hc : ms2[ms1.length]? = some (.dic [])) (kd : KD G w2 kds kvs)
    (out : OutD G w2 (if mu = true then .ok (.loc ms1.length) (ms2.set ms1.length (.dic (mergeD [] kds))) else .ok (.dic ((mergeD [] kds).map (·.1)) ((mergeD [] kds).map (·.2))) (ms2.set ms1.length .dead)) Q E) : H2 p = some (.dK []) ∧ Q (.ref p) (upd H2 p (.dK (mergeK [] kvs))) := by
  obtain ⟨b1, kv0, b2, b3⟩ := s2.mo _ p _ hn hc
  cases b3
  refine ⟨b2, ?_⟩
  have km : KD G w2 (mergeD [] kds) (mergeK [] kvs) := KD.merge kd .nil
  have sp : SI G w2 (ms2.set ms1.length (.dic (mergeD [] kds))) (upd H2 p (.dK (mergeK [] kvs))) := s2.put (m := .dic (mergeD [] kds)) hn b1 ⟨b1, _, upd_same, km⟩
  cases mu with
  | true => exact out _ _ w2 (Wd.le.refl _) sp (.loc hn)
  | false =>
    obtain ⟨s3, l3⟩ := sp.frz hn b1 upd_same
    have e : ((ms2.set ms1.length (.dic (mergeD [] kds))).set ms1.length .dead) = ms2.set ms1.length .dead := by rw [List.set_set]
    rw [e] at s3
    exact out _ _ _ l3 s3 (.dic upd_same km.keys (km.vals.mono l3))
theorem je_dic {keys : List (Option Expr)} {values : List Expr} {prs : List (SE × SE)} {mu : Bool} (h : PPs X pos keys values (prs.map fun p => (tE G W p.1, tE G W p.2))) (hall : keys.all (·.isSome) = true) (hl : keys.length = values.length) (h0 : keys ≠ []) (h15 : keys.length ≤ 15) :
    JE G X W (.Dict keys values pos) (sDic mu prs) :=
  PE.imp (pe_disp h hall hl h0 h15) fun σ H Q ⟨w, env, ms, at_, out⟩ => fun p hp => by
    have l0 : w.le ⟨w.B, w.as ++ [p]⟩ := ⟨Same.refl _, List.prefix_append _ _⟩
    obtain ⟨s1, l1⟩ := at_.s.new (m := .dic []) (o := .dK []) hp ⟨at_.s.sub.free hp, [], upd_same, .nil⟩
    have hn : (w.as ++ [p])[ms.length]? = some p := last_at at_.s.len
    refine pairs_read ⟨_, env, _, ⟨at_.e.mono l1, s1⟩, Out.bind (Out.mono l1 out) fun ps ms2 vps H2 w2 l2 s2 r2 out2 => ?_⟩
    unfold dicEnd at out2
    cases q1 : keysD ps with
    | none => rw [q1] at out2; exact out2.elim
    | some kds =>
      cases q2 : ms2[ms.length]? with
      | none => rw [q1, q2] at out2; exact out2.elim
      | some mo =>
        rw [q1, q2] at out2
        cases mo with
        | dic x => cases x with
          | cons _ _ => exact out2.elim
          | nil =>
            simp only at out2
            split at out2
            · rename_i hlen
              obtain ⟨kvs, e, kd⟩ := keysD_ok r2 q1
              obtain ⟨f1, f2⟩ := dic_fin (pre_get l2.a hn) s2 q2 kd out2
              exact ⟨f1, kvs, e, by rw [← kd.len]; exact hlen, f2⟩
            · exact out2.elim
        | _ => exact out2.elim
def sDic0 (mu : Bool) : SE := fun _ ms => if mu = true then .ok (.loc ms.length) (ms ++ [.dic []]) else .ok (.dic [] []) ms
theorem je_dic0 {mu : Bool} : JE G X W (.Dict [] [] pos) (sDic0 mu) :=
  PE.imp pe_dnewK fun σ H Q ⟨w, env, ms, at_, out⟩ => fun p hp => by
    unfold sDic0 at out
    cases mu with
    | true =>
      obtain ⟨s1, l1⟩ := at_.s.new (m := .dic []) (o := .dK []) hp ⟨at_.s.sub.free hp, [], upd_same, .nil⟩
      exact out _ _ _ l1 s1 (.loc (last_at at_.s.len))
    | false =>
      obtain ⟨s1, l1⟩ := at_.s.lay hp (.dK [])
      exact out _ _ _ l1 s1 (.dic upd_same rfl .nil)

/-! ### stores into a dict -/
def dputM (n : Nat) (k : Key) (d : D) (env : DE) (ms : MS) : RS := match ms[n]? with
  | some (.dic kds) => if kds.length < 16777216 then .nx env (ms.set n (.dic (putD kds k d))) else .stuck
  | _ => .stuck
def isDicB (ms : MS) (n : Nat) : Bool := match ms[n]? with
  | some (.dic _) => true
  | _ => false
/-- x[k] = e, x a mutable dict -/
def sDput (i : Nat) (fi f : SE) : SS := fun env ms => (f env ms).thenS env fun d ms => match env[i]? with
  | some (some (.loc n)) => (fi env ms).thenS env fun k ms => match keyD k with
    | some ky => dputM n ky d env ms
    | none => .stuck
  | _ => .stuck
theorem dput_ok {w : Wd} {ms : MS} {H : Hp} {n : Nat} {p : Addr} {k : Key} {d : D} {v : V} {σ : St} {env : DE} {K : Ends} (hp : w.as[n]? = some p) (a2 : At G w env ms σ H) (r : Rp G w d v) (out : OutS G w (dputM n k d env ms) K W) : ∃ H4, DPut H p (kV k) v H4 ∧ K.nx σ H4 := by
  unfold dputM at out
  cases q2 : ms[n]? with
  | none => rw [q2] at out; exact out.elim
  | some m =>
    rw [q2] at out
    cases m with
    | dic kds =>
      simp only at out
      split at out
      · rename_i hl
        obtain ⟨b1, kvs, b2, b3⟩ := a2.s.mo n p _ hp q2
        rw [b3.len] at hl
        exact ⟨_, DPut.k b2 (by rw [sizeLine_eq]; exact hl), out σ _ w (Wd.le.refl _) ⟨a2.e, a2.s.put (m := .dic (putD kds k d)) hp b1 ⟨b1, _, upd_same, b3.put r⟩⟩⟩
      · exact out.elim
    | _ => exact out.elim
theorem js_dput {i : Nat} {x : Str} {p1 p2 : Pos} (hu : X.A.units + 1 < cLine) (hN : X.N[i]? = some x) (hv : Vis X.env.scope x) (hd : (x == ("__debug__" : Str)) = false) (hcd : (x == ("__classdict__" : Str)) = false) (ha : JE G X W a fa) (hb : JE G X W b fb)
    (hs : swapsWith a (some (.Subscript (.Name x p1) b p2)) pos.line X.env = pure false) : JS G X W (.Assign [.Subscript (.Name x p1) b p2] a pos) (sDput i fb fa) := by
  refine PS.imp (ps_dput hu (pe_var (i := i) hN hv hd hcd) hb ha hs) fun K σ H ⟨w, env, ms, at_, out⟩ => ⟨w, env, ms, at_, Out.thenS at_ out fun d ms1 v H1 w1 l1 a1 r1 out1 => ?_⟩
  cases q : env[i]? with
  | none => rw [q] at out1; exact out1.elim
  | some z =>
    rw [q] at out1
    cases z with
    | none => exact out1.elim
    | some dd =>
      cases dd with
      | loc n =>
        obtain ⟨u, hv', r⟩ := a1.e.at_ i _ q
        refine ⟨u, hv', w1, env, ms1, a1, Out.thenS a1 out1 fun k ms2 vk H2 w2 l2 a2 r2 out2 => ?_⟩
        cases r with
        | @loc _ p hp =>
          cases q3 : keyD k with
          | none => rw [q3] at out2; exact out2.elim
          | some ky =>
            rw [q3] at out2
            obtain rfl := keyD_ok r2 q3
            obtain ⟨H4, h1, h2⟩ := dput_ok (pre_get l2.a hp) a2 (r1.mono l2) out2
            exact ⟨p, H4, rfl, h1, h2⟩
      | _ => exact out1.elim
def rSetD : V → V → V → Hp → (Hp → Prop) → Prop := fun o i v H Q => ∃ a H', o = .ref a ∧ DPut H a i v H' ∧ Q H'
theorem set_dict (hu : X.A.units + 1 < cLine) : PSet X rSetD := fun pins s σ H o i v ov iv u Q I ro ri rv ⟨a, H', e, g, q⟩ => by
  subst e
  obtain rfl : ov = Value.ref a := ro
  exact d_setItem hu I g ri rv fun s' I' => ⟨H', I', q⟩
/-- x, d[k] = a, b: d a mutable dict, k a written text -/
def sSwap (i j : Nat) (k : Str) (ga : SA) : SS := fun env ms => (ga env ms).thenS env fun ds ms => match ds with
  | [x, y] => match (env.set i (some x))[j]? with
    | some (some (.loc n)) => dputM n (.inr k) y (env.set i (some x)) ms
    | _ => .stuck
  | _ => .stuck
theorem sw_sub2 {env : Env} {x : Str} {px : Pos} {o i : Expr} {ps : Pos} {a b : Expr} {k k2 : Nat} {p p2 : Pos} (hk : env.blockKind = .function) (ha : starB a = false) (hb : starB b = false) :
    swappedStores [.Tuple [.Name x px, .Subscript o i ps] k p] (.Tuple [a, b] k2 p2) env = pure none := by
  unfold swappedStores
  simp only [pure_bind, hk]
  have hst : ([a, b].any fun | .Starred .. => true | _ => false) = false := by
    show (isStar a || (isStar b || false)) = false
    rw [star1 ha, star1 hb]; rfl
  simp only [List.length_cons, List.length_nil, List.all_cons, List.all_nil, Bool.and_true, List.head?_cons, Option.map_some, Option.getD_some]
  show (if (!(2 == 2 || 2 == 3) || 2 != 2 || false) = true then _ else if ([a, b].any fun | .Starred .. => true | _ => false) = true then _ else _) = _
  rw [hst]
  simp only [Expr.pos, List.filterMap_cons, List.filterMap_nil, beq_self_eq_true, Bool.and_true]
  by_cases h1 : (env.kindOf x == some .local) = true <;> (try simp only [Bool.not_eq_true] at h1) <;> simp [h1]
theorem js_swap {i j : Nat} {x y k : Str} {px pd pk ps pt pt2 : Pos} {kt k2 kk : Nat} (hK : X.K = G.K) (hu : X.A.units + 1 < cLine) (hc : X.calm = true) (hbk : X.env.blockKind = .function) (hN : X.N.Nodup) (hi : X.N[i]? = some x) (hx : L2.Loc X.env.scope x) (hf : X.fn x = true ∨ X.env.scope.names.lookup x = some .local)
    (hj : X.N[j]? = some y) (hv : Vis X.env.scope y) (hd : (y == ("__debug__" : Str)) = false) (hcd : (y == ("__classdict__" : Str)) = false) (ha : JA G X W [a, b] ga) (sa : starB a = false) (sb : starB b = false) :
    JS G X W (.Assign [.Tuple [.Name x px, .Subscript (.Name y pd) (.Constant (.str k) kk pk) ps] kt pt] (.Tuple [a, b] k2 pt2) pos) (sSwap i j k ga) := by
  refine PS.imp (ps_asg (pe_tup ha) (pg_tup hc (pgs_cons (pg_name (i := i) hN hi hx hf) (pgs_cons (pg_sub (pe_var (i := j) hj hv hd hcd) pe_str (set_dict hu)) pgs_nil))) (by rw [sole]; exact noSwap rfl) (sw_sub2 hbk sa sb)) fun K σ H ⟨w, env, ms, at_, out⟩ => ⟨w, env, ms, at_, Out.thenS at_ out fun ds ms1 vs H1 w1 l1 a1 r1 out1 => ?_⟩
  cases r1 with
  | nil => exact out1.elim
  | cons r rs => cases rs with
    | nil => exact out1.elim
    | cons r2 rs2 => cases rs2 with
      | cons _ _ => exact out1.elim
      | nil =>
        refine ⟨k1000 (by simp), fun p hp => ?_⟩
        rename_i d1 v1 d2 v2
        obtain ⟨s2, l2⟩ := a1.s.lay hp (.tup [v1, v2])
        refine ⟨p, [v1, v2], rfl, hK ▸ SqT.of upd_same, rfl, v1, [v2], rfl, v2, [], rfl, ?_⟩
        have a2 : At G ⟨upd w1.B p (.tup [v1, v2]), w1.as⟩ (env.set i (some d1)) ms1 (σ.set i (some v1)) (upd H1 p (.tup [v1, v2])) := ⟨(a1.e.mono l2).set i (r.mono l2), s2⟩
        simp only at out1
        cases q : (env.set i (some d1))[j]? with
        | none => rw [q] at out1; exact out1.elim
        | some z =>
          rw [q] at out1
          cases z with
          | none => exact out1.elim
          | some dd =>
            cases dd with
            | loc n =>
              obtain ⟨u, hv', ru⟩ := a2.e.at_ j _ q
              cases ru with
              | @loc _ pp hpp =>
                obtain ⟨H4, h1, h2⟩ := dput_ok (K := K) hpp a2 (r2.mono l2) (OutS.mono l2 out1)
                exact ⟨.ref pp, hv', pp, H4, rfl, h1, rfl, h2⟩
            | _ => exact out1.elim
end
end DL

/-! comprehensions with two clauses -/
namespace DL
open PySem L2
def lc2L (gt : VG) (tt : ST) (fi1 : SI') (vs1 : List Nat) (gt1 : VG) (tt1 : ST) (fe : SE) (env : DE) (n : Nat) : List D → MS → R Unit
  | [], ms => .ok () ms
  | d :: ds, ms => match gt ms d env with
    | none => .stuck
    | some env1 => nox (tt env1 ms) fun k ms => if k = true then nox (fi1 env1 ms) fun ds1 ms => (lcL gt1 tt1 fe (wipeD env1 vs1) n ds1 ms).bind fun _ ms => lc2L gt tt fi1 vs1 gt1 tt1 fe env n ds ms
      else lc2L gt tt fi1 vs1 gt1 tt1 fe env n ds ms
def sLc2G (mu : Bool) (fi : SI') (vs : List Nat) (gt : VG) (tt : ST) (fi1 : SI') (vs1 : List Nat) (gt1 : VG) (tt1 : ST) (fe : SE) : SE := fun env ms => (fi env ms).bind fun ds ms => (lc2L gt tt fi1 vs1 gt1 tt1 fe (wipeD env vs) ms.length ds (ms ++ [.lst []])).bind fun _ ms' => lcE mu ms.length ms'
section
variable {G : Gx} {X : Cx} {W : WX}
theorem R.bind_assoc {α β γ : Type} (r : DL.R α) (f : α → MS → DL.R β) (k : β → MS → DL.R γ) : (r.bind f).bind k = r.bind fun a ms => (f a ms).bind k := by cases r <;> rfl
/-- the inner loop -/
theorem lc_inner {gt : VG} {tt : ST} {fe : SE} {vs : List Nat} {σ2 : St} {J : It} {ds : List D} {env1 : DE} {n : Nat} {Dd : Addr} {wD wi : Wd} {Z : MS → Wd → Prop} {rest : MS → DL.R D} {Q : VK} {E : XK} {Nx : Hp → Prop}
    (hn : wD.as[n]? = some Dd) (lD : wD.le wi) (e1 : EnvOk G wi env1 σ2) (io : ItOk G wi J ds) (hNx : ∀ w ms H, wi.le w → SI G w ms H → OutD G w (rest ms) Q E → Nx H) {ms0 : MS} {H0 : Hp} (s0 : SI G wi ms0 H0)
    (out : OutD G wi ((lcL gt tt fe (wipeD env1 vs) n ds ms0).bind fun _ ms => rest ms) Q E) :
    ∃ W1 : Nat → Nat → Hp → Prop, (∃ m, W1 0 m H0) ∧ ∀ j k H, W1 j k H →
      (J.stop j H ∧ Nx H) ∨ (J.go j H ∧ ∃ Nx1 : Hp → Prop, (∀ H', Nx1 H' → ∃ k', k' < k ∧ W1 (j + 1) k' H') ∧ ∀ x H', J.yld j H x H' → tG G vs gt x (wipe σ2 vs) H' fun σ3 H5 => wipe σ3 vs = wipe σ2 vs ∧ tT G W0 tt σ3 H5 fun b H6 =>
        if b = true then tE G W0 fe σ3 H6 fun y H7 => ∃ acc, H7 Dd = some (.lst acc) ∧ acc.length < sizeLine ∧ Nx1 (upd H7 Dd (.lst (acc ++ [y]))) else Nx1 H6) := by
  let Inv' (i : Nat) (H : Hp) := ∃ (w : Wd) (ms : MS), wi.le w ∧ SI G w ms H ∧ OutD G w ((lcL gt tt fe (wipeD env1 vs) n (ds.drop i) ms).bind fun _ ms => rest ms) Q E
  refine ⟨fun i m H => m = ds.length - i ∧ i ≤ ds.length ∧ Inv' i H, ⟨_, rfl, Nat.zero_le _, ⟨wi, ms0, Wd.le.refl _, s0, out⟩⟩, fun i m H ⟨hm, hi, w, ms, l, si, out⟩ => ?_⟩
  cases q : ds[i]? with
  | none =>
    have hge : ds.length ≤ i := List.getElem?_eq_none_iff.mp q
    have e : i = ds.length := Nat.le_antisymm hi hge
    subst e
    rw [List.drop_length] at out
    exact .inl ⟨io.2 w ms H l si, hNx w ms H l si out⟩
  | some d =>
    have hlt : i < ds.length := (List.getElem?_eq_some_iff.mp q).1
    obtain ⟨hgo, hy⟩ := io.1 w ms H i d l si q
    have hdrop : ds.drop i = d :: ds.drop (i + 1) := by
      rw [List.drop_eq_getElem_cons hlt]
      rw [List.getElem?_eq_getElem hlt] at q
      cases q; rfl
    rw [hdrop] at out
    refine .inr ⟨hgo, Inv' (i + 1), fun H' h => ⟨ds.length - (i + 1), by omega, rfl, hlt, h⟩, fun x H' hx => ?_⟩
    obtain ⟨w2, l2', sI2, r2⟩ := hy x H' hx
    simp only [lcL] at out
    cases q2 : gt ms d (wipeD env1 vs) with
    | none => rw [q2] at out; exact out.elim
    | some env2 =>
      rw [q2] at out
      simp only at out
      have ew : EnvOk G w2 (wipeD env1 vs) (wipe σ2 vs) := wipeD_ok (e1.mono (l.trans l2')) vs
      refine ⟨w2, wipeD env1 vs, ms, d, env2, ⟨ew, sI2⟩, r2, q2, fun σ3 a2 c2 => ⟨by rw [c2.wipe, wipe_wipe], w2, env2, ms, a2, ?_⟩⟩
      have hz : ∀ w', ¬ (fun (r : DL.R Unit) (w' : Wd) => OutD G w' (r.bind fun _ ms' => rest ms') Q E) .stuck w' := fun _ z => z
      refine nox_out (Z := fun r w' => OutD G w' (r.bind fun _ ms' => rest ms') Q E) hz (Out.mono l2' out) fun k ms3 ek k' H3 w3 l3 s3 rk => ?_
      rw [ek] at out
      subst rk
      cases k with
      | false => exact iteF ⟨w3, ms3, l.trans (l2'.trans l3), s3, Out.mono (l2'.trans l3) out⟩
      | true =>
        refine iteT ⟨w3, env2, ms3, ⟨a2.e.mono l3, s3⟩, ?_⟩
        have out3 : OutD G w3 ((nox (fe env2 ms3) fun y ms => match ms[n]? with
          | some (.lst acc) => if acc.length < 16777216 then lcL gt tt fe (wipeD env1 vs) n (ds.drop (i + 1)) (ms.set n (.lst (acc ++ [y]))) else .stuck
          | _ => .stuck).bind fun _ ms' => rest ms') Q E := Out.mono (l2'.trans l3) out
        refine nox_out (Z := fun r w' => OutD G w' (r.bind fun _ ms' => rest ms') Q E) hz out3 fun y ms4 ey v H4 w4 l4 s4 ry => ?_
        rw [ey] at out3
        simp only [nox] at out3
        have lall : wi.le w4 := l.trans (l2'.trans (l3.trans l4))
        cases q5 : ms4[n]? with
        | none => rw [q5] at out3; exact out3.elim
        | some mo =>
          rw [q5] at out3
          cases mo with
          | lst acc =>
            simp only at out3
            split at out3
            · rename_i hlen
              have hp := pre_get (lD.trans lall).a hn
              obtain ⟨b1, us, b2, b3⟩ := s4.mo _ Dd _ hp q5
              rw [b3.length] at hlen
              exact ⟨us, b2, by rw [sizeLine_eq]; exact hlen, w4, _, lall, s4.put (m := .lst (acc ++ [y])) hp b1 ⟨b1, _, upd_same, b3.append (.cons ry .nil)⟩, Out.mono l4 out3⟩
            · exact out3.elim
          | _ => exact out3.elim
theorem lc2_read {mu : Bool} {fi : SI'} {vs : List Nat} {gt : VG} {tt : ST} {fi1 : SI'} {vs1 : List Nat} {gt1 : VG} {tt1 : ST} {fe : SE} {σ : St} {H : Hp} {Q : VK} (h : tE G W (sLc2G mu fi vs gt tt fi1 vs1 gt1 tt1 fe) σ H Q) :
    tLc2 (fun σ H R => ∃ w env ms, At G w env ms σ H ∧ Out G w (fun w' ds J => ItOk G w' J ds) (fi env ms) R (fun c d H' => W c d σ H')) (tG G vs gt) (tT G W0 tt)
      (fun σ H R => ∃ w env ms, At G w env ms σ H ∧ Out G w (fun w' ds J => ItOk G w' J ds) (fi1 env ms) R (fun c d H' => W0 c d σ H')) (tG G vs1 gt1) (tT G W0 tt1) (tE G W0 fe) vs vs1 σ H Q := by
  obtain ⟨w, env, ms, at_, out⟩ := h
  refine ⟨w, env, ms, at_, Out.bind out fun ds ms1 J H1 w1 l1 s1 io out1 => ?_⟩
  intro Dd hD
  have l0 : w1.le ⟨w1.B, w1.as ++ [Dd]⟩ := ⟨Same.refl _, List.prefix_append _ _⟩
  obtain ⟨s2, l2⟩ := s1.new (m := .lst []) (o := .lst []) hD ⟨s1.sub.free hD, [], upd_same, .nil⟩
  have hn : (w1.as ++ [Dd])[ms1.length]? = some Dd := last_at s1.len
  let rest (i : Nat) (ms : MS) : DL.R D := (lc2L gt tt fi1 vs1 gt1 tt1 fe (wipeD env vs) ms1.length (ds.drop i) ms).bind fun _ ms' => lcE mu ms1.length ms'
  let Inv' (i : Nat) (H : Hp) := ∃ (w : Wd) (ms : MS), (Wd.mk w1.B (w1.as ++ [Dd])).le w ∧ SI G w ms H ∧ OutD G w (rest i ms) Q (fun c d H' => W c d σ H')
  refine ⟨fun i m H => m = ds.length - i ∧ i ≤ ds.length ∧ Inv' i H, ⟨_, rfl, Nat.zero_le _, ⟨_, _, Wd.le.refl _, s2, Out.mono l2 out1⟩⟩, fun i m H ⟨hm, hi, w, ms, l, si, out⟩ => ?_⟩
  have lw : w1.le w := l0.trans l
  cases q : ds[i]? with
  | none =>
    have hge : ds.length ≤ i := List.getElem?_eq_none_iff.mp q
    have e : i = ds.length := Nat.le_antisymm hi hge
    subst e
    refine .inl ⟨io.2 w ms H lw si, ?_⟩
    have out' : OutD G w (lcE mu ms1.length ms) Q (fun c d H' => W c d σ H') := by
      have z := out
      simp only [rest, List.drop_length] at z
      exact z
    simp only [lcE] at out'
    cases q2 : ms[ms1.length]? with
    | none => rw [q2] at out'; exact out'.elim
    | some mo =>
      rw [q2] at out'
      cases mo with
      | lst xs =>
        have hp := pre_get l.a hn
        obtain ⟨b1, us, b2, b3⟩ := si.mo _ Dd _ hp q2
        cases mu with
        | true => exact out' _ H _ (Wd.le.refl _) si (.loc hp)
        | false =>
          obtain ⟨s3, l3⟩ := si.frz hp b1 b2
          exact out' _ H _ l3 s3 (.lst upd_same (b3.mono l3))
      | _ => exact out'.elim
  | some d =>
    have hlt : i < ds.length := (List.getElem?_eq_some_iff.mp q).1
    obtain ⟨hgo, hy⟩ := io.1 w ms H i d lw si q
    have hdrop : ds.drop i = d :: ds.drop (i + 1) := by
      rw [List.drop_eq_getElem_cons hlt]
      rw [List.getElem?_eq_getElem hlt] at q
      cases q; rfl
    simp only [rest] at out
    rw [hdrop] at out
    refine .inr ⟨hgo, Inv' (i + 1), fun H' h => ⟨ds.length - (i + 1), by omega, rfl, hlt, h⟩, fun x H' hx => ?_⟩
    obtain ⟨w2, l2', sI2, r2⟩ := hy x H' hx
    simp only [lc2L] at out
    cases q2 : gt ms d (wipeD env vs) with
    | none => rw [q2] at out; exact out.elim
    | some env1 =>
      rw [q2] at out
      simp only at out
      have e1 : EnvOk G w2 (wipeD env vs) (wipe σ vs) := wipeD_ok (at_.e.mono (l1.trans (lw.trans l2'))) vs
      refine ⟨w2, wipeD env vs, ms, d, env1, ⟨e1, sI2⟩, r2, q2, fun σ2 a2 c2 => ⟨by rw [c2.wipe, wipe_wipe], w2, env1, ms, a2, ?_⟩⟩
      have hz : ∀ w', ¬ (fun (r : DL.R Unit) (w' : Wd) => OutD G w' (r.bind fun _ ms' => lcE mu ms1.length ms') Q (fun c d H' => W c d σ H')) .stuck w' := fun _ z => z
      refine nox_out (Z := fun r w' => OutD G w' (r.bind fun _ ms' => lcE mu ms1.length ms') Q (fun c d H' => W c d σ H')) hz (Out.mono l2' out) fun k ms3 ek k' H3 w3 l3 s3 rk => ?_
      rw [ek] at out
      subst rk
      cases k with
      | false => exact iteF ⟨w3, ms3, l.trans (l2'.trans l3), s3, Out.mono (l2'.trans l3) out⟩
      | true =>
        refine iteT ⟨w3, env1, ms3, ⟨a2.e.mono l3, s3⟩, ?_⟩
        have out3 : OutD G w3 ((nox (fi1 env1 ms3) fun ds1 ms => (lcL gt1 tt1 fe (wipeD env1 vs1) ms1.length ds1 ms).bind fun _ ms => lc2L gt tt fi1 vs1 gt1 tt1 fe (wipeD env vs) ms1.length (ds.drop (i + 1)) ms).bind fun _ ms' => lcE mu ms1.length ms') Q (fun c d H' => W c d σ H') := Out.mono (l2'.trans l3) out
        refine nox_out (Z := fun r w' => OutD G w' (r.bind fun _ ms' => lcE mu ms1.length ms') Q (fun c d H' => W c d σ H')) hz out3 fun ds1 ms4 ey J1 H4 w4 l4 s4 io1 => ?_
        rw [ey] at out3
        simp only [nox] at out3
        rw [R.bind_assoc] at out3
        have lall : (Wd.mk w1.B (w1.as ++ [Dd])).le w4 := l.trans (l2'.trans (l3.trans l4))
        exact lc_inner (Z := fun _ _ => True) (rest := rest (i + 1)) (n := ms1.length) hn lall (a2.e.mono (l3.trans l4)) io1 (fun w5 ms5 H5 l5 s5 o5 => ⟨w5, ms5, lall.trans l5, s5, o5⟩) s4 (Out.mono l4 out3)
variable {C : Cfg} {sc lc : Scope}
/-- [e for .. for ..]; mu: the list is changed later -/
noncomputable def sLc2 (mu : Bool) (fi : SI') (vs : List Nat) (gt : VG) (tt : ST) (fi1 : SI') (vs1 : List Nat) (gt1 : VG) (tt1 : ST) (fe : SE) : SE := cutM mu (sLc2G mu fi vs gt tt fi1 vs1 gt1 tt1 fe)
noncomputable def cLc2 (mu : Bool) (C : Cfg) (ce : CE) (ct : CT) (sc : Scope) (elt tg iter : Expr) (ifs : List Expr) (tg1 iter1 : Expr) (ifs1 : List Expr) (scope : Scope) : Option SE :=
  if (blkC C.N sc scope (ownOf C.N scope) && !setB iter && !setB iter1 && (tgIx C 5 tg1).all (fun i => ((ownOf C.N scope).map (·.2)).contains i)) = true then (cI C ce sc tg iter).bind fun fi => (cG C ((ownOf C.N scope).map (·.2)) scope 10 tg).bind fun gt => (cIfs (ct (relS scope sc)) ifs).bind fun tt =>
    (cI C ce (relS scope sc) tg1 iter1).bind fun fi1 => (cG C (tgIx C 5 tg1) scope 10 tg1).bind fun gt1 => (cIfs (ct (relS scope sc)) ifs1).bind fun tt1 => (ce (relS scope sc) elt).bind fun fe => some (cutM mu (sLc2G mu fi ((ownOf C.N scope).map (·.2)) gt tt fi1 (tgIx C 5 tg1) gt1 tt1 fe)) else none
theorem cIfs_ok {ct : Expr → Option ST} (h : ∀ e f, ct e = some f → JT G X W e f) {ifs : List Expr} {tt : ST} (e : cIfs ct ifs = some tt) : PTs X ifs (tT G W tt) := by
  cases ifs with
  | nil => cases e; exact sYes_ok
  | cons c cs => cases cs with
    | nil => exact pts_one (h _ _ e)
    | cons _ _ => cases e
theorem cLc2_ok {mu : Bool} (g : Good G C sc lc X W) {ce : CE} {ct : CT} (h : Snd G C ce ct) {elt tg iter tg1 iter1 : Expr} {ifs ifs1 : List Expr} {scope : Scope} {f : SE} {pos : Pos} (e : cLc2 mu C ce ct sc elt tg iter ifs tg1 iter1 ifs1 scope = some f) :
    JE G X W (.ListComp elt [⟨tg, iter, ifs, 0⟩, ⟨tg1, iter1, ifs1, 0⟩] scope pos) f ∧ ∀ (y : Str) (py spos : Pos) (i : Nat), ixOf C.N y = some i → sc.names.lookup y = some .local → swapsWith (.ListComp elt [⟨tg, iter, ifs, 0⟩, ⟨tg1, iter1, ifs1, 0⟩] scope pos) (some (.Name y py)) spos.line X.env = pure true →
      JS G X W (.Assign [.Name y py] (.ListComp elt [⟨tg, iter, ifs, 0⟩, ⟨tg1, iter1, ifs1, 0⟩] scope pos) spos) (sAsg f (gNm i)) := by
  unfold cLc2 at e
  obtain ⟨hc, e⟩ := og e
  simp only [Bool.and_eq_true, Bool.not_eq_true'] at hc
  obtain ⟨⟨⟨hb, hs⟩, hs1⟩, hv⟩ := hc
  obtain ⟨fi, e1, e⟩ := ob e
  obtain ⟨gt, e2, e⟩ := ob e
  obtain ⟨tt, e3, e⟩ := ob e
  obtain ⟨fi1, e4, e⟩ := ob e
  obtain ⟨gt1, e5, e⟩ := ob e
  obtain ⟨tt1, e6, e⟩ := ob e
  obtain ⟨fe, e7, e⟩ := ob e
  cases e
  have bk : BlkOk X.N X.env.scope scope (ownOf C.N scope) := by rw [g.N, g.sc]; exact blkOk_by hb
  have hv' : ∀ i ∈ tgIx C 5 tg1, i ∈ (ownOf C.N scope).map (·.2) := fun i hi => by
    rw [List.all_eq_true] at hv
    simpa using hv i hi
  have nd : X.N.Nodup := by rw [g.N]; exact g.nd
  have ji := cI_ok g (h.e sc lc X W g) e1
  constructor
  · refine je_cutM ?_
    exact PE.imp (pe_lc2 g.calm nd ji bk hv' (fun s H Ca cl fp => cG_ok (g.blk s H scope cl Ca fp) e2) (fun s H Ca cl fp => cIfs_ok (fun e f q => h.t _ _ _ _ (g.blk s H scope cl Ca fp) _ _ q) e3)
      (fun s H Ca cl fp => cI_ok (g.blk s H scope cl Ca fp) (h.e _ _ _ _ (g.blk s H scope cl Ca fp)) e4) (fun s H Ca cl fp => cG_ok (g.blk s H scope cl Ca fp) e5) (fun s H Ca cl fp => cIfs_ok (fun e f q => h.t _ _ _ _ (g.blk s H scope cl Ca fp) _ _ q) e6)
      (fun s H Ca cl fp => h.e _ _ _ _ (g.blk s H scope cl Ca fp) _ _ e7) (fun x => noFold hs x) (fun env x => noFold hs1 x)) fun σ H Q h => lc2_read h
  · intro y py spos i hi hyl hsw
    refine js_cutM ?_
    refine PS.imp (ps_setLc2 g.calm nd (by rw [g.N]; exact ixOf_ok hi) (by rw [g.sc]; exact hyl) hsw ji bk hv' (fun s H Ca cl fp => cG_ok (g.blk s H scope cl Ca fp) e2) (fun s H Ca cl fp => cIfs_ok (fun e f q => h.t _ _ _ _ (g.blk s H scope cl Ca fp) _ _ q) e3)
      (fun s H Ca cl fp => cI_ok (g.blk s H scope cl Ca fp) (h.e _ _ _ _ (g.blk s H scope cl Ca fp)) e4) (fun s H Ca cl fp => cG_ok (g.blk s H scope cl Ca fp) e5) (fun s H Ca cl fp => cIfs_ok (fun e f q => h.t _ _ _ _ (g.blk s H scope cl Ca fp) _ _ q) e6)
      (fun s H Ca cl fp => h.e _ _ _ _ (g.blk s H scope cl Ca fp) _ _ e7) (fun x => noFold hs x) (fun env x => noFold hs1 x)) fun K σ H h => ?_
    have h' := asg_out (ws := [i]) (t := tLc2 _ _ _ _ _ _ _ _ _) (fun Q q => lc2_read q) h
    obtain ⟨w, env, ms, at_, out⟩ := h'
    refine ⟨w, env, ms, at_, ?_⟩
    refine Out.imp out (fun J H1 q => ?_) (fun _ _ _ h => h)
    intro Dd hD
    obtain ⟨Wv, h0, hst⟩ := q Dd hD
    refine ⟨Wv, h0, fun i' m H2 hw => ?_⟩
    rcases hst i' m H2 hw with ⟨z1, z2⟩ | z
    · refine .inl ⟨z1, ?_⟩
      obtain ⟨w2, env2, ms2, d2, env2', a2, r2, e2, k2⟩ := z2
      cases e2
      exact k2 _ ⟨a2.e.set i r2, a2.s⟩ (Chg.set (by simp) _)
    · exact .inr z
end
end DL

/-! raise -/
namespace DL
open PySem L2 PyProof.Rows PySem.Spec
open Classical in
/-- may the value stand in the error's text -/
noncomputable def fOk (fs : Bool) (d : D) : Bool := !fs || match d with
  | .str y => decide (y.length ≤ 1000000)
  | .int i => decide (i.natAbs.log2 < 1000 ∧ (toString i : Str).length ≤ 1000000)
  | _ => false
theorem fOk_ok {G : Gx} {w : Wd} {fs : Bool} {d : D} {v : V} (r : Rp G w d v) (h : fOk fs d = true) : fs = true → FOk v := fun e => by
  subst e
  cases r with
  | str y => simp only [fOk, Bool.not_true, Bool.false_or, decide_eq_true_eq] at h; exact h
  | int i => simp only [fOk, Bool.not_true, Bool.false_or, decide_eq_true_eq] at h; exact h
  | _ => simp [fOk] at h
/-- raise C(e) -/
noncomputable def sRaise (c : Nat) (fs : Bool) (f : SE) : SS := fun env ms => (f env ms).thenS env fun d ms => if fOk fs d = true then .err c d env ms else .stuck
section
variable {G : Gx} {X : Cx} {W : WX} {a : Expr} {fa : SE} {x : Str} {c : Nat} {fs : Bool} {p pos pos2 : Pos}
theorem js_raise (hc : X.calm = true) (tk : Takes X W) (hE : EGl G X x c fs) (hg : Gl X x) (hdb : (x == ("__debug__" : Str)) = false) (ha : JE G X W a fa) (hs : starB a = false) :
    JS G X W (.Raise (some (.Call (.Name x p) [a] [] pos)) none pos2) (sRaise c fs fa) := by
  obtain ⟨k, fI, fd, ps, T, iC, tI, F1, hr, hb, hm, _, _⟩ := hE
  refine PS.imp (ps_raise hc tk (pmk_oex T iC tI F1 hr hb .nil pass0 hg hm (pa_cons ha pa_nil (star_plain hs)) hdb (star_plain hs) rfl)) fun K σ H ⟨w, env, ms, at_, out⟩ => ?_
  refine ⟨w, env, ms, at_, Out.thenS at_ out fun d ms1 v H1 w1 l1 a1 r1 out1 => ?_⟩
  split at out1
  · rename_i hf
    refine ⟨by simp, fun e he => ⟨e, v, rfl, upd_same, fOk_ok r1 hf, fun dx hd hne => ⟨rfl, dx, [(erF c, v)], upd_same, ?_, ?_, ?_⟩⟩⟩
    · rw [upd_ne hne, upd_same]
    · rw [upd_ne hne] at hd; exact hd
    · have hd1 : H1 dx = none := by rw [upd_ne hne] at hd; exact hd
      have e1 : upd (del (upd (upd (upd H1 e (exo e (G.EC c) none)) dx (exd dx [(erF c, v)])) e (exo e (G.EC c) (some dx))) e) dx (.xd [(erF c, v)]) = upd H1 dx (.xd [(erF c, v)]) := by
        funext b
        by_cases h1 : b = dx
        · subst h1; rw [upd_same, upd_same]
        · rw [upd_ne h1, upd_ne h1]
          by_cases h2 : b = e
          · subst h2; rw [del_same, he]
          · rw [del_ne h2, upd_ne h2, upd_ne h1, upd_ne h2]
      rw [e1]
      obtain ⟨s2, l2⟩ := a1.s.lay hd1 (.xd [(erF c, v)])
      exact out1 _ _ σ _ _ l2 ⟨a1.e.mono l2, s2⟩ ⟨rfl, dx, v, rfl, upd_same, r1.mono l2⟩
  · exact out1.elim
end
end DL

/-! try -/
namespace DL
open PySem L2 PyProof.Rows PySem.Spec
/-- try: body, except one class: h; hd tells which errors are caught -/
def sTry (hd : Nat → Option Bool) (body h : SS) : SS := fun env ms => match body env ms with
  | .err k d env' ms' => (match hd k with
    | some true => h env' ms'
    | some false => .err k d env' ms'
    | none => .stuck)
  | r => r
section
variable {G : Gx} {X : Cx} {W : WX} {C : Cfg} {sc : Scope} {x : Str} {c : Nat} {hd : Nat → Option Bool} {body suite : List Stmt} {b₀ : Stmt} {f h : SS} {np pos pos' : Pos}
theorem GoodS.tr (g : GoodS G C sc X W) {W2 : WX} {pn : List (Addr × Obj)} {xe : Value → Shared → Prop} (tk : Takes (X.tr pn xe) W2) (po : PassesOwn (model X.prog X.w) X.A X.env xe) : GoodS G C sc (X.tr pn xe) W2 :=
  { K := g.K, N := g.N, nd := g.nd, sc := g.sc, calm := g.calm, un := g.un, un2 := g.un2, gd := g.gd, tk := tk, st := g.st, po := po, kd := g.kd, stk := g.stk, fr := g.fr,
    gl := fun y v q => by
      have := g.gl y v q
      cases v with
      | fn F n sh => exact ⟨this.ex⟩
      | val d => exact this
      | bi b => exact this
      | ty t => exact this
      | er c fs ex => exact this
      | tb kvs => exact this
      | cl I => exact ClOk.blk (show ClOk G X y I from this) rfl rfl rfl rfl rfl rfl }
theorem js_try (g : GoodS G C sc X W) (hc : Names X x (.ref (G.EC c))) (hx : ∀ k b, hd k = some b → PySem.W.exmOne X.K (.ref (G.EC k)) (.ref (G.EC c)) = some b)
    (hb : ∀ (X2 : Cx) (W2 : WX), GoodS G C sc X2 W2 → JSs G X2 W2 body f) (hsu : ∀ (a : Addr) (pn : List (Addr × Obj)), JSs G (X.suite a pn) W (b₀ :: suite) h) :
    JS G X W (.Try body [.ExceptHandler (some (.Name x np)) none (b₀ :: suite) pos'] [] [] pos) (sTry hd f h) := by
  refine PS.imp (ps_try_only (tb := fun W2 => tS G W2 f) (ts := fun _ _ _ => tS G W h) g.stk g.fr hc g.tk (fun W2 pn xe tk po => hb _ _ (g.tr tk po)) fun a oe cls d pn _ _ => hsu a _) fun K σ H ⟨w, env, ms, at_, out⟩ => ⟨w, env, ms, at_, ?_⟩
  unfold sTry at out
  cases q : f env ms with
  | nx e m => rw [q] at out; exact out
  | ret e m => rw [q] at out; exact out
  | brk e m => rw [q] at out; exact out
  | cnt e m => rw [q] at out; exact out
  | stuck => rw [q] at out; exact out
  | err k d env' ms' =>
    rw [q] at out
    simp only at out
    cases q2 : hd k with
    | none => rw [q2] at out; exact out.elim
    | some b =>
      rw [q2] at out
      intro cls dd σ' H' w' l at' eo
      have ec := eo.1
      subst ec
      refine ⟨b, hx k b q2, fun e a _ => ?_, fun e => ?_⟩
      · subst e
        exact ⟨w', env', ms', at', OutS.mono l out⟩
      · subst e
        exact out _ dd σ' H' w' l at' eo
end
end DL

/-! x[::-1] -/
namespace DL
open PySem PySem.Spec PyProof.Rows L2 HT
section
variable {prog : Program} {w : World} {A : Around} {E : Value → Shared → Prop} {s : Shared}
theorem sliceApplied_rev {sl : Addr} {vs : Value} {n : Nat} {Q : Int × Int × Nat → Shared → Prop} (hs : s.heap.IsSliceOf sl .none .none vs) (ps : IsPart vs (some (-1)))
    (h : Q (((n : Int) - 1), -1, n) s) : wpAny (model prog w) A (Builtin.Slice.sliceApplied (.ref sl) (pure (n : Int))) Q E s := by
  obtain ⟨os, hos, hcs, hds⟩ := id hs
  unfold Builtin.Slice.sliceApplied Builtin.Slice.sliceFields
  refine wpAny_bind (wpAny_bind (wpAny_field hos hds (x := .none) rfl (wpAny_bind (wpAny_field hos hds (x := .none) rfl (wpAny_bind (wpAny_field hos hds (x := vs) rfl (wpAny_pure ?_)))))))
  refine wpAny_bind (slicePart_ ps ?_)
  show wpAny _ _ (if ((-1 : Int) == 0) = true then _ else _) _ _ s
  rw [if_neg (by decide)]
  refine wpAny_bind (slicePart_ .none (wpAny_bind (slicePart_ .none (wpAny_bind (wpAny_pure ?_)))))
  have e1 : Builtin.Slice.sliceAdjust none none (-1) (n : Int) = ((n : Int) - 1, -1) := by
    unfold Builtin.Slice.sliceAdjust
    simp
  have e2 : Builtin.Slice.slicePlaces ((n : Int) - 1) (-1) (-1) = n := by
    unfold Builtin.Slice.slicePlaces
    simp only [show ¬ ((-1 : Int) > 0) by omega, if_false, show -(-1 : Int) = 1 by rfl, Int.ediv_one]
    split <;> omega
  show wpAny _ _ (match Builtin.Slice.sliceAdjust none none (-1) (n : Int) with | (lo, hi) => pure (lo, (-1 : Int), Builtin.Slice.slicePlaces lo hi (-1))) _ _ s
  rw [e1]
  show wpAny _ _ (pure ((n : Int) - 1, (-1 : Int), Builtin.Slice.slicePlaces ((n : Int) - 1) (-1) (-1))) _ _ s
  rw [e2]
  exact wpAny_pure h
theorem pick_rev (xs : Array Value) : ((List.range xs.size).filterMap fun (m : Nat) => xs[((xs.size : Int) - 1 + (m : Int) * (-1)).toNat]?).toArray = xs.toList.reverse.toArray := by
  have e : (List.range xs.size).filterMap (fun (m : Nat) => xs[((xs.size : Int) - 1 + (m : Int) * (-1)).toNat]?) = ((List.range xs.size).map fun k => xs.size - 1 - k).filterMap (xs[·]?) := by
    rw [List.filterMap_map]
    congr 1
    funext m
    show xs[((xs.size : Int) - 1 + (m : Int) * (-1)).toNat]? = xs[xs.size - 1 - m]?
    have : ((xs.size : Int) - 1 + (m : Int) * (-1)).toNat = xs.size - 1 - m := by omega
    rw [this]
  rw [e, PySem.W.krv_range, List.filterMap_reverse, PySem.W.krv_all]
theorem getItem_tuple_rev {t sl : Addr} {items : Array Value} {vs : Value} {Q : Value → Shared → Prop} (ht : IsTup s.heap t items) (hs : s.heap.IsSliceOf sl .none .none vs) (ps : IsPart vs (some (-1)))
    (h : Q (.ref s.heap.objs.size) { s with heap := s.heap.push { cls := .type "tuple", data := .seq items.toList.reverse.toArray } })
    (hsz : items.size ≤ sizeLine) : wpAny (model prog w) A (getItem (.ref t) (.ref sl)) Q E s := by
  have htake : sizeOk (.seq items.toList.reverse.toArray) := by
    show items.toList.reverse.toArray.size ≤ sizeLine
    rw [List.size_toArray, List.length_reverse, Array.length_toList]
    exact hsz
  obtain ⟨os, hos, hcs, hds⟩ := id hs
  have hTs : s.TypeIs (.ref sl) "slice" := ⟨os, hos, hcs⟩
  unfold getItem
  try with_reducible refine wpAny_holding ?_
  first | refine wpAny_bind (wpAny_pure ?_) | skip
  refine wpAny_bind (wpAny_sequenceKey ht.typeIs (by decide) ?_)
  refine wpAny_bind (wpAny_callSpecial?_slot (name := Str.ofString "__getitem__") ht.typeIs PyProof.Rows.slot_tuple_getitem
    (wpAny_call_entry PyProof.Rows.slot_tuple_getitem ht.typeIs entry_tuple_getitem ?_ (args_tuple_getitem _ _)))
  show wpAny _ _ (Builtin.Tuple.tupleItemsOf (.ref t) >>= _) _ _ s
  refine wpAny_bind (tupleItemsOf_ ht ?_)
  refine wpAny_bind (wpAny_typeOf hTs ?_)
  rw [if_pos (by decide)]
  refine wpAny_bind (sliceApplied_rev hs ps ?_)
  have hno : ¬ ((((items.size : Int) - 1) == 0 && (-1 : Int) == 1 && items.size == items.size) = true) := by
    intro q
    rw [Bool.and_eq_true, Bool.and_eq_true] at q
    have q1 : (-1 : Int) = 1 := eq_of_beq q.1.2
    omega
  show wpAny _ _ (if (((items.size : Int) - 1) == 0 && (-1 : Int) == 1 && items.size == items.size) = true then _ else _) _ _ s
  rw [if_neg hno, pick_rev]
  first
    | exact wpAny_bind (m := Builtin.Tuple.tupleExact _) (wpAny_newObj_type (wpAny_pure ⟨_, rfl, wpAny_pure h⟩) htake)
    | exact wpAny_bind (m := Builtin.Tuple.tupleExact _) (wpAny_newObj_type (wpAny_bind (wpAny_pure (wpAny_pure ⟨_, rfl, wpAny_pure h⟩))) htake)
    | exact wpAny_bind (wpAny_bind (m := Builtin.Tuple.tupleExact _) (wpAny_newObj_type (wpAny_pure (wpAny_pure ⟨_, rfl, wpAny_pure h⟩)) htake))
    | exact wpAny_bind (wpAny_bind (m := Builtin.Tuple.tupleExact _) (wpAny_newObj_type (wpAny_pure ⟨_, rfl, wpAny_pure h⟩) htake))
end
section
variable {X : Cx}
def tRevT (K : PySem.W.Frag) (te : TE) : TE := fun σ H Q => te σ H fun x H1 => ∃ a xs, x = .ref a ∧ SqT K H1 a xs ∧ ∀ p, H1 p = none → Q (.ref p) (upd H1 p (.tup xs.reverse))
theorem pe_revT {e : Expr} {te : TE} {k : Nat} {p1 p2 p3 pos : Pos} (he : PE X e te) : PE X (.Subscript e (.Slice none none (some (.UnaryOp .USub (.Constant (.int 1) k p1) p2)) p3) pos) (tRevT X.K te) := by
  refine ⟨fun pins s σ H Q I h => ?_⟩
  refine Subscript_ (thn (he.run pins s σ H _ I h) fun v s1 ⟨x, H1, I1, r1, q1⟩ => ?_)
  obtain ⟨a, xs, ex, hx, q⟩ := q1
  subst ex
  cases r1
  have hst : PO X (some (.UnaryOp .USub (.Constant (.int 1) k p1) p2)) (tPart (tUn (rU fun i => .int (-i)) (tC (.int 1)))) := po_some (pe_un un_neg pe_int)
  refine wpAny_Slice (thn (po_none.run pins s1 σ H1 (fun o H2 => o = none ∧ H2 = H1) I1 ⟨rfl, rfl⟩) fun vl s2 ⟨l, H2, I2, pl, el, e2⟩ => ?_)
  subst el e2
  refine thn (po_none.run pins s2 σ H2 (fun o H3 => o = none ∧ H3 = H2) I2 ⟨rfl, rfl⟩) fun vu s3 ⟨u, H3, I3, pu, eu, e3⟩ => ?_
  subst eu e3
  refine thn (hst.run pins s3 σ H3 (fun o H4 => o = some (-1) ∧ H4 = H3) I3 ⟨1, rfl, -1, rfl, rfl, rfl⟩) fun vs s4 ⟨o, H4, I4, ps, eo, e4⟩ => ?_
  subst eo e4
  have I5 : Inv X pins σ H4 { s4 with heap := s4.heap.push { cls := .type "slice", data := .fields #[vl, vu, vs] } } := I4.kept (t' := s4.toks) fun b ob q => Heap.get?_push_of_some _ q
  obtain ⟨its, r, ht, hz⟩ := I5.tuple hx
  have hlen := r.length
  show wpAny (model X.prog X.w) X.A (subscriptTail e (.Slice none none (some (.UnaryOp .USub (.Constant (.int 1) k p1) p2)) p3) (.ref a) (.ref s4.heap.objs.size)) (EP X pins σ Q) X.xe { s4 with heap := s4.heap.push { cls := .type "slice", data := .fields #[vl, vu, vs] } }
  refine tail_any (ops := [.ref a, .ref s4.heap.objs.size]) ht.typeIs (PyProof.Rows.slot_tuple_getitem.lookup) ?_ (by with_unfolding_all rfl)
  cases pl
  cases pu
  refine getItem_tuple_rev ht (Heap.IsSliceOf.new _ .none .none vs) ps ?_ (by rw [List.size_toArray]; omega)
  refine ⟨.ref _, _, I5.laid (t' := s4.toks) (o := .tup xs.reverse) (fun b ob q => Heap.get?_push_of_some _ q) (Nat.le_refl _) ?_, rfl, q _ (I5.hok.fresh (Nat.le_refl _))⟩
  exact ⟨by rw [List.length_reverse]; exact hz, _, r.reverse, IsTup.new _ _⟩
end
/-- x[::-1] of a list, a tuple -/
def revD (ms : MS) (d : D) : Option D := match d with
  | .tup xs => some (.tup xs.reverse)
  | d => (lstOf ms d).map fun xs => .lst xs.reverse
def sRev (f : SE) : SE := fun env ms => (f env ms).bind fun d ms => optR (revD ms d) ms
theorem je_rev {G : Gx} {X : Cx} {W : WX} {a : Expr} {fa : SE} {k : Nat} {p1 p2 p3 pos : Pos} (hK : X.K = G.K) (ha : JE G X W a fa) : JE G X W (.Subscript a (.Slice none none (some (.UnaryOp .USub (.Constant (.int 1) k p1) p2)) p3) pos) (sRev fa) :=
  PE.imp (PE.or (pe_revT ha) (pe_revL ha)) fun σ H Q ⟨w, env, ms, at_, out⟩ => by
    unfold sRev at out
    cases q : fa env ms with
    | stuck => rw [q] at out; exact out.elim
    | err c x m => rw [q] at out; exact .inl ⟨w, env, ms, at_, by rw [q]; exact out⟩
    | ok d m =>
      rw [q] at out
      obtain ⟨r, e, kk⟩ := Out.opt (show OutD G w (optR (revD m d) m) Q _ from out)
      cases d with
      | tup xs =>
        simp only [revD, Option.some.injEq] at e
        subst e
        refine .inl ⟨w, env, ms, at_, ?_⟩
        rw [q]
        intro v H' w' l s rr
        cases rr with
        | tup h hs => exact ⟨_, _, rfl, hK ▸ tq_of s h, Want.newT (fun v2 H2 w2 l2 s2 r2 => kk v2 H2 w2 (l.trans l2) s2 r2) s hs.reverse⟩
      | _ =>
        simp only [revD, Option.map_eq_some_iff] at e
        obtain ⟨xs, e, rfl⟩ := e
        refine .inr ⟨w, env, ms, at_, ?_⟩
        rw [q]
        intro v H' w' l s rr
        obtain ⟨b, vs, rfl, hb, hs⟩ := lstOf_ok s e rr
        exact ⟨b, vs, rfl, SqL.of hb, Want.newL (fun v2 H2 w2 l2 s2 r2 => kk v2 H2 w2 (l.trans l2) s2 r2) s hs.reverse⟩
end DL

/-! try .. except C as n: y = n.f, y = [n.f] -/
namespace DL
open PySem L2 PyProof.Rows PySem.Spec
def wrD (wr : Bool) (d : D) : D := if wr = true then .lst [d] else d
/-- hd: which errors are caught; c: the one whose field is read; i: n's slot; j: y's slot; wr: in a list -/
def sTryF (hd : Nat → Option Bool) (c i j : Nat) (wr : Bool) (body : SS) : SS := fun env ms => match body env ms with
  | .err k d env' ms' => (match hd k with
    | some true => if k = c ∧ i < env'.length then .nx ((env'.set j (some (wrD wr d))).set i none) ms' else .stuck
    | some false => .err k d env' ms'
    | none => .stuck)
  | r => r
theorem set3 {α : Type} {l : List α} {i j : Nat} {a b c : α} (h : i ≠ j) : ((l.set i a).set j b).set i c = (l.set j b).set i c := by
  rw [List.set_comm _ _ h.symm, List.set_set, List.set_comm _ _ h.symm]
section
variable {G : Gx} {X : Cx} {W : WX} {C : Cfg} {sc : Scope} {x n y : Str} {c i j : Nat} {hd : Nat → Option Bool} {body : List Stmt} {f : SS} {np pos pos' py p1 p2 p3 ps : Pos}
theorem js_tryF {wr : Bool} {val : Expr} (g : GoodS G C sc X W) (hc : Names X x (.ref (G.EC c))) (hx : ∀ k b, hd k = some b → PySem.W.exmOne X.K (.ref (G.EC k)) (.ref (G.EC c)) = some b) (T : XfC X.K (G.EC c)) (hno : PySem.W.findIn X.K (.ref (G.EC c)) (erF c) = some none)
    (hi : X.N[i]? = some n) (hln : X.env.scope.names.lookup n = some .local) (hdb : (n == ("__debug__" : Str)) = false) (hcd : (n == ("__classdict__" : Str)) = false) (hj : X.N[j]? = some y) (hly : L2.Loc X.env.scope y) (hfy : X.fn y = true ∨ X.env.scope.names.lookup y = some .local) (hij : i ≠ j)
    (hb : ∀ (X2 : Cx) (W2 : WX), GoodS G C sc X2 W2 → JSs G X2 W2 body f)
    (hv : val = if wr = true then .List [.Attribute (.Name n p1) (erF c) p2] p3 else .Attribute (.Name n p1) (erF c) p2) :
    JS G X W (.Try body [.ExceptHandler (some (.Name x np)) (some n) [.Assign [.Name y py] val ps] pos'] [] [] pos) (sTryF hd c i j wr f) := by
  have N : X.N.Nodup := by rw [g.N]; exact g.nd
  have at_ : ∀ (a : Addr) (oe : Obj) (cls : Value) (d : Option Addr) (pn : List (Addr × Obj)), Zc cls d oe → (∃ vs, oe.data = .fields vs) → PE (X.suite a ((a, oe) :: pn)) (.Attribute (.Name n p1) (erF c) p2) (tXf a cls d (G.EC c) (erF c) (tVar i)) := fun a oe cls d pn hz hf =>
    pe_xf T hno hz hf (pe_var hi (.inl hln) hdb hcd)
  have done : ∀ {w : Wd} {env : DE} {ms : MS} {K : Ends}, (∀ (k : Nat) (d : D) (env' : DE) (ms' : MS), f env ms = .err k d env' ms' → OutS G w (match hd k with
      | some true => if k = c ∧ i < env'.length then .nx ((env'.set j (some (wrD wr d))).set i none) ms' else .stuck
      | some false => .err k d env' ms'
      | none => .stuck) K W → OutS G w (.err k d env' ms') K (wAs X.K (.ref (G.EC c)) i (fun a cls d => tAsg (if wr = true then tLst (tCons (tXf a cls d (G.EC c) (erF c) (tVar i)) tNil) else tXf a cls d (G.EC c) (erF c) (tVar i)) (gName j)) W K)) → OutS G w (sTryF hd c i j wr f env ms) K W →
      OutS G w (f env ms) K (wAs X.K (.ref (G.EC c)) i (fun a cls d => tAsg (if wr = true then tLst (tCons (tXf a cls d (G.EC c) (erF c) (tVar i)) tNil) else tXf a cls d (G.EC c) (erF c) (tVar i)) (gName j)) W K) := by
    intro w env ms K he out
    unfold sTryF at out
    cases q : f env ms with
    | nx e m => rw [q] at out; exact out
    | ret e m => rw [q] at out; exact out
    | brk e m => rw [q] at out; exact out
    | cnt e m => rw [q] at out; exact out
    | stuck => rw [q] at out; exact out
    | err k d env' ms' => rw [q] at out; exact he k d env' ms' q out
  refine PS.imp (ps_try_as (tb := fun W2 => tS G W2 f) (ts := fun a cls d => tAsg (if wr = true then tLst (tCons (tXf a cls d (G.EC c) (erF c) (tVar i)) tNil) else tXf a cls d (G.EC c) (erF c) (tVar i)) (gName j)) g.stk g.fr N hi hln hc g.tk (fun W2 pn xe tk po => hb _ _ (g.tr tk po)) fun a oe cls d pn hz hf => ?_) fun K σ H ⟨w, env, ms, at0, out⟩ => ⟨w, env, ms, at0, done (fun k d env' ms' q o2 => ?_) out⟩
  · subst hv
    cases wr with
    | false => exact pss_one (ps_asg (at_ a oe cls d pn hz hf) (pg_name N hj hly hfy) rfl rfl rfl)
    | true => exact pss_one (ps_asg (pe_lst (pa_cons (at_ a oe cls d pn hz hf) pa_nil rfl)) (pg_name N hj hly hfy) rfl rfl rfl)
  · cases q2 : hd k with
    | none => rw [q2] at o2; exact o2.elim
    | some b =>
      rw [q2] at o2
      intro cls dd σ' H' w' l at' eo
      have ec := eo.1
      subst ec
      refine ⟨b, hx k b q2, fun e a na => ?_, fun e => ?_⟩
      · subst e
        simp only at o2
        split at o2
        · rename_i hk
          obtain ⟨rfl, hlt⟩ := hk
          obtain ⟨_, dx, v, e2, e3, r⟩ := eo
          have hs : (σ'.set i (some (.ref a)))[i]? = some (some (.ref a)) := List.getElem?_set_self (by rw [← at'.e.len]; exact hlt)
          have hxd := at'.s.sub _ _ e3
          cases wr with
          | false =>
            refine ⟨.ref a, hs, rfl, rfl, dx, [(erF k, v)], v, e2, hxd, ?_, ?_⟩
            · rw [List.lookup_cons, beq_self_eq_true]
            · show K.nx (((σ'.set i (some (.ref a))).set j (some v)).set i none) H'
              rw [set3 hij]
              exact o2 _ H' w' l ⟨(at'.e.set j r).wipe1 i, at'.s⟩
          | true =>
            refine ⟨.ref a, hs, rfl, rfl, dx, [(erF k, v)], v, e2, hxd, ?_, ?_, fun p hp => ?_⟩
            · rw [List.lookup_cons, beq_self_eq_true]
            · rw [sizeLine_eq]; simp
            · show K.nx (((σ'.set i (some (.ref a))).set j (some (.ref p))).set i none) _
              rw [set3 hij]
              obtain ⟨s2, l2⟩ := at'.s.lay hp (.lst [v])
              exact o2 _ _ _ (l.trans l2) ⟨((at'.e.mono l2).set j (.lst upd_same (.cons (r.mono l2) .nil))).wipe1 i, s2⟩
        · exact o2.elim
      · subst e
        exact o2 _ dd σ' H' w' l at' eo
end
end DL

/-! more forms; a new mutable thing behind a call -/
namespace DL
open PySem L2

/-! ### script + [..] -/
def scrAdd (sx : List Int) : VO2 := fun ms a b => match a, b with
  | .scr, .lst ys => if sx.length + ys.length ≤ 16777216 then some (.lst (sx.map D.int ++ ys)) else none
  | _, _ => none
theorem Rps.ints {G : Gx} {w : Wd} : ∀ xs : List Int, Rps G w (xs.map D.int) (xs.map V.int)
  | [] => .nil
  | x :: xs => .cons (.int x) (Rps.ints xs)
theorem ints_vals {vs : List Value} {ns : List Int} (h : PyProof.Rows.IntsAre vs ns) : Vals (ns.map V.int) vs := by
  induction h with
  | nil => exact .nil
  | cons n t _ ih => exact .cons ⟨t, rfl⟩ ih
theorem op2_scr {G : Gx} {X : Cx} (hK : X.K = G.K) : Op2 G X (binaryOp .Add) (scrAdd G.sx) := fun pins s σ H x y v u Q w ms a b d I rx ry si ra rb e q => by
  cases ra with
  | scr h => cases rb with
    | @lst b zs ys hb hs =>
      simp only [scrAdd] at e
      split at e
      · rename_i hz
        cases e
        obtain ⟨vs, hi, hl, hh⟩ := h
        cases rx
        cases ry
        have rv := ints_vals hi
        have e1 : s.heap.get? G.sa = some { cls := .type "list", data := .seq vs.toArray } := by
          rcases hh with hh | hh
          · exact I.kIn _ _ (by rw [hK]; exact hh)
          · exact (I.hok _ _ (si.sub _ _ hh)).1
        obtain ⟨z2, its2, n2, r2, hl2, e2⟩ := I.lstM (si.sub _ _ hb)
        have l1 : vs.length = G.sx.length := by have := rv.length; simpa using this.symm
        have l2 : its2.length = ys.length := by have := hs.length; omega
        refine PySem.P.add_list e1 e2 ?_ (by rw [List.size_toArray, List.size_toArray, sizeLine_eq]; omega)
        have ea : vs.toArray ++ its2.toArray = (vs ++ its2).toArray := by simp
        rw [ea]
        exact ⟨.ref _, _, I.lnew (t' := s.toks) (rv.append r2) (by rw [List.length_append, List.length_map, sizeLine_eq]; have := hs.length; omega), rfl, q.newL si ((Rps.ints G.sx).append hs) _ I.fresh⟩
      · cases e
    | _ => cases e
  | _ => cases e

/-! ### a new mutable thing behind a call -/
open Classical in
/-- the result may be one new mutable thing -/
noncomputable def cutN (F : SF) : SF := fun ds ms => match F ds ms with
  | .ok (.loc n) ms' => (match ms'[n]? with
    | some o => if Kept ms ms' ∧ ms.length ≤ n ∧ moLt ms.length o = true then .ok (.loc ms.length) (ms'.take ms.length ++ [o]) else .stuck
    | none => .stuck)
  | _ => .stuck
theorem SI.cut1 {G : Gx} {w w' : Wd} {ms ms' : MS} {H H' : Hp} {n : Nat} {o : MO} {a : Addr} (s : SI G w ms H) (l : w.le w') (s' : SI G w' ms' H') (k : Kept ms ms') (hn : ms.length ≤ n) (ho : ms'[n]? = some o) (lt : moLt ms.length o = true) (ha : w'.as[n]? = some a) :
    SI G ⟨w'.B, w'.as.take ms.length ++ [a]⟩ (ms'.take ms.length ++ [o]) H' ∧ w.le ⟨w'.B, w'.as.take ms.length ++ [a]⟩ := by
  obtain ⟨s2, l2⟩ := s.cut l s' k
  have l3 : (Wd.mk w'.B (w'.as.take ms.length)).le ⟨w'.B, w'.as.take ms.length ++ [a]⟩ := ⟨Same.refl _, List.prefix_append _ _⟩
  have ln : w'.as.length = ms'.length := s'.len
  have lk := k.1
  have len1 : (w'.as.take ms.length).length = ms.length := by rw [List.length_take]; omega
  have len2 : (ms'.take ms.length).length = ms.length := by rw [List.length_take]; omega
  refine ⟨⟨s2.sub, ?_, ?_, ?_, ?_⟩, l2.trans l3⟩
  · show (w'.as.take ms.length ++ [a]).length = (ms'.take ms.length ++ [o]).length
    rw [List.length_append, List.length_append, len1, len2]; rfl
  · show (w'.as.take ms.length ++ [a]).Nodup
    rw [List.nodup_append]
    refine ⟨s2.nd, by simp, fun x hx y hy e => ?_⟩
    subst e
    rw [List.mem_singleton] at hy
    subst hy
    obtain ⟨i, hi, he⟩ := List.getElem_of_mem hx
    rw [len1] at hi
    rw [List.getElem_take] at he
    obtain ⟨hn', hg⟩ := List.getElem?_eq_some_iff.mp ha
    have := (List.getElem_inj s'.nd).mp (he.trans hg.symm)
    omega
  · intro x hx
    rcases List.mem_append.mp hx with hx | hx
    · exact s2.th x hx
    · rw [List.mem_singleton] at hx
      subst hx
      exact s'.th x (List.mem_of_getElem? ha)
  · intro j b m hb hm
    by_cases hj : j < ms.length
    · have hb' : (w'.as.take ms.length)[j]? = some b := by
        have z : (w'.as.take ms.length ++ [a])[j]? = some b := hb
        rw [List.getElem?_append_left (by rw [len1]; exact hj)] at z
        exact z
      rw [List.getElem?_append_left (by rw [len2]; exact hj)] at hm
      have q := s2.mo j b m hb' hm
      exact q.mono l3 fun hd => q.b hd
    · have z : (w'.as.take ms.length ++ [a])[j]? = some b := hb
      rw [List.getElem?_append_right (by rw [len1]; omega), len1] at z
      rw [List.getElem?_append_right (by rw [len2]; omega), len2] at hm
      cases hjj : j - ms.length with
      | succ t => rw [hjj] at z; simp at z
      | zero =>
        rw [hjj] at z hm
        simp at z hm
        subst z hm
        have q := (s'.mo n a o ha ho).cutW lt
        exact q.mono l3 fun hd => q.b hd
theorem spF_cutN {G : Gx} {F : SF} {n : Nat} {vs : List V} {H : Hp} {Q : VK} {E : XK} (h : spF G (cutN F) n vs H Q E) : spF G F n vs H Q E := by
  obtain ⟨w, ms, ds, si, rd, hl, out⟩ := h
  refine ⟨w, ms, ds, si, rd, hl, ?_⟩
  unfold cutN at out
  cases q : F ds ms with
  | stuck => rw [q] at out; exact out.elim
  | err c x ms' => rw [q] at out; exact out.elim
  | ok d ms' =>
    rw [q] at out
    cases d with
    | loc m =>
      simp only at out
      cases q2 : ms'[m]? with
      | none => rw [q2] at out; exact out.elim
      | some o =>
        rw [q2] at out
        simp only at out
        split at out
        · rename_i hc
          intro v H' w' l s r
          cases r with
          | @loc _ a ha =>
            obtain ⟨s2, l2⟩ := si.cut1 l s hc.1 hc.2.1 q2 hc.2.2 ha
            refine out _ H' _ l2 s2 (.loc ?_)
            have ln : w'.as.length = ms'.length := s.len
            have lk := hc.1.1
            have len1 : (w'.as.take ms.length).length = ms.length := by rw [List.length_take]; omega
            show (w'.as.take ms.length ++ [a])[ms.length]? = some a
            rw [List.getElem?_append_right (by rw [len1]; exact Nat.le_refl _), len1]
            simp
        · exact out.elim
    | _ => exact out.elim
/-- THE RULE, for a def that gives a new mutable thing -/
theorem fn_okNE {G : Gx} {P : Program} {w : World} {mg : Str → Option Value} {base : Heap} {x qual : Str} {st : Stmt} {f : Addr} {fd : FuncData} {ps : List Str} {k d n : Nat} {C : Cfg} {body : SS} {F : SF} (Fu : FunE G.K x qual st f fd) (S : FnScope C.N ps (defScope st)) (hx : ExOkS G C)
    (hgl : ∀ (X : Cx), X.prog = P → X.w = w → X.K = G.K → X.mg = mg → X.base = base → Room k X.A → X.A.guards = some [] → ∀ x g, C.gl.lookup x = some g → GlOk G X x g)
    (hb : cpS C d n (defScope st) (defBody st) = some body) (hF : ∀ ds ms, F ds ms ≠ .stuck → ds.length = ps.length → cutN (runD C.N.length body) ds ms = F ds ms) :
    FnG P w G.K mg base (k + 1) f fd ps (spF G F ps.length) := by
  have h := fn_def (G := G) (P := P) (w := w) (mg := mg) (base := base) (k := k) (body := body) Fu S fun X W h1 h2 h3 h4 h5 h6 h7 h8 h9 h10 h11 h12 hr hgd tk po => by
    refine (cpS_ok hx d n).s (defScope st) X W ?_ _ _ hb
    exact { K := h3, N := h6, nd := S.nd, sc := h7, calm := h8, un := by have := hr.un; omega, un2 := by have := hr.un; omega, gd := hgd, tk := tk, st := fun x hl => ⟨by rw [h7]; exact locB_ok hl, .inl (by rw [h9])⟩, gl := hgl X h1 h2 h3 h4 h5 hr hgd, po := po, kd := S.kind, stk := h11, fr := h12 }
  refine h.imp fun vs H Q E q => spF_cutN ?_
  obtain ⟨w', ms, ds, si, rd, hl, out⟩ := q
  refine ⟨w', ms, ds, si, rd, hl, ?_⟩
  by_cases hs : F ds ms = .stuck
  · rw [hs] at out; exact out.elim
  · rw [hF ds ms hs hl]; exact out

theorem fn_okN {G : Gx} {P : Program} {w : World} {mg : Str → Option Value} {base : Heap} {x qual : Str} {st : Stmt} {f : Addr} {fd : FuncData} {ps : List Str} {k d n : Nat} {C : Cfg} {body : SS} {F : SF} (Fu : Fun G.K x qual st f fd) (S : FnScope C.N ps (defScope st)) (hx : ExOkS G C)
    (hgl : ∀ (X : Cx), X.prog = P → X.w = w → X.K = G.K → X.mg = mg → X.base = base → Room k X.A → X.A.guards = some [] → ∀ x g, C.gl.lookup x = some g → GlOk G X x g)
    (hb : cpS C d n (defScope st) (defBody st) = some body) (hF : ∀ ds ms, F ds ms ≠ .stuck → ds.length = ps.length → cutN (runD C.N.length body) ds ms = F ds ms) :
    FnG P w G.K mg base (k + 1) f fd ps (spF G F ps.length) :=
  fn_okNE (funE Fu) S hx hgl hb hF
/-! ### the hooks -/
structure Hk where
  mu : Bool := false
  sx : Option (List Int) := none
  dst : List Str := []
  give : List Str := []
  rz : Bool := false
  fresh : Bool := false
def cPs (ce : Expr → Option SE) : List (Option Expr) → List Expr → Option (List (SE × SE))
  | [], [] => some []
  | some k :: ks, v :: vs => (ce k).bind fun f => (ce v).bind fun g => (cPs ce ks vs).bind fun r => some ((f, g) :: r)
  | _, _ => none
/-- T[e], T a table of the module with text keys -/
def sTab (kvs : List (Str × D)) (f : SE) : SE := fun env ms => (f env ms).bind fun d ms => match d with
  | .str k => optR (kvs.lookup k) ms
  | _ => .stuck
theorem je_tab {G : Gx} {X : Cx} {W : WX} {x : Str} {kvs : List (Str × D)} {b : Expr} {fb : SE} {p pos : Pos} (h : GlOk G X x (.tb kvs)) (hg : Gl X x) (hd : (x == ("__debug__" : Str)) = false) (hb : JE G X W b fb) (hs : PlainIx b) : JE G X W (.Subscript (.Name x p) b pos) (sTab kvs fb) := by
  obtain ⟨a, hm, hk⟩ := h
  refine PE.imp (pe_ix ix_kdict (pe_glob (v := .ref a) hg hm rfl hd) hb hs) fun σ H Q ⟨w, env, ms, at_, out⟩ => ?_
  refine ⟨w, env, ms, at_, Out.bind out fun d ms1 v H1 w1 l1 s1 r1 out1 => ?_⟩
  cases r1 with
  | str k =>
    obtain ⟨r, e, q⟩ := Out.opt out1
    obtain ⟨v, h1, h2⟩ := hk k r e
    exact ⟨a, k, v, rfl, rfl, h1, q.here s1 (h2 _)⟩
  | _ => exact out1.elim
/-- a property of some class -/
def prOf (C : Cfg) (f : Str) : Option (Str × ClI × Str) := C.gl.findSome? fun p => match C.gl.lookup p.1 with
  | some (.cl I) => (I.pr.lookup f).map fun fl => (p.1, I, fl)
  | _ => none
theorem prOf_ok {C : Cfg} {f x fl : Str} {I : ClI} (h : prOf C f = some (x, I, fl)) : C.gl.lookup x = some (.cl I) ∧ I.pr.lookup f = some fl := by
  unfold prOf at h
  obtain ⟨p, _, e⟩ := List.exists_of_findSome?_eq_some h
  split at e
  · rename_i J hl
    rw [Option.map_eq_some_iff] at e
    obtain ⟨z, h1, h2⟩ := e
    cases h2
    exact ⟨hl, h1⟩
  · cases e
/-- a method of some class -/
def meOf (C : Cfg) (m : Str) : Option (Str × ClI × SF × Nat) := C.gl.findSome? fun p => match C.gl.lookup p.1 with
  | some (.cl I) => (I.me.lookup m).map fun z => (p.1, I, z)
  | _ => none
theorem meOf_ok {C : Cfg} {m x : Str} {I : ClI} {F : SF} {n : Nat} (h : meOf C m = some (x, I, F, n)) : C.gl.lookup x = some (.cl I) ∧ I.me.lookup m = some (F, n) := by
  unfold meOf at h
  obtain ⟨p, _, e⟩ := List.exists_of_findSome?_eq_some h
  split at e
  · rename_i J hl
    rw [Option.map_eq_some_iff] at e
    obtain ⟨z, h1, h2⟩ := e
    cases h2
    exact ⟨hl, h1⟩
  · cases e
/-- the classes with a field -/
def flOf (C : Cfg) (f : Str) : List (Nat × Bool) := C.gl.filterMap fun p => match C.gl.lookup p.1 with
  | some (.cl I) => if I.fs.contains f = true then some (I.c, I.rat) else none
  | _ => none
theorem flOf_ok {C : Cfg} {f : Str} {c : Nat} {r : Bool} (h : (c, r) ∈ flOf C f) : ∃ x I, C.gl.lookup x = some (.cl I) ∧ I.c = c ∧ I.rat = r ∧ f ∈ I.fs := by
  unfold flOf at h
  obtain ⟨p, _, e⟩ := List.mem_filterMap.mp h
  split at e
  · rename_i J hl
    split at e
    · rename_i hf
      cases e
      exact ⟨p.1, J, hl, rfl, rfl, by simpa using hf⟩
    · cases e
  · cases e
noncomputable def hkE (h : Hk) (C : Cfg) (ce : CE) (ct : CT) : CE := fun sc e => match e with
  | .Subscript a (.Slice none none (some (.UnaryOp .USub (.Constant (.int 1) _ _) _)) _) _ => (cPk C ce sc a).bind fun f => some (sRev f)
  | .Subscript (.Name x p) b _ => if (glB sc x && plB x && !sliceB b && (ixOf C.N x).isNone) = true then (match C.gl.lookup x with
    | some (.tb kvs) => (cPk C ce sc b).bind fun f => some (sTab kvs f)
    | _ => none) else none
  | .BinOp (.Name x p) .Add (.List es p2) pos => if (x == ("script" : Str)) = true then h.sx.bind fun sx => (ce sc (.Name x p)).bind fun f => (ce sc (.List es p2)).bind fun g => some (sBin (scrAdd sx) f g) else none
  | .Attribute a f _ => if attrB a = true then (match prOf C f with
    | some (_, I, fl) => (cPk C ce sc a).bind fun g => some (sFld [(I.c, I.rat)] fl g)
    | none => (match flOf C f with
      | [] => none
      | c :: cs => (cPk C ce sc a).bind fun g => some (sFld (c :: cs) f g))) else none
  | .Call (.Name x p) (e :: es) [] pos => if (glB sc x && plB x && (ixOf C.N x).isNone) = true then (match C.gl.lookup x with
    | some (.cl I) => (I.ini.lookup (es.length + 1)).bind fun Fd => (cA (ce sc) (e :: es)).bind fun ga => some (cutM (!I.rat) (sMake I.rat I.c Fd.1 I.nI Fd.2 ga))
    | _ => none) else none
  | .Call (.Attribute (.Name y p) m apos) es [] pos => if (plB y && visB sc y && (apos.endLine == pos.line) && decide (es.length < 30)) = true then (match meOf C m with
    | some (_, I, F, n) => (cName C true sc y).bind fun fo => (cA (cLd C ce sc) es).bind fun ga => some (sMeth I.c m F n fo ga)
    | none => none) else none
  | .Dict [] [] _ => some (sDic0 h.mu)
  | .Dict (k :: ks) vs _ => if decide ((k :: ks).length ≤ 15) = true then (cPs (ce sc) (k :: ks) vs).bind fun r => some (sDic h.mu r) else none
  | .ListComp elt [⟨tg, iter, ifs, 0⟩, ⟨tg1, iter1, ifs1, 0⟩] scope pos => cLc2 false C ce ct sc elt tg iter ifs tg1 iter1 ifs1 scope
  | _ => none
def cstD : Const → Option D
  | .int i => some (.int i)
  | .bool b => some (.bl b)
  | .none => some .non
  | .str x => some (.str x)
  | _ => none
noncomputable def hkS (h : Hk) (C : Cfg) (ce : CE) (ct : CT) (css : CSs) (sc : Scope) : Stmt → Option SS
  | .Raise (some (.Call (.Name x p) [a] [] pos)) none pos2 => if h.rz = true then some (fun _ _ => .stuck) else if (glB sc x && plB x && !starB a) = true then (match C.gl.lookup x with
    | some (.er c fs ex) => (ce sc a).bind fun f => some (sRaise c fs f)
    | _ => none) else none
  | .Try body [.ExceptHandler (some (.Name x np)) none [.Return (some (.Constant k j kp)) rp] pos'] [] [] pos => if (glB sc x && plB x) = true then (match C.gl.lookup x with
    | some (.er c fs ex) => (css sc body).bind fun f => (cstD k).bind fun d => some (sTry (fun n => ex.lookup n) f (sRet (sCst d)))
    | _ => none) else none
  | .Try body [.ExceptHandler (some (.Name x np)) (some n) [.Assign [.Name y py] (.Attribute (.Name n' p1) fld p2) ps] pos'] [] [] pos => if (glB sc x && plB x && isLoc sc n && plB n && locB sc y && !(n == y) && n == n') = true then (match C.gl.lookup x with
    | some (.er c fs ex) => if fld = erF c then (css sc body).bind fun f => (ixOf C.N n).bind fun i => (ixOf C.N y).bind fun j => some (sTryF (fun k => ex.lookup k) c i j false f) else none
    | _ => none) else none
  | .Try body [.ExceptHandler (some (.Name x np)) (some n) [.Assign [.Name y py] (.List [.Attribute (.Name n' p1) fld p2] p3) ps] pos'] [] [] pos => if (glB sc x && plB x && isLoc sc n && plB n && locB sc y && !(n == y) && n == n') = true then (match C.gl.lookup x with
    | some (.er c fs ex) => if fld = erF c then (css sc body).bind fun f => (ixOf C.N n).bind fun i => (ixOf C.N y).bind fun j => some (sTryF (fun k => ex.lookup k) c i j true f) else none
    | _ => none) else none
  | .Return (some (.List es _)) _ => if h.fresh = true then (cA (ce sc) es).bind fun g => some (sRet (sNewL g)) else none
  | .Return (some (.ListComp elt [⟨tg, iter, ifs, 0⟩] scope pos)) _ => if h.fresh = true then (cLc true C ce ct sc elt tg iter ifs scope).bind fun f => some (sRet f) else none
  | .Assign [.Attribute (.Name n p1) x p2] a pos => if (plB n && visB sc n && !compB a) = true then (match flOf C x with
    | [(c, r)] => (ixOf C.N n).bind fun i => (ce sc a).bind fun f => some (sSetF i c x f)
    | _ => none) else none
  | .Return (some (.Name x p)) _ => if (x == ("NotImplemented" : Str)) = true then some (fun _ _ => .stuck) else if (h.give.contains x) = true then (cName C true sc x).bind fun f => some (sRet f) else none
  | .Assign [.Subscript (.Name x p1) i p2] a pos => if (h.dst.contains x && plB x && visB sc x && !compB a && !sliceB i) = true then (ixOf C.N x).bind fun j => (ce sc a).bind fun f => (ce sc i).bind fun fi => some (sDput j fi f) else none
  | .Assign [.Tuple [.Name x px, .Subscript (.Name y pd) (.Constant (.str k) kk pk) ps] kt pt] (.Tuple [a, b] k2 pt2) pos => if (locB sc x && h.dst.contains y && plB y && visB sc y && !starB a && !starB b) = true then (ixOf C.N x).bind fun i => (ixOf C.N y).bind fun j => (cA (ce sc) [a, b]).bind fun g => some (sSwap i j k g) else none
  | .Assign [.Name y py] (.ListComp elt [⟨tg, iter, ifs, 0⟩, ⟨tg1, iter1, ifs1, 0⟩] scope pos) spos => if (isLoc sc y && swB sc y py pos scope) = true then (ixOf C.N y).bind fun i => (cLc2 (C.mt.contains y) C ce ct sc elt tg iter ifs tg1 iter1 ifs1 scope).bind fun f => some (sAsg f (gNm i)) else none
  | _ => none
noncomputable def mkC (h : Hk) (C : Cfg) : Cfg := { C with ex := hkE h C, exS := hkS h C }
section
variable {G : Gx} {X : Cx} {W : WX} {C : Cfg} {sc lc : Scope} {h : Hk}
theorem Good.base (g : Good G (mkC h C) sc lc X W) : Good G C sc lc X W := ⟨g.K, g.N, g.nd, g.sc, g.calm, g.un, g.un2, g.gd, g.tk, g.st, g.gl⟩
theorem Good.up (g : Good G C sc lc X W) : Good G (mkC h C) sc lc X W := ⟨g.K, g.N, g.nd, g.sc, g.calm, g.un, g.un2, g.gd, g.tk, g.st, g.gl⟩
theorem Snd.base {ce : CE} {ct : CT} (s : Snd G (mkC h C) ce ct) : Snd G C ce ct := ⟨fun sc lc X W g => s.e sc lc X W g.up, fun sc lc X W g => s.t sc lc X W g.up⟩
theorem cPs_ok {ce : Expr → Option SE} {pos : Pos} (hc : ∀ e f, ce e = some f → JE G X W e f) : ∀ {ks : List (Option Expr)} {vs : List Expr} {r : List (SE × SE)}, cPs ce ks vs = some r → PPs X pos ks vs (r.map fun p => (tE G W p.1, tE G W p.2)) ∧ ks.all (·.isSome) = true ∧ ks.length = vs.length
  | [], [], r, e => by cases e; exact ⟨pps_nil, rfl, rfl⟩
  | some k :: ks, v :: vs, r, e => by
    simp only [cPs] at e
    obtain ⟨f, e1, e⟩ := ob e
    obtain ⟨g, e2, e⟩ := ob e
    obtain ⟨r', e3, e⟩ := ob e
    cases e
    obtain ⟨a, b, c⟩ := cPs_ok hc e3
    exact ⟨pps_cons (hc _ _ e1) (hc _ _ e2) a, by rw [List.all_cons, b]; rfl, by rw [List.length_cons, List.length_cons, c]⟩
  | none :: _, _, _, e => by simp [cPs] at e
  | some _ :: _, [], _, e => by simp [cPs] at e
  | [], _ :: _, _, e => by simp [cPs] at e
theorem je_methA {c n : Nat} {m y : Str} {F : SF} {fo : SE} {ga : SA} {p apos pos : Pos} (hc : Cls X.K (G.OC c)) (hM : MethG G X (G.OC c) m F n) (hgd : X.A.guards = some []) (tk : Takes X W) (ho : JE G X W (.Name y p) fo) {ce : Expr → Option SE} (h : ∀ e f, ce e = some f → JE G X W e f) : ∀ {es : List Expr}, cA ce es = some ga → es.length < 30 → (apos.endLine == pos.line) = true → JE G X W (.Call (.Attribute (.Name y p) m apos) es [] pos) (sMeth c m F n fo ga)
  | [], e2, _, hl => by cases e2; exact je_meth0 hc hM hgd tk ho hl
  | e :: es, e2, hn, hl => je_meth hc hM hgd tk ho (cA_ok h e2) (cA_star e2) hn hl
theorem hkE_ok (hsx : ∀ l, h.sx = some l → l = G.sx) {ce : CE} {ct : CT} (s : Snd G (mkC h C) ce ct) (g : Good G (mkC h C) sc lc X W) {e : Expr} {f : SE} (q : hkE h C ce ct sc e = some f) : JE G X W e f := by
  have he := s.e sc lc X W g
  unfold hkE at q
  split at q
  · obtain ⟨f1, e1, q⟩ := ob q
    cases q
    exact je_rev g.K (cPk_ok g.base he e1)
  · obtain ⟨hc, q⟩ := og q
    simp only [Bool.and_eq_true, Bool.not_eq_true'] at hc
    split at q
    · rename_i kvs hl
      obtain ⟨f1, e1, q⟩ := ob q
      cases q
      exact je_tab (g.gl _ _ hl) (gl_of g.base hc.1.1.1) (plB_ok hc.1.1.2).1 (cPk_ok g.base he e1) (plainIx hc.1.2)
    · cases q
  · obtain ⟨hc, q⟩ := og q
    obtain ⟨l, e0, q⟩ := ob q
    obtain ⟨f1, e1, q⟩ := ob q
    obtain ⟨f2, e2, q⟩ := ob q
    cases q
    rw [hsx l e0]
    exact je_bin (op2_scr g.K) (he _ _ e1) (he _ _ e2)
  · obtain ⟨hc, q⟩ := og q
    split at q
    · rename_i x I fl hp
      obtain ⟨f1, e1, q⟩ := ob q
      cases q
      obtain ⟨hl, hpr⟩ := prOf_ok hp
      have K : ClOk G X x I := g.gl _ _ hl
      exact je_prop K.cls (fun z => (K.rt z).1) (K.pr _ _ hpr) (cPk_ok g.base he e1) hc
    · split at q
      · cases q
      · rename_i c cs hcs
        obtain ⟨f1, e1, q⟩ := ob q
        cases q
        refine je_fld (fun c' r hm => ?_) (cPk_ok g.base he e1) hc
        rw [← hcs] at hm
        obtain ⟨x, I, hl, rfl, rfl, hf⟩ := flOf_ok hm
        have K : ClOk G X x I := g.gl _ _ hl
        exact ⟨K.cls, K.fs _ hf, fun z => (K.rt z).1⟩
  · obtain ⟨hc, q⟩ := og q
    simp only [Bool.and_eq_true] at hc
    split at q
    · rename_i I hl
      obtain ⟨Fd, e1, q⟩ := ob q
      obtain ⟨ga, e2, q⟩ := ob q
      cases q
      obtain ⟨F, dd⟩ := Fd
      have K : ClOk G X _ I := g.gl _ _ hl
      have st := cA_star e2
      simp only [List.all_cons, Bool.and_eq_true, Bool.not_eq_true'] at st
      exact je_cutM (je_make K.rt (K.ini _ _ _ e1) g.gd g.tk (gl_of g.base hc.1.1) K.mg (plB_ok hc.1.2).1 (cA_ok he e2) (star_plain st.1) (star_all st.2))
    · cases q
  · obtain ⟨hc, q⟩ := og q
    simp only [Bool.and_eq_true, decide_eq_true_eq] at hc
    split at q
    · rename_i x I F n hl
      obtain ⟨fo, e1, q⟩ := ob q
      obtain ⟨ga, e2, q⟩ := ob q
      cases q
      obtain ⟨h1, h2⟩ := meOf_ok hl
      have K : ClOk G X _ I := g.gl _ _ h1
      exact je_methA K.cls (K.me _ _ _ h2) g.gd g.tk (cName_ok g.base e1) (fun e f q => cLd_ok g.base he q) e2 hc.2 hc.1.2
    · cases q
  · cases q; exact je_dic0
  · obtain ⟨hc, q⟩ := og q
    obtain ⟨r, e1, q⟩ := ob q
    cases q
    obtain ⟨a, b, c⟩ := cPs_ok he e1
    exact je_dic a b c (by simp) (of_decide_eq_true hc)
  · exact (cLc2_ok g.base s.base q).1
  · cases q
theorem hkS_ok (g : GoodS G (mkC h C) sc X W) {ce : CE} {ct : CT} {css : CSs} (s : Snd G (mkC h C) ce ct) (ss : SndS G (mkC h C) css) {st : Stmt} {f : SS} (q : hkS h C ce ct css sc st = some f) : JS G X W st f := by
  have he := s.e sc sc X W g.toGood
  have gb := g.toGood.base
  unfold hkS at q
  split at q
  · split at q
    · cases q
      exact PS.imp ps_never fun D σ H ⟨_, _, _, _, z⟩ => z
    · obtain ⟨hc, q⟩ := og q
      simp only [Bool.and_eq_true, Bool.not_eq_true'] at hc
      split at q
      · rename_i c fs ex hl
        obtain ⟨f1, e1, q⟩ := ob q
        cases q
        exact js_raise g.calm g.tk (g.gl _ _ hl).1 (gl_of gb hc.1.1) (plB_ok hc.1.2).1 (he _ _ e1) hc.2
      · cases q
  · obtain ⟨hc, q⟩ := og q
    simp only [Bool.and_eq_true] at hc
    split at q
    · rename_i c fs ex hl
      obtain ⟨f1, e1, q⟩ := ob q
      obtain ⟨d1, e2, q⟩ := ob q
      cases q
      obtain ⟨E, hx⟩ := g.gl _ _ hl
      obtain ⟨_, _, _, _, _, _, _, _, _, _, hm, _, _⟩ := E
      refine js_try g ⟨gl_of gb hc.1, (plB_ok hc.2).1, .inl hm⟩ hx (fun X2 W2 g2 => ss.s sc X2 W2 g2 _ _ e1) fun a pn => jss_one (js_ret ?_)
      unfold cstD at e2
      split at e2 <;> cases e2
      · exact je_val pe_int fun w => .int _
      · exact je_val pe_bl fun w => .bl _
      · exact je_val pe_non fun w => .non
      · exact je_val pe_str fun w => .str _
    · cases q
  · obtain ⟨hc, q1⟩ := og q
    clear q
    have q := q1
    clear q1
    simp only [Bool.and_eq_true, Bool.not_eq_true', beq_iff_eq, beq_eq_false_iff_ne] at hc
    obtain ⟨⟨⟨⟨⟨⟨c1, c2⟩, c3⟩, c4⟩, c5⟩, c6⟩, c7⟩ := hc
    subst c7
    split at q
    · rename_i c fs ex hl
      split at q
      · rename_i hfl
        obtain ⟨f1, e1, q⟩ := ob q
        obtain ⟨i, e2, q⟩ := ob q
        obtain ⟨j, e3, q⟩ := ob q
        cases q
        obtain ⟨E, hx⟩ := g.gl _ _ hl
        obtain ⟨_, _, _, _, _, _, _, _, _, _, hm, T, hno⟩ := E
        subst hfl
        exact js_tryF (wr := false) (p3 := ⟨0, 0, 0, 0⟩) g ⟨gl_of gb c1, (plB_ok c2).1, .inl hm⟩ hx T hno (by rw [gb.N]; exact ixOf_ok e2) (loc_lk gb c3) (plB_ok c4).1 (plB_ok c4).2.1 (by rw [gb.N]; exact ixOf_ok e3) (g.st _ c5).1 (g.st _ c5).2 (ix_ne e2 e3 c6) (fun X2 W2 g2 => ss.s sc X2 W2 g2 _ _ e1) rfl
      · cases q
    · cases q
  · obtain ⟨hc, q1⟩ := og q
    clear q
    have q := q1
    clear q1
    simp only [Bool.and_eq_true, Bool.not_eq_true', beq_iff_eq, beq_eq_false_iff_ne] at hc
    obtain ⟨⟨⟨⟨⟨⟨c1, c2⟩, c3⟩, c4⟩, c5⟩, c6⟩, c7⟩ := hc
    subst c7
    split at q
    · rename_i c fs ex hl
      split at q
      · rename_i hfl
        obtain ⟨f1, e1, q⟩ := ob q
        obtain ⟨i, e2, q⟩ := ob q
        obtain ⟨j, e3, q⟩ := ob q
        cases q
        obtain ⟨E, hx⟩ := g.gl _ _ hl
        obtain ⟨_, _, _, _, _, _, _, _, _, _, hm, T, hno⟩ := E
        subst hfl
        exact js_tryF (wr := true) g ⟨gl_of gb c1, (plB_ok c2).1, .inl hm⟩ hx T hno (by rw [gb.N]; exact ixOf_ok e2) (loc_lk gb c3) (plB_ok c4).1 (plB_ok c4).2.1 (by rw [gb.N]; exact ixOf_ok e3) (g.st _ c5).1 (g.st _ c5).2 (ix_ne e2 e3 c6) (fun X2 W2 g2 => ss.s sc X2 W2 g2 _ _ e1) rfl
      · cases q
    · cases q
  · obtain ⟨hc, q⟩ := og q
    obtain ⟨f1, e1, q⟩ := ob q
    cases q
    exact js_ret (je_newL (cA_ok he e1))
  · obtain ⟨hc, q⟩ := og q
    obtain ⟨f1, e1, q⟩ := ob q
    cases q
    exact js_ret (cLc_ok gb s.base e1)
  · obtain ⟨hc, q⟩ := og q
    simp only [Bool.and_eq_true, Bool.not_eq_true'] at hc
    split at q
    · rename_i c r hfl
      obtain ⟨i, e1, q⟩ := ob q
      obtain ⟨f1, e2, q⟩ := ob q
      cases q
      obtain ⟨y, I, hl, hc', _, hf⟩ := flOf_ok (C := C) (c := c) (r := r) (by rw [hfl]; exact List.mem_singleton.mpr rfl)
      subst hc'
      have K : ClOk G X y I := g.gl _ _ hl
      obtain ⟨h1, h2, h3⟩ := plB_ok hc.1.1
      exact js_setF K.cls (K.fs _ hf) (by rw [gb.N]; exact ixOf_ok e1) (by rw [g.sc]; exact visB_ok hc.1.2) h1 h2 (he _ _ e2) (noSwap hc.2)
    · cases q
  · split at q
    · cases q
      exact PS.imp ps_never fun D σ H ⟨_, _, _, _, z⟩ => z
    obtain ⟨hc, q⟩ := og q
    obtain ⟨f1, e1, q⟩ := ob q
    cases q
    exact js_ret (cName_ok gb e1)
  · obtain ⟨hc, q⟩ := og q
    obtain ⟨j, e1, q⟩ := ob q
    obtain ⟨f1, e2, q⟩ := ob q
    obtain ⟨f2, e3, q⟩ := ob q
    cases q
    simp only [Bool.and_eq_true, Bool.not_eq_true'] at hc
    obtain ⟨⟨⟨⟨c0, c1⟩, c2⟩, c3⟩, c4⟩ := hc
    obtain ⟨h1, h2, h3⟩ := plB_ok c1
    exact js_dput (by have := g.un; omega) (by rw [gb.N]; exact ixOf_ok e1) (by rw [g.sc]; exact visB_ok c2) h1 h2 (he _ _ e2) (he _ _ e3) (noSwap c3)
  · obtain ⟨hc, q⟩ := og q
    obtain ⟨i, e1, q⟩ := ob q
    obtain ⟨j, e2, q⟩ := ob q
    obtain ⟨f1, e3, q⟩ := ob q
    cases q
    simp only [Bool.and_eq_true, Bool.not_eq_true'] at hc
    obtain ⟨⟨⟨⟨⟨c0, c1⟩, c2⟩, c3⟩, c4⟩, c5⟩ := hc
    obtain ⟨h1, h2, h3⟩ := plB_ok c2
    exact js_swap g.K (by have := g.un; omega) g.calm (blockFn g.sc g.kd) (by rw [gb.N]; exact gb.nd) (by rw [gb.N]; exact ixOf_ok e1) (g.st _ c0).1 (g.st _ c0).2 (by rw [gb.N]; exact ixOf_ok e2) (by rw [g.sc]; exact visB_ok c3) h1 h2 (cA_ok he e3) c4 c5
  · obtain ⟨hc, q⟩ := og q
    obtain ⟨i, e1, q⟩ := ob q
    obtain ⟨f1, e2, q⟩ := ob q
    cases q
    simp only [Bool.and_eq_true] at hc
    exact (cLc2_ok gb s.base e2).2 _ _ _ _ e1 (by simpa [isLoc] using hc.1) (by rw [swB_ok g.sc g.kd, hc.2])
  · cases q
theorem exOk (hsx : ∀ l, h.sx = some l → l = G.sx) : ExOkS G (mkC h C) := ⟨⟨fun ce ct s sc lc X W g e f q => hkE_ok hsx s g q⟩, fun ce ct css s ss sc X W g st f q => hkS_ok (css := css) g s ss q⟩
end
end DL

/-! the end: a law's def, called by the judge's caller -/
namespace DL
open PySem L2 PyProof.Rows PySem.Spec

def scrObj (vs : List Value) : Obj := { cls := .type "list", data := .seq vs.toArray }
/-- the script's own heap: it is tracked, or a thing of the module -/
def scrHp (K : PySem.W.Frag) (a : Addr) (vs : List Value) (ns : List Int) : Hp := fun b => if b = a ∧ K.lookup a = none then some (.frz (scrObj vs) (.lst (ns.map V.int))) else none
theorem scrHp_at {K : PySem.W.Frag} {a b : Addr} {vs : List Value} {ns : List Int} {u : HO} (h : scrHp K a vs ns b = some u) : b = a ∧ K.lookup a = none ∧ u = .frz (scrObj vs) (.lst (ns.map V.int)) := by
  unfold scrHp at h
  split at h
  · rename_i hc
    cases h
    exact ⟨hc.1, hc.2, rfl⟩
  · cases h
theorem scr_start {G : Gx} {vs : List Value} (hi : IntsAre vs G.sx) (hl : G.sx.length ≤ sizeLine) (hk : ∀ o, G.K.lookup G.sa = some o → o = scrObj vs) : SI G ⟨scrHp G.K G.sa vs G.sx, []⟩ [] (scrHp G.K G.sa vs G.sx) ∧ Rp G ⟨scrHp G.K G.sa vs G.sx, []⟩ .scr (.ref G.sa) := by
  refine ⟨⟨Same.refl _, rfl, List.nodup_nil, fun _ z => by simp at z, fun n _ _ z => by simp at z⟩, .scr ⟨vs, hi, hl, ?_⟩⟩
  cases q : G.K.lookup G.sa with
  | some o => exact .inl (by rw [hk o q]; rfl)
  | none => exact .inr (by show scrHp G.K G.sa vs G.sx G.sa = _; unfold scrHp; rw [if_pos ⟨rfl, q⟩]; rfl)

/-- the call of the law's def gives True -/
theorem lawEnd {P : Program} {w : World} {G : Gx} {mg mb : Str → Option Value} {k : Nat} {fa : Addr} {fd : FuncData} {x : Str} {F : SF} {s₁ : Shared} {vs : List Value}
    (kin : G.K.In s₁.heap) (hmg : s₁.heap.Ns mainGlobals mg) (hmb : s₁.heap.Ns builtinsNs mb) (hboot : ∀ x : Str, x ≠ "__name__" → mb x = bootBuiltins x) (hfree : s₁.heap.NoLimit) (hgens : s₁.gens = #[])
    (ha : s₁.heap.get? G.sa = some (scrObj vs)) (hi : IntsAre vs G.sx) (hl : G.sx.length ≤ sizeLine) (room : Room k callerA)
    (hF : ∀ base : Heap, G.K.In base → base.Ns mainGlobals mg → FnG P w G.K mg base k fa fd [x] (spF G F 1)) (hbind : ∀ (s : Shared) (u : Value), BindsTo s fd ⟨[u], []⟩ [(x, u)])
    (good : ∃ ms, F [.scr] [] = .ok (.bl true) ms) :
    codeAny (model P w) callerA (.call (.ref fa) ⟨[.ref G.sa], []⟩) (fun r s' => r = .ok (.ret (.bool true)) ∧ OldK s₁.heap s'.heap ∧ s'.os = s₁.os ∧ AllBare s'.gens) s₁ := by
  let H := scrHp G.K G.sa vs G.sx
  have hk : ∀ o, G.K.lookup G.sa = some o → o = scrObj vs := fun o q => by
    have := kin _ _ q
    rw [ha] at this
    exact (Option.some.inj this).symm
  obtain ⟨si, rp⟩ := scr_start hi hl hk
  have rv := ints_vals hi
  have hok : HOk P w H s₁.heap := fun b u z => by
    obtain ⟨rfl, _, rfl⟩ := scrHp_at z
    exact ⟨ha, by rw [List.length_map]; exact hl, vs, _, rv, ha⟩
  have under : ∀ {b : Addr} {o : Obj}, s₁.heap.get? b = some o → H b = none → (hidT s₁.heap H).get? b = some o := fun e n => hidT_get e n
  have spaces : ∀ {b : Addr} {m : Str → Option Value}, s₁.heap.Ns b m → (hidT s₁.heap H).Ns b m := fun {b m} ⟨o, es, ep, e, d, r⟩ => by
    refine ⟨o, es, ep, under e ?_, d, r⟩
    cases q : H b with
    | none => rfl
    | some u =>
      obtain ⟨rfl, _, _⟩ := scrHp_at q
      rw [ha] at e
      cases e
      cases d
  have kb : G.K.In (hidT s₁.heap H) := fun b o e => by
    refine under (kin b o e) ?_
    cases q : H b with
    | none => rfl
    | some u =>
      obtain ⟨rfl, n, _⟩ := scrHp_at q
      rw [n] at e
      cases e
  have mod : Mod G.K mg (hidT s₁.heap H) := ⟨kb, spaces hmg, ⟨mb, spaces hmb, hboot⟩, by obtain ⟨mc, h1, h2⟩ := hfree; exact ⟨mc, spaces h1, h2⟩⟩
  have e0 : Env0 P w G.K mg (hidT s₁.heap H) callerA [] s₁ H := ⟨rfl, mod, fun b o e => of_hidT e, Nat.le_of_eq (hidT_size _ _), trivial, (fun b hb => by cases hb), hok, .of_eq hgens⟩
  obtain ⟨ms, good⟩ := good
  have want : spF G F 1 [.ref G.sa] H (fun v _ => v = .bl true) (fun _ _ _ => False) := ⟨_, [], [.scr], si, .cons rp .nil, rfl, by rw [good]; exact fun v H' w' l s r => by cases r; rfl⟩
  refine codeAny_mono ((hF _ kb (spaces hmg)).run callerA [] s₁ H ⟨[.ref G.sa], []⟩ [.ref G.sa] [.ref G.sa] _ _ rfl room e0 (hbind s₁ (.ref G.sa)) (.cons rfl .nil) want) fun r s' h => ?_
  match r, h with
  | .error e, h => obtain ⟨_, _, _, _, _, _, _, _, _, _, _, _, z⟩ := h; exact z.elim
  | .ok .next, h => exact h.elim
  | .ok .brk, h => exact h.elim
  | .ok .cont, h => exact h.elim
  | .ok (.ret u), h =>
    obtain ⟨v, H', os, bare, un, hok', r', q⟩ := h
    have q : v = .bl true := q
    subst q
    obtain rfl : u = Value.bool true := r'
    refine ⟨rfl, OldK.of_keep fun b o e => ?_, os, bare⟩
    cases q : H b with
    | none => exact un.keep b o e q (by intro z; cases z) (by simp)
    | some z =>
      obtain ⟨rfl, _, rfl⟩ := scrHp_at q
      rw [ha] at e
      cases e
      exact (hok' _ _ (un.frzs _ _ _ q)).1
/-- what the head leaves -/
theorem lawWalk {l : PySem.W.OpenLaw} {n k : Nat} {q : Program} {loose : List Str} {XP : (Str → Option Value) → Heap → Prop} {YP : World → Heap → Prop} {d : DefRec} {x : Str} (hn : l.most = some n) (hn2 : n ≤ sizeLine) (hdf : d.params.defaults = []) (room : Room k callerA)
    (hF : ∀ (w : World) (mg : Str → Option Value) (fa : Addr) (h : Heap) (a : Addr) (ns : List Int), ns.length ≤ n → YP w h → h.Ns mainGlobals mg → mg d.name = some (.ref fa) →
      ∃ (G : Gx) (fd : FuncData) (F : SF), G.K.In h ∧ G.sa = a ∧ G.sx = ns ∧ (∃ ms, F [.scr] [] = .ok (.bl true) ms) ∧ (∀ (s : Shared) (u : Value), BindsTo s fd ⟨[u], []⟩ [(x, u)]) ∧
        ∀ base : Heap, G.K.In base → base.Ns mainGlobals mg → FnG l.prog w G.K mg base k fa fd [x] (spF G F 1)) :
    PySem.W.WalkO q loose XP YP l.row.toRowW d [] (fun f vs => PySem.call f vs) := by
  refine Att.attach_call hn hdf fun w s₀ s₁ mg mb fa o pm cd doc a vs ns Gd Y ho hd hcd hmg hobj hints hlen hg => ?_
  obtain ⟨G, fd, F, kin, e2, e3, good, hb, hF⟩ := hF w mg fa _ a ns hlen Y Gd.T.g hmg
  subst e2 e3
  exact lawEnd kin Gd.T.g Gd.T.b Gd.T.builtins Gd.T.nolimit hg hobj hints (Nat.le_trans hlen hn2) room hF hb good
end DL

/-! defs by name -/
namespace DL
open PySem L2 PyProof.Rows PySem.Spec

/-- a def stands under its name and keeps its promise -/
def Has (G : Gx) (P : Program) (w : World) (mg : Str → Option Value) (base : Heap) (x : Str) (k : Nat) (F : SF) (n : Nat) (sh : List Shape) : Prop :=
  ∃ (f : Addr) (fd : FuncData) (ps : List Str), FnG P w G.K mg base k f fd ps (spF G F n) ∧ mg x = some (.ref f) ∧ PySem.W.keepIn G.K (.ref f) = true ∧ ps.length = n ∧ Binds G.K fd ps [] ∧
    ∀ t ∈ sh, t.perm.length = n ∧ (∀ i ∈ t.perm, i < t.n + t.ks.length) ∧ KBn G.K fd ps t.n t.ks (fun us ws => pm t.perm (us ++ ws)) (fun vs zs => pm t.perm (vs ++ zs))
section
variable {G : Gx} {P : Program} {w : World} {mg : Str → Option Value} {base : Heap} {X : Cx} {x : Str} {j k n : Nat} {F : SF} {sh : List Shape}
theorem Has.gl (h : Has G P w mg base x k F n sh) (h1 : X.prog = P) (h2 : X.w = w) (h3 : X.K = G.K) (h4 : X.mg = mg) (h5 : X.base = base) (hr : Room j X.A) (hg : X.A.guards = some []) (hk : k ≤ j) : GlOk G X x (.fn F n sh) := by
  obtain ⟨f, fd, ps, a, b, c, d, e, g⟩ := h
  exact ⟨k, f, fd, ps, by rw [h1, h2, h3, h4, h5]; exact a, hr.mono hk, hg, by rw [h4]; exact b, by rw [h3]; exact c, d, by rw [h3]; exact e, by rw [h3]; exact g⟩
theorem glNil : ∀ x g, ([] : List (Str × GV)).lookup x = some g → GlOk G X x g := fun _ _ z => by cases z
theorem glCons {y : Str} {gy : GV} {l : List (Str × GV)} (h : GlOk G X y gy) (t : ∀ x g, l.lookup x = some g → GlOk G X x g) : ∀ x g, ((y, gy) :: l).lookup x = some g → GlOk G X x g := fun x g z => by
  rw [List.lookup_cons] at z
  by_cases e : x = y
  · subst e
    rw [beq_self_eq_true] at z
    cases z
    exact h
  · rw [beq_false_of_ne e] at z
    exact t x g z
theorem gl_bi {b : BI} (h4 : X.mg = mg) (h : mg b.nm = none) : GlOk G X b.nm (.bi b) := ⟨by rw [h4]; exact h, rfl⟩
theorem gl_ty {t : String} (h4 : X.mg = mg) (h : mg x = none) (hb : bootBuiltins x = some (.type t)) (hn : x ≠ "__name__") : GlOk G X x (.ty t) := ⟨by rw [h4]; exact h, hb, hn⟩
theorem gl_int {i : Int} (h4 : X.mg = mg) (h : ∃ t, mg x = some (.int i t)) : GlOk G X x (.val (.int i)) := by
  obtain ⟨t, h⟩ := h
  exact ⟨_, .int i, by rw [h4]; exact h, ⟨t, rfl⟩, fun w => .int i⟩
theorem gl_str {z : Str} (h4 : X.mg = mg) (h : ∃ t, mg x = some (.str z t)) : GlOk G X x (.val (.str z)) := by
  obtain ⟨t, h⟩ := h
  exact ⟨_, .str z, by rw [h4]; exact h, ⟨t, rfl⟩, fun w => .str z⟩
theorem vals_app {a b : List V} {u v : List Value} (h : Vals a u) (h' : Vals b v) : Vals (a ++ b) (u ++ v) := h.append h'
theorem kbn_of {qual : Str} {st : Stmt} {f : Addr} {fd : FuncData} {ps ks perm : _} {n : Nat} (Fu : Fun G.K x qual st f fd)
    (h : ∀ (kV doc pm0 : Value) (an : Option Addr) (cdv ct : Value) (us ws : List Value), us.length = n → ws.length = ks.length → bindArgs (PySem.W.fnOf x qual (defArgs st) (defBody st) (defScope st) .none kV doc pm0 an cdv ct) ⟨us, ks.zip ws⟩ = pure (ps.zip (pm perm (us ++ ws)))) :
    KBn G.K fd ps n ks (fun us ws => pm perm (us ++ ws)) (fun vs zs => pm perm (vs ++ zs)) := by
  obtain ⟨oc, od, kV, doc, pm0, an, cdv, ct, osl, rfl, lk, hcd⟩ := Fu.ex
  exact ⟨fun s us ws _ l1 l2 => .of_eq (h kV doc pm0 an cdv ct us ws l1 l2), fun r1 r2 => pm_vals (vals_app r1 r2) perm⟩
theorem shNil {G : Gx} {fd : FuncData} {ps : List Str} : ∀ t ∈ ([] : List Shape), t.perm.length = n ∧ (∀ i ∈ t.perm, i < t.n + t.ks.length) ∧ KBn G.K fd ps t.n t.ks (fun us ws => pm t.perm (us ++ ws)) (fun vs zs => pm t.perm (vs ++ zs)) := fun t ht => by cases ht
theorem shCons {G : Gx} {fd : FuncData} {ps : List Str} {t0 : Shape} {l : List Shape} (h1 : t0.perm.length = n) (h2 : ∀ i ∈ t0.perm, i < t0.n + t0.ks.length) (h3 : KBn G.K fd ps t0.n t0.ks (fun us ws => pm t0.perm (us ++ ws)) (fun vs zs => pm t0.perm (vs ++ zs)))
    (r : ∀ t ∈ l, t.perm.length = n ∧ (∀ i ∈ t.perm, i < t.n + t.ks.length) ∧ KBn G.K fd ps t.n t.ks (fun us ws => pm t.perm (us ++ ws)) (fun vs zs => pm t.perm (vs ++ zs))) :
    ∀ t ∈ t0 :: l, t.perm.length = n ∧ (∀ i ∈ t.perm, i < t.n + t.ks.length) ∧ KBn G.K fd ps t.n t.ks (fun us ws => pm t.perm (us ++ ws)) (fun vs zs => pm t.perm (vs ++ zs)) := fun t ht => by
  rcases List.mem_cons.mp ht with e | ht
  · subst e; exact ⟨h1, h2, h3⟩
  · exact r t ht
/-- a def of the text under its name -/
def DefIn (K : PySem.W.Frag) (mg : Str → Option Value) (x : Str) (st : Stmt) : Prop := ∃ (f : Addr) (fd : FuncData), Fun K x x st f fd ∧ mg x = some (.ref f)
theorem has_of {st : Stmt} {ps : List Str} (D : DefIn G.K mg x st) (ok : ∀ f fd, Fun G.K x x st f fd → FnG P w G.K mg base k f fd ps (spF G F ps.length)) (hb : ∀ f fd, Fun G.K x x st f fd → Binds G.K fd ps [])
    (hs : ∀ f fd, Fun G.K x x st f fd → ∀ t ∈ sh, t.perm.length = ps.length ∧ (∀ i ∈ t.perm, i < t.n + t.ks.length) ∧ KBn G.K fd ps t.n t.ks (fun us ws => pm t.perm (us ++ ws)) (fun vs zs => pm t.perm (vs ++ zs))) :
    Has G P w mg base x k F ps.length sh := by
  obtain ⟨f, fd, Fu, hm⟩ := D
  exact ⟨f, fd, ps, ok f fd Fu, hm, Fu.kp, rfl, hb f fd Fu, hs f fd Fu⟩
theorem fun_of {K : PySem.W.Frag} {qual : Str} {st : Stmt} {f : Addr} {fd : FuncData} (F : FunD K x qual (defArgs st) (defBody st) (defScope st) [] [] f fd) : Fun K x qual st f fd := by
  obtain ⟨oc, od, dV, kV, doc, pm0, an, cdv, ct, osl, rfl, lk, hcd, hD, hK⟩ := F.ex
  rcases hD with ⟨_, rfl⟩ | ⟨e, _⟩
  · exact ⟨⟨oc, od, kV, doc, pm0, an, cdv, ct, osl, rfl, lk, hcd⟩, F.kp⟩
  · exact absurd rfl e
open Classical in
/-- a new list behind a call, frozen at once -/
noncomputable def zF (F : SF) : SF := fun ds ms => match F ds ms with
  | .ok (.loc m) ms' => if m = ms.length ∧ ms'.length = ms.length + 1 ∧ Kept ms ms' then (match ms'[ms.length]? with
    | some (.lst xs) => if locsLts ms.length xs = true then .ok (.lst xs) (ms'.take ms.length) else .stuck
    | _ => .stuck) else .stuck
  | .err c v ms' => if Kept ms ms' ∧ locsLt ms.length v = true then .err c v (ms'.take ms.length) else .stuck
  | _ => .stuck
theorem zF_ok {F : SF} {ds xs : List D} {ms : MS} (h : F ds ms = .ok (.loc ms.length) (ms ++ [.lst xs])) (hx : locsLts ms.length xs = true) : zF F ds ms = .ok (.lst xs) ms := by
  unfold zF
  rw [h]
  simp only
  rw [if_pos ⟨rfl, by simp, Kept.app ms _⟩]
  simp only [List.getElem?_concat_length]
  rw [if_pos hx, List.take_left]
theorem spF_z {G : Gx} {F : SF} {n : Nat} {vs : List V} {H : Hp} {Q : VK} {E : XK} (h : spF G (zF F) n vs H Q E) : spF G F n vs H Q E := by
  obtain ⟨w, ms, ds, si, rd, hl, out⟩ := h
  refine ⟨w, ms, ds, si, rd, hl, ?_⟩
  unfold zF at out
  cases q : F ds ms with
  | stuck => rw [q] at out; exact out.elim
  | err c x ms' =>
    rw [q] at out
    simp only at out
    split at out
    · rename_i hc
      intro cls dd H' w' l s ⟨e1, d, v, e2, e3, r⟩
      obtain ⟨s2, l2⟩ := si.cut l s hc.1
      exact out cls dd H' _ l2 s2 ⟨e1, d, v, e2, e3, r.cutW hc.2⟩
    · exact out.elim
  | ok d ms' =>
    rw [q] at out
    cases d with
    | loc m =>
      simp only at out
      split at out
      · rename_i hc
        obtain ⟨rfl, h1, h2⟩ := hc
        cases q2 : ms'[ms.length]? with
        | none => rw [q2] at out; exact out.elim
        | some o =>
          rw [q2] at out
          cases o with
          | lst xs =>
            simp only at out
            split at out
            · rename_i hx
              intro v H' w' l s r
              cases r with
              | @loc _ a ha =>
                obtain ⟨b1, us, b2, b3⟩ := s.mo _ a _ ha q2
                obtain ⟨s2, l2⟩ := s.frz ha b1 b2
                have k2 : Kept ms (ms'.set ms.length .dead) := ⟨by rw [List.length_set]; exact h2.1, fun i o ho => by
                  obtain ⟨o', e1, e2⟩ := h2.2 i o ho
                  have hi := (List.getElem?_eq_some_iff.mp ho).1
                  exact ⟨o', by rw [List.getElem?_set_ne (by omega)]; exact e1, e2⟩⟩
                obtain ⟨s3, l3⟩ := si.cut (l.trans l2) s2 k2
                have e1 : (ms'.set ms.length .dead).take ms.length = ms'.take ms.length := List.take_set_of_le (Nat.le_refl _)
                rw [e1] at s3
                exact out (.ref a) H' _ l3 s3 (.lst (vs := us) upd_same ((b3.mono l2).cutW hx))
            · exact out.elim
          | _ => exact out.elim
      · exact out.elim
    | _ => exact out.elim
theorem Has.z (h : Has G P w mg base x k F n sh) : Has G P w mg base x k (zF F) n sh := by
  obtain ⟨f, fd, ps, a, b, c, d, e, g⟩ := h
  exact ⟨f, fd, ps, a.imp fun _ _ _ _ => spF_z, b, c, d, e, g⟩
theorem glRps {G : Gx} {w : Wd} : ∀ {ds : List D} {vs : List He.Dv}, Paired (fun d v => ∀ G w, Rp G w d (He.Dv.v G.K v)) ds vs → Rps G w ds (vs.map (He.Dv.v G.K))
  | _, _, .nil => .nil
  | _, _, .cons h t => .cons (h G w) (glRps t)
/-- a tuple of flat things -/
theorem gl_tup {ds : List D} {vs : List He.Dv} (h4 : X.mg = mg) (h : mg x = some (.ref (He.ga G.K x))) (ht : He.tupB G.K x vs = true) (hp : Paired (fun d v => ∀ G w, Rp G w d (He.Dv.v G.K v)) ds vs) : GlOk G X x (.val (.tup ds)) :=
  ⟨_, .ref (He.ga G.K x), by rw [h4]; exact h, rfl, fun w => .tup (He.tupB_ok ht w.B) (glRps hp)⟩
/-- a table with text keys, flat values -/
theorem gl_tab {kvs : List (Str × D)} {qs : List (Str × He.Dv)} (h2 : X.w = w) (h3 : X.K = G.K) (h4 : X.mg = mg) (h : mg x = some (.ref (He.ga G.K x))) (hk : ∃ es n, KDict G.K w (He.ga G.K x) es n) (hv : He.valsB G.K (He.ga G.K x) qs = true)
    (hp : Paired (fun (d : Str × D) (v : Str × He.Dv) => d.1 = v.1 ∧ ∀ G w, Rp G w d.2 (He.Dv.v G.K v.2)) kvs qs) : GlOk G X x (.tb kvs) := by
  obtain ⟨es, n, kd⟩ := hk
  refine ⟨He.ga G.K x, by rw [h4]; exact h, fun k d hl => ?_⟩
  have mem : ∃ q ∈ qs, q.1 = k ∧ ∀ G w, Rp G w d (He.Dv.v G.K q.2) := by
    clear hv h
    induction hp with
    | nil => cases hl
    | @cons a b as bs hab _ ih =>
      obtain ⟨k0, d0⟩ := a
      rw [List.lookup_cons] at hl
      by_cases e : k = k0
      · subst e
        rw [beq_self_eq_true] at hl
        cases hl
        exact ⟨b, List.mem_cons_self, hab.1.symm, hab.2⟩
      · rw [beq_false_of_ne e] at hl
        obtain ⟨q, h1, h2⟩ := ih hl
        exact ⟨q, List.mem_cons_of_mem _ h1, h2⟩
  obtain ⟨q, hq, rfl, hr⟩ := mem
  obtain ⟨u, h5, h6⟩ := He.valsB_ok hv hq
  refine ⟨He.Dv.v G.K q.2, ?_, fun w => hr G w⟩
  rw [h2, h3]
  exact ⟨es, n, u, kd.at_, kd.lit, h5, h6⟩
end
end DL

/-! the head's facts: HeadHook4's Hook with more roots -/
namespace DL
open PySem PySem.Spec PyProof.Rows L2 He
def asY (g : Addr → Option Obj) : Nat → List Addr
  | 0 => [mainGlobals, cStatics]
  | n + 1 => growD g (asY g n)
def obsY (n : Nat) (fa : List Fa) (fn : List DefD) (ts : List Tab) (tf : List Defn) (ex : PySem.W.Frag → Bool) (g : Addr → Option Obj) : AlX := (obsT fa fn ts (frT g (asY g n)), ex (frT g (asY g n)) && tabsB g tf (frT g (asY g n)))
theorem saysY_of {n : Nat} {fa : List Fa} {fn : List DefD} {ts : List Tab} {tf : List Defn} {ex : PySem.W.Frag → Bool} {w : World} {h : Heap} (e : obsY n fa fn ts tf ex h.get? = valX fn ts w) : SaysX fa fn ts tf ex w h (frT h.get? (asY h.get? n)) := by
  have e1 : obsT fa fn ts (frT h.get? (asY h.get? n)) = valT fn ts w := congrArg (fun z : AlX => z.1) e
  have e2 : (ex (frT h.get? (asY h.get? n)) && tabsB h.get? tf (frT h.get? (asY h.get? n))) = true := congrArg (fun z : AlX => z.2) e
  obtain ⟨h1, h2⟩ := ba e2
  have key : ∀ p ∈ tf, PySem.W.codeHdIn (frT h.get? (asY h.get? n)) (cT (frT h.get? (asY h.get? n)) p).1 (cT (frT h.get? (asY h.get? n)) p).2 = true ∧ ∃ o, h.get? (cT (frT h.get? (asY h.get? n)) p).2 = some o ∧ emptyTab o = true := fun p hp => by
    obtain ⟨h3, h4⟩ := ba (List.all_eq_true.mp h2 p hp)
    refine ⟨h3, ?_⟩
    cases q : h.get? (cT (frT h.get? (asY h.get? n)) p).2 with
    | none => rw [q] at h4; cases h4
    | some o => rw [q] at h4; exact ⟨o, rfl, h4⟩
  exact ⟨e1, h1, fun p hp => (key p hp).1, fun p hp => by
    obtain ⟨_, o, q, z⟩ := key p hp
    exact frT_none q z, fun p hp => by
    obtain ⟨_, o, q, z⟩ := key p hp
    rw [q, emptyTab_eq z]⟩
def hookY (n : Nat) (fa : List Fa) (fn : List DefD) (ts : List Tab) (tf : List Defn) (ex : PySem.W.Frag → Bool) : PySem.W.Hook where
  α := AlX
  obs := fun s => obsY n fa fn ts tf ex s.heap.get?
  val := fun w => valX fn ts w
  says := fun w h => ∃ K : PySem.W.Frag, K.In h ∧ SaysX fa fn ts tf ex w h K
  of := fun _ _ e => ⟨_, frT_in, saysY_of e⟩
  keeps := fun _ _ _ ⟨K, hK, c⟩ k => ⟨K, PySem.W.Frag.In.keeps hK k, ⟨c.t, c.more, c.hd, c.out, fun p hp => k _ _ (c.empty p hp)⟩⟩
theorem obsY_eq {n : Nat} {fa : List Fa} {fn : List DefD} {ts : List Tab} {tf : List Defn} {ex : PySem.W.Frag → Bool} {g : Addr → Option Obj} {s : Shared} (h : ∀ a, g a = s.heap.get? a) : obsY n fa fn ts tf ex g = (hookY n fa fn ts tf ex).obs s := by
  have e : g = s.heap.get? := funext h
  rw [e] <;> rfl

/-! ### an error class of the top -/
/-- x: the class's name; fld: its one field -/
def oexB (K : PySem.W.Frag) (x fld : Str) : Bool :=
  (match K.lookup (ga K x) with
  | some ⟨.type "type", _, .cls cd, sl⟩ => (match cd.mro, sl.toList with
    | .ref C' :: bm, [_, _, _, _, some (.builtin n), _] => C' == ga K x && n == "ValueError.__new__" && !cd.hasDel && cd.hasDict && PySem.HandSPX.refsVE bm
    | _, _ => false)
  | _ => false) && (decide (PySem.W.findIn K (.ref (ga K x)) "__setattr__" = some (some (.builtin "object.__setattr__"))) && (decide (PySem.W.subIn K (.ref (ga K x)) (.type "BaseException") = some true) && (decide (PySem.W.typeIn K (.ref (ga K x)) = some (.type "type")) &&
    (PySem.W.keepIn K (.ref (ga K x)) && (decide (PySem.W.findIn K (.ref (ga K x)) "__init__" = some (some (.ref (ma K (ga K x) "__init__")))) && (decide (PySem.W.typeIn K (.ref (ma K (ga K x) "__init__")) = some (.type "function")) && (decide (PySem.W.findIn K (.ref (ga K x)) fld = some none) && xfB K (ga K x))))))))
structure OexI (K : PySem.W.Frag) (x fld : Str) : Prop where
  o : OexC K (ga K x)
  i : PySem.W.findIn K (.ref (ga K x)) "__init__" = some (some (.ref (ma K (ga K x) "__init__")))
  t : PySem.W.typeIn K (.ref (ma K (ga K x) "__init__")) = some (.type "function")
  f : PySem.W.findIn K (.ref (ga K x)) fld = some none
  x : XfC K (ga K x)
theorem oexB_ok {K : PySem.W.Frag} {x fld : Str} (h : oexB K x fld = true) : OexI K x fld := by
  unfold oexB at h
  obtain ⟨h0, h⟩ := ba h
  obtain ⟨h1, h⟩ := ba h
  obtain ⟨h2, h⟩ := ba h
  obtain ⟨h3, h⟩ := ba h
  obtain ⟨h4, h⟩ := ba h
  obtain ⟨h5, h⟩ := ba h
  obtain ⟨h6, h⟩ := ba h
  obtain ⟨h7, h8⟩ := ba h
  refine ⟨⟨?_, of_decide_eq_true h1, of_decide_eq_true h2, of_decide_eq_true h3, h4⟩, of_decide_eq_true h5, of_decide_eq_true h6, of_decide_eq_true h7, xfB_ok h8⟩
  split at h0
  · rename_i dd cd sl ho
    split at h0
    · rename_i C' bm k0 k1 k2 k3 n k5 hm hs
      simp only [Bool.and_eq_true, beq_iff_eq, Bool.not_eq_true'] at h0
      obtain ⟨⟨⟨⟨e1, e2⟩, hdel⟩, hdct⟩, ht⟩ := h0
      obtain ⟨nm, bs, mro, ns, qn, hd, sn, sub, ab, col, del⟩ := cd
      dsimp only at hm hdel hdct
      subst hm hdel hdct
      have hsl : sl = #[k0, k1, k2, k3, some (.builtin n), k5] := by
        obtain ⟨l⟩ := sl
        simp only at hs
        rw [hs]
      subst hsl
      rw [e1, e2] at ho
      exact ⟨nm, qn, ns, bs, bm, sn, sub, ab, col, dd, k0, k1, k2, k3, k5, ho, ht⟩
    · cases h0
  · cases h0
/-- the errors' base -/
def feB (K : PySem.W.Frag) (x : Str) : Bool := PySem.W.readsIn K (ga K x) (.type "type") && ((match PySem.W.findCls K (.ref (ga K x)) (.type "type") "__init__" with
  | some (.val (.builtin n)) => n == "ValueError.__init__"
  | _ => false) && decide (PySem.W.specialIn K (.ref (ga K x)) "__getattribute__" = some (some (.builtin "type.__getattribute__"))))
theorem feB_ok {K : PySem.W.Frag} {x : Str} (h : feB K x = true) : FeC K (ga K x) := by
  unfold feB at h
  obtain ⟨h1, h⟩ := ba h
  obtain ⟨h2, h3⟩ := ba h
  refine ⟨h1, ?_, of_decide_eq_true h3⟩
  split at h2
  · rename_i n e
    rw [e, beq_iff_eq.mp h2]
  · cases h2
def exmB (K : PySem.W.Frag) (x y : Str) (b : Bool) : Bool := decide (PySem.W.exmOne K (.ref (ga K x)) (.ref (ga K y)) = some b)
end DL
namespace DL
open PySem PySem.Spec PyProof.Rows L2 He
/-- the __init__ of a class of the text -/
def clsInit : Stmt → Stmt
  | .ClassDef _ _ _ body _ _ _ _ _ _ _ => body.getD 0 (.Pass ⟨0, 0, 0, 0⟩)
  | st => st
/-- the classes by number -/
def ocN : Nat → Str
  | 0 => "Ratio" | 1 => "Count" | 2 => "Ear" | 3 => "Trial" | _ => "Desk"
def mkG (K : PySem.W.Frag) (sa : Addr) (sx : List Int) (hr : Bool) (hi : hr = true → IsiC K (ga K "Ratio")) : Gx := ⟨K, ga K "Ratio", fun c => ga K (erN c), fun c => ga K (ocN c), sa, sx, hr, hi⟩
theorem er_gl {G : Gx} {X : Cx} {P : Program} {w : World} {mg : Str → Option Value} {base : Heap} {c j : Nat} {x : Str} {fs : Bool} {ex : List (Nat × Bool)} {fd : FuncData} {ps : List Str} (hx : x = erN c) (hec : ∀ c, G.EC c = ga G.K (erN c)) (I : OexI G.K (erN c) (erF c)) (hm : mg x = some (.ref (ga G.K (erN c))))
    (F : FnOk P w G.K mg base CX0 1 (ma G.K (ga G.K (erN c)) "__init__") fd ps (spI (ga G.K (erN c)) (erF c) fs)) (hb : Binds G.K fd ps []) (hex : ∀ n b, ex.lookup n = some b → PySem.W.exmOne G.K (.ref (ga G.K (erN n))) (.ref (ga G.K (erN c))) = some b)
    (h1 : X.prog = P) (h2 : X.w = w) (h3 : X.K = G.K) (h4 : X.mg = mg) (h5 : X.base = base) (hr : Room j X.A) (hk : 2 ≤ j) : GlOk G X x (.er c fs ex) := by
  subst hx
  refine ⟨⟨1, ma G.K (ga G.K (erN c)) "__init__", fd, ps, ?_, ?_, ?_, ?_, hr.mono hk, ?_, ?_, ?_, ?_⟩, fun n b e => ?_⟩
  · rw [h3, hec]; exact I.o
  · rw [h3, hec]; exact I.i
  · rw [h3]; exact I.t
  · rw [h1, h2, h3, h4, h5, hec]; exact F
  · rw [h3]; exact hb
  · rw [h4, hec]; exact hm
  · rw [h3, hec]; exact I.x
  · rw [h3, hec]; exact I.f
  · rw [h3, hec, hec]; exact hex n b e
theorem exNil {K : PySem.W.Frag} {c : Nat} : ∀ n b, ([] : List (Nat × Bool)).lookup n = some b → PySem.W.exmOne K (.ref (ga K (erN n))) (.ref (ga K (erN c))) = some b := fun _ _ z => by cases z
theorem exCons {K : PySem.W.Frag} {c m : Nat} {b0 : Bool} {l : List (Nat × Bool)} (h : exmB K (erN m) (erN c) b0 = true) (t : ∀ n b, l.lookup n = some b → PySem.W.exmOne K (.ref (ga K (erN n))) (.ref (ga K (erN c))) = some b) : ∀ n b, ((m, b0) :: l).lookup n = some b → PySem.W.exmOne K (.ref (ga K (erN n))) (.ref (ga K (erN c))) = some b := fun n b z => by
  rw [List.lookup_cons] at z
  by_cases e : n = m
  · subst e
    rw [beq_self_eq_true] at z
    cases z
    exact of_decide_eq_true h
  · rw [beq_false_of_ne e] at z
    exact t n b z
end DL

/-! the head's facts about a class of the text -/
namespace DL
open PySem PySem.Spec PyProof.Rows L2 He
def clsB (K : PySem.W.Frag) (C : Addr) : Bool := PySem.W.plainGet K C Str.empty && (PySem.W.hasDictIn K C && (PySem.W.plainOver K C && decide (PySem.W.findIn K (.ref C) "__setattr__" = some (some (.builtin "object.__setattr__")))))
theorem clsB_ok {K : PySem.W.Frag} {C : Addr} (h : clsB K C = true) : Cls K C := by
  unfold clsB at h
  obtain ⟨h1, h⟩ := ba h
  obtain ⟨h2, h⟩ := ba h
  obtain ⟨h3, h4⟩ := ba h
  exact ⟨h1, h2, h3, of_decide_eq_true h4⟩
def noAtB (K : PySem.W.Frag) (C : Addr) (fs : List Str) : Bool := fs.all fun f => decide (PySem.W.findIn K (.ref C) f = some none)
theorem noAtB_ok {K : PySem.W.Frag} {C : Addr} {fs : List Str} (h : noAtB K C fs = true) : ∀ f ∈ fs, NoAttr K C f := fun f hf => show PySem.W.findIn K (.ref C) f = some none from of_decide_eq_true (List.all_eq_true.mp h f hf)
def isiCB (K : PySem.W.Frag) (C : Addr) : Bool := clsB K C && (decide (PySem.W.findIn K (.ref C) "__class__" = some (some (.builtin "object.__class__"))) && (decide (PySem.W.specialIn K (.builtin "object.__class__") "__get__" = some (some (.builtin "getset_descriptor.__get__"))) &&
  (decide (PySem.W.takesIn K (.builtin "object.__class__") = some true) && (decide (PySem.W.mroIn K C (.type "object") = some true) && ((tyL.all fun t => decide (PySem.W.kitOne K (.type t) (.ref C) = some false)) && (decide (PySem.W.kitOne K (.ref C) (.ref C) = some true) && tyL.all fun t => decide (PySem.W.kitOne K (.ref C) (.type t) = some false)))))))
theorem isiCB_ok {K : PySem.W.Frag} {C : Addr} (h : isiCB K C = true) : IsiC K C := by
  unfold isiCB at h
  obtain ⟨h1, h⟩ := ba h
  obtain ⟨h2, h⟩ := ba h
  obtain ⟨h3, h⟩ := ba h
  obtain ⟨h4, h⟩ := ba h
  obtain ⟨h5, h⟩ := ba h
  obtain ⟨h6, h⟩ := ba h
  obtain ⟨h7, h8⟩ := ba h
  exact ⟨clsB_ok h1, of_decide_eq_true h2, of_decide_eq_true h3, of_decide_eq_true h4, of_decide_eq_true h5, fun t ht => of_decide_eq_true (List.all_eq_true.mp h6 t ht), of_decide_eq_true h7, fun t ht => of_decide_eq_true (List.all_eq_true.mp h8 t ht)⟩
def mkB (K : PySem.W.Frag) (C : Addr) : Bool := PySem.W.makesIn K C && (decide (PySem.W.findIn K (.ref C) "__init__" = some (some (.ref (ma K C "__init__")))) && (PySem.W.isFn K (.ref (ma K C "__init__")) && PySem.W.keepIn K (.ref C)))
theorem mkB_ok {K : PySem.W.Frag} {C : Addr} (h : mkB K C = true) : Mk K C (ma K C "__init__") := by
  unfold mkB at h
  obtain ⟨h1, h⟩ := ba h
  obtain ⟨h2, h⟩ := ba h
  obtain ⟨h3, h4⟩ := ba h
  exact ⟨h1, of_decide_eq_true h2, h3, h4⟩
/-- a method under its name -/
def ownB (K : PySem.W.Frag) (C : Addr) (m : Str) : Bool := decide (PySem.W.findIn K (.ref C) m = some (some (.ref (ma K C m)))) && PySem.W.isFn K (.ref (ma K C m))
theorem ownB_ok {K : PySem.W.Frag} {C : Addr} {m : Str} (h : ownB K C m = true) : PySem.W.findIn K (.ref C) m = some (some (.ref (ma K C m))) ∧ PySem.W.isFn K (.ref (ma K C m)) = true := by
  unfold ownB at h
  obtain ⟨h1, h2⟩ := ba h
  exact ⟨of_decide_eq_true h1, h2⟩
/-- the property's object, its getter -/
def propG (K : PySem.W.Frag) (C : Addr) (x : Str) : Addr := match PySem.W.recIn K (ma K C x) "property" with
  | some (.ref g :: _) => g
  | _ => 0
def propB (K : PySem.W.Frag) (C : Addr) (x : Str) : Bool := decide (PySem.W.findIn K (.ref C) x = some (some (.ref (ma K C x)))) && (decide (PySem.W.specialIn K (.ref (ma K C x)) "__get__" = some (some (.builtin "property.__get__"))) && (decide (PySem.W.takesIn K (.ref (ma K C x)) = some true) &&
  (match PySem.W.recIn K (ma K C x) "property" with
  | some (.ref _ :: _) => true
  | _ => false)))
theorem propB_ok {K : PySem.W.Frag} {C : Addr} {x : Str} (h : propB K C x = true) : PropOf K C x (ma K C x) (propG K C x) := by
  unfold propB at h
  obtain ⟨h1, h⟩ := ba h
  obtain ⟨h2, h⟩ := ba h
  obtain ⟨h3, h4⟩ := ba h
  refine ⟨of_decide_eq_true h1, of_decide_eq_true h2, of_decide_eq_true h3, ?_⟩
  unfold propG
  split at h4
  · rename_i g r e
    rw [e]
    exact ⟨r, rfl⟩
  · cases h4
end DL

/-! functions at own addresses (the getters of properties), and their Hook -/
namespace DL
open PySem PySem.Spec PyProof.Rows L2 He
structure FnA where
  ad : PySem.W.Frag → Addr
  d : DefD
def fnA (K : PySem.W.Frag) (a : Addr) : FnW := match K.lookup a with
  | some ⟨_, _, .func fd, _⟩ => some (fd.name, fd.qualname, fd.params, fd.body, fd.scope, fd.globals, fd.closure, fd.builtins)
  | _ => none
def FnA.ok (K : PySem.W.Frag) (z : FnA) : Bool := PySem.W.keepIn K (.ref (z.ad K)) && (match K.lookup (z.ad K) with
  | some ⟨_, _, .func fd, _⟩ => PySem.W.codeIn K fd.code z.d.qual && (dflB K fd.defaults (z.d.dvs K) && kwdB K fd.kwdefaults (z.d.kws K))
  | _ => false)
theorem FnA.funD {K : PySem.W.Frag} {z : FnA} (e : fnA K (z.ad K) = z.d.val) (c : z.ok K = true) : ∃ fd, FunD K z.d.name z.d.qual z.d.params z.d.body z.d.scope (z.d.dvs K) (z.d.kws K) (z.ad K) fd := by
  obtain ⟨kp, c2⟩ := ba c
  unfold fnA at e
  cases q : K.lookup (z.ad K) with
  | none =>
    rw [q] at c2
    cases c2
  | some o =>
    obtain ⟨oc, od, dt, osl⟩ := o
    rw [q] at c2 e
    cases dt with
    | func fd =>
      obtain ⟨n1, n2, n3, n4, n5, n6, n7, n8, n9, n10, n11, n12, n13, n14, n15⟩ := fd
      have e2 : (some (n1, n2, n3, n4, n5, n6, n7, n15) : FnW) = some (z.d.name, z.d.qual, z.d.params, .stmts z.d.body, z.d.scope, mainGlobals, [], builtinsNs) := e
      simp only [Option.some.injEq, Prod.mk.injEq] at e2
      obtain ⟨h1, h2, h3, h4, h5, h6, h7, h8⟩ := e2
      subst h1 h2 h3 h4 h5 h6 h7 h8
      have c3 : (PySem.W.codeIn K n13 z.d.qual && (dflB K n8 (z.d.dvs K) && kwdB K n9 (z.d.kws K))) = true := c2
      obtain ⟨k1, k2⟩ := ba c3
      obtain ⟨k3, k4⟩ := ba k2
      exact ⟨_, ⟨oc, od, n8, n9, n10, n11, n12, n13, n14, osl, rfl, q, k1, dflB_ok k3, kwdB_ok k4⟩, kp⟩
    | _ => cases c2
abbrev AlZ : Type := AlX × List FnW
def obsZ (n : Nat) (fa : List Fa) (fn : List DefD) (ts : List Tab) (tf : List Defn) (ex : PySem.W.Frag → Bool) (fz : List FnA) (g : Addr → Option Obj) : AlZ := (obsY n fa fn ts tf (fun K => ex K && fz.all fun z => z.ok K) g, fz.map fun z => fnA (frT g (asY g n)) (z.ad (frT g (asY g n))))
structure SaysZ (fa : List Fa) (fn : List DefD) (ts : List Tab) (tf : List Defn) (ex : PySem.W.Frag → Bool) (fz : List FnA) (w : World) (h : Heap) (K : PySem.W.Frag) : Prop where
  x : SaysX fa fn ts tf (fun K => ex K && fz.all fun z => z.ok K) w h K
  z : fz.map (fun z => fnA K (z.ad K)) = fz.map fun z => z.d.val
def hookZ (n : Nat) (fa : List Fa) (fn : List DefD) (ts : List Tab) (tf : List Defn) (ex : PySem.W.Frag → Bool) (fz : List FnA) : PySem.W.Hook where
  α := AlZ
  obs := fun s => obsZ n fa fn ts tf ex fz s.heap.get?
  val := fun w => (valX fn ts w, fz.map fun z : FnA => z.d.val)
  says := fun w h => ∃ K : PySem.W.Frag, K.In h ∧ SaysZ fa fn ts tf ex fz w h K
  of := fun w s e => ⟨frT s.heap.get? (asY s.heap.get? n), frT_in, saysY_of (show obsY n fa fn ts tf (fun K => ex K && fz.all fun z => z.ok K) s.heap.get? = valX fn ts w from congrArg (fun z : AlZ => z.1) e),
    (show fz.map (fun z => fnA (frT s.heap.get? (asY s.heap.get? n)) (z.ad (frT s.heap.get? (asY s.heap.get? n)))) = fz.map fun z => z.d.val from congrArg (fun z : AlZ => z.2) e)⟩
  keeps := fun _ _ _ ⟨K, hK, c⟩ k => ⟨K, PySem.W.Frag.In.keeps hK k, ⟨c.x.t, c.x.more, c.x.hd, c.x.out, fun p hp => k _ _ (c.x.empty p hp)⟩, c.z⟩
theorem obsZ_eq {n : Nat} {fa : List Fa} {fn : List DefD} {ts : List Tab} {tf : List Defn} {ex : PySem.W.Frag → Bool} {fz : List FnA} {g : Addr → Option Obj} {s : Shared} (h : ∀ a, g a = s.heap.get? a) : obsZ n fa fn ts tf ex fz g = (hookZ n fa fn ts tf ex fz).obs s := by
  have e : g = s.heap.get? := funext h
  rw [e] <;> rfl
theorem SaysZ.more {fa : List Fa} {fn : List DefD} {ts : List Tab} {tf : List Defn} {ex : PySem.W.Frag → Bool} {fz : List FnA} {w : World} {h : Heap} {K : PySem.W.Frag} (c : SaysZ fa fn ts tf ex fz w h K) : ex K = true := (ba c.x.more).1
theorem SaysZ.fn {fa : List Fa} {fn : List DefD} {ts : List Tab} {tf : List Defn} {ex : PySem.W.Frag → Bool} {fz : List FnA} {w : World} {h : Heap} {K : PySem.W.Frag} (c : SaysZ fa fn ts tf ex fz w h K) (i : Nat) {z : FnA} (hi : fz[i]? = some z) :
    ∃ fd, FunD K z.d.name z.d.qual z.d.params z.d.body z.d.scope (z.d.dvs K) (z.d.kws K) (z.ad K) fd := by
  refine FnA.funD ?_ (List.all_eq_true.mp (ba c.x.more).2 z (List.mem_of_getElem? hi))
  have e := congrArg (fun l : List FnW => l[i]?) c.z
  simp only [List.getElem?_map, hi, Option.map_some, Option.some.injEq] at e
  exact e
end DL

/-! meanings, reckoned -/
namespace DL
open PySem L2
variable {α β : Type} {env : DE} {ms : MS} {f fa fb fc : SE} {g ga gk : SA} {t t' : ST} {s s' : SS}
variable {o o' : VO2} {x y d : D} {k : Bool} {ds : List D} {gt : VG} {is : List Nat} {c : Nat} {v : D}
def RS.next (r : RS) (g : SS) : RS := match r with
  | .nx env ms => g env ms
  | r => r
def RS.out (r : RS) : R D := match r with
  | .nx _ ms' => .ok .non ms'
  | .ret d ms' => .ok d ms'
  | .err c v _ ms' => .err c v ms'
  | _ => .stuck
@[simp] theorem next_nx {g : SS} : (RS.nx env ms).next g = g env ms := rfl
@[simp] theorem next_ret {g : SS} : (RS.ret d ms).next g = RS.ret d ms := rfl
@[simp] theorem next_err {g : SS} : (RS.err c d env ms).next g = RS.err c d env ms := rfl
@[simp] theorem out_nx : (RS.nx env ms).out = .ok .non ms := rfl
@[simp] theorem out_ret : (RS.ret d ms).out = .ok d ms := rfl
@[simp] theorem out_err : (RS.err c d env ms).out = .err c d ms := rfl
@[simp] theorem runD_ap {n : Nat} : runD n s ds ms = (s (ds.map some ++ List.replicate (n - ds.length) none) ms).out := rfl
@[simp] theorem bind_ok {a : α} {k : α → MS → R β} : (R.ok a ms).bind k = k a ms := rfl
@[simp] theorem sSkip_ap : sSkip env ms = .nx env ms := rfl
@[simp] theorem sSeq_ap : sSeq s s' env ms = (s env ms).next s' := rfl
@[simp] theorem sRetN_ap : sRetN env ms = .ret .non ms := rfl
@[simp] theorem sNil_ap : sNil env ms = .ok [] ms := rfl
@[simp] theorem sNoPart_ap : sNoPart env ms = .ok none ms := rfl
@[simp] theorem sCst_ap : sCst d env ms = .ok d ms := rfl
def vR (z : Option (Option D)) (ms : MS) : R D := match z with
  | some (some d) => .ok d ms
  | _ => .stuck
@[simp] theorem vR_some : vR (some (some d)) ms = .ok d ms := rfl
@[simp] theorem sVar_ap {i : Nat} : sVar i env ms = vR (env[i]?) ms := rfl
theorem sYes_ap : (fun (_ : DE) (ms : MS) => R.ok true ms) env ms = .ok true ms := rfl
def asgO (o : Option DE) (ms : MS) : RS := match o with
  | some env => .nx env ms
  | none => .stuck
@[simp] theorem asgO_some : asgO (some env) ms = .nx env ms := rfl
@[simp] theorem gNm_ap {i : Nat} : gNm i ms d env = some (env.set i (some d)) := rfl

def kRet (env : DE) (r : R D) : RS := r.thenS env fun d ms => .ret d ms
@[simp] theorem sRet_ap : sRet f env ms = kRet env (f env ms) := rfl
@[simp] theorem kRet_ok : kRet env (.ok d ms) = .ret d ms := rfl
@[simp] theorem kRet_err : kRet env (.err c v ms) = .err c v env ms := rfl
def kDrop (env : DE) (r : R D) : RS := r.thenS env fun _ ms => .nx env ms
@[simp] theorem sDrop_ap : sDrop f env ms = kDrop env (f env ms) := rfl
@[simp] theorem kDrop_ok : kDrop env (.ok d ms) = .nx env ms := rfl
@[simp] theorem kDrop_err : kDrop env (.err c v ms) = .err c v env ms := rfl
def kIf (s : SS) (s' : SS) (env : DE) (r : R Bool) : RS := r.thenS env fun k ms => if k = true then s env ms else s' env ms
@[simp] theorem sIf_ap : sIf t s s' env ms = kIf s s' env (t env ms) := rfl
@[simp] theorem kIf_t : kIf s s' env (.ok true ms) = s env ms := rfl
@[simp] theorem kIf_f : kIf s s' env (.ok false ms) = s' env ms := rfl
@[simp] theorem kIf_err : kIf s s' env (.err c v ms) = .err c v env ms := rfl
def kAsg (gt : VG) (env : DE) (r : R D) : RS := r.thenS env fun d ms => asgO (gt ms d env) ms
@[simp] theorem sAsg_ap : sAsg f gt env ms = kAsg gt env (f env ms) := rfl
@[simp] theorem kAsg_ok : kAsg gt env (.ok d ms) = asgO (gt ms d env) ms := rfl
@[simp] theorem kAsg_err : kAsg gt env (.err c v ms) = .err c v env ms := rfl
def kPar (is : List Nat) (env : DE) (r : R (List D)) : RS := r.thenS env fun ds ms => asgO (setAll is ds env) ms
@[simp] theorem sPar_ap : sPar is g env ms = kPar is env (g env ms) := rfl
@[simp] theorem kPar_ok : kPar is env (.ok ds ms) = asgO (setAll is ds env) ms := rfl
@[simp] theorem kPar_err : kPar is env (.err c v ms) = .err c v env ms := rfl
def kFor (gt : VG) (s : SS) (env : DE) (r : R (List D)) : RS := r.thenS env fun ds ms => forL gt s ds env ms
@[simp] theorem sFor_ap {fi : SI'} : sFor fi gt s env ms = kFor gt s env (fi env ms) := rfl
@[simp] theorem kFor_ok : kFor gt s env (.ok ds ms) = forL gt s ds env ms := rfl
@[simp] theorem kFor_err : kFor gt s env (.err c v ms) = .err c v env ms := rfl
def kBin2 (o : VO2) (x : D) (r : R D) : R D := r.bind fun y ms => optR (o ms x y) ms
@[simp] theorem kBin2_ok : kBin2 o x (.ok y ms) = optR (o ms x y) ms := rfl
@[simp] theorem kBin2_err : kBin2 o x (.err c v ms) = .err c v ms := rfl
def kBin1 (o : VO2) (fb : SE) (env : DE) (r : R D) : R D := r.bind fun x ms => kBin2 o x (fb env ms)
@[simp] theorem sBin_ap : sBin o fa fb env ms = kBin1 o fb env (fa env ms) := rfl
@[simp] theorem kBin1_ok : kBin1 o fb env (.ok x ms) = kBin2 o x (fb env ms) := rfl
@[simp] theorem kBin1_err : kBin1 o fb env (.err c v ms) = .err c v ms := rfl
def kCh4 (o' : VO2) (y : D) (r : R D) : R D := r.bind fun u ms => optR (o' ms y u) ms
@[simp] theorem kCh4_ok : kCh4 o' y (.ok x ms) = optR (o' ms y x) ms := rfl
@[simp] theorem kCh4_err : kCh4 o' y (.err c v ms) = .err c v ms := rfl
def kCh3 (o' : VO2) (y : D) (fc : SE) (env : DE) (r : R D) : R D := r.bind fun z ms => match z with
  | .bl true => kCh4 o' y (fc env ms)
  | .bl false => .ok (.bl false) ms
  | _ => .stuck
@[simp] theorem kCh3_t : kCh3 o' y fc env (.ok (.bl true) ms) = kCh4 o' y (fc env ms) := rfl
@[simp] theorem kCh3_f : kCh3 o' y fc env (.ok (.bl false) ms) = .ok (.bl false) ms := rfl
@[simp] theorem kCh3_err : kCh3 o' y fc env (.err c v ms) = .err c v ms := rfl
def kCh2 (o : VO2) (o' : VO2) (x : D) (fc : SE) (env : DE) (r : R D) : R D := r.bind fun y ms => kCh3 o' y fc env (optR (o ms x y) ms)
@[simp] theorem kCh2_ok : kCh2 o o' x fc env (.ok y ms) = kCh3 o' y fc env (optR (o ms x y) ms) := rfl
@[simp] theorem kCh2_err : kCh2 o o' x fc env (.err c v ms) = .err c v ms := rfl
def kCh1 (o : VO2) (o' : VO2) (fb : SE) (fc : SE) (env : DE) (r : R D) : R D := r.bind fun x ms => kCh2 o o' x fc env (fb env ms)
@[simp] theorem sChain_ap : sChain o o' fa fb fc env ms = kCh1 o o' fb fc env (fa env ms) := rfl
@[simp] theorem kCh1_ok : kCh1 o o' fb fc env (.ok x ms) = kCh2 o o' x fc env (fb env ms) := rfl
@[simp] theorem kCh1_err : kCh1 o o' fb fc env (.err c v ms) = .err c v ms := rfl
def kTst  (r : R D) : R Bool := r.bind fun d ms => match d with
  | .bl k => .ok k ms
  | _ => .stuck
@[simp] theorem sTst_ap : sTst f env ms = kTst  (f env ms) := rfl
@[simp] theorem kTst_ok : kTst  (.ok (.bl k) ms) = .ok k ms := rfl
@[simp] theorem kTst_err : kTst  (.err c v ms) = .err c v ms := rfl
def kTru  (r : R D) : R Bool := r.bind fun d ms => optR (truD ms d) ms
@[simp] theorem sTru_ap : sTru f env ms = kTru  (f env ms) := rfl
@[simp] theorem kTru_ok : kTru  (.ok d ms) = optR (truD ms d) ms := rfl
@[simp] theorem kTru_err : kTru  (.err c v ms) = .err c v ms := rfl
def kNotT  (r : R Bool) : R Bool := r.bind fun k ms => .ok (!k) ms
@[simp] theorem sNotT_ap : sNotT t env ms = kNotT  (t env ms) := rfl
@[simp] theorem kNotT_ok : kNotT  (.ok k ms) = .ok (!k) ms := rfl
@[simp] theorem kNotT_err : kNotT  (.err c v ms) = .err c v ms := rfl
def kAndT (t' : ST) (env : DE) (r : R Bool) : R Bool := r.bind fun k ms => if k = true then t' env ms else .ok false ms
@[simp] theorem sAndT_ap : sAndT t t' env ms = kAndT t' env (t env ms) := rfl
@[simp] theorem kAndT_t : kAndT t' env (.ok true ms) = t' env ms := rfl
@[simp] theorem kAndT_f : kAndT t' env (.ok false ms) = .ok false ms := rfl
@[simp] theorem kAndT_err : kAndT t' env (.err c v ms) = .err c v ms := rfl
def kOrT (t' : ST) (env : DE) (r : R Bool) : R Bool := r.bind fun k ms => if k = true then .ok true ms else t' env ms
@[simp] theorem sOrT_ap : sOrT t t' env ms = kOrT t' env (t env ms) := rfl
@[simp] theorem kOrT_f : kOrT t' env (.ok false ms) = t' env ms := rfl
@[simp] theorem kOrT_t : kOrT t' env (.ok true ms) = .ok true ms := rfl
@[simp] theorem kOrT_err : kOrT t' env (.err c v ms) = .err c v ms := rfl
def kAndV2 (fb : SE) (env : DE) (d : D) (r : R Bool) : R D := r.bind fun k ms => if k = true then fb env ms else .ok d ms
@[simp] theorem kAndV2_t : kAndV2 fb env d (.ok true ms) = fb env ms := rfl
@[simp] theorem kAndV2_f : kAndV2 fb env d (.ok false ms) = .ok d ms := rfl
@[simp] theorem kAndV2_err : kAndV2 fb env d (.err c v ms) = .err c v ms := rfl
def kAndV (fb : SE) (env : DE) (r : R D) : R D := r.bind fun d ms => kAndV2 fb env d (optR (truD ms d) ms)
@[simp] theorem sAndV_ap : sAndV fa fb env ms = kAndV fb env (fa env ms) := rfl
@[simp] theorem kAndV_ok : kAndV fb env (.ok d ms) = kAndV2 fb env d (optR (truD ms d) ms) := rfl
@[simp] theorem kAndV_err : kAndV fb env (.err c v ms) = .err c v ms := rfl
def kOrV2 (fb : SE) (env : DE) (d : D) (r : R Bool) : R D := r.bind fun k ms => if k = true then .ok d ms else fb env ms
@[simp] theorem kOrV2_f : kOrV2 fb env d (.ok false ms) = fb env ms := rfl
@[simp] theorem kOrV2_t : kOrV2 fb env d (.ok true ms) = .ok d ms := rfl
@[simp] theorem kOrV2_err : kOrV2 fb env d (.err c v ms) = .err c v ms := rfl
def kOrV (fb : SE) (env : DE) (r : R D) : R D := r.bind fun d ms => kOrV2 fb env d (optR (truD ms d) ms)
@[simp] theorem sOrV_ap : sOrV fa fb env ms = kOrV fb env (fa env ms) := rfl
@[simp] theorem kOrV_ok : kOrV fb env (.ok d ms) = kOrV2 fb env d (optR (truD ms d) ms) := rfl
@[simp] theorem kOrV_err : kOrV fb env (.err c v ms) = .err c v ms := rfl
def kNotV2  (r : R Bool) : R D := r.bind fun k ms => .ok (.bl (!k)) ms
@[simp] theorem kNotV2_ok : kNotV2  (.ok k ms) = .ok (.bl (!k)) ms := rfl
@[simp] theorem kNotV2_err : kNotV2  (.err c v ms) = .err c v ms := rfl
def kNotV  (r : R D) : R D := r.bind fun d ms => kNotV2 (optR (truD ms d) ms)
@[simp] theorem sNotV_ap : sNotV f env ms = kNotV  (f env ms) := rfl
@[simp] theorem kNotV_ok : kNotV  (.ok d ms) = kNotV2 (optR (truD ms d) ms) := rfl
@[simp] theorem kNotV_err : kNotV  (.err c v ms) = .err c v ms := rfl
def kNeg  (r : R D) : R D := r.bind fun d ms => match d with
  | .int i => .ok (.int (-i)) ms
  | _ => .stuck
@[simp] theorem sNeg_ap : sNeg f env ms = kNeg  (f env ms) := rfl
@[simp] theorem kNeg_err : kNeg  (.err c v ms) = .err c v ms := rfl
@[simp] theorem kNeg_ok {i : Int} : kNeg (.ok (.int i) ms) = .ok (.int (-i)) ms := rfl
def kIte (fa : SE) (fb : SE) (env : DE) (r : R Bool) : R D := r.bind fun k ms => if k = true then fa env ms else fb env ms
@[simp] theorem sIte_ap : sIte t fa fb env ms = kIte fa fb env (t env ms) := rfl
@[simp] theorem kIte_t : kIte fa fb env (.ok true ms) = fa env ms := rfl
@[simp] theorem kIte_f : kIte fa fb env (.ok false ms) = fb env ms := rfl
@[simp] theorem kIte_err : kIte fa fb env (.err c v ms) = .err c v ms := rfl
def kC2 (d : D) (r : R (List D)) : R (List D) := r.bind fun ds ms => .ok (d :: ds) ms
@[simp] theorem kC2_ok : kC2 d (.ok ds ms) = .ok (d :: ds) ms := rfl
@[simp] theorem kC2_err : kC2 d (.err c v ms) = .err c v ms := rfl
def kC1 (g : SA) (env : DE) (r : R D) : R (List D) := r.bind fun d ms => kC2 d (g env ms)
@[simp] theorem sCons_ap : sCons f g env ms = kC1 g env (f env ms) := rfl
@[simp] theorem kC1_ok : kC1 g env (.ok d ms) = kC2 d (g env ms) := rfl
@[simp] theorem kC1_err : kC1 g env (.err c v ms) = .err c v ms := rfl
def kTup  (r : R (List D)) : R D := r.bind fun ds ms => if ds.length ≤ 1000 then .ok (.tup ds) ms else .stuck
@[simp] theorem sTup_ap : sTup g env ms = kTup  (g env ms) := rfl
@[simp] theorem kTup_ok : kTup  (.ok ds ms) = if ds.length ≤ 1000 then .ok (.tup ds) ms else .stuck := rfl
@[simp] theorem kTup_err : kTup  (.err c v ms) = .err c v ms := rfl
def kLst  (r : R (List D)) : R D := r.bind fun ds ms => if ds.length ≤ 1000 then .ok (.lst ds) ms else .stuck
@[simp] theorem sLst_ap : sLst g env ms = kLst  (g env ms) := rfl
@[simp] theorem kLst_ok : kLst  (.ok ds ms) = if ds.length ≤ 1000 then .ok (.lst ds) ms else .stuck := rfl
@[simp] theorem kLst_err : kLst  (.err c v ms) = .err c v ms := rfl
def kNewL  (r : R (List D)) : R D := r.bind fun ds ms => if ds.length ≤ 1000 then .ok (.loc ms.length) (ms ++ [.lst ds]) else .stuck
@[simp] theorem sNewL_ap : sNewL g env ms = kNewL  (g env ms) := rfl
@[simp] theorem kNewL_ok : kNewL  (.ok ds ms) = if ds.length ≤ 1000 then .ok (.loc ms.length) (ms ++ [.lst ds]) else .stuck := rfl
@[simp] theorem kNewL_err : kNewL  (.err c v ms) = .err c v ms := rfl
variable {lo hi : Option Int} {fl fh : SO}
def kS3 (d : D) (lo : Option Int) (r : R (Option Int)) : R D := r.bind fun hi ms => optR (slcD ms d lo hi) ms
@[simp] theorem kS3_ok : kS3 d lo (.ok hi ms) = optR (slcD ms d lo hi) ms := rfl
@[simp] theorem kS3_err : kS3 d lo (.err c v ms) = .err c v ms := rfl
def kS2 (d : D) (fh : SO) (env : DE) (r : R (Option Int)) : R D := r.bind fun lo ms => kS3 d lo (fh env ms)
@[simp] theorem kS2_ok : kS2 d fh env (.ok lo ms) = kS3 d lo (fh env ms) := rfl
@[simp] theorem kS2_err : kS2 d fh env (.err c v ms) = .err c v ms := rfl
def kS1 (fl : SO) (fh : SO) (env : DE) (r : R D) : R D := r.bind fun d ms => kS2 d fh env (fl env ms)
@[simp] theorem sSlc_ap : sSlc f fl fh env ms = kS1 fl fh env (f env ms) := rfl
@[simp] theorem kS1_ok : kS1 fl fh env (.ok d ms) = kS2 d fh env (fl env ms) := rfl
@[simp] theorem kS1_err : kS1 fl fh env (.err c v ms) = .err c v ms := rfl
def kPart  (r : R D) : R (Option Int) := r.bind fun d ms => match d with
  | .int i => .ok (some i) ms
  | _ => .stuck
@[simp] theorem sPart_ap : sPart f env ms = kPart  (f env ms) := rfl
@[simp] theorem kPart_err : kPart  (.err c v ms) = .err c v ms := rfl
@[simp] theorem kPart_ok {i : Int} : kPart (.ok (.int i) ms) = .ok (some i) ms := rfl
def kBif (on : VOn) (r : R (List D)) : R D := r.bind fun ds ms => optR (on ms ds) ms
@[simp] theorem sBif_ap {on : VOn} : sBif on g env ms = kBif on (g env ms) := rfl
@[simp] theorem kBif_err {on : VOn} : kBif on (.err c v ms) = .err c v ms := rfl
@[simp] theorem kBif_ok {on : VOn} : kBif on (.ok ds ms) = optR (on ms ds) ms := rfl
def kIsi (ty : String) (r : R D) : R D := r.bind fun d ms => optR ((isiB ty ms d).map D.bl) ms
@[simp] theorem sIsi_ap {ty : String} : sIsi ty f env ms = kIsi ty (f env ms) := rfl
@[simp] theorem kIsi_err {ty : String} : kIsi ty (.err c v ms) = .err c v ms := rfl
@[simp] theorem kIsi_ok {ty : String} : kIsi ty (.ok d ms) = optR ((isiB ty ms d).map D.bl) ms := rfl
variable {F : SF} {n : Nat} {sp : Shape} {es : List D}
def kCall (F : SF) (n : Nat) (r : R (List D)) : R D := r.bind fun ds ms => if ds.length = n then F ds ms else .stuck
@[simp] theorem sCall_ap : sCall F n g env ms = kCall F n (g env ms) := rfl
@[simp] theorem kCall_ok : kCall F n (.ok ds ms) = if ds.length = n then F ds ms else .stuck := rfl
@[simp] theorem kCall_err : kCall F n (.err c v ms) = .err c v ms := rfl
def kK2 (F : SF) (sp : Shape) (ds : List D) (r : R (List D)) : R D := r.bind fun es ms => if ds.length = sp.n ∧ es.length = sp.ks.length then F (pm sp.perm (ds ++ es)) ms else .stuck
@[simp] theorem kK2_ok : kK2 F sp ds (.ok es ms) = if ds.length = sp.n ∧ es.length = sp.ks.length then F (pm sp.perm (ds ++ es)) ms else .stuck := rfl
@[simp] theorem kK2_err : kK2 F sp ds (.err c v ms) = .err c v ms := rfl
def kK1 (F : SF) (sp : Shape) (gk : SA) (env : DE) (r : R (List D)) : R D := r.bind fun ds ms => kK2 F sp ds (gk env ms)
@[simp] theorem sCallK_ap : sCallK F sp g gk env ms = kK1 F sp gk env (g env ms) := rfl
@[simp] theorem kK1_ok : kK1 F sp gk env (.ok ds ms) = kK2 F sp ds (gk env ms) := rfl
@[simp] theorem kK1_err : kK1 F sp gk env (.err c v ms) = .err c v ms := rfl
def kItems  (r : R D) : R (List D) := r.bind fun d ms => optR (itemsD d) ms
@[simp] theorem sItems_ap : sItems f env ms = kItems  (f env ms) := rfl
@[simp] theorem kItems_ok : kItems  (.ok d ms) = optR (itemsD d) ms := rfl
@[simp] theorem kItems_err : kItems  (.err c v ms) = .err c v ms := rfl
def kRange1  (r : R (List D)) : R (List D) := r.bind fun ds ms => match ds with
  | [.int j] => if inR j = true then .ok (rngL 0 j.toNat) ms else .stuck
  | _ => .stuck
@[simp] theorem sRange1_ap : sRange1 g env ms = kRange1  (g env ms) := rfl
@[simp] theorem kRange1_err : kRange1  (.err c v ms) = .err c v ms := rfl
@[simp] theorem kRange1_ok {j : Int} : kRange1 (.ok [.int j] ms) = if inR j = true then .ok (rngL 0 j.toNat) ms else .stuck := rfl
def kApp (n : Nat) (env : DE) (r : R D) : RS := r.thenS env fun d ms => appM n d env ms
@[simp] theorem kApp_ok : kApp n env (.ok d ms) = appM n d env ms := rfl
@[simp] theorem kApp_err : kApp n env (.err c v ms) = .err c v env ms := rfl
def kApp0 (z : Option (Option D)) (f : SE) (env : DE) (ms : MS) : RS := match z with
  | some (some (.loc n)) => if isLst ms n = true then kApp n env (f env ms) else .stuck
  | _ => .stuck
@[simp] theorem kApp0_some : kApp0 (some (some (.loc n))) f env ms = if isLst ms n = true then kApp n env (f env ms) else .stuck := rfl
@[simp] theorem sAppend_ap {i : Nat} : sAppend i f env ms = kApp0 (env[i]?) f env ms := rfl
def kD2 (n : Nat) (d : D) (env : DE) (r : R D) : RS := r.thenS env fun k ms => match keyD k with
  | some ky => dputM n ky d env ms
  | none => .stuck
@[simp] theorem kD2_err : kD2 n d env (.err c v ms) = .err c v env ms := rfl
@[simp] theorem kD2_ok {z : Str} : kD2 n d env (.ok (.str z) ms) = dputM n (.inr z) d env ms := rfl
def kD1 (n : Nat) (fa : SE) (env : DE) (r : R D) : RS := r.thenS env fun d ms => kD2 n d env (fa env ms)
@[simp] theorem kD1_ok : kD1 n fa env (.ok d ms) = kD2 n d env (fa env ms) := rfl
@[simp] theorem kD1_err : kD1 n fa env (.err c v ms) = .err c v env ms := rfl
def kD0 (z : Option (Option D)) (fa : SE) (env : DE) (r : R D) : RS := match z with
  | some (some (.loc n)) => kD1 n fa env r
  | _ => r.thenS env fun _ _ => .stuck
@[simp] theorem kD0_some {r : R D} : kD0 (some (some (.loc n))) fa env r = kD1 n fa env r := rfl
@[simp] theorem sDput_ap {i : Nat} : sDput i fa fb env ms = kD0 (env[i]?) fa env (fb env ms) := by
  unfold sDput kD0
  cases env[i]? with
  | none => rfl
  | some z => cases z with
    | none => rfl
    | some d => cases d <;> rfl
def kSw (i : Nat) (j : Nat) (z : Str) (env : DE) (r : R (List D)) : RS := r.thenS env fun ds ms => match ds with
  | [x, y] => match (env.set i (some x))[j]? with
    | some (some (.loc n)) => dputM n (.inr z) y (env.set i (some x)) ms
    | _ => .stuck
  | _ => .stuck
@[simp] theorem sSwap_ap {i j : Nat} {z : Str} : sSwap i j z g env ms = kSw i j z env (g env ms) := rfl
@[simp] theorem kSw_err {i j : Nat} {z : Str} : kSw i j z env (.err c v ms) = .err c v env ms := rfl
def kSw2 (z : Option (Option D)) (k : Str) (y : D) (env : DE) (ms : MS) : RS := match z with
  | some (some (.loc n)) => dputM n (.inr k) y env ms
  | _ => .stuck
@[simp] theorem kSw2_some {k : Str} : kSw2 (some (some (.loc n))) k y env ms = dputM n (.inr k) y env ms := rfl
@[simp] theorem kSw_ok {i j : Nat} {z : Str} : kSw i j z env (.ok [x, y] ms) = kSw2 ((env.set i (some x))[j]?) z y (env.set i (some x)) ms := rfl
theorem gTu_tup {n : Nat} {gs : VGs} {xs : List D} : gTu n gs ms (.tup xs) env = if xs.length = n then gs ms xs env else none := rfl
theorem gTu_lst {n : Nat} {gs : VGs} {xs : List D} : gTu n gs ms (.lst xs) env = if xs.length = n then gs ms xs env else none := rfl
theorem gsC_nm {i : Nat} {gs : VGs} : gsCons (gNm i) gs ms (d :: ds) env = gs ms ds (env.set i (some d)) := rfl
def gsK (gs : VGs) (ms : MS) (ds : List D) (z : Option DE) : Option DE := match z with
  | some env => gs ms ds env
  | none => none
theorem gsK_some {gs : VGs} : gsK gs ms ds (some env) = gs ms ds env := rfl
theorem gsC_tu {n : Nat} {gs gs' : VGs} : gsCons (gTu n gs') gs ms (d :: ds) env = gsK gs ms ds (gTu n gs' ms d env) := rfl
theorem gsN : gsNil ms [] env = some env := rfl
def kRev (r : R D) : R D := r.bind fun d ms => optR (revD ms d) ms
@[simp] theorem sRev_ap : sRev f env ms = kRev (f env ms) := rfl
@[simp] theorem kRev_ok : kRev (.ok d ms) = optR (revD ms d) ms := rfl
theorem rev_tup {xs : List D} : revD ms (.tup xs) = some (.tup xs.reverse) := rfl
theorem rev_lst {xs : List D} : revD ms (.lst xs) = some (.lst xs.reverse) := rfl
noncomputable def kRaise (c : Nat) (fs : Bool) (env : DE) (r : R D) : RS := r.thenS env fun d ms => if fOk fs d = true then .err c d env ms else .stuck
@[simp] theorem sRaise_ap {fs : Bool} : sRaise c fs f env ms = kRaise c fs env (f env ms) := rfl
@[simp] theorem kRaise_ok {fs : Bool} : kRaise c fs env (.ok d ms) = if fOk fs d = true then .err c d env ms else .stuck := rfl
def kTry (hd : Nat → Option Bool) (h : SS) (r : RS) : RS := match r with
  | .err k d env' ms' => (match hd k with
    | some true => h env' ms'
    | some false => .err k d env' ms'
    | none => .stuck)
  | r => r
@[simp] theorem sTry_ap {hd : Nat → Option Bool} : sTry hd s s' env ms = kTry hd s' (s env ms) := by
  unfold sTry kTry
  cases s env ms <;> rfl
@[simp] theorem kTry_nx {hd : Nat → Option Bool} : kTry hd s (.nx env ms) = .nx env ms := rfl
@[simp] theorem kTry_ret {hd : Nat → Option Bool} : kTry hd s (.ret d ms) = .ret d ms := rfl
def kTryF (hd : Nat → Option Bool) (c i j : Nat) (wr : Bool) (r : RS) : RS := match r with
  | .err k d env' ms' => (match hd k with
    | some true => if k = c ∧ i < env'.length then .nx ((env'.set j (some (wrD wr d))).set i none) ms' else .stuck
    | some false => .err k d env' ms'
    | none => .stuck)
  | r => r
@[simp] theorem sTryF_ap {hd : Nat → Option Bool} {i j : Nat} {wr : Bool} : sTryF hd c i j wr s env ms = kTryF hd c i j wr (s env ms) := by
  unfold sTryF kTryF
  cases s env ms <;> rfl
@[simp] theorem kTryF_nx {hd : Nat → Option Bool} {i j : Nat} {wr : Bool} : kTryF hd c i j wr (.nx env ms) = .nx env ms := rfl
def kTab (kvs : List (Str × D)) (r : R D) : R D := r.bind fun d ms => match d with
  | .str k => optR (kvs.lookup k) ms
  | _ => .stuck
@[simp] theorem sTab_ap {kvs : List (Str × D)} : sTab kvs f env ms = kTab kvs (f env ms) := rfl
@[simp] theorem kTab_ok {kvs : List (Str × D)} {k : Str} : kTab kvs (.ok (.str k) ms) = optR (kvs.lookup k) ms := rfl
def augO (z : Option D) (i : Nat) (env : DE) (ms : MS) : RS := match z with
  | some d => .nx (env.set i (some d)) ms
  | none => .stuck
@[simp] theorem augO_some {i : Nat} : augO (some d) i env ms = .nx (env.set i (some d)) ms := rfl
def kAug1 (o : VO2) (x : D) (i : Nat) (env : DE) (r : R D) : RS := r.thenS env fun y ms => augO (o ms x y) i env ms
@[simp] theorem kAug1_ok {i : Nat} : kAug1 o x i env (.ok y ms) = augO (o ms x y) i env ms := rfl
def kAug0 (z : Option (Option D)) (o : VO2) (i : Nat) (f : SE) (env : DE) (ms : MS) : RS := match z with
  | some (some x) => kAug1 o x i env (f env ms)
  | _ => .stuck
@[simp] theorem kAug0_some {i : Nat} : kAug0 (some (some x)) o i f env ms = kAug1 o x i env (f env ms) := rfl
@[simp] theorem sAug_ap {i : Nat} : sAug o i f env ms = kAug0 (env[i]?) o i f env ms := by
  unfold sAug kAug0
  cases env[i]? with
  | none => rfl
  | some z => cases z <;> rfl
theorem iadd_int {i j : Int} : iop (fun i j => some (.int (i + j))) ms (.int i) (.int j) = some (.int (i + j)) := rfl
theorem isub_int {i j : Int} : iop (fun i j => some (.int (i - j))) ms (.int i) (.int j) = some (.int (i - j)) := rfl
/-- a while whose turns go on -/
theorem while_step {c : ST} {body : SS} {n : Nat} {env2 : DE} {ms1 ms2 : MS} (a : c env ms = .ok true ms1) (b : body env ms1 = .nx env2 ms2) : whileN c body (n + 1) env ms = whileN c body n env2 ms2 := by
  show (c env ms).thenS env _ = _
  rw [a]
  simp only [R.thenS, ↓reduceIte, b]
theorem while_end {c : ST} {body : SS} {n : Nat} {ms1 : MS} (a : c env ms = .ok false ms1) : whileN c body (n + 1) env ms = .nx env ms1 := by
  show (c env ms).thenS env _ = _
  rw [a]
  rfl
theorem while_ret {c : ST} {body : SS} {n : Nat} {ms1 ms2 : MS} (a : c env ms = .ok true ms1) (b : body env ms1 = .ret d ms2) : whileN c body (n + 1) env ms = .ret d ms2 := by
  show (c env ms).thenS env _ = _
  rw [a]
  simp only [R.thenS, ↓reduceIte, b]
theorem forL_ret {gt : VG} {ds : List D} {env1 : DE} {ms2 : MS} {x : D} (a : gt ms d env = some env1) (b : s env1 ms = .ret x ms2) : forL gt s (d :: ds) env ms = .ret x ms2 := by
  conv => lhs; unfold forL
  simp only [a, b]
theorem forL_err {gt : VG} {ds : List D} {env1 env2 : DE} {ms2 : MS} {x : D} (a : gt ms d env = some env1) (b : s env1 ms = .err c x env2 ms2) : forL gt s (d :: ds) env ms = .err c x env2 ms2 := by
  conv => lhs; unfold forL
  simp only [a, b]
theorem forL_nil {gt : VG} : forL gt s [] env ms = .nx env ms := rfl
/-- a walk that goes on -/
theorem forL_inv {gt : VG} {body : SS} (I : DE → MS → Prop) : ∀ {ds : List D} {env : DE} {ms : MS}, I env ms → (∀ d ∈ ds, ∀ env ms, I env ms → ∃ env1 env2 ms2, gt ms d env = some env1 ∧ body env1 ms = .nx env2 ms2 ∧ I env2 ms2) → ∃ env' ms', forL gt body ds env ms = .nx env' ms' ∧ I env' ms'
  | [], env, ms, h, _ => ⟨env, ms, rfl, h⟩
  | d :: ds, env, ms, h, k => by
    obtain ⟨e1, e2, m2, a, b, c⟩ := k d List.mem_cons_self env ms h
    obtain ⟨e3, m3, x, y⟩ := forL_inv I (ds := ds) c fun d hd => k d (List.mem_cons_of_mem _ hd)
    refine ⟨e3, m3, ?_, y⟩
    unfold forL
    simp only [a, b]
    exact x
theorem forL_cons {gt : VG} {d : D} {ds : List D} {env1 env2 : DE} {ms2 : MS} (a : gt ms d env = some env1) (b : s env1 ms = .nx env2 ms2) : forL gt s (d :: ds) env ms = forL gt s ds env2 ms2 := by
  conv => lhs; unfold forL
  simp only [a, b]
/-- a comprehension that touches nothing -/
theorem lcL_pure {gt : VG} {tt : ST} {fe : SE} {p : D → Bool} {v : D → D} : ∀ {ds acc : List D}, (∀ d ∈ ds, ∀ acc, ∃ env1, gt (ms ++ [.lst acc]) d env = some env1 ∧ tt env1 (ms ++ [.lst acc]) = .ok (p d) (ms ++ [.lst acc]) ∧ (p d = true → fe env1 (ms ++ [.lst acc]) = .ok (v d) (ms ++ [.lst acc]))) → acc.length + ds.length ≤ 16777216 →
    lcL gt tt fe env ms.length ds (ms ++ [.lst acc]) = .ok () (ms ++ [.lst (acc ++ (ds.filter p).map v)])
  | [], acc, _, _ => by simp [lcL]
  | d :: ds, acc, h, hl => by
    obtain ⟨env1, a, b, c⟩ := h d List.mem_cons_self acc
    simp only [List.length_cons] at hl
    have t := fun x hx => h x (List.mem_cons_of_mem _ hx)
    simp only [lcL, a, b, nox]
    by_cases hp : p d = true
    · rw [if_pos hp, c hp]
      simp only [List.getElem?_concat_length]
      rw [if_pos (by omega)]
      have e : (ms ++ [MO.lst acc]).set ms.length (MO.lst (acc ++ [v d])) = ms ++ [MO.lst (acc ++ [v d])] := by simp
      rw [e, lcL_pure t (by rw [List.length_append]; simp only [List.length_cons, List.length_nil]; omega)]
      rw [List.filter_cons_of_pos hp]
      simp
    · rw [if_neg hp, lcL_pure t (by omega), List.filter_cons_of_neg hp]
theorem cutE_ok {f : SE} {g : MS} (h : f env ms = .ok d (ms ++ g)) (hd : locsLt ms.length d = true) : cutE f env ms = .ok d ms := by
  unfold cutE
  rw [h]
  simp only
  rw [if_pos ⟨Kept.app ms g, hd⟩, List.take_left]
theorem cutE_kept {f : SE} {m g : MS} (h : f env ms = .ok d (m ++ g)) (hl : m.length = ms.length) (hk : ∀ (n : Nat) (o : MO), ms[n]? = some o → ∃ o', m[n]? = some o' ∧ (o' = o ∨ moLt ms.length o' = true)) (hd : locsLt ms.length d = true) : cutE f env ms = .ok d m := by
  unfold cutE
  rw [h]
  simp only
  have k : Kept ms (m ++ g) := ⟨by rw [List.length_append]; omega, fun n o ho => by
    obtain ⟨o', h1, h2⟩ := hk n o ho
    exact ⟨o', by rw [List.getElem?_append_left (by rw [hl]; exact (List.getElem?_eq_some_iff.mp ho).1)]; exact h1, h2⟩⟩
  rw [if_pos ⟨k, hd⟩, ← hl, List.take_left]
theorem cutE_set {f : SE} {g : MS} {n : Nat} {o o' : MO} (h : f env (ms.set n o) = .ok d (ms.set n o' ++ g)) (ho : moLt ms.length o' = true) (hd : locsLt ms.length d = true) : cutE f env (ms.set n o) = .ok d (ms.set n o') := by
  refine cutE_kept h (by rw [List.length_set, List.length_set]) (fun k x hx => ?_) (by rw [List.length_set]; exact hd)
  have hlt := (List.getElem?_eq_some_iff.mp hx).1
  rw [List.length_set] at hlt
  by_cases e : n = k
  · subst e
    exact ⟨o', by rw [List.getElem?_set_self hlt], .inr (by rw [List.length_set]; exact ho)⟩
  · rw [List.getElem?_set_ne e] at hx
    exact ⟨x, by rw [List.getElem?_set_ne e]; exact hx, .inl rfl⟩
theorem sLcG_pure {mu : Bool} {ms0 : MS} {fi : SI'} {vs : List Nat} {gt : VG} {tt : ST} {fe : SE} {ds : List D} (p : D → Bool) (v : D → D) (hi : fi env ms0 = .ok ds ms) (h : ∀ d ∈ ds, ∀ acc, ∃ env1, gt (ms ++ [.lst acc]) d (wipeD env vs) = some env1 ∧ tt env1 (ms ++ [.lst acc]) = .ok (p d) (ms ++ [.lst acc]) ∧ (p d = true → fe env1 (ms ++ [.lst acc]) = .ok (v d) (ms ++ [.lst acc]))) (hl : ds.length ≤ 16777216) :
    sLcG mu fi vs gt tt fe env ms0 = if mu = true then .ok (.loc ms.length) (ms ++ [.lst ((ds.filter p).map v)]) else .ok (.lst ((ds.filter p).map v)) (ms ++ [.dead]) := by
  unfold sLcG
  rw [hi]
  simp only [bind_ok]
  rw [lcL_pure h (by simpa using hl)]
  simp [bind_ok, lcE]
/-- a comprehension that touches nothing -/
theorem sLc_pure {fi : SI'} {vs : List Nat} {gt : VG} {tt : ST} {fe : SE} {ds : List D} (p : D → Bool) (v : D → D) (hi : fi env ms = .ok ds ms) (h : ∀ d ∈ ds, ∀ acc, ∃ env1, gt (ms ++ [.lst acc]) d (wipeD env vs) = some env1 ∧ tt env1 (ms ++ [.lst acc]) = .ok (p d) (ms ++ [.lst acc]) ∧ (p d = true → fe env1 (ms ++ [.lst acc]) = .ok (v d) (ms ++ [.lst acc]))) (hl : ds.length ≤ 16777216) (hd : locsLts ms.length ((ds.filter p).map v) = true) :
    sLc fi vs gt tt fe env ms = .ok (.lst ((ds.filter p).map v)) ms := by
  refine cutE_ok (g := [.dead]) ?_ (by simp only [locsLt]; exact hd)
  rw [sLcG_pure p v hi h hl]
  rfl
/-- what a call leaves -/
theorem cutF_ok {F : SF} {ds : List D} {d : D} {m g : MS} (h : F ds ms = .ok d (m ++ g)) (hl : m.length = ms.length) (hk : ∀ (n : Nat) (o : MO), ms[n]? = some o → ∃ o', m[n]? = some o' ∧ (o' = o ∨ moLt ms.length o' = true)) (hd : locsLt ms.length d = true) : cutF F ds ms = .ok d m := by
  unfold cutF
  rw [h]
  simp only
  have k : Kept ms (m ++ g) := ⟨by rw [List.length_append]; omega, fun n o ho => by
    obtain ⟨o', h1, h2⟩ := hk n o ho
    exact ⟨o', by rw [List.getElem?_append_left (by rw [hl]; exact (List.getElem?_eq_some_iff.mp ho).1)]; exact h1, h2⟩⟩
  rw [if_pos ⟨k, hd⟩, ← hl, List.take_left]
theorem cutF_same {F : SF} {ds : List D} {d : D} (g : MS) (h : F ds ms = .ok d (ms ++ g)) (hd : locsLt ms.length d = true) : cutF F ds ms = .ok d ms := cutF_ok h rfl (fun n o ho => ⟨o, ho, .inl rfl⟩) hd
theorem cutF_here {F : SF} {ds : List D} {d : D} (h : F ds ms = .ok d ms) (hd : locsLt ms.length d = true) : cutF F ds ms = .ok d ms := cutF_same [] (by rw [List.append_nil]; exact h) hd
theorem cutF_set {F : SF} {ds : List D} {d : D} {n : Nat} {o : MO} (g : MS) (h : F ds ms = .ok d (ms.set n o ++ g)) (ho : moLt ms.length o = true) (hd : locsLt ms.length d = true) : cutF F ds ms = .ok d (ms.set n o) := by
  refine cutF_ok h (List.length_set ..) (fun k x hx => ?_) hd
  have hlt := (List.getElem?_eq_some_iff.mp hx).1
  by_cases e : n = k
  · subst e
    exact ⟨o, by rw [List.getElem?_set_self hlt], .inr ho⟩
  · exact ⟨x, by rw [List.getElem?_set_ne e]; exact hx, .inl rfl⟩
end DL

/-! reckoning with objects -/
namespace DL
open PySem L2
section
variable {ms : MS} {env : DE} {f : SE} {d v : D} {x : Str} {c i : Nat} {cs : List (Nat × Bool)}
def kFld (cs : List (Nat × Bool)) (x : Str) (r : R D) : R D := r.bind fun d ms => optR (fldD cs x ms d) ms
theorem sFld_ap : sFld cs x f env ms = kFld cs x (f env ms) := rfl
theorem kFld_ok : kFld cs x (.ok d ms) = optR (fldD cs x ms d) ms := rfl
def kIsiR (r : R D) : R D := r.bind fun d ms => optR ((isiR ms d).map D.bl) ms
theorem sIsiR_ap : sIsiR f env ms = kIsiR (f env ms) := rfl
theorem kIsiR_ok : kIsiR (.ok d ms) = optR ((isiR ms d).map D.bl) ms := rfl
def kSetF (i c : Nat) (x : Str) (env : DE) (r : R D) : RS := r.thenS env fun d ms => match env[i]? with
  | some (some (.loc n)) => setM c x n d env ms
  | _ => .stuck
theorem sSetF_ap : sSetF i c x f env ms = kSetF i c x env (f env ms) := rfl
theorem kSetF_ok {n : Nat} (h : env[i]? = some (some (.loc n))) : kSetF i c x env (.ok d ms) = setM c x n d env ms := by
  show (match env[i]? with
    | some (some (.loc n)) => setM c x n d env ms
    | _ => .stuck) = _
  rw [h]
def kMake (rat : Bool) (c : Nat) (F : SF) (n : Nat) (dd : List D) (r : R (List D)) : R D := r.bind fun ds ms => if ds.length + dd.length + 1 = n then mkEnd rat c ms.length (F (.loc ms.length :: (ds ++ dd)) (ms ++ [.obj c []])) else .stuck
theorem sMake_ap {rat : Bool} {F : SF} {n : Nat} {dd : List D} {ga : SA} : sMake rat c F n dd ga env ms = kMake rat c F n dd (ga env ms) := rfl
theorem kMake_ok {rat : Bool} {F : SF} {n : Nat} {dd ds : List D} : kMake rat c F n dd (.ok ds ms) = if ds.length + dd.length + 1 = n then mkEnd rat c ms.length (F (.loc ms.length :: (ds ++ dd)) (ms ++ [.obj c []])) else .stuck := rfl
theorem fld_num {n m : Int} (h : cs.any (fun c => c.2) = true) : fldD cs "own_num" ms (.rat n m) = some (.int n) := by
  simp only [fldD, h, if_true]; rfl
theorem fld_den {n m : Int} (h : cs.any (fun c => c.2) = true) : fldD cs "own_den" ms (.rat n m) = some (.int m) := by
  simp only [fldD, h, if_true]
  show List.lookup ("own_den" : Str) (ratD n m) = _
  kernel_rfl
end
end DL

/-! a class of the text: from the head's facts to GlOk -/
namespace DL
open PySem PySem.Spec PyProof.Rows L2 He
def clsAt (st : Stmt) (j : Nat) : Stmt := match st with
  | .ClassDef _ _ _ body _ _ _ _ _ _ _ => body.getD j (.Pass ⟨0, 0, 0, 0⟩)
  | st => st
section
variable {G : Gx} {X : Cx} {P : Program} {w : World} {mg : Str → Option Value} {base : Heap} {j k n : Nat} {C f : Addr} {fd : FuncData} {ps : List Str} {F : SF}
theorem iniG_of {dd : List D} {dvs : List V} (h1 : X.prog = P) (h2 : X.w = w) (h3 : X.K = G.K) (h4 : X.mg = mg) (h5 : X.base = base) (hr : Room j X.A) (hk : k + 1 ≤ j) (M : Mk G.K C f) (Fn : FnG P w G.K mg base k f fd ps (spF G F n)) (hb : ∃ ds, Vals dvs ds ∧ Binds G.K fd ps ds) (hd : ∀ w, Rps G w dd dvs) : IniG G X C F n dd := by
  obtain ⟨ds, v, b⟩ := hb
  exact ⟨k, f, fd, ps, dvs, ds, by rw [h3]; exact M, by rw [h1, h2, h3, h4, h5]; exact Fn, hr.mono hk, by rw [h3]; exact b, v, hd⟩
theorem ownG_of {op : CmpOp} {m : Str} (h1 : X.prog = P) (h2 : X.w = w) (h3 : X.K = G.K) (h4 : X.mg = mg) (h5 : X.base = base) (hr : Room j X.A) (hk : k ≤ j) (hC : G.CR = C) (hm : (cmpInfo op).2.1 = m) (O : PySem.W.findIn G.K (.ref C) m = some (some (.ref f)) ∧ PySem.W.isFn G.K (.ref f) = true) (Fn : FnG P w G.K mg base k f fd ps (spF G F 2)) (hb : Binds G.K fd ps []) : OwnG G X op F := by
  subst hC hm
  exact ⟨f, fd, ps, k, by rw [h3]; exact O.1, by rw [h3]; exact O.2, by rw [h1, h2, h3, h4, h5]; exact Fn, hr.mono hk, by rw [h3]; exact hb⟩
theorem eqG_of {m : Str} (h1 : X.prog = P) (h2 : X.w = w) (h3 : X.K = G.K) (h4 : X.mg = mg) (h5 : X.base = base) (hC : G.CR = C) (hm : (cmpInfo .Eq).2.1 = m) (O : PySem.W.findIn G.K (.ref C) m = some (some (.ref f)) ∧ PySem.W.isFn G.K (.ref f) = true) (Fn : FnG P w G.K mg base k f fd ps (spF G F 2)) (hb : Binds G.K fd ps [])
    (hF : ∀ (n d n' d' : Int) (ms : MS), F [.rat n d, .rat n' d'] ms = .ok (.bl (decide (n = n') && decide (d = d'))) ms) : EqG1 G X k := by
  subst hC hm
  exact ⟨f, fd, ps, F, by rw [h3]; exact O.1, by rw [h3]; exact O.2, by rw [h1, h2, h3, h4, h5]; exact Fn, by rw [h3]; exact hb, hF⟩
theorem getter_ok {name qual fl : Str} {st : Stmt} {N : List Str} {p1 p2 p3 : Pos} (Fu : FunE G.K name qual st f fd) (S : FnScope N ["self"] (defScope st)) (hN : N[0]? = some ("self" : Str)) (hb : defBody st = [.Return (some (.Attribute (.Name "self" p1) fl p2)) p3]) (c : Cls G.K C) (n : NoAttr G.K C fl) : FnOk P w G.K mg base CX0 1 f fd ["self"] (getSp C fl) := by
  obtain ⟨oc, od, dV, kV, doc, pm, an, cdv, ct, osl, rfl, lk, hcd⟩ := Fu.ex
  exact fn_getter (k := 0) lk hcd S hN hb c n
theorem propG_of {x fl : Str} {p g : Addr} (h1 : X.prog = P) (h2 : X.w = w) (h3 : X.K = G.K) (h4 : X.mg = mg) (h5 : X.base = base) (hr : Room j X.A) (hk : 2 ≤ j) (O : PropOf G.K C x p g) (Fn : FnOk P w G.K mg base CX0 1 g fd ps (getSp C fl)) (hb : Binds G.K fd ps []) : PropG X C x fl :=
  ⟨p, g, fd, ps, 1, by rw [h3]; exact O, by rw [h1, h2, h3, h4, h5]; exact Fn, hr.mono hk, by rw [h3]; exact hb⟩
theorem luNil {α : Type} {Q : Str → α → Prop} : ∀ p fl, ([] : List (Str × α)).lookup p = some fl → Q p fl := fun _ _ z => by cases z
theorem luCons {α : Type} {Q : Str → α → Prop} {y : Str} {a : α} {l : List (Str × α)} (h : Q y a) (t : ∀ p fl, l.lookup p = some fl → Q p fl) : ∀ p fl, ((y, a) :: l).lookup p = some fl → Q p fl := fun p fl z => by
  rw [List.lookup_cons] at z
  by_cases e : p = y
  · subst e
    rw [beq_self_eq_true] at z
    cases z
    exact h
  · rw [beq_false_of_ne e] at z
    exact t p fl z
theorem inNil {Q : SF → List D → Prop} : ∀ m F dd, ([] : List (Nat × SF × List D)).lookup m = some (F, dd) → Q F dd := fun _ _ _ z => by cases z
theorem inCons {Q : SF → List D → Prop} {y : Nat} {F0 : SF} {dd0 : List D} {l : List (Nat × SF × List D)} (h : Q F0 dd0) (t : ∀ m F dd, l.lookup m = some (F, dd) → Q F dd) : ∀ m F dd, ((y, F0, dd0) :: l).lookup m = some (F, dd) → Q F dd := fun m F dd z => by
  rw [List.lookup_cons] at z
  by_cases e : m = y
  · subst e
    rw [beq_self_eq_true] at z
    cases z
    exact h
  · rw [beq_false_of_ne e] at z
    exact t m F dd z
end
end DL
namespace DL
open PySem PySem.Spec PyProof.Rows L2 He
theorem methG_of {G : Gx} {X : Cx} {P : Program} {w : World} {mg : Str → Option Value} {base : Heap} {j k n : Nat} {C f : Addr} {fd : FuncData} {ps : List Str} {F : SF} {m : Str} (h1 : X.prog = P) (h2 : X.w = w) (h3 : X.K = G.K) (h4 : X.mg = mg) (h5 : X.base = base) (hr : Room j X.A) (hk : k ≤ j) (O : PySem.W.findIn G.K (.ref C) m = some (some (.ref f)) ∧ PySem.W.isFn G.K (.ref f) = true) (kp : PySem.W.keepIn G.K (.ref f) = true) (Fn : FnG P w G.K mg base k f fd ps (spF G F n)) (hb : Binds G.K fd ps []) : MethG G X C m F n :=
  ⟨f, fd, ps, k, by rw [h3]; exact ⟨O.1, O.2, kp⟩, by rw [h1, h2, h3, h4, h5]; exact Fn, hr.mono hk, by rw [h3]; exact hb⟩
theorem meNil {Q : Str → SF → Nat → Prop} : ∀ m F n, ([] : List (Str × SF × Nat)).lookup m = some (F, n) → Q m F n := fun _ _ _ z => by cases z
theorem meCons {Q : Str → SF → Nat → Prop} {y : Str} {F0 : SF} {n0 : Nat} {l : List (Str × SF × Nat)} (h : Q y F0 n0) (t : ∀ m F n, l.lookup m = some (F, n) → Q m F n) : ∀ m F n, ((y, F0, n0) :: l).lookup m = some (F, n) → Q m F n := fun m F n z => by
  rw [List.lookup_cons] at z
  by_cases e : m = y
  · subst e
    rw [beq_self_eq_true] at z
    cases z
    exact h
  · rw [beq_false_of_ne e] at z
    exact t m F n z
end DL
namespace DL
open PySem PySem.Spec PyProof.Rows L2 He
theorem nlu {ex : List (Nat × Bool)} {k : Nat} {b : Bool} (e : ex.lookup k = some b) : (k, b) ∈ ex := by
  induction ex with
  | nil => cases e
  | cons p l ih =>
    obtain ⟨k0, b0⟩ := p
    rw [List.lookup_cons] at e
    by_cases q : k = k0
    · subst q
      rw [beq_self_eq_true] at e
      cases e
      exact List.mem_cons_self
    · rw [beq_false_of_ne q] at e
      exact List.mem_cons_of_mem _ (ih e)
theorem er_sub {G : Gx} {X : Cx} {x : Str} {c : Nat} {fs : Bool} {ex ex' : List (Nat × Bool)} (h : GlOk G X x (.er c fs ex)) (hs : (ex'.all fun p => ex.lookup p.1 == some p.2) = true) : GlOk G X x (.er c fs ex') :=
  ⟨h.1, fun k b e => h.2 k b (by
    have := List.all_eq_true.mp hs _ (nlu e)
    simpa using this)⟩
end DL

namespace U
open PySem L2 DL
/-! is_integer -/
noncomputable def b_is_integer : SS :=
    (sRet (sAndV (sIsi "int" (sVar 0)) (sNotV (sIsi "bool" (sVar 0)))))
noncomputable def F_is_integer : SF := cutF (runD 1 (b_is_integer))
/-! is_whole -/
noncomputable def b_is_whole : SS :=
    (sRet (sAndV (sCall F_is_integer 1 (sCons (sVar 0) sNil)) (sChain leD leD (sVar 1) (sVar 0) (sVar 2))))
noncomputable def F_is_whole : SF := cutF (runD 3 (b_is_whole))
/-! is_duration -/
noncomputable def b_is_duration : SS :=
    (sRet (sCall F_is_whole 3 (sCons (sVar 0) (sCons (sCst (.int 1)) (sCons (sCst (.int 99999)) sNil)))))
noncomputable def F_is_duration : SF := cutF (runD 1 (b_is_duration))
/-! are_durations -/
noncomputable def b_are_durations : SS :=
    (sRet (sAndV (sIsi "tuple" (sVar 0)) (sAndV (sBin inD (sBif lenD (sCons (sVar 0) sNil)) (sVar 1)) (sBif allD (sCons (sLc (sItems (sVar 0)) [2] (gNm 2) (fun _ ms => .ok true ms) (sCall F_is_duration 1 (sCons (sVar 2) sNil))) sNil)))))
noncomputable def F_are_durations : SF := cutF (runD 3 (b_are_durations))
/-! wrong_part -/
noncomputable def b_wrong_part : SS :=
    (sSeq (sIf (sTst (sBin eqD (sBin atD (sVar 0) (sCst (.int 0))) (sCst (.str "halves"))))
    (sSeq (sAsg (sVar 0) (gTu 3 (gsCons (gNm 1) (gsCons (gNm 2) (gsCons (gNm 3) gsNil)))))
    (sAsg (sNewL (sCons (sTup (sCons (sCst (.str "unit")) (sCons (sCall F_is_duration 1 (sCons (sVar 2) sNil)) sNil))) sNil)) (gNm 4)))
    (sSeq (sAsg (sVar 0) (gTu 6 (gsCons (gNm 1) (gsCons (gNm 5) (gsCons (gNm 6) (gsCons (gNm 7) (gsCons (gNm 8) (gsCons (gNm 3) gsNil))))))))
    (sSeq (sAsg (sNewL (sCons (sTup (sCons (sCst (.str "header")) (sCons (sCall F_are_durations 2 (sCons (sVar 5) (sCons (sTup (sCons (sCst (.int 0)) (sCons (sCst (.int 2)) (sCons (sCst (.int 4)) sNil)))) sNil))) sNil))) (sCons (sTup (sCons (sCst (.str "zero")) (sCons (sCall F_are_durations 2 (sCons (sVar 6) (sCons (sTup (sCons (sCst (.int 2)) sNil)) sNil))) sNil))) sNil))) (gNm 4))
    (sSeq (sAppend 4 (sTup (sCons (sCst (.str "one")) (sCons (sAndV (sCall F_are_durations 2 (sCons (sVar 7) (sCons (sTup (sCons (sCst (.int 2)) sNil)) sNil))) (sBin neD (sVar 7) (sVar 6))) sNil))))
    (sAppend 4 (sTup (sCons (sCst (.str "stop")) (sCons (sCall F_is_duration 1 (sCons (sVar 8) sNil)) sNil))))))))
    (sSeq (sAppend 4 (sTup (sCons (sCst (.str "bits")) (sCons (sCall F_is_whole 3 (sCons (sVar 3) (sCons (sCst (.int 1)) (sCons (sCst (.int 8)) sNil)))) sNil))))
    (sSeq (sAsg (sLc (sItems (sFrz 4)) [10, 11] (gTu 2 (gsCons (gNm 10) (gsCons (gNm 11) gsNil))) (sNotT (sTru (sVar 11))) (sVar 10)) (gNm 9))
    (sRet (sIte (sTst (sBin neD (sVar 9) (sLst sNil))) (sBin atD (sVar 9) (sCst (.int 0))) (sCst .non))))))
noncomputable def F_wrong_part : SF := cutF (runD 12 (b_wrong_part))
/-! need_table -/
noncomputable def b_need_table : SS :=
    (sSeq (sIf (sOrT (sNotT (sTru (sIsi "tuple" (sVar 0)))) (sOrT (sTst (sBin notinD (sBif lenD (sCons (sVar 0) sNil)) (sTup (sCons (sCst (.int 3)) (sCons (sCst (.int 6)) sNil))))) (sNotT (sTru (sIsi "str" (sBin atD (sVar 0) (sCst (.int 0))))))))
    (sRaise 1 true (sCst (.str "form")))
    sSkip)
    (sSeq (sIf (sTst (sBin neD (sBin atD (sVar 0) (sCst (.int 0))) (sBin atD (sDic false [((sCst (.int 3)), (sCst (.str "halves"))), ((sCst (.int 6)), (sCst (.str "pairs")))]) (sBif lenD (sCons (sVar 0) sNil)))))
    (sRaise 1 true (sCst (.str "form")))
    sSkip)
    (sSeq (sAsg (sCall F_wrong_part 1 (sCons (sVar 0) sNil)) (gNm 1))
    (sSeq (sIf (sTst (sBin isnD (sVar 1) (sCst .non)))
    (sRaise 1 true (sVar 1))
    sSkip)
    (sRet (sVar 0))))))
noncomputable def F_need_table : SF := cutF (runD 2 (b_need_table))
/-! bits_of -/
noncomputable def b_bits_of : SS :=
    (sRet (sBin atD (sVar 0) (sNeg (sCst (.int 1)))))
noncomputable def F_bits_of : SF := cutF (runD 1 (b_bits_of))
/-! is_bits -/
noncomputable def b_is_bits : SS :=
    (sSeq (sIf (sOrT (sNotT (sTru (sIsi "tuple" (sVar 1)))) (sTst (sBin neD (sBif lenD (sCons (sVar 1) sNil)) (sCall F_bits_of 1 (sCons (sVar 0) sNil)))))
    (sRet (sCst (.bl false)))
    sSkip)
    (sRet (sBif allD (sCons (sLc (sItems (sVar 1)) [2] (gNm 2) (fun _ ms => .ok true ms) (sCall F_is_whole 3 (sCons (sVar 2) (sCons (sCst (.int 0)) (sCons (sCst (.int 1)) sNil))))) sNil))))
noncomputable def F_is_bits : SF := cutF (runD 3 (b_is_bits))
/-! _law_begin -/
noncomputable def b_law_begin (sx : List Int) : SS :=
    (sRet (sDic true [((sCst (.str "cells")), (sBin (scrAdd sx) (sVar 0) (sLst (sCons (sCst (.int 0)) sNil)))), ((sCst (.str "at")), (sCst (.int 0))), ((sCst (.str "left")), (sCst (.int 0))), ((sCst (.str "used")), (sCst (.int 0)))]))
noncomputable def F_law_begin (sx : List Int) : SF := cutN (runD 1 (b_law_begin sx))
/-! _law_next -/
noncomputable def b_law_next : SS :=
    (sSeq (sIf (sTst (sBin gtD (sBin atD (sVar 0) (sCst (.str "left"))) (sCst (.int 0))))
    (sSeq (sSwap 2 0 "left" (sCons (sBin atD (sVar 0) (sCst (.str "left"))) (sCons (sBin fdivD (sBin atD (sVar 0) (sCst (.str "left"))) (sVar 1)) sNil)))
    (sRet (sBin modD (sVar 2) (sVar 1))))
    sSkip)
    (sSeq (sAsg (sBin atD (sVar 0) (sCst (.str "cells"))) (gNm 3))
    (sSeq (sAsg (sBin atD (sVar 3) (sBin modD (sBin atD (sVar 0) (sCst (.str "at"))) (sBif lenD (sCons (sVar 3) sNil)))) (gNm 2))
    (sSeq (sDput 0 (sCst (.str "at")) (sBin addD (sBin atD (sVar 0) (sCst (.str "at"))) (sCst (.int 1))))
    (sSeq (sIf (sAndT (sTst (sBin geD (sVar 2) (sBin powD (sCst (.int 10)) (sCst (.int 18))))) (sTst (sBin leD (sBin atD (sVar 0) (sCst (.str "at"))) (sBif lenD (sCons (sVar 3) sNil)))))
    (sSeq (sDput 0 (sCst (.str "left")) (sBin fdivD (sVar 2) (sVar 1)))
    (sRet (sBin modD (sVar 2) (sVar 1))))
    sSkip)
    (sSeq (sDput 0 (sCst (.str "used")) (sBin addD (sBin atD (sVar 0) (sCst (.str "used"))) (sCst (.int 1))))
    (sSeq (sAsg (sBin addD (sBin modD (sVar 2) (sCst (.int 1000000007))) (sBin mulD (sBin mulD (sCst (.int 7919)) (sBin atD (sVar 0) (sCst (.str "used")))) (sBin atD (sVar 0) (sCst (.str "used"))))) (gNm 4))
    (sSeq (sFor (sItems (sTup (sCons (sBin atD (sVar 0) (sCst (.str "at"))) (sCons (sBin atD (sVar 0) (sCst (.str "used"))) sNil)))) (gNm 5)
    (sSeq (sAsg (sBin modD (sBin mulD (sBin addD (sBin addD (sVar 4) (sBin mulD (sCst (.int 31)) (sVar 5))) (sCst (.int 7))) (sCst (.int 48271))) (sCst (.int 2147483647))) (gNm 4))
    (sAsg (sBin modD (sBin mulD (sVar 4) (sBin addD (sCst (.int 69621)) (sBin mulD (sCst (.int 2)) (sBin modD (sVar 5) (sCst (.int 1000)))))) (sCst (.int 2147483629))) (gNm 4))))
    (sRet (sBin modD (sBin fdivD (sVar 4) (sCst (.int 7))) (sVar 1)))))))))))
noncomputable def F_law_next : SF := cutF (runD 6 (b_law_next))
/-! _law_pick -/
noncomputable def b_law_pick : SS :=
    (sRet (sBin atD (sVar 1) (sCall F_law_next 2 (sCons (sVar 0) (sCons (sBif lenD (sCons (sVar 1) sNil)) sNil)))))
noncomputable def F_law_pick : SF := cutF (runD 2 (b_law_pick))
/-! _law_size -/
noncomputable def b_law_size : SS :=
    (sSeq (sPar [1, 2] (sCons (sBin addD (sCst (.int 1)) (sCall F_law_next 2 (sCons (sVar 0) (sCons (sCst (.int 6)) sNil)))) (sCons (sBin addD (sCst (.int 100)) (sCall F_law_next 2 (sCons (sVar 0) (sCons (sCst (.int 900)) sNil)))) sNil)))
    (sRet (sCall F_law_pick 2 (sCons (sVar 0) (sCons (sLst (sCons (sVar 1) (sCons (sVar 1) (sCons (sBin addD (sVar 1) (sCst (.int 3))) (sCons (sVar 2) (sCons (sCst (.int 560)) (sCons (sCst (.int 99999)) sNil))))))) sNil)))))
noncomputable def F_law_size : SF := cutF (runD 3 (b_law_size))
/-! _law_table -/
noncomputable def b_law_table : SS :=
    (sSeq (sAsg (sBin addD (sCst (.int 1)) (sCall F_law_next 2 (sCons (sVar 0) (sCons (sVar 1) sNil)))) (gNm 2))
    (sSeq (sIf (sTst (sBin eqD (sCall F_law_next 2 (sCons (sVar 0) (sCons (sCst (.int 3)) sNil))) (sCst (.int 0))))
    (sRet (sTup (sCons (sCst (.str "halves")) (sCons (sCall F_law_size 1 (sCons (sVar 0) sNil)) (sCons (sVar 2) sNil)))))
    sSkip)
    (sSeq (sAsg (sBif tupleD (sCons (sLc (sRange1 (sCons (sBin atD (sLst (sCons (sCst (.int 0)) (sCons (sCst (.int 0)) (sCons (sCst (.int 2)) (sCons (sCst (.int 4)) sNil))))) (sCall F_law_next 2 (sCons (sVar 0) (sCons (sCst (.int 4)) sNil)))) sNil)) [4] (gNm 4) (fun _ ms => .ok true ms) (sCall F_law_size 1 (sCons (sVar 0) sNil))) sNil)) (gNm 3))
    (sSeq (sPar [5, 6] (sCons (sTup (sCons (sCall F_law_size 1 (sCons (sVar 0) sNil)) (sCons (sCall F_law_size 1 (sCons (sVar 0) sNil)) sNil))) (sCons (sTup (sCons (sCall F_law_size 1 (sCons (sVar 0) sNil)) (sCons (sCall F_law_size 1 (sCons (sVar 0) sNil)) sNil))) sNil)))
    (sSeq (sIf (sTst (sBin eqD (sVar 6) (sVar 5)))
    (sAsg (sTup (sCons (sBin atD (sVar 5) (sCst (.int 0))) (sCons (sBin addD (sBin addD (sBin modD (sBin atD (sVar 5) (sCst (.int 1))) (sCst (.int 9))) (sCst (.int 1))) (sBif intD (sCons (sBin gtD (sBin atD (sVar 5) (sCst (.int 1))) (sCst (.int 9))) sNil))) sNil))) (gNm 6))
    sSkip)
    (sRet (sTup (sCons (sCst (.str "pairs")) (sCons (sVar 3) (sCons (sVar 5) (sCons (sVar 6) (sCons (sCall F_law_size 1 (sCons (sVar 0) sNil)) (sCons (sVar 2) sNil)))))))))))))
noncomputable def F_law_table : SF := cutF (runD 7 (b_law_table))
/-! _law_words -/
noncomputable def b_law_words : SS :=
    (sSeq (sAsg (sLst (sCons (sTup sNil) sNil)) (gNm 1))
    (sSeq (sFor (sRange1 (sCons (sVar 0) sNil)) (gNm 2)
    (sAsg (sBin addD (sLc (sItems (sVar 1)) [3] (gNm 3) (fun _ ms => .ok true ms) (sBin addD (sTup (sCons (sCst (.int 0)) sNil)) (sVar 3))) (sLc (sItems (sVar 1)) [3] (gNm 3) (fun _ ms => .ok true ms) (sBin addD (sTup (sCons (sCst (.int 1)) sNil)) (sVar 3)))) (gNm 1)))
    (sRet (sVar 1))))
noncomputable def F_law_words : SF := cutF (runD 4 (b_law_words))
/-! begin_in -/
noncomputable def b_begin_in : SS :=
    (sRet (sIte (sTst (sBin eqD (sBin atD (sVar 0) (sCst (.int 0))) (sCst (.str "halves")))) (sTup (sCons (sCst (.int 0)) (sCons (sTup (sCons (sBin atD (sVar 0) (sCst (.int 1))) sNil)) (sCons (sCst (.str "gap")) sNil)))) (sTup (sCons (sCst (.int 0)) (sCons (sBin atD (sVar 0) (sCst (.int 1))) (sCons (sCst (.str "")) sNil))))))
noncomputable def F_begin_in : SF := cutF (runD 1 (b_begin_in))
/-! is_end_in -/
noncomputable def b_is_end_in : SS :=
    (sRet (sAndV (sBin eqD (sBin atD (sVar 1) (sCst (.int 0))) (sCall F_bits_of 1 (sCons (sVar 0) sNil))) (sBin eqD (sBin atD (sVar 1) (sCst (.int 1))) (sTup sNil))))
noncomputable def F_is_end_in : SF := cutF (runD 2 (b_is_end_in))
/-! settle -/
noncomputable def b_settle : SS :=
    (sSeq (sAsg (sBin eqD (sBin addD (sVar 1) (sCst (.int 1))) (sCall F_bits_of 1 (sCons (sVar 0) sNil))) (gNm 4))
    (sSeq (sIf (sTst (sBin neD (sBin atD (sVar 0) (sCst (.int 0))) (sCst (.str "halves"))))
    (sRet (sTup (sCons (sBin addD (sVar 1) (sCst (.int 1))) (sCons (sBin addD (sBin atD (sVar 0) (sBin addD (sCst (.int 2)) (sVar 3))) (sIte (sTru (sVar 4)) (sTup (sCons (sBin atD (sVar 0) (sCst (.int 4))) sNil)) (sTup sNil))) (sCons (sCst (.str "")) sNil)))))
    sSkip)
    (sSeq (sAsg (sBin atD (sVar 0) (sCst (.int 1))) (gNm 5))
    (sSeq (sIf (sTst (sBin eqD (sBin atD (sCst (.tup [(.str "gap"), (.str "pulse")])) (sVar 3)) (sVar 2)))
    (sPar [6, 2] (sCons (sTup (sCons (sBin mulD (sCst (.int 2)) (sVar 5)) sNil)) (sCons (sTab [("pulse", (.str "gap")), ("gap", (.str "pulse"))] (sVar 2)) sNil)))
    (sAsg (sTup (sCons (sVar 5) (sCons (sVar 5) sNil))) (gNm 6)))
    (sSeq (sIf (sAndT (sTru (sVar 4)) (sTst (sBin eqD (sVar 2) (sCst (.str "pulse")))))
    (sRet (sTup (sCons (sBin addD (sVar 1) (sCst (.int 1))) (sCons (sBin addD (sVar 6) (sTup (sCons (sVar 5) sNil))) (sCons (sCst (.str "gap")) sNil)))))
    sSkip)
    (sRet (sTup (sCons (sBin addD (sVar 1) (sCst (.int 1))) (sCons (sVar 6) (sCons (sVar 2) sNil))))))))))
noncomputable def F_settle : SF := cutF (runD 7 (b_settle))
/-! steps_in -/
noncomputable def b_steps_in : SS :=
    (sSeq (sAsg (sVar 1) (gTu 3 (gsCons (gNm 2) (gsCons (gNm 3) (gsCons (gNm 4) gsNil)))))
    (sSeq (sIf (sTru (sCall F_is_end_in 2 (sCons (sVar 0) (sCons (sVar 1) sNil))))
    (sRet (sNewL sNil))
    sSkip)
    (sSeq (sAsg (sLst (sCons (sTup (sCons (sCst .non) (sCons (sVar 1) sNil))) sNil)) (gNm 5))
    (sSeq (sIf (sTst (sBin eqD (sVar 3) (sTup sNil)))
    (sAsg (sLc (sItems (sTup (sCons (sCst (.int 0)) (sCons (sCst (.int 1)) sNil)))) [6] (gNm 6) (fun _ ms => .ok true ms) (sTup (sCons (sVar 6) (sCons (sCall F_settle 4 (sCons (sVar 0) (sCons (sVar 2) (sCons (sVar 4) (sCons (sVar 6) sNil))))) sNil)))) (gNm 5))
    sSkip)
    (sRet (sLcG true (sItems (sVar 5)) [6, 7] (gTu 2 (gsCons (gNm 6) (gsCons (gNm 7) gsNil))) (fun _ ms => .ok true ms) (sTup (sCons (sVar 6) (sCons (sBin atD (sBin atD (sVar 7) (sCst (.int 1))) (sCst (.int 0))) (sCons (sTup (sCons (sBin atD (sVar 7) (sCst (.int 0))) (sCons (sSlc (sBin atD (sVar 7) (sCst (.int 1))) (sPart (sCst (.int 1))) sNoPart) (sCons (sBin atD (sVar 7) (sCst (.int 2))) sNil)))) sNil))))))))))
noncomputable def F_steps_in : SF := cutN (runD 8 (b_steps_in))
/-! frame_in -/
noncomputable def b_frame_in : SS :=
    (sSeq (sPar [2, 3, 4] (sCons (sNewL sNil) (sCons (sCall F_begin_in 1 (sCons (sVar 0) sNil)) (sCons (sCst (.int 0)) sNil))))
    (sSeq (whileN (sNotT (sTru (sCall F_is_end_in 2 (sCons (sVar 0) (sCons (sVar 3) sNil)))))
    (sSeq (sAsg (sCall (zF F_steps_in) 2 (sCons (sVar 0) (sCons (sVar 3) sNil))) (gNm 5))
    (sSeq (sAsg (sIte (sTst (sBin isD (sBin atD (sBin atD (sVar 5) (sCst (.int 0))) (sCst (.int 0))) (sCst .non))) (sBin atD (sVar 5) (sCst (.int 0))) (sBin atD (sVar 5) (sBin atD (sVar 1) (sVar 4)))) (gTu 3 (gsCons (gNm 6) (gsCons (gNm 7) (gsCons (gNm 3) gsNil)))))
    (sSeq (sAug (iop fun i j => some (.int (i + j))) 4 (sIte (sTst (sBin isD (sVar 6) (sCst .non))) (sCst (.int 0)) (sCst (.int 1))))
    (sAppend 2 (sVar 7))))) 1000000)
    (sRet (sBif tupleD (sCons (sVar 2) sNil)))))
noncomputable def F_frame_in : SF := cutF (runD 8 (b_frame_in))
/-! _law_frame -/
noncomputable def b_law_frame : SS :=
    (sSeq (sIf (sTst (sBin eqD (sBin atD (sVar 0) (sCst (.int 0))) (sCst (.str "pairs"))))
    (sSeq (sAsg (sBif listD (sCons (sBin atD (sVar 0) (sCst (.int 1))) sNil)) (gNm 2))
    (sSeq (sFor (sItems (sVar 1)) (gNm 3)
    (sAsg (sBin addD (sVar 2) (sBif listD (sCons (sBin atD (sVar 0) (sBin addD (sCst (.int 2)) (sVar 3))) sNil))) (gNm 2)))
    (sRet (sBif tupleD (sCons (sBin addD (sVar 2) (sLst (sCons (sBin atD (sVar 0) (sCst (.int 4))) sNil))) sNil)))))
    sSkip)
    (sSeq (sPar [2, 4] (sCons (sNewL sNil) (sCons (sLst (sCons (sCst (.int 1)) (sCons (sCst (.int 0)) sNil))) sNil)))
    (sSeq (sFor (sItems (sVar 1)) (gNm 3)
    (sAsg (sBin addD (sVar 4) (sLst (sCons (sVar 3) (sCons (sBin subD (sCst (.int 1)) (sVar 3)) sNil)))) (gNm 4)))
    (sSeq (sFor (sEnumA (sCons (sVar 4) sNil)) (gTu 2 (gsCons (gNm 5) (gsCons (gNm 6) gsNil)))
    (sIf (sAndT (sTst (sBin gtD (sVar 5) (sCst (.int 0)))) (sTst (sBin eqD (sBin atD (sVar 4) (sBin subD (sVar 5) (sCst (.int 1)))) (sVar 6))))
    (sPut 2 (sNeg (sCst (.int 1))) (sBin addD (sBin atD (sVar 2) (sNeg (sCst (.int 1)))) (sBin atD (sVar 0) (sCst (.int 1)))))
    (sAppend 2 (sBin atD (sVar 0) (sCst (.int 1))))))
    (sRet (sBif tupleD (sCons (sIte (sTst (sBin eqD (sBin atD (sVar 4) (sNeg (sCst (.int 1)))) (sCst (.int 0)))) (sSlc (sVar 2) sNoPart (sPart (sNeg (sCst (.int 1))))) (sFrz 2)) sNil)))))))
noncomputable def F_law_frame : SF := cutF (runD 7 (b_law_frame))
/-! shared_by -/
noncomputable def b_shared_by : SS :=
    (sSeq (whileN (sTst (sBin gtD (sVar 1) (sCst (.int 0))))
    (sPar [0, 1] (sCons (sVar 1) (sCons (sBin modD (sVar 0) (sVar 1)) sNil))) 1000000)
    (sRet (sVar 0)))
noncomputable def F_shared_by : SF := cutF (runD 2 (b_shared_by))
/-! Ratio.__init__ -/
noncomputable def b_Ratio_init : SS :=
    (sSeq (sIf (sOrT (sNotT (sTru (sCall F_is_integer 1 (sCons (sVar 1) sNil)))) (sOrT (sNotT (sTru (sCall F_is_integer 1 (sCons (sVar 2) sNil)))) (sOrT (sTst (sBin ltD (sVar 1) (sCst (.int 0)))) (sTst (sBin ltD (sVar 2) (sCst (.int 1)))))))
    (sRaise 0 false (sTup (sCons (sVar 1) (sCons (sVar 2) sNil))))
    sSkip)
    (sSeq (sAsg (sCall F_shared_by 2 (sCons (sVar 2) (sCons (sVar 1) sNil))) (gNm 3))
    (sSeq (sSetF 0 0 "own_num" (sBin fdivD (sVar 1) (sVar 3)))
    (sSetF 0 0 "own_den" (sBin fdivD (sVar 2) (sVar 3))))))
noncomputable def F_Ratio_init : SF := cutF (runD 4 (b_Ratio_init))
/-! Ratio.__lt__ -/
noncomputable def b_Ratio_lt : SS :=
    (sSeq (sIf (sNotT (sTru (sIsiR (sVar 1))))
    (fun _ _ => .stuck)
    sSkip)
    (sRet (sBin ltD (sBin mulD (sFld [(0, true)] "own_num" (sVar 0)) (sFld [(0, true)] "own_den" (sVar 1))) (sBin mulD (sFld [(0, true)] "own_num" (sVar 1)) (sFld [(0, true)] "own_den" (sVar 0))))))
noncomputable def F_Ratio_lt : SF := cutF (runD 2 (b_Ratio_lt))
/-! Ratio.__le__ -/
noncomputable def b_Ratio_le : SS :=
    (sSeq (sIf (sNotT (sTru (sIsiR (sVar 1))))
    (fun _ _ => .stuck)
    sSkip)
    (sRet (sBin leD (sBin mulD (sFld [(0, true)] "own_num" (sVar 0)) (sFld [(0, true)] "own_den" (sVar 1))) (sBin mulD (sFld [(0, true)] "own_num" (sVar 1)) (sFld [(0, true)] "own_den" (sVar 0))))))
noncomputable def F_Ratio_le : SF := cutF (runD 2 (b_Ratio_le))
/-! Ratio.__gt__ -/
noncomputable def b_Ratio_gt : SS :=
    (sSeq (sIf (sNotT (sTru (sIsiR (sVar 1))))
    (fun _ _ => .stuck)
    sSkip)
    (sRet (sBin gtD (sBin mulD (sFld [(0, true)] "own_num" (sVar 0)) (sFld [(0, true)] "own_den" (sVar 1))) (sBin mulD (sFld [(0, true)] "own_num" (sVar 1)) (sFld [(0, true)] "own_den" (sVar 0))))))
noncomputable def F_Ratio_gt : SF := cutF (runD 2 (b_Ratio_gt))
/-! Ratio.__ge__ -/
noncomputable def b_Ratio_ge : SS :=
    (sSeq (sIf (sNotT (sTru (sIsiR (sVar 1))))
    (fun _ _ => .stuck)
    sSkip)
    (sRet (sBin geD (sBin mulD (sFld [(0, true)] "own_num" (sVar 0)) (sFld [(0, true)] "own_den" (sVar 1))) (sBin mulD (sFld [(0, true)] "own_num" (sVar 1)) (sFld [(0, true)] "own_den" (sVar 0))))))
noncomputable def F_Ratio_ge : SF := cutF (runD 2 (b_Ratio_ge))
/-! Ratio.__eq__ -/
noncomputable def b_Ratio_eq : SS :=
    (sRet (sAndV (sIsiR (sVar 1)) (sAndV (sBin eqD (sFld [(0, true)] "own_num" (sVar 0)) (sFld [(0, true)] "own_num" (sVar 1))) (sBin eqD (sFld [(0, true)] "own_den" (sVar 0)) (sFld [(0, true)] "own_den" (sVar 1))))))
noncomputable def F_Ratio_eq : SF := cutF (runD 2 (b_Ratio_eq))
/-! is_table -/
noncomputable def b_is_table : SS :=
    (sSeq (sTry (fun n => List.lookup n [(1, true)])
    (sDrop (sCall F_need_table 1 (sCons (sVar 0) sNil)))
    (sRet (sCst (.bl false))))
    (sRet (sCst (.bl true))))
noncomputable def F_is_table : SF := cutF (runD 1 (b_is_table))
/-! is_tolerance -/
noncomputable def b_is_tolerance : SS :=
    (sRet (sAndV (sIsiR (sVar 0)) (sBin ltX (sVar 0) (cutE (sMake true 0 F_Ratio_init 3 [.int 1] (sCons (sCst (.int 1)) sNil))))))
noncomputable def F_is_tolerance : SF := cutF (runD 1 (b_is_tolerance))
/-! need_receiver -/
noncomputable def b_need_receiver : SS :=
    (sSeq (sIf (sOrT (sNotT (sTru (sIsi "tuple" (sVar 0)))) (sNotT (sTst (sChain leD leD (sCst (.int 1)) (sBif lenD (sCons (sVar 0) sNil)) (sCst (.int 4))))))
    (sRaise 4 false (sCst .non))
    sSkip)
    (sSeq (sFor (sEnumA (sCons (sVar 0) sNil)) (gTu 2 (gsCons (gNm 1) (gsCons (gNm 2) gsNil)))
    (sIf (sOrT (sNotT (sTru (sIsi "tuple" (sVar 2)))) (sOrT (sTst (sBin neD (sBif lenD (sCons (sVar 2) sNil)) (sCst (.int 2)))) (sOrT (sNotT (sTru (sCall F_is_table 1 (sCons (sBin atD (sVar 2) (sCst (.int 0))) sNil)))) (sNotT (sTru (sCall F_is_tolerance 1 (sCons (sBin atD (sVar 2) (sCst (.int 1))) sNil)))))))
    (sRaise 4 false (sVar 1))
    sSkip))
    (sRet (sVar 0))))
noncomputable def F_need_receiver : SF := cutF (runD 3 (b_need_receiver))
/-! is_sent_by -/
noncomputable def b_is_sent_by : SS :=
    (sSeq (sIf (sOrT (sNotT (sTru (sIsi "tuple" (sVar 1)))) (sOrT (sTst (sBin neD (sBif lenD (sCons (sVar 1) sNil)) (sCst (.int 2)))) (sNotT (sTru (sCall F_is_whole 3 (sCons (sBin atD (sVar 1) (sCst (.int 0))) (sCons (sCst (.int 0)) (sCons (sBin subD (sBif lenD (sCons (sVar 0) sNil)) (sCst (.int 1))) sNil))))))))
    (sRet (sCst (.bl false)))
    sSkip)
    (sRet (sCall F_is_bits 2 (sCons (sBin atD (sBin atD (sVar 0) (sBin atD (sVar 1) (sCst (.int 0)))) (sCst (.int 0))) (sCons (sBin atD (sVar 1) (sCst (.int 1))) sNil)))))
noncomputable def F_is_sent_by : SF := cutF (runD 2 (b_is_sent_by))
/-! is_sending -/
noncomputable def b_is_sending : SS :=
    (sRet (sCall F_is_sent_by 2 (sCons (sCall F_need_receiver 1 (sCons (sVar 0) sNil)) (sCons (sVar 1) sNil))))
noncomputable def F_is_sending : SF := cutF (runD 2 (b_is_sending))
/-! _law_like -/
noncomputable def b_law_like : SS :=
    (sSeq (sAsg (sCall F_law_next 2 (sCons (sVar 0) (sCons (sCst (.int 6)) sNil))) (gNm 2))
    (sSeq (sIf (sTst (sBin eqD (sBin atD (sVar 1) (sCst (.int 0))) (sCst (.str "halves"))))
    (sSeq (sAsg (sIte (sTst (sBin eqD (sVar 2) (sCst (.int 0)))) (sBin addD (sBin modD (sBin atD (sVar 1) (sCst (.int 1))) (sCst (.int 9))) (sCst (.int 1))) (sBin atD (sVar 1) (sCst (.int 1)))) (gNm 3))
    (sRet (sTup (sCons (sBin atD (sVar 1) (sCst (.int 0))) (sCons (sVar 3) (sCons (sIte (sTst (sBin ltD (sVar 2) (sCst (.int 3)))) (sBin atD (sVar 1) (sCst (.int 2))) (sBin addD (sCst (.int 1)) (sBin modD (sBin atD (sVar 1) (sCst (.int 2))) (sCst (.int 3))))) sNil))))))
    sSkip)
    (sSeq (sAsg (sVar 1) (gTu 6 (gsCons (gNm 4) (gsCons (gNm 5) (gsCons (gNm 6) (gsCons (gNm 7) (gsCons (gNm 8) (gsCons (gNm 9) gsNil))))))))
    (sSeq (sIf (sTst (sBin eqD (sVar 2) (sCst (.int 0))))
    (sRet (sTup (sCons (sVar 4) (sCons (sVar 5) (sCons (sVar 7) (sCons (sVar 6) (sCons (sVar 8) (sCons (sVar 9) sNil))))))))
    sSkip)
    (sSeq (sIf (sTst (sBin eqD (sVar 2) (sCst (.int 1))))
    (sRet (sTup (sCons (sVar 4) (sCons (sSlc (sVar 5) sNoPart (sPart (sNeg (sCst (.int 2))))) (sCons (sVar 6) (sCons (sVar 7) (sCons (sVar 8) (sCons (sVar 9) sNil))))))))
    sSkip)
    (sSeq (sIf (sAndT (sTst (sBin eqD (sVar 2) (sCst (.int 2)))) (sTst (sBin neD (sVar 6) (sTup (sCons (sBin atD (sVar 7) (sCst (.int 0))) (sCons (sBin addD (sBin modD (sBin atD (sVar 7) (sCst (.int 1))) (sCst (.int 9))) (sCst (.int 1))) sNil))))))
    (sRet (sTup (sCons (sVar 4) (sCons (sVar 5) (sCons (sVar 6) (sCons (sTup (sCons (sBin atD (sVar 7) (sCst (.int 0))) (sCons (sBin addD (sBin modD (sBin atD (sVar 7) (sCst (.int 1))) (sCst (.int 9))) (sCst (.int 1))) sNil))) (sCons (sVar 8) (sCons (sVar 9) sNil))))))))
    sSkip)
    (sSeq (sAsg (sIte (sTst (sBin eqD (sVar 2) (sCst (.int 3)))) (sBin addD (sBin modD (sVar 8) (sCst (.int 9))) (sCst (.int 1))) (sVar 8)) (gNm 8))
    (sRet (sTup (sCons (sVar 4) (sCons (sVar 5) (sCons (sVar 6) (sCons (sVar 7) (sCons (sVar 8) (sCons (sIte (sTst (sBin ltD (sVar 2) (sCst (.int 5)))) (sVar 9) (sBin addD (sCst (.int 1)) (sBin modD (sVar 9) (sCst (.int 3))))) sNil)))))))))))))))
noncomputable def F_law_like : SF := cutF (runD 10 (b_law_like))
/-! _law_receiver -/
noncomputable def b_law_receiver : SS :=
    (sSeq (sAsg (sTup sNil) (gNm 3))
    (sSeq (sFor (sRange1 (sCons (sBin addD (sCst (.int 1)) (sCall F_law_next 2 (sCons (sVar 0) (sCons (sVar 1) sNil)))) sNil)) (gNm 4)
    (sSeq (sAsg (sCall F_law_table 2 (sCons (sVar 0) (sCons (sVar 2) sNil))) (gNm 5))
    (sSeq (sIf (sAndT (sTst (sBin neX (sVar 3) (sTup sNil))) (sTst (sBin gtX (sCall F_law_next 2 (sCons (sVar 0) (sCons (sCst (.int 3)) sNil))) (sCst (.int 0)))))
    (sAsg (sCall F_law_like 2 (sCons (sVar 0) (sCons (sBin atD (sBin atD (sVar 3) (sNeg (sCst (.int 1)))) (sCst (.int 0))) sNil))) (gNm 5))
    sSkip)
    (sSeq (sAsg (sCall F_law_next 2 (sCons (sVar 0) (sCons (sCst (.int 12)) sNil))) (gNm 6))
    (sAsg (sBin addD (sVar 3) (sTup (sCons (sTup (sCons (sVar 5) (sCons (cutE (sMake true 0 F_Ratio_init 3 [] (sCons (sVar 6) (sCons (sBin addD (sBin addD (sVar 6) (sCst (.int 1))) (sCall F_law_next 2 (sCons (sVar 0) (sCons (sCst (.int 20)) sNil)))) sNil)))) sNil))) sNil))) (gNm 3))))))
    (sRet (sVar 3))))
noncomputable def F_law_receiver : SF := cutF (runD 7 (b_law_receiver))
end U

/-! what the shared defs give -/
namespace U
open PySem L2 DL

/-! ### the draws -/
def drM (cs : List D) (a l u : D) : MO := .dic [(.inr "cells", .lst cs), (.inr "at", a), (.inr "left", l), (.inr "used", u)]
/-- a drawing thing, B draws at most made -/
def Dr (B : Nat) (o : MO) : Prop := ∃ (cs : List Int) (a l u : Int), o = drM (cs.map D.int) (.int a) (.int l) (.int u) ∧ cs ≠ [] ∧ cs.length ≤ 1000 ∧ 0 ≤ a ∧ a ≤ B ∧ 0 ≤ u ∧ u ≤ B ∧ 0 ≤ l
section
variable {ms : MS} {n : Nat} {cs : List D} {a l u : D} {env : DE}
theorem at_dic {kds : List (Key × D)} {b : D} (h : ms[n]? = some (.dic kds)) : atD ms (.loc n) b = (keyD b).bind fun k => valD kds k := by
  have e : dicOf ms (.loc n) = some kds := by simp only [dicOf, h]
  unfold atD dgetD
  rw [e]
  rfl
theorem dr_cells (h : ms[n]? = some (drM cs a l u)) : atD ms (.loc n) (.str "cells") = some (.lst cs) := by
  rw [at_dic h]; kernel_rfl
theorem dr_at (h : ms[n]? = some (drM cs a l u)) : atD ms (.loc n) (.str "at") = some a := by
  rw [at_dic h]; kernel_rfl
theorem dr_left (h : ms[n]? = some (drM cs a l u)) : atD ms (.loc n) (.str "left") = some l := by
  rw [at_dic h]; kernel_rfl
theorem dr_used (h : ms[n]? = some (drM cs a l u)) : atD ms (.loc n) (.str "used") = some u := by
  rw [at_dic h]; kernel_rfl
theorem put_at {x : D} (h : ms[n]? = some (drM cs a l u)) : dputM n (.inr "at") x env ms = .nx env (ms.set n (drM cs x l u)) := by
  unfold dputM; rw [h]; kernel_rfl
theorem put_left {x : D} (h : ms[n]? = some (drM cs a l u)) : dputM n (.inr "left") x env ms = .nx env (ms.set n (drM cs a x u)) := by
  unfold dputM; rw [h]; kernel_rfl
theorem put_used {x : D} (h : ms[n]? = some (drM cs a l u)) : dputM n (.inr "used") x env ms = .nx env (ms.set n (drM cs a l x)) := by
  unfold dputM; rw [h]; kernel_rfl
theorem set_at {o : MO} {x : MO} (h : ms[n]? = some x) : (ms.set n o)[n]? = some o := by rw [List.getElem?_set_self (List.getElem?_eq_some_iff.mp h).1]
theorem log_small {i : Int} (h : i.natAbs < 2 ^ 64) : i.natAbs.log2 < 64 := by
  by_cases e : i.natAbs = 0
  · rw [e]; decide
  · exact (Nat.log2_lt e).mpr h
theorem mulOk_small {i j : Int} (hi : i.natAbs < 2 ^ 64) (hj : j.natAbs < 2 ^ 64) : mulOk i j = true := by
  unfold mulOk
  have := log_small hi
  have := log_small hj
  exact decide_eq_true (by omega)
theorem mul_int {i j : Int} (hi : i.natAbs < 2 ^ 64) (hj : j.natAbs < 2 ^ 64) : mulD ms (.int i) (.int j) = some (.int (i * j)) := by
  show (if mulOk i j = true then some (D.int (i * j)) else none) = _
  rw [if_pos (mulOk_small hi hj)]
theorem mod_int {i j : Int} (h : 0 < j) : modD ms (.int i) (.int j) = some (.int (i % j)) := by
  show (if 0 < j then some (D.int (i % j)) else none) = _
  rw [if_pos h]
theorem fdiv_int {i j : Int} (h : 0 < j) (k : j < 2 ^ 64) : fdivD ms (.int i) (.int j) = some (.int (i / j)) := by
  show (if 0 < j ∧ j.natAbs.log2 < 9000 then some (D.int (i / j)) else none) = _
  rw [if_pos ⟨h, by have := log_small (i := j) (by omega); omega⟩]
theorem add_int {i j : Int} : addD ms (.int i) (.int j) = some (.int (i + j)) := rfl
theorem gt_int {i j : Int} : gtD ms (.int i) (.int j) = some (.bl (decide (j < i))) := rfl
theorem ge_int {i j : Int} : geD ms (.int i) (.int j) = some (.bl (decide (j ≤ i))) := rfl
theorem le_int {i j : Int} : leD ms (.int i) (.int j) = some (.bl (decide (i ≤ j))) := rfl
theorem lt_int {i j : Int} : ltD ms (.int i) (.int j) = some (.bl (decide (i < j))) := rfl
theorem sub_int {i j : Int} : subD ms (.int i) (.int j) = some (.int (i - j)) := rfl
theorem ne_int {i j : Int} : neD ms (.int i) (.int j) = some (.bl (!decide (i = j))) := rfl
theorem eq_str {i j : Str} : eqD ms (.str i) (.str j) = some (.bl (decide (i = j))) := rfl
theorem ne_str {i j : Str} : neD ms (.str i) (.str j) = some (.bl (!decide (i = j))) := rfl
theorem tru_bl {b : Bool} : truD ms (.bl b) = some b := rfl
theorem eq_int {i j : Int} : eqD ms (.int i) (.int j) = some (.bl (decide (i = j))) := rfl
theorem pow18 : powD ms (.int 10) (.int 18) = some (.int (10 ^ 18)) := rfl
theorem len_lst {xs : List D} : lenD ms [.lst xs] = some (.int xs.length) := rfl
theorem len_tup {xs : List D} : lenD ms [.tup xs] = some (.int xs.length) := rfl
theorem at_lst {xs : List D} {i : Int} : atD ms (.lst xs) (.int i) = atI xs i := rfl
theorem at_tup {xs : List D} {i : Int} : atD ms (.tup xs) (.int i) = atI xs i := rfl
theorem atI_nat {xs : List D} {i : Int} (h0 : 0 ≤ i) (h1 : i < xs.length) : ∃ d, atI xs i = some d ∧ xs[i.toNat]? = some d := by
  have hx : i.toNat < xs.length := by omega
  refine ⟨xs[i.toNat], ?_, List.getElem?_eq_getElem hx⟩
  unfold atI ixN
  rw [if_pos h0, if_pos h1]
  exact List.getElem?_eq_getElem hx
theorem ints_at {cs : List Int} {i : Int} (h0 : 0 ≤ i) (h1 : i < cs.length) : ∃ c, atI (cs.map D.int) i = some (.int c) := by
  obtain ⟨d, e1, e2⟩ := atI_nat (xs := cs.map D.int) h0 (by simpa using h1)
  rw [List.getElem?_map] at e2
  cases q : cs[i.toNat]? with
  | none => rw [q] at e2; cases e2
  | some c => rw [q] at e2; cases e2; exact ⟨c, e1⟩
theorem mod_lt (x : Int) {m : Int} (h : 0 < m) : 0 ≤ x % m ∧ x % m < m := ⟨Int.emod_nonneg _ (by omega), Int.emod_lt_of_pos _ h⟩
theorem na_lt {x : Int} {m : Nat} (h0 : 0 ≤ x) (h1 : x < m) : x.natAbs < m := by omega
theorem forL_two {gt : VG} {s : SS} {d1 d2 : D} {env e1 e2 e3 e4 : DE} {m1 m2 : MS} (a : gt ms d1 env = some e1) (b : s e1 ms = .nx e2 m1) (c : gt m1 d2 e2 = some e3) (d : s e3 m1 = .nx e4 m2) : forL gt s [d1, d2] env ms = .nx e4 m2 := by
  rw [forL_cons a b, forL_cons c d, forL_nil]
noncomputable abbrev stepB : SS := (sSeq (sAsg (sBin modD (sBin mulD (sBin addD (sBin addD (sVar 4) (sBin mulD (sCst (.int 31)) (sVar 5))) (sCst (.int 7))) (sCst (.int 48271))) (sCst (.int 2147483647))) (gNm 4))
    (sAsg (sBin modD (sBin mulD (sVar 4) (sBin addD (sCst (.int 69621)) (sBin mulD (sCst (.int 2)) (sBin modD (sVar 5) (sCst (.int 1000)))))) (sCst (.int 2147483629))) (gNm 4)))
theorem step_ok {p0 p1 p2 p3 : Option D} {x k : Int} (x0 : 0 ≤ x) (x1 : x < 2 ^ 60) (k0 : 0 ≤ k) (k1 : k < 2 ^ 21) : ∃ x' : Int, stepB [p0, p1, p2, p3, some (.int x), some (.int k)] ms = .nx [p0, p1, p2, p3, some (.int x'), some (.int k)] ms ∧ 0 ≤ x' ∧ x' < 2 ^ 60 := by
  have a1 := mul_int (ms := ms) (i := 31) (j := k) (by decide) (by omega)
  have a2 := mul_int (ms := ms) (i := x + 31 * k + 7) (j := 48271) (by omega) (by decide)
  have b0 := mod_lt ((x + 31 * k + 7) * 48271) (m := 2147483647) (by decide)
  have c0 := mod_lt k (m := 1000) (by decide)
  have a3 := mul_int (ms := ms) (i := 2) (j := k % 1000) (by decide) (by omega)
  have a4 := mul_int (ms := ms) (i := (x + 31 * k + 7) * 48271 % 2147483647) (j := 69621 + 2 * (k % 1000)) (by omega) (by omega)
  have d0 := mod_lt ((x + 31 * k + 7) * 48271 % 2147483647 * (69621 + 2 * (k % 1000))) (m := 2147483629) (by decide)
  refine ⟨_, ?_, d0.1, by omega⟩
  simp only [stepB, sSeq_ap, sAsg_ap, sBin_ap, sVar_ap, sCst_ap, List.getElem?_cons_zero, List.getElem?_cons_succ, vR_some, kBin1_ok, kBin2_ok, a1, a2, a3, a4, optR_some, add_int, mod_int (show (0 : Int) < 2147483647 by decide), mod_int (show (0 : Int) < 1000 by decide), mod_int (show (0 : Int) < 2147483629 by decide), kAsg_ok, gNm_ap, asgO_some, List.set_cons_succ, List.set_cons_zero, next_nx]
/-- a draw -/
theorem next_ok {B : Nat} {o : MO} {many : Int} (hn : ms[n]? = some o) (dr : Dr B o) (hB : B < 1000000) (h0 : 0 < many) (h1 : many < 2 ^ 40) :
    ∃ (r : Int) (o' : MO), F_law_next [.loc n, .int many] ms = .ok (.int r) (ms.set n o') ∧ 0 ≤ r ∧ r < many ∧ Dr (B + 1) o' := by
  obtain ⟨cs, a, l, u, rfl, c0, c1, a0, a1, u0, u1, l0⟩ := dr
  have lt : ∀ x : MO, (ms.set n x)[n]? = some x := fun x => set_at hn
  have mo : ∀ a l u : Int, moLt ms.length (drM (cs.map D.int) (.int a) (.int l) (.int u)) = true := fun a l u => by
    have : ∀ xs : List Int, locsLts ms.length (xs.map D.int) = true := fun xs => by
      induction xs with
      | nil => rfl
      | cons x xs ih => simp only [List.map_cons, locsLts, locsLt, ih, Bool.and_self]
    simp [moLt, drM, locsLt, this]
  by_cases hl : 0 < l
  · refine ⟨l % many, drM (cs.map D.int) (.int a) (.int (l / many)) (.int u), cutF_set [] ?_ (mo _ _ _) rfl, Int.emod_nonneg _ (by omega), Int.emod_lt_of_pos _ h0, ⟨cs, a, l / many, u, rfl, c0, c1, a0, by omega, u0, by omega, Int.ediv_nonneg l0 (by omega)⟩⟩
    simp [b_law_next, dr_left hn, gt_int, hl, fdiv_int h0 (show many < 2 ^ 64 by omega), put_left hn, mod_int h0]
  · have hlf : decide (0 < l) = false := decide_eq_false hl
    have hc : (0 : Int) < cs.length := by
      cases cs with
      | nil => exact absurd rfl c0
      | cons x xs => simp only [List.length_cons]; omega
    obtain ⟨i0, i1⟩ := mod_lt a hc
    obtain ⟨c, hcell⟩ := ints_at i0 i1
    have len : lenD ms [.lst (cs.map D.int)] = some (.int cs.length) := by rw [len_lst, List.length_map]
    have len' : ∀ m : MS, lenD m [.lst (cs.map D.int)] = some (.int cs.length) := fun m => by rw [len_lst, List.length_map]
    by_cases hb : (10 : Int) ^ 18 ≤ c ∧ a + 1 ≤ cs.length
    · refine ⟨c % many, drM (cs.map D.int) (.int (a + 1)) (.int (c / many)) (.int u), cutF_set [] ?_ (mo _ _ _) rfl, Int.emod_nonneg _ (by omega), Int.emod_lt_of_pos _ h0, ⟨cs, a + 1, c / many, u, rfl, c0, c1, by omega, by omega, u0, by omega, Int.ediv_nonneg (by omega) (by omega)⟩⟩
      have g1 : decide ((10 : Int) ^ 18 ≤ c) = true := decide_eq_true hb.1
      have g2 : decide (a + 1 ≤ (cs.length : Int)) = true := decide_eq_true hb.2
      simp only [b_law_next, runD_ap, List.map_cons, List.map_nil, List.length_cons, List.length_nil, List.cons_append, List.nil_append, List.replicate, sSeq_ap, sIf_ap, sTst_ap, sBin_ap, sVar_ap, sCst_ap, List.getElem?_cons_zero, List.getElem?_cons_succ, vR_some, kBin1_ok, kBin2_ok, dr_left hn, optR_some, gt_int, hlf, kTst_ok, kIf_f, sSkip_ap, next_nx, sAsg_ap, dr_cells hn, kAsg_ok, gNm_ap, asgO_some, List.set_cons_succ, List.set_cons_zero, dr_at hn, sBif_ap, sCons_ap, sNil_ap, kC1_ok, kC2_ok, kBif_ok, len, mod_int hc, at_lst, hcell, sDput_ap, kD0_some, kD1_ok, kD2_ok, add_int, put_at hn, sAndT_ap, pow18, ge_int, g1, kAndT_t, dr_at (lt _), len', le_int, g2, kIf_t, fdiv_int h0 (show many < 2 ^ 64 by omega), put_left (lt _), List.set_set, sRet_ap, mod_int h0, kRet_ok, next_ret, out_ret, List.append_nil]
    · have n0 := mod_lt c (m := 1000000007) (by decide)
      have q1 := mul_int (ms := (ms.set n (drM (cs.map D.int) (.int (a + 1)) (.int l) (.int (u + 1))))) (i := 7919) (j := u + 1) (by decide) (by omega)
      have q2 := mul_int (ms := (ms.set n (drM (cs.map D.int) (.int (a + 1)) (.int l) (.int (u + 1))))) (i := 7919 * (u + 1)) (j := u + 1) (by omega) (by omega)
      have sq : 0 ≤ 7919 * (u + 1) * (u + 1) ∧ 7919 * (u + 1) * (u + 1) ≤ 7919 * 1000000 * 1000000 := by
        constructor
        · exact Int.mul_nonneg (by omega) (by omega)
        · exact Int.mul_le_mul (by omega) (by omega) (by omega) (by omega)
      obtain ⟨x1, s1, y1, z1⟩ := step_ok (ms := (ms.set n (drM (cs.map D.int) (.int (a + 1)) (.int l) (.int (u + 1))))) (p0 := some (.loc n)) (p1 := some (.int many)) (p2 := some (.int c)) (p3 := some (.lst (cs.map D.int))) (x := c % 1000000007 + 7919 * (u + 1) * (u + 1)) (k := a + 1) (by omega) (by omega) (by omega) (by omega)
      obtain ⟨x2, s2, y2, z2⟩ := step_ok (ms := (ms.set n (drM (cs.map D.int) (.int (a + 1)) (.int l) (.int (u + 1))))) (p0 := some (.loc n)) (p1 := some (.int many)) (p2 := some (.int c)) (p3 := some (.lst (cs.map D.int))) (x := x1) (k := u + 1) y1 z1 (by omega) (by omega)
      refine ⟨x2 / 7 % many, drM (cs.map D.int) (.int (a + 1)) (.int l) (.int (u + 1)), cutF_set [] ?_ (mo _ _ _) rfl, Int.emod_nonneg _ (by omega), Int.emod_lt_of_pos _ h0, ⟨cs, a + 1, l, u + 1, rfl, c0, c1, by omega, by omega, by omega, by omega, l0⟩⟩
      have lp : ∀ p4 p5 : Option D, forL (gNm 5) stepB [D.int (a + 1), D.int (u + 1)] [some (.loc n), some (.int many), some (.int c), some (.lst (cs.map D.int)), some (.int (c % 1000000007 + 7919 * (u + 1) * (u + 1))), p5] (ms.set n (drM (cs.map D.int) (.int (a + 1)) (.int l) (.int (u + 1)))) =
          .nx [some (.loc n), some (.int many), some (.int c), some (.lst (cs.map D.int)), some (.int x2), some (.int (u + 1))] (ms.set n (drM (cs.map D.int) (.int (a + 1)) (.int l) (.int (u + 1)))) := fun p4 p5 => forL_two rfl s1 rfl s2
      have len2 : (2 : Nat) ≤ 1000 := by decide
      by_cases g1 : (10 : Int) ^ 18 ≤ c
      · have g2 : decide (a + 1 ≤ (cs.length : Int)) = false := decide_eq_false fun z => hb ⟨g1, z⟩
        have g1 : decide ((10 : Int) ^ 18 ≤ c) = true := decide_eq_true g1
        simp only [b_law_next, runD_ap, List.map_cons, List.map_nil, List.length_cons, List.length_nil, List.cons_append, List.nil_append, List.replicate, sSeq_ap, sIf_ap, sTst_ap, sBin_ap, sVar_ap, sCst_ap, List.getElem?_cons_zero, List.getElem?_cons_succ, vR_some, kBin1_ok, kBin2_ok, dr_left hn, optR_some, gt_int, hlf, kTst_ok, kIf_f, sSkip_ap, next_nx, sAsg_ap, dr_cells hn, kAsg_ok, gNm_ap, asgO_some, List.set_cons_succ, List.set_cons_zero, dr_at hn, sBif_ap, sCons_ap, sNil_ap, kC1_ok, kC2_ok, kBif_ok, len, mod_int hc, at_lst, hcell, sDput_ap, kD0_some, kD1_ok, kD2_ok, add_int, put_at hn, sAndT_ap, pow18, ge_int, g1, kAndT_t, dr_at (lt _), len', le_int, g2, put_used (lt _), dr_used (lt _), List.set_set, mod_int (show (0 : Int) < 1000000007 by decide), q1, q2, sFor_ap, sItems_ap, sTup_ap, kTup_ok, itemsD, kItems_ok, kFor_ok, ↓reduceIte, Nat.reduceAdd, Nat.reduceLeDiff, lp none none]
        simp only [fdiv_int (show (0 : Int) < 7 by decide) (show (7 : Int) < 2 ^ 64 by decide), sRet_ap, mod_int h0, kRet_ok, next_nx, next_ret, out_ret, List.append_nil, sBin_ap, sVar_ap, sCst_ap, List.getElem?_cons_zero, List.getElem?_cons_succ, vR_some, kBin1_ok, kBin2_ok, optR_some]
      · have g1 : decide ((10 : Int) ^ 18 ≤ c) = false := decide_eq_false g1
        simp only [b_law_next, runD_ap, List.map_cons, List.map_nil, List.length_cons, List.length_nil, List.cons_append, List.nil_append, List.replicate, sSeq_ap, sIf_ap, sTst_ap, sBin_ap, sVar_ap, sCst_ap, List.getElem?_cons_zero, List.getElem?_cons_succ, vR_some, kBin1_ok, kBin2_ok, dr_left hn, optR_some, gt_int, hlf, kTst_ok, kIf_f, sSkip_ap, next_nx, sAsg_ap, dr_cells hn, kAsg_ok, gNm_ap, asgO_some, List.set_cons_succ, List.set_cons_zero, dr_at hn, sBif_ap, sCons_ap, sNil_ap, kC1_ok, kC2_ok, kBif_ok, len, mod_int hc, at_lst, hcell, sDput_ap, kD0_some, kD1_ok, kD2_ok, add_int, put_at hn, sAndT_ap, pow18, ge_int, g1, kAndT_f, dr_at (lt _), len', le_int, put_used (lt _), dr_used (lt _), List.set_set, mod_int (show (0 : Int) < 1000000007 by decide), q1, q2, sFor_ap, sItems_ap, sTup_ap, kTup_ok, itemsD, kItems_ok, kFor_ok, ↓reduceIte, Nat.reduceAdd, Nat.reduceLeDiff, lp none none]
        simp only [fdiv_int (show (0 : Int) < 7 by decide) (show (7 : Int) < 2 ^ 64 by decide), sRet_ap, mod_int h0, kRet_ok, next_nx, next_ret, out_ret, List.append_nil, sBin_ap, sVar_ap, sCst_ap, List.getElem?_cons_zero, List.getElem?_cons_succ, vR_some, kBin1_ok, kBin2_ok, optR_some]
theorem locs_ints (k : Nat) : ∀ xs : List Int, locsLts k (xs.map D.int) = true
  | [] => rfl
  | x :: xs => by simp only [List.map_cons, locsLts, locsLt, locs_ints k xs, Bool.and_self]
theorem locs_mem {k : Nat} : ∀ {xs : List D} {d : D}, locsLts k xs = true → d ∈ xs → locsLt k d = true
  | x :: xs, d, h, m => by
    simp only [locsLts, Bool.and_eq_true] at h
    rcases List.mem_cons.mp m with e | m
    · subst e; exact h.1
    · exact locs_mem h.2 m
theorem locs_all {k : Nat} : ∀ {xs : List D}, (∀ d ∈ xs, locsLt k d = true) → locsLts k xs = true
  | [], _ => rfl
  | x :: xs, h => by simp only [locsLts, h x List.mem_cons_self, locs_all fun d m => h d (List.mem_cons_of_mem _ m), Bool.and_self]
theorem Dr.lt {B k : Nat} {o : MO} (h : Dr B o) : moLt k o = true := by
  obtain ⟨cs, a, l, u, rfl, _⟩ := h
  simp [moLt, drM, locsLt, locs_ints]
theorem cutN_ok {F : SF} {ds : List D} {g : MS} {o : MO} {j : Nat} (h : F ds ms = .ok (.loc (ms.length + j)) (ms ++ g)) (hj : g[j]? = some o) (lt : moLt ms.length o = true) : cutN F ds ms = .ok (.loc ms.length) (ms ++ [o]) := by
  unfold cutN
  rw [h]
  simp only
  have e : (ms ++ g)[ms.length + j]? = some o := by rw [List.getElem?_append_right (by omega), Nat.add_sub_cancel_left]; exact hj
  rw [e]
  simp only
  rw [if_pos ⟨Kept.app ms g, by omega, lt⟩, List.take_left]
theorem begin_ok {sx : List Int} (h : sx.length ≤ 63) : F_law_begin sx [.scr] ms = .ok (.loc ms.length) (ms ++ [drM ((sx ++ [0]).map D.int) (.int 0) (.int 0) (.int 0)]) ∧ Dr 0 (drM ((sx ++ [0]).map D.int) (.int 0) (.int 0) (.int 0)) := by
  constructor
  · refine cutN_ok (j := 0) (g := [drM ((sx ++ [0]).map D.int) (.int 0) (.int 0) (.int 0)]) ?_ rfl ?_
    · have sc : ∀ m : MS, scrAdd sx m .scr (.lst [.int 0]) = some (.lst ((sx ++ [0]).map D.int)) := fun m => by
        show (if sx.length + 1 ≤ 16777216 then _ else _) = _
        rw [if_pos (by omega), List.map_append]; rfl
      generalize (sx ++ [0]).map D.int = C at sc ⊢
      have q : keysD [(.str "cells", .lst C), (.str "at", .int 0), (.str "left", .int 0), (.str "used", .int 0)] = some [(.inr "cells", .lst C), (.inr "at", .int 0), (.inr "left", .int 0), (.inr "used", .int 0)] := rfl
      have m : mergeD [] [(.inr "cells", .lst C), (.inr "at", .int 0), (.inr "left", .int 0), (.inr "used", .int 0)] = [(.inr "cells", .lst C), (.inr "at", .int 0), (.inr "left", .int 0), (.inr "used", .int 0)] := by kernel_rfl
      simp [b_law_begin, sDic, sPairs, sc, dicEnd, q, m, drM]
    · simp only [moLt, drM, List.all_cons, List.all_nil, locsLt, locs_ints, Bool.and_self]
  · exact ⟨sx ++ [0], 0, 0, 0, rfl, by simp, by simp; omega, by omega, by omega, by omega, by omega, by omega⟩
theorem pickL {B : Nat} {o : MO} {xs : List D} (hn : ms[n]? = some o) (dr : Dr B o) (hB : B < 1000000) (h0 : xs ≠ []) (h1 : xs.length ≤ 100000) (hl : locsLts ms.length xs = true) :
    ∃ (d : D) (o' : MO), F_law_pick [.loc n, .lst xs] ms = .ok d (ms.set n o') ∧ d ∈ xs ∧ Dr (B + 1) o' := by
  have hp : 0 < xs.length := List.length_pos_iff.mpr h0
  obtain ⟨r, o', e, r0, r1, dr'⟩ := next_ok (many := (xs.length : Int)) hn dr hB (by omega) (by omega)
  obtain ⟨d, e1, e2⟩ := atI_nat (xs := xs) r0 r1
  have mem := List.mem_of_getElem? e2
  refine ⟨d, o', cutF_set [] ?_ dr'.lt (locs_mem hl mem), mem, dr'⟩
  simp [b_law_pick, len_lst, e, at_lst, e1]
theorem size_ok {B : Nat} {o : MO} (hn : ms[n]? = some o) (dr : Dr B o) (hB : B < 900000) :
    ∃ (z : Int) (o' : MO), F_law_size [.loc n] ms = .ok (.int z) (ms.set n o') ∧ 1 ≤ z ∧ z ≤ 99999 ∧ Dr (B + 3) o' := by
  obtain ⟨r, o1, e1, r0, r1, d1⟩ := next_ok (many := 6) hn dr (by omega) (by omega) (by omega)
  obtain ⟨q, o2, e2, q0, q1, d2⟩ := next_ok (many := 900) (set_at (o := o1) hn) d1 (by omega) (by omega) (by omega)
  obtain ⟨z, o3, e3, hm, d3⟩ := pickL (xs := [.int (1 + r), .int (1 + r), .int (1 + r + 3), .int (100 + q), .int 560, .int 99999]) (set_at (o := o2) (set_at (o := o1) hn)) d2 (by omega) (by simp) (by simp) rfl
  rw [List.set_set] at e2 e3
  rw [List.set_set] at e3
  have hz : ∃ i : Int, z = .int i ∧ 1 ≤ i ∧ i ≤ 99999 := by
    simp only [List.mem_cons, List.not_mem_nil, or_false] at hm
    rcases hm with h | h | h | h | h | h <;> exact ⟨_, h, by omega, by omega⟩
  obtain ⟨i, rfl, i0, i1⟩ := hz
  refine ⟨i, o3, cutF_set [] ?_ d3.lt rfl, i0, i1, d3⟩
  simp [b_law_size, e1, e2, e3, add_int, setAll]
end
end U

namespace U
open PySem L2 DL
section
variable {ms : MS} {n : Nat} {env : DE}
theorem set_app {m g : MS} {o : MO} (h : n < m.length) : (m ++ g).set n o = m.set n o ++ g := by rw [List.set_append_left _ _ h]
theorem get_app {m g : MS} {o : MO} (h : m[n]? = some o) : (m ++ g)[n]? = some o := by rw [List.getElem?_append_left (List.getElem?_eq_some_iff.mp h).1]; exact h
theorem idx_lt {m : MS} {o : MO} (h : m[n]? = some o) : n < m.length := (List.getElem?_eq_some_iff.mp h).1
/-! ### == -/
theorem eqv_ints2 {a b c d : Int} : eqD ms (.tup [.int a, .int b]) (.tup [.int c, .int d]) = some (.bl (decide (a = c ∧ b = d))) := by
  have : eqD ms (.tup [.int a, .int b]) (.tup [.int c, .int d]) = some (.bl ((a == c) && ((b == d) && true))) := by kernel_rfl
  rw [this]
  by_cases h1 : a = c <;> by_cases h2 : b = d <;> simp [h1, h2]
/-- a good table -/
inductive Tb (most : Int) : D → Prop
  | hv (z b : Int) : 1 ≤ z → z ≤ 99999 → 1 ≤ b → b ≤ most → Tb most (.tup [.str "halves", .int z, .int b])
  | pr (hs : List Int) (z0 z1 o0 o1 st b : Int) : (hs.length = 0 ∨ hs.length = 2 ∨ hs.length = 4) → (∀ h ∈ hs, 1 ≤ h ∧ h ≤ 99999) → 1 ≤ z0 → z0 ≤ 99999 → 1 ≤ z1 → z1 ≤ 99999 → 1 ≤ o0 → o0 ≤ 99999 → 1 ≤ o1 → o1 ≤ 99999 → 1 ≤ st → st ≤ 99999 → ¬ (o0 = z0 ∧ o1 = z1) → 1 ≤ b → b ≤ most →
      Tb most (.tup [.str "pairs", .tup (hs.map D.int), .tup [.int z0, .int z1], .tup [.int o0, .int o1], .int st, .int b])
theorem sizes_go {m : MS} {p : List (Option D)} (hn : n < m.length) (hp : 3 < p.length) : ∀ (ds : List D) (acc : List Int) (o : MO) (B : Nat), Dr B o → B + 3 * ds.length < 900000 → acc.length + ds.length ≤ 1000 →
    ∃ (hs : List Int) (o' : MO), lcL (gNm 4) (fun _ ms => .ok true ms) (sCall F_law_size 1 (sCons (sVar 0) sNil)) (some (.loc n) :: p) m.length ds (m.set n o ++ [.lst (acc.map D.int)]) = .ok () (m.set n o' ++ [.lst ((acc ++ hs).map D.int)]) ∧ hs.length = ds.length ∧ (∀ h ∈ hs, 1 ≤ h ∧ h ≤ 99999) ∧ Dr (B + 3 * ds.length) o'
  | [], acc, o, B, dr, _, _ => ⟨[], o, by simp [lcL], rfl, by simp, dr⟩
  | d :: ds, acc, o, B, dr, hB, hl => by
    simp only [List.length_cons] at hB hl
    have g0 : (m.set n o ++ [MO.lst (acc.map D.int)])[n]? = some o := get_app (by rw [List.getElem?_set_self hn])
    obtain ⟨z, o1, e, z0, z1, d1⟩ := size_ok g0 dr (by omega)
    obtain ⟨hs, o', e2, l2, p2, d2⟩ := sizes_go hn hp ds (acc ++ [z]) o1 (B + 3) d1 (by omega) (by rw [List.length_append]; simp only [List.length_cons, List.length_nil]; omega)
    have ln : (m.set n o).length = m.length := List.length_set ..
    have s1 : (m.set n o ++ [MO.lst (acc.map D.int)]).set n o1 = m.set n o1 ++ [MO.lst (acc.map D.int)] := by rw [set_app (by rw [ln]; exact hn), List.set_set]
    have g1 : (m.set n o1 ++ [MO.lst (acc.map D.int)])[m.length]? = some (.lst (acc.map D.int)) := by rw [List.getElem?_append_right (by rw [List.length_set]; exact Nat.le_refl _), List.length_set, Nat.sub_self]; rfl
    have g2 : (m.set n o1 ++ [MO.lst (acc.map D.int)]).set m.length (.lst (acc.map D.int ++ [.int z])) = m.set n o1 ++ [MO.lst ((acc ++ [z]).map D.int)] := by
      rw [List.set_append_right _ _ (by rw [List.length_set]; exact Nat.le_refl _), List.length_set, Nat.sub_self, List.map_append]; rfl
    refine ⟨z :: hs, o', ?_, by simp [l2], ?_, ?_⟩
    · have v0 : ((some (D.loc n) :: p).set 4 (some d))[0]? = some (some (D.loc n)) := by
        rw [List.getElem?_set_ne (by decide)]; rfl
      simp only [lcL, gNm_ap, nox, ↓reduceIte, sCall_ap, sCons_ap, sVar_ap, v0, vR_some, kC1_ok, sNil_ap, kC2_ok, kCall_ok, List.length_cons, List.length_nil, Nat.reduceAdd, e, s1, g1]
      rw [if_pos (by rw [List.length_map]; omega), g2, e2]
      simp
    · intro x hx
      rcases List.mem_cons.mp hx with e | hx
      · subst e; exact ⟨z0, z1⟩
      · exact p2 x hx
    · simp only [List.length_cons]; rw [show B + 3 * (ds.length + 1) = B + 3 + 3 * ds.length by omega]; exact d2
theorem set_self {m : MS} {o : MO} (h : m[n]? = some o) : m.set n o = m := by
  apply List.ext_getElem?
  intro i
  by_cases e : n = i
  · subst e; rw [List.getElem?_set_self (idx_lt h), h]
  · rw [List.getElem?_set_ne e]
theorem sizes_ok {B : Nat} {o o0 : MO} {p1 p2 p3 p4 p5 p6 : Option D} {k : Int} (hn : ms[n]? = some o0) (dr : Dr B o) (hB : B < 800000) (k0 : 0 ≤ k) (k1 : k ≤ 100) {ga : SA} {oz : MO} (hg : ga [some (.loc n), p1, p2, p3, p4, p5, p6] (ms.set n oz) = .ok [.int k] (ms.set n o)) :
    ∃ (hs : List Int) (o' : MO), sLc (sRange1 ga) [4] (gNm 4) (fun _ ms => .ok true ms) (sCall F_law_size 1 (sCons (sVar 0) sNil)) [some (.loc n), p1, p2, p3, p4, p5, p6] (ms.set n oz) = .ok (.lst (hs.map D.int)) (ms.set n o') ∧ (hs.length : Int) = k ∧ (∀ h ∈ hs, 1 ≤ h ∧ h ≤ 99999) ∧ Dr (B + 3 * k.toNat) o' := by
  have len : (rngL 0 k.toNat).length = k.toNat := by simp [rngL]
  obtain ⟨hs, o', e, l, p, d⟩ := sizes_go (m := ms) (p := [p1, p2, p3, none, p5, p6]) (idx_lt hn) (by simp) (rngL 0 k.toNat) [] o B dr (by rw [len]; omega) (by rw [len]; simp; omega)
  rw [len] at l d
  refine ⟨hs, o', cutE_set (g := [.dead]) ?_ d.lt (by simp only [locsLt]; exact locs_ints _ _), by omega, p, d⟩
  unfold sLcG
  have ir : inR k = true := decide_eq_true (by omega)
  rw [sRange1_ap, hg, kRange1_ok, if_pos ir, bind_ok]
  have w : wipeD [some (D.loc n), p1, p2, p3, p4, p5, p6] [4] = [some (.loc n), p1, p2, p3, none, p5, p6] := rfl
  rw [w]
  have e' := e
  simp only [List.map_nil, List.nil_append] at e'
  rw [List.length_set, e', bind_ok]
  simp [lcE]
theorem lt_of {B k : Nat} {o : MO} (h : Dr B o) : Dr (B + k) o := by
  obtain ⟨cs, a, l, u, e, c0, c1, a0, a1, u0, u1, l0⟩ := h
  exact ⟨cs, a, l, u, e, c0, c1, a0, by omega, u0, by omega, l0⟩
theorem up_to {B C : Nat} {o : MO} (h : Dr B o) (hc : B ≤ C) : Dr C o := by
  obtain ⟨k, rfl⟩ := Nat.exists_eq_add_of_le hc
  exact lt_of h
theorem table_ok {B : Nat} {o : MO} {most : Int} (hn : ms[n]? = some o) (dr : Dr B o) (hB : B < 700000) (h0 : 0 < most) (h1 : most < 1000) :
    ∃ (t : D) (o' : MO), F_law_table [.loc n, .int most] ms = .ok t (ms.set n o') ∧ Tb most t ∧ Dr (B + 40) o' := by
  obtain ⟨b, o1, e1, b0, b1, d1⟩ := next_ok (many := most) hn dr (by omega) h0 (by omega)
  have hn1 := set_at (o := o1) hn
  obtain ⟨k, o2, e2, k0, k1, d2⟩ := next_ok (many := 3) hn1 d1 (by omega) (by omega) (by omega)
  rw [List.set_set] at e2
  have hn2 := set_at (o := o2) hn
  by_cases hk : k = 0
  · obtain ⟨z, o3, e3, z0, z1, d3⟩ := size_ok hn2 d2 (by omega)
    rw [List.set_set] at e3
    refine ⟨_, o3, cutF_set [] ?_ d3.lt ?_, .hv z (1 + b) z0 z1 (by omega) (by omega), up_to d3 (by omega)⟩
    · simp [b_law_table, e1, add_int, e2, eq_int, hk, e3]
    · simp [locsLt, locsLts]
  · have hkf : decide (k = 0) = false := decide_eq_false hk
    obtain ⟨r, o3, e3, r0, r1, d3⟩ := next_ok (many := 4) hn2 d2 (by omega) (by omega) (by omega)
    rw [List.set_set] at e3
    have hn3 := set_at (o := o3) hn
    have hx : ∃ x : Int, atI [D.int 0, .int 0, .int 2, .int 4] r = some (.int x) ∧ 0 ≤ x ∧ x ≤ 4 ∧ (x = 0 ∨ x = 2 ∨ x = 4) := by
      have : r = 0 ∨ r = 1 ∨ r = 2 ∨ r = 3 := by omega
      rcases this with h | h | h | h <;> subst h
      · exact ⟨0, rfl, by omega, by omega, by omega⟩
      · exact ⟨0, rfl, by omega, by omega, by omega⟩
      · exact ⟨2, rfl, by omega, by omega, by omega⟩
      · exact ⟨4, rfl, by omega, by omega, by omega⟩
    obtain ⟨x, ex, x0, x4, xc⟩ := hx
    obtain ⟨hs, o4, e4, hl, hh, d4⟩ := sizes_ok (k := x) (p1 := some (.int most)) (p2 := some (.int (1 + b))) (p3 := none) (p4 := none) (p5 := none) (p6 := none) (oz := o2) (ga := sCons (sBin atD (sLst (sCons (sCst (.int 0)) (sCons (sCst (.int 0)) (sCons (sCst (.int 2)) (sCons (sCst (.int 4)) sNil))))) (sCall F_law_next 2 (sCons (sVar 0) (sCons (sCst (.int 4)) sNil)))) sNil) hn d3 (by omega) x0 (by omega) (by
      simp [e3, at_lst, ex])
    have d4 := up_to (C := B + 15) d4 (by omega)
    have lt := idx_lt hn
    have stp : ∀ (oa : MO) (Ba : Nat), Dr Ba oa → Ba < 800000 → ∃ (z : Int) (ob : MO), F_law_size [.loc n] (ms.set n oa) = .ok (.int z) (ms.set n ob) ∧ 1 ≤ z ∧ z ≤ 99999 ∧ Dr (Ba + 3) ob := fun oa Ba da hb => by
      obtain ⟨z, ob, e, z0, z1, db⟩ := size_ok (ms := ms.set n oa) (set_at (o := oa) hn) da (by omega)
      rw [List.set_set] at e
      exact ⟨z, ob, e, z0, z1, db⟩
    obtain ⟨za, o5, e5, za0, za1, d5⟩ := stp o4 _ d4 (by omega)
    obtain ⟨zb, o6, e6, zb0, zb1, d6⟩ := stp o5 _ d5 (by omega)
    obtain ⟨oa, o7, e7, oa0, oa1, d7⟩ := stp o6 _ d6 (by omega)
    obtain ⟨ob, o8, e8, ob0, ob1, d8⟩ := stp o7 _ d7 (by omega)
    obtain ⟨st, o9, e9, st0, st1, d9⟩ := stp o8 _ d8 (by omega)
    have tl : ∀ m : MS, tupleD m [.lst (hs.map D.int)] = some (.tup (hs.map D.int)) := fun m => rfl
    have hc : hs.length = 0 ∨ hs.length = 2 ∨ hs.length = 4 := by omega
    by_cases hq : oa = za ∧ ob = zb
    · have m9 := mod_lt zb (m := 9) (by decide)
      refine ⟨_, o9, cutF_set [] ?_ d9.lt ?_, .pr hs za zb za (zb % 9 + 1 + (if decide (9 < zb) = true then 1 else 0)) st (1 + b) hc hh za0 za1 zb0 zb1 za0 za1 (by split <;> omega) (by split <;> omega) st0 st1 (by rintro ⟨_, h⟩; split at h <;> simp_all <;> omega) (by omega) (by omega), up_to d9 (by omega)⟩
      · have i9 : ∀ m : MS, intD m [.bl (decide (9 < zb))] = some (.int (if decide (9 < zb) = true then 1 else 0)) := fun m => rfl
        have a0 : ∀ m : MS, atD m (.tup [.int za, .int zb]) (.int 0) = some (.int za) := fun m => rfl
        have a1 : ∀ m : MS, atD m (.tup [.int za, .int zb]) (.int 1) = some (.int zb) := fun m => rfl
        have hqt : decide (oa = za ∧ ob = zb) = true := decide_eq_true hq
        simp only [b_law_table, runD_ap, List.map_cons, List.map_nil, List.length_cons, List.length_nil, Nat.reduceAdd, Nat.reduceSub, List.replicate, List.cons_append, List.nil_append, sSeq_ap, sAsg_ap, sBin_ap, sCst_ap, kBin1_ok, sCall_ap, sCons_ap, sVar_ap, List.getElem?_cons_zero, List.getElem?_cons_succ, vR_some, kC1_ok, sNil_ap, kC2_ok, kCall_ok, ↓reduceIte, e1, kBin2_ok, add_int, optR_some, kAsg_ok, gNm_ap, asgO_some, List.set_cons_succ, List.set_cons_zero, next_nx, sIf_ap, sTst_ap, e2, eq_int, hkf, kTst_ok, kIf_f, sSkip_ap, sBif_ap, e4, kBif_ok, tl, sPar_ap, sTup_ap, kTup_ok, Nat.reduceLeDiff, e5, e6, e7, e8, kPar_ok, setAll, eqv_ints2, hqt, kIf_t, a0, a1, mod_int (show (0 : Int) < 9 by decide), gt_int, i9, e9, sRet_ap, kRet_ok, out_ret, List.append_nil]
      · simp [locsLt, locsLts, locs_ints]
    · refine ⟨_, o9, cutF_set [] ?_ d9.lt ?_, .pr hs za zb oa ob st (1 + b) hc hh za0 za1 zb0 zb1 oa0 oa1 ob0 ob1 st0 st1 hq (by omega) (by omega), up_to d9 (by omega)⟩
      · have hqf : decide (oa = za ∧ ob = zb) = false := decide_eq_false hq
        simp only [b_law_table, runD_ap, List.map_cons, List.map_nil, List.length_cons, List.length_nil, Nat.reduceAdd, Nat.reduceSub, List.replicate, List.cons_append, List.nil_append, sSeq_ap, sAsg_ap, sBin_ap, sCst_ap, kBin1_ok, sCall_ap, sCons_ap, sVar_ap, List.getElem?_cons_zero, List.getElem?_cons_succ, vR_some, kC1_ok, sNil_ap, kC2_ok, kCall_ok, ↓reduceIte, e1, kBin2_ok, add_int, optR_some, kAsg_ok, gNm_ap, asgO_some, List.set_cons_succ, List.set_cons_zero, next_nx, sIf_ap, sTst_ap, e2, eq_int, hkf, kTst_ok, kIf_f, sSkip_ap, sBif_ap, e4, kBif_ok, tl, sPar_ap, sTup_ap, kTup_ok, Nat.reduceLeDiff, e5, e6, e7, e8, kPar_ok, setAll, eqv_ints2, hqf, e9, sRet_ap, kRet_ok, out_ret, List.append_nil]
      · simp [locsLt, locsLts, locs_ints]
end
end U

namespace U
open PySem L2 DL
def flat : D → Bool
  | .non => true
  | .bl _ => true
  | .int _ => true
  | .str _ => true
  | .lst _ => true
  | .tup _ => true
  | .dic _ _ => true
  | _ => false
def isInt : D → Bool
  | .int _ => true
  | _ => false
def wholeB (d : D) (lo hi : Int) : Bool := match d with
  | .int i => decide (lo ≤ i) && decide (i ≤ hi)
  | _ => false
section
variable {ms : MS} {n : Nat} {env : DE} {d : D}
theorem is_integer_ok (h : flat d = true) : F_is_integer [d] ms = .ok (.bl (isInt d)) ms := by
  refine cutF_here ?_ rfl
  cases d <;> first | (cases h; done) | kernel_rfl
theorem is_whole_ok {lo hi : Int} (h : flat d = true) : F_is_whole [d, .int lo, .int hi] ms = .ok (.bl (wholeB d lo hi)) ms := by
  refine cutF_here ?_ rfl
  have e := is_integer_ok (ms := ms) h
  cases d with
  | int i =>
    by_cases q : lo ≤ i
    · simp [b_is_whole, e, isInt, tru_bl, le_int, q, wholeB]
    · simp [b_is_whole, e, isInt, tru_bl, le_int, q, wholeB]
  | _ => first | (cases h; done) | simp [b_is_whole, e, isInt, tru_bl, wholeB]
theorem is_duration_ok (h : flat d = true) : F_is_duration [d] ms = .ok (.bl (wholeB d 1 99999)) ms := by
  refine cutF_here ?_ rfl
  simp [b_is_duration, is_whole_ok h]
theorem blsD_map (f : D → Bool) : ∀ xs : List D, blsD (xs.map fun d => .bl (f d)) = some (xs.map f)
  | [] => rfl
  | x :: xs => by simp [blsD, blsD_map f xs]
theorem all_map (f : D → Bool) (xs : List D) : allD ms [.lst (xs.map fun d => .bl (f d))] = some (.bl (xs.all f)) := by
  show (blsD (xs.map fun d => .bl (f d))).map _ = _
  rw [blsD_map]
  simp [List.all_map, Function.comp_def]
theorem filter_true (xs : List D) : xs.filter (fun _ => true) = xs := by simp
theorem locs_bls (f : D → Bool) : ∀ xs : List D, locsLts n (xs.map fun d => .bl (f d)) = true
  | [] => rfl
  | x :: xs => by simp only [List.map_cons, locsLts, locsLt, locs_bls f xs, Bool.and_self]
/-- [f(x) for x in xs], all of it -/
theorem lc_tests {xs : List D} {p0 p1 p2 : Option D} {fe : SE} {fi : SE} (f : D → Bool) (hi : fi [p0, p1, p2] ms = .ok (.tup xs) ms) (hl : xs.length ≤ 1000) (h : ∀ d ∈ xs, ∀ m, fe [p0, p1, some d] m = .ok (.bl (f d)) m) :
    sLc (sItems fi) [2] (gNm 2) (fun _ ms => .ok true ms) fe [p0, p1, p2] ms = .ok (.lst (xs.map fun d => .bl (f d))) ms := by
  have := sLc_pure (ms := ms) (env := [p0, p1, p2]) (fi := sItems fi) (vs := [2]) (gt := gNm 2) (tt := fun _ ms => .ok true ms) (fe := fe) (ds := xs) (fun _ => true) (fun d => .bl (f d)) (by simp [hi, itemsD]) (fun d hd acc => ⟨[p0, p1, some d], rfl, rfl, fun _ => h d hd _⟩) (by omega) (by rw [filter_true]; exact locs_bls f xs)
  rw [filter_true] at this
  exact this
theorem are_durations_ok {xs : List D} {sizes : List Int} {k : Bool} (hx : ∀ d ∈ xs, flat d = true) (hl : xs.length ≤ 1000) (hk : inD ms (.int xs.length) (.tup (sizes.map D.int)) = some (.bl k)) :
    F_are_durations [.tup xs, .tup (sizes.map D.int)] ms = .ok (.bl (k && xs.all fun d => wholeB d 1 99999)) ms := by
  have ity : isiB "tuple" ms (.tup xs) = some true := by kernel_rfl
  cases k with
  | false => exact cutF_same [] (by simp [b_are_durations, ity, tru_bl, len_tup, hk]) rfl
  | true =>
    refine cutF_here ?_ rfl
    have lc := lc_tests (ms := ms) (xs := xs) (p0 := some (.tup xs)) (p1 := some (.tup (sizes.map D.int))) (p2 := none) (fi := sVar 0) (fe := sCall F_is_duration 1 (sCons (sVar 2) sNil)) (fun d => wholeB d 1 99999) (by simp) hl (fun d hd m => by simp [is_duration_ok (ms := m) (hx d hd)])
    simp [b_are_durations, ity, tru_bl, len_tup, hk, lc, all_map]
theorem flat_ints (xs : List Int) : ∀ d ∈ xs.map D.int, flat d = true := fun d h => by
  obtain ⟨i, _, rfl⟩ := List.mem_map.mp h
  rfl
theorem whole_ints {xs : List Int} {lo hi : Int} (h : ∀ x ∈ xs, lo ≤ x ∧ x ≤ hi) : (xs.map D.int).all (fun d => wholeB d lo hi) = true := by
  rw [List.all_map, List.all_eq_true]
  intro x hx
  obtain ⟨a, b⟩ := h x hx
  simp [wholeB, a, b]
theorem isLst_last {xs : List D} : isLst (ms ++ [.lst xs]) ms.length = true := by simp [isLst]
theorem appM_last {xs : List D} : appM ms.length d env (ms ++ [.lst xs]) = if xs.length < 16777216 then .nx env (ms ++ [.lst (xs ++ [d])]) else .stuck := by simp [appM]
noncomputable def wpEnd : SS := (sSeq (sAsg (sLc (sItems (sFrz 4)) [10, 11] (gTu 2 (gsCons (gNm 10) (gsCons (gNm 11) gsNil))) (sNotT (sTru (sVar 11))) (sVar 10)) (gNm 9))
    (sRet (sIte (sTst (sBin neD (sVar 9) (sLst sNil))) (sBin atD (sVar 9) (sCst (.int 0))) (sCst .non))))
theorem b_wrong_eq : b_wrong_part = (sSeq (sIf (sTst (sBin eqD (sBin atD (sVar 0) (sCst (.int 0))) (sCst (.str "halves"))))
    (sSeq (sAsg (sVar 0) (gTu 3 (gsCons (gNm 1) (gsCons (gNm 2) (gsCons (gNm 3) gsNil)))))
    (sAsg (sNewL (sCons (sTup (sCons (sCst (.str "unit")) (sCons (sCall F_is_duration 1 (sCons (sVar 2) sNil)) sNil))) sNil)) (gNm 4)))
    (sSeq (sAsg (sVar 0) (gTu 6 (gsCons (gNm 1) (gsCons (gNm 5) (gsCons (gNm 6) (gsCons (gNm 7) (gsCons (gNm 8) (gsCons (gNm 3) gsNil))))))))
    (sSeq (sAsg (sNewL (sCons (sTup (sCons (sCst (.str "header")) (sCons (sCall F_are_durations 2 (sCons (sVar 5) (sCons (sTup (sCons (sCst (.int 0)) (sCons (sCst (.int 2)) (sCons (sCst (.int 4)) sNil)))) sNil))) sNil))) (sCons (sTup (sCons (sCst (.str "zero")) (sCons (sCall F_are_durations 2 (sCons (sVar 6) (sCons (sTup (sCons (sCst (.int 2)) sNil)) sNil))) sNil))) sNil))) (gNm 4))
    (sSeq (sAppend 4 (sTup (sCons (sCst (.str "one")) (sCons (sAndV (sCall F_are_durations 2 (sCons (sVar 7) (sCons (sTup (sCons (sCst (.int 2)) sNil)) sNil))) (sBin neD (sVar 7) (sVar 6))) sNil))))
    (sAppend 4 (sTup (sCons (sCst (.str "stop")) (sCons (sCall F_is_duration 1 (sCons (sVar 8) sNil)) sNil))))))))
    (sSeq (sAppend 4 (sTup (sCons (sCst (.str "bits")) (sCons (sCall F_is_whole 3 (sCons (sVar 3) (sCons (sCst (.int 1)) (sCons (sCst (.int 8)) sNil)))) sNil))))
    wpEnd)) := rfl
def falseP : D → Bool
  | .tup [_, .bl k] => !k
  | _ => false
theorem wrong_end {xs : List Str} {p0 p1 p2 p3 p5 p6 p7 p8 p9 p10 p11 : Option D} (hl : xs.length ≤ 100) : wpEnd [p0, p1, p2, p3, some (.loc ms.length), p5, p6, p7, p8, p9, p10, p11] (ms ++ [.lst (xs.map fun x => .tup [.str x, .bl true])]) = .ret .non (ms ++ [.dead]) := by
  have fz : sItems (sFrz 4) [p0, p1, p2, p3, some (.loc ms.length), p5, p6, p7, p8, p9, p10, p11] (ms ++ [.lst (xs.map fun x => .tup [.str x, .bl true])]) = .ok (xs.map fun x => .tup [.str x, .bl true]) (ms ++ [.dead]) := by
    simp [sFrz, itemsD]
  have lc := sLcG_pure (mu := false) (ms := ms ++ [.dead]) (vs := [10, 11]) (gt := gTu 2 (gsCons (gNm 10) (gsCons (gNm 11) gsNil))) (tt := sNotT (sTru (sVar 11))) (fe := sVar 10) falseP (fun d => d) fz (fun d hd acc => by
    obtain ⟨x, _, rfl⟩ := List.mem_map.mp hd
    refine ⟨_, rfl, ?_, fun z => by cases z⟩
    simp [falseP, tru_bl, wipeD]) (by rw [List.length_map]; omega)
  have e : ((xs.map fun x => D.tup [.str x, .bl true]).filter falseP).map (fun d => d) = [] := by
    rw [List.map_id', List.filter_eq_nil_iff]
    intro d hd
    obtain ⟨x, _, rfl⟩ := List.mem_map.mp hd
    simp [falseP]
  rw [e] at lc
  have lc := cutE_kept (m := ms ++ [.dead]) (g := [.dead]) (d := .lst []) lc (by simp) (fun k o ho => by
    by_cases hk : k < ms.length
    · rw [List.getElem?_append_left hk] at ho
      exact ⟨o, by rw [List.getElem?_append_left hk]; exact ho, .inl rfl⟩
    · refine ⟨.dead, ?_, .inr rfl⟩
      have h1 := (List.getElem?_eq_some_iff.mp ho).1
      rw [List.length_append] at h1
      have h2 : k = ms.length := by simp only [List.length_cons, List.length_nil] at h1; omega
      subst h2
      simp) rfl
  have ne : ∀ m : MS, neD m (.lst []) (.lst []) = some (.bl false) := fun m => by kernel_rfl
  simp only [wpEnd, sSeq_ap, sAsg_ap, sLc, lc, kAsg_ok, gNm_ap, asgO_some, next_nx, List.set_cons_succ, List.set_cons_zero, sRet_ap, sIte_ap, sTst_ap, sBin_ap, sVar_ap, List.getElem?_cons_succ, List.getElem?_cons_zero, vR_some, kBin1_ok, sLst_ap, sNil_ap, kLst_ok, List.length_nil, Nat.zero_le, ↓reduceIte, kBin2_ok, ne, optR_some, kTst_ok, kIte_f, sCst_ap, kRet_ok]
/-- no part of a good table is wrong -/
theorem wrong_part_ok {t : D} (h : Tb 8 t) : F_wrong_part [t] ms = .ok .non ms := by
  cases h with
  | hv z b z0 z1 b0 b1 =>
    have w1 : wholeB (.int z) 1 99999 = true := by simp [wholeB, z0, z1]
    have w2 : wholeB (.int b) 1 8 = true := by simp [wholeB, b0, b1]
    have q1 : ∀ m : MS, F_is_duration [.int z] m = .ok (.bl true) m := fun m => by rw [is_duration_ok rfl, w1]
    have q2 : ∀ m : MS, F_is_whole [.int b, .int 1, .int 8] m = .ok (.bl true) m := fun m => by rw [is_whole_ok rfl, w2]
    refine cutF_same [.dead] ?_ rfl
    have h0 : atD ms (.tup [.str "halves", .int z, .int b]) (.int 0) = some (.str "halves") := rfl
    have h1 : eqD ms (.str "halves") (.str "halves") = some (.bl true) := by kernel_rfl
    have we := wrong_end (ms := ms) (xs := ["unit", "bits"]) (p0 := some (.tup [.str "halves", .int z, .int b])) (p1 := some (.str "halves")) (p2 := some (.int z)) (p3 := some (.int b)) (p5 := none) (p6 := none) (p7 := none) (p8 := none) (p9 := none) (p10 := none) (p11 := none) (by decide)
    simp only [List.map_cons, List.map_nil] at we
    simp only [b_wrong_eq, runD_ap, List.map_cons, List.map_nil, List.length_cons, List.length_nil, Nat.reduceAdd, Nat.reduceSub, List.replicate, List.cons_append, List.nil_append, sSeq_ap, sIf_ap, sTst_ap, sBin_ap, sVar_ap, List.getElem?_cons_zero, List.getElem?_cons_succ, vR_some, sCst_ap, kBin1_ok, kBin2_ok, h0, h1, optR_some, kTst_ok, kIf_t, sAsg_ap, kAsg_ok, gTu, seqOf, gsCons, gsNil, gNm_ap, asgO_some, next_nx, ↓reduceIte, List.set_cons_succ, List.set_cons_zero, sNewL_ap, sCons_ap, sTup_ap, sCall_ap, sNil_ap, kC1_ok, kC2_ok, kCall_ok, q1, kTup_ok, kNewL_ok, Nat.reduceLeDiff, sAppend_ap, kApp0_some, isLst_last, q2, kApp_ok, appM_last, Nat.reduceLT, we, out_ret]
  | pr hs z0 z1 o0 o1 st b hc hh a1 a2 a3 a4 a5 a6 a7 a8 a9 a10 hne b0 b1 =>
    have w1 : wholeB (.int st) 1 99999 = true := by simp [wholeB, a9, a10]
    have w2 : wholeB (.int b) 1 8 = true := by simp [wholeB, b0, b1]
    have q1 : ∀ m : MS, F_is_duration [.int st] m = .ok (.bl true) m := fun m => by rw [is_duration_ok rfl, w1]
    have q2 : ∀ m : MS, F_is_whole [.int b, .int 1, .int 8] m = .ok (.bl true) m := fun m => by rw [is_whole_ok rfl, w2]
    have r1 : ∀ m : MS, F_are_durations [.tup (hs.map D.int), .tup [.int 0, .int 2, .int 4]] m = .ok (.bl true) m := fun m => by
      have := are_durations_ok (ms := m) (xs := hs.map D.int) (sizes := [0, 2, 4]) (k := true) (flat_ints hs) (by rw [List.length_map]; omega) (by
        rw [List.length_map]
        rcases hc with h | h | h <;> rw [h] <;> kernel_rfl)
      rw [whole_ints hh] at this
      exact this
    have pair : ∀ (x y : Int) (m : MS), 1 ≤ x → x ≤ 99999 → 1 ≤ y → y ≤ 99999 → F_are_durations [.tup [.int x, .int y], .tup [.int 2]] m = .ok (.bl true) m := fun x y m x0 x1 y0 y1 => by
      have := are_durations_ok (ms := m) (xs := [x, y].map D.int) (sizes := [2]) (k := true) (flat_ints [x, y]) (by simp) (by kernel_rfl)
      rw [whole_ints (by simp [x0, x1, y0, y1])] at this
      exact this
    have r2 := fun m => pair z0 z1 m a1 a2 a3 a4
    have r3 := fun m => pair o0 o1 m a5 a6 a7 a8
    refine cutF_same [.dead] ?_ rfl
    have h0 : atD ms (.tup [.str "pairs", .tup (hs.map D.int), .tup [.int z0, .int z1], .tup [.int o0, .int o1], .int st, .int b]) (.int 0) = some (.str "pairs") := rfl
    have h1 : eqD ms (.str "pairs") (.str "halves") = some (.bl false) := by kernel_rfl
    have ne : ∀ m : MS, neD m (.tup [.int o0, .int o1]) (.tup [.int z0, .int z1]) = some (.bl true) := fun m => by
      have e1 : neD m (.tup [.int o0, .int o1]) (.tup [.int z0, .int z1]) = some (.bl (!((o0 == z0) && ((o1 == z1) && true)))) := by kernel_rfl
      rw [e1]
      by_cases g1 : o0 = z0 <;> by_cases g2 : o1 = z1 <;> simp [g1, g2]
      exact hne ⟨g1, g2⟩
    have we := wrong_end (ms := ms) (xs := ["header", "zero", "one", "stop", "bits"]) (p0 := some (.tup [.str "pairs", .tup (hs.map D.int), .tup [.int z0, .int z1], .tup [.int o0, .int o1], .int st, .int b])) (p1 := some (.str "pairs")) (p2 := none) (p3 := some (.int b)) (p5 := some (.tup (hs.map D.int))) (p6 := some (.tup [.int z0, .int z1])) (p7 := some (.tup [.int o0, .int o1])) (p8 := some (.int st)) (p9 := none) (p10 := none) (p11 := none) (by decide)
    simp only [List.map_cons, List.map_nil] at we
    generalize hs.map D.int = H at r1 h0 we ⊢
    simp only [b_wrong_eq, runD_ap, List.map_cons, List.map_nil, List.length_cons, List.length_nil, Nat.reduceAdd, Nat.reduceSub, List.replicate, List.cons_append, List.nil_append, sSeq_ap, sIf_ap, sTst_ap, sBin_ap, sVar_ap, List.getElem?_cons_zero, List.getElem?_cons_succ, vR_some, sCst_ap, kBin1_ok, kBin2_ok, h0, h1, optR_some, kTst_ok, kIf_f, sAsg_ap, kAsg_ok, gTu, seqOf, gsCons, gsNil, gNm_ap, asgO_some, next_nx, ↓reduceIte, List.set_cons_succ, List.set_cons_zero, sNewL_ap, sCons_ap, sTup_ap, sCall_ap, sNil_ap, kC1_ok, kC2_ok, kCall_ok, q1, kTup_ok, kNewL_ok, Nat.reduceLeDiff, sAppend_ap, kApp0_some, isLst_last, q2, kApp_ok, appM_last, Nat.reduceLT, we, out_ret, r1, r2, r3, sAndV_ap, kAndV_ok, tru_bl, kAndV2_t, ne]
theorem bits_last {t : D} (h : Tb 8 t) : ∃ (xs : List D) (b : Int), t = .tup xs ∧ 1 ≤ b ∧ b ≤ 8 ∧ (∀ m : MS, F_bits_of [t] m = .ok (.int b) m) ∧ (∀ m : MS, atD m t (.int (-1)) = some (.int b)) := by
  cases h with
  | hv z b z0 z1 b0 b1 => exact ⟨_, b, rfl, b0, b1, fun m => cutF_here (by kernel_rfl) rfl, fun m => by kernel_rfl⟩
  | pr hs z0 z1 o0 o1 st b hc hh a1 a2 a3 a4 a5 a6 a7 a8 a9 a10 hne b0 b1 => exact ⟨_, b, rfl, b0, b1, fun m => cutF_here (by kernel_rfl) rfl, fun m => by kernel_rfl⟩
/-- is it a tuple of bits -/
theorem is_bits_tup {t : D} {b : Int} {xs : List D} (hb : ∀ m : MS, F_bits_of [t] m = .ok (.int b) m) (hx : ∀ d ∈ xs, flat d = true) (hl : xs.length ≤ 1000) : F_is_bits [t, .tup xs] ms = .ok (.bl (decide ((xs.length : Int) = b) && xs.all fun d => wholeB d 0 1)) ms := by
  have ity : isiB "tuple" ms (.tup xs) = some true := by kernel_rfl
  have ne : neD ms (.int xs.length) (.int b) = some (.bl (!decide ((xs.length : Int) = b))) := rfl
  by_cases q : (xs.length : Int) = b
  · have qt : decide ((xs.length : Int) = b) = true := decide_eq_true q
    refine cutF_here ?_ rfl
    have lc := lc_tests (ms := ms) (xs := xs) (p0 := some t) (p1 := some (.tup xs)) (p2 := none) (fi := sVar 1) (fe := sCall F_is_whole 3 (sCons (sVar 2) (sCons (sCst (.int 0)) (sCons (sCst (.int 1)) sNil)))) (fun d => wholeB d 0 1) (by simp) hl (fun d hd m => by simp [is_whole_ok (ms := m) (hx d hd)])
    simp [b_is_bits, ity, tru_bl, len_tup, hb, ne, qt, lc, all_map]
  · have qf : decide ((xs.length : Int) = b) = false := decide_eq_false q
    refine cutF_same [] ?_ rfl
    simp [b_is_bits, ity, tru_bl, len_tup, hb, ne, qf]
def isTup : D → Bool
  | .tup _ => true
  | _ => false
theorem is_bits_no {t x : D} (hf : flat x = true) (hx : isTup x = false) : F_is_bits [t, x] ms = .ok (.bl false) ms := by
  have ity : isiB "tuple" ms x = some false := by cases x <;> first | (cases hx; done) | (cases hf; done) | kernel_rfl
  refine cutF_same [] ?_ rfl
  simp [b_is_bits, ity, tru_bl]
end
end U

namespace U
open PySem L2 DL
def WL : Nat → List (List Int)
  | 0 => [[]]
  | n + 1 => (WL n).map (0 :: ·) ++ (WL n).map (1 :: ·)
def WP : Nat → List (List Int)
  | 0 => [[]]
  | n + 1 => (WP n).flatMap fun w => [w ++ [0], w ++ [1]]
theorem WL_eq {n : Nat} (h : n ≤ 8) : WL n = WP n := by
  have : n = 0 ∨ n = 1 ∨ n = 2 ∨ n = 3 ∨ n = 4 ∨ n = 5 ∨ n = 6 ∨ n = 7 ∨ n = 8 := by omega
  rcases this with h | h | h | h | h | h | h | h | h <;> subst h <;> kernel_rfl
theorem WL_len : ∀ (n : Nat), (WL n).length = 2 ^ n
  | 0 => rfl
  | n + 1 => by simp only [WL, List.length_append, List.length_map, WL_len n]; omega
theorem WL_bits : ∀ (n : Nat), ∀ w ∈ WL n, w.length = n ∧ ∀ b ∈ w, 0 ≤ b ∧ b ≤ 1
  | 0, w, h => by
    simp only [WL, List.mem_cons, List.not_mem_nil, or_false] at h
    subst h
    exact ⟨rfl, fun b hb => by cases hb⟩
  | n + 1, w, h => by
    simp only [WL, List.mem_append, List.mem_map] at h
    rcases h with ⟨v, hv, rfl⟩ | ⟨v, hv, rfl⟩ <;> obtain ⟨l, b⟩ := WL_bits n v hv
    · refine ⟨by rw [List.length_cons, l], fun x hx => ?_⟩
      rcases List.mem_cons.mp hx with e | hx
      · subst e; omega
      · exact b x hx
    · refine ⟨by rw [List.length_cons, l], fun x hx => ?_⟩
      rcases List.mem_cons.mp hx with e | hx
      · subst e; omega
      · exact b x hx
/-- a word -/
def wD (w : List Int) : D := .tup (w.map D.int)
section
variable {ms : MS} {n : Nat} {env : DE} {d : D}
theorem add_tup {xs ys : List D} (h : xs.length + ys.length ≤ 16777216) : addD ms (.tup xs) (.tup ys) = some (.tup (xs ++ ys)) := by
  show (if xs.length + ys.length ≤ 16777216 then some (D.tup (xs ++ ys)) else none) = _
  rw [if_pos h]
theorem add_lst {xs ys : List D} (h : xs.length + ys.length ≤ 16777216) : addD ms (.lst xs) (.lst ys) = some (.lst (xs ++ ys)) := by
  show (if xs.length + ys.length ≤ 16777216 then some (D.lst (xs ++ ys)) else none) = _
  rw [if_pos h]
theorem locs_words (m : Nat) (ws : List (List Int)) : locsLts m (ws.map wD) = true := locs_all fun d hd => by
  obtain ⟨w, _, rfl⟩ := List.mem_map.mp hd
  simp only [wD, locsLt, locs_ints]
theorem half_ok {p0 p2 p3 : Option D} {ws : List (List Int)} (x : Int) (hl : ws.length ≤ 1000) (hw : ∀ w ∈ ws, w.length ≤ 1000) :
    sLc (sItems (sVar 1)) [3] (gNm 3) (fun _ ms => .ok true ms) (sBin addD (sTup (sCons (sCst (.int x)) sNil)) (sVar 3)) [p0, some (.lst (ws.map wD)), p2, p3] ms = .ok (.lst ((ws.map (x :: ·)).map wD)) ms := by
  have e0 : (((ws.map wD).filter fun _ => true).map fun d => match d with | .tup v => .tup (.int x :: v) | d => d) = (ws.map (x :: ·)).map wD := by
    rw [filter_true, List.map_map, List.map_map]
    rfl
  rw [← e0]
  refine sLc_pure (fun _ => true) _ (by simp [itemsD]) (fun d hd acc => ?_) (by rw [List.length_map]; omega) (by rw [e0]; exact locs_words _ _)
  obtain ⟨w, hm, rfl⟩ := List.mem_map.mp hd
  refine ⟨_, rfl, rfl, fun _ => ?_⟩
  have := hw w hm
  simp [wipeD, wD, add_tup (show [D.int x].length + (w.map D.int).length ≤ 16777216 by simp; omega)]
theorem law_words_go {k : Int} : ∀ (ds : List D) (i : Nat) (p2 : Option D), i + ds.length ≤ 8 → ∃ p2', forL (gNm 2) (sAsg (sBin addD (sLc (sItems (sVar 1)) [3] (gNm 3) (fun _ ms => .ok true ms) (sBin addD (sTup (sCons (sCst (.int 0)) sNil)) (sVar 3))) (sLc (sItems (sVar 1)) [3] (gNm 3) (fun _ ms => .ok true ms) (sBin addD (sTup (sCons (sCst (.int 1)) sNil)) (sVar 3)))) (gNm 1)) ds [some (.int k), some (.lst ((WL i).map wD)), p2, none] ms = .nx [some (.int k), some (.lst ((WL (i + ds.length)).map wD)), p2', none] ms
  | [], i, p2, _ => ⟨p2, rfl⟩
  | d :: ds, i, p2, h => by
    simp only [List.length_cons] at h
    have hl : (WL i).length ≤ 1000 := by
      rw [WL_len]
      calc 2 ^ i ≤ 2 ^ 8 := Nat.pow_le_pow_right (by decide) (by omega)
        _ ≤ 1000 := by decide
    have hw : ∀ w ∈ WL i, w.length ≤ 1000 := fun w hm => by rw [(WL_bits i w hm).1]; omega
    obtain ⟨p2', e⟩ := law_words_go ds (i + 1) (some d) (by omega)
    refine ⟨p2', ?_⟩
    have b : (sAsg (sBin addD (sLc (sItems (sVar 1)) [3] (gNm 3) (fun _ ms => .ok true ms) (sBin addD (sTup (sCons (sCst (.int 0)) sNil)) (sVar 3))) (sLc (sItems (sVar 1)) [3] (gNm 3) (fun _ ms => .ok true ms) (sBin addD (sTup (sCons (sCst (.int 1)) sNil)) (sVar 3)))) (gNm 1)) [some (.int k), some (.lst ((WL i).map wD)), some d, none] ms = .nx [some (.int k), some (.lst ((WL (i + 1)).map wD)), some d, none] ms := by
      rw [sAsg_ap, sBin_ap, half_ok 0 hl hw, kBin1_ok, half_ok 1 hl hw, kBin2_ok, add_lst (by simp only [List.length_map]; omega), optR_some, kAsg_ok, gNm_ap, asgO_some]
      simp [WL]
    rw [forL_cons (env1 := [some (.int k), some (.lst ((WL i).map wD)), some d, none]) rfl b, e, List.length_cons, show i + 1 + ds.length = i + (ds.length + 1) by omega]
theorem law_words_ok {k : Int} (h0 : 0 ≤ k) (h1 : k ≤ 8) : F_law_words [.int k] ms = .ok (.lst ((WL k.toNat).map wD)) ms := by
  have len : (rngL 0 k.toNat).length = k.toNat := by simp [rngL]
  obtain ⟨p2', e⟩ := law_words_go (ms := ms) (k := k) (rngL 0 k.toNat) 0 none (by rw [len]; omega)
  rw [len, Nat.zero_add] at e
  have e0 : (WL 0).map wD = [.tup []] := rfl
  rw [e0] at e
  refine cutF_here ?_ (locs_words _ _)
  have ir : inR k = true := decide_eq_true (by omega)
  simp [b_law_words, ir, e]
/-! ### two clauses -/
theorem lc2L_pure {gt : VG} {tt : ST} {fi1 : SI'} {vs1 : List Nat} {gt1 : VG} {tt1 : ST} {fe : SE} {es : List D} {v : D → D → D} : ∀ {ds acc : List D}, (∀ d ∈ ds, ∀ acc, ∃ env1, gt (ms ++ [.lst acc]) d env = some env1 ∧ tt env1 (ms ++ [.lst acc]) = .ok true (ms ++ [.lst acc]) ∧ fi1 env1 (ms ++ [.lst acc]) = .ok es (ms ++ [.lst acc]) ∧
      ∀ e ∈ es, ∀ acc, ∃ env2, gt1 (ms ++ [.lst acc]) e (wipeD env1 vs1) = some env2 ∧ tt1 env2 (ms ++ [.lst acc]) = .ok true (ms ++ [.lst acc]) ∧ (true = true → fe env2 (ms ++ [.lst acc]) = .ok (v d e) (ms ++ [.lst acc]))) → acc.length + ds.length * es.length ≤ 16777216 →
    lc2L gt tt fi1 vs1 gt1 tt1 fe env ms.length ds (ms ++ [.lst acc]) = .ok () (ms ++ [.lst (acc ++ ds.flatMap fun d => es.map (v d))])
  | [], acc, _, _ => by simp [lc2L]
  | d :: ds, acc, h, hl => by
    obtain ⟨env1, a, b, c, e⟩ := h d List.mem_cons_self acc
    rw [List.length_cons, Nat.succ_mul] at hl
    have t := fun x hx => h x (List.mem_cons_of_mem _ hx)
    simp only [lc2L, a, b, nox, c, ↓reduceIte]
    rw [lcL_pure (p := fun _ => true) (v := v d) e (by omega), filter_true, bind_ok, lc2L_pure t (by rw [List.length_append, List.length_map]; omega)]
    simp
end
end U

/-! plain data: ==, repr -/
namespace U
open PySem L2 DL
mutual
/-- == of trees -/
def eqv : D → D → Bool
  | .non, .non => true
  | .bl a, .bl b => a == b
  | .bl a, .int j => (if a then 1 else 0) == j
  | .int i, .bl b => i == (if b then 1 else 0)
  | .int i, .int j => i == j
  | .str x, .str y => x == y
  | .lst xs, .lst ys => eqvs xs ys
  | .tup xs, .tup ys => eqvs xs ys
  | _, _ => false
def eqvs : List D → List D → Bool
  | [], [] => true
  | x :: xs, y :: ys => eqv x y && eqvs xs ys
  | _, _ => false
end
/-- plain data of a depth -/
inductive Pd : Nat → D → Prop
  | non {n : Nat} : Pd n .non
  | bl {n : Nat} (b : Bool) : Pd n (.bl b)
  | int {n : Nat} (i : Int) : Pd n (.int i)
  | str {n : Nat} {x : Str} (h : PyData.strOk x = true) : Pd n (.str x)
  | lst {n : Nat} {xs : List D} (h : ∀ d ∈ xs, Pd n d) : Pd (n + 1) (.lst xs)
  | tup {n : Nat} {xs : List D} (h : ∀ d ∈ xs, Pd n d) : Pd (n + 1) (.tup xs)
theorem Pd.up {n : Nat} {d : D} (h : Pd n d) : ∀ {m : Nat}, n ≤ m → Pd m d := by
  induction h with
  | non => intro m _; exact .non
  | bl b => intro m _; exact .bl b
  | int b => intro m _; exact .int b
  | str h => intro m _; exact .str h
  | lst h ih => intro m hm; cases m with
    | zero => omega
    | succ m => exact .lst fun d hd => ih d hd (by omega)
  | tup h ih => intro m hm; cases m with
    | zero => omega
    | succ m => exact .tup fun d hd => ih d hd (by omega)
/-- as the library has it -/
def Lay (n : Nat) (d : D) : Prop := ∃ p, toP d = some p ∧ p.canLay0 = true ∧ p.depth ≤ n
theorem lays {n : Nat} : ∀ {xs : List D}, (∀ d ∈ xs, Lay n d) → ∃ ps, toPs xs = some ps ∧ PyData.canLayAll0 ps = true ∧ PyData.depthAll ps ≤ n
  | [], _ => ⟨[], by simp only [toPs], by simp only [PyData.canLayAll0], by simp only [PyData.depthAll]; omega⟩
  | x :: xs, h => by
    obtain ⟨p, h1, h2, h3⟩ := h x List.mem_cons_self
    obtain ⟨ps, k1, k2, k3⟩ := lays fun d hd => h d (List.mem_cons_of_mem _ hd)
    exact ⟨p :: ps, by simp only [toPs, h1, k1], by simp only [PyData.canLayAll0, h2, k2, Bool.and_self], by simp only [PyData.depthAll]; omega⟩
theorem Pd.lay {n : Nat} {d : D} (h : Pd n d) : Lay n d := by
  induction h with
  | non => exact ⟨.none, rfl, rfl, by simp [PyData.depth]⟩
  | bl b => exact ⟨.bool b, rfl, rfl, by simp [PyData.depth]⟩
  | int i => exact ⟨.int i, rfl, rfl, by simp [PyData.depth]⟩
  | str h => exact ⟨.str _, rfl, by simp only [PyData.canLay0]; exact h, by simp [PyData.depth]⟩
  | lst h ih =>
    obtain ⟨ps, a, b, c⟩ := lays ih
    exact ⟨.list ps, by simp only [toP, a], by simp only [PyData.canLay0]; exact b, by simp only [PyData.depth]; omega⟩
  | tup h ih =>
    obtain ⟨ps, a, b, c⟩ := lays ih
    exact ⟨.tuple ps, by simp only [toP, a], by simp only [PyData.canLay0]; exact b, by simp only [PyData.depth]; omega⟩
mutual
theorem eqv_toP : ∀ (a b : D) (p q : PyData), toP a = some p → toP b = some q → PyData.eqv p q = eqv a b
  | a, b, p, q, ha, hb => by
    cases a with
    | lst xs =>
      simp only [toP] at ha
      cases q1 : toPs xs with
      | none => rw [q1] at ha; cases ha
      | some ps =>
        rw [q1] at ha; cases ha
        cases b with
        | lst ys =>
          simp only [toP] at hb
          cases q2 : toPs ys with
          | none => rw [q2] at hb; cases hb
          | some qs =>
            rw [q2] at hb; cases hb
            simp only [PyData.eqv, eqv]
            exact eqvs_toP xs ys ps qs q1 q2
        | tup ys =>
          simp only [toP] at hb
          cases q2 : toPs ys with
          | none => rw [q2] at hb; cases hb
          | some qs => rw [q2] at hb; cases hb; simp only [PyData.eqv, eqv]
        | _ => simp only [toP] at hb; cases hb <;> simp only [PyData.eqv, eqv]
    | tup xs =>
      simp only [toP] at ha
      cases q1 : toPs xs with
      | none => rw [q1] at ha; cases ha
      | some ps =>
        rw [q1] at ha; cases ha
        cases b with
        | tup ys =>
          simp only [toP] at hb
          cases q2 : toPs ys with
          | none => rw [q2] at hb; cases hb
          | some qs =>
            rw [q2] at hb; cases hb
            simp only [PyData.eqv, eqv]
            exact eqvs_toP xs ys ps qs q1 q2
        | lst ys =>
          simp only [toP] at hb
          cases q2 : toPs ys with
          | none => rw [q2] at hb; cases hb
          | some qs => rw [q2] at hb; cases hb; simp only [PyData.eqv, eqv]
        | _ => simp only [toP] at hb; cases hb <;> simp only [PyData.eqv, eqv]
    | _ =>
      simp only [toP] at ha
      cases ha <;> (cases b with
        | lst ys =>
          simp only [toP] at hb
          cases q2 : toPs ys with
          | none => rw [q2] at hb; cases hb
          | some qs => rw [q2] at hb; cases hb; simp only [PyData.eqv, eqv]
        | tup ys =>
          simp only [toP] at hb
          cases q2 : toPs ys with
          | none => rw [q2] at hb; cases hb
          | some qs => rw [q2] at hb; cases hb; simp only [PyData.eqv, eqv]
        | _ => simp only [toP] at hb; cases hb <;> simp only [PyData.eqv, eqv])
theorem eqvs_toP : ∀ (xs ys : List D) (ps qs : List PyData), toPs xs = some ps → toPs ys = some qs → PyData.eqvAll ps qs = eqvs xs ys
  | [], ys, ps, qs, hx, hy => by
    simp only [toPs] at hx; cases hx
    cases ys with
    | nil => simp only [toPs] at hy; cases hy; simp only [PyData.eqvAll, eqvs]
    | cons y ys =>
      simp only [toPs] at hy
      cases q1 : toP y with
      | none => rw [q1] at hy; cases hy
      | some p => cases q2 : toPs ys with
        | none => rw [q1, q2] at hy; cases hy
        | some qs' => rw [q1, q2] at hy; cases hy; simp only [PyData.eqvAll, eqvs]
  | x :: xs, ys, ps, qs, hx, hy => by
    simp only [toPs] at hx
    cases p1 : toP x with
    | none => rw [p1] at hx; cases hx
    | some p => cases p2 : toPs xs with
      | none => rw [p1, p2] at hx; cases hx
      | some ps' =>
        rw [p1, p2] at hx; cases hx
        cases ys with
        | nil => simp only [toPs] at hy; cases hy; simp only [PyData.eqvAll, eqvs]
        | cons y ys =>
          simp only [toPs] at hy
          cases q1 : toP y with
          | none => rw [q1] at hy; cases hy
          | some q => cases q2 : toPs ys with
            | none => rw [q1, q2] at hy; cases hy
            | some qs' =>
              rw [q1, q2] at hy; cases hy
              simp only [PyData.eqvAll, eqvs]
              rw [eqv_toP x y p q p1 q1, eqvs_toP xs ys ps' qs' p2 q2]
end
section
variable {ms : MS}
theorem pd_toP {d : D} {p : PyData} (h : toP d = some p) : pdOf ms d = some p := by
  cases d <;> first | exact h | (simp only [toP] at h; cases h; done)
theorem eqP_pd {a b : D} (ha : Pd 60 a) (hb : Pd 60 b) : eqP ms a b = some (eqv a b) := by
  obtain ⟨p, h1, h2, h3⟩ := ha.lay
  obtain ⟨q, k1, k2, k3⟩ := hb.lay
  unfold eqP
  rw [pd_toP h1, pd_toP k1]
  simp only
  rw [if_pos ⟨by simp only [SeqAt.shaped, h2, Bool.true_and, decide_eq_true_eq]; omega, by simp only [SeqAt.shaped, k2, Bool.true_and, decide_eq_true_eq]; omega⟩, eqv_toP a b p q h1 k1]
theorem eqB_pd {a b : D} (ha : Pd 60 a) (hb : Pd 60 b) : eqB ms a b = some (eqv a b) := by
  have h := eqP_pd (ms := ms) ha hb
  cases a with
  | int i => cases b with
    | int j => simp only [eqB, eqv]; congr 1
    | _ => exact h
  | str i => cases b with
    | str j => simp only [eqB, eqv]; congr 1
    | _ => exact h
  | bl i => cases b with
    | bl j => simp only [eqB, eqv]; congr 1
    | _ => exact h
  | _ => exact h
theorem eq_pd {a b : D} (ha : Pd 60 a) (hb : Pd 60 b) : eqD ms a b = some (.bl (eqv a b)) := by
  unfold eqD; rw [eqB_pd ha hb]; rfl
theorem ne_pd {a b : D} (ha : Pd 60 a) (hb : Pd 60 b) : neD ms a b = some (.bl (!eqv a b)) := by
  unfold neD; rw [eqB_pd ha hb]; rfl
end
theorem eqvs_refl : ∀ {xs : List D}, (∀ d ∈ xs, eqv d d = true) → eqvs xs xs = true
  | [], _ => by simp only [eqvs]
  | x :: xs, h => by simp only [eqvs, h x List.mem_cons_self, eqvs_refl fun d hd => h d (List.mem_cons_of_mem _ hd), Bool.and_self]
theorem Pd.eqv_refl {n : Nat} {d : D} (h : Pd n d) : eqv d d = true := by
  induction h with
  | non => rfl
  | bl b => simp only [eqv, beq_self_eq_true]
  | int b => simp only [eqv, beq_self_eq_true]
  | str h => simp only [eqv, beq_self_eq_true]
  | lst h ih => simp only [eqv]; exact eqvs_refl ih
  | tup h ih => simp only [eqv]; exact eqvs_refl ih
theorem eqvs_ints : ∀ (xs ys : List Int), eqvs (xs.map D.int) (ys.map D.int) = decide (xs = ys)
  | [], [] => by simp [eqvs]
  | [], y :: ys => by simp [eqvs]
  | x :: xs, [] => by simp [eqvs]
  | x :: xs, y :: ys => by
    simp only [List.map_cons, eqvs, eqv, eqvs_ints xs ys]
    by_cases h : x = y <;> simp [h]
theorem Pd.ints {n : Nat} (xs : List Int) : ∀ d ∈ xs.map D.int, Pd n d := fun d h => by
  obtain ⟨i, _, rfl⟩ := List.mem_map.mp h
  exact .int i
theorem Pd.tints {n : Nat} (xs : List Int) : Pd (n + 1) (.tup (xs.map D.int)) := .tup (Pd.ints xs)
theorem Pd.nil {n : Nat} : ∀ d ∈ ([] : List D), Pd n d := fun _ h => by cases h
theorem Pd.cons {n : Nat} {x : D} {xs : List D} (h : Pd n x) (t : ∀ d ∈ xs, Pd n d) : ∀ d ∈ x :: xs, Pd n d := fun d hd => by
  rcases List.mem_cons.mp hd with e | hd
  · subst e; exact h
  · exact t d hd
/-! ### repr -/
/-- plain data of a depth n whose text has at most b signs -/
def Rk (b n : Nat) (d : D) : Prop := ∃ p, toP d = some p ∧ p.canLay0 = true ∧ p.depth ≤ n ∧ p.showable = true ∧ p.shown.length ≤ b
def reprS (d : D) : Str := match toP d with
  | some p => p.shown
  | none => ""
theorem Rk.up {b n b' n' : Nat} {d : D} (h : Rk b n d) (hb : b ≤ b') (hn : n ≤ n') : Rk b' n' d := by
  obtain ⟨p, h1, h2, h3, h4, h5⟩ := h
  exact ⟨p, h1, h2, by omega, h4, by omega⟩
theorem Rk.non : Rk 4 0 .non := ⟨.none, rfl, rfl, by simp [PyData.depth], rfl, by simp only [PyData.shown]; decide⟩
theorem Rk.bl (b : Bool) : Rk 5 0 (.bl b) := ⟨.bool b, rfl, rfl, by simp [PyData.depth], rfl, by cases b <;> simp only [PyData.shown] <;> decide⟩
theorem int_len {i : Int} {e : Nat} (he : 0 < e) (h : i.natAbs < 10 ^ e) : (toString i : Str).length ≤ e + 1 := by
  have hl : (toString i : String).length ≤ e + 1 := by
    cases i with
    | ofNat m =>
      have : (Nat.repr m).length ≤ e := (Nat.length_repr_le_iff he).mpr h
      show (Nat.repr m).length ≤ e + 1
      omega
    | negSucc m =>
      have : (Nat.repr (m + 1)).length ≤ e := (Nat.length_repr_le_iff he).mpr h
      show ("-" ++ Nat.repr (m + 1)).length ≤ e + 1
      rw [String.length_append]
      have : ("-" : String).length = 1 := rfl
      omega
  have : (toString i : Str).length = (toString i : String).length := by
    show (Str.ofString (toString i)).length = _
    exact ofString_length _
  omega
theorem Rk.int {i : Int} {e : Nat} (he : 0 < e) (h : i.natAbs < 10 ^ e) (h5 : e ≤ 500) : Rk (e + 1) 0 (.int i) := by
  refine ⟨.int i, rfl, rfl, by simp [PyData.depth], ?_, by simp only [PyData.shown]; exact int_len he h⟩
  simp only [PyData.showable, decide_eq_true_eq]
  by_cases z : i.natAbs = 0
  · rw [z]; decide
  · rw [Nat.log2_lt z]
    refine Nat.lt_of_lt_of_le h ?_
    calc 10 ^ e ≤ 10 ^ 500 := Nat.pow_le_pow_right (by decide) h5
      _ ≤ 2 ^ 1920 := by decide +kernel
theorem Rk.str {x : Str} {b : Nat} (h1 : PyData.strOk x = true) (h2 : (reprText x).length ≤ b) : Rk b 0 (.str x) := ⟨.str x, rfl, by simp only [PyData.canLay0]; exact h1, by simp [PyData.depth], rfl, by simp only [PyData.shown]; exact h2⟩
theorem rks {b n : Nat} : ∀ {xs : List D}, (∀ d ∈ xs, Rk b n d) → ∃ ps, toPs xs = some ps ∧ PyData.canLayAll0 ps = true ∧ PyData.depthAll ps ≤ n ∧ PyData.showableAll ps = true ∧ piled (PyData.shownAll ps) ≤ (b + 2) * xs.length
  | [], _ => ⟨[], by simp only [toPs], by simp only [PyData.canLayAll0], by simp only [PyData.depthAll]; omega, by simp only [PyData.showableAll], by simp [PyData.shownAll, piled]⟩
  | x :: xs, h => by
    obtain ⟨p, h1, h2, h3, h4, h5⟩ := h x List.mem_cons_self
    obtain ⟨ps, k1, k2, k3, k4, k5⟩ := rks fun d hd => h d (List.mem_cons_of_mem _ hd)
    refine ⟨p :: ps, by simp only [toPs, h1, k1], by simp only [PyData.canLayAll0, h2, k2, Bool.and_self], by simp only [PyData.depthAll]; omega, by simp only [PyData.showableAll, h4, k4, Bool.and_self], ?_⟩
    simp only [PyData.shownAll, piled_cons, List.length_cons]
    rw [Nat.mul_succ]
    omega
theorem text_le : ∀ (ts : List Str) (k : Nat) (acc : Str), (textFrom k acc ts).length ≤ acc.length + piled ts
  | [], k, acc => by simp [textFrom, piled]
  | t :: ts, k, acc => by
    have ih := text_le ts (k + 1) (acc ++ (if k > 0 then ", " else "" : String) ++ t)
    have e : (((if k > 0 then ", " else "" : String) : Str)).length ≤ 2 := by split <;> decide
    rw [strLen_append, strLen_append] at ih
    rw [piled_cons]
    show (textFrom (k + 1) (acc ++ (if k > 0 then ", " else "" : String) ++ t) ts).length ≤ _
    omega
theorem list_le (ts : List Str) : (listText ts).length ≤ 2 + piled ts := by
  unfold listText
  have := text_le ts 0 "["
  have e1 : (("[" : String) : Str).length = 1 := rfl
  have e2 : (("]" : String) : Str).length = 1 := rfl
  rw [strLen_append, e2]
  rw [e1] at this
  omega
theorem tup_le (ts : List Str) : (tupleText ts).length ≤ 3 + piled ts := by
  unfold tupleText
  have e1 : (("(" : String) : Str).length = 1 := rfl
  have e3 : (((if ts.length == 1 then ",)" else ")" : String) : Str)).length ≤ 2 := by split <;> decide
  rw [strLen_append, strLen_append, e1]
  by_cases h : ts = []
  · subst h
    have e4 : (Str.join ", " []).length = 0 := rfl
    rw [e4]; omega
  · have := join_length_add ts h
    omega
theorem Rk.lst {b n : Nat} {xs : List D} (h : ∀ d ∈ xs, Rk b n d) : Rk (2 + (b + 2) * xs.length) (n + 1) (.lst xs) := by
  obtain ⟨ps, k1, k2, k3, k4, k5⟩ := rks h
  refine ⟨.list ps, by simp only [toP, k1], by simp only [PyData.canLay0]; exact k2, by simp only [PyData.depth]; omega, by simp only [PyData.showable]; exact k4, ?_⟩
  have := list_le (PyData.shownAll ps)
  simp only [PyData.shown]; omega
theorem Rk.tup {b n : Nat} {xs : List D} (h : ∀ d ∈ xs, Rk b n d) : Rk (3 + (b + 2) * xs.length) (n + 1) (.tup xs) := by
  obtain ⟨ps, k1, k2, k3, k4, k5⟩ := rks h
  refine ⟨.tuple ps, by simp only [toP, k1], by simp only [PyData.canLay0]; exact k2, by simp only [PyData.depth]; omega, by simp only [PyData.showable]; exact k4, ?_⟩
  have := tup_le (PyData.shownAll ps)
  simp only [PyData.shown]; omega
theorem Rk.nil {b n : Nat} : ∀ d ∈ ([] : List D), Rk b n d := fun _ h => by cases h
theorem Rk.cons {b n b' n' : Nat} {x : D} {xs : List D} (h : Rk b' n' x) (hb : b' ≤ b) (hn : n' ≤ n) (t : ∀ d ∈ xs, Rk b n d) : ∀ d ∈ x :: xs, Rk b n d := fun d hd => by
  rcases List.mem_cons.mp hd with e | hd
  · subst e; exact h.up hb hn
  · exact t d hd
section
variable {ms : MS}
theorem reprD_eq {d : D} {p : PyData} (hp : pdOf ms d = some p) (h2 : p.canLay0 = true) (h3 : p.depth ≤ 60) (h4 : p.showable = true) (h5 : p.shown.length ≤ 16777216) : reprD ms [d] = some (.str p.shown) := by
  show (match pdOf ms d with
    | some p => if SeqAt.shaped p = true ∧ p.showable = true ∧ p.shown.length ≤ 16777216 then some (D.str p.shown) else none
    | none => none) = _
  rw [hp]
  simp only
  rw [if_pos ⟨by simp only [SeqAt.shaped, h2, Bool.true_and, decide_eq_true_eq]; omega, h4, h5⟩]
theorem repr_ok {d : D} {b n : Nat} (h : Rk b n d) (hb : b ≤ 16777216) (hn : n ≤ 60) : reprD ms [d] = some (.str (reprS d)) := by
  obtain ⟨p, h1, h2, h3, h4, h5⟩ := h
  rw [reprD_eq (pd_toP h1) h2 (by omega) h4 (by omega)]
  unfold reprS
  rw [h1]
theorem repr_loc {m : Nat} {xs : List D} {b n : Nat} (hm : ms[m]? = some (.lst xs)) (h : Rk b n (.lst xs)) (hb : b ≤ 16777216) (hn : n ≤ 60) : reprD ms [.loc m] = some (.str (reprS (.lst xs))) := by
  obtain ⟨p, h1, h2, h3, h4, h5⟩ := h
  have e : pdOf ms (.loc m) = some p := by
    simp only [toP] at h1
    simp only [pdOf, lstOf, hm]
    exact h1
  rw [reprD_eq e h2 (by omega) h4 (by omega)]
  unfold reprS
  rw [h1]
theorem ne_str_same {x : Str} : neD ms (.str x) (.str x) = some (.bl false) := by
  have : neD ms (.str x) (.str x) = some (.bl (!decide (x = x))) := rfl
  rw [this]; simp
theorem Pd.loc {m : Nat} {xs : List D} (hm : ms[m]? = some (.lst xs)) {b : D} (ha : Pd 60 (.lst xs)) (hb : Pd 60 b) : eqD ms (.loc m) b = some (.bl (eqv (.lst xs) b)) ∧ neD ms (.loc m) b = some (.bl (!eqv (.lst xs) b)) := by
  obtain ⟨p, h1, h2, h3⟩ := ha.lay
  obtain ⟨q, k1, k2, k3⟩ := hb.lay
  have e : pdOf ms (.loc m) = some p := by
    simp only [toP] at h1
    simp only [pdOf, lstOf, hm]
    exact h1
  have z : eqB ms (.loc m) b = some (eqv (.lst xs) b) := by
    show eqP ms (.loc m) b = _
    unfold eqP
    rw [e, pd_toP k1]
    simp only
    rw [if_pos ⟨by simp only [SeqAt.shaped, h2, Bool.true_and, decide_eq_true_eq]; omega, by simp only [SeqAt.shaped, k2, Bool.true_and, decide_eq_true_eq]; omega⟩, eqv_toP _ b p q h1 k1]
  unfold eqD neD
  rw [z]
  exact ⟨rfl, rfl⟩
theorem cutF_top {F : SF} {ds : List D} {m : MS} {b : Bool} (h : F ds [] = .ok (.bl b) m) : cutF F ds [] = .ok (.bl b) [] := by
  have := cutF_same (ms := []) m (by simpa using h) (show locsLt ([] : MS).length (.bl b) = true from rfl)
  exact this
theorem slc_tup {xs : List D} {lo hi : Option Int} : slcD ms (.tup xs) lo hi = some (.tup (cutL xs lo hi)) := rfl
theorem slc_lst {xs : List D} {lo hi : Option Int} : slcD ms (.lst xs) lo hi = some (.lst (cutL xs lo hi)) := rfl
end
end U

/-! tables of all kinds -/
namespace U
open PySem L2 DL
section
variable {ms : MS} {env : DE}
theorem cutF_err {F : SF} {ds : List D} {c : Nat} {v : D} (g : MS) (h : F ds ms = .err c v (ms ++ g)) (hd : locsLt ms.length v = true) : cutF F ds ms = .err c v ms := by
  unfold cutF
  rw [h]
  simp only
  have k : Kept ms (ms ++ g) := ⟨by rw [List.length_append]; omega, fun n o ho => ⟨o, by rw [List.getElem?_append_left (List.getElem?_eq_some_iff.mp ho).1]; exact ho, .inl rfl⟩⟩
  rw [if_pos ⟨k, hd⟩, List.take_left]
theorem tryF_hit {hd : Nat → Option Bool} {i j k : Nat} {wr : Bool} {d : D} (h : hd k = some true) (hi : i < env.length) : kTryF hd k i j wr (.err k d env ms) = .nx ((env.set j (some (wrD wr d))).set i none) ms := by
  simp only [kTryF, h, hi, and_self, if_true]
/-- the first that is not as told -/
def firstBad (xs : List (Str × Bool)) : D := match xs.filter (fun x => !x.2) with
  | [] => .non
  | (x, _) :: _ => .str x
theorem wrong_gen {xs : List (Str × Bool)} {p0 p1 p2 p3 p5 p6 p7 p8 p9 p10 p11 : Option D} (hl : xs.length ≤ 100) (hs : ∀ x ∈ xs, PyData.strOk x.1 = true) : wpEnd [p0, p1, p2, p3, some (.loc ms.length), p5, p6, p7, p8, p9, p10, p11] (ms ++ [.lst (xs.map fun x => .tup [.str x.1, .bl x.2])]) = .ret (firstBad xs) (ms ++ [.dead]) := by
  have fz : sItems (sFrz 4) [p0, p1, p2, p3, some (.loc ms.length), p5, p6, p7, p8, p9, p10, p11] (ms ++ [.lst (xs.map fun x => .tup [.str x.1, .bl x.2])]) = .ok (xs.map fun x => .tup [.str x.1, .bl x.2]) (ms ++ [.dead]) := by
    simp [sFrz, itemsD]
  have lc := sLcG_pure (mu := false) (ms := ms ++ [.dead]) (vs := [10, 11]) (gt := gTu 2 (gsCons (gNm 10) (gsCons (gNm 11) gsNil))) (tt := sNotT (sTru (sVar 11))) (fe := sVar 10) falseP (fun d => match d with | .tup [x, _] => x | d => d) fz (fun d hd acc => by
    obtain ⟨x, _, rfl⟩ := List.mem_map.mp hd
    refine ⟨_, rfl, ?_, fun z => ?_⟩
    · simp [falseP, tru_bl, wipeD]
    · simp [wipeD]) (by rw [List.length_map]; omega)
  have e : ((xs.map fun x => D.tup [.str x.1, .bl x.2]).filter falseP).map (fun d => match d with | .tup [x, _] => x | d => d) = (xs.filter fun x => !x.2).map fun x => D.str x.1 := by
    rw [List.filter_map, List.map_map]
    rfl
  rw [e] at lc
  have ls : ∀ k, locsLts k ((xs.filter fun x => !x.2).map fun x => D.str x.1) = true := fun k => locs_all fun d hd => by
    obtain ⟨x, _, rfl⟩ := List.mem_map.mp hd
    rfl
  have lc := cutE_kept (m := ms ++ [.dead]) (g := [.dead]) (d := .lst ((xs.filter fun x => !x.2).map fun x => D.str x.1)) lc (by simp) (fun k o ho => by
    by_cases hk : k < ms.length
    · rw [List.getElem?_append_left hk] at ho
      exact ⟨o, by rw [List.getElem?_append_left hk]; exact ho, .inl rfl⟩
    · refine ⟨.dead, ?_, .inr rfl⟩
      have h1 := (List.getElem?_eq_some_iff.mp ho).1
      rw [List.length_append] at h1
      have h2 : k = ms.length := by simp only [List.length_cons, List.length_nil] at h1; omega
      subst h2
      simp) (by simp only [locsLt]; exact ls _)
  unfold firstBad
  cases q : xs.filter fun x => !x.2 with
  | nil =>
    rw [q] at lc
    simp only [List.map_nil] at lc
    have ne : ∀ m : MS, neD m (.lst []) (.lst []) = some (.bl false) := fun m => by kernel_rfl
    simp only [wpEnd, runD_ap, List.map_cons, List.map_nil, List.length_cons, List.length_nil, Nat.reduceAdd, Nat.reduceSub, List.replicate, List.cons_append, List.nil_append, sSeq_ap, sAsg_ap, sBin_ap, sCst_ap, kBin1_ok, sCall_ap, sCons_ap, sVar_ap, List.getElem?_cons_zero, List.getElem?_cons_succ, vR_some, kC1_ok, sNil_ap, kC2_ok, kCall_ok, ↓reduceIte, kBin2_ok, optR_some, kAsg_ok, gNm_ap, asgO_some, List.set_cons_succ, List.set_cons_zero, next_nx, next_ret, next_err, sIf_ap, sTst_ap, kTst_ok, kIf_f, kIf_t, sSkip_ap, sBif_ap, kBif_ok, sPar_ap, sTup_ap, kTup_ok, Nat.reduceLeDiff, kPar_ok, setAll, sRet_ap, kRet_ok, out_ret, out_nx, out_err, gTu_tup, gTu_lst, gsC_nm, gsC_tu, gsK_some, gsN, sNewL_ap, kNewL_ok, sAppend_ap, kApp0_some, kApp_ok, sAndV_ap, kAndV_ok, kAndV2_t, kAndV2_f, sOrV_ap, kOrV_ok, kOrV2_t, kOrV2_f, tru_bl, sIte_ap, kIte_t, kIte_f, sLst_ap, kLst_ok, sFor_ap, kFor_ok, sItems_ap, kItems_ok, itemsD, sNeg_ap, kNeg_ok, sSlc_ap, kS1_ok, kS2_ok, kS3_ok, sPart_ap, kPart_ok, sNoPart_ap, sOrT_ap, kOrT_f, kOrT_t, sAndT_ap, kAndT_t, kAndT_f, sNotT_ap, kNotT_ok, sNotV_ap, kNotV_ok, kNotV2_ok, sTru_ap, kTru_ok, sIsi_ap, kIsi_ok, sCallK_ap, kK1_ok, kK2_ok, and_self, sDrop_ap, kDrop_ok, sRetN_ap, sChain_ap, kCh1_ok, kCh2_ok, kCh3_t, kCh3_f, kCh4_ok, sTab_ap, kTab_ok, sAug_ap, kAug0_some, kAug1_ok, augO_some, iadd_int, isub_int, Bool.not_true, Bool.not_false, add_int, sub_int, eq_int, ne_int, lt_int, le_int, gt_int, ge_int, eq_str, ne_str, len_lst, len_tup, sRange1_ap, kRange1_ok, eq_self, decide_true, decide_false, eq_self_iff_true, pm_nil, pm_cons, sRev_ap, kRev_ok, rev_tup, rev_lst, sRaise_ap, kRaise_ok, sTry_ap, kTry_nx, kTry_ret, sTryF_ap, kTryF_nx, kAsg_err, kBin1_err, kBin2_err, kCall_err, kC1_err, kC2_err, kRet_err, kDrop_err, kIf_err, sLc, lc, ne]
  | cons y ys =>
    rw [q] at lc
    simp only [List.map_cons] at lc
    obtain ⟨y, b⟩ := y
    have sub : ∀ x ∈ (y, b) :: ys, PyData.strOk x.1 = true := fun x hx => hs x ((List.mem_filter (p := fun x => !x.2)).mp (by rw [q]; exact hx)).1
    have pd : ∀ d ∈ (ys.map fun x => D.str x.1), Pd 0 d := fun d hd => by
      obtain ⟨x, hx, rfl⟩ := List.mem_map.mp hd
      exact .str (sub x (List.mem_cons_of_mem _ hx))
    have py : Pd 0 (.str y) := .str (sub (y, b) List.mem_cons_self)
    generalize (ys.map fun x => D.str x.1) = Y at lc pd
    have ne : ∀ m : MS, neD m (.lst (.str y :: Y)) (.lst []) = some (.bl true) := fun m => by
      rw [ne_pd (Pd.up (n := 1) (.lst (Pd.cons py pd)) (by omega)) (Pd.up (n := 1) (.lst Pd.nil) (by omega))]
      simp [eqv, eqvs]
    have at0 : ∀ m : MS, atD m (.lst (.str y :: Y)) (.int 0) = some (.str y) := fun m => by
      show atI (D.str y :: Y) 0 = _
      obtain ⟨d, e1, e2⟩ := atI_nat (xs := D.str y :: Y) (i := 0) (by omega) (by simp only [List.length_cons]; omega)
      rw [e1]
      simpa using e2.symm
    simp only [wpEnd, runD_ap, List.map_cons, List.map_nil, List.length_cons, List.length_nil, Nat.reduceAdd, Nat.reduceSub, List.replicate, List.cons_append, List.nil_append, sSeq_ap, sAsg_ap, sBin_ap, sCst_ap, kBin1_ok, sCall_ap, sCons_ap, sVar_ap, List.getElem?_cons_zero, List.getElem?_cons_succ, vR_some, kC1_ok, sNil_ap, kC2_ok, kCall_ok, ↓reduceIte, kBin2_ok, optR_some, kAsg_ok, gNm_ap, asgO_some, List.set_cons_succ, List.set_cons_zero, next_nx, next_ret, next_err, sIf_ap, sTst_ap, kTst_ok, kIf_f, kIf_t, sSkip_ap, sBif_ap, kBif_ok, sPar_ap, sTup_ap, kTup_ok, Nat.reduceLeDiff, kPar_ok, setAll, sRet_ap, kRet_ok, out_ret, out_nx, out_err, gTu_tup, gTu_lst, gsC_nm, gsC_tu, gsK_some, gsN, sNewL_ap, kNewL_ok, sAppend_ap, kApp0_some, kApp_ok, sAndV_ap, kAndV_ok, kAndV2_t, kAndV2_f, sOrV_ap, kOrV_ok, kOrV2_t, kOrV2_f, tru_bl, sIte_ap, kIte_t, kIte_f, sLst_ap, kLst_ok, sFor_ap, kFor_ok, sItems_ap, kItems_ok, itemsD, sNeg_ap, kNeg_ok, sSlc_ap, kS1_ok, kS2_ok, kS3_ok, sPart_ap, kPart_ok, sNoPart_ap, sOrT_ap, kOrT_f, kOrT_t, sAndT_ap, kAndT_t, kAndT_f, sNotT_ap, kNotT_ok, sNotV_ap, kNotV_ok, kNotV2_ok, sTru_ap, kTru_ok, sIsi_ap, kIsi_ok, sCallK_ap, kK1_ok, kK2_ok, and_self, sDrop_ap, kDrop_ok, sRetN_ap, sChain_ap, kCh1_ok, kCh2_ok, kCh3_t, kCh3_f, kCh4_ok, sTab_ap, kTab_ok, sAug_ap, kAug0_some, kAug1_ok, augO_some, iadd_int, isub_int, Bool.not_true, Bool.not_false, add_int, sub_int, eq_int, ne_int, lt_int, le_int, gt_int, ge_int, eq_str, ne_str, len_lst, len_tup, sRange1_ap, kRange1_ok, eq_self, decide_true, decide_false, eq_self_iff_true, pm_nil, pm_cons, sRev_ap, kRev_ok, rev_tup, rev_lst, sRaise_ap, kRaise_ok, sTry_ap, kTry_nx, kTry_ret, sTryF_ap, kTryF_nx, kAsg_err, kBin1_err, kBin2_err, kCall_err, kC1_err, kC2_err, kRet_err, kDrop_err, kIf_err, sLc, lc, ne, at0]
/-! ### the kinds of things -/
inductive P0 : D → Prop
  | non : P0 .non
  | bl (b : Bool) : P0 (.bl b)
  | int (i : Int) : P0 (.int i)
  | str {x : Str} (h : PyData.strOk x = true) : P0 (.str x)
inductive P1 (L : Nat) : D → Prop
  | up {d : D} (h : P0 d) : P1 L d
  | tup {xs : List D} (hl : xs.length ≤ L) (h : ∀ d ∈ xs, P0 d) : P1 L (.tup xs)
  | lst {xs : List D} (hl : xs.length ≤ L) (h : ∀ d ∈ xs, P0 d) : P1 L (.lst xs)
inductive P2 (L : Nat) : D → Prop
  | up {d : D} (h : P1 L d) : P2 L d
  | tup {xs : List D} (hl : xs.length ≤ L) (h : ∀ d ∈ xs, P1 L d) : P2 L (.tup xs)
  | lst {xs : List D} (hl : xs.length ≤ L) (h : ∀ d ∈ xs, P1 L d) : P2 L (.lst xs)
  | dic : P2 L (.dic [] [])
theorem P0.pd {d : D} (h : P0 d) : Pd 0 d := by
  cases h with
  | non => exact .non
  | bl b => exact .bl b
  | int b => exact .int b
  | str h => exact .str h
theorem P1.pd {L : Nat} {d : D} (h : P1 L d) : Pd 1 d := by
  cases h with
  | up h => exact h.pd.up (by omega)
  | tup _ h => exact .tup fun d hd => (h d hd).pd
  | lst _ h => exact .lst fun d hd => (h d hd).pd
theorem P0.flat {d : D} (h : P0 d) : flat d = true := by cases h <;> rfl
theorem P1.flat {L : Nat} {d : D} (h : P1 L d) : U.flat d = true := by
  cases h with
  | up h => exact h.flat
  | _ => rfl
theorem P2.flat {L : Nat} {d : D} (h : P2 L d) : U.flat d = true := by
  cases h with
  | up h => exact h.flat
  | _ => rfl
theorem P0.locs {d : D} (h : P0 d) (k : Nat) : locsLt k d = true := by cases h <;> rfl
theorem P1.locs {L : Nat} {d : D} (h : P1 L d) (k : Nat) : locsLt k d = true := by
  cases h with
  | up h => exact h.locs k
  | tup _ h => simp only [locsLt]; exact locs_all fun d hd => (h d hd).locs k
  | lst _ h => simp only [locsLt]; exact locs_all fun d hd => (h d hd).locs k
theorem P2.locs {L : Nat} {d : D} (h : P2 L d) (k : Nat) : locsLt k d = true := by
  cases h with
  | up h => exact h.locs k
  | tup _ h => simp only [locsLt]; exact locs_all fun d hd => (h d hd).locs k
  | lst _ h => simp only [locsLt]; exact locs_all fun d hd => (h d hd).locs k
  | dic => rfl
theorem P1.to {L M : Nat} {d : D} (h : P1 L d) (hm : L ≤ M) : P1 M d := by
  cases h with
  | up h => exact .up h
  | tup hl h => exact .tup (by omega) h
  | lst hl h => exact .lst (by omega) h
theorem P2.to {L M : Nat} {d : D} (h : P2 L d) (hm : L ≤ M) : P2 M d := by
  cases h with
  | up h => exact .up (h.to hm)
  | tup hl h => exact .tup (by omega) fun d hd => (h d hd).to hm
  | lst hl h => exact .lst (by omega) fun d hd => (h d hd).to hm
  | dic => exact .dic
theorem isi_tup {xs : List D} : isiB "tuple" ms (.tup xs) = some true := by kernel_rfl
theorem isi_notup {d : D} (hf : flat d = true) (h : ∀ xs, d ≠ .tup xs) : isiB "tuple" ms d = some false := by
  cases d with
  | tup xs => exact absurd rfl (h xs)
  | _ => first | (cases hf; done) | kernel_rfl
theorem isi_str {x : Str} : isiB "str" ms (.str x) = some true := by kernel_rfl
theorem isi_nostr {d : D} (hf : flat d = true) (h : ∀ xs, d ≠ .str xs) : isiB "str" ms d = some false := by
  cases d with
  | str xs => exact absurd rfl (h xs)
  | _ => first | (cases hf; done) | kernel_rfl
theorem in_ints {i : Int} : ∀ {xs : List Int}, inD ms (.int i) (.tup (xs.map D.int)) = some (.bl (xs.any fun z => decide (z = i))) := fun {xs} => by
  have fl : ∀ xs : List Int, flDs (xs.map D.int) = some (xs.map V.int) := fun xs => by
    induction xs with
    | nil => rfl
    | cons x xs ih => simp only [List.map_cons, flDs, flD, ih]
  have : inB ms (.int i) (.tup (xs.map D.int)) = some (inV (.int i) (xs.map V.int)) := by
    simp only [inB, inS, inF, seqOf, flD, fl]
  unfold inD
  rw [this]
  simp only [inV, List.any_map, Function.comp_def, eqV, Option.map_some]
  congr 2
  try (congr 1; funext z; by_cases e : z = i <;> simp [e])
/-! ### parts of tables -/
def durB (sizes : List Int) : D → Bool
  | .tup xs => (sizes.any fun z => decide (z = (xs.length : Int))) && xs.all fun d => wholeB d 1 99999
  | _ => false
theorem durs_gen {L : Nat} {d : D} {sizes : List Int} (h : P1 L d) (hL : L ≤ 1000) : F_are_durations [d, .tup (sizes.map D.int)] ms = .ok (.bl (durB sizes d)) ms := by
  by_cases ht : ∃ xs, d = .tup xs
  · obtain ⟨xs, rfl⟩ := ht
    cases h with
    | up h => cases h
    | tup hl h => exact are_durations_ok (fun d hd => (h d hd).flat) (by omega) in_ints
  · have it : isiB "tuple" ms d = some false := isi_notup h.flat fun xs e => ht ⟨xs, e⟩
    have e : durB sizes d = false := by
      cases d with
      | tup xs => exact absurd ⟨xs, rfl⟩ ht
      | _ => rfl
    rw [e]
    refine cutF_here ?_ rfl
    simp only [b_are_durations, runD_ap, List.map_cons, List.map_nil, List.length_cons, List.length_nil, Nat.reduceAdd, Nat.reduceSub, List.replicate, List.cons_append, List.nil_append, sSeq_ap, sAsg_ap, sBin_ap, sCst_ap, kBin1_ok, sCall_ap, sCons_ap, sVar_ap, List.getElem?_cons_zero, List.getElem?_cons_succ, vR_some, kC1_ok, sNil_ap, kC2_ok, kCall_ok, ↓reduceIte, kBin2_ok, optR_some, kAsg_ok, gNm_ap, asgO_some, List.set_cons_succ, List.set_cons_zero, next_nx, next_ret, next_err, sIf_ap, sTst_ap, kTst_ok, kIf_f, kIf_t, sSkip_ap, sBif_ap, kBif_ok, sPar_ap, sTup_ap, kTup_ok, Nat.reduceLeDiff, kPar_ok, setAll, sRet_ap, kRet_ok, out_ret, out_nx, out_err, gTu_tup, gTu_lst, gsC_nm, gsC_tu, gsK_some, gsN, sNewL_ap, kNewL_ok, sAppend_ap, kApp0_some, kApp_ok, sAndV_ap, kAndV_ok, kAndV2_t, kAndV2_f, sOrV_ap, kOrV_ok, kOrV2_t, kOrV2_f, tru_bl, sIte_ap, kIte_t, kIte_f, sLst_ap, kLst_ok, sFor_ap, kFor_ok, sItems_ap, kItems_ok, itemsD, sNeg_ap, kNeg_ok, sSlc_ap, kS1_ok, kS2_ok, kS3_ok, sPart_ap, kPart_ok, sNoPart_ap, sOrT_ap, kOrT_f, kOrT_t, sAndT_ap, kAndT_t, kAndT_f, sNotT_ap, kNotT_ok, sNotV_ap, kNotV_ok, kNotV2_ok, sTru_ap, kTru_ok, sIsi_ap, kIsi_ok, sCallK_ap, kK1_ok, kK2_ok, and_self, sDrop_ap, kDrop_ok, sRetN_ap, sChain_ap, kCh1_ok, kCh2_ok, kCh3_t, kCh3_f, kCh4_ok, sTab_ap, kTab_ok, sAug_ap, kAug0_some, kAug1_ok, augO_some, iadd_int, isub_int, Bool.not_true, Bool.not_false, add_int, sub_int, eq_int, ne_int, lt_int, le_int, gt_int, ge_int, eq_str, ne_str, len_lst, len_tup, sRange1_ap, kRange1_ok, eq_self, decide_true, decide_false, eq_self_iff_true, pm_nil, pm_cons, sRev_ap, kRev_ok, rev_tup, rev_lst, sRaise_ap, kRaise_ok, sTry_ap, kTry_nx, kTry_ret, sTryF_ap, kTryF_nx, kAsg_err, kBin1_err, kBin2_err, kCall_err, kC1_err, kC2_err, kRet_err, kDrop_err, kIf_err, it, Option.map_some]
/-- the first wrong part -/
def badH (u b : D) : D := firstBad [("unit", wholeB u 1 99999), ("bits", wholeB b 1 8)]
def badP (h z o s b : D) : D := firstBad [("header", durB [0, 2, 4] h), ("zero", durB [2] z), ("one", durB [2] o && !eqv o z), ("stop", wholeB s 1 99999), ("bits", wholeB b 1 8)]
theorem locs_bad {k : Nat} {xs : List (Str × Bool)} : locsLt k (firstBad xs) = true := by
  unfold firstBad
  split <;> rfl
theorem str_halves : PyData.strOk "halves" = true := by decide +kernel
theorem wrong_halves {L : Nat} {u b : D} (hu : P1 L u) (hb : P1 L b) : F_wrong_part [.tup [.str "halves", u, b]] ms = .ok (badH u b) ms := by
  have q1 : ∀ m : MS, F_is_duration [u] m = .ok (.bl (wholeB u 1 99999)) m := fun m => is_duration_ok hu.flat
  have q2 : ∀ m : MS, F_is_whole [b, .int 1, .int 8] m = .ok (.bl (wholeB b 1 8)) m := fun m => is_whole_ok hb.flat
  refine cutF_same [.dead] ?_ locs_bad
  have h0 : atD ms (.tup [.str "halves", u, b]) (.int 0) = some (.str "halves") := rfl
  have h1 : eqD ms (.str "halves") (.str "halves") = some (.bl true) := by kernel_rfl
  have we := wrong_gen (ms := ms) (xs := [("unit", wholeB u 1 99999), ("bits", wholeB b 1 8)]) (p0 := some (.tup [.str "halves", u, b])) (p1 := some (.str "halves")) (p2 := some u) (p3 := some b) (p5 := none) (p6 := none) (p7 := none) (p8 := none) (p9 := none) (p10 := none) (p11 := none) (by simp) (fun x hx => by
    simp only [List.mem_cons, List.not_mem_nil, or_false] at hx
    rcases hx with rfl | rfl
    · exact (by decide +kernel : PyData.strOk "unit" = true)
    · exact (by decide +kernel : PyData.strOk "bits" = true))
  simp only [List.map_cons, List.map_nil] at we
  simp only [b_wrong_eq, runD_ap, List.map_cons, List.map_nil, List.length_cons, List.length_nil, Nat.reduceAdd, Nat.reduceSub, List.replicate, List.cons_append, List.nil_append, sSeq_ap, sAsg_ap, sBin_ap, sCst_ap, kBin1_ok, sCall_ap, sCons_ap, sVar_ap, List.getElem?_cons_zero, List.getElem?_cons_succ, vR_some, kC1_ok, sNil_ap, kC2_ok, kCall_ok, ↓reduceIte, kBin2_ok, optR_some, kAsg_ok, gNm_ap, asgO_some, List.set_cons_succ, List.set_cons_zero, next_nx, next_ret, next_err, sIf_ap, sTst_ap, kTst_ok, kIf_f, kIf_t, sSkip_ap, sBif_ap, kBif_ok, sPar_ap, sTup_ap, kTup_ok, Nat.reduceLeDiff, kPar_ok, setAll, sRet_ap, kRet_ok, out_ret, out_nx, out_err, gTu_tup, gTu_lst, gsC_nm, gsC_tu, gsK_some, gsN, sNewL_ap, kNewL_ok, sAppend_ap, kApp0_some, kApp_ok, sAndV_ap, kAndV_ok, kAndV2_t, kAndV2_f, sOrV_ap, kOrV_ok, kOrV2_t, kOrV2_f, tru_bl, sIte_ap, kIte_t, kIte_f, sLst_ap, kLst_ok, sFor_ap, kFor_ok, sItems_ap, kItems_ok, itemsD, sNeg_ap, kNeg_ok, sSlc_ap, kS1_ok, kS2_ok, kS3_ok, sPart_ap, kPart_ok, sNoPart_ap, sOrT_ap, kOrT_f, kOrT_t, sAndT_ap, kAndT_t, kAndT_f, sNotT_ap, kNotT_ok, sNotV_ap, kNotV_ok, kNotV2_ok, sTru_ap, kTru_ok, sIsi_ap, kIsi_ok, sCallK_ap, kK1_ok, kK2_ok, and_self, sDrop_ap, kDrop_ok, sRetN_ap, sChain_ap, kCh1_ok, kCh2_ok, kCh3_t, kCh3_f, kCh4_ok, sTab_ap, kTab_ok, sAug_ap, kAug0_some, kAug1_ok, augO_some, iadd_int, isub_int, Bool.not_true, Bool.not_false, add_int, sub_int, eq_int, ne_int, lt_int, le_int, gt_int, ge_int, eq_str, ne_str, len_lst, len_tup, sRange1_ap, kRange1_ok, eq_self, decide_true, decide_false, eq_self_iff_true, pm_nil, pm_cons, sRev_ap, kRev_ok, rev_tup, rev_lst, sRaise_ap, kRaise_ok, sTry_ap, kTry_nx, kTry_ret, sTryF_ap, kTryF_nx, kAsg_err, kBin1_err, kBin2_err, kCall_err, kC1_err, kC2_err, kRet_err, kDrop_err, kIf_err, h0, h1, q1, q2, isLst_last, appM_last, Nat.reduceLT, we, badH]
theorem wrong_pairs {L : Nat} {h z o s b : D} (hL : L ≤ 1000) (hh : P1 L h) (hz : P1 L z) (ho : P1 L o) (hs : P1 L s) (hb : P1 L b) : F_wrong_part [.tup [.str "pairs", h, z, o, s, b]] ms = .ok (badP h z o s b) ms := by
  have q1 : ∀ m : MS, F_is_duration [s] m = .ok (.bl (wholeB s 1 99999)) m := fun m => is_duration_ok hs.flat
  have q2 : ∀ m : MS, F_is_whole [b, .int 1, .int 8] m = .ok (.bl (wholeB b 1 8)) m := fun m => is_whole_ok hb.flat
  have r1 : ∀ m : MS, F_are_durations [h, .tup [.int 0, .int 2, .int 4]] m = .ok (.bl (durB [0, 2, 4] h)) m := fun m => durs_gen (sizes := [0, 2, 4]) hh hL
  have r2 : ∀ m : MS, F_are_durations [z, .tup [.int 2]] m = .ok (.bl (durB [2] z)) m := fun m => durs_gen (sizes := [2]) hz hL
  have r3 : ∀ m : MS, F_are_durations [o, .tup [.int 2]] m = .ok (.bl (durB [2] o)) m := fun m => durs_gen (sizes := [2]) ho hL
  have ne : ∀ m : MS, neD m o z = some (.bl (!eqv o z)) := fun m => ne_pd (ho.pd.up (by omega)) (hz.pd.up (by omega))
  refine cutF_same [.dead] ?_ locs_bad
  have h0 : atD ms (.tup [.str "pairs", h, z, o, s, b]) (.int 0) = some (.str "pairs") := rfl
  have h1 : eqD ms (.str "pairs") (.str "halves") = some (.bl false) := by kernel_rfl
  have we := wrong_gen (ms := ms) (xs := [("header", durB [0, 2, 4] h), ("zero", durB [2] z), ("one", durB [2] o && !eqv o z), ("stop", wholeB s 1 99999), ("bits", wholeB b 1 8)]) (p0 := some (.tup [.str "pairs", h, z, o, s, b])) (p1 := some (.str "pairs")) (p2 := none) (p3 := some b) (p5 := some h) (p6 := some z) (p7 := some o) (p8 := some s) (p9 := none) (p10 := none) (p11 := none) (by simp) (fun x hx => by
    simp only [List.mem_cons, List.not_mem_nil, or_false] at hx
    rcases hx with rfl | rfl | rfl | rfl | rfl
    · exact (by decide +kernel : PyData.strOk "header" = true)
    · exact (by decide +kernel : PyData.strOk "zero" = true)
    · exact (by decide +kernel : PyData.strOk "one" = true)
    · exact (by decide +kernel : PyData.strOk "stop" = true)
    · exact (by decide +kernel : PyData.strOk "bits" = true))
  simp only [List.map_cons, List.map_nil] at we
  unfold badP
  cases q : durB [2] o <;> rw [q] at r3 we
  · simp only [Bool.false_and] at we ⊢
    simp only [b_wrong_eq, runD_ap, List.map_cons, List.map_nil, List.length_cons, List.length_nil, Nat.reduceAdd, Nat.reduceSub, List.replicate, List.cons_append, List.nil_append, sSeq_ap, sAsg_ap, sBin_ap, sCst_ap, kBin1_ok, sCall_ap, sCons_ap, sVar_ap, List.getElem?_cons_zero, List.getElem?_cons_succ, vR_some, kC1_ok, sNil_ap, kC2_ok, kCall_ok, ↓reduceIte, kBin2_ok, optR_some, kAsg_ok, gNm_ap, asgO_some, List.set_cons_succ, List.set_cons_zero, next_nx, next_ret, next_err, sIf_ap, sTst_ap, kTst_ok, kIf_f, kIf_t, sSkip_ap, sBif_ap, kBif_ok, sPar_ap, sTup_ap, kTup_ok, Nat.reduceLeDiff, kPar_ok, setAll, sRet_ap, kRet_ok, out_ret, out_nx, out_err, gTu_tup, gTu_lst, gsC_nm, gsC_tu, gsK_some, gsN, sNewL_ap, kNewL_ok, sAppend_ap, kApp0_some, kApp_ok, sAndV_ap, kAndV_ok, kAndV2_t, kAndV2_f, sOrV_ap, kOrV_ok, kOrV2_t, kOrV2_f, tru_bl, sIte_ap, kIte_t, kIte_f, sLst_ap, kLst_ok, sFor_ap, kFor_ok, sItems_ap, kItems_ok, itemsD, sNeg_ap, kNeg_ok, sSlc_ap, kS1_ok, kS2_ok, kS3_ok, sPart_ap, kPart_ok, sNoPart_ap, sOrT_ap, kOrT_f, kOrT_t, sAndT_ap, kAndT_t, kAndT_f, sNotT_ap, kNotT_ok, sNotV_ap, kNotV_ok, kNotV2_ok, sTru_ap, kTru_ok, sIsi_ap, kIsi_ok, sCallK_ap, kK1_ok, kK2_ok, and_self, sDrop_ap, kDrop_ok, sRetN_ap, sChain_ap, kCh1_ok, kCh2_ok, kCh3_t, kCh3_f, kCh4_ok, sTab_ap, kTab_ok, sAug_ap, kAug0_some, kAug1_ok, augO_some, iadd_int, isub_int, Bool.not_true, Bool.not_false, add_int, sub_int, eq_int, ne_int, lt_int, le_int, gt_int, ge_int, eq_str, ne_str, len_lst, len_tup, sRange1_ap, kRange1_ok, eq_self, decide_true, decide_false, eq_self_iff_true, pm_nil, pm_cons, sRev_ap, kRev_ok, rev_tup, rev_lst, sRaise_ap, kRaise_ok, sTry_ap, kTry_nx, kTry_ret, sTryF_ap, kTryF_nx, kAsg_err, kBin1_err, kBin2_err, kCall_err, kC1_err, kC2_err, kRet_err, kDrop_err, kIf_err, h0, h1, q1, q2, r1, r2, r3, isLst_last, appM_last, Nat.reduceLT, we]
  · simp only [Bool.true_and] at we ⊢
    simp only [b_wrong_eq, runD_ap, List.map_cons, List.map_nil, List.length_cons, List.length_nil, Nat.reduceAdd, Nat.reduceSub, List.replicate, List.cons_append, List.nil_append, sSeq_ap, sAsg_ap, sBin_ap, sCst_ap, kBin1_ok, sCall_ap, sCons_ap, sVar_ap, List.getElem?_cons_zero, List.getElem?_cons_succ, vR_some, kC1_ok, sNil_ap, kC2_ok, kCall_ok, ↓reduceIte, kBin2_ok, optR_some, kAsg_ok, gNm_ap, asgO_some, List.set_cons_succ, List.set_cons_zero, next_nx, next_ret, next_err, sIf_ap, sTst_ap, kTst_ok, kIf_f, kIf_t, sSkip_ap, sBif_ap, kBif_ok, sPar_ap, sTup_ap, kTup_ok, Nat.reduceLeDiff, kPar_ok, setAll, sRet_ap, kRet_ok, out_ret, out_nx, out_err, gTu_tup, gTu_lst, gsC_nm, gsC_tu, gsK_some, gsN, sNewL_ap, kNewL_ok, sAppend_ap, kApp0_some, kApp_ok, sAndV_ap, kAndV_ok, kAndV2_t, kAndV2_f, sOrV_ap, kOrV_ok, kOrV2_t, kOrV2_f, tru_bl, sIte_ap, kIte_t, kIte_f, sLst_ap, kLst_ok, sFor_ap, kFor_ok, sItems_ap, kItems_ok, itemsD, sNeg_ap, kNeg_ok, sSlc_ap, kS1_ok, kS2_ok, kS3_ok, sPart_ap, kPart_ok, sNoPart_ap, sOrT_ap, kOrT_f, kOrT_t, sAndT_ap, kAndT_t, kAndT_f, sNotT_ap, kNotT_ok, sNotV_ap, kNotV_ok, kNotV2_ok, sTru_ap, kTru_ok, sIsi_ap, kIsi_ok, sCallK_ap, kK1_ok, kK2_ok, and_self, sDrop_ap, kDrop_ok, sRetN_ap, sChain_ap, kCh1_ok, kCh2_ok, kCh3_t, kCh3_f, kCh4_ok, sTab_ap, kTab_ok, sAug_ap, kAug0_some, kAug1_ok, augO_some, iadd_int, isub_int, Bool.not_true, Bool.not_false, add_int, sub_int, eq_int, ne_int, lt_int, le_int, gt_int, ge_int, eq_str, ne_str, len_lst, len_tup, sRange1_ap, kRange1_ok, eq_self, decide_true, decide_false, eq_self_iff_true, pm_nil, pm_cons, sRev_ap, kRev_ok, rev_tup, rev_lst, sRaise_ap, kRaise_ok, sTry_ap, kTry_nx, kTry_ret, sTryF_ap, kTryF_nx, kAsg_err, kBin1_err, kBin2_err, kCall_err, kC1_err, kC2_err, kRet_err, kDrop_err, kIf_err, h0, h1, q1, q2, r1, r2, r3, ne, isLst_last, appM_last, Nat.reduceLT, we]
/-! ### need_table -/
def due : D → D
  | .tup [.str x, u, b] => if x = "halves" then badH u b else .str "form"
  | .tup [.str x, h, z, o, s, b] => if x = "pairs" then badP h z o s b else .str "form"
  | _ => .str "form"
def needR (d : D) (ms : MS) : R D := match due d with
  | .non => .ok d ms
  | r => .err 1 r ms
theorem fOk_form : fOk true (.str "form") = true := by kernel_rfl
theorem fOk_bad {xs : List (Str × Bool)} {y : Str} (h : ∀ x ∈ xs, x.1.length ≤ 1000000) (hn : firstBad xs = .str y) : fOk true (.str y) = true := by
  unfold firstBad at hn
  cases q : xs.filter fun x => !x.2 with
  | nil => rw [q] at hn; cases hn
  | cons z zs =>
    have hy := h z ((List.mem_filter (p := fun x => !x.2)).mp (by rw [q]; exact List.mem_cons_self)).1
    rw [q] at hn
    obtain ⟨z, k⟩ := z
    cases hn
    simp only [fOk, Bool.not_true, Bool.false_or, decide_eq_true_eq]
    exact hy
theorem bad_cases (xs : List (Str × Bool)) : firstBad xs = .non ∨ ∃ x, firstBad xs = .str x := by
  unfold firstBad
  cases xs.filter fun x => !x.2 with
  | nil => exact .inl rfl
  | cons y ys => exact .inr ⟨y.1, rfl⟩
end
end U

namespace U
open PySem L2 DL
section
variable {ms : MS} {env : DE}
theorem dk36 (m : MS) (e : DE) : sDic false [((sCst (.int 3)), (sCst (.str "halves"))), ((sCst (.int 6)), (sCst (.str "pairs")))] e m = .ok (.dic [.inl 3, .inl 6] [.str "halves", .str "pairs"]) (m ++ [.dead]) := by
  have mm : mergeD [] [(.inl 3, .str "halves"), (.inl 6, .str "pairs")] = [(.inl 3, .str "halves"), (.inl 6, .str "pairs")] := by kernel_rfl
  simp [sDic, sPairs, dicEnd, keysD, keyD, mm]
theorem notin_of {a b : D} {k : Bool} (h : inD ms a b = some (.bl k)) : notinD ms a b = some (.bl (!k)) := by
  unfold inD at h
  unfold notinD
  cases q : inB ms a b with
  | none => rw [q] at h; cases h
  | some z => rw [q] at h; cases h; rfl
theorem notin36 {n : Nat} : notinD ms (.int n) (.tup [.int 3, .int 6]) = some (.bl (decide (n ≠ 3 ∧ n ≠ 6))) := by
  have e : notinD ms (.int n) (.tup [.int 3, .int 6]) = _ := notin_of (in_ints (ms := ms) (i := (n : Int)) (xs := [3, 6]))
  rw [e]
  congr 2
  by_cases h3 : n = 3
  · subst h3; rfl
  · by_cases h6 : n = 6
    · subst h6; rfl
    · have a3 : ¬ ((3 : Int) = (n : Int)) := by omega
      have a6 : ¬ ((6 : Int) = (n : Int)) := by omega
      simp [List.any_cons, List.any_nil, a3, a6, h3, h6]
theorem due_form {d : D} (h : due d = .str "form") : needR d ms = .err 1 (.str "form") ms := by
  unfold needR; rw [h]
/-- what the first look says -/
inductive Look : D → Prop
  | no {d : D} (h : ∀ xs, d ≠ .tup xs) (e : due d = .str "form") : Look d
  | len {xs : List D} (h3 : xs.length ≠ 3) (h6 : xs.length ≠ 6) (e : due (.tup xs) = .str "form") : Look (.tup xs)
  | key {a : D} {xs : List D} (h : xs.length = 2 ∨ xs.length = 5) (hs : ∀ x, a ≠ .str x) (e : due (.tup (a :: xs)) = .str "form") : Look (.tup (a :: xs))
  | hv (x : Str) (u b : D) : Look (.tup [.str x, u, b])
  | pr (x : Str) (h z o s b : D) : Look (.tup [.str x, h, z, o, s, b])
theorem look (d : D) : Look d := by
  by_cases ht : ∃ xs, d = .tup xs
  · obtain ⟨xs, rfl⟩ := ht
    match xs with
    | [] => exact .len (by simp) (by simp) rfl
    | [_] => exact .len (by simp) (by simp) (by simp [due])
    | [_, _] => exact .len (by simp) (by simp) (by simp [due])
    | [a, u, b] =>
      by_cases hs : ∃ x, a = .str x
      · obtain ⟨x, rfl⟩ := hs; exact .hv x u b
      · refine .key (.inl rfl) (fun x e => hs ⟨x, e⟩) ?_
        cases a with
        | str x => exact absurd ⟨x, rfl⟩ hs
        | _ => rfl
    | [_, _, _, _] => exact .len (by simp) (by simp) (by simp [due])
    | [_, _, _, _, _] => exact .len (by simp) (by simp) (by simp [due])
    | [a, h, z, o, s, b] =>
      by_cases hs : ∃ x, a = .str x
      · obtain ⟨x, rfl⟩ := hs; exact .pr x h z o s b
      · refine .key (.inr rfl) (fun x e => hs ⟨x, e⟩) ?_
        cases a with
        | str x => exact absurd ⟨x, rfl⟩ hs
        | _ => rfl
    | _ :: _ :: _ :: _ :: _ :: _ :: _ :: _ => exact .len (by simp) (by simp) (by simp [due])
  · refine .no (fun xs e => ht ⟨xs, e⟩) ?_
    cases d with
    | tup xs => exact absurd ⟨xs, rfl⟩ ht
    | _ => rfl
theorem in36 {n : Nat} (h : n = 3 ∨ n = 6) : notinD ms (.int n) (.tup [.int 3, .int 6]) = some (.bl false) := by
  rw [notin36]
  rcases h with h | h <;> subst h <;> rfl
theorem at_0 {a : D} {xs : List D} : atD ms (.tup (a :: xs)) (.int 0) = some a := by
  show atI (a :: xs) 0 = _
  obtain ⟨d, e1, e2⟩ := atI_nat (xs := a :: xs) (i := 0) (by omega) (by simp only [List.length_cons]; omega)
  rw [e1]
  simpa using e2.symm
theorem need_gen {L : Nat} {d : D} (h : P2 L d) (hL : L ≤ 1000) : F_need_table [d] ms = needR d ms := by
  have d3 : ∀ m : MS, atD m (.dic [.inl 3, .inl 6] [.str "halves", .str "pairs"]) (.int 3) = some (.str "halves") := fun m => by kernel_rfl
  have d6 : ∀ m : MS, atD m (.dic [.inl 3, .inl 6] [.str "halves", .str "pairs"]) (.int 6) = some (.str "pairs") := fun m => by kernel_rfl
  have items : ∀ xs : List D, d = .tup xs → ∀ y ∈ xs, P1 L y := fun xs e y hy => by
    subst e
    cases h with
    | up h =>
      cases h with
      | up h => cases h
      | tup _ h => exact .up (h y hy)
    | tup _ h => exact h y hy
  have fl := h.flat
  have lo := h.locs
  have nn : ∀ m : MS, isnD m .non .non = some (.bl false) := fun m => rfl
  have ns : ∀ (m : MS) (x : Str), isnD m (.str x) .non = some (.bl true) := fun m x => rfl
  have lf : ∀ m : MS, locsLt m.length (.str "form") = true := fun m => rfl
  clear h
  cases look d with
  | no ht e =>
    have it := isi_notup (ms := ms) fl ht
    rw [due_form e]
    refine cutF_err [] ?_ (lf ms)
    simp only [b_need_table, runD_ap, List.map_cons, List.map_nil, List.length_cons, List.length_nil, Nat.reduceAdd, Nat.reduceSub, List.replicate, List.cons_append, List.nil_append, sSeq_ap, sAsg_ap, sBin_ap, sCst_ap, kBin1_ok, sCall_ap, sCons_ap, sVar_ap, List.getElem?_cons_zero, List.getElem?_cons_succ, vR_some, kC1_ok, sNil_ap, kC2_ok, kCall_ok, ↓reduceIte, kBin2_ok, optR_some, kAsg_ok, gNm_ap, asgO_some, List.set_cons_succ, List.set_cons_zero, next_nx, next_ret, next_err, sIf_ap, sTst_ap, kTst_ok, kIf_f, kIf_t, sSkip_ap, sBif_ap, kBif_ok, sPar_ap, sTup_ap, kTup_ok, Nat.reduceLeDiff, kPar_ok, setAll, sRet_ap, kRet_ok, out_ret, out_nx, out_err, gTu_tup, gTu_lst, gsC_nm, gsC_tu, gsK_some, gsN, sNewL_ap, kNewL_ok, sAppend_ap, kApp0_some, kApp_ok, sAndV_ap, kAndV_ok, kAndV2_t, kAndV2_f, sOrV_ap, kOrV_ok, kOrV2_t, kOrV2_f, tru_bl, sIte_ap, kIte_t, kIte_f, sLst_ap, kLst_ok, sFor_ap, kFor_ok, sItems_ap, kItems_ok, itemsD, sNeg_ap, kNeg_ok, sSlc_ap, kS1_ok, kS2_ok, kS3_ok, sPart_ap, kPart_ok, sNoPart_ap, sOrT_ap, kOrT_f, kOrT_t, sAndT_ap, kAndT_t, kAndT_f, sNotT_ap, kNotT_ok, sNotV_ap, kNotV_ok, kNotV2_ok, sTru_ap, kTru_ok, sIsi_ap, kIsi_ok, sCallK_ap, kK1_ok, kK2_ok, and_self, sDrop_ap, kDrop_ok, sRetN_ap, sChain_ap, kCh1_ok, kCh2_ok, kCh3_t, kCh3_f, kCh4_ok, sTab_ap, kTab_ok, sAug_ap, kAug0_some, kAug1_ok, augO_some, iadd_int, isub_int, Bool.not_true, Bool.not_false, add_int, sub_int, eq_int, ne_int, lt_int, le_int, gt_int, ge_int, eq_str, ne_str, len_lst, len_tup, sRange1_ap, kRange1_ok, eq_self, decide_true, decide_false, eq_self_iff_true, pm_nil, pm_cons, sRev_ap, kRev_ok, rev_tup, rev_lst, sRaise_ap, kRaise_ok, sTry_ap, kTry_nx, kTry_ret, sTryF_ap, kTryF_nx, kAsg_err, kBin1_err, kBin2_err, kCall_err, kC1_err, kC2_err, kRet_err, kDrop_err, kIf_err, it, Option.map_some, fOk_form, List.append_nil]
  | @len xs h3 h6 e =>
    rw [due_form e]
    refine cutF_err [] ?_ (lf ms)
    have n36 : notinD ms (.int xs.length) (.tup [.int 3, .int 6]) = some (.bl true) := by
      rw [notin36, decide_eq_true (show xs.length ≠ 3 ∧ xs.length ≠ 6 from ⟨h3, h6⟩)]
    simp only [b_need_table, runD_ap, List.map_cons, List.map_nil, List.length_cons, List.length_nil, Nat.reduceAdd, Nat.reduceSub, List.replicate, List.cons_append, List.nil_append, sSeq_ap, sAsg_ap, sBin_ap, sCst_ap, kBin1_ok, sCall_ap, sCons_ap, sVar_ap, List.getElem?_cons_zero, List.getElem?_cons_succ, vR_some, kC1_ok, sNil_ap, kC2_ok, kCall_ok, ↓reduceIte, kBin2_ok, optR_some, kAsg_ok, gNm_ap, asgO_some, List.set_cons_succ, List.set_cons_zero, next_nx, next_ret, next_err, sIf_ap, sTst_ap, kTst_ok, kIf_f, kIf_t, sSkip_ap, sBif_ap, kBif_ok, sPar_ap, sTup_ap, kTup_ok, Nat.reduceLeDiff, kPar_ok, setAll, sRet_ap, kRet_ok, out_ret, out_nx, out_err, gTu_tup, gTu_lst, gsC_nm, gsC_tu, gsK_some, gsN, sNewL_ap, kNewL_ok, sAppend_ap, kApp0_some, kApp_ok, sAndV_ap, kAndV_ok, kAndV2_t, kAndV2_f, sOrV_ap, kOrV_ok, kOrV2_t, kOrV2_f, tru_bl, sIte_ap, kIte_t, kIte_f, sLst_ap, kLst_ok, sFor_ap, kFor_ok, sItems_ap, kItems_ok, itemsD, sNeg_ap, kNeg_ok, sSlc_ap, kS1_ok, kS2_ok, kS3_ok, sPart_ap, kPart_ok, sNoPart_ap, sOrT_ap, kOrT_f, kOrT_t, sAndT_ap, kAndT_t, kAndT_f, sNotT_ap, kNotT_ok, sNotV_ap, kNotV_ok, kNotV2_ok, sTru_ap, kTru_ok, sIsi_ap, kIsi_ok, sCallK_ap, kK1_ok, kK2_ok, and_self, sDrop_ap, kDrop_ok, sRetN_ap, sChain_ap, kCh1_ok, kCh2_ok, kCh3_t, kCh3_f, kCh4_ok, sTab_ap, kTab_ok, sAug_ap, kAug0_some, kAug1_ok, augO_some, iadd_int, isub_int, Bool.not_true, Bool.not_false, add_int, sub_int, eq_int, ne_int, lt_int, le_int, gt_int, ge_int, eq_str, ne_str, len_lst, len_tup, sRange1_ap, kRange1_ok, eq_self, decide_true, decide_false, eq_self_iff_true, pm_nil, pm_cons, sRev_ap, kRev_ok, rev_tup, rev_lst, sRaise_ap, kRaise_ok, sTry_ap, kTry_nx, kTry_ret, sTryF_ap, kTryF_nx, kAsg_err, kBin1_err, kBin2_err, kCall_err, kC1_err, kC2_err, kRet_err, kDrop_err, kIf_err, isi_tup, Option.map_some, n36, fOk_form, List.append_nil]
  | @key a xs hl hs e =>
    rw [due_form e]
    refine cutF_err [] ?_ (lf ms)
    have n36 : ∀ m : MS, notinD m (.int ((a :: xs).length : Nat)) (.tup [.int 3, .int 6]) = some (.bl false) := fun m => in36 (by simp only [List.length_cons]; omega)
    have ia := isi_nostr (ms := ms) (items _ rfl a List.mem_cons_self).flat hs
    have l0 : lenD ms [.tup (a :: xs)] = some (.int ((a :: xs).length : Nat)) := rfl
    have a0 := at_0 (ms := ms) (a := a) (xs := xs)
    have it : isiB "tuple" ms (.tup (a :: xs)) = some true := isi_tup
    generalize D.tup (a :: xs) = Z at l0 a0 it ⊢
    generalize ((a :: xs).length : Int) = N at n36 l0
    simp only [b_need_table, runD_ap, List.map_cons, List.map_nil, List.length_cons, List.length_nil, Nat.reduceAdd, Nat.reduceSub, List.replicate, List.cons_append, List.nil_append, sSeq_ap, sAsg_ap, sBin_ap, sCst_ap, kBin1_ok, sCall_ap, sCons_ap, sVar_ap, List.getElem?_cons_zero, List.getElem?_cons_succ, vR_some, kC1_ok, sNil_ap, kC2_ok, kCall_ok, ↓reduceIte, kBin2_ok, optR_some, kAsg_ok, gNm_ap, asgO_some, List.set_cons_succ, List.set_cons_zero, next_nx, next_ret, next_err, sIf_ap, sTst_ap, kTst_ok, kIf_f, kIf_t, sSkip_ap, sBif_ap, kBif_ok, sPar_ap, sTup_ap, kTup_ok, Nat.reduceLeDiff, kPar_ok, setAll, sRet_ap, kRet_ok, out_ret, out_nx, out_err, gTu_tup, gTu_lst, gsC_nm, gsC_tu, gsK_some, gsN, sNewL_ap, kNewL_ok, sAppend_ap, kApp0_some, kApp_ok, sAndV_ap, kAndV_ok, kAndV2_t, kAndV2_f, sOrV_ap, kOrV_ok, kOrV2_t, kOrV2_f, tru_bl, sIte_ap, kIte_t, kIte_f, sLst_ap, kLst_ok, sFor_ap, kFor_ok, sItems_ap, kItems_ok, itemsD, sNeg_ap, kNeg_ok, sSlc_ap, kS1_ok, kS2_ok, kS3_ok, sPart_ap, kPart_ok, sNoPart_ap, sOrT_ap, kOrT_f, kOrT_t, sAndT_ap, kAndT_t, kAndT_f, sNotT_ap, kNotT_ok, sNotV_ap, kNotV_ok, kNotV2_ok, sTru_ap, kTru_ok, sIsi_ap, kIsi_ok, sCallK_ap, kK1_ok, kK2_ok, and_self, sDrop_ap, kDrop_ok, sRetN_ap, sChain_ap, kCh1_ok, kCh2_ok, kCh3_t, kCh3_f, kCh4_ok, sTab_ap, kTab_ok, sAug_ap, kAug0_some, kAug1_ok, augO_some, iadd_int, isub_int, Bool.not_true, Bool.not_false, add_int, sub_int, eq_int, ne_int, lt_int, le_int, gt_int, ge_int, eq_str, ne_str, len_lst, len_tup, sRange1_ap, kRange1_ok, eq_self, decide_true, decide_false, eq_self_iff_true, pm_nil, pm_cons, sRev_ap, kRev_ok, rev_tup, rev_lst, sRaise_ap, kRaise_ok, sTry_ap, kTry_nx, kTry_ret, sTryF_ap, kTryF_nx, kAsg_err, kBin1_err, kBin2_err, kCall_err, kC1_err, kC2_err, kRet_err, kDrop_err, kIf_err, it, Option.map_some, l0, n36, a0, ia, fOk_form, List.append_nil]
  | hv x u b =>
    have n3 : ∀ m : MS, notinD m (.int 3) (.tup [.int 3, .int 6]) = some (.bl false) := fun m => in36 (n := 3) (.inl rfl)
    have l0 : ∀ m : MS, lenD m [.tup [.str x, u, b]] = some (.int 3) := fun m => rfl
    have a0 : ∀ m : MS, atD m (.tup [.str x, u, b]) (.int 0) = some (.str x) := fun m => rfl
    have hu := items _ rfl u (by simp)
    have hb := items _ rfl b (by simp)
    have lo := lo ms.length
    by_cases hx : x = "halves"
    · subst hx
      have wp := fun m : MS => wrong_halves (ms := m) hu hb
      have du : due (.tup [.str "halves", u, b]) = badH u b := by simp only [due, if_true]
      have it : ∀ m : MS, isiB "tuple" m (.tup [.str "halves", u, b]) = some true := fun m => isi_tup
      unfold needR
      rw [du]
      generalize D.tup [.str "halves", u, b] = Z at l0 a0 wp it lo ⊢
      have dd : decide ((Str.ofString "halves") = Str.ofString "halves") = true := decide_eq_true rfl
      rcases bad_cases [("unit", wholeB u 1 99999), ("bits", wholeB b 1 8)] with e | ⟨y, e⟩
      · have e' : badH u b = .non := e
        rw [e'] at wp ⊢
        refine cutF_same [.dead] ?_ lo
        simp only [b_need_table, runD_ap, List.map_cons, List.map_nil, List.length_cons, List.length_nil, Nat.reduceAdd, Nat.reduceSub, List.replicate, List.cons_append, List.nil_append, sSeq_ap, sAsg_ap, sBin_ap, sCst_ap, kBin1_ok, sCall_ap, sCons_ap, sVar_ap, List.getElem?_cons_zero, List.getElem?_cons_succ, vR_some, kC1_ok, sNil_ap, kC2_ok, kCall_ok, ↓reduceIte, kBin2_ok, optR_some, kAsg_ok, gNm_ap, asgO_some, List.set_cons_succ, List.set_cons_zero, next_nx, next_ret, next_err, sIf_ap, sTst_ap, kTst_ok, kIf_f, kIf_t, sSkip_ap, sBif_ap, kBif_ok, sPar_ap, sTup_ap, kTup_ok, Nat.reduceLeDiff, kPar_ok, setAll, sRet_ap, kRet_ok, out_ret, out_nx, out_err, gTu_tup, gTu_lst, gsC_nm, gsC_tu, gsK_some, gsN, sNewL_ap, kNewL_ok, sAppend_ap, kApp0_some, kApp_ok, sAndV_ap, kAndV_ok, kAndV2_t, kAndV2_f, sOrV_ap, kOrV_ok, kOrV2_t, kOrV2_f, tru_bl, sIte_ap, kIte_t, kIte_f, sLst_ap, kLst_ok, sFor_ap, kFor_ok, sItems_ap, kItems_ok, itemsD, sNeg_ap, kNeg_ok, sSlc_ap, kS1_ok, kS2_ok, kS3_ok, sPart_ap, kPart_ok, sNoPart_ap, sOrT_ap, kOrT_f, kOrT_t, sAndT_ap, kAndT_t, kAndT_f, sNotT_ap, kNotT_ok, sNotV_ap, kNotV_ok, kNotV2_ok, sTru_ap, kTru_ok, sIsi_ap, kIsi_ok, sCallK_ap, kK1_ok, kK2_ok, and_self, sDrop_ap, kDrop_ok, sRetN_ap, sChain_ap, kCh1_ok, kCh2_ok, kCh3_t, kCh3_f, kCh4_ok, sTab_ap, kTab_ok, sAug_ap, kAug0_some, kAug1_ok, augO_some, iadd_int, isub_int, Bool.not_true, Bool.not_false, add_int, sub_int, eq_int, ne_int, lt_int, le_int, gt_int, ge_int, eq_str, ne_str, len_lst, len_tup, sRange1_ap, kRange1_ok, eq_self, decide_true, decide_false, eq_self_iff_true, pm_nil, pm_cons, sRev_ap, kRev_ok, rev_tup, rev_lst, sRaise_ap, kRaise_ok, sTry_ap, kTry_nx, kTry_ret, sTryF_ap, kTryF_nx, kAsg_err, kBin1_err, kBin2_err, kCall_err, kC1_err, kC2_err, kRet_err, kDrop_err, kIf_err, it, Option.map_some, l0, n3, a0, isi_str, dk36, d3, wp, nn]
      · have e' : badH u b = .str y := e
        have fo := fOk_bad (fun z hz => by
          simp only [List.mem_cons, List.not_mem_nil, or_false] at hz
          rcases hz with rfl | rfl <;> simp only <;> decide) e
        rw [e'] at wp ⊢
        refine cutF_err [.dead] ?_ rfl
        simp only [b_need_table, runD_ap, List.map_cons, List.map_nil, List.length_cons, List.length_nil, Nat.reduceAdd, Nat.reduceSub, List.replicate, List.cons_append, List.nil_append, sSeq_ap, sAsg_ap, sBin_ap, sCst_ap, kBin1_ok, sCall_ap, sCons_ap, sVar_ap, List.getElem?_cons_zero, List.getElem?_cons_succ, vR_some, kC1_ok, sNil_ap, kC2_ok, kCall_ok, ↓reduceIte, kBin2_ok, optR_some, kAsg_ok, gNm_ap, asgO_some, List.set_cons_succ, List.set_cons_zero, next_nx, next_ret, next_err, sIf_ap, sTst_ap, kTst_ok, kIf_f, kIf_t, sSkip_ap, sBif_ap, kBif_ok, sPar_ap, sTup_ap, kTup_ok, Nat.reduceLeDiff, kPar_ok, setAll, sRet_ap, kRet_ok, out_ret, out_nx, out_err, gTu_tup, gTu_lst, gsC_nm, gsC_tu, gsK_some, gsN, sNewL_ap, kNewL_ok, sAppend_ap, kApp0_some, kApp_ok, sAndV_ap, kAndV_ok, kAndV2_t, kAndV2_f, sOrV_ap, kOrV_ok, kOrV2_t, kOrV2_f, tru_bl, sIte_ap, kIte_t, kIte_f, sLst_ap, kLst_ok, sFor_ap, kFor_ok, sItems_ap, kItems_ok, itemsD, sNeg_ap, kNeg_ok, sSlc_ap, kS1_ok, kS2_ok, kS3_ok, sPart_ap, kPart_ok, sNoPart_ap, sOrT_ap, kOrT_f, kOrT_t, sAndT_ap, kAndT_t, kAndT_f, sNotT_ap, kNotT_ok, sNotV_ap, kNotV_ok, kNotV2_ok, sTru_ap, kTru_ok, sIsi_ap, kIsi_ok, sCallK_ap, kK1_ok, kK2_ok, and_self, sDrop_ap, kDrop_ok, sRetN_ap, sChain_ap, kCh1_ok, kCh2_ok, kCh3_t, kCh3_f, kCh4_ok, sTab_ap, kTab_ok, sAug_ap, kAug0_some, kAug1_ok, augO_some, iadd_int, isub_int, Bool.not_true, Bool.not_false, add_int, sub_int, eq_int, ne_int, lt_int, le_int, gt_int, ge_int, eq_str, ne_str, len_lst, len_tup, sRange1_ap, kRange1_ok, eq_self, decide_true, decide_false, eq_self_iff_true, pm_nil, pm_cons, sRev_ap, kRev_ok, rev_tup, rev_lst, sRaise_ap, kRaise_ok, sTry_ap, kTry_nx, kTry_ret, sTryF_ap, kTryF_nx, kAsg_err, kBin1_err, kBin2_err, kCall_err, kC1_err, kC2_err, kRet_err, kDrop_err, kIf_err, it, Option.map_some, l0, n3, a0, isi_str, dk36, d3, wp, ns, fo]
    · have du : due (.tup [.str x, u, b]) = .str "form" := by simp only [due, hx, if_false]
      have it : ∀ m : MS, isiB "tuple" m (.tup [.str x, u, b]) = some true := fun m => isi_tup
      have dd : decide (x = Str.ofString "halves") = false := decide_eq_false hx
      rw [due_form du]
      generalize D.tup [.str x, u, b] = Z at l0 a0 it ⊢
      refine cutF_err [.dead] ?_ (lf ms)
      simp only [b_need_table, runD_ap, List.map_cons, List.map_nil, List.length_cons, List.length_nil, Nat.reduceAdd, Nat.reduceSub, List.replicate, List.cons_append, List.nil_append, sSeq_ap, sAsg_ap, sBin_ap, sCst_ap, kBin1_ok, sCall_ap, sCons_ap, sVar_ap, List.getElem?_cons_zero, List.getElem?_cons_succ, vR_some, kC1_ok, sNil_ap, kC2_ok, kCall_ok, ↓reduceIte, kBin2_ok, optR_some, kAsg_ok, gNm_ap, asgO_some, List.set_cons_succ, List.set_cons_zero, next_nx, next_ret, next_err, sIf_ap, sTst_ap, kTst_ok, kIf_f, kIf_t, sSkip_ap, sBif_ap, kBif_ok, sPar_ap, sTup_ap, kTup_ok, Nat.reduceLeDiff, kPar_ok, setAll, sRet_ap, kRet_ok, out_ret, out_nx, out_err, gTu_tup, gTu_lst, gsC_nm, gsC_tu, gsK_some, gsN, sNewL_ap, kNewL_ok, sAppend_ap, kApp0_some, kApp_ok, sAndV_ap, kAndV_ok, kAndV2_t, kAndV2_f, sOrV_ap, kOrV_ok, kOrV2_t, kOrV2_f, tru_bl, sIte_ap, kIte_t, kIte_f, sLst_ap, kLst_ok, sFor_ap, kFor_ok, sItems_ap, kItems_ok, itemsD, sNeg_ap, kNeg_ok, sSlc_ap, kS1_ok, kS2_ok, kS3_ok, sPart_ap, kPart_ok, sNoPart_ap, sOrT_ap, kOrT_f, kOrT_t, sAndT_ap, kAndT_t, kAndT_f, sNotT_ap, kNotT_ok, sNotV_ap, kNotV_ok, kNotV2_ok, sTru_ap, kTru_ok, sIsi_ap, kIsi_ok, sCallK_ap, kK1_ok, kK2_ok, and_self, sDrop_ap, kDrop_ok, sRetN_ap, sChain_ap, kCh1_ok, kCh2_ok, kCh3_t, kCh3_f, kCh4_ok, sTab_ap, kTab_ok, sAug_ap, kAug0_some, kAug1_ok, augO_some, iadd_int, isub_int, Bool.not_true, Bool.not_false, add_int, sub_int, eq_int, ne_int, lt_int, le_int, gt_int, ge_int, eq_str, ne_str, len_lst, len_tup, sRange1_ap, kRange1_ok, eq_self, decide_true, decide_false, eq_self_iff_true, pm_nil, pm_cons, sRev_ap, kRev_ok, rev_tup, rev_lst, sRaise_ap, kRaise_ok, sTry_ap, kTry_nx, kTry_ret, sTryF_ap, kTryF_nx, kAsg_err, kBin1_err, kBin2_err, kCall_err, kC1_err, kC2_err, kRet_err, kDrop_err, kIf_err, it, Option.map_some, l0, n3, a0, isi_str, dk36, d3, dd, fOk_form]
  | pr x h z o s b =>
    have n6 : ∀ m : MS, notinD m (.int 6) (.tup [.int 3, .int 6]) = some (.bl false) := fun m => in36 (n := 6) (.inr rfl)
    have l0 : ∀ m : MS, lenD m [.tup [.str x, h, z, o, s, b]] = some (.int 6) := fun m => rfl
    have a0 : ∀ m : MS, atD m (.tup [.str x, h, z, o, s, b]) (.int 0) = some (.str x) := fun m => rfl
    have hh := items _ rfl h (by simp)
    have hz := items _ rfl z (by simp)
    have ho := items _ rfl o (by simp)
    have hs := items _ rfl s (by simp)
    have hb := items _ rfl b (by simp)
    have lo := lo ms.length
    by_cases hx : x = "pairs"
    · subst hx
      have wp := fun m : MS => wrong_pairs (ms := m) hL hh hz ho hs hb
      have du : due (.tup [.str "pairs", h, z, o, s, b]) = badP h z o s b := by simp only [due, if_true]
      have it : ∀ m : MS, isiB "tuple" m (.tup [.str "pairs", h, z, o, s, b]) = some true := fun m => isi_tup
      unfold needR
      rw [du]
      generalize D.tup [.str "pairs", h, z, o, s, b] = Z at l0 a0 wp it lo ⊢
      rcases bad_cases [("header", durB [0, 2, 4] h), ("zero", durB [2] z), ("one", durB [2] o && !eqv o z), ("stop", wholeB s 1 99999), ("bits", wholeB b 1 8)] with e | ⟨y, e⟩
      · have e' : badP h z o s b = .non := e
        rw [e'] at wp ⊢
        refine cutF_same [.dead] ?_ lo
        simp only [b_need_table, runD_ap, List.map_cons, List.map_nil, List.length_cons, List.length_nil, Nat.reduceAdd, Nat.reduceSub, List.replicate, List.cons_append, List.nil_append, sSeq_ap, sAsg_ap, sBin_ap, sCst_ap, kBin1_ok, sCall_ap, sCons_ap, sVar_ap, List.getElem?_cons_zero, List.getElem?_cons_succ, vR_some, kC1_ok, sNil_ap, kC2_ok, kCall_ok, ↓reduceIte, kBin2_ok, optR_some, kAsg_ok, gNm_ap, asgO_some, List.set_cons_succ, List.set_cons_zero, next_nx, next_ret, next_err, sIf_ap, sTst_ap, kTst_ok, kIf_f, kIf_t, sSkip_ap, sBif_ap, kBif_ok, sPar_ap, sTup_ap, kTup_ok, Nat.reduceLeDiff, kPar_ok, setAll, sRet_ap, kRet_ok, out_ret, out_nx, out_err, gTu_tup, gTu_lst, gsC_nm, gsC_tu, gsK_some, gsN, sNewL_ap, kNewL_ok, sAppend_ap, kApp0_some, kApp_ok, sAndV_ap, kAndV_ok, kAndV2_t, kAndV2_f, sOrV_ap, kOrV_ok, kOrV2_t, kOrV2_f, tru_bl, sIte_ap, kIte_t, kIte_f, sLst_ap, kLst_ok, sFor_ap, kFor_ok, sItems_ap, kItems_ok, itemsD, sNeg_ap, kNeg_ok, sSlc_ap, kS1_ok, kS2_ok, kS3_ok, sPart_ap, kPart_ok, sNoPart_ap, sOrT_ap, kOrT_f, kOrT_t, sAndT_ap, kAndT_t, kAndT_f, sNotT_ap, kNotT_ok, sNotV_ap, kNotV_ok, kNotV2_ok, sTru_ap, kTru_ok, sIsi_ap, kIsi_ok, sCallK_ap, kK1_ok, kK2_ok, and_self, sDrop_ap, kDrop_ok, sRetN_ap, sChain_ap, kCh1_ok, kCh2_ok, kCh3_t, kCh3_f, kCh4_ok, sTab_ap, kTab_ok, sAug_ap, kAug0_some, kAug1_ok, augO_some, iadd_int, isub_int, Bool.not_true, Bool.not_false, add_int, sub_int, eq_int, ne_int, lt_int, le_int, gt_int, ge_int, eq_str, ne_str, len_lst, len_tup, sRange1_ap, kRange1_ok, eq_self, decide_true, decide_false, eq_self_iff_true, pm_nil, pm_cons, sRev_ap, kRev_ok, rev_tup, rev_lst, sRaise_ap, kRaise_ok, sTry_ap, kTry_nx, kTry_ret, sTryF_ap, kTryF_nx, kAsg_err, kBin1_err, kBin2_err, kCall_err, kC1_err, kC2_err, kRet_err, kDrop_err, kIf_err, it, Option.map_some, l0, n6, a0, isi_str, dk36, d6, wp, nn]
      · have e' : badP h z o s b = .str y := e
        have fo := fOk_bad (fun z hz => by
          simp only [List.mem_cons, List.not_mem_nil, or_false] at hz
          rcases hz with rfl | rfl | rfl | rfl | rfl <;> simp only <;> decide) e
        rw [e'] at wp ⊢
        refine cutF_err [.dead] ?_ rfl
        simp only [b_need_table, runD_ap, List.map_cons, List.map_nil, List.length_cons, List.length_nil, Nat.reduceAdd, Nat.reduceSub, List.replicate, List.cons_append, List.nil_append, sSeq_ap, sAsg_ap, sBin_ap, sCst_ap, kBin1_ok, sCall_ap, sCons_ap, sVar_ap, List.getElem?_cons_zero, List.getElem?_cons_succ, vR_some, kC1_ok, sNil_ap, kC2_ok, kCall_ok, ↓reduceIte, kBin2_ok, optR_some, kAsg_ok, gNm_ap, asgO_some, List.set_cons_succ, List.set_cons_zero, next_nx, next_ret, next_err, sIf_ap, sTst_ap, kTst_ok, kIf_f, kIf_t, sSkip_ap, sBif_ap, kBif_ok, sPar_ap, sTup_ap, kTup_ok, Nat.reduceLeDiff, kPar_ok, setAll, sRet_ap, kRet_ok, out_ret, out_nx, out_err, gTu_tup, gTu_lst, gsC_nm, gsC_tu, gsK_some, gsN, sNewL_ap, kNewL_ok, sAppend_ap, kApp0_some, kApp_ok, sAndV_ap, kAndV_ok, kAndV2_t, kAndV2_f, sOrV_ap, kOrV_ok, kOrV2_t, kOrV2_f, tru_bl, sIte_ap, kIte_t, kIte_f, sLst_ap, kLst_ok, sFor_ap, kFor_ok, sItems_ap, kItems_ok, itemsD, sNeg_ap, kNeg_ok, sSlc_ap, kS1_ok, kS2_ok, kS3_ok, sPart_ap, kPart_ok, sNoPart_ap, sOrT_ap, kOrT_f, kOrT_t, sAndT_ap, kAndT_t, kAndT_f, sNotT_ap, kNotT_ok, sNotV_ap, kNotV_ok, kNotV2_ok, sTru_ap, kTru_ok, sIsi_ap, kIsi_ok, sCallK_ap, kK1_ok, kK2_ok, and_self, sDrop_ap, kDrop_ok, sRetN_ap, sChain_ap, kCh1_ok, kCh2_ok, kCh3_t, kCh3_f, kCh4_ok, sTab_ap, kTab_ok, sAug_ap, kAug0_some, kAug1_ok, augO_some, iadd_int, isub_int, Bool.not_true, Bool.not_false, add_int, sub_int, eq_int, ne_int, lt_int, le_int, gt_int, ge_int, eq_str, ne_str, len_lst, len_tup, sRange1_ap, kRange1_ok, eq_self, decide_true, decide_false, eq_self_iff_true, pm_nil, pm_cons, sRev_ap, kRev_ok, rev_tup, rev_lst, sRaise_ap, kRaise_ok, sTry_ap, kTry_nx, kTry_ret, sTryF_ap, kTryF_nx, kAsg_err, kBin1_err, kBin2_err, kCall_err, kC1_err, kC2_err, kRet_err, kDrop_err, kIf_err, it, Option.map_some, l0, n6, a0, isi_str, dk36, d6, wp, ns, fo]
    · have du : due (.tup [.str x, h, z, o, s, b]) = .str "form" := by simp only [due, hx, if_false]
      have it : ∀ m : MS, isiB "tuple" m (.tup [.str x, h, z, o, s, b]) = some true := fun m => isi_tup
      have dd : decide (x = Str.ofString "pairs") = false := decide_eq_false hx
      rw [due_form du]
      generalize D.tup [.str x, h, z, o, s, b] = Z at l0 a0 it ⊢
      refine cutF_err [.dead] ?_ (lf ms)
      simp only [b_need_table, runD_ap, List.map_cons, List.map_nil, List.length_cons, List.length_nil, Nat.reduceAdd, Nat.reduceSub, List.replicate, List.cons_append, List.nil_append, sSeq_ap, sAsg_ap, sBin_ap, sCst_ap, kBin1_ok, sCall_ap, sCons_ap, sVar_ap, List.getElem?_cons_zero, List.getElem?_cons_succ, vR_some, kC1_ok, sNil_ap, kC2_ok, kCall_ok, ↓reduceIte, kBin2_ok, optR_some, kAsg_ok, gNm_ap, asgO_some, List.set_cons_succ, List.set_cons_zero, next_nx, next_ret, next_err, sIf_ap, sTst_ap, kTst_ok, kIf_f, kIf_t, sSkip_ap, sBif_ap, kBif_ok, sPar_ap, sTup_ap, kTup_ok, Nat.reduceLeDiff, kPar_ok, setAll, sRet_ap, kRet_ok, out_ret, out_nx, out_err, gTu_tup, gTu_lst, gsC_nm, gsC_tu, gsK_some, gsN, sNewL_ap, kNewL_ok, sAppend_ap, kApp0_some, kApp_ok, sAndV_ap, kAndV_ok, kAndV2_t, kAndV2_f, sOrV_ap, kOrV_ok, kOrV2_t, kOrV2_f, tru_bl, sIte_ap, kIte_t, kIte_f, sLst_ap, kLst_ok, sFor_ap, kFor_ok, sItems_ap, kItems_ok, itemsD, sNeg_ap, kNeg_ok, sSlc_ap, kS1_ok, kS2_ok, kS3_ok, sPart_ap, kPart_ok, sNoPart_ap, sOrT_ap, kOrT_f, kOrT_t, sAndT_ap, kAndT_t, kAndT_f, sNotT_ap, kNotT_ok, sNotV_ap, kNotV_ok, kNotV2_ok, sTru_ap, kTru_ok, sIsi_ap, kIsi_ok, sCallK_ap, kK1_ok, kK2_ok, and_self, sDrop_ap, kDrop_ok, sRetN_ap, sChain_ap, kCh1_ok, kCh2_ok, kCh3_t, kCh3_f, kCh4_ok, sTab_ap, kTab_ok, sAug_ap, kAug0_some, kAug1_ok, augO_some, iadd_int, isub_int, Bool.not_true, Bool.not_false, add_int, sub_int, eq_int, ne_int, lt_int, le_int, gt_int, ge_int, eq_str, ne_str, len_lst, len_tup, sRange1_ap, kRange1_ok, eq_self, decide_true, decide_false, eq_self_iff_true, pm_nil, pm_cons, sRev_ap, kRev_ok, rev_tup, rev_lst, sRaise_ap, kRaise_ok, sTry_ap, kTry_nx, kTry_ret, sTryF_ap, kTryF_nx, kAsg_err, kBin1_err, kBin2_err, kCall_err, kC1_err, kC2_err, kRet_err, kDrop_err, kIf_err, it, Option.map_some, l0, n6, a0, isi_str, dk36, d6, dd, fOk_form]
end
end U

/-! tables and what is refused nowhere -/
namespace U
open PySem L2 DL
section
variable {ms : MS} {env : DE}
theorem due_items {L : Nat} {d : D} (h : P2 L d) : ∀ xs : List D, d = .tup xs → ∀ y ∈ xs, P1 L y := fun xs e y hy => by
  subst e
  cases h with
  | up h =>
    cases h with
    | up h => cases h
    | tup _ h => exact .up (h y hy)
  | tup _ h => exact h y hy
theorem bad_all {xs : List (Str × Bool)} (h : firstBad xs = .non) : ∀ x ∈ xs, x.2 = true := fun x hx => by
  unfold firstBad at h
  cases q : xs.filter fun x => !x.2 with
  | nil =>
    have := List.filter_eq_nil_iff.mp q x hx
    simpa using this
  | cons y ys => rw [q] at h; cases h
theorem whole_int {d : D} {lo hi : Int} (h : wholeB d lo hi = true) : ∃ i, d = .int i ∧ lo ≤ i ∧ i ≤ hi := by
  cases d with
  | int i =>
    simp only [wholeB, Bool.and_eq_true, decide_eq_true_eq] at h
    exact ⟨i, rfl, h.1, h.2⟩
  | _ => cases h
theorem all_ints : ∀ {xs : List D}, (xs.all fun d => wholeB d 1 99999) = true → ∃ is : List Int, xs = is.map D.int ∧ ∀ i ∈ is, 1 ≤ i ∧ i ≤ 99999
  | [], _ => ⟨[], rfl, fun _ h => by cases h⟩
  | x :: xs, h => by
    rw [List.all_cons, Bool.and_eq_true] at h
    obtain ⟨i, rfl, h1, h2⟩ := whole_int h.1
    obtain ⟨is, rfl, h3⟩ := all_ints h.2
    refine ⟨i :: is, rfl, fun j hj => ?_⟩
    rcases List.mem_cons.mp hj with e | hj
    · subst e; exact ⟨h1, h2⟩
    · exact h3 j hj
theorem dur_ints {sizes : List Int} {d : D} (h : durB sizes d = true) : ∃ is : List Int, d = .tup (is.map D.int) ∧ (is.length : Int) ∈ sizes ∧ ∀ i ∈ is, 1 ≤ i ∧ i ≤ 99999 := by
  cases d with
  | tup xs =>
    simp only [durB, Bool.and_eq_true] at h
    obtain ⟨is, rfl, hi⟩ := all_ints h.2
    obtain ⟨z, hz, e⟩ := List.any_eq_true.mp h.1
    rw [decide_eq_true_eq, List.length_map] at e
    exact ⟨is, rfl, e ▸ hz, hi⟩
  | _ => cases h
theorem pair_of {is : List Int} (h : (is.length : Int) ∈ [(2 : Int)]) : ∃ a b, is = [a, b] := by
  simp only [List.mem_cons, List.not_mem_nil, or_false] at h
  match is, h with
  | [a, b], _ => exact ⟨a, b, rfl⟩
  | [], h => simp at h
  | [_], h => simp at h
  | _ :: _ :: _ :: _, h => simp only [List.length_cons] at h; omega
/-- what is refused nowhere is a table -/
theorem tb_due {d : D} (h : due d = .non) : Tb 8 d := by
  cases look d with
  | no _ e => rw [e] at h; cases h
  | len _ _ e => rw [e] at h; cases h
  | key _ _ e => rw [e] at h; cases h
  | hv x u b =>
    by_cases hx : x = "halves"
    · subst hx
      have e : due (.tup [.str "halves", u, b]) = badH u b := by simp only [due, if_true]
      rw [e] at h
      have a := bad_all h
      obtain ⟨i, rfl, i1, i2⟩ := whole_int (a ("unit", wholeB u 1 99999) (by simp))
      obtain ⟨j, rfl, j1, j2⟩ := whole_int (a ("bits", wholeB b 1 8) (by simp))
      exact .hv i j i1 i2 j1 j2
    · simp only [due, hx, if_false] at h
      cases h
  | pr x h' z o s b =>
    by_cases hx : x = "pairs"
    · subst hx
      have e : due (.tup [.str "pairs", h', z, o, s, b]) = badP h' z o s b := by simp only [due, if_true]
      rw [e] at h
      have a := bad_all h
      obtain ⟨hs, rfl, hl, hh⟩ := dur_ints (a ("header", durB [0, 2, 4] h') (by simp))
      obtain ⟨zs, rfl, zl, hz⟩ := dur_ints (a ("zero", durB [2] z) (by simp))
      have a3 := a ("one", durB [2] o && !eqv o (.tup (zs.map D.int))) (by simp)
      rw [Bool.and_eq_true] at a3
      obtain ⟨os, rfl, ol, ho⟩ := dur_ints a3.1
      obtain ⟨i, rfl, i1, i2⟩ := whole_int (a ("stop", wholeB s 1 99999) (by simp))
      obtain ⟨j, rfl, j1, j2⟩ := whole_int (a ("bits", wholeB b 1 8) (by simp))
      obtain ⟨z0, z1, rfl⟩ := pair_of zl
      obtain ⟨o0, o1, rfl⟩ := pair_of ol
      have ne := a3.2
      simp only [eqv, eqvs_ints, Bool.not_eq_true', decide_eq_false_iff_not] at ne
      refine .pr hs z0 z1 o0 o1 i j ?_ hh (hz z0 (by simp)).1 (hz z0 (by simp)).2 (hz z1 (by simp)).1 (hz z1 (by simp)).2 (ho o0 (by simp)).1 (ho o0 (by simp)).2 (ho o1 (by simp)).1 (ho o1 (by simp)).2 i1 i2 (fun e => ne (by rw [e.1, e.2])) j1 j2
      simp only [List.mem_cons, List.not_mem_nil, or_false] at hl
      omega
    · simp only [due, hx, if_false] at h
      cases h
theorem rkI {i : Int} (h1 : 1 ≤ i) (h2 : i ≤ 99999) : Rk 6 0 (.int i) := Rk.int (e := 5) (by omega) (by omega) (by omega)
theorem rkIs {is : List Int} (h : ∀ i ∈ is, 1 ≤ i ∧ i ≤ 99999) (hl : is.length ≤ 4) : Rk 35 1 (.tup (is.map D.int)) := by
  have := Rk.tup (b := 6) (n := 0) (xs := is.map D.int) (fun d hd => by
    obtain ⟨i, hi, rfl⟩ := List.mem_map.mp hd
    exact rkI (h i hi).1 (h i hi).2)
  refine this.up ?_ (by omega)
  rw [List.length_map]; omega
theorem tb_rk {d : D} (h : Tb 8 d) : Rk 1000 2 d := by
  cases h with
  | hv z b z0 z1 b0 b1 => 
    refine (Rk.tup (b := 35) (n := 1) (Rk.cons (b' := 10) (n' := 0) (Rk.str (by decide +kernel) (by decide +kernel)) (by omega) (by omega) (Rk.cons (rkI z0 z1) (by omega) (by omega) (Rk.cons (rkI b0 (by omega)) (by omega) (by omega) Rk.nil)))).up (by simp) (by omega)
  | pr hs z0 z1 o0 o1 st b hc hh a1 a2 a3 a4 a5 a6 a7 a8 a9 a10 hne b0 b1 =>
    refine (Rk.tup (b := 35) (n := 1) (Rk.cons (b' := 10) (n' := 0) (Rk.str (by decide +kernel) (by decide +kernel)) (by omega) (by omega) (Rk.cons (rkIs hh (by omega)) (by omega) (by omega) (Rk.cons (rkIs (is := [z0, z1]) (by simp; omega) (by simp)) (by omega) (by omega) (Rk.cons (rkIs (is := [o0, o1]) (by simp; omega) (by simp)) (by omega) (by omega) (Rk.cons (rkI a9 a10) (by omega) (by omega) (Rk.cons (rkI b0 (by omega)) (by omega) (by omega) Rk.nil))))))).up (by simp) (by omega)
theorem due_cases (d : D) : due d = .non ∨ ∃ x, due d = .str x := by
  unfold due
  split
  · split
    · exact bad_cases _
    · exact .inr ⟨_, rfl⟩
  · split
    · exact bad_cases _
    · exact .inr ⟨_, rfl⟩
  · exact .inr ⟨_, rfl⟩
theorem ints_p0 (xs : List Int) : ∀ d ∈ xs.map D.int, P0 d := fun d hd => by
  obtain ⟨i, _, rfl⟩ := List.mem_map.mp hd
  exact .int i
theorem mem1 {p : D → Prop} {x : D} {xs : List D} (h : p x) (t : ∀ d ∈ xs, p d) : ∀ d ∈ x :: xs, p d := fun d hd => by
  rcases List.mem_cons.mp hd with e | hd
  · subst e; exact h
  · exact t d hd
theorem mem0 {p : D → Prop} : ∀ d ∈ ([] : List D), p d := fun d hd => by cases hd
theorem tb_p2 {d : D} (h : Tb 8 d) : P2 6 d := by
  cases h with
  | hv z b z0 z1 b0 b1 => exact .tup (by simp) (mem1 (.up (.str (by decide +kernel))) (mem1 (.up (.int z)) (mem1 (.up (.int b)) mem0)))
  | pr hs z0 z1 o0 o1 st b hc hh a1 a2 a3 a4 a5 a6 a7 a8 a9 a10 hne b0 b1 =>
    exact .tup (by simp) (mem1 (.up (.str (by decide +kernel))) (mem1 (.tup (by rw [List.length_map]; omega) (ints_p0 hs)) (mem1 (.tup (by simp) (ints_p0 [z0, z1])) (mem1 (.tup (by simp) (ints_p0 [o0, o1])) (mem1 (.up (.int st)) (mem1 (.up (.int b)) mem0))))))
theorem tb_non {d : D} (h : Tb 8 d) : due d = .non := by
  have w := wrong_part_ok (ms := []) h
  have p := due_items (tb_p2 h)
  cases h with
  | hv z b z0 z1 b0 b1 =>
    have e : due (.tup [.str "halves", .int z, .int b]) = badH (.int z) (.int b) := by simp only [due, if_true]
    rw [e]
    have w2 := wrong_halves (ms := []) (L := 6) (u := .int z) (b := .int b) (.up (.int z)) (.up (.int b))
    rw [w] at w2
    exact (R.ok.inj w2).1.symm
  | pr hs z0 z1 o0 o1 st b hc hh a1 a2 a3 a4 a5 a6 a7 a8 a9 a10 hne b0 b1 =>
    have w2 := wrong_pairs (ms := []) (L := 6) (h := .tup (hs.map D.int)) (z := .tup [.int z0, .int z1]) (o := .tup [.int o0, .int o1]) (s := .int st) (b := .int b) (by omega) (p _ rfl _ (by simp)) (p _ rfl _ (by simp)) (p _ rfl _ (by simp)) (.up (.int st)) (.up (.int b))
    rw [w] at w2
    have e : due (.tup [.str "pairs", .tup (hs.map D.int), .tup [.int z0, .int z1], .tup [.int o0, .int o1], .int st, .int b]) = badP (.tup (hs.map D.int)) (.tup [.int z0, .int z1]) (.tup [.int o0, .int o1]) (.int st) (.int b) := by simp only [due, if_true]
    rw [e]
    exact (R.ok.inj w2).1.symm
end
end U

/-! ratios: what the class's methods give -/
namespace U
open PySem L2 DL
section
variable {ms : MS}
theorem isiR_rat {n d : Int} : isiR ms (.rat n d) = some true := rfl
theorem fnum {n m : Int} : fldD [(0, true)] "own_num" ms (.rat n m) = some (.int n) := fld_num rfl
theorem fden {n m : Int} : fldD [(0, true)] "own_den" ms (.rat n m) = some (.int m) := fld_den rfl
theorem mul_ok {i j : Int} (h : mulOk i j = true) : mulD ms (.int i) (.int j) = some (.int (i * j)) := by
  show (if mulOk i j = true then some (D.int (i * j)) else none) = _
  rw [if_pos h]
theorem ratLt : CmpF F_Ratio_lt fun x y => decide (x < y) := fun n d n' d' ms h1 h2 => cutF_here (by
  simp only [b_Ratio_lt, runD_ap, List.map_cons, List.map_nil, List.length_cons, List.length_nil, Nat.reduceAdd, Nat.reduceSub, List.replicate, List.cons_append, List.nil_append, sSeq_ap, sAsg_ap, sBin_ap, sCst_ap, kBin1_ok, sCall_ap, sCons_ap, sVar_ap, List.getElem?_cons_zero, List.getElem?_cons_succ, vR_some, kC1_ok, sNil_ap, kC2_ok, kCall_ok, ↓reduceIte, kBin2_ok, optR_some, kAsg_ok, gNm_ap, asgO_some, List.set_cons_succ, List.set_cons_zero, next_nx, next_ret, next_err, sIf_ap, sTst_ap, kTst_ok, kIf_f, kIf_t, sSkip_ap, sBif_ap, kBif_ok, sPar_ap, sTup_ap, kTup_ok, Nat.reduceLeDiff, kPar_ok, setAll, sRet_ap, kRet_ok, out_ret, out_nx, out_err, gTu_tup, gTu_lst, gsC_nm, gsC_tu, gsK_some, gsN, sNewL_ap, kNewL_ok, sAppend_ap, kApp0_some, kApp_ok, sAndV_ap, kAndV_ok, kAndV2_t, kAndV2_f, sOrV_ap, kOrV_ok, kOrV2_t, kOrV2_f, tru_bl, sIte_ap, kIte_t, kIte_f, sLst_ap, kLst_ok, sFor_ap, kFor_ok, sItems_ap, kItems_ok, itemsD, sNeg_ap, kNeg_ok, sSlc_ap, kS1_ok, kS2_ok, kS3_ok, sPart_ap, kPart_ok, sNoPart_ap, sOrT_ap, kOrT_f, kOrT_t, sAndT_ap, kAndT_t, kAndT_f, sNotT_ap, kNotT_ok, sNotV_ap, kNotV_ok, kNotV2_ok, sTru_ap, kTru_ok, sIsi_ap, kIsi_ok, sCallK_ap, kK1_ok, kK2_ok, and_self, sDrop_ap, kDrop_ok, sRetN_ap, sChain_ap, kCh1_ok, kCh2_ok, kCh3_t, kCh3_f, kCh4_ok, sTab_ap, kTab_ok, sAug_ap, kAug0_some, kAug1_ok, augO_some, iadd_int, isub_int, Bool.not_true, Bool.not_false, add_int, sub_int, eq_int, ne_int, lt_int, le_int, gt_int, ge_int, eq_str, ne_str, len_lst, len_tup, sRange1_ap, kRange1_ok, eq_self, decide_true, decide_false, eq_self_iff_true, pm_nil, pm_cons, sRev_ap, kRev_ok, rev_tup, rev_lst, sRaise_ap, kRaise_ok, sTry_ap, kTry_nx, kTry_ret, sTryF_ap, kTryF_nx, kAsg_err, kBin1_err, kBin2_err, kCall_err, kC1_err, kC2_err, kRet_err, kDrop_err, kIf_err, sIsiR_ap, kIsiR_ok, isiR_rat, Option.map_some, sFld_ap, kFld_ok, fnum, fden, mul_ok h1, mul_ok h2]) rfl
theorem ratLe : CmpF F_Ratio_le fun x y => decide (x ≤ y) := fun n d n' d' ms h1 h2 => cutF_here (by
  simp only [b_Ratio_le, runD_ap, List.map_cons, List.map_nil, List.length_cons, List.length_nil, Nat.reduceAdd, Nat.reduceSub, List.replicate, List.cons_append, List.nil_append, sSeq_ap, sAsg_ap, sBin_ap, sCst_ap, kBin1_ok, sCall_ap, sCons_ap, sVar_ap, List.getElem?_cons_zero, List.getElem?_cons_succ, vR_some, kC1_ok, sNil_ap, kC2_ok, kCall_ok, ↓reduceIte, kBin2_ok, optR_some, kAsg_ok, gNm_ap, asgO_some, List.set_cons_succ, List.set_cons_zero, next_nx, next_ret, next_err, sIf_ap, sTst_ap, kTst_ok, kIf_f, kIf_t, sSkip_ap, sBif_ap, kBif_ok, sPar_ap, sTup_ap, kTup_ok, Nat.reduceLeDiff, kPar_ok, setAll, sRet_ap, kRet_ok, out_ret, out_nx, out_err, gTu_tup, gTu_lst, gsC_nm, gsC_tu, gsK_some, gsN, sNewL_ap, kNewL_ok, sAppend_ap, kApp0_some, kApp_ok, sAndV_ap, kAndV_ok, kAndV2_t, kAndV2_f, sOrV_ap, kOrV_ok, kOrV2_t, kOrV2_f, tru_bl, sIte_ap, kIte_t, kIte_f, sLst_ap, kLst_ok, sFor_ap, kFor_ok, sItems_ap, kItems_ok, itemsD, sNeg_ap, kNeg_ok, sSlc_ap, kS1_ok, kS2_ok, kS3_ok, sPart_ap, kPart_ok, sNoPart_ap, sOrT_ap, kOrT_f, kOrT_t, sAndT_ap, kAndT_t, kAndT_f, sNotT_ap, kNotT_ok, sNotV_ap, kNotV_ok, kNotV2_ok, sTru_ap, kTru_ok, sIsi_ap, kIsi_ok, sCallK_ap, kK1_ok, kK2_ok, and_self, sDrop_ap, kDrop_ok, sRetN_ap, sChain_ap, kCh1_ok, kCh2_ok, kCh3_t, kCh3_f, kCh4_ok, sTab_ap, kTab_ok, sAug_ap, kAug0_some, kAug1_ok, augO_some, iadd_int, isub_int, Bool.not_true, Bool.not_false, add_int, sub_int, eq_int, ne_int, lt_int, le_int, gt_int, ge_int, eq_str, ne_str, len_lst, len_tup, sRange1_ap, kRange1_ok, eq_self, decide_true, decide_false, eq_self_iff_true, pm_nil, pm_cons, sRev_ap, kRev_ok, rev_tup, rev_lst, sRaise_ap, kRaise_ok, sTry_ap, kTry_nx, kTry_ret, sTryF_ap, kTryF_nx, kAsg_err, kBin1_err, kBin2_err, kCall_err, kC1_err, kC2_err, kRet_err, kDrop_err, kIf_err, sIsiR_ap, kIsiR_ok, isiR_rat, Option.map_some, sFld_ap, kFld_ok, fnum, fden, mul_ok h1, mul_ok h2]) rfl
theorem ratGt : CmpF F_Ratio_gt fun x y => decide (y < x) := fun n d n' d' ms h1 h2 => cutF_here (by
  simp only [b_Ratio_gt, runD_ap, List.map_cons, List.map_nil, List.length_cons, List.length_nil, Nat.reduceAdd, Nat.reduceSub, List.replicate, List.cons_append, List.nil_append, sSeq_ap, sAsg_ap, sBin_ap, sCst_ap, kBin1_ok, sCall_ap, sCons_ap, sVar_ap, List.getElem?_cons_zero, List.getElem?_cons_succ, vR_some, kC1_ok, sNil_ap, kC2_ok, kCall_ok, ↓reduceIte, kBin2_ok, optR_some, kAsg_ok, gNm_ap, asgO_some, List.set_cons_succ, List.set_cons_zero, next_nx, next_ret, next_err, sIf_ap, sTst_ap, kTst_ok, kIf_f, kIf_t, sSkip_ap, sBif_ap, kBif_ok, sPar_ap, sTup_ap, kTup_ok, Nat.reduceLeDiff, kPar_ok, setAll, sRet_ap, kRet_ok, out_ret, out_nx, out_err, gTu_tup, gTu_lst, gsC_nm, gsC_tu, gsK_some, gsN, sNewL_ap, kNewL_ok, sAppend_ap, kApp0_some, kApp_ok, sAndV_ap, kAndV_ok, kAndV2_t, kAndV2_f, sOrV_ap, kOrV_ok, kOrV2_t, kOrV2_f, tru_bl, sIte_ap, kIte_t, kIte_f, sLst_ap, kLst_ok, sFor_ap, kFor_ok, sItems_ap, kItems_ok, itemsD, sNeg_ap, kNeg_ok, sSlc_ap, kS1_ok, kS2_ok, kS3_ok, sPart_ap, kPart_ok, sNoPart_ap, sOrT_ap, kOrT_f, kOrT_t, sAndT_ap, kAndT_t, kAndT_f, sNotT_ap, kNotT_ok, sNotV_ap, kNotV_ok, kNotV2_ok, sTru_ap, kTru_ok, sIsi_ap, kIsi_ok, sCallK_ap, kK1_ok, kK2_ok, and_self, sDrop_ap, kDrop_ok, sRetN_ap, sChain_ap, kCh1_ok, kCh2_ok, kCh3_t, kCh3_f, kCh4_ok, sTab_ap, kTab_ok, sAug_ap, kAug0_some, kAug1_ok, augO_some, iadd_int, isub_int, Bool.not_true, Bool.not_false, add_int, sub_int, eq_int, ne_int, lt_int, le_int, gt_int, ge_int, eq_str, ne_str, len_lst, len_tup, sRange1_ap, kRange1_ok, eq_self, decide_true, decide_false, eq_self_iff_true, pm_nil, pm_cons, sRev_ap, kRev_ok, rev_tup, rev_lst, sRaise_ap, kRaise_ok, sTry_ap, kTry_nx, kTry_ret, sTryF_ap, kTryF_nx, kAsg_err, kBin1_err, kBin2_err, kCall_err, kC1_err, kC2_err, kRet_err, kDrop_err, kIf_err, sIsiR_ap, kIsiR_ok, isiR_rat, Option.map_some, sFld_ap, kFld_ok, fnum, fden, mul_ok h1, mul_ok h2]) rfl
theorem ratGe : CmpF F_Ratio_ge fun x y => decide (y ≤ x) := fun n d n' d' ms h1 h2 => cutF_here (by
  simp only [b_Ratio_ge, runD_ap, List.map_cons, List.map_nil, List.length_cons, List.length_nil, Nat.reduceAdd, Nat.reduceSub, List.replicate, List.cons_append, List.nil_append, sSeq_ap, sAsg_ap, sBin_ap, sCst_ap, kBin1_ok, sCall_ap, sCons_ap, sVar_ap, List.getElem?_cons_zero, List.getElem?_cons_succ, vR_some, kC1_ok, sNil_ap, kC2_ok, kCall_ok, ↓reduceIte, kBin2_ok, optR_some, kAsg_ok, gNm_ap, asgO_some, List.set_cons_succ, List.set_cons_zero, next_nx, next_ret, next_err, sIf_ap, sTst_ap, kTst_ok, kIf_f, kIf_t, sSkip_ap, sBif_ap, kBif_ok, sPar_ap, sTup_ap, kTup_ok, Nat.reduceLeDiff, kPar_ok, setAll, sRet_ap, kRet_ok, out_ret, out_nx, out_err, gTu_tup, gTu_lst, gsC_nm, gsC_tu, gsK_some, gsN, sNewL_ap, kNewL_ok, sAppend_ap, kApp0_some, kApp_ok, sAndV_ap, kAndV_ok, kAndV2_t, kAndV2_f, sOrV_ap, kOrV_ok, kOrV2_t, kOrV2_f, tru_bl, sIte_ap, kIte_t, kIte_f, sLst_ap, kLst_ok, sFor_ap, kFor_ok, sItems_ap, kItems_ok, itemsD, sNeg_ap, kNeg_ok, sSlc_ap, kS1_ok, kS2_ok, kS3_ok, sPart_ap, kPart_ok, sNoPart_ap, sOrT_ap, kOrT_f, kOrT_t, sAndT_ap, kAndT_t, kAndT_f, sNotT_ap, kNotT_ok, sNotV_ap, kNotV_ok, kNotV2_ok, sTru_ap, kTru_ok, sIsi_ap, kIsi_ok, sCallK_ap, kK1_ok, kK2_ok, and_self, sDrop_ap, kDrop_ok, sRetN_ap, sChain_ap, kCh1_ok, kCh2_ok, kCh3_t, kCh3_f, kCh4_ok, sTab_ap, kTab_ok, sAug_ap, kAug0_some, kAug1_ok, augO_some, iadd_int, isub_int, Bool.not_true, Bool.not_false, add_int, sub_int, eq_int, ne_int, lt_int, le_int, gt_int, ge_int, eq_str, ne_str, len_lst, len_tup, sRange1_ap, kRange1_ok, eq_self, decide_true, decide_false, eq_self_iff_true, pm_nil, pm_cons, sRev_ap, kRev_ok, rev_tup, rev_lst, sRaise_ap, kRaise_ok, sTry_ap, kTry_nx, kTry_ret, sTryF_ap, kTryF_nx, kAsg_err, kBin1_err, kBin2_err, kCall_err, kC1_err, kC2_err, kRet_err, kDrop_err, kIf_err, sIsiR_ap, kIsiR_ok, isiR_rat, Option.map_some, sFld_ap, kFld_ok, fnum, fden, mul_ok h1, mul_ok h2]) rfl
theorem ratEq : ∀ (n d n' d' : Int) (ms : MS), F_Ratio_eq [.rat n d, .rat n' d'] ms = .ok (.bl (decide (n = n') && decide (d = d'))) ms := fun n d n' d' ms => cutF_here (by
  by_cases h : n = n'
  · subst h
    simp only [b_Ratio_eq, runD_ap, List.map_cons, List.map_nil, List.length_cons, List.length_nil, Nat.reduceAdd, Nat.reduceSub, List.replicate, List.cons_append, List.nil_append, sSeq_ap, sAsg_ap, sBin_ap, sCst_ap, kBin1_ok, sCall_ap, sCons_ap, sVar_ap, List.getElem?_cons_zero, List.getElem?_cons_succ, vR_some, kC1_ok, sNil_ap, kC2_ok, kCall_ok, ↓reduceIte, kBin2_ok, optR_some, kAsg_ok, gNm_ap, asgO_some, List.set_cons_succ, List.set_cons_zero, next_nx, next_ret, next_err, sIf_ap, sTst_ap, kTst_ok, kIf_f, kIf_t, sSkip_ap, sBif_ap, kBif_ok, sPar_ap, sTup_ap, kTup_ok, Nat.reduceLeDiff, kPar_ok, setAll, sRet_ap, kRet_ok, out_ret, out_nx, out_err, gTu_tup, gTu_lst, gsC_nm, gsC_tu, gsK_some, gsN, sNewL_ap, kNewL_ok, sAppend_ap, kApp0_some, kApp_ok, sAndV_ap, kAndV_ok, kAndV2_t, kAndV2_f, sOrV_ap, kOrV_ok, kOrV2_t, kOrV2_f, tru_bl, sIte_ap, kIte_t, kIte_f, sLst_ap, kLst_ok, sFor_ap, kFor_ok, sItems_ap, kItems_ok, itemsD, sNeg_ap, kNeg_ok, sSlc_ap, kS1_ok, kS2_ok, kS3_ok, sPart_ap, kPart_ok, sNoPart_ap, sOrT_ap, kOrT_f, kOrT_t, sAndT_ap, kAndT_t, kAndT_f, sNotT_ap, kNotT_ok, sNotV_ap, kNotV_ok, kNotV2_ok, sTru_ap, kTru_ok, sIsi_ap, kIsi_ok, sCallK_ap, kK1_ok, kK2_ok, and_self, sDrop_ap, kDrop_ok, sRetN_ap, sChain_ap, kCh1_ok, kCh2_ok, kCh3_t, kCh3_f, kCh4_ok, sTab_ap, kTab_ok, sAug_ap, kAug0_some, kAug1_ok, augO_some, iadd_int, isub_int, Bool.not_true, Bool.not_false, add_int, sub_int, eq_int, ne_int, lt_int, le_int, gt_int, ge_int, eq_str, ne_str, len_lst, len_tup, sRange1_ap, kRange1_ok, eq_self, decide_true, decide_false, eq_self_iff_true, pm_nil, pm_cons, sRev_ap, kRev_ok, rev_tup, rev_lst, sRaise_ap, kRaise_ok, sTry_ap, kTry_nx, kTry_ret, sTryF_ap, kTryF_nx, kAsg_err, kBin1_err, kBin2_err, kCall_err, kC1_err, kC2_err, kRet_err, kDrop_err, kIf_err, sIsiR_ap, kIsiR_ok, isiR_rat, Option.map_some, sFld_ap, kFld_ok, fnum, fden, Bool.true_and]
  · have h' : decide (n = n') = false := decide_eq_false h
    simp only [b_Ratio_eq, runD_ap, List.map_cons, List.map_nil, List.length_cons, List.length_nil, Nat.reduceAdd, Nat.reduceSub, List.replicate, List.cons_append, List.nil_append, sSeq_ap, sAsg_ap, sBin_ap, sCst_ap, kBin1_ok, sCall_ap, sCons_ap, sVar_ap, List.getElem?_cons_zero, List.getElem?_cons_succ, vR_some, kC1_ok, sNil_ap, kC2_ok, kCall_ok, ↓reduceIte, kBin2_ok, optR_some, kAsg_ok, gNm_ap, asgO_some, List.set_cons_succ, List.set_cons_zero, next_nx, next_ret, next_err, sIf_ap, sTst_ap, kTst_ok, kIf_f, kIf_t, sSkip_ap, sBif_ap, kBif_ok, sPar_ap, sTup_ap, kTup_ok, Nat.reduceLeDiff, kPar_ok, setAll, sRet_ap, kRet_ok, out_ret, out_nx, out_err, gTu_tup, gTu_lst, gsC_nm, gsC_tu, gsK_some, gsN, sNewL_ap, kNewL_ok, sAppend_ap, kApp0_some, kApp_ok, sAndV_ap, kAndV_ok, kAndV2_t, kAndV2_f, sOrV_ap, kOrV_ok, kOrV2_t, kOrV2_f, tru_bl, sIte_ap, kIte_t, kIte_f, sLst_ap, kLst_ok, sFor_ap, kFor_ok, sItems_ap, kItems_ok, itemsD, sNeg_ap, kNeg_ok, sSlc_ap, kS1_ok, kS2_ok, kS3_ok, sPart_ap, kPart_ok, sNoPart_ap, sOrT_ap, kOrT_f, kOrT_t, sAndT_ap, kAndT_t, kAndT_f, sNotT_ap, kNotT_ok, sNotV_ap, kNotV_ok, kNotV2_ok, sTru_ap, kTru_ok, sIsi_ap, kIsi_ok, sCallK_ap, kK1_ok, kK2_ok, and_self, sDrop_ap, kDrop_ok, sRetN_ap, sChain_ap, kCh1_ok, kCh2_ok, kCh3_t, kCh3_f, kCh4_ok, sTab_ap, kTab_ok, sAug_ap, kAug0_some, kAug1_ok, augO_some, iadd_int, isub_int, Bool.not_true, Bool.not_false, add_int, sub_int, eq_int, ne_int, lt_int, le_int, gt_int, ge_int, eq_str, ne_str, len_lst, len_tup, sRange1_ap, kRange1_ok, eq_self, decide_true, decide_false, eq_self_iff_true, pm_nil, pm_cons, sRev_ap, kRev_ok, rev_tup, rev_lst, sRaise_ap, kRaise_ok, sTry_ap, kTry_nx, kTry_ret, sTryF_ap, kTryF_nx, kAsg_err, kBin1_err, kBin2_err, kCall_err, kC1_err, kC2_err, kRet_err, kDrop_err, kIf_err, sIsiR_ap, kIsiR_ok, isiR_rat, Option.map_some, sFld_ap, kFld_ok, fnum, fden, h', Bool.false_and]) rfl
end
end U

/-! ratios: the greatest common divisor, making -/
namespace U
open PySem L2 DL
section
variable {ms : MS} {env : DE}
noncomputable abbrev gcC : ST := sTst (sBin gtD (sVar 1) (sCst (.int 0)))
noncomputable abbrev gcB : SS := sPar [0, 1] (sCons (sVar 1) (sCons (sBin modD (sVar 0) (sVar 1)) sNil))
theorem gc_end {a : D} {fuel : Nat} : whileN gcC gcB (fuel + 1) [some a, some (.int 0)] ms = .nx [some a, some (.int 0)] ms := while_end (by kernel_rfl)
theorem gc_step {a b fuel : Nat} (h : 0 < b) : whileN gcC gcB (fuel + 1) [some (.int a), some (.int b)] ms = whileN gcC gcB fuel [some (.int b), some (.int (a % b : Nat))] ms := by
  have hb : decide ((0 : Int) < (b : Int)) = true := decide_eq_true (by omega)
  have hm : ∀ m : MS, modD m (.int a) (.int b) = some (.int ((a % b : Nat) : Int)) := fun m => by rw [mod_int (by omega)]; rfl
  refine while_step (ms1 := ms) ?_ ?_
  · simp only [gcC, runD_ap, List.map_cons, List.map_nil, List.length_cons, List.length_nil, Nat.reduceAdd, Nat.reduceSub, List.replicate, List.cons_append, List.nil_append, sSeq_ap, sAsg_ap, sBin_ap, sCst_ap, kBin1_ok, sCall_ap, sCons_ap, sVar_ap, List.getElem?_cons_zero, List.getElem?_cons_succ, vR_some, kC1_ok, sNil_ap, kC2_ok, kCall_ok, ↓reduceIte, kBin2_ok, optR_some, kAsg_ok, gNm_ap, asgO_some, List.set_cons_succ, List.set_cons_zero, next_nx, next_ret, next_err, sIf_ap, sTst_ap, kTst_ok, kIf_f, kIf_t, sSkip_ap, sBif_ap, kBif_ok, sPar_ap, sTup_ap, kTup_ok, Nat.reduceLeDiff, kPar_ok, setAll, sRet_ap, kRet_ok, out_ret, out_nx, out_err, gTu_tup, gTu_lst, gsC_nm, gsC_tu, gsK_some, gsN, sNewL_ap, kNewL_ok, sAppend_ap, kApp0_some, kApp_ok, sAndV_ap, kAndV_ok, kAndV2_t, kAndV2_f, sOrV_ap, kOrV_ok, kOrV2_t, kOrV2_f, tru_bl, sIte_ap, kIte_t, kIte_f, sLst_ap, kLst_ok, sFor_ap, kFor_ok, sItems_ap, kItems_ok, itemsD, sNeg_ap, kNeg_ok, sSlc_ap, kS1_ok, kS2_ok, kS3_ok, sPart_ap, kPart_ok, sNoPart_ap, sOrT_ap, kOrT_f, kOrT_t, sAndT_ap, kAndT_t, kAndT_f, sNotT_ap, kNotT_ok, sNotV_ap, kNotV_ok, kNotV2_ok, sTru_ap, kTru_ok, sIsi_ap, kIsi_ok, sCallK_ap, kK1_ok, kK2_ok, and_self, sDrop_ap, kDrop_ok, sRetN_ap, sChain_ap, kCh1_ok, kCh2_ok, kCh3_t, kCh3_f, kCh4_ok, sTab_ap, kTab_ok, sAug_ap, kAug0_some, kAug1_ok, augO_some, iadd_int, isub_int, Bool.not_true, Bool.not_false, add_int, sub_int, eq_int, ne_int, lt_int, le_int, gt_int, ge_int, eq_str, ne_str, len_lst, len_tup, sRange1_ap, kRange1_ok, eq_self, decide_true, decide_false, eq_self_iff_true, pm_nil, pm_cons, sRev_ap, kRev_ok, rev_tup, rev_lst, sRaise_ap, kRaise_ok, sTry_ap, kTry_nx, kTry_ret, sTryF_ap, kTryF_nx, kAsg_err, kBin1_err, kBin2_err, kCall_err, kC1_err, kC2_err, kRet_err, kDrop_err, kIf_err, hb]
  · simp only [gcB, runD_ap, List.map_cons, List.map_nil, List.length_cons, List.length_nil, Nat.reduceAdd, Nat.reduceSub, List.replicate, List.cons_append, List.nil_append, sSeq_ap, sAsg_ap, sBin_ap, sCst_ap, kBin1_ok, sCall_ap, sCons_ap, sVar_ap, List.getElem?_cons_zero, List.getElem?_cons_succ, vR_some, kC1_ok, sNil_ap, kC2_ok, kCall_ok, ↓reduceIte, kBin2_ok, optR_some, kAsg_ok, gNm_ap, asgO_some, List.set_cons_succ, List.set_cons_zero, next_nx, next_ret, next_err, sIf_ap, sTst_ap, kTst_ok, kIf_f, kIf_t, sSkip_ap, sBif_ap, kBif_ok, sPar_ap, sTup_ap, kTup_ok, Nat.reduceLeDiff, kPar_ok, setAll, sRet_ap, kRet_ok, out_ret, out_nx, out_err, gTu_tup, gTu_lst, gsC_nm, gsC_tu, gsK_some, gsN, sNewL_ap, kNewL_ok, sAppend_ap, kApp0_some, kApp_ok, sAndV_ap, kAndV_ok, kAndV2_t, kAndV2_f, sOrV_ap, kOrV_ok, kOrV2_t, kOrV2_f, tru_bl, sIte_ap, kIte_t, kIte_f, sLst_ap, kLst_ok, sFor_ap, kFor_ok, sItems_ap, kItems_ok, itemsD, sNeg_ap, kNeg_ok, sSlc_ap, kS1_ok, kS2_ok, kS3_ok, sPart_ap, kPart_ok, sNoPart_ap, sOrT_ap, kOrT_f, kOrT_t, sAndT_ap, kAndT_t, kAndT_f, sNotT_ap, kNotT_ok, sNotV_ap, kNotV_ok, kNotV2_ok, sTru_ap, kTru_ok, sIsi_ap, kIsi_ok, sCallK_ap, kK1_ok, kK2_ok, and_self, sDrop_ap, kDrop_ok, sRetN_ap, sChain_ap, kCh1_ok, kCh2_ok, kCh3_t, kCh3_f, kCh4_ok, sTab_ap, kTab_ok, sAug_ap, kAug0_some, kAug1_ok, augO_some, iadd_int, isub_int, Bool.not_true, Bool.not_false, add_int, sub_int, eq_int, ne_int, lt_int, le_int, gt_int, ge_int, eq_str, ne_str, len_lst, len_tup, sRange1_ap, kRange1_ok, eq_self, decide_true, decide_false, eq_self_iff_true, pm_nil, pm_cons, sRev_ap, kRev_ok, rev_tup, rev_lst, sRaise_ap, kRaise_ok, sTry_ap, kTry_nx, kTry_ret, sTryF_ap, kTryF_nx, kAsg_err, kBin1_err, kBin2_err, kCall_err, kC1_err, kC2_err, kRet_err, kDrop_err, kIf_err, hm]
theorem gc_go : ∀ (k a b fuel : Nat), b < 2 ^ k → 2 * k + 1 ≤ fuel → whileN gcC gcB fuel [some (.int a), some (.int b)] ms = .nx [some (.int (Nat.gcd a b)), some (.int 0)] ms
  | 0, a, b, fuel, hb, hf => by
    have : b = 0 := by simpa using hb
    subst this
    obtain ⟨f, rfl⟩ : ∃ f, fuel = f + 1 := ⟨fuel - 1, by omega⟩
    rw [Nat.gcd_zero_right]
    exact gc_end
  | k + 1, a, b, fuel, hb, hf => by
    obtain ⟨f, rfl⟩ : ∃ f, fuel = f + 1 + 1 := ⟨fuel - 2, by omega⟩
    by_cases h0 : b = 0
    · subst h0
      rw [Nat.gcd_zero_right]
      exact gc_end
    · rw [gc_step (by omega)]
      have hr : a % b < b := Nat.mod_lt _ (by omega)
      have hg : Nat.gcd a b = Nat.gcd b (a % b) := by rw [Nat.gcd_comm a b, Nat.gcd_rec b a, Nat.gcd_comm]
      rw [hg]
      by_cases h1 : a % b = 0
      · rw [h1, Nat.gcd_zero_right]
        exact gc_end
      · rw [gc_step (by omega)]
        have hg2 : Nat.gcd b (a % b) = Nat.gcd (a % b) (b % (a % b)) := by rw [Nat.gcd_comm b, Nat.gcd_rec (a % b) b, Nat.gcd_comm]
        rw [hg2]
        refine gc_go k _ _ f ?_ (by omega)
        have e := Nat.div_add_mod b (a % b)
        have hq : 1 ≤ b / (a % b) := (Nat.one_le_div_iff (by omega)).mpr (by omega)
        have hm := Nat.mod_lt b (show 0 < a % b by omega)
        have hle : a % b ≤ (a % b) * (b / (a % b)) := Nat.le_mul_of_pos_right _ (by omega)
        have : 2 ^ (k + 1) = 2 * 2 ^ k := by rw [Nat.pow_succ, Nat.mul_comm]
        omega
theorem shared_ok {a b : Nat} (hb : b < 2 ^ 400000) : F_shared_by [.int a, .int b] ms = .ok (.int (Nat.gcd a b)) ms := by
  refine cutF_here ?_ rfl
  have go := gc_go (ms := ms) 400000 a b 1000000 hb (by omega)
  have e : b_shared_by = (sSeq (whileN gcC gcB 1000000) (sRet (sVar 0))) := rfl
  rw [e]
  generalize (2 : Nat) ^ 400000 = Z at hb
  generalize whileN gcC gcB 1000000 = W at go ⊢
  simp only [runD_ap, List.map_cons, List.map_nil, List.length_cons, List.length_nil, Nat.reduceAdd, Nat.reduceSub, List.replicate, List.cons_append, List.nil_append, sSeq_ap, sAsg_ap, sBin_ap, sCst_ap, kBin1_ok, sCall_ap, sCons_ap, sVar_ap, List.getElem?_cons_zero, List.getElem?_cons_succ, vR_some, kC1_ok, sNil_ap, kC2_ok, kCall_ok, ↓reduceIte, kBin2_ok, optR_some, kAsg_ok, gNm_ap, asgO_some, List.set_cons_succ, List.set_cons_zero, next_nx, next_ret, next_err, sIf_ap, sTst_ap, kTst_ok, kIf_f, kIf_t, sSkip_ap, sBif_ap, kBif_ok, sPar_ap, sTup_ap, kTup_ok, Nat.reduceLeDiff, kPar_ok, setAll, sRet_ap, kRet_ok, out_ret, out_nx, out_err, gTu_tup, gTu_lst, gsC_nm, gsC_tu, gsK_some, gsN, sNewL_ap, kNewL_ok, sAppend_ap, kApp0_some, kApp_ok, sAndV_ap, kAndV_ok, kAndV2_t, kAndV2_f, sOrV_ap, kOrV_ok, kOrV2_t, kOrV2_f, tru_bl, sIte_ap, kIte_t, kIte_f, sLst_ap, kLst_ok, sFor_ap, kFor_ok, sItems_ap, kItems_ok, itemsD, sNeg_ap, kNeg_ok, sSlc_ap, kS1_ok, kS2_ok, kS3_ok, sPart_ap, kPart_ok, sNoPart_ap, sOrT_ap, kOrT_f, kOrT_t, sAndT_ap, kAndT_t, kAndT_f, sNotT_ap, kNotT_ok, sNotV_ap, kNotV_ok, kNotV2_ok, sTru_ap, kTru_ok, sIsi_ap, kIsi_ok, sCallK_ap, kK1_ok, kK2_ok, and_self, sDrop_ap, kDrop_ok, sRetN_ap, sChain_ap, kCh1_ok, kCh2_ok, kCh3_t, kCh3_f, kCh4_ok, sTab_ap, kTab_ok, sAug_ap, kAug0_some, kAug1_ok, augO_some, iadd_int, isub_int, Bool.not_true, Bool.not_false, add_int, sub_int, eq_int, ne_int, lt_int, le_int, gt_int, ge_int, eq_str, ne_str, len_lst, len_tup, sRange1_ap, kRange1_ok, eq_self, decide_true, decide_false, eq_self_iff_true, pm_nil, pm_cons, sRev_ap, kRev_ok, rev_tup, rev_lst, sRaise_ap, kRaise_ok, sTry_ap, kTry_nx, kTry_ret, sTryF_ap, kTryF_nx, kAsg_err, kBin1_err, kBin2_err, kCall_err, kC1_err, kC2_err, kRet_err, kDrop_err, kIf_err, go]
theorem fdiv_pos {i j : Int} (h : 0 < j) (k : j.natAbs.log2 < 9000) : fdivD ms (.int i) (.int j) = some (.int (i / j)) := by
  show (if 0 < j ∧ j.natAbs.log2 < 9000 then some (D.int (i / j)) else none) = _
  rw [if_pos ⟨h, k⟩]
noncomputable abbrev initC : ST := (sOrT (sNotT (sTru (sCall F_is_integer 1 (sCons (sVar 1) sNil)))) (sOrT (sNotT (sTru (sCall F_is_integer 1 (sCons (sVar 2) sNil)))) (sOrT (sTst (sBin ltD (sVar 1) (sCst (.int 0)))) (sTst (sBin ltD (sVar 2) (sCst (.int 1)))))))
noncomputable abbrev initT : SS := (sSeq (sAsg (sCall F_shared_by 2 (sCons (sVar 2) (sCons (sVar 1) sNil))) (gNm 3))
    (sSeq (sSetF 0 0 "own_num" (sBin fdivD (sVar 1) (sVar 3)))
    (sSetF 0 0 "own_den" (sBin fdivD (sVar 2) (sVar 3)))))
theorem b_init_eq : b_Ratio_init = (sSeq (sIf initC (sRaise 0 false (sTup (sCons (sVar 1) (sCons (sVar 2) sNil)))) sSkip) initT) := rfl
theorem int_int {i : Int} : F_is_integer [.int i] ms = .ok (.bl true) ms := is_integer_ok (d := .int i) rfl
theorem put1 {d : D} : putO "own_num" d [] = ([("own_num", d)] : List (Str × D)) := rfl
theorem put2 {d e : D} : putO "own_den" e ([("own_num", d)] : List (Str × D)) = ([("own_num", d), ("own_den", e)] : List (Str × D)) := by kernel_rfl
theorem init_ok {n d : Nat} (hn : n < 2 ^ 8000) (hd : d < 2 ^ 8000) (h0 : 0 < d) : F_Ratio_init [.loc ms.length, .int n, .int d] (ms ++ [.obj 0 []]) = .ok .non (ms ++ [.obj 0 (ratD (n / Nat.gcd d n : Nat) (d / Nat.gcd d n : Nat))]) := by
  have hg : 0 < Nat.gcd d n := Nat.gcd_pos_of_pos_left _ h0
  have hgl : Nat.gcd d n ≤ d := Nat.gcd_le_left _ h0
  have lg : (Nat.gcd d n).log2 < 9000 := by
    have : Nat.gcd d n < 2 ^ 8000 := Nat.lt_of_le_of_lt hgl hd
    have h2 := (Nat.log2_lt (Nat.ne_of_gt hg)).mpr this
    omega
  have sh := fun m : MS => shared_ok (ms := m) (a := d) (b := n) (Nat.lt_of_lt_of_le hn (Nat.pow_le_pow_right (by omega) (by omega)))
  have f1 : ∀ m : MS, fdivD m (.int n) (.int (Nat.gcd d n)) = some (.int ((n / Nat.gcd d n : Nat) : Int)) := fun m => by
    rw [fdiv_pos (by omega) (by simpa using lg)]; simp
  have f2 : ∀ m : MS, fdivD m (.int d) (.int (Nat.gcd d n)) = some (.int ((d / Nat.gcd d n : Nat) : Int)) := fun m => by
    rw [fdiv_pos (by omega) (by simpa using lg)]; simp
  have i1 : ∀ m : MS, F_is_integer [.int n] m = .ok (.bl true) m := fun m => int_int
  have i2 : ∀ m : MS, F_is_integer [.int d] m = .ok (.bl true) m := fun m => int_int
  have l1 : decide ((n : Int) < 0) = false := decide_eq_false (by omega)
  have l2 : decide ((d : Int) < 1) = false := decide_eq_false (by omega)
  generalize ((n / Nat.gcd d n : Nat) : Int) = A at *
  generalize ((d / Nat.gcd d n : Nat) : Int) = B at *
  generalize ((Nat.gcd d n : Nat) : Int) = C at *
  clear hn hd lg hg hgl
  have c0 : ∀ (e3 : Option D) (m : MS), initC [some (.loc ms.length), some (.int n), some (.int d), e3] m = .ok false m := fun e3 m => by
    simp only [initC, runD_ap, List.map_cons, List.map_nil, List.length_cons, List.length_nil, Nat.reduceAdd, Nat.reduceSub, List.replicate, List.cons_append, List.nil_append, sSeq_ap, sAsg_ap, sBin_ap, sCst_ap, kBin1_ok, sCall_ap, sCons_ap, sVar_ap, List.getElem?_cons_zero, List.getElem?_cons_succ, vR_some, kC1_ok, sNil_ap, kC2_ok, kCall_ok, ↓reduceIte, kBin2_ok, optR_some, kAsg_ok, gNm_ap, asgO_some, List.set_cons_succ, List.set_cons_zero, next_nx, next_ret, next_err, sIf_ap, sTst_ap, kTst_ok, kIf_f, kIf_t, sSkip_ap, sBif_ap, kBif_ok, sPar_ap, sTup_ap, kTup_ok, Nat.reduceLeDiff, kPar_ok, setAll, sRet_ap, kRet_ok, out_ret, out_nx, out_err, gTu_tup, gTu_lst, gsC_nm, gsC_tu, gsK_some, gsN, sNewL_ap, kNewL_ok, sAppend_ap, kApp0_some, kApp_ok, sAndV_ap, kAndV_ok, kAndV2_t, kAndV2_f, sOrV_ap, kOrV_ok, kOrV2_t, kOrV2_f, tru_bl, sIte_ap, kIte_t, kIte_f, sLst_ap, kLst_ok, sFor_ap, kFor_ok, sItems_ap, kItems_ok, itemsD, sNeg_ap, kNeg_ok, sSlc_ap, kS1_ok, kS2_ok, kS3_ok, sPart_ap, kPart_ok, sNoPart_ap, sOrT_ap, kOrT_f, kOrT_t, sAndT_ap, kAndT_t, kAndT_f, sNotT_ap, kNotT_ok, sNotV_ap, kNotV_ok, kNotV2_ok, sTru_ap, kTru_ok, sIsi_ap, kIsi_ok, sCallK_ap, kK1_ok, kK2_ok, and_self, sDrop_ap, kDrop_ok, sRetN_ap, sChain_ap, kCh1_ok, kCh2_ok, kCh3_t, kCh3_f, kCh4_ok, sTab_ap, kTab_ok, sAug_ap, kAug0_some, kAug1_ok, augO_some, iadd_int, isub_int, Bool.not_true, Bool.not_false, add_int, sub_int, eq_int, ne_int, lt_int, le_int, gt_int, ge_int, eq_str, ne_str, len_lst, len_tup, sRange1_ap, kRange1_ok, eq_self, decide_true, decide_false, eq_self_iff_true, pm_nil, pm_cons, sRev_ap, kRev_ok, rev_tup, rev_lst, sRaise_ap, kRaise_ok, sTry_ap, kTry_nx, kTry_ret, sTryF_ap, kTryF_nx, kAsg_err, kBin1_err, kBin2_err, kCall_err, kC1_err, kC2_err, kRet_err, kDrop_err, kIf_err, i1, i2, l1, l2]
  have s1 : ∀ e : DE, setM 0 "own_num" ms.length (.int A) e (ms ++ [.obj 0 []]) = .nx e (ms ++ [.obj 0 [("own_num", .int A)]]) := fun e => by
    simp [setM, put1]
  have s2 : ∀ e : DE, setM 0 "own_den" ms.length (.int B) e (ms ++ [.obj 0 [("own_num", .int A)]]) = .nx e (ms ++ [.obj 0 (ratD A B)]) := fun e => by
    simp [setM, put2, ratD]
  have sh0 := sh (ms ++ [.obj 0 []])
  have run : runD 4 b_Ratio_init [.loc ms.length, .int n, .int d] (ms ++ [.obj 0 []]) = .ok .non (ms ++ [.obj 0 (ratD A B)]) := by
    rw [b_init_eq]
    generalize initC = IC at c0 ⊢
    have e : initT [some (.loc ms.length), some (.int n), some (.int d), none] (ms ++ [.obj 0 []]) = .nx [some (.loc ms.length), some (.int n), some (.int d), some (.int C)] (ms ++ [.obj 0 (ratD A B)]) := by
      simp only [initT, runD_ap, List.map_cons, List.map_nil, List.length_cons, List.length_nil, Nat.reduceAdd, Nat.reduceSub, List.replicate, List.cons_append, List.nil_append, sSeq_ap, sAsg_ap, sBin_ap, sCst_ap, kBin1_ok, sCall_ap, sCons_ap, sVar_ap, List.getElem?_cons_zero, List.getElem?_cons_succ, vR_some, kC1_ok, sNil_ap, kC2_ok, kCall_ok, ↓reduceIte, kBin2_ok, optR_some, kAsg_ok, gNm_ap, asgO_some, List.set_cons_succ, List.set_cons_zero, next_nx, next_ret, next_err, sIf_ap, sTst_ap, kTst_ok, kIf_f, kIf_t, sSkip_ap, sBif_ap, kBif_ok, sPar_ap, sTup_ap, kTup_ok, Nat.reduceLeDiff, kPar_ok, setAll, sRet_ap, kRet_ok, out_ret, out_nx, out_err, gTu_tup, gTu_lst, gsC_nm, gsC_tu, gsK_some, gsN, sNewL_ap, kNewL_ok, sAppend_ap, kApp0_some, kApp_ok, sAndV_ap, kAndV_ok, kAndV2_t, kAndV2_f, sOrV_ap, kOrV_ok, kOrV2_t, kOrV2_f, tru_bl, sIte_ap, kIte_t, kIte_f, sLst_ap, kLst_ok, sFor_ap, kFor_ok, sItems_ap, kItems_ok, itemsD, sNeg_ap, kNeg_ok, sSlc_ap, kS1_ok, kS2_ok, kS3_ok, sPart_ap, kPart_ok, sNoPart_ap, sOrT_ap, kOrT_f, kOrT_t, sAndT_ap, kAndT_t, kAndT_f, sNotT_ap, kNotT_ok, sNotV_ap, kNotV_ok, kNotV2_ok, sTru_ap, kTru_ok, sIsi_ap, kIsi_ok, sCallK_ap, kK1_ok, kK2_ok, and_self, sDrop_ap, kDrop_ok, sRetN_ap, sChain_ap, kCh1_ok, kCh2_ok, kCh3_t, kCh3_f, kCh4_ok, sTab_ap, kTab_ok, sAug_ap, kAug0_some, kAug1_ok, augO_some, iadd_int, isub_int, Bool.not_true, Bool.not_false, add_int, sub_int, eq_int, ne_int, lt_int, le_int, gt_int, ge_int, eq_str, ne_str, len_lst, len_tup, sRange1_ap, kRange1_ok, eq_self, decide_true, decide_false, eq_self_iff_true, pm_nil, pm_cons, sRev_ap, kRev_ok, rev_tup, rev_lst, sRaise_ap, kRaise_ok, sTry_ap, kTry_nx, kTry_ret, sTryF_ap, kTryF_nx, kAsg_err, kBin1_err, kBin2_err, kCall_err, kC1_err, kC2_err, kRet_err, kDrop_err, kIf_err, sh0, sSetF_ap, f1, f2, kSetF_ok (n := ms.length) (i := 0) (env := [some (.loc ms.length), some (.int n), some (.int d), some (.int C)]) rfl, s1, s2]
    generalize initT = IT at e ⊢
    simp only [runD_ap, List.map_cons, List.map_nil, List.length_cons, List.length_nil, Nat.reduceAdd, Nat.reduceSub, List.replicate, List.cons_append, List.nil_append, sSeq_ap, sAsg_ap, sBin_ap, sCst_ap, kBin1_ok, sCall_ap, sCons_ap, sVar_ap, List.getElem?_cons_zero, List.getElem?_cons_succ, vR_some, kC1_ok, sNil_ap, kC2_ok, kCall_ok, ↓reduceIte, kBin2_ok, optR_some, kAsg_ok, gNm_ap, asgO_some, List.set_cons_succ, List.set_cons_zero, next_nx, next_ret, next_err, sIf_ap, sTst_ap, kTst_ok, kIf_f, kIf_t, sSkip_ap, sBif_ap, kBif_ok, sPar_ap, sTup_ap, kTup_ok, Nat.reduceLeDiff, kPar_ok, setAll, sRet_ap, kRet_ok, out_ret, out_nx, out_err, gTu_tup, gTu_lst, gsC_nm, gsC_tu, gsK_some, gsN, sNewL_ap, kNewL_ok, sAppend_ap, kApp0_some, kApp_ok, sAndV_ap, kAndV_ok, kAndV2_t, kAndV2_f, sOrV_ap, kOrV_ok, kOrV2_t, kOrV2_f, tru_bl, sIte_ap, kIte_t, kIte_f, sLst_ap, kLst_ok, sFor_ap, kFor_ok, sItems_ap, kItems_ok, itemsD, sNeg_ap, kNeg_ok, sSlc_ap, kS1_ok, kS2_ok, kS3_ok, sPart_ap, kPart_ok, sNoPart_ap, sOrT_ap, kOrT_f, kOrT_t, sAndT_ap, kAndT_t, kAndT_f, sNotT_ap, kNotT_ok, sNotV_ap, kNotV_ok, kNotV2_ok, sTru_ap, kTru_ok, sIsi_ap, kIsi_ok, sCallK_ap, kK1_ok, kK2_ok, and_self, sDrop_ap, kDrop_ok, sRetN_ap, sChain_ap, kCh1_ok, kCh2_ok, kCh3_t, kCh3_f, kCh4_ok, sTab_ap, kTab_ok, sAug_ap, kAug0_some, kAug1_ok, augO_some, iadd_int, isub_int, Bool.not_true, Bool.not_false, add_int, sub_int, eq_int, ne_int, lt_int, le_int, gt_int, ge_int, eq_str, ne_str, len_lst, len_tup, sRange1_ap, kRange1_ok, eq_self, decide_true, decide_false, eq_self_iff_true, pm_nil, pm_cons, sRev_ap, kRev_ok, rev_tup, rev_lst, sRaise_ap, kRaise_ok, sTry_ap, kTry_nx, kTry_ret, sTryF_ap, kTryF_nx, kAsg_err, kBin1_err, kBin2_err, kCall_err, kC1_err, kC2_err, kRet_err, kDrop_err, kIf_err, c0, e]
  refine (cutF_ok (m := ms ++ [.obj 0 (ratD A B)]) (g := []) (by rw [List.append_nil]; exact run) (by simp) (fun k o ho => ?_) rfl)
  by_cases hk : k < ms.length
  · rw [List.getElem?_append_left hk] at ho
    exact ⟨o, by rw [List.getElem?_append_left hk]; exact ho, .inl rfl⟩
  · have hk' : k < ms.length + 1 := by
      have := (List.getElem?_eq_some_iff.mp ho).1
      simpa using this
    have : k = ms.length := by omega
    subst this
    exact ⟨_, by rw [List.getElem?_concat_length], .inr rfl⟩
/-- Ratio(n, d) -/
theorem mkEnd_ok {n d : Nat} (hn : n < 2 ^ 8000) (hd : d < 2 ^ 8000) (h0 : 0 < d) : mkEnd true 0 ms.length (F_Ratio_init [.loc ms.length, .int n, .int d] (ms ++ [.obj 0 []])) = .ok (.rat (n / Nat.gcd d n : Nat) (d / Nat.gcd d n : Nat)) (ms ++ [.dead]) := by
  rw [init_ok hn hd h0]
  generalize ((n / Nat.gcd d n : Nat) : Int) = A
  generalize ((d / Nat.gcd d n : Nat) : Int) = B
  have hr : ratOf (ratD A B) = some (A, B) := by kernel_rfl
  simp [mkEnd, hr]
end
end U

/-! receivers -/
namespace U
open PySem L2 DL
section
variable {ms : MS} {env : DE}
theorem isi_rat {T : String} {n d : Int} (h : tyL.contains T = true) : isiB T ms (.rat n d) = some false := by simp only [isiB, tyN, h, if_true]
theorem need_rat {n d : Int} : F_need_table [.rat n d] ms = .err 1 (.str "form") ms := by
  have it : ∀ m : MS, isiB "tuple" m (.rat n d) = some false := fun m => isi_rat (by decide)
  refine cutF_err [] ?_ rfl
  simp only [b_need_table, runD_ap, List.map_cons, List.map_nil, List.length_cons, List.length_nil, Nat.reduceAdd, Nat.reduceSub, List.replicate, List.cons_append, List.nil_append, sSeq_ap, sAsg_ap, sBin_ap, sCst_ap, kBin1_ok, sCall_ap, sCons_ap, sVar_ap, List.getElem?_cons_zero, List.getElem?_cons_succ, vR_some, kC1_ok, sNil_ap, kC2_ok, kCall_ok, ↓reduceIte, kBin2_ok, optR_some, kAsg_ok, gNm_ap, asgO_some, List.set_cons_succ, List.set_cons_zero, next_nx, next_ret, next_err, sIf_ap, sTst_ap, kTst_ok, kIf_f, kIf_t, sSkip_ap, sBif_ap, kBif_ok, sPar_ap, sTup_ap, kTup_ok, Nat.reduceLeDiff, kPar_ok, setAll, sRet_ap, kRet_ok, out_ret, out_nx, out_err, gTu_tup, gTu_lst, gsC_nm, gsC_tu, gsK_some, gsN, sNewL_ap, kNewL_ok, sAppend_ap, kApp0_some, kApp_ok, sAndV_ap, kAndV_ok, kAndV2_t, kAndV2_f, sOrV_ap, kOrV_ok, kOrV2_t, kOrV2_f, tru_bl, sIte_ap, kIte_t, kIte_f, sLst_ap, kLst_ok, sFor_ap, kFor_ok, sItems_ap, kItems_ok, itemsD, sNeg_ap, kNeg_ok, sSlc_ap, kS1_ok, kS2_ok, kS3_ok, sPart_ap, kPart_ok, sNoPart_ap, sOrT_ap, kOrT_f, kOrT_t, sAndT_ap, kAndT_t, kAndT_f, sNotT_ap, kNotT_ok, sNotV_ap, kNotV_ok, kNotV2_ok, sTru_ap, kTru_ok, sIsi_ap, kIsi_ok, sCallK_ap, kK1_ok, kK2_ok, and_self, sDrop_ap, kDrop_ok, sRetN_ap, sChain_ap, kCh1_ok, kCh2_ok, kCh3_t, kCh3_f, kCh4_ok, sTab_ap, kTab_ok, sAug_ap, kAug0_some, kAug1_ok, augO_some, iadd_int, isub_int, Bool.not_true, Bool.not_false, add_int, sub_int, eq_int, ne_int, lt_int, le_int, gt_int, ge_int, eq_str, ne_str, len_lst, len_tup, sRange1_ap, kRange1_ok, eq_self, decide_true, decide_false, eq_self_iff_true, pm_nil, pm_cons, sRev_ap, kRev_ok, rev_tup, rev_lst, sRaise_ap, kRaise_ok, sTry_ap, kTry_nx, kTry_ret, sTryF_ap, kTryF_nx, kAsg_err, kBin1_err, kBin2_err, kCall_err, kC1_err, kC2_err, kRet_err, kDrop_err, kIf_err, it, Option.map_some, fOk_form, List.append_nil]
/-! ### is_table -/
def tbB (d : D) : Bool := match due d with
  | .non => true
  | _ => false
theorem lk1 : (fun n : Nat => List.lookup n [(1, true)]) 1 = some true := rfl
theorem try_hit {hd : Nat → Option Bool} {h : SS} {k : Nat} {d : D} (q : hd k = some true) : kTry hd h (.err k d env ms) = h env ms := by
  simp only [kTry, q]
theorem is_table_ok {d : D} (h : F_need_table [d] ms = needR d ms) : F_is_table [d] ms = .ok (.bl (tbB d)) ms := by
  unfold needR at h
  unfold tbB
  refine cutF_here ?_ rfl
  rcases due_cases d with e | ⟨y, e⟩
  · rw [e] at h ⊢
    simp only [b_is_table, runD_ap, List.map_cons, List.map_nil, List.length_cons, List.length_nil, Nat.reduceAdd, Nat.reduceSub, List.replicate, List.cons_append, List.nil_append, sSeq_ap, sAsg_ap, sBin_ap, sCst_ap, kBin1_ok, sCall_ap, sCons_ap, sVar_ap, List.getElem?_cons_zero, List.getElem?_cons_succ, vR_some, kC1_ok, sNil_ap, kC2_ok, kCall_ok, ↓reduceIte, kBin2_ok, optR_some, kAsg_ok, gNm_ap, asgO_some, List.set_cons_succ, List.set_cons_zero, next_nx, next_ret, next_err, sIf_ap, sTst_ap, kTst_ok, kIf_f, kIf_t, sSkip_ap, sBif_ap, kBif_ok, sPar_ap, sTup_ap, kTup_ok, Nat.reduceLeDiff, kPar_ok, setAll, sRet_ap, kRet_ok, out_ret, out_nx, out_err, gTu_tup, gTu_lst, gsC_nm, gsC_tu, gsK_some, gsN, sNewL_ap, kNewL_ok, sAppend_ap, kApp0_some, kApp_ok, sAndV_ap, kAndV_ok, kAndV2_t, kAndV2_f, sOrV_ap, kOrV_ok, kOrV2_t, kOrV2_f, tru_bl, sIte_ap, kIte_t, kIte_f, sLst_ap, kLst_ok, sFor_ap, kFor_ok, sItems_ap, kItems_ok, itemsD, sNeg_ap, kNeg_ok, sSlc_ap, kS1_ok, kS2_ok, kS3_ok, sPart_ap, kPart_ok, sNoPart_ap, sOrT_ap, kOrT_f, kOrT_t, sAndT_ap, kAndT_t, kAndT_f, sNotT_ap, kNotT_ok, sNotV_ap, kNotV_ok, kNotV2_ok, sTru_ap, kTru_ok, sIsi_ap, kIsi_ok, sCallK_ap, kK1_ok, kK2_ok, and_self, sDrop_ap, kDrop_ok, sRetN_ap, sChain_ap, kCh1_ok, kCh2_ok, kCh3_t, kCh3_f, kCh4_ok, sTab_ap, kTab_ok, sAug_ap, kAug0_some, kAug1_ok, augO_some, iadd_int, isub_int, Bool.not_true, Bool.not_false, add_int, sub_int, eq_int, ne_int, lt_int, le_int, gt_int, ge_int, eq_str, ne_str, len_lst, len_tup, sRange1_ap, kRange1_ok, eq_self, decide_true, decide_false, eq_self_iff_true, pm_nil, pm_cons, sRev_ap, kRev_ok, rev_tup, rev_lst, sRaise_ap, kRaise_ok, sTry_ap, kTry_nx, kTry_ret, sTryF_ap, kTryF_nx, kAsg_err, kBin1_err, kBin2_err, kCall_err, kC1_err, kC2_err, kRet_err, kDrop_err, kIf_err, h]
  · rw [e] at h ⊢
    have t : ∀ (en : DE) (m : MS) (s : SS) (x : D), kTry (fun n => List.lookup n [(1, true)]) s (.err 1 x en m) = s en m := fun en m s x => try_hit lk1
    simp only [b_is_table, runD_ap, List.map_cons, List.map_nil, List.length_cons, List.length_nil, Nat.reduceAdd, Nat.reduceSub, List.replicate, List.cons_append, List.nil_append, sSeq_ap, sAsg_ap, sBin_ap, sCst_ap, kBin1_ok, sCall_ap, sCons_ap, sVar_ap, List.getElem?_cons_zero, List.getElem?_cons_succ, vR_some, kC1_ok, sNil_ap, kC2_ok, kCall_ok, ↓reduceIte, kBin2_ok, optR_some, kAsg_ok, gNm_ap, asgO_some, List.set_cons_succ, List.set_cons_zero, next_nx, next_ret, next_err, sIf_ap, sTst_ap, kTst_ok, kIf_f, kIf_t, sSkip_ap, sBif_ap, kBif_ok, sPar_ap, sTup_ap, kTup_ok, Nat.reduceLeDiff, kPar_ok, setAll, sRet_ap, kRet_ok, out_ret, out_nx, out_err, gTu_tup, gTu_lst, gsC_nm, gsC_tu, gsK_some, gsN, sNewL_ap, kNewL_ok, sAppend_ap, kApp0_some, kApp_ok, sAndV_ap, kAndV_ok, kAndV2_t, kAndV2_f, sOrV_ap, kOrV_ok, kOrV2_t, kOrV2_f, tru_bl, sIte_ap, kIte_t, kIte_f, sLst_ap, kLst_ok, sFor_ap, kFor_ok, sItems_ap, kItems_ok, itemsD, sNeg_ap, kNeg_ok, sSlc_ap, kS1_ok, kS2_ok, kS3_ok, sPart_ap, kPart_ok, sNoPart_ap, sOrT_ap, kOrT_f, kOrT_t, sAndT_ap, kAndT_t, kAndT_f, sNotT_ap, kNotT_ok, sNotV_ap, kNotV_ok, kNotV2_ok, sTru_ap, kTru_ok, sIsi_ap, kIsi_ok, sCallK_ap, kK1_ok, kK2_ok, and_self, sDrop_ap, kDrop_ok, sRetN_ap, sChain_ap, kCh1_ok, kCh2_ok, kCh3_t, kCh3_f, kCh4_ok, sTab_ap, kTab_ok, sAug_ap, kAug0_some, kAug1_ok, augO_some, iadd_int, isub_int, Bool.not_true, Bool.not_false, add_int, sub_int, eq_int, ne_int, lt_int, le_int, gt_int, ge_int, eq_str, ne_str, len_lst, len_tup, sRange1_ap, kRange1_ok, eq_self, decide_true, decide_false, eq_self_iff_true, pm_nil, pm_cons, sRev_ap, kRev_ok, rev_tup, rev_lst, sRaise_ap, kRaise_ok, sTry_ap, kTry_nx, kTry_ret, sTryF_ap, kTryF_nx, kAsg_err, kBin1_err, kBin2_err, kCall_err, kC1_err, kC2_err, kRet_err, kDrop_err, kIf_err, h, t]
theorem due_rat {n d : Int} : due (.rat n d) = .str "form" := rfl
/-- what is_table is asked of -/
def TbQ (d : D) : Prop := (∃ L, L ≤ 1000 ∧ P2 L d) ∨ ∃ n m, d = .rat n m
theorem TbQ.ok {d : D} (h : TbQ d) : F_is_table [d] ms = .ok (.bl (tbB d)) ms := by
  rcases h with ⟨L, hL, h⟩ | ⟨n, m, rfl⟩
  · exact is_table_ok (need_gen h hL)
  · refine is_table_ok ?_
    rw [need_rat]; rfl
/-! ### is_tolerance -/
def tolB : D → Bool
  | .rat n d => decide (n < d)
  | _ => false
def TolQ (d : D) : Prop := flat d = true ∨ ∃ n m : Int, d = .rat n m ∧ 0 ≤ n ∧ n < 2 ^ 64 ∧ 0 < m ∧ m < 2 ^ 64
theorem isiR_flat {d : D} (h : flat d = true) : isiR ms d = some false := by
  cases d <;> first | (cases h; done) | kernel_rfl
theorem mk_one {env : DE} : cutE (sMake true 0 F_Ratio_init 3 [.int 1] (sCons (sCst (.int 1)) sNil)) env ms = .ok (.rat 1 1) ms := by
  refine cutE_ok (g := [.dead]) ?_ rfl
  have e := mkEnd_ok (ms := ms) (n := 1) (d := 1) (by exact Nat.one_lt_two_pow (by decide)) (by exact Nat.one_lt_two_pow (by decide)) (by decide)
  show kMake true 0 F_Ratio_init 3 [.int 1] (.ok [.int 1] ms) = _
  rw [kMake_ok]
  exact e
theorem ltX_rat {n d n' d' : Int} (h1 : mulOk n d' = true) (h2 : mulOk n' d = true) : ltX ms (.rat n d) (.rat n' d') = some (.bl (decide (n * d' < n' * d))) := by
  simp only [ltX, rcmp, h1, h2, Bool.and_self, if_true]
theorem TolQ.ok {d : D} (h : TolQ d) : F_is_tolerance [d] ms = .ok (.bl (tolB d)) ms := by
  refine cutF_here ?_ rfl
  rcases h with h | ⟨n, m, rfl, n0, n1, m0, m1⟩
  · have e := fun m : MS => isiR_flat (ms := m) h
    have z : tolB d = false := by cases d <;> first | (cases h; done) | rfl
    rw [z]
    simp only [b_is_tolerance, runD_ap, List.map_cons, List.map_nil, List.length_cons, List.length_nil, Nat.reduceAdd, Nat.reduceSub, List.replicate, List.cons_append, List.nil_append, sSeq_ap, sAsg_ap, sBin_ap, sCst_ap, kBin1_ok, sCall_ap, sCons_ap, sVar_ap, List.getElem?_cons_zero, List.getElem?_cons_succ, vR_some, kC1_ok, sNil_ap, kC2_ok, kCall_ok, ↓reduceIte, kBin2_ok, optR_some, kAsg_ok, gNm_ap, asgO_some, List.set_cons_succ, List.set_cons_zero, next_nx, next_ret, next_err, sIf_ap, sTst_ap, kTst_ok, kIf_f, kIf_t, sSkip_ap, sBif_ap, kBif_ok, sPar_ap, sTup_ap, kTup_ok, Nat.reduceLeDiff, kPar_ok, setAll, sRet_ap, kRet_ok, out_ret, out_nx, out_err, gTu_tup, gTu_lst, gsC_nm, gsC_tu, gsK_some, gsN, sNewL_ap, kNewL_ok, sAppend_ap, kApp0_some, kApp_ok, sAndV_ap, kAndV_ok, kAndV2_t, kAndV2_f, sOrV_ap, kOrV_ok, kOrV2_t, kOrV2_f, tru_bl, sIte_ap, kIte_t, kIte_f, sLst_ap, kLst_ok, sFor_ap, kFor_ok, sItems_ap, kItems_ok, itemsD, sNeg_ap, kNeg_ok, sSlc_ap, kS1_ok, kS2_ok, kS3_ok, sPart_ap, kPart_ok, sNoPart_ap, sOrT_ap, kOrT_f, kOrT_t, sAndT_ap, kAndT_t, kAndT_f, sNotT_ap, kNotT_ok, sNotV_ap, kNotV_ok, kNotV2_ok, sTru_ap, kTru_ok, sIsi_ap, kIsi_ok, sCallK_ap, kK1_ok, kK2_ok, and_self, sDrop_ap, kDrop_ok, sRetN_ap, sChain_ap, kCh1_ok, kCh2_ok, kCh3_t, kCh3_f, kCh4_ok, sTab_ap, kTab_ok, sAug_ap, kAug0_some, kAug1_ok, augO_some, iadd_int, isub_int, Bool.not_true, Bool.not_false, add_int, sub_int, eq_int, ne_int, lt_int, le_int, gt_int, ge_int, eq_str, ne_str, len_lst, len_tup, sRange1_ap, kRange1_ok, eq_self, decide_true, decide_false, eq_self_iff_true, pm_nil, pm_cons, sRev_ap, kRev_ok, rev_tup, rev_lst, sRaise_ap, kRaise_ok, sTry_ap, kTry_nx, kTry_ret, sTryF_ap, kTryF_nx, kAsg_err, kBin1_err, kBin2_err, kCall_err, kC1_err, kC2_err, kRet_err, kDrop_err, kIf_err, sIsiR_ap, kIsiR_ok, e, Option.map_some]
  · have e : ∀ q : MS, ltX q (.rat n m) (.rat 1 1) = some (.bl (decide (n < m))) := fun q => by
      rw [ltX_rat (mulOk_small (by omega) (by decide)) (mulOk_small (by decide) (by omega)), Int.mul_one, Int.one_mul]
    have i : ∀ q : MS, isiR q (.rat n m) = some true := fun q => rfl
    simp only [b_is_tolerance, runD_ap, List.map_cons, List.map_nil, List.length_cons, List.length_nil, Nat.reduceAdd, Nat.reduceSub, List.replicate, List.cons_append, List.nil_append, sSeq_ap, sAsg_ap, sBin_ap, sCst_ap, kBin1_ok, sCall_ap, sCons_ap, sVar_ap, List.getElem?_cons_zero, List.getElem?_cons_succ, vR_some, kC1_ok, sNil_ap, kC2_ok, kCall_ok, ↓reduceIte, kBin2_ok, optR_some, kAsg_ok, gNm_ap, asgO_some, List.set_cons_succ, List.set_cons_zero, next_nx, next_ret, next_err, sIf_ap, sTst_ap, kTst_ok, kIf_f, kIf_t, sSkip_ap, sBif_ap, kBif_ok, sPar_ap, sTup_ap, kTup_ok, Nat.reduceLeDiff, kPar_ok, setAll, sRet_ap, kRet_ok, out_ret, out_nx, out_err, gTu_tup, gTu_lst, gsC_nm, gsC_tu, gsK_some, gsN, sNewL_ap, kNewL_ok, sAppend_ap, kApp0_some, kApp_ok, sAndV_ap, kAndV_ok, kAndV2_t, kAndV2_f, sOrV_ap, kOrV_ok, kOrV2_t, kOrV2_f, tru_bl, sIte_ap, kIte_t, kIte_f, sLst_ap, kLst_ok, sFor_ap, kFor_ok, sItems_ap, kItems_ok, itemsD, sNeg_ap, kNeg_ok, sSlc_ap, kS1_ok, kS2_ok, kS3_ok, sPart_ap, kPart_ok, sNoPart_ap, sOrT_ap, kOrT_f, kOrT_t, sAndT_ap, kAndT_t, kAndT_f, sNotT_ap, kNotT_ok, sNotV_ap, kNotV_ok, kNotV2_ok, sTru_ap, kTru_ok, sIsi_ap, kIsi_ok, sCallK_ap, kK1_ok, kK2_ok, and_self, sDrop_ap, kDrop_ok, sRetN_ap, sChain_ap, kCh1_ok, kCh2_ok, kCh3_t, kCh3_f, kCh4_ok, sTab_ap, kTab_ok, sAug_ap, kAug0_some, kAug1_ok, augO_some, iadd_int, isub_int, Bool.not_true, Bool.not_false, add_int, sub_int, eq_int, ne_int, lt_int, le_int, gt_int, ge_int, eq_str, ne_str, len_lst, len_tup, sRange1_ap, kRange1_ok, eq_self, decide_true, decide_false, eq_self_iff_true, pm_nil, pm_cons, sRev_ap, kRev_ok, rev_tup, rev_lst, sRaise_ap, kRaise_ok, sTry_ap, kTry_nx, kTry_ret, sTryF_ap, kTryF_nx, kAsg_err, kBin1_err, kBin2_err, kCall_err, kC1_err, kC2_err, kRet_err, kDrop_err, kIf_err, sIsiR_ap, kIsiR_ok, i, Option.map_some, mk_one, e, tolB]
/-! ### need_receiver -/
noncomputable abbrev prC : ST := (sOrT (sNotT (sTru (sIsi "tuple" (sVar 2)))) (sOrT (sTst (sBin neD (sBif lenD (sCons (sVar 2) sNil)) (sCst (.int 2)))) (sOrT (sNotT (sTru (sCall F_is_table 1 (sCons (sBin atD (sVar 2) (sCst (.int 0))) sNil)))) (sNotT (sTru (sCall F_is_tolerance 1 (sCons (sBin atD (sVar 2) (sCst (.int 1))) sNil)))))))
noncomputable abbrev prB : SS := (sIf prC (sRaise 4 false (sVar 1)) sSkip)
noncomputable abbrev rcC : ST := (sOrT (sNotT (sTru (sIsi "tuple" (sVar 0)))) (sNotT (sTst (sChain leD leD (sCst (.int 1)) (sBif lenD (sCons (sVar 0) sNil)) (sCst (.int 4))))))
theorem b_rc_eq : b_need_receiver = (sSeq (sIf rcC (sRaise 4 false (sCst .non)) sSkip) (sSeq (sFor (sEnumA (sCons (sVar 0) sNil)) (gTu 2 (gsCons (gNm 1) (gsCons (gNm 2) gsNil))) prB) (sRet (sVar 0)))) := rfl
def pairB : D → Bool
  | .tup [t, r] => tbB t && tolB r
  | _ => false
/-- a thing that may stand for a pair -/
inductive Pr : D → Prop
  | no {d : D} : flat d = true → (∀ xs, d ≠ .tup xs) → Pr d
  | len {xs : List D} : xs.length ≠ 2 → Pr (.tup xs)
  | rat {a b : Int} : Pr (.rat a b)
  | pair {t r : D} : TbQ t → TolQ r → Pr (.tup [t, r])
theorem Pr.ok {x : D} (h : Pr x) {p0 p1 : Option D} : prC [p0, p1, some x] ms = .ok (!pairB x) ms := by
  cases h with
  | no hf ht =>
    have it := fun m : MS => isi_notup (ms := m) hf ht
    have z : pairB x = false := by
      cases x with
      | tup xs => exact absurd rfl (ht xs)
      | _ => rfl
    rw [z]
    simp only [prC, runD_ap, List.map_cons, List.map_nil, List.length_cons, List.length_nil, Nat.reduceAdd, Nat.reduceSub, List.replicate, List.cons_append, List.nil_append, sSeq_ap, sAsg_ap, sBin_ap, sCst_ap, kBin1_ok, sCall_ap, sCons_ap, sVar_ap, List.getElem?_cons_zero, List.getElem?_cons_succ, vR_some, kC1_ok, sNil_ap, kC2_ok, kCall_ok, ↓reduceIte, kBin2_ok, optR_some, kAsg_ok, gNm_ap, asgO_some, List.set_cons_succ, List.set_cons_zero, next_nx, next_ret, next_err, sIf_ap, sTst_ap, kTst_ok, kIf_f, kIf_t, sSkip_ap, sBif_ap, kBif_ok, sPar_ap, sTup_ap, kTup_ok, Nat.reduceLeDiff, kPar_ok, setAll, sRet_ap, kRet_ok, out_ret, out_nx, out_err, gTu_tup, gTu_lst, gsC_nm, gsC_tu, gsK_some, gsN, sNewL_ap, kNewL_ok, sAppend_ap, kApp0_some, kApp_ok, sAndV_ap, kAndV_ok, kAndV2_t, kAndV2_f, sOrV_ap, kOrV_ok, kOrV2_t, kOrV2_f, tru_bl, sIte_ap, kIte_t, kIte_f, sLst_ap, kLst_ok, sFor_ap, kFor_ok, sItems_ap, kItems_ok, itemsD, sNeg_ap, kNeg_ok, sSlc_ap, kS1_ok, kS2_ok, kS3_ok, sPart_ap, kPart_ok, sNoPart_ap, sOrT_ap, kOrT_f, kOrT_t, sAndT_ap, kAndT_t, kAndT_f, sNotT_ap, kNotT_ok, sNotV_ap, kNotV_ok, kNotV2_ok, sTru_ap, kTru_ok, sIsi_ap, kIsi_ok, sCallK_ap, kK1_ok, kK2_ok, and_self, sDrop_ap, kDrop_ok, sRetN_ap, sChain_ap, kCh1_ok, kCh2_ok, kCh3_t, kCh3_f, kCh4_ok, sTab_ap, kTab_ok, sAug_ap, kAug0_some, kAug1_ok, augO_some, iadd_int, isub_int, Bool.not_true, Bool.not_false, add_int, sub_int, eq_int, ne_int, lt_int, le_int, gt_int, ge_int, eq_str, ne_str, len_lst, len_tup, sRange1_ap, kRange1_ok, eq_self, decide_true, decide_false, eq_self_iff_true, pm_nil, pm_cons, sRev_ap, kRev_ok, rev_tup, rev_lst, sRaise_ap, kRaise_ok, sTry_ap, kTry_nx, kTry_ret, sTryF_ap, kTryF_nx, kAsg_err, kBin1_err, kBin2_err, kCall_err, kC1_err, kC2_err, kRet_err, kDrop_err, kIf_err, it, Option.map_some]
  | @rat a b =>
    have it : ∀ m : MS, isiB "tuple" m (.rat a b) = some false := fun m => isi_rat (by decide)
    have z : pairB (.rat a b) = false := rfl
    rw [z]
    simp only [prC, runD_ap, List.map_cons, List.map_nil, List.length_cons, List.length_nil, Nat.reduceAdd, Nat.reduceSub, List.replicate, List.cons_append, List.nil_append, sSeq_ap, sAsg_ap, sBin_ap, sCst_ap, kBin1_ok, sCall_ap, sCons_ap, sVar_ap, List.getElem?_cons_zero, List.getElem?_cons_succ, vR_some, kC1_ok, sNil_ap, kC2_ok, kCall_ok, ↓reduceIte, kBin2_ok, optR_some, kAsg_ok, gNm_ap, asgO_some, List.set_cons_succ, List.set_cons_zero, next_nx, next_ret, next_err, sIf_ap, sTst_ap, kTst_ok, kIf_f, kIf_t, sSkip_ap, sBif_ap, kBif_ok, sPar_ap, sTup_ap, kTup_ok, Nat.reduceLeDiff, kPar_ok, setAll, sRet_ap, kRet_ok, out_ret, out_nx, out_err, gTu_tup, gTu_lst, gsC_nm, gsC_tu, gsK_some, gsN, sNewL_ap, kNewL_ok, sAppend_ap, kApp0_some, kApp_ok, sAndV_ap, kAndV_ok, kAndV2_t, kAndV2_f, sOrV_ap, kOrV_ok, kOrV2_t, kOrV2_f, tru_bl, sIte_ap, kIte_t, kIte_f, sLst_ap, kLst_ok, sFor_ap, kFor_ok, sItems_ap, kItems_ok, itemsD, sNeg_ap, kNeg_ok, sSlc_ap, kS1_ok, kS2_ok, kS3_ok, sPart_ap, kPart_ok, sNoPart_ap, sOrT_ap, kOrT_f, kOrT_t, sAndT_ap, kAndT_t, kAndT_f, sNotT_ap, kNotT_ok, sNotV_ap, kNotV_ok, kNotV2_ok, sTru_ap, kTru_ok, sIsi_ap, kIsi_ok, sCallK_ap, kK1_ok, kK2_ok, and_self, sDrop_ap, kDrop_ok, sRetN_ap, sChain_ap, kCh1_ok, kCh2_ok, kCh3_t, kCh3_f, kCh4_ok, sTab_ap, kTab_ok, sAug_ap, kAug0_some, kAug1_ok, augO_some, iadd_int, isub_int, Bool.not_true, Bool.not_false, add_int, sub_int, eq_int, ne_int, lt_int, le_int, gt_int, ge_int, eq_str, ne_str, len_lst, len_tup, sRange1_ap, kRange1_ok, eq_self, decide_true, decide_false, eq_self_iff_true, pm_nil, pm_cons, sRev_ap, kRev_ok, rev_tup, rev_lst, sRaise_ap, kRaise_ok, sTry_ap, kTry_nx, kTry_ret, sTryF_ap, kTryF_nx, kAsg_err, kBin1_err, kBin2_err, kCall_err, kC1_err, kC2_err, kRet_err, kDrop_err, kIf_err, it, Option.map_some]
  | @len xs hl =>
    have it : ∀ m : MS, isiB "tuple" m (.tup xs) = some true := fun m => isi_tup
    have z : pairB (.tup xs) = false := by
      match xs, hl with
      | [], _ => rfl
      | [_], _ => rfl
      | _ :: _ :: _ :: _, _ => rfl
      | [_, _], h => exact absurd rfl h
    have ne : ∀ m : MS, neD m (.int xs.length) (.int 2) = some (.bl true) := fun m => by
      rw [ne_int, decide_eq_false (by omega)]; rfl
    rw [z]
    have l0 : ∀ m : MS, lenD m [.tup xs] = some (.int xs.length) := fun m => rfl
    generalize D.tup xs = X at *
    generalize (xs.length : Int) = N at *
    simp only [prC, runD_ap, List.map_cons, List.map_nil, List.length_cons, List.length_nil, Nat.reduceAdd, Nat.reduceSub, List.replicate, List.cons_append, List.nil_append, sSeq_ap, sAsg_ap, sBin_ap, sCst_ap, kBin1_ok, sCall_ap, sCons_ap, sVar_ap, List.getElem?_cons_zero, List.getElem?_cons_succ, vR_some, kC1_ok, sNil_ap, kC2_ok, kCall_ok, ↓reduceIte, kBin2_ok, optR_some, kAsg_ok, gNm_ap, asgO_some, List.set_cons_succ, List.set_cons_zero, next_nx, next_ret, next_err, sIf_ap, sTst_ap, kTst_ok, kIf_f, kIf_t, sSkip_ap, sBif_ap, kBif_ok, sPar_ap, sTup_ap, kTup_ok, Nat.reduceLeDiff, kPar_ok, setAll, sRet_ap, kRet_ok, out_ret, out_nx, out_err, gTu_tup, gTu_lst, gsC_nm, gsC_tu, gsK_some, gsN, sNewL_ap, kNewL_ok, sAppend_ap, kApp0_some, kApp_ok, sAndV_ap, kAndV_ok, kAndV2_t, kAndV2_f, sOrV_ap, kOrV_ok, kOrV2_t, kOrV2_f, tru_bl, sIte_ap, kIte_t, kIte_f, sLst_ap, kLst_ok, sFor_ap, kFor_ok, sItems_ap, kItems_ok, itemsD, sNeg_ap, kNeg_ok, sSlc_ap, kS1_ok, kS2_ok, kS3_ok, sPart_ap, kPart_ok, sNoPart_ap, sOrT_ap, kOrT_f, kOrT_t, sAndT_ap, kAndT_t, kAndT_f, sNotT_ap, kNotT_ok, sNotV_ap, kNotV_ok, kNotV2_ok, sTru_ap, kTru_ok, sIsi_ap, kIsi_ok, sCallK_ap, kK1_ok, kK2_ok, and_self, sDrop_ap, kDrop_ok, sRetN_ap, sChain_ap, kCh1_ok, kCh2_ok, kCh3_t, kCh3_f, kCh4_ok, sTab_ap, kTab_ok, sAug_ap, kAug0_some, kAug1_ok, augO_some, iadd_int, isub_int, Bool.not_true, Bool.not_false, add_int, sub_int, eq_int, ne_int, lt_int, le_int, gt_int, ge_int, eq_str, ne_str, len_lst, len_tup, sRange1_ap, kRange1_ok, eq_self, decide_true, decide_false, eq_self_iff_true, pm_nil, pm_cons, sRev_ap, kRev_ok, rev_tup, rev_lst, sRaise_ap, kRaise_ok, sTry_ap, kTry_nx, kTry_ret, sTryF_ap, kTryF_nx, kAsg_err, kBin1_err, kBin2_err, kCall_err, kC1_err, kC2_err, kRet_err, kDrop_err, kIf_err, it, Option.map_some, l0, ne]
  | @pair t r ht hr =>
    have it : ∀ m : MS, isiB "tuple" m (.tup [t, r]) = some true := fun m => isi_tup
    have l0 : ∀ m : MS, lenD m [.tup [t, r]] = some (.int 2) := fun m => rfl
    have a0 : ∀ m : MS, atD m (.tup [t, r]) (.int 0) = some t := fun m => rfl
    have a1 : ∀ m : MS, atD m (.tup [t, r]) (.int 1) = some r := fun m => rfl
    have q1 := fun m : MS => ht.ok (ms := m)
    have q2 := fun m : MS => hr.ok (ms := m)
    show _ = R.ok (!(tbB t && tolB r)) ms
    generalize tbB t = b1 at *
    generalize tolB r = b2 at *
    cases b1 <;> cases b2 <;> simp only [prC, runD_ap, List.map_cons, List.map_nil, List.length_cons, List.length_nil, Nat.reduceAdd, Nat.reduceSub, List.replicate, List.cons_append, List.nil_append, sSeq_ap, sAsg_ap, sBin_ap, sCst_ap, kBin1_ok, sCall_ap, sCons_ap, sVar_ap, List.getElem?_cons_zero, List.getElem?_cons_succ, vR_some, kC1_ok, sNil_ap, kC2_ok, kCall_ok, ↓reduceIte, kBin2_ok, optR_some, kAsg_ok, gNm_ap, asgO_some, List.set_cons_succ, List.set_cons_zero, next_nx, next_ret, next_err, sIf_ap, sTst_ap, kTst_ok, kIf_f, kIf_t, sSkip_ap, sBif_ap, kBif_ok, sPar_ap, sTup_ap, kTup_ok, Nat.reduceLeDiff, kPar_ok, setAll, sRet_ap, kRet_ok, out_ret, out_nx, out_err, gTu_tup, gTu_lst, gsC_nm, gsC_tu, gsK_some, gsN, sNewL_ap, kNewL_ok, sAppend_ap, kApp0_some, kApp_ok, sAndV_ap, kAndV_ok, kAndV2_t, kAndV2_f, sOrV_ap, kOrV_ok, kOrV2_t, kOrV2_f, tru_bl, sIte_ap, kIte_t, kIte_f, sLst_ap, kLst_ok, sFor_ap, kFor_ok, sItems_ap, kItems_ok, itemsD, sNeg_ap, kNeg_ok, sSlc_ap, kS1_ok, kS2_ok, kS3_ok, sPart_ap, kPart_ok, sNoPart_ap, sOrT_ap, kOrT_f, kOrT_t, sAndT_ap, kAndT_t, kAndT_f, sNotT_ap, kNotT_ok, sNotV_ap, kNotV_ok, kNotV2_ok, sTru_ap, kTru_ok, sIsi_ap, kIsi_ok, sCallK_ap, kK1_ok, kK2_ok, and_self, sDrop_ap, kDrop_ok, sRetN_ap, sChain_ap, kCh1_ok, kCh2_ok, kCh3_t, kCh3_f, kCh4_ok, sTab_ap, kTab_ok, sAug_ap, kAug0_some, kAug1_ok, augO_some, iadd_int, isub_int, Bool.not_true, Bool.not_false, add_int, sub_int, eq_int, ne_int, lt_int, le_int, gt_int, ge_int, eq_str, ne_str, len_lst, len_tup, sRange1_ap, kRange1_ok, eq_self, decide_true, decide_false, eq_self_iff_true, pm_nil, pm_cons, sRev_ap, kRev_ok, rev_tup, rev_lst, sRaise_ap, kRaise_ok, sTry_ap, kTry_nx, kTry_ret, sTryF_ap, kTryF_nx, kAsg_err, kBin1_err, kBin2_err, kCall_err, kC1_err, kC2_err, kRet_err, kDrop_err, kIf_err, it, Option.map_some, l0, a0, a1, q1, q2, Bool.and_self, Bool.and_true, Bool.and_false]
/-- the first wrong one -/
def firstW : List D → Nat → Option Nat
  | [], _ => none
  | x :: xs, i => if pairB x = true then firstW xs (i + 1) else some i
def enumL (xs : List D) (i : Nat) : List D := xs.mapIdx fun k d => D.tup [.int ((i + k : Nat) : Int), d]
theorem enumL_cons {x : D} {xs : List D} {i : Nat} : enumL (x :: xs) i = .tup [.int (i : Nat), x] :: enumL xs (i + 1) := by
  unfold enumL
  rw [List.mapIdx_cons]
  congr 1
  congr 1
  funext k d
  rw [show i + (k + 1) = i + 1 + k by omega]
theorem rc_go {v : D} : ∀ (xs : List D) (i : Nat) (p1 p2 : Option D), (∀ x ∈ xs, Pr x) → match firstW xs i with
    | none => ∃ q1 q2, forL (gTu 2 (gsCons (gNm 1) (gsCons (gNm 2) gsNil))) prB (enumL xs i) [some v, p1, p2] ms = .nx [some v, q1, q2] ms
    | some k => ∃ e, forL (gTu 2 (gsCons (gNm 1) (gsCons (gNm 2) gsNil))) prB (enumL xs i) [some v, p1, p2] ms = .err 4 (.int k) e ms
  | [], i, p1, p2, _ => ⟨p1, p2, rfl⟩
  | x :: xs, i, p1, p2, h => by
    have hx := (h x List.mem_cons_self).ok (ms := ms) (p0 := some v) (p1 := some (.int i))
    have tl := rc_go (v := v) xs (i + 1) (some (.int i)) (some x) fun y hy => h y (List.mem_cons_of_mem _ hy)
    have gt : gTu 2 (gsCons (gNm 1) (gsCons (gNm 2) gsNil)) ms (.tup [.int (i : Nat), x]) [some v, p1, p2] = some [some v, some (.int i), some x] := rfl
    rw [enumL_cons]
    simp only [firstW]
    cases q : pairB x with
    | true =>
      rw [q] at hx
      have e : prB [some v, some (.int i), some x] ms = .nx [some v, some (.int i), some x] ms := by
        show (sIf prC (sRaise 4 false (sVar 1)) sSkip) _ _ = _
        generalize prC = C at hx ⊢
        simp only [runD_ap, List.map_cons, List.map_nil, List.length_cons, List.length_nil, Nat.reduceAdd, Nat.reduceSub, List.replicate, List.cons_append, List.nil_append, sSeq_ap, sAsg_ap, sBin_ap, sCst_ap, kBin1_ok, sCall_ap, sCons_ap, sVar_ap, List.getElem?_cons_zero, List.getElem?_cons_succ, vR_some, kC1_ok, sNil_ap, kC2_ok, kCall_ok, ↓reduceIte, kBin2_ok, optR_some, kAsg_ok, gNm_ap, asgO_some, List.set_cons_succ, List.set_cons_zero, next_nx, next_ret, next_err, sIf_ap, sTst_ap, kTst_ok, kIf_f, kIf_t, sSkip_ap, sBif_ap, kBif_ok, sPar_ap, sTup_ap, kTup_ok, Nat.reduceLeDiff, kPar_ok, setAll, sRet_ap, kRet_ok, out_ret, out_nx, out_err, gTu_tup, gTu_lst, gsC_nm, gsC_tu, gsK_some, gsN, sNewL_ap, kNewL_ok, sAppend_ap, kApp0_some, kApp_ok, sAndV_ap, kAndV_ok, kAndV2_t, kAndV2_f, sOrV_ap, kOrV_ok, kOrV2_t, kOrV2_f, tru_bl, sIte_ap, kIte_t, kIte_f, sLst_ap, kLst_ok, sFor_ap, kFor_ok, sItems_ap, kItems_ok, itemsD, sNeg_ap, kNeg_ok, sSlc_ap, kS1_ok, kS2_ok, kS3_ok, sPart_ap, kPart_ok, sNoPart_ap, sOrT_ap, kOrT_f, kOrT_t, sAndT_ap, kAndT_t, kAndT_f, sNotT_ap, kNotT_ok, sNotV_ap, kNotV_ok, kNotV2_ok, sTru_ap, kTru_ok, sIsi_ap, kIsi_ok, sCallK_ap, kK1_ok, kK2_ok, and_self, sDrop_ap, kDrop_ok, sRetN_ap, sChain_ap, kCh1_ok, kCh2_ok, kCh3_t, kCh3_f, kCh4_ok, sTab_ap, kTab_ok, sAug_ap, kAug0_some, kAug1_ok, augO_some, iadd_int, isub_int, Bool.not_true, Bool.not_false, add_int, sub_int, eq_int, ne_int, lt_int, le_int, gt_int, ge_int, eq_str, ne_str, len_lst, len_tup, sRange1_ap, kRange1_ok, eq_self, decide_true, decide_false, eq_self_iff_true, pm_nil, pm_cons, sRev_ap, kRev_ok, rev_tup, rev_lst, sRaise_ap, kRaise_ok, sTry_ap, kTry_nx, kTry_ret, sTryF_ap, kTryF_nx, kAsg_err, kBin1_err, kBin2_err, kCall_err, kC1_err, kC2_err, kRet_err, kDrop_err, kIf_err, hx]
      rw [if_pos rfl]
      simp only [forL_cons gt e]
      exact tl
    | false =>
      rw [q] at hx
      have fk : fOk false (.int (i : Nat)) = true := rfl
      have e : prB [some v, some (.int i), some x] ms = .err 4 (.int i) [some v, some (.int i), some x] ms := by
        show (sIf prC (sRaise 4 false (sVar 1)) sSkip) _ _ = _
        generalize prC = C at hx ⊢
        simp only [runD_ap, List.map_cons, List.map_nil, List.length_cons, List.length_nil, Nat.reduceAdd, Nat.reduceSub, List.replicate, List.cons_append, List.nil_append, sSeq_ap, sAsg_ap, sBin_ap, sCst_ap, kBin1_ok, sCall_ap, sCons_ap, sVar_ap, List.getElem?_cons_zero, List.getElem?_cons_succ, vR_some, kC1_ok, sNil_ap, kC2_ok, kCall_ok, ↓reduceIte, kBin2_ok, optR_some, kAsg_ok, gNm_ap, asgO_some, List.set_cons_succ, List.set_cons_zero, next_nx, next_ret, next_err, sIf_ap, sTst_ap, kTst_ok, kIf_f, kIf_t, sSkip_ap, sBif_ap, kBif_ok, sPar_ap, sTup_ap, kTup_ok, Nat.reduceLeDiff, kPar_ok, setAll, sRet_ap, kRet_ok, out_ret, out_nx, out_err, gTu_tup, gTu_lst, gsC_nm, gsC_tu, gsK_some, gsN, sNewL_ap, kNewL_ok, sAppend_ap, kApp0_some, kApp_ok, sAndV_ap, kAndV_ok, kAndV2_t, kAndV2_f, sOrV_ap, kOrV_ok, kOrV2_t, kOrV2_f, tru_bl, sIte_ap, kIte_t, kIte_f, sLst_ap, kLst_ok, sFor_ap, kFor_ok, sItems_ap, kItems_ok, itemsD, sNeg_ap, kNeg_ok, sSlc_ap, kS1_ok, kS2_ok, kS3_ok, sPart_ap, kPart_ok, sNoPart_ap, sOrT_ap, kOrT_f, kOrT_t, sAndT_ap, kAndT_t, kAndT_f, sNotT_ap, kNotT_ok, sNotV_ap, kNotV_ok, kNotV2_ok, sTru_ap, kTru_ok, sIsi_ap, kIsi_ok, sCallK_ap, kK1_ok, kK2_ok, and_self, sDrop_ap, kDrop_ok, sRetN_ap, sChain_ap, kCh1_ok, kCh2_ok, kCh3_t, kCh3_f, kCh4_ok, sTab_ap, kTab_ok, sAug_ap, kAug0_some, kAug1_ok, augO_some, iadd_int, isub_int, Bool.not_true, Bool.not_false, add_int, sub_int, eq_int, ne_int, lt_int, le_int, gt_int, ge_int, eq_str, ne_str, len_lst, len_tup, sRange1_ap, kRange1_ok, eq_self, decide_true, decide_false, eq_self_iff_true, pm_nil, pm_cons, sRev_ap, kRev_ok, rev_tup, rev_lst, sRaise_ap, kRaise_ok, sTry_ap, kTry_nx, kTry_ret, sTryF_ap, kTryF_nx, kAsg_err, kBin1_err, kBin2_err, kCall_err, kC1_err, kC2_err, kRet_err, kDrop_err, kIf_err, hx, fk]
      rw [if_neg (by simp)]
      exact ⟨_, forL_err gt e⟩
/-- what need_receiver says of a tuple -/
def rcvR (xs : List D) (ms : MS) : R D := if 1 ≤ xs.length ∧ xs.length ≤ 4 then (match firstW xs 0 with
  | none => .ok (.tup xs) ms
  | some i => .err 4 (.int (i : Nat)) ms) else .err 4 .non ms
theorem need_rcv {xs : List D} (h : ∀ x ∈ xs, Pr x) (hl : ∀ k, locsLts k xs = true) : F_need_receiver [.tup xs] ms = rcvR xs ms := by
  have it : ∀ m : MS, isiB "tuple" m (.tup xs) = some true := fun m => isi_tup
  have l0 : ∀ m : MS, lenD m [.tup xs] = some (.int xs.length) := fun m => rfl
  have fk : fOk false .non = true := rfl
  have en : (xs.mapIdx fun i d => D.tup [.int (i : Nat), d]) = enumL xs 0 := by
    unfold enumL; congr 1; funext k d; rw [Nat.zero_add]
  have se : ∀ (q1 q2 : Option D) (m : MS), sEnumA (sCons (sVar 0) sNil) [some (.tup xs), q1, q2] m = .ok (enumL xs 0) m := fun q1 q2 m => by rw [← en]; rfl
  have go := rc_go (ms := ms) (v := .tup xs) xs 0 none none h
  unfold rcvR
  by_cases hc : 1 ≤ xs.length ∧ xs.length ≤ 4
  · rw [if_pos hc]
    have c0 : rcC [some (.tup xs), none, none] ms = .ok false ms := by
      have a : decide ((1 : Int) ≤ (xs.length : Int)) = true := decide_eq_true (by omega)
      have b : decide ((xs.length : Int) ≤ 4) = true := decide_eq_true (by omega)
      generalize D.tup xs = X at *
      generalize (xs.length : Int) = N at *
      simp only [rcC, runD_ap, List.map_cons, List.map_nil, List.length_cons, List.length_nil, Nat.reduceAdd, Nat.reduceSub, List.replicate, List.cons_append, List.nil_append, sSeq_ap, sAsg_ap, sBin_ap, sCst_ap, kBin1_ok, sCall_ap, sCons_ap, sVar_ap, List.getElem?_cons_zero, List.getElem?_cons_succ, vR_some, kC1_ok, sNil_ap, kC2_ok, kCall_ok, ↓reduceIte, kBin2_ok, optR_some, kAsg_ok, gNm_ap, asgO_some, List.set_cons_succ, List.set_cons_zero, next_nx, next_ret, next_err, sIf_ap, sTst_ap, kTst_ok, kIf_f, kIf_t, sSkip_ap, sBif_ap, kBif_ok, sPar_ap, sTup_ap, kTup_ok, Nat.reduceLeDiff, kPar_ok, setAll, sRet_ap, kRet_ok, out_ret, out_nx, out_err, gTu_tup, gTu_lst, gsC_nm, gsC_tu, gsK_some, gsN, sNewL_ap, kNewL_ok, sAppend_ap, kApp0_some, kApp_ok, sAndV_ap, kAndV_ok, kAndV2_t, kAndV2_f, sOrV_ap, kOrV_ok, kOrV2_t, kOrV2_f, tru_bl, sIte_ap, kIte_t, kIte_f, sLst_ap, kLst_ok, sFor_ap, kFor_ok, sItems_ap, kItems_ok, itemsD, sNeg_ap, kNeg_ok, sSlc_ap, kS1_ok, kS2_ok, kS3_ok, sPart_ap, kPart_ok, sNoPart_ap, sOrT_ap, kOrT_f, kOrT_t, sAndT_ap, kAndT_t, kAndT_f, sNotT_ap, kNotT_ok, sNotV_ap, kNotV_ok, kNotV2_ok, sTru_ap, kTru_ok, sIsi_ap, kIsi_ok, sCallK_ap, kK1_ok, kK2_ok, and_self, sDrop_ap, kDrop_ok, sRetN_ap, sChain_ap, kCh1_ok, kCh2_ok, kCh3_t, kCh3_f, kCh4_ok, sTab_ap, kTab_ok, sAug_ap, kAug0_some, kAug1_ok, augO_some, iadd_int, isub_int, Bool.not_true, Bool.not_false, add_int, sub_int, eq_int, ne_int, lt_int, le_int, gt_int, ge_int, eq_str, ne_str, len_lst, len_tup, sRange1_ap, kRange1_ok, eq_self, decide_true, decide_false, eq_self_iff_true, pm_nil, pm_cons, sRev_ap, kRev_ok, rev_tup, rev_lst, sRaise_ap, kRaise_ok, sTry_ap, kTry_nx, kTry_ret, sTryF_ap, kTryF_nx, kAsg_err, kBin1_err, kBin2_err, kCall_err, kC1_err, kC2_err, kRet_err, kDrop_err, kIf_err, it, Option.map_some, l0, a, b]
    cases q : firstW xs 0 with
    | none =>
      rw [q] at go
      obtain ⟨q1, q2, e⟩ := go
      refine cutF_here ?_ (by simp only [locsLt]; exact hl _)
      rw [b_rc_eq]
      generalize enumL xs 0 = L at *
      generalize D.tup xs = X at *
      generalize rcC = C at *
      generalize prB = B at *
      simp only [runD_ap, List.map_cons, List.map_nil, List.length_cons, List.length_nil, Nat.reduceAdd, Nat.reduceSub, List.replicate, List.cons_append, List.nil_append, sSeq_ap, sAsg_ap, sBin_ap, sCst_ap, kBin1_ok, sCall_ap, sCons_ap, sVar_ap, List.getElem?_cons_zero, List.getElem?_cons_succ, vR_some, kC1_ok, sNil_ap, kC2_ok, kCall_ok, ↓reduceIte, kBin2_ok, optR_some, kAsg_ok, gNm_ap, asgO_some, List.set_cons_succ, List.set_cons_zero, next_nx, next_ret, next_err, sIf_ap, sTst_ap, kTst_ok, kIf_f, kIf_t, sSkip_ap, sBif_ap, kBif_ok, sPar_ap, sTup_ap, kTup_ok, Nat.reduceLeDiff, kPar_ok, setAll, sRet_ap, kRet_ok, out_ret, out_nx, out_err, gTu_tup, gTu_lst, gsC_nm, gsC_tu, gsK_some, gsN, sNewL_ap, kNewL_ok, sAppend_ap, kApp0_some, kApp_ok, sAndV_ap, kAndV_ok, kAndV2_t, kAndV2_f, sOrV_ap, kOrV_ok, kOrV2_t, kOrV2_f, tru_bl, sIte_ap, kIte_t, kIte_f, sLst_ap, kLst_ok, sFor_ap, kFor_ok, sItems_ap, kItems_ok, itemsD, sNeg_ap, kNeg_ok, sSlc_ap, kS1_ok, kS2_ok, kS3_ok, sPart_ap, kPart_ok, sNoPart_ap, sOrT_ap, kOrT_f, kOrT_t, sAndT_ap, kAndT_t, kAndT_f, sNotT_ap, kNotT_ok, sNotV_ap, kNotV_ok, kNotV2_ok, sTru_ap, kTru_ok, sIsi_ap, kIsi_ok, sCallK_ap, kK1_ok, kK2_ok, and_self, sDrop_ap, kDrop_ok, sRetN_ap, sChain_ap, kCh1_ok, kCh2_ok, kCh3_t, kCh3_f, kCh4_ok, sTab_ap, kTab_ok, sAug_ap, kAug0_some, kAug1_ok, augO_some, iadd_int, isub_int, Bool.not_true, Bool.not_false, add_int, sub_int, eq_int, ne_int, lt_int, le_int, gt_int, ge_int, eq_str, ne_str, len_lst, len_tup, sRange1_ap, kRange1_ok, eq_self, decide_true, decide_false, eq_self_iff_true, pm_nil, pm_cons, sRev_ap, kRev_ok, rev_tup, rev_lst, sRaise_ap, kRaise_ok, sTry_ap, kTry_nx, kTry_ret, sTryF_ap, kTryF_nx, kAsg_err, kBin1_err, kBin2_err, kCall_err, kC1_err, kC2_err, kRet_err, kDrop_err, kIf_err, c0, se, e]
    | some i =>
      rw [q] at go
      obtain ⟨e', e⟩ := go
      refine cutF_err [] ?_ rfl
      rw [b_rc_eq]
      generalize enumL xs 0 = L at *
      generalize D.tup xs = X at *
      generalize rcC = C at *
      generalize prB = B at *
      simp only [runD_ap, List.map_cons, List.map_nil, List.length_cons, List.length_nil, Nat.reduceAdd, Nat.reduceSub, List.replicate, List.cons_append, List.nil_append, sSeq_ap, sAsg_ap, sBin_ap, sCst_ap, kBin1_ok, sCall_ap, sCons_ap, sVar_ap, List.getElem?_cons_zero, List.getElem?_cons_succ, vR_some, kC1_ok, sNil_ap, kC2_ok, kCall_ok, ↓reduceIte, kBin2_ok, optR_some, kAsg_ok, gNm_ap, asgO_some, List.set_cons_succ, List.set_cons_zero, next_nx, next_ret, next_err, sIf_ap, sTst_ap, kTst_ok, kIf_f, kIf_t, sSkip_ap, sBif_ap, kBif_ok, sPar_ap, sTup_ap, kTup_ok, Nat.reduceLeDiff, kPar_ok, setAll, sRet_ap, kRet_ok, out_ret, out_nx, out_err, gTu_tup, gTu_lst, gsC_nm, gsC_tu, gsK_some, gsN, sNewL_ap, kNewL_ok, sAppend_ap, kApp0_some, kApp_ok, sAndV_ap, kAndV_ok, kAndV2_t, kAndV2_f, sOrV_ap, kOrV_ok, kOrV2_t, kOrV2_f, tru_bl, sIte_ap, kIte_t, kIte_f, sLst_ap, kLst_ok, sFor_ap, kFor_ok, sItems_ap, kItems_ok, itemsD, sNeg_ap, kNeg_ok, sSlc_ap, kS1_ok, kS2_ok, kS3_ok, sPart_ap, kPart_ok, sNoPart_ap, sOrT_ap, kOrT_f, kOrT_t, sAndT_ap, kAndT_t, kAndT_f, sNotT_ap, kNotT_ok, sNotV_ap, kNotV_ok, kNotV2_ok, sTru_ap, kTru_ok, sIsi_ap, kIsi_ok, sCallK_ap, kK1_ok, kK2_ok, and_self, sDrop_ap, kDrop_ok, sRetN_ap, sChain_ap, kCh1_ok, kCh2_ok, kCh3_t, kCh3_f, kCh4_ok, sTab_ap, kTab_ok, sAug_ap, kAug0_some, kAug1_ok, augO_some, iadd_int, isub_int, Bool.not_true, Bool.not_false, add_int, sub_int, eq_int, ne_int, lt_int, le_int, gt_int, ge_int, eq_str, ne_str, len_lst, len_tup, sRange1_ap, kRange1_ok, eq_self, decide_true, decide_false, eq_self_iff_true, pm_nil, pm_cons, sRev_ap, kRev_ok, rev_tup, rev_lst, sRaise_ap, kRaise_ok, sTry_ap, kTry_nx, kTry_ret, sTryF_ap, kTryF_nx, kAsg_err, kBin1_err, kBin2_err, kCall_err, kC1_err, kC2_err, kRet_err, kDrop_err, kIf_err, c0, se, e, List.append_nil]
  · rw [if_neg hc]
    have c0 : rcC [some (.tup xs), none, none] ms = .ok true ms := by
      by_cases a : 1 ≤ xs.length
      · have a' : decide ((1 : Int) ≤ (xs.length : Int)) = true := decide_eq_true (by omega)
        have b : decide ((xs.length : Int) ≤ 4) = false := decide_eq_false (by omega)
        generalize D.tup xs = X at *
        generalize (xs.length : Int) = N at *
        simp only [rcC, runD_ap, List.map_cons, List.map_nil, List.length_cons, List.length_nil, Nat.reduceAdd, Nat.reduceSub, List.replicate, List.cons_append, List.nil_append, sSeq_ap, sAsg_ap, sBin_ap, sCst_ap, kBin1_ok, sCall_ap, sCons_ap, sVar_ap, List.getElem?_cons_zero, List.getElem?_cons_succ, vR_some, kC1_ok, sNil_ap, kC2_ok, kCall_ok, ↓reduceIte, kBin2_ok, optR_some, kAsg_ok, gNm_ap, asgO_some, List.set_cons_succ, List.set_cons_zero, next_nx, next_ret, next_err, sIf_ap, sTst_ap, kTst_ok, kIf_f, kIf_t, sSkip_ap, sBif_ap, kBif_ok, sPar_ap, sTup_ap, kTup_ok, Nat.reduceLeDiff, kPar_ok, setAll, sRet_ap, kRet_ok, out_ret, out_nx, out_err, gTu_tup, gTu_lst, gsC_nm, gsC_tu, gsK_some, gsN, sNewL_ap, kNewL_ok, sAppend_ap, kApp0_some, kApp_ok, sAndV_ap, kAndV_ok, kAndV2_t, kAndV2_f, sOrV_ap, kOrV_ok, kOrV2_t, kOrV2_f, tru_bl, sIte_ap, kIte_t, kIte_f, sLst_ap, kLst_ok, sFor_ap, kFor_ok, sItems_ap, kItems_ok, itemsD, sNeg_ap, kNeg_ok, sSlc_ap, kS1_ok, kS2_ok, kS3_ok, sPart_ap, kPart_ok, sNoPart_ap, sOrT_ap, kOrT_f, kOrT_t, sAndT_ap, kAndT_t, kAndT_f, sNotT_ap, kNotT_ok, sNotV_ap, kNotV_ok, kNotV2_ok, sTru_ap, kTru_ok, sIsi_ap, kIsi_ok, sCallK_ap, kK1_ok, kK2_ok, and_self, sDrop_ap, kDrop_ok, sRetN_ap, sChain_ap, kCh1_ok, kCh2_ok, kCh3_t, kCh3_f, kCh4_ok, sTab_ap, kTab_ok, sAug_ap, kAug0_some, kAug1_ok, augO_some, iadd_int, isub_int, Bool.not_true, Bool.not_false, add_int, sub_int, eq_int, ne_int, lt_int, le_int, gt_int, ge_int, eq_str, ne_str, len_lst, len_tup, sRange1_ap, kRange1_ok, eq_self, decide_true, decide_false, eq_self_iff_true, pm_nil, pm_cons, sRev_ap, kRev_ok, rev_tup, rev_lst, sRaise_ap, kRaise_ok, sTry_ap, kTry_nx, kTry_ret, sTryF_ap, kTryF_nx, kAsg_err, kBin1_err, kBin2_err, kCall_err, kC1_err, kC2_err, kRet_err, kDrop_err, kIf_err, it, Option.map_some, l0, a', b]
      · have a' : decide ((1 : Int) ≤ (xs.length : Int)) = false := decide_eq_false (by omega)
        generalize D.tup xs = X at *
        generalize (xs.length : Int) = N at *
        simp only [rcC, runD_ap, List.map_cons, List.map_nil, List.length_cons, List.length_nil, Nat.reduceAdd, Nat.reduceSub, List.replicate, List.cons_append, List.nil_append, sSeq_ap, sAsg_ap, sBin_ap, sCst_ap, kBin1_ok, sCall_ap, sCons_ap, sVar_ap, List.getElem?_cons_zero, List.getElem?_cons_succ, vR_some, kC1_ok, sNil_ap, kC2_ok, kCall_ok, ↓reduceIte, kBin2_ok, optR_some, kAsg_ok, gNm_ap, asgO_some, List.set_cons_succ, List.set_cons_zero, next_nx, next_ret, next_err, sIf_ap, sTst_ap, kTst_ok, kIf_f, kIf_t, sSkip_ap, sBif_ap, kBif_ok, sPar_ap, sTup_ap, kTup_ok, Nat.reduceLeDiff, kPar_ok, setAll, sRet_ap, kRet_ok, out_ret, out_nx, out_err, gTu_tup, gTu_lst, gsC_nm, gsC_tu, gsK_some, gsN, sNewL_ap, kNewL_ok, sAppend_ap, kApp0_some, kApp_ok, sAndV_ap, kAndV_ok, kAndV2_t, kAndV2_f, sOrV_ap, kOrV_ok, kOrV2_t, kOrV2_f, tru_bl, sIte_ap, kIte_t, kIte_f, sLst_ap, kLst_ok, sFor_ap, kFor_ok, sItems_ap, kItems_ok, itemsD, sNeg_ap, kNeg_ok, sSlc_ap, kS1_ok, kS2_ok, kS3_ok, sPart_ap, kPart_ok, sNoPart_ap, sOrT_ap, kOrT_f, kOrT_t, sAndT_ap, kAndT_t, kAndT_f, sNotT_ap, kNotT_ok, sNotV_ap, kNotV_ok, kNotV2_ok, sTru_ap, kTru_ok, sIsi_ap, kIsi_ok, sCallK_ap, kK1_ok, kK2_ok, and_self, sDrop_ap, kDrop_ok, sRetN_ap, sChain_ap, kCh1_ok, kCh2_ok, kCh3_t, kCh3_f, kCh4_ok, sTab_ap, kTab_ok, sAug_ap, kAug0_some, kAug1_ok, augO_some, iadd_int, isub_int, Bool.not_true, Bool.not_false, add_int, sub_int, eq_int, ne_int, lt_int, le_int, gt_int, ge_int, eq_str, ne_str, len_lst, len_tup, sRange1_ap, kRange1_ok, eq_self, decide_true, decide_false, eq_self_iff_true, pm_nil, pm_cons, sRev_ap, kRev_ok, rev_tup, rev_lst, sRaise_ap, kRaise_ok, sTry_ap, kTry_nx, kTry_ret, sTryF_ap, kTryF_nx, kAsg_err, kBin1_err, kBin2_err, kCall_err, kC1_err, kC2_err, kRet_err, kDrop_err, kIf_err, it, Option.map_some, l0, a']
    refine cutF_err [] ?_ rfl
    rw [b_rc_eq]
    generalize D.tup xs = X at *
    generalize rcC = C at *
    generalize prB = B at *
    simp only [runD_ap, List.map_cons, List.map_nil, List.length_cons, List.length_nil, Nat.reduceAdd, Nat.reduceSub, List.replicate, List.cons_append, List.nil_append, sSeq_ap, sAsg_ap, sBin_ap, sCst_ap, kBin1_ok, sCall_ap, sCons_ap, sVar_ap, List.getElem?_cons_zero, List.getElem?_cons_succ, vR_some, kC1_ok, sNil_ap, kC2_ok, kCall_ok, ↓reduceIte, kBin2_ok, optR_some, kAsg_ok, gNm_ap, asgO_some, List.set_cons_succ, List.set_cons_zero, next_nx, next_ret, next_err, sIf_ap, sTst_ap, kTst_ok, kIf_f, kIf_t, sSkip_ap, sBif_ap, kBif_ok, sPar_ap, sTup_ap, kTup_ok, Nat.reduceLeDiff, kPar_ok, setAll, sRet_ap, kRet_ok, out_ret, out_nx, out_err, gTu_tup, gTu_lst, gsC_nm, gsC_tu, gsK_some, gsN, sNewL_ap, kNewL_ok, sAppend_ap, kApp0_some, kApp_ok, sAndV_ap, kAndV_ok, kAndV2_t, kAndV2_f, sOrV_ap, kOrV_ok, kOrV2_t, kOrV2_f, tru_bl, sIte_ap, kIte_t, kIte_f, sLst_ap, kLst_ok, sFor_ap, kFor_ok, sItems_ap, kItems_ok, itemsD, sNeg_ap, kNeg_ok, sSlc_ap, kS1_ok, kS2_ok, kS3_ok, sPart_ap, kPart_ok, sNoPart_ap, sOrT_ap, kOrT_f, kOrT_t, sAndT_ap, kAndT_t, kAndT_f, sNotT_ap, kNotT_ok, sNotV_ap, kNotV_ok, kNotV2_ok, sTru_ap, kTru_ok, sIsi_ap, kIsi_ok, sCallK_ap, kK1_ok, kK2_ok, and_self, sDrop_ap, kDrop_ok, sRetN_ap, sChain_ap, kCh1_ok, kCh2_ok, kCh3_t, kCh3_f, kCh4_ok, sTab_ap, kTab_ok, sAug_ap, kAug0_some, kAug1_ok, augO_some, iadd_int, isub_int, Bool.not_true, Bool.not_false, add_int, sub_int, eq_int, ne_int, lt_int, le_int, gt_int, ge_int, eq_str, ne_str, len_lst, len_tup, sRange1_ap, kRange1_ok, eq_self, decide_true, decide_false, eq_self_iff_true, pm_nil, pm_cons, sRev_ap, kRev_ok, rev_tup, rev_lst, sRaise_ap, kRaise_ok, sTry_ap, kTry_nx, kTry_ret, sTryF_ap, kTryF_nx, kAsg_err, kBin1_err, kBin2_err, kCall_err, kC1_err, kC2_err, kRet_err, kDrop_err, kIf_err, c0, fk, List.append_nil]
theorem need_rcv_no {d : D} (hf : flat d = true) (ht : ∀ xs, d ≠ .tup xs) : F_need_receiver [d] ms = .err 4 .non ms := by
  have it := fun m : MS => isi_notup (ms := m) hf ht
  have fk : fOk false .non = true := rfl
  refine cutF_err [] ?_ rfl
  rw [b_rc_eq]
  generalize prB = B at *
  simp only [rcC, runD_ap, List.map_cons, List.map_nil, List.length_cons, List.length_nil, Nat.reduceAdd, Nat.reduceSub, List.replicate, List.cons_append, List.nil_append, sSeq_ap, sAsg_ap, sBin_ap, sCst_ap, kBin1_ok, sCall_ap, sCons_ap, sVar_ap, List.getElem?_cons_zero, List.getElem?_cons_succ, vR_some, kC1_ok, sNil_ap, kC2_ok, kCall_ok, ↓reduceIte, kBin2_ok, optR_some, kAsg_ok, gNm_ap, asgO_some, List.set_cons_succ, List.set_cons_zero, next_nx, next_ret, next_err, sIf_ap, sTst_ap, kTst_ok, kIf_f, kIf_t, sSkip_ap, sBif_ap, kBif_ok, sPar_ap, sTup_ap, kTup_ok, Nat.reduceLeDiff, kPar_ok, setAll, sRet_ap, kRet_ok, out_ret, out_nx, out_err, gTu_tup, gTu_lst, gsC_nm, gsC_tu, gsK_some, gsN, sNewL_ap, kNewL_ok, sAppend_ap, kApp0_some, kApp_ok, sAndV_ap, kAndV_ok, kAndV2_t, kAndV2_f, sOrV_ap, kOrV_ok, kOrV2_t, kOrV2_f, tru_bl, sIte_ap, kIte_t, kIte_f, sLst_ap, kLst_ok, sFor_ap, kFor_ok, sItems_ap, kItems_ok, itemsD, sNeg_ap, kNeg_ok, sSlc_ap, kS1_ok, kS2_ok, kS3_ok, sPart_ap, kPart_ok, sNoPart_ap, sOrT_ap, kOrT_f, kOrT_t, sAndT_ap, kAndT_t, kAndT_f, sNotT_ap, kNotT_ok, sNotV_ap, kNotV_ok, kNotV2_ok, sTru_ap, kTru_ok, sIsi_ap, kIsi_ok, sCallK_ap, kK1_ok, kK2_ok, and_self, sDrop_ap, kDrop_ok, sRetN_ap, sChain_ap, kCh1_ok, kCh2_ok, kCh3_t, kCh3_f, kCh4_ok, sTab_ap, kTab_ok, sAug_ap, kAug0_some, kAug1_ok, augO_some, iadd_int, isub_int, Bool.not_true, Bool.not_false, add_int, sub_int, eq_int, ne_int, lt_int, le_int, gt_int, ge_int, eq_str, ne_str, len_lst, len_tup, sRange1_ap, kRange1_ok, eq_self, decide_true, decide_false, eq_self_iff_true, pm_nil, pm_cons, sRev_ap, kRev_ok, rev_tup, rev_lst, sRaise_ap, kRaise_ok, sTry_ap, kTry_nx, kTry_ret, sTryF_ap, kTryF_nx, kAsg_err, kBin1_err, kBin2_err, kCall_err, kC1_err, kC2_err, kRet_err, kDrop_err, kIf_err, it, Option.map_some, fk, List.append_nil]
end
end U

/-! drawn receivers -/
namespace U
open PySem L2 DL
section
variable {ms : MS} {n : Nat}
theorem Tb.up {m m' : Int} {t : D} (h : Tb m t) (hm : m ≤ m') : Tb m' t := by
  cases h with
  | hv z b z0 z1 b0 b1 => exact .hv z b z0 z1 b0 (by omega)
  | pr hs z0 z1 o0 o1 st b hc hh a1 a2 a3 a4 a5 a6 a7 a8 a9 a10 hne b0 b1 => exact .pr hs z0 z1 o0 o1 st b hc hh a1 a2 a3 a4 a5 a6 a7 a8 a9 a10 hne b0 (by omega)
theorem ne_two {a b c d : Int} : neD ms (.tup [.int a, .int b]) (.tup [.int c, .int d]) = some (.bl (!decide (a = c ∧ b = d))) := by
  have : neD ms (.tup [.int a, .int b]) (.tup [.int c, .int d]) = some (.bl (!((a == c) && ((b == d) && true)))) := by kernel_rfl
  rw [this]
  by_cases h1 : a = c <;> by_cases h2 : b = d <;> simp [h1, h2]
theorem eqs {x y : Str} : eqD ms (.str x) (.str y) = some (.bl (decide (x = y))) := rfl
noncomputable abbrev lkC : ST := (sAndT (sTst (sBin eqD (sVar 2) (sCst (.int 2)))) (sTst (sBin neD (sVar 6) (sTup (sCons (sBin atD (sVar 7) (sCst (.int 0))) (sCons (sBin addD (sBin modD (sBin atD (sVar 7) (sCst (.int 1))) (sCst (.int 9))) (sCst (.int 1))) sNil))))))
theorem b_like_eq : b_law_like = (sSeq (sAsg (sCall F_law_next 2 (sCons (sVar 0) (sCons (sCst (.int 6)) sNil))) (gNm 2))
    (sSeq (sIf (sTst (sBin eqD (sBin atD (sVar 1) (sCst (.int 0))) (sCst (.str "halves"))))
    (sSeq (sAsg (sIte (sTst (sBin eqD (sVar 2) (sCst (.int 0)))) (sBin addD (sBin modD (sBin atD (sVar 1) (sCst (.int 1))) (sCst (.int 9))) (sCst (.int 1))) (sBin atD (sVar 1) (sCst (.int 1)))) (gNm 3))
    (sRet (sTup (sCons (sBin atD (sVar 1) (sCst (.int 0))) (sCons (sVar 3) (sCons (sIte (sTst (sBin ltD (sVar 2) (sCst (.int 3)))) (sBin atD (sVar 1) (sCst (.int 2))) (sBin addD (sCst (.int 1)) (sBin modD (sBin atD (sVar 1) (sCst (.int 2))) (sCst (.int 3))))) sNil))))))
    sSkip)
    (sSeq (sAsg (sVar 1) (gTu 6 (gsCons (gNm 4) (gsCons (gNm 5) (gsCons (gNm 6) (gsCons (gNm 7) (gsCons (gNm 8) (gsCons (gNm 9) gsNil))))))))
    (sSeq (sIf (sTst (sBin eqD (sVar 2) (sCst (.int 0))))
    (sRet (sTup (sCons (sVar 4) (sCons (sVar 5) (sCons (sVar 7) (sCons (sVar 6) (sCons (sVar 8) (sCons (sVar 9) sNil))))))))
    sSkip)
    (sSeq (sIf (sTst (sBin eqD (sVar 2) (sCst (.int 1))))
    (sRet (sTup (sCons (sVar 4) (sCons (sSlc (sVar 5) sNoPart (sPart (sNeg (sCst (.int 2))))) (sCons (sVar 6) (sCons (sVar 7) (sCons (sVar 8) (sCons (sVar 9) sNil))))))))
    sSkip)
    (sSeq (sIf lkC
    (sRet (sTup (sCons (sVar 4) (sCons (sVar 5) (sCons (sVar 6) (sCons (sTup (sCons (sBin atD (sVar 7) (sCst (.int 0))) (sCons (sBin addD (sBin modD (sBin atD (sVar 7) (sCst (.int 1))) (sCst (.int 9))) (sCst (.int 1))) sNil))) (sCons (sVar 8) (sCons (sVar 9) sNil))))))))
    sSkip)
    (sSeq (sAsg (sIte (sTst (sBin eqD (sVar 2) (sCst (.int 3)))) (sBin addD (sBin modD (sVar 8) (sCst (.int 9))) (sCst (.int 1))) (sVar 8)) (gNm 8))
    (sRet (sTup (sCons (sVar 4) (sCons (sVar 5) (sCons (sVar 6) (sCons (sVar 7) (sCons (sVar 8) (sCons (sIte (sTst (sBin ltD (sVar 2) (sCst (.int 5)))) (sVar 9) (sBin addD (sCst (.int 1)) (sBin modD (sVar 9) (sCst (.int 3))))) sNil))))))))))))))) := rfl
theorem like_ok {B : Nat} {o : MO} {t : D} {most : Int} (hn : ms[n]? = some o) (dr : Dr B o) (hB : B < 900000) (hm : 3 ≤ most) (h : Tb most t) :
    ∃ (t' : D) (o' : MO), F_law_like [.loc n, t] ms = .ok t' (ms.set n o') ∧ Tb most t' ∧ Dr (B + 1) o' := by
  obtain ⟨w, o1, e1, w0, w1, d1⟩ := next_ok (many := 6) hn dr (by omega) (by omega) (by omega)
  have ab : ∀ x : Int, 1 ≤ x % 9 + 1 ∧ x % 9 + 1 ≤ 99999 := fun x => by omega
  have ab3 : ∀ x : Int, 1 ≤ 1 + x % 3 ∧ 1 + x % 3 ≤ most := fun x => by omega
  have m9 := fun (m : MS) (x : Int) => mod_int (ms := m) (i := x) (j := 9) (by omega)
  have m3 := fun (m : MS) (x : Int) => mod_int (ms := m) (i := x) (j := 3) (by omega)
  have sh : decide (("halves" : Str) = "halves") = true := rfl
  have sp : decide (("pairs" : Str) = "halves") = false := by decide +kernel
  cases h with
  | hv z b z0 z1 b0 b1 =>
    have a0 : ∀ m : MS, atD m (.tup [.str "halves", .int z, .int b]) (.int 0) = some (.str "halves") := fun m => rfl
    have a1 : ∀ m : MS, atD m (.tup [.str "halves", .int z, .int b]) (.int 1) = some (.int z) := fun m => rfl
    have a2 : ∀ m : MS, atD m (.tup [.str "halves", .int z, .int b]) (.int 2) = some (.int b) := fun m => rfl
    have fin : ∀ z' b' : Int, runD 10 b_law_like [.loc n, .tup [.str "halves", .int z, .int b]] ms = .ok (.tup [.str "halves", .int z', .int b']) (ms.set n o1) → 1 ≤ z' → z' ≤ 99999 → 1 ≤ b' → b' ≤ most → ∃ (t' : D) (o' : MO), F_law_like [.loc n, .tup [.str "halves", .int z, .int b]] ms = .ok t' (ms.set n o') ∧ Tb most t' ∧ Dr (B + 1) o' :=
      fun z' b' e h1 h2 h3 h4 => ⟨_, o1, cutF_set [] (by rw [List.append_nil]; exact e) d1.lt rfl, .hv z' b' h1 h2 h3 h4, d1⟩
    by_cases q0 : w = 0
    · have c0 : decide (w = 0) = true := decide_eq_true q0
      have c3 : decide (w < 3) = true := decide_eq_true (by omega)
      refine fin (z % 9 + 1) b ?_ (ab z).1 (ab z).2 b0 b1
      generalize hT : D.tup [.str "halves", .int z, .int b] = T at a0 a1 a2 ⊢
      first | (simp only [b_law_like, runD_ap, List.map_cons, List.map_nil, List.length_cons, List.length_nil, Nat.reduceAdd, Nat.reduceSub, List.replicate, List.cons_append, List.nil_append, sSeq_ap, sAsg_ap, sBin_ap, sCst_ap, kBin1_ok, sCall_ap, sCons_ap, sVar_ap, List.getElem?_cons_zero, List.getElem?_cons_succ, vR_some, kC1_ok, sNil_ap, kC2_ok, kCall_ok, ↓reduceIte, kBin2_ok, optR_some, kAsg_ok, gNm_ap, asgO_some, List.set_cons_succ, List.set_cons_zero, next_nx, next_ret, next_err, sIf_ap, sTst_ap, kTst_ok, kIf_f, kIf_t, sSkip_ap, sBif_ap, kBif_ok, sPar_ap, sTup_ap, kTup_ok, Nat.reduceLeDiff, kPar_ok, setAll, sRet_ap, kRet_ok, out_ret, out_nx, out_err, gTu_tup, gTu_lst, gsC_nm, gsC_tu, gsK_some, gsN, sNewL_ap, kNewL_ok, sAppend_ap, kApp0_some, kApp_ok, sAndV_ap, kAndV_ok, kAndV2_t, kAndV2_f, sOrV_ap, kOrV_ok, kOrV2_t, kOrV2_f, tru_bl, sIte_ap, kIte_t, kIte_f, sLst_ap, kLst_ok, sFor_ap, kFor_ok, sItems_ap, kItems_ok, itemsD, sNeg_ap, kNeg_ok, sSlc_ap, kS1_ok, kS2_ok, kS3_ok, sPart_ap, kPart_ok, sNoPart_ap, sOrT_ap, kOrT_f, kOrT_t, sAndT_ap, kAndT_t, kAndT_f, sNotT_ap, kNotT_ok, sNotV_ap, kNotV_ok, kNotV2_ok, sTru_ap, kTru_ok, sIsi_ap, kIsi_ok, sCallK_ap, kK1_ok, kK2_ok, and_self, sDrop_ap, kDrop_ok, sRetN_ap, sChain_ap, kCh1_ok, kCh2_ok, kCh3_t, kCh3_f, kCh4_ok, sTab_ap, kTab_ok, sAug_ap, kAug0_some, kAug1_ok, augO_some, iadd_int, isub_int, Bool.not_true, Bool.not_false, add_int, sub_int, eq_int, ne_int, lt_int, le_int, gt_int, ge_int, eq_str, ne_str, len_lst, len_tup, sRange1_ap, kRange1_ok, eq_self, decide_true, decide_false, eq_self_iff_true, pm_nil, pm_cons, sRev_ap, kRev_ok, rev_tup, rev_lst, sRaise_ap, kRaise_ok, sTry_ap, kTry_nx, kTry_ret, sTryF_ap, kTryF_nx, kAsg_err, kBin1_err, kBin2_err, kCall_err, kC1_err, kC2_err, kRet_err, kDrop_err, kIf_err, e1, a0, a1, a2, sh, c0, c3, m9, eqs]; done) | (simp only [b_law_like, runD_ap, List.map_cons, List.map_nil, List.length_cons, List.length_nil, Nat.reduceAdd, Nat.reduceSub, List.replicate, List.cons_append, List.nil_append, sSeq_ap, sAsg_ap, sBin_ap, sCst_ap, kBin1_ok, sCall_ap, sCons_ap, sVar_ap, List.getElem?_cons_zero, List.getElem?_cons_succ, vR_some, kC1_ok, sNil_ap, kC2_ok, kCall_ok, ↓reduceIte, kBin2_ok, optR_some, kAsg_ok, gNm_ap, asgO_some, List.set_cons_succ, List.set_cons_zero, next_nx, next_ret, next_err, sIf_ap, sTst_ap, kTst_ok, kIf_f, kIf_t, sSkip_ap, sBif_ap, kBif_ok, sPar_ap, sTup_ap, kTup_ok, Nat.reduceLeDiff, kPar_ok, setAll, sRet_ap, kRet_ok, out_ret, out_nx, out_err, gTu_tup, gTu_lst, gsC_nm, gsC_tu, gsK_some, gsN, sNewL_ap, kNewL_ok, sAppend_ap, kApp0_some, kApp_ok, sAndV_ap, kAndV_ok, kAndV2_t, kAndV2_f, sOrV_ap, kOrV_ok, kOrV2_t, kOrV2_f, tru_bl, sIte_ap, kIte_t, kIte_f, sLst_ap, kLst_ok, sFor_ap, kFor_ok, sItems_ap, kItems_ok, itemsD, sNeg_ap, kNeg_ok, sSlc_ap, kS1_ok, kS2_ok, kS3_ok, sPart_ap, kPart_ok, sNoPart_ap, sOrT_ap, kOrT_f, kOrT_t, sAndT_ap, kAndT_t, kAndT_f, sNotT_ap, kNotT_ok, sNotV_ap, kNotV_ok, kNotV2_ok, sTru_ap, kTru_ok, sIsi_ap, kIsi_ok, sCallK_ap, kK1_ok, kK2_ok, and_self, sDrop_ap, kDrop_ok, sRetN_ap, sChain_ap, kCh1_ok, kCh2_ok, kCh3_t, kCh3_f, kCh4_ok, sTab_ap, kTab_ok, sAug_ap, kAug0_some, kAug1_ok, augO_some, iadd_int, isub_int, Bool.not_true, Bool.not_false, add_int, sub_int, eq_int, ne_int, lt_int, le_int, gt_int, ge_int, eq_str, ne_str, len_lst, len_tup, sRange1_ap, kRange1_ok, eq_self, decide_true, decide_false, eq_self_iff_true, pm_nil, pm_cons, sRev_ap, kRev_ok, rev_tup, rev_lst, sRaise_ap, kRaise_ok, sTry_ap, kTry_nx, kTry_ret, sTryF_ap, kTryF_nx, kAsg_err, kBin1_err, kBin2_err, kCall_err, kC1_err, kC2_err, kRet_err, kDrop_err, kIf_err, e1, a0, a1, a2, sh, c0, c3, m9, eqs]; rw [hT])
    · have c0 : decide (w = 0) = false := decide_eq_false q0
      by_cases q3 : w < 3
      · have c3 : decide (w < 3) = true := decide_eq_true q3
        refine fin z b ?_ z0 z1 b0 b1
        generalize hT : D.tup [.str "halves", .int z, .int b] = T at a0 a1 a2 ⊢
        first | (simp only [b_law_like, runD_ap, List.map_cons, List.map_nil, List.length_cons, List.length_nil, Nat.reduceAdd, Nat.reduceSub, List.replicate, List.cons_append, List.nil_append, sSeq_ap, sAsg_ap, sBin_ap, sCst_ap, kBin1_ok, sCall_ap, sCons_ap, sVar_ap, List.getElem?_cons_zero, List.getElem?_cons_succ, vR_some, kC1_ok, sNil_ap, kC2_ok, kCall_ok, ↓reduceIte, kBin2_ok, optR_some, kAsg_ok, gNm_ap, asgO_some, List.set_cons_succ, List.set_cons_zero, next_nx, next_ret, next_err, sIf_ap, sTst_ap, kTst_ok, kIf_f, kIf_t, sSkip_ap, sBif_ap, kBif_ok, sPar_ap, sTup_ap, kTup_ok, Nat.reduceLeDiff, kPar_ok, setAll, sRet_ap, kRet_ok, out_ret, out_nx, out_err, gTu_tup, gTu_lst, gsC_nm, gsC_tu, gsK_some, gsN, sNewL_ap, kNewL_ok, sAppend_ap, kApp0_some, kApp_ok, sAndV_ap, kAndV_ok, kAndV2_t, kAndV2_f, sOrV_ap, kOrV_ok, kOrV2_t, kOrV2_f, tru_bl, sIte_ap, kIte_t, kIte_f, sLst_ap, kLst_ok, sFor_ap, kFor_ok, sItems_ap, kItems_ok, itemsD, sNeg_ap, kNeg_ok, sSlc_ap, kS1_ok, kS2_ok, kS3_ok, sPart_ap, kPart_ok, sNoPart_ap, sOrT_ap, kOrT_f, kOrT_t, sAndT_ap, kAndT_t, kAndT_f, sNotT_ap, kNotT_ok, sNotV_ap, kNotV_ok, kNotV2_ok, sTru_ap, kTru_ok, sIsi_ap, kIsi_ok, sCallK_ap, kK1_ok, kK2_ok, and_self, sDrop_ap, kDrop_ok, sRetN_ap, sChain_ap, kCh1_ok, kCh2_ok, kCh3_t, kCh3_f, kCh4_ok, sTab_ap, kTab_ok, sAug_ap, kAug0_some, kAug1_ok, augO_some, iadd_int, isub_int, Bool.not_true, Bool.not_false, add_int, sub_int, eq_int, ne_int, lt_int, le_int, gt_int, ge_int, eq_str, ne_str, len_lst, len_tup, sRange1_ap, kRange1_ok, eq_self, decide_true, decide_false, eq_self_iff_true, pm_nil, pm_cons, sRev_ap, kRev_ok, rev_tup, rev_lst, sRaise_ap, kRaise_ok, sTry_ap, kTry_nx, kTry_ret, sTryF_ap, kTryF_nx, kAsg_err, kBin1_err, kBin2_err, kCall_err, kC1_err, kC2_err, kRet_err, kDrop_err, kIf_err, e1, a0, a1, a2, sh, c0, c3, m9, eqs]; done) | (simp only [b_law_like, runD_ap, List.map_cons, List.map_nil, List.length_cons, List.length_nil, Nat.reduceAdd, Nat.reduceSub, List.replicate, List.cons_append, List.nil_append, sSeq_ap, sAsg_ap, sBin_ap, sCst_ap, kBin1_ok, sCall_ap, sCons_ap, sVar_ap, List.getElem?_cons_zero, List.getElem?_cons_succ, vR_some, kC1_ok, sNil_ap, kC2_ok, kCall_ok, ↓reduceIte, kBin2_ok, optR_some, kAsg_ok, gNm_ap, asgO_some, List.set_cons_succ, List.set_cons_zero, next_nx, next_ret, next_err, sIf_ap, sTst_ap, kTst_ok, kIf_f, kIf_t, sSkip_ap, sBif_ap, kBif_ok, sPar_ap, sTup_ap, kTup_ok, Nat.reduceLeDiff, kPar_ok, setAll, sRet_ap, kRet_ok, out_ret, out_nx, out_err, gTu_tup, gTu_lst, gsC_nm, gsC_tu, gsK_some, gsN, sNewL_ap, kNewL_ok, sAppend_ap, kApp0_some, kApp_ok, sAndV_ap, kAndV_ok, kAndV2_t, kAndV2_f, sOrV_ap, kOrV_ok, kOrV2_t, kOrV2_f, tru_bl, sIte_ap, kIte_t, kIte_f, sLst_ap, kLst_ok, sFor_ap, kFor_ok, sItems_ap, kItems_ok, itemsD, sNeg_ap, kNeg_ok, sSlc_ap, kS1_ok, kS2_ok, kS3_ok, sPart_ap, kPart_ok, sNoPart_ap, sOrT_ap, kOrT_f, kOrT_t, sAndT_ap, kAndT_t, kAndT_f, sNotT_ap, kNotT_ok, sNotV_ap, kNotV_ok, kNotV2_ok, sTru_ap, kTru_ok, sIsi_ap, kIsi_ok, sCallK_ap, kK1_ok, kK2_ok, and_self, sDrop_ap, kDrop_ok, sRetN_ap, sChain_ap, kCh1_ok, kCh2_ok, kCh3_t, kCh3_f, kCh4_ok, sTab_ap, kTab_ok, sAug_ap, kAug0_some, kAug1_ok, augO_some, iadd_int, isub_int, Bool.not_true, Bool.not_false, add_int, sub_int, eq_int, ne_int, lt_int, le_int, gt_int, ge_int, eq_str, ne_str, len_lst, len_tup, sRange1_ap, kRange1_ok, eq_self, decide_true, decide_false, eq_self_iff_true, pm_nil, pm_cons, sRev_ap, kRev_ok, rev_tup, rev_lst, sRaise_ap, kRaise_ok, sTry_ap, kTry_nx, kTry_ret, sTryF_ap, kTryF_nx, kAsg_err, kBin1_err, kBin2_err, kCall_err, kC1_err, kC2_err, kRet_err, kDrop_err, kIf_err, e1, a0, a1, a2, sh, c0, c3, m9, eqs]; rw [hT])
      · have c3 : decide (w < 3) = false := decide_eq_false q3
        refine fin z (1 + b % 3) ?_ z0 z1 (ab3 b).1 (ab3 b).2
        generalize hT : D.tup [.str "halves", .int z, .int b] = T at a0 a1 a2 ⊢
        first | (simp only [b_law_like, runD_ap, List.map_cons, List.map_nil, List.length_cons, List.length_nil, Nat.reduceAdd, Nat.reduceSub, List.replicate, List.cons_append, List.nil_append, sSeq_ap, sAsg_ap, sBin_ap, sCst_ap, kBin1_ok, sCall_ap, sCons_ap, sVar_ap, List.getElem?_cons_zero, List.getElem?_cons_succ, vR_some, kC1_ok, sNil_ap, kC2_ok, kCall_ok, ↓reduceIte, kBin2_ok, optR_some, kAsg_ok, gNm_ap, asgO_some, List.set_cons_succ, List.set_cons_zero, next_nx, next_ret, next_err, sIf_ap, sTst_ap, kTst_ok, kIf_f, kIf_t, sSkip_ap, sBif_ap, kBif_ok, sPar_ap, sTup_ap, kTup_ok, Nat.reduceLeDiff, kPar_ok, setAll, sRet_ap, kRet_ok, out_ret, out_nx, out_err, gTu_tup, gTu_lst, gsC_nm, gsC_tu, gsK_some, gsN, sNewL_ap, kNewL_ok, sAppend_ap, kApp0_some, kApp_ok, sAndV_ap, kAndV_ok, kAndV2_t, kAndV2_f, sOrV_ap, kOrV_ok, kOrV2_t, kOrV2_f, tru_bl, sIte_ap, kIte_t, kIte_f, sLst_ap, kLst_ok, sFor_ap, kFor_ok, sItems_ap, kItems_ok, itemsD, sNeg_ap, kNeg_ok, sSlc_ap, kS1_ok, kS2_ok, kS3_ok, sPart_ap, kPart_ok, sNoPart_ap, sOrT_ap, kOrT_f, kOrT_t, sAndT_ap, kAndT_t, kAndT_f, sNotT_ap, kNotT_ok, sNotV_ap, kNotV_ok, kNotV2_ok, sTru_ap, kTru_ok, sIsi_ap, kIsi_ok, sCallK_ap, kK1_ok, kK2_ok, and_self, sDrop_ap, kDrop_ok, sRetN_ap, sChain_ap, kCh1_ok, kCh2_ok, kCh3_t, kCh3_f, kCh4_ok, sTab_ap, kTab_ok, sAug_ap, kAug0_some, kAug1_ok, augO_some, iadd_int, isub_int, Bool.not_true, Bool.not_false, add_int, sub_int, eq_int, ne_int, lt_int, le_int, gt_int, ge_int, eq_str, ne_str, len_lst, len_tup, sRange1_ap, kRange1_ok, eq_self, decide_true, decide_false, eq_self_iff_true, pm_nil, pm_cons, sRev_ap, kRev_ok, rev_tup, rev_lst, sRaise_ap, kRaise_ok, sTry_ap, kTry_nx, kTry_ret, sTryF_ap, kTryF_nx, kAsg_err, kBin1_err, kBin2_err, kCall_err, kC1_err, kC2_err, kRet_err, kDrop_err, kIf_err, e1, a0, a1, a2, sh, c0, c3, m3, eqs]; done) | (simp only [b_law_like, runD_ap, List.map_cons, List.map_nil, List.length_cons, List.length_nil, Nat.reduceAdd, Nat.reduceSub, List.replicate, List.cons_append, List.nil_append, sSeq_ap, sAsg_ap, sBin_ap, sCst_ap, kBin1_ok, sCall_ap, sCons_ap, sVar_ap, List.getElem?_cons_zero, List.getElem?_cons_succ, vR_some, kC1_ok, sNil_ap, kC2_ok, kCall_ok, ↓reduceIte, kBin2_ok, optR_some, kAsg_ok, gNm_ap, asgO_some, List.set_cons_succ, List.set_cons_zero, next_nx, next_ret, next_err, sIf_ap, sTst_ap, kTst_ok, kIf_f, kIf_t, sSkip_ap, sBif_ap, kBif_ok, sPar_ap, sTup_ap, kTup_ok, Nat.reduceLeDiff, kPar_ok, setAll, sRet_ap, kRet_ok, out_ret, out_nx, out_err, gTu_tup, gTu_lst, gsC_nm, gsC_tu, gsK_some, gsN, sNewL_ap, kNewL_ok, sAppend_ap, kApp0_some, kApp_ok, sAndV_ap, kAndV_ok, kAndV2_t, kAndV2_f, sOrV_ap, kOrV_ok, kOrV2_t, kOrV2_f, tru_bl, sIte_ap, kIte_t, kIte_f, sLst_ap, kLst_ok, sFor_ap, kFor_ok, sItems_ap, kItems_ok, itemsD, sNeg_ap, kNeg_ok, sSlc_ap, kS1_ok, kS2_ok, kS3_ok, sPart_ap, kPart_ok, sNoPart_ap, sOrT_ap, kOrT_f, kOrT_t, sAndT_ap, kAndT_t, kAndT_f, sNotT_ap, kNotT_ok, sNotV_ap, kNotV_ok, kNotV2_ok, sTru_ap, kTru_ok, sIsi_ap, kIsi_ok, sCallK_ap, kK1_ok, kK2_ok, and_self, sDrop_ap, kDrop_ok, sRetN_ap, sChain_ap, kCh1_ok, kCh2_ok, kCh3_t, kCh3_f, kCh4_ok, sTab_ap, kTab_ok, sAug_ap, kAug0_some, kAug1_ok, augO_some, iadd_int, isub_int, Bool.not_true, Bool.not_false, add_int, sub_int, eq_int, ne_int, lt_int, le_int, gt_int, ge_int, eq_str, ne_str, len_lst, len_tup, sRange1_ap, kRange1_ok, eq_self, decide_true, decide_false, eq_self_iff_true, pm_nil, pm_cons, sRev_ap, kRev_ok, rev_tup, rev_lst, sRaise_ap, kRaise_ok, sTry_ap, kTry_nx, kTry_ret, sTryF_ap, kTryF_nx, kAsg_err, kBin1_err, kBin2_err, kCall_err, kC1_err, kC2_err, kRet_err, kDrop_err, kIf_err, e1, a0, a1, a2, sh, c0, c3, m3, eqs]; rw [hT])
  | pr hs z0 z1 o0 o1' st b hc hh a1 a2 a3 a4 a5 a6 a7 a8 a9 a10 hne b0 b1 =>
    have at0 : ∀ m : MS, atD m (.tup [.str "pairs", .tup (hs.map D.int), .tup [.int z0, .int z1], .tup [.int o0, .int o1'], .int st, .int b]) (.int 0) = some (.str "pairs") := fun m => rfl
    have fin : ∀ (hs' : List Int) (y0 y1 u0 u1 st' b' : Int), runD 10 b_law_like [.loc n, .tup [.str "pairs", .tup (hs.map D.int), .tup [.int z0, .int z1], .tup [.int o0, .int o1'], .int st, .int b]] ms = .ok (.tup [.str "pairs", .tup (hs'.map D.int), .tup [.int y0, .int y1], .tup [.int u0, .int u1], .int st', .int b']) (ms.set n o1) →
        Tb most (.tup [.str "pairs", .tup (hs'.map D.int), .tup [.int y0, .int y1], .tup [.int u0, .int u1], .int st', .int b']) →
        ∃ (t' : D) (o' : MO), F_law_like [.loc n, .tup [.str "pairs", .tup (hs.map D.int), .tup [.int z0, .int z1], .tup [.int o0, .int o1'], .int st, .int b]] ms = .ok t' (ms.set n o') ∧ Tb most t' ∧ Dr (B + 1) o' :=
      fun hs' y0 y1 u0 u1 st' b' e tb => ⟨_, o1, cutF_set [] (by rw [List.append_nil]; exact e) d1.lt (by simp only [locsLt, locsLts, Bool.and_true, Bool.true_and]; exact locs_ints _ _), tb, d1⟩
    have un : ∀ (m : MS) (p2 p3 p4 p5 p6 p7 p8 p9 : Option D), gTu 6 (gsCons (gNm 4) (gsCons (gNm 5) (gsCons (gNm 6) (gsCons (gNm 7) (gsCons (gNm 8) (gsCons (gNm 9) gsNil)))))) m (.tup [.str "pairs", .tup (hs.map D.int), .tup [.int z0, .int z1], .tup [.int o0, .int o1'], .int st, .int b]) [some (.loc n), some (.tup [.str "pairs", .tup (hs.map D.int), .tup [.int z0, .int z1], .tup [.int o0, .int o1'], .int st, .int b]), p2, p3, p4, p5, p6, p7, p8, p9] =
        some [some (.loc n), some (.tup [.str "pairs", .tup (hs.map D.int), .tup [.int z0, .int z1], .tup [.int o0, .int o1'], .int st, .int b]), p2, p3, some (.str "pairs"), some (.tup (hs.map D.int)), some (.tup [.int z0, .int z1]), some (.tup [.int o0, .int o1']), some (.int st), some (.int b)] := fun m p2 p3 p4 p5 p6 p7 p8 p9 => rfl
    have o_0 : ∀ m : MS, atD m (.tup [.int o0, .int o1']) (.int 0) = some (.int o0) := fun m => rfl
    have o_1 : ∀ m : MS, atD m (.tup [.int o0, .int o1']) (.int 1) = some (.int o1') := fun m => rfl
    have nt := fun m : MS => ne_two (ms := m) (a := z0) (b := z1) (c := o0) (d := o1' % 9 + 1)
    have cut : ∀ m : MS, slcD m (.tup (hs.map D.int)) none (some (-2)) = some (.tup ((hs.take (hs.length - 2)).map D.int)) := fun m => by
      have hl : hs.length = 0 ∨ hs.length = 2 ∨ hs.length = 4 := hc
      match hs, hl with
      | [], _ => kernel_rfl
      | [_, _], _ => kernel_rfl
      | [_, _, _, _], _ => kernel_rfl
      | [_], h => exact absurd h (by simp)
      | [_, _, _], h => exact absurd h (by simp)
      | _ :: _ :: _ :: _ :: _ :: _, h => exact absurd h (by simp)
    by_cases q0 : w = 0
    · have c0 : decide (w = 0) = true := decide_eq_true q0
      refine fin hs o0 o1' z0 z1 st b ?_ (.pr hs o0 o1' z0 z1 st b hc hh a5 a6 a7 a8 a1 a2 a3 a4 a9 a10 (fun e => hne ⟨e.1.symm, e.2.symm⟩) b0 b1)
      generalize hT : D.tup [.str "pairs", .tup (hs.map D.int), .tup [.int z0, .int z1], .tup [.int o0, .int o1'], .int st, .int b] = T at at0 un ⊢
      clear fin
      first | (simp only [b_law_like, runD_ap, List.map_cons, List.map_nil, List.length_cons, List.length_nil, Nat.reduceAdd, Nat.reduceSub, List.replicate, List.cons_append, List.nil_append, sSeq_ap, sAsg_ap, sBin_ap, sCst_ap, kBin1_ok, sCall_ap, sCons_ap, sVar_ap, List.getElem?_cons_zero, List.getElem?_cons_succ, vR_some, kC1_ok, sNil_ap, kC2_ok, kCall_ok, ↓reduceIte, kBin2_ok, optR_some, kAsg_ok, gNm_ap, asgO_some, List.set_cons_succ, List.set_cons_zero, next_nx, next_ret, next_err, sIf_ap, sTst_ap, kTst_ok, kIf_f, kIf_t, sSkip_ap, sBif_ap, kBif_ok, sPar_ap, sTup_ap, kTup_ok, Nat.reduceLeDiff, kPar_ok, setAll, sRet_ap, kRet_ok, out_ret, out_nx, out_err, gTu_tup, gTu_lst, gsC_nm, gsC_tu, gsK_some, gsN, sNewL_ap, kNewL_ok, sAppend_ap, kApp0_some, kApp_ok, sAndV_ap, kAndV_ok, kAndV2_t, kAndV2_f, sOrV_ap, kOrV_ok, kOrV2_t, kOrV2_f, tru_bl, sIte_ap, kIte_t, kIte_f, sLst_ap, kLst_ok, sFor_ap, kFor_ok, sItems_ap, kItems_ok, itemsD, sNeg_ap, kNeg_ok, sSlc_ap, kS1_ok, kS2_ok, kS3_ok, sPart_ap, kPart_ok, sNoPart_ap, sOrT_ap, kOrT_f, kOrT_t, sAndT_ap, kAndT_t, kAndT_f, sNotT_ap, kNotT_ok, sNotV_ap, kNotV_ok, kNotV2_ok, sTru_ap, kTru_ok, sIsi_ap, kIsi_ok, sCallK_ap, kK1_ok, kK2_ok, and_self, sDrop_ap, kDrop_ok, sRetN_ap, sChain_ap, kCh1_ok, kCh2_ok, kCh3_t, kCh3_f, kCh4_ok, sTab_ap, kTab_ok, sAug_ap, kAug0_some, kAug1_ok, augO_some, iadd_int, isub_int, Bool.not_true, Bool.not_false, add_int, sub_int, eq_int, ne_int, lt_int, le_int, gt_int, ge_int, eq_str, ne_str, len_lst, len_tup, sRange1_ap, kRange1_ok, eq_self, decide_true, decide_false, eq_self_iff_true, pm_nil, pm_cons, sRev_ap, kRev_ok, rev_tup, rev_lst, sRaise_ap, kRaise_ok, sTry_ap, kTry_nx, kTry_ret, sTryF_ap, kTryF_nx, kAsg_err, kBin1_err, kBin2_err, kCall_err, kC1_err, kC2_err, kRet_err, kDrop_err, kIf_err, e1, at0, sp, un, c0, eqs]; done) | (simp only [b_law_like, runD_ap, List.map_cons, List.map_nil, List.length_cons, List.length_nil, Nat.reduceAdd, Nat.reduceSub, List.replicate, List.cons_append, List.nil_append, sSeq_ap, sAsg_ap, sBin_ap, sCst_ap, kBin1_ok, sCall_ap, sCons_ap, sVar_ap, List.getElem?_cons_zero, List.getElem?_cons_succ, vR_some, kC1_ok, sNil_ap, kC2_ok, kCall_ok, ↓reduceIte, kBin2_ok, optR_some, kAsg_ok, gNm_ap, asgO_some, List.set_cons_succ, List.set_cons_zero, next_nx, next_ret, next_err, sIf_ap, sTst_ap, kTst_ok, kIf_f, kIf_t, sSkip_ap, sBif_ap, kBif_ok, sPar_ap, sTup_ap, kTup_ok, Nat.reduceLeDiff, kPar_ok, setAll, sRet_ap, kRet_ok, out_ret, out_nx, out_err, gTu_tup, gTu_lst, gsC_nm, gsC_tu, gsK_some, gsN, sNewL_ap, kNewL_ok, sAppend_ap, kApp0_some, kApp_ok, sAndV_ap, kAndV_ok, kAndV2_t, kAndV2_f, sOrV_ap, kOrV_ok, kOrV2_t, kOrV2_f, tru_bl, sIte_ap, kIte_t, kIte_f, sLst_ap, kLst_ok, sFor_ap, kFor_ok, sItems_ap, kItems_ok, itemsD, sNeg_ap, kNeg_ok, sSlc_ap, kS1_ok, kS2_ok, kS3_ok, sPart_ap, kPart_ok, sNoPart_ap, sOrT_ap, kOrT_f, kOrT_t, sAndT_ap, kAndT_t, kAndT_f, sNotT_ap, kNotT_ok, sNotV_ap, kNotV_ok, kNotV2_ok, sTru_ap, kTru_ok, sIsi_ap, kIsi_ok, sCallK_ap, kK1_ok, kK2_ok, and_self, sDrop_ap, kDrop_ok, sRetN_ap, sChain_ap, kCh1_ok, kCh2_ok, kCh3_t, kCh3_f, kCh4_ok, sTab_ap, kTab_ok, sAug_ap, kAug0_some, kAug1_ok, augO_some, iadd_int, isub_int, Bool.not_true, Bool.not_false, add_int, sub_int, eq_int, ne_int, lt_int, le_int, gt_int, ge_int, eq_str, ne_str, len_lst, len_tup, sRange1_ap, kRange1_ok, eq_self, decide_true, decide_false, eq_self_iff_true, pm_nil, pm_cons, sRev_ap, kRev_ok, rev_tup, rev_lst, sRaise_ap, kRaise_ok, sTry_ap, kTry_nx, kTry_ret, sTryF_ap, kTryF_nx, kAsg_err, kBin1_err, kBin2_err, kCall_err, kC1_err, kC2_err, kRet_err, kDrop_err, kIf_err, e1, at0, sp, un, c0, eqs]; rw [hT])
    · have c0 : decide (w = 0) = false := decide_eq_false q0
      by_cases q1 : w = 1
      · have c1 : decide (w = 1) = true := decide_eq_true q1
        refine fin (hs.take (hs.length - 2)) z0 z1 o0 o1' st b ?_ (.pr _ z0 z1 o0 o1' st b (by rw [List.length_take]; omega) (fun x hx => hh x (List.mem_of_mem_take hx)) a1 a2 a3 a4 a5 a6 a7 a8 a9 a10 hne b0 b1)
        generalize hT : D.tup [.str "pairs", .tup (hs.map D.int), .tup [.int z0, .int z1], .tup [.int o0, .int o1'], .int st, .int b] = T at at0 un ⊢
        clear fin
        first | (simp only [b_law_like, runD_ap, List.map_cons, List.map_nil, List.length_cons, List.length_nil, Nat.reduceAdd, Nat.reduceSub, List.replicate, List.cons_append, List.nil_append, sSeq_ap, sAsg_ap, sBin_ap, sCst_ap, kBin1_ok, sCall_ap, sCons_ap, sVar_ap, List.getElem?_cons_zero, List.getElem?_cons_succ, vR_some, kC1_ok, sNil_ap, kC2_ok, kCall_ok, ↓reduceIte, kBin2_ok, optR_some, kAsg_ok, gNm_ap, asgO_some, List.set_cons_succ, List.set_cons_zero, next_nx, next_ret, next_err, sIf_ap, sTst_ap, kTst_ok, kIf_f, kIf_t, sSkip_ap, sBif_ap, kBif_ok, sPar_ap, sTup_ap, kTup_ok, Nat.reduceLeDiff, kPar_ok, setAll, sRet_ap, kRet_ok, out_ret, out_nx, out_err, gTu_tup, gTu_lst, gsC_nm, gsC_tu, gsK_some, gsN, sNewL_ap, kNewL_ok, sAppend_ap, kApp0_some, kApp_ok, sAndV_ap, kAndV_ok, kAndV2_t, kAndV2_f, sOrV_ap, kOrV_ok, kOrV2_t, kOrV2_f, tru_bl, sIte_ap, kIte_t, kIte_f, sLst_ap, kLst_ok, sFor_ap, kFor_ok, sItems_ap, kItems_ok, itemsD, sNeg_ap, kNeg_ok, sSlc_ap, kS1_ok, kS2_ok, kS3_ok, sPart_ap, kPart_ok, sNoPart_ap, sOrT_ap, kOrT_f, kOrT_t, sAndT_ap, kAndT_t, kAndT_f, sNotT_ap, kNotT_ok, sNotV_ap, kNotV_ok, kNotV2_ok, sTru_ap, kTru_ok, sIsi_ap, kIsi_ok, sCallK_ap, kK1_ok, kK2_ok, and_self, sDrop_ap, kDrop_ok, sRetN_ap, sChain_ap, kCh1_ok, kCh2_ok, kCh3_t, kCh3_f, kCh4_ok, sTab_ap, kTab_ok, sAug_ap, kAug0_some, kAug1_ok, augO_some, iadd_int, isub_int, Bool.not_true, Bool.not_false, add_int, sub_int, eq_int, ne_int, lt_int, le_int, gt_int, ge_int, eq_str, ne_str, len_lst, len_tup, sRange1_ap, kRange1_ok, eq_self, decide_true, decide_false, eq_self_iff_true, pm_nil, pm_cons, sRev_ap, kRev_ok, rev_tup, rev_lst, sRaise_ap, kRaise_ok, sTry_ap, kTry_nx, kTry_ret, sTryF_ap, kTryF_nx, kAsg_err, kBin1_err, kBin2_err, kCall_err, kC1_err, kC2_err, kRet_err, kDrop_err, kIf_err, e1, at0, sp, un, c0, c1, eqs, cut]; done) | (simp only [b_law_like, runD_ap, List.map_cons, List.map_nil, List.length_cons, List.length_nil, Nat.reduceAdd, Nat.reduceSub, List.replicate, List.cons_append, List.nil_append, sSeq_ap, sAsg_ap, sBin_ap, sCst_ap, kBin1_ok, sCall_ap, sCons_ap, sVar_ap, List.getElem?_cons_zero, List.getElem?_cons_succ, vR_some, kC1_ok, sNil_ap, kC2_ok, kCall_ok, ↓reduceIte, kBin2_ok, optR_some, kAsg_ok, gNm_ap, asgO_some, List.set_cons_succ, List.set_cons_zero, next_nx, next_ret, next_err, sIf_ap, sTst_ap, kTst_ok, kIf_f, kIf_t, sSkip_ap, sBif_ap, kBif_ok, sPar_ap, sTup_ap, kTup_ok, Nat.reduceLeDiff, kPar_ok, setAll, sRet_ap, kRet_ok, out_ret, out_nx, out_err, gTu_tup, gTu_lst, gsC_nm, gsC_tu, gsK_some, gsN, sNewL_ap, kNewL_ok, sAppend_ap, kApp0_some, kApp_ok, sAndV_ap, kAndV_ok, kAndV2_t, kAndV2_f, sOrV_ap, kOrV_ok, kOrV2_t, kOrV2_f, tru_bl, sIte_ap, kIte_t, kIte_f, sLst_ap, kLst_ok, sFor_ap, kFor_ok, sItems_ap, kItems_ok, itemsD, sNeg_ap, kNeg_ok, sSlc_ap, kS1_ok, kS2_ok, kS3_ok, sPart_ap, kPart_ok, sNoPart_ap, sOrT_ap, kOrT_f, kOrT_t, sAndT_ap, kAndT_t, kAndT_f, sNotT_ap, kNotT_ok, sNotV_ap, kNotV_ok, kNotV2_ok, sTru_ap, kTru_ok, sIsi_ap, kIsi_ok, sCallK_ap, kK1_ok, kK2_ok, and_self, sDrop_ap, kDrop_ok, sRetN_ap, sChain_ap, kCh1_ok, kCh2_ok, kCh3_t, kCh3_f, kCh4_ok, sTab_ap, kTab_ok, sAug_ap, kAug0_some, kAug1_ok, augO_some, iadd_int, isub_int, Bool.not_true, Bool.not_false, add_int, sub_int, eq_int, ne_int, lt_int, le_int, gt_int, ge_int, eq_str, ne_str, len_lst, len_tup, sRange1_ap, kRange1_ok, eq_self, decide_true, decide_false, eq_self_iff_true, pm_nil, pm_cons, sRev_ap, kRev_ok, rev_tup, rev_lst, sRaise_ap, kRaise_ok, sTry_ap, kTry_nx, kTry_ret, sTryF_ap, kTryF_nx, kAsg_err, kBin1_err, kBin2_err, kCall_err, kC1_err, kC2_err, kRet_err, kDrop_err, kIf_err, e1, at0, sp, un, c0, c1, eqs, cut]; rw [hT])
      · have c1 : decide (w = 1) = false := decide_eq_false q1
        by_cases q2 : w = 2 ∧ ¬ (z0 = o0 ∧ z1 = o1' % 9 + 1)
        · have c2 : decide (w = 2) = true := decide_eq_true q2.1
          have cn : decide (z0 = o0 ∧ z1 = o1' % 9 + 1) = false := decide_eq_false q2.2
          rw [cn] at nt
          refine fin hs z0 z1 o0 (o1' % 9 + 1) st b ?_ (.pr hs z0 z1 o0 (o1' % 9 + 1) st b hc hh a1 a2 a3 a4 a5 a6 (ab o1').1 (ab o1').2 a9 a10 (fun e => q2.2 ⟨e.1.symm, e.2.symm⟩) b0 b1)
          generalize hT : D.tup [.str "pairs", .tup (hs.map D.int), .tup [.int z0, .int z1], .tup [.int o0, .int o1'], .int st, .int b] = T at at0 un ⊢
          clear fin
          first | (simp only [b_law_like, runD_ap, List.map_cons, List.map_nil, List.length_cons, List.length_nil, Nat.reduceAdd, Nat.reduceSub, List.replicate, List.cons_append, List.nil_append, sSeq_ap, sAsg_ap, sBin_ap, sCst_ap, kBin1_ok, sCall_ap, sCons_ap, sVar_ap, List.getElem?_cons_zero, List.getElem?_cons_succ, vR_some, kC1_ok, sNil_ap, kC2_ok, kCall_ok, ↓reduceIte, kBin2_ok, optR_some, kAsg_ok, gNm_ap, asgO_some, List.set_cons_succ, List.set_cons_zero, next_nx, next_ret, next_err, sIf_ap, sTst_ap, kTst_ok, kIf_f, kIf_t, sSkip_ap, sBif_ap, kBif_ok, sPar_ap, sTup_ap, kTup_ok, Nat.reduceLeDiff, kPar_ok, setAll, sRet_ap, kRet_ok, out_ret, out_nx, out_err, gTu_tup, gTu_lst, gsC_nm, gsC_tu, gsK_some, gsN, sNewL_ap, kNewL_ok, sAppend_ap, kApp0_some, kApp_ok, sAndV_ap, kAndV_ok, kAndV2_t, kAndV2_f, sOrV_ap, kOrV_ok, kOrV2_t, kOrV2_f, tru_bl, sIte_ap, kIte_t, kIte_f, sLst_ap, kLst_ok, sFor_ap, kFor_ok, sItems_ap, kItems_ok, itemsD, sNeg_ap, kNeg_ok, sSlc_ap, kS1_ok, kS2_ok, kS3_ok, sPart_ap, kPart_ok, sNoPart_ap, sOrT_ap, kOrT_f, kOrT_t, sAndT_ap, kAndT_t, kAndT_f, sNotT_ap, kNotT_ok, sNotV_ap, kNotV_ok, kNotV2_ok, sTru_ap, kTru_ok, sIsi_ap, kIsi_ok, sCallK_ap, kK1_ok, kK2_ok, and_self, sDrop_ap, kDrop_ok, sRetN_ap, sChain_ap, kCh1_ok, kCh2_ok, kCh3_t, kCh3_f, kCh4_ok, sTab_ap, kTab_ok, sAug_ap, kAug0_some, kAug1_ok, augO_some, iadd_int, isub_int, Bool.not_true, Bool.not_false, add_int, sub_int, eq_int, ne_int, lt_int, le_int, gt_int, ge_int, eq_str, ne_str, len_lst, len_tup, sRange1_ap, kRange1_ok, eq_self, decide_true, decide_false, eq_self_iff_true, pm_nil, pm_cons, sRev_ap, kRev_ok, rev_tup, rev_lst, sRaise_ap, kRaise_ok, sTry_ap, kTry_nx, kTry_ret, sTryF_ap, kTryF_nx, kAsg_err, kBin1_err, kBin2_err, kCall_err, kC1_err, kC2_err, kRet_err, kDrop_err, kIf_err, e1, at0, sp, un, c0, c1, c2, eqs, o_0, o_1, m9, nt]; done) | (simp only [b_law_like, runD_ap, List.map_cons, List.map_nil, List.length_cons, List.length_nil, Nat.reduceAdd, Nat.reduceSub, List.replicate, List.cons_append, List.nil_append, sSeq_ap, sAsg_ap, sBin_ap, sCst_ap, kBin1_ok, sCall_ap, sCons_ap, sVar_ap, List.getElem?_cons_zero, List.getElem?_cons_succ, vR_some, kC1_ok, sNil_ap, kC2_ok, kCall_ok, ↓reduceIte, kBin2_ok, optR_some, kAsg_ok, gNm_ap, asgO_some, List.set_cons_succ, List.set_cons_zero, next_nx, next_ret, next_err, sIf_ap, sTst_ap, kTst_ok, kIf_f, kIf_t, sSkip_ap, sBif_ap, kBif_ok, sPar_ap, sTup_ap, kTup_ok, Nat.reduceLeDiff, kPar_ok, setAll, sRet_ap, kRet_ok, out_ret, out_nx, out_err, gTu_tup, gTu_lst, gsC_nm, gsC_tu, gsK_some, gsN, sNewL_ap, kNewL_ok, sAppend_ap, kApp0_some, kApp_ok, sAndV_ap, kAndV_ok, kAndV2_t, kAndV2_f, sOrV_ap, kOrV_ok, kOrV2_t, kOrV2_f, tru_bl, sIte_ap, kIte_t, kIte_f, sLst_ap, kLst_ok, sFor_ap, kFor_ok, sItems_ap, kItems_ok, itemsD, sNeg_ap, kNeg_ok, sSlc_ap, kS1_ok, kS2_ok, kS3_ok, sPart_ap, kPart_ok, sNoPart_ap, sOrT_ap, kOrT_f, kOrT_t, sAndT_ap, kAndT_t, kAndT_f, sNotT_ap, kNotT_ok, sNotV_ap, kNotV_ok, kNotV2_ok, sTru_ap, kTru_ok, sIsi_ap, kIsi_ok, sCallK_ap, kK1_ok, kK2_ok, and_self, sDrop_ap, kDrop_ok, sRetN_ap, sChain_ap, kCh1_ok, kCh2_ok, kCh3_t, kCh3_f, kCh4_ok, sTab_ap, kTab_ok, sAug_ap, kAug0_some, kAug1_ok, augO_some, iadd_int, isub_int, Bool.not_true, Bool.not_false, add_int, sub_int, eq_int, ne_int, lt_int, le_int, gt_int, ge_int, eq_str, ne_str, len_lst, len_tup, sRange1_ap, kRange1_ok, eq_self, decide_true, decide_false, eq_self_iff_true, pm_nil, pm_cons, sRev_ap, kRev_ok, rev_tup, rev_lst, sRaise_ap, kRaise_ok, sTry_ap, kTry_nx, kTry_ret, sTryF_ap, kTryF_nx, kAsg_err, kBin1_err, kBin2_err, kCall_err, kC1_err, kC2_err, kRet_err, kDrop_err, kIf_err, e1, at0, sp, un, c0, c1, c2, eqs, o_0, o_1, m9, nt]; rw [hT])
        · have t2 : ∀ (m : MS) (p0 p1 p3 p4 p5 p8 p9 : Option D), lkC [p0, p1, some (.int w), p3, p4, p5, some (.tup [.int z0, .int z1]), some (.tup [.int o0, .int o1']), p8, p9] m = .ok false m := fun m p0 p1 p3 p4 p5 p8 p9 => by
            by_cases q : w = 2
            · have c2 : decide (w = 2) = true := decide_eq_true q
              have cn : decide (z0 = o0 ∧ z1 = o1' % 9 + 1) = true := decide_eq_true (by
                by_cases z : z0 = o0 ∧ z1 = o1' % 9 + 1
                · exact z
                · exact absurd ⟨q, z⟩ q2)
              rw [cn] at nt
              simp only [lkC, runD_ap, List.map_cons, List.map_nil, List.length_cons, List.length_nil, Nat.reduceAdd, Nat.reduceSub, List.replicate, List.cons_append, List.nil_append, sSeq_ap, sAsg_ap, sBin_ap, sCst_ap, kBin1_ok, sCall_ap, sCons_ap, sVar_ap, List.getElem?_cons_zero, List.getElem?_cons_succ, vR_some, kC1_ok, sNil_ap, kC2_ok, kCall_ok, ↓reduceIte, kBin2_ok, optR_some, kAsg_ok, gNm_ap, asgO_some, List.set_cons_succ, List.set_cons_zero, next_nx, next_ret, next_err, sIf_ap, sTst_ap, kTst_ok, kIf_f, kIf_t, sSkip_ap, sBif_ap, kBif_ok, sPar_ap, sTup_ap, kTup_ok, Nat.reduceLeDiff, kPar_ok, setAll, sRet_ap, kRet_ok, out_ret, out_nx, out_err, gTu_tup, gTu_lst, gsC_nm, gsC_tu, gsK_some, gsN, sNewL_ap, kNewL_ok, sAppend_ap, kApp0_some, kApp_ok, sAndV_ap, kAndV_ok, kAndV2_t, kAndV2_f, sOrV_ap, kOrV_ok, kOrV2_t, kOrV2_f, tru_bl, sIte_ap, kIte_t, kIte_f, sLst_ap, kLst_ok, sFor_ap, kFor_ok, sItems_ap, kItems_ok, itemsD, sNeg_ap, kNeg_ok, sSlc_ap, kS1_ok, kS2_ok, kS3_ok, sPart_ap, kPart_ok, sNoPart_ap, sOrT_ap, kOrT_f, kOrT_t, sAndT_ap, kAndT_t, kAndT_f, sNotT_ap, kNotT_ok, sNotV_ap, kNotV_ok, kNotV2_ok, sTru_ap, kTru_ok, sIsi_ap, kIsi_ok, sCallK_ap, kK1_ok, kK2_ok, and_self, sDrop_ap, kDrop_ok, sRetN_ap, sChain_ap, kCh1_ok, kCh2_ok, kCh3_t, kCh3_f, kCh4_ok, sTab_ap, kTab_ok, sAug_ap, kAug0_some, kAug1_ok, augO_some, iadd_int, isub_int, Bool.not_true, Bool.not_false, add_int, sub_int, eq_int, ne_int, lt_int, le_int, gt_int, ge_int, eq_str, ne_str, len_lst, len_tup, sRange1_ap, kRange1_ok, eq_self, decide_true, decide_false, eq_self_iff_true, pm_nil, pm_cons, sRev_ap, kRev_ok, rev_tup, rev_lst, sRaise_ap, kRaise_ok, sTry_ap, kTry_nx, kTry_ret, sTryF_ap, kTryF_nx, kAsg_err, kBin1_err, kBin2_err, kCall_err, kC1_err, kC2_err, kRet_err, kDrop_err, kIf_err, c2, o_0, o_1, m9, nt]
            · have c2 : decide (w = 2) = false := decide_eq_false q
              simp only [lkC, runD_ap, List.map_cons, List.map_nil, List.length_cons, List.length_nil, Nat.reduceAdd, Nat.reduceSub, List.replicate, List.cons_append, List.nil_append, sSeq_ap, sAsg_ap, sBin_ap, sCst_ap, kBin1_ok, sCall_ap, sCons_ap, sVar_ap, List.getElem?_cons_zero, List.getElem?_cons_succ, vR_some, kC1_ok, sNil_ap, kC2_ok, kCall_ok, ↓reduceIte, kBin2_ok, optR_some, kAsg_ok, gNm_ap, asgO_some, List.set_cons_succ, List.set_cons_zero, next_nx, next_ret, next_err, sIf_ap, sTst_ap, kTst_ok, kIf_f, kIf_t, sSkip_ap, sBif_ap, kBif_ok, sPar_ap, sTup_ap, kTup_ok, Nat.reduceLeDiff, kPar_ok, setAll, sRet_ap, kRet_ok, out_ret, out_nx, out_err, gTu_tup, gTu_lst, gsC_nm, gsC_tu, gsK_some, gsN, sNewL_ap, kNewL_ok, sAppend_ap, kApp0_some, kApp_ok, sAndV_ap, kAndV_ok, kAndV2_t, kAndV2_f, sOrV_ap, kOrV_ok, kOrV2_t, kOrV2_f, tru_bl, sIte_ap, kIte_t, kIte_f, sLst_ap, kLst_ok, sFor_ap, kFor_ok, sItems_ap, kItems_ok, itemsD, sNeg_ap, kNeg_ok, sSlc_ap, kS1_ok, kS2_ok, kS3_ok, sPart_ap, kPart_ok, sNoPart_ap, sOrT_ap, kOrT_f, kOrT_t, sAndT_ap, kAndT_t, kAndT_f, sNotT_ap, kNotT_ok, sNotV_ap, kNotV_ok, kNotV2_ok, sTru_ap, kTru_ok, sIsi_ap, kIsi_ok, sCallK_ap, kK1_ok, kK2_ok, and_self, sDrop_ap, kDrop_ok, sRetN_ap, sChain_ap, kCh1_ok, kCh2_ok, kCh3_t, kCh3_f, kCh4_ok, sTab_ap, kTab_ok, sAug_ap, kAug0_some, kAug1_ok, augO_some, iadd_int, isub_int, Bool.not_true, Bool.not_false, add_int, sub_int, eq_int, ne_int, lt_int, le_int, gt_int, ge_int, eq_str, ne_str, len_lst, len_tup, sRange1_ap, kRange1_ok, eq_self, decide_true, decide_false, eq_self_iff_true, pm_nil, pm_cons, sRev_ap, kRev_ok, rev_tup, rev_lst, sRaise_ap, kRaise_ok, sTry_ap, kTry_nx, kTry_ret, sTryF_ap, kTryF_nx, kAsg_err, kBin1_err, kBin2_err, kCall_err, kC1_err, kC2_err, kRet_err, kDrop_err, kIf_err, c2]
          by_cases q3 : w = 3
          · have c3 : decide (w = 3) = true := decide_eq_true q3
            have c5 : decide (w < 5) = true := decide_eq_true (by omega)
            refine fin hs z0 z1 o0 o1' (st % 9 + 1) b ?_ (.pr hs z0 z1 o0 o1' _ b hc hh a1 a2 a3 a4 a5 a6 a7 a8 (ab st).1 (ab st).2 hne b0 b1)
            generalize hT : D.tup [.str "pairs", .tup (hs.map D.int), .tup [.int z0, .int z1], .tup [.int o0, .int o1'], .int st, .int b] = T at at0 un ⊢
            clear fin
            rw [b_like_eq]
            generalize lkC = TT at t2 ⊢
            first | (simp only [runD_ap, List.map_cons, List.map_nil, List.length_cons, List.length_nil, Nat.reduceAdd, Nat.reduceSub, List.replicate, List.cons_append, List.nil_append, sSeq_ap, sAsg_ap, sBin_ap, sCst_ap, kBin1_ok, sCall_ap, sCons_ap, sVar_ap, List.getElem?_cons_zero, List.getElem?_cons_succ, vR_some, kC1_ok, sNil_ap, kC2_ok, kCall_ok, ↓reduceIte, kBin2_ok, optR_some, kAsg_ok, gNm_ap, asgO_some, List.set_cons_succ, List.set_cons_zero, next_nx, next_ret, next_err, sIf_ap, sTst_ap, kTst_ok, kIf_f, kIf_t, sSkip_ap, sBif_ap, kBif_ok, sPar_ap, sTup_ap, kTup_ok, Nat.reduceLeDiff, kPar_ok, setAll, sRet_ap, kRet_ok, out_ret, out_nx, out_err, gTu_tup, gTu_lst, gsC_nm, gsC_tu, gsK_some, gsN, sNewL_ap, kNewL_ok, sAppend_ap, kApp0_some, kApp_ok, sAndV_ap, kAndV_ok, kAndV2_t, kAndV2_f, sOrV_ap, kOrV_ok, kOrV2_t, kOrV2_f, tru_bl, sIte_ap, kIte_t, kIte_f, sLst_ap, kLst_ok, sFor_ap, kFor_ok, sItems_ap, kItems_ok, itemsD, sNeg_ap, kNeg_ok, sSlc_ap, kS1_ok, kS2_ok, kS3_ok, sPart_ap, kPart_ok, sNoPart_ap, sOrT_ap, kOrT_f, kOrT_t, sAndT_ap, kAndT_t, kAndT_f, sNotT_ap, kNotT_ok, sNotV_ap, kNotV_ok, kNotV2_ok, sTru_ap, kTru_ok, sIsi_ap, kIsi_ok, sCallK_ap, kK1_ok, kK2_ok, and_self, sDrop_ap, kDrop_ok, sRetN_ap, sChain_ap, kCh1_ok, kCh2_ok, kCh3_t, kCh3_f, kCh4_ok, sTab_ap, kTab_ok, sAug_ap, kAug0_some, kAug1_ok, augO_some, iadd_int, isub_int, Bool.not_true, Bool.not_false, add_int, sub_int, eq_int, ne_int, lt_int, le_int, gt_int, ge_int, eq_str, ne_str, len_lst, len_tup, sRange1_ap, kRange1_ok, eq_self, decide_true, decide_false, eq_self_iff_true, pm_nil, pm_cons, sRev_ap, kRev_ok, rev_tup, rev_lst, sRaise_ap, kRaise_ok, sTry_ap, kTry_nx, kTry_ret, sTryF_ap, kTryF_nx, kAsg_err, kBin1_err, kBin2_err, kCall_err, kC1_err, kC2_err, kRet_err, kDrop_err, kIf_err, e1, at0, sp, un, c0, c1, c3, c5, t2, eqs, m9]; done) | (simp only [runD_ap, List.map_cons, List.map_nil, List.length_cons, List.length_nil, Nat.reduceAdd, Nat.reduceSub, List.replicate, List.cons_append, List.nil_append, sSeq_ap, sAsg_ap, sBin_ap, sCst_ap, kBin1_ok, sCall_ap, sCons_ap, sVar_ap, List.getElem?_cons_zero, List.getElem?_cons_succ, vR_some, kC1_ok, sNil_ap, kC2_ok, kCall_ok, ↓reduceIte, kBin2_ok, optR_some, kAsg_ok, gNm_ap, asgO_some, List.set_cons_succ, List.set_cons_zero, next_nx, next_ret, next_err, sIf_ap, sTst_ap, kTst_ok, kIf_f, kIf_t, sSkip_ap, sBif_ap, kBif_ok, sPar_ap, sTup_ap, kTup_ok, Nat.reduceLeDiff, kPar_ok, setAll, sRet_ap, kRet_ok, out_ret, out_nx, out_err, gTu_tup, gTu_lst, gsC_nm, gsC_tu, gsK_some, gsN, sNewL_ap, kNewL_ok, sAppend_ap, kApp0_some, kApp_ok, sAndV_ap, kAndV_ok, kAndV2_t, kAndV2_f, sOrV_ap, kOrV_ok, kOrV2_t, kOrV2_f, tru_bl, sIte_ap, kIte_t, kIte_f, sLst_ap, kLst_ok, sFor_ap, kFor_ok, sItems_ap, kItems_ok, itemsD, sNeg_ap, kNeg_ok, sSlc_ap, kS1_ok, kS2_ok, kS3_ok, sPart_ap, kPart_ok, sNoPart_ap, sOrT_ap, kOrT_f, kOrT_t, sAndT_ap, kAndT_t, kAndT_f, sNotT_ap, kNotT_ok, sNotV_ap, kNotV_ok, kNotV2_ok, sTru_ap, kTru_ok, sIsi_ap, kIsi_ok, sCallK_ap, kK1_ok, kK2_ok, and_self, sDrop_ap, kDrop_ok, sRetN_ap, sChain_ap, kCh1_ok, kCh2_ok, kCh3_t, kCh3_f, kCh4_ok, sTab_ap, kTab_ok, sAug_ap, kAug0_some, kAug1_ok, augO_some, iadd_int, isub_int, Bool.not_true, Bool.not_false, add_int, sub_int, eq_int, ne_int, lt_int, le_int, gt_int, ge_int, eq_str, ne_str, len_lst, len_tup, sRange1_ap, kRange1_ok, eq_self, decide_true, decide_false, eq_self_iff_true, pm_nil, pm_cons, sRev_ap, kRev_ok, rev_tup, rev_lst, sRaise_ap, kRaise_ok, sTry_ap, kTry_nx, kTry_ret, sTryF_ap, kTryF_nx, kAsg_err, kBin1_err, kBin2_err, kCall_err, kC1_err, kC2_err, kRet_err, kDrop_err, kIf_err, e1, at0, sp, un, c0, c1, c3, c5, t2, eqs, m9]; rw [hT])
          · have c3 : decide (w = 3) = false := decide_eq_false q3
            by_cases q5 : w < 5
            · have c5 : decide (w < 5) = true := decide_eq_true q5
              refine fin hs z0 z1 o0 o1' st b ?_ (.pr hs z0 z1 o0 o1' _ b hc hh a1 a2 a3 a4 a5 a6 a7 a8 a9 a10 hne b0 b1)
              generalize hT : D.tup [.str "pairs", .tup (hs.map D.int), .tup [.int z0, .int z1], .tup [.int o0, .int o1'], .int st, .int b] = T at at0 un ⊢
              clear fin
              rw [b_like_eq]
              generalize lkC = TT at t2 ⊢
              first | (simp only [runD_ap, List.map_cons, List.map_nil, List.length_cons, List.length_nil, Nat.reduceAdd, Nat.reduceSub, List.replicate, List.cons_append, List.nil_append, sSeq_ap, sAsg_ap, sBin_ap, sCst_ap, kBin1_ok, sCall_ap, sCons_ap, sVar_ap, List.getElem?_cons_zero, List.getElem?_cons_succ, vR_some, kC1_ok, sNil_ap, kC2_ok, kCall_ok, ↓reduceIte, kBin2_ok, optR_some, kAsg_ok, gNm_ap, asgO_some, List.set_cons_succ, List.set_cons_zero, next_nx, next_ret, next_err, sIf_ap, sTst_ap, kTst_ok, kIf_f, kIf_t, sSkip_ap, sBif_ap, kBif_ok, sPar_ap, sTup_ap, kTup_ok, Nat.reduceLeDiff, kPar_ok, setAll, sRet_ap, kRet_ok, out_ret, out_nx, out_err, gTu_tup, gTu_lst, gsC_nm, gsC_tu, gsK_some, gsN, sNewL_ap, kNewL_ok, sAppend_ap, kApp0_some, kApp_ok, sAndV_ap, kAndV_ok, kAndV2_t, kAndV2_f, sOrV_ap, kOrV_ok, kOrV2_t, kOrV2_f, tru_bl, sIte_ap, kIte_t, kIte_f, sLst_ap, kLst_ok, sFor_ap, kFor_ok, sItems_ap, kItems_ok, itemsD, sNeg_ap, kNeg_ok, sSlc_ap, kS1_ok, kS2_ok, kS3_ok, sPart_ap, kPart_ok, sNoPart_ap, sOrT_ap, kOrT_f, kOrT_t, sAndT_ap, kAndT_t, kAndT_f, sNotT_ap, kNotT_ok, sNotV_ap, kNotV_ok, kNotV2_ok, sTru_ap, kTru_ok, sIsi_ap, kIsi_ok, sCallK_ap, kK1_ok, kK2_ok, and_self, sDrop_ap, kDrop_ok, sRetN_ap, sChain_ap, kCh1_ok, kCh2_ok, kCh3_t, kCh3_f, kCh4_ok, sTab_ap, kTab_ok, sAug_ap, kAug0_some, kAug1_ok, augO_some, iadd_int, isub_int, Bool.not_true, Bool.not_false, add_int, sub_int, eq_int, ne_int, lt_int, le_int, gt_int, ge_int, eq_str, ne_str, len_lst, len_tup, sRange1_ap, kRange1_ok, eq_self, decide_true, decide_false, eq_self_iff_true, pm_nil, pm_cons, sRev_ap, kRev_ok, rev_tup, rev_lst, sRaise_ap, kRaise_ok, sTry_ap, kTry_nx, kTry_ret, sTryF_ap, kTryF_nx, kAsg_err, kBin1_err, kBin2_err, kCall_err, kC1_err, kC2_err, kRet_err, kDrop_err, kIf_err, e1, at0, sp, un, c0, c1, c3, c5, t2, eqs, m9]; done) | (simp only [runD_ap, List.map_cons, List.map_nil, List.length_cons, List.length_nil, Nat.reduceAdd, Nat.reduceSub, List.replicate, List.cons_append, List.nil_append, sSeq_ap, sAsg_ap, sBin_ap, sCst_ap, kBin1_ok, sCall_ap, sCons_ap, sVar_ap, List.getElem?_cons_zero, List.getElem?_cons_succ, vR_some, kC1_ok, sNil_ap, kC2_ok, kCall_ok, ↓reduceIte, kBin2_ok, optR_some, kAsg_ok, gNm_ap, asgO_some, List.set_cons_succ, List.set_cons_zero, next_nx, next_ret, next_err, sIf_ap, sTst_ap, kTst_ok, kIf_f, kIf_t, sSkip_ap, sBif_ap, kBif_ok, sPar_ap, sTup_ap, kTup_ok, Nat.reduceLeDiff, kPar_ok, setAll, sRet_ap, kRet_ok, out_ret, out_nx, out_err, gTu_tup, gTu_lst, gsC_nm, gsC_tu, gsK_some, gsN, sNewL_ap, kNewL_ok, sAppend_ap, kApp0_some, kApp_ok, sAndV_ap, kAndV_ok, kAndV2_t, kAndV2_f, sOrV_ap, kOrV_ok, kOrV2_t, kOrV2_f, tru_bl, sIte_ap, kIte_t, kIte_f, sLst_ap, kLst_ok, sFor_ap, kFor_ok, sItems_ap, kItems_ok, itemsD, sNeg_ap, kNeg_ok, sSlc_ap, kS1_ok, kS2_ok, kS3_ok, sPart_ap, kPart_ok, sNoPart_ap, sOrT_ap, kOrT_f, kOrT_t, sAndT_ap, kAndT_t, kAndT_f, sNotT_ap, kNotT_ok, sNotV_ap, kNotV_ok, kNotV2_ok, sTru_ap, kTru_ok, sIsi_ap, kIsi_ok, sCallK_ap, kK1_ok, kK2_ok, and_self, sDrop_ap, kDrop_ok, sRetN_ap, sChain_ap, kCh1_ok, kCh2_ok, kCh3_t, kCh3_f, kCh4_ok, sTab_ap, kTab_ok, sAug_ap, kAug0_some, kAug1_ok, augO_some, iadd_int, isub_int, Bool.not_true, Bool.not_false, add_int, sub_int, eq_int, ne_int, lt_int, le_int, gt_int, ge_int, eq_str, ne_str, len_lst, len_tup, sRange1_ap, kRange1_ok, eq_self, decide_true, decide_false, eq_self_iff_true, pm_nil, pm_cons, sRev_ap, kRev_ok, rev_tup, rev_lst, sRaise_ap, kRaise_ok, sTry_ap, kTry_nx, kTry_ret, sTryF_ap, kTryF_nx, kAsg_err, kBin1_err, kBin2_err, kCall_err, kC1_err, kC2_err, kRet_err, kDrop_err, kIf_err, e1, at0, sp, un, c0, c1, c3, c5, t2, eqs, m9]; rw [hT])
            · have c5 : decide (w < 5) = false := decide_eq_false q5
              refine fin hs z0 z1 o0 o1' st (1 + b % 3) ?_ (.pr hs z0 z1 o0 o1' _ _ hc hh a1 a2 a3 a4 a5 a6 a7 a8 a9 a10 hne (ab3 b).1 (ab3 b).2)
              generalize hT : D.tup [.str "pairs", .tup (hs.map D.int), .tup [.int z0, .int z1], .tup [.int o0, .int o1'], .int st, .int b] = T at at0 un ⊢
              clear fin
              rw [b_like_eq]
              generalize lkC = TT at t2 ⊢
              first | (simp only [runD_ap, List.map_cons, List.map_nil, List.length_cons, List.length_nil, Nat.reduceAdd, Nat.reduceSub, List.replicate, List.cons_append, List.nil_append, sSeq_ap, sAsg_ap, sBin_ap, sCst_ap, kBin1_ok, sCall_ap, sCons_ap, sVar_ap, List.getElem?_cons_zero, List.getElem?_cons_succ, vR_some, kC1_ok, sNil_ap, kC2_ok, kCall_ok, ↓reduceIte, kBin2_ok, optR_some, kAsg_ok, gNm_ap, asgO_some, List.set_cons_succ, List.set_cons_zero, next_nx, next_ret, next_err, sIf_ap, sTst_ap, kTst_ok, kIf_f, kIf_t, sSkip_ap, sBif_ap, kBif_ok, sPar_ap, sTup_ap, kTup_ok, Nat.reduceLeDiff, kPar_ok, setAll, sRet_ap, kRet_ok, out_ret, out_nx, out_err, gTu_tup, gTu_lst, gsC_nm, gsC_tu, gsK_some, gsN, sNewL_ap, kNewL_ok, sAppend_ap, kApp0_some, kApp_ok, sAndV_ap, kAndV_ok, kAndV2_t, kAndV2_f, sOrV_ap, kOrV_ok, kOrV2_t, kOrV2_f, tru_bl, sIte_ap, kIte_t, kIte_f, sLst_ap, kLst_ok, sFor_ap, kFor_ok, sItems_ap, kItems_ok, itemsD, sNeg_ap, kNeg_ok, sSlc_ap, kS1_ok, kS2_ok, kS3_ok, sPart_ap, kPart_ok, sNoPart_ap, sOrT_ap, kOrT_f, kOrT_t, sAndT_ap, kAndT_t, kAndT_f, sNotT_ap, kNotT_ok, sNotV_ap, kNotV_ok, kNotV2_ok, sTru_ap, kTru_ok, sIsi_ap, kIsi_ok, sCallK_ap, kK1_ok, kK2_ok, and_self, sDrop_ap, kDrop_ok, sRetN_ap, sChain_ap, kCh1_ok, kCh2_ok, kCh3_t, kCh3_f, kCh4_ok, sTab_ap, kTab_ok, sAug_ap, kAug0_some, kAug1_ok, augO_some, iadd_int, isub_int, Bool.not_true, Bool.not_false, add_int, sub_int, eq_int, ne_int, lt_int, le_int, gt_int, ge_int, eq_str, ne_str, len_lst, len_tup, sRange1_ap, kRange1_ok, eq_self, decide_true, decide_false, eq_self_iff_true, pm_nil, pm_cons, sRev_ap, kRev_ok, rev_tup, rev_lst, sRaise_ap, kRaise_ok, sTry_ap, kTry_nx, kTry_ret, sTryF_ap, kTryF_nx, kAsg_err, kBin1_err, kBin2_err, kCall_err, kC1_err, kC2_err, kRet_err, kDrop_err, kIf_err, e1, at0, sp, un, c0, c1, c3, c5, t2, eqs, m3]; done) | (simp only [runD_ap, List.map_cons, List.map_nil, List.length_cons, List.length_nil, Nat.reduceAdd, Nat.reduceSub, List.replicate, List.cons_append, List.nil_append, sSeq_ap, sAsg_ap, sBin_ap, sCst_ap, kBin1_ok, sCall_ap, sCons_ap, sVar_ap, List.getElem?_cons_zero, List.getElem?_cons_succ, vR_some, kC1_ok, sNil_ap, kC2_ok, kCall_ok, ↓reduceIte, kBin2_ok, optR_some, kAsg_ok, gNm_ap, asgO_some, List.set_cons_succ, List.set_cons_zero, next_nx, next_ret, next_err, sIf_ap, sTst_ap, kTst_ok, kIf_f, kIf_t, sSkip_ap, sBif_ap, kBif_ok, sPar_ap, sTup_ap, kTup_ok, Nat.reduceLeDiff, kPar_ok, setAll, sRet_ap, kRet_ok, out_ret, out_nx, out_err, gTu_tup, gTu_lst, gsC_nm, gsC_tu, gsK_some, gsN, sNewL_ap, kNewL_ok, sAppend_ap, kApp0_some, kApp_ok, sAndV_ap, kAndV_ok, kAndV2_t, kAndV2_f, sOrV_ap, kOrV_ok, kOrV2_t, kOrV2_f, tru_bl, sIte_ap, kIte_t, kIte_f, sLst_ap, kLst_ok, sFor_ap, kFor_ok, sItems_ap, kItems_ok, itemsD, sNeg_ap, kNeg_ok, sSlc_ap, kS1_ok, kS2_ok, kS3_ok, sPart_ap, kPart_ok, sNoPart_ap, sOrT_ap, kOrT_f, kOrT_t, sAndT_ap, kAndT_t, kAndT_f, sNotT_ap, kNotT_ok, sNotV_ap, kNotV_ok, kNotV2_ok, sTru_ap, kTru_ok, sIsi_ap, kIsi_ok, sCallK_ap, kK1_ok, kK2_ok, and_self, sDrop_ap, kDrop_ok, sRetN_ap, sChain_ap, kCh1_ok, kCh2_ok, kCh3_t, kCh3_f, kCh4_ok, sTab_ap, kTab_ok, sAug_ap, kAug0_some, kAug1_ok, augO_some, iadd_int, isub_int, Bool.not_true, Bool.not_false, add_int, sub_int, eq_int, ne_int, lt_int, le_int, gt_int, ge_int, eq_str, ne_str, len_lst, len_tup, sRange1_ap, kRange1_ok, eq_self, decide_true, decide_false, eq_self_iff_true, pm_nil, pm_cons, sRev_ap, kRev_ok, rev_tup, rev_lst, sRaise_ap, kRaise_ok, sTry_ap, kTry_nx, kTry_ret, sTryF_ap, kTryF_nx, kAsg_err, kBin1_err, kBin2_err, kCall_err, kC1_err, kC2_err, kRet_err, kDrop_err, kIf_err, e1, at0, sp, un, c0, c1, c3, c5, t2, eqs, m3]; rw [hT])
end
end U

/-! drawn receivers -/
namespace U
open PySem L2 DL
section
variable {ms : MS} {n : Nat}
/-- pairs of a right table and a tolerance -/
def RcP (most : Int) (x : D) : Prop := ∃ t a b, x = .tup [t, .rat a b] ∧ Tb most t ∧ 0 ≤ a ∧ a < b ∧ b ≤ 40
def RcL (most : Int) (xs : List D) : Prop := ∀ x ∈ xs, RcP most x
theorem toPs_none {xs : List D} {x : D} (hx : x ∈ xs) (h : toP x = none) : toPs xs = none := by
  induction xs with
  | nil => cases hx
  | cons y ys ih =>
    simp only [toPs]
    rcases List.mem_cons.mp hx with e | hx
    · subst e; rw [h]
    · rw [ih hx]
      cases toP y <;> rfl
theorem toP_tup {xs : List D} (h : toPs xs = none) : toP (.tup xs) = none := by
  simp only [toP, h]
theorem RcP.none {most : Int} {x : D} (h : RcP most x) : toP x = .none := by
  obtain ⟨t, a, b, rfl, _⟩ := h
  exact toP_tup (toPs_none (x := .rat a b) (by simp) rfl)
theorem pd_tup {xs : List D} (h : toPs xs = none) : pdOf ms (.tup xs) = none := by
  show toP (.tup xs) = _
  exact toP_tup h
theorem eqP_n1 {a b : D} (h : pdOf ms a = none) : eqP ms a b = none := by
  simp only [eqP, h]
theorem eqP_n2 {a b : D} (h : pdOf ms b = none) : eqP ms a b = none := by
  simp only [eqP, h]
  cases pdOf ms a <;> rfl
theorem eqD_n1 {xs : List D} {b : D} (h : toPs xs = none) : eqD ms (.tup xs) b = none := by
  show (eqB ms (.tup xs) b).map D.bl = _
  have : eqB ms (.tup xs) b = eqP ms (.tup xs) b := by cases b <;> rfl
  rw [this, eqP_n1 (pd_tup h)]; rfl
theorem eqD_n2 {xs : List D} {a : D} (h : toPs xs = none) : eqD ms a (.tup xs) = none := by
  show (eqB ms a (.tup xs)).map D.bl = _
  have : eqB ms a (.tup xs) = eqP ms a (.tup xs) := by cases a <;> rfl
  rw [this, eqP_n2 (pd_tup h)]; rfl
theorem neD_n1 {xs : List D} {b : D} (h : toPs xs = none) : neD ms (.tup xs) b = none := by
  show (eqB ms (.tup xs) b).map (fun k => D.bl (!k)) = _
  have : eqB ms (.tup xs) b = eqP ms (.tup xs) b := by cases b <;> rfl
  rw [this, eqP_n1 (pd_tup h)]; rfl
theorem RcL.none {most : Int} {xs : List D} (h : RcL most xs) (hne : xs ≠ []) : toPs xs = .none := by
  cases xs with
  | nil => exact absurd rfl hne
  | cons x xs => exact toPs_none List.mem_cons_self (h x List.mem_cons_self).none
theorem neX_nil {most : Int} {xs : List D} (h : RcL most xs) : neX ms (.tup xs) (.tup []) = some (.bl (!xs.isEmpty)) := by
  cases xs with
  | nil => kernel_rfl
  | cons x xs =>
    simp only [neX, neD_n1 (h.none (by simp)), tupT, eqTs, Option.map_some, List.length_cons, List.length_nil]
    rfl
theorem tb_p2' {most : Int} {t : D} (h : Tb most t) : P2 6 t := by
  cases h with
  | hv z b z0 z1 b0 b1 => exact .tup (by simp) (mem1 (.up (.str (by decide +kernel))) (mem1 (.up (.int z)) (mem1 (.up (.int b)) mem0)))
  | pr hs z0 z1 o0 o1 st b hc hh a1 a2 a3 a4 a5 a6 a7 a8 a9 a10 hne b0 b1 =>
    exact .tup (by simp) (mem1 (.up (.str (by decide +kernel))) (mem1 (.tup (by rw [List.length_map]; omega) (ints_p0 hs)) (mem1 (.tup (by simp) (ints_p0 [z0, z1])) (mem1 (.tup (by simp) (ints_p0 [o0, o1])) (mem1 (.up (.int st)) (mem1 (.up (.int b)) mem0))))))
theorem RcP.locs {most : Int} {x : D} (h : RcP most x) (k : Nat) : locsLt k x = true := by
  obtain ⟨t, a, b, rfl, tb, _⟩ := h
  have := (tb_p2' tb).locs k
  simp only [locsLt, locsLts, this, Bool.and_self]
theorem RcL.locs {most : Int} {xs : List D} (h : RcL most xs) (k : Nat) : locsLts k xs = true := locs_all fun x hx => (h x hx).locs k
/-! ### Ratio(above, above + 1 + ..) -/
theorem mk_drawn {B : Nat} {o o0 : MO} {env : DE} {a : Nat} (hn : ms[n]? = some o0) (dr : Dr B o) (hB : B < 900000) (h0 : env[0]? = some (some (.loc n))) (h6 : env[6]? = some (some (.int a))) (ha : a < 12) :
    ∃ (x y : Int) (o' : MO), cutE (sMake true 0 F_Ratio_init 3 [] (sCons (sVar 6) (sCons (sBin addD (sBin addD (sVar 6) (sCst (.int 1))) (sCall F_law_next 2 (sCons (sVar 0) (sCons (sCst (.int 20)) sNil)))) sNil))) env (ms.set n o) = .ok (.rat x y) (ms.set n o') ∧ 0 ≤ x ∧ x < y ∧ y ≤ 40 ∧ Dr (B + 1) o' := by
  obtain ⟨r, o1, e1, r0, r1, d1⟩ := next_ok (many := 20) (set_at (o := o) hn) dr (by omega) (by omega) (by omega)
  rw [List.set_set] at e1
  obtain ⟨k, rfl⟩ := Int.eq_ofNat_of_zero_le r0
  have hd : 0 < a + 1 + k := by omega
  have small : ∀ x : Nat, x < 100 → x < 2 ^ 8000 := fun x hx => Nat.lt_of_lt_of_le hx (Nat.le_trans (show 100 ≤ 2 ^ 7 by decide) (Nat.pow_le_pow_right (by decide) (by decide)))
  have me := mkEnd_ok (ms := ms.set n o1) (n := a) (d := a + 1 + k) (small _ (by omega)) (small _ (by omega)) hd
  have g0 : 0 < Nat.gcd (a + 1 + k) a := Nat.gcd_pos_of_pos_left _ hd
  have lt : a / Nat.gcd (a + 1 + k) a < (a + 1 + k) / Nat.gcd (a + 1 + k) a := Nat.div_lt_div_of_lt_of_dvd (Nat.gcd_dvd_left _ _) (by omega)
  have le : (a + 1 + k) / Nat.gcd (a + 1 + k) a ≤ a + 1 + k := Nat.div_le_self _ _
  refine ⟨((a / Nat.gcd (a + 1 + k) a : Nat) : Int), (((a + 1 + k) / Nat.gcd (a + 1 + k) a : Nat) : Int), o1, cutE_set (g := [.dead]) ?_ d1.lt rfl, Int.natCast_nonneg _, Int.ofNat_lt.mpr lt, by omega, d1⟩
  have vs : (sCons (sVar 6) (sCons (sBin addD (sBin addD (sVar 6) (sCst (.int 1))) (sCall F_law_next 2 (sCons (sVar 0) (sCons (sCst (.int 20)) sNil)))) sNil)) env (ms.set n o) = .ok [.int a, .int ((a + 1 + k : Nat) : Int)] (ms.set n o1) := by
    have e1' : F_law_next [.loc n, .int 20] (ms.set n o) = .ok (.int (Int.ofNat k)) (ms.set n o1) := e1
    have cst : ((a : Int) + 1 + Int.ofNat k) = ((a + 1 + k : Nat) : Int) := by simp
    simp only [runD_ap, List.map_cons, List.map_nil, List.length_cons, List.length_nil, Nat.reduceAdd, Nat.reduceSub, List.replicate, List.cons_append, List.nil_append, sSeq_ap, sAsg_ap, sBin_ap, sCst_ap, kBin1_ok, sCall_ap, sCons_ap, sVar_ap, List.getElem?_cons_zero, List.getElem?_cons_succ, vR_some, kC1_ok, sNil_ap, kC2_ok, kCall_ok, ↓reduceIte, kBin2_ok, optR_some, kAsg_ok, gNm_ap, asgO_some, List.set_cons_succ, List.set_cons_zero, next_nx, next_ret, next_err, sIf_ap, sTst_ap, kTst_ok, kIf_f, kIf_t, sSkip_ap, sBif_ap, kBif_ok, sPar_ap, sTup_ap, kTup_ok, Nat.reduceLeDiff, kPar_ok, setAll, sRet_ap, kRet_ok, out_ret, out_nx, out_err, gTu_tup, gTu_lst, gsC_nm, gsC_tu, gsK_some, gsN, sNewL_ap, kNewL_ok, sAppend_ap, kApp0_some, kApp_ok, sAndV_ap, kAndV_ok, kAndV2_t, kAndV2_f, sOrV_ap, kOrV_ok, kOrV2_t, kOrV2_f, tru_bl, sIte_ap, kIte_t, kIte_f, sLst_ap, kLst_ok, sFor_ap, kFor_ok, sItems_ap, kItems_ok, itemsD, sNeg_ap, kNeg_ok, sSlc_ap, kS1_ok, kS2_ok, kS3_ok, sPart_ap, kPart_ok, sNoPart_ap, sOrT_ap, kOrT_f, kOrT_t, sAndT_ap, kAndT_t, kAndT_f, sNotT_ap, kNotT_ok, sNotV_ap, kNotV_ok, kNotV2_ok, sTru_ap, kTru_ok, sIsi_ap, kIsi_ok, sCallK_ap, kK1_ok, kK2_ok, and_self, sDrop_ap, kDrop_ok, sRetN_ap, sChain_ap, kCh1_ok, kCh2_ok, kCh3_t, kCh3_f, kCh4_ok, sTab_ap, kTab_ok, sAug_ap, kAug0_some, kAug1_ok, augO_some, iadd_int, isub_int, Bool.not_true, Bool.not_false, add_int, sub_int, eq_int, ne_int, lt_int, le_int, gt_int, ge_int, eq_str, ne_str, len_lst, len_tup, sRange1_ap, kRange1_ok, eq_self, decide_true, decide_false, eq_self_iff_true, pm_nil, pm_cons, sRev_ap, kRev_ok, rev_tup, rev_lst, sRaise_ap, kRaise_ok, sTry_ap, kTry_nx, kTry_ret, sTryF_ap, kTryF_nx, kAsg_err, kBin1_err, kBin2_err, kCall_err, kC1_err, kC2_err, kRet_err, kDrop_err, kIf_err, h0, h6, e1', cst]
  rw [sMake_ap, vs, kMake_ok]
  exact me
noncomputable abbrev rvB : SS := (sSeq (sAsg (sCall F_law_table 2 (sCons (sVar 0) (sCons (sVar 2) sNil))) (gNm 5))
    (sSeq (sIf (sAndT (sTst (sBin neX (sVar 3) (sTup sNil))) (sTst (sBin gtX (sCall F_law_next 2 (sCons (sVar 0) (sCons (sCst (.int 3)) sNil))) (sCst (.int 0)))))
    (sAsg (sCall F_law_like 2 (sCons (sVar 0) (sCons (sBin atD (sBin atD (sVar 3) (sNeg (sCst (.int 1)))) (sCst (.int 0))) sNil))) (gNm 5))
    sSkip)
    (sSeq (sAsg (sCall F_law_next 2 (sCons (sVar 0) (sCons (sCst (.int 12)) sNil))) (gNm 6))
    (sAsg (sBin addD (sVar 3) (sTup (sCons (sTup (sCons (sVar 5) (sCons (cutE (sMake true 0 F_Ratio_init 3 [] (sCons (sVar 6) (sCons (sBin addD (sBin addD (sVar 6) (sCst (.int 1))) (sCall F_law_next 2 (sCons (sVar 0) (sCons (sCst (.int 20)) sNil)))) sNil)))) sNil))) sNil))) (gNm 3)))))
theorem b_rv_eq : b_law_receiver = (sSeq (sAsg (sTup sNil) (gNm 3)) (sSeq (sFor (sRange1 (sCons (sBin addD (sCst (.int 1)) (sCall F_law_next 2 (sCons (sVar 0) (sCons (sVar 1) sNil)))) sNil)) (gNm 4) rvB) (sRet (sVar 3)))) := rfl
noncomputable abbrev rvT : SS := (sIf (sAndT (sTst (sBin neX (sVar 3) (sTup sNil))) (sTst (sBin gtX (sCall F_law_next 2 (sCons (sVar 0) (sCons (sCst (.int 3)) sNil))) (sCst (.int 0)))))
    (sAsg (sCall F_law_like 2 (sCons (sVar 0) (sCons (sBin atD (sBin atD (sVar 3) (sNeg (sCst (.int 1)))) (sCst (.int 0))) sNil))) (gNm 5))
    sSkip)
theorem rvT_ok {B : Nat} {o o0 : MO} {most : Int} {xs : List D} {t : D} {p1 p2 p4 p6 : Option D} (hn : ms[n]? = some o0) (dr : Dr B o) (hB : B < 800000) (hm : 3 ≤ most) (hx : RcL most xs) (ht : Tb most t) :
    ∃ (t' : D) (o' : MO), rvT [some (.loc n), p1, p2, some (.tup xs), p4, some t, p6] (ms.set n o) = .nx [some (.loc n), p1, p2, some (.tup xs), p4, some t', p6] (ms.set n o') ∧ Tb most t' ∧ Dr (B + 2) o' := by
  have nx := fun m : MS => neX_nil (ms := m) hx
  by_cases he : xs = []
  · subst he
    refine ⟨t, o, ?_, ht, up_to dr (by omega)⟩
    have nx' : ∀ m : MS, neX m (.tup []) (.tup []) = some (.bl false) := nx
    simp only [rvT, runD_ap, List.map_cons, List.map_nil, List.length_cons, List.length_nil, Nat.reduceAdd, Nat.reduceSub, List.replicate, List.cons_append, List.nil_append, sSeq_ap, sAsg_ap, sBin_ap, sCst_ap, kBin1_ok, sCall_ap, sCons_ap, sVar_ap, List.getElem?_cons_zero, List.getElem?_cons_succ, vR_some, kC1_ok, sNil_ap, kC2_ok, kCall_ok, ↓reduceIte, kBin2_ok, optR_some, kAsg_ok, gNm_ap, asgO_some, List.set_cons_succ, List.set_cons_zero, next_nx, next_ret, next_err, sIf_ap, sTst_ap, kTst_ok, kIf_f, kIf_t, sSkip_ap, sBif_ap, kBif_ok, sPar_ap, sTup_ap, kTup_ok, Nat.reduceLeDiff, kPar_ok, setAll, sRet_ap, kRet_ok, out_ret, out_nx, out_err, gTu_tup, gTu_lst, gsC_nm, gsC_tu, gsK_some, gsN, sNewL_ap, kNewL_ok, sAppend_ap, kApp0_some, kApp_ok, sAndV_ap, kAndV_ok, kAndV2_t, kAndV2_f, sOrV_ap, kOrV_ok, kOrV2_t, kOrV2_f, tru_bl, sIte_ap, kIte_t, kIte_f, sLst_ap, kLst_ok, sFor_ap, kFor_ok, sItems_ap, kItems_ok, itemsD, sNeg_ap, kNeg_ok, sSlc_ap, kS1_ok, kS2_ok, kS3_ok, sPart_ap, kPart_ok, sNoPart_ap, sOrT_ap, kOrT_f, kOrT_t, sAndT_ap, kAndT_t, kAndT_f, sNotT_ap, kNotT_ok, sNotV_ap, kNotV_ok, kNotV2_ok, sTru_ap, kTru_ok, sIsi_ap, kIsi_ok, sCallK_ap, kK1_ok, kK2_ok, and_self, sDrop_ap, kDrop_ok, sRetN_ap, sChain_ap, kCh1_ok, kCh2_ok, kCh3_t, kCh3_f, kCh4_ok, sTab_ap, kTab_ok, sAug_ap, kAug0_some, kAug1_ok, augO_some, iadd_int, isub_int, Bool.not_true, Bool.not_false, add_int, sub_int, eq_int, ne_int, lt_int, le_int, gt_int, ge_int, eq_str, ne_str, len_lst, len_tup, sRange1_ap, kRange1_ok, eq_self, decide_true, decide_false, eq_self_iff_true, pm_nil, pm_cons, sRev_ap, kRev_ok, rev_tup, rev_lst, sRaise_ap, kRaise_ok, sTry_ap, kTry_nx, kTry_ret, sTryF_ap, kTryF_nx, kAsg_err, kBin1_err, kBin2_err, kCall_err, kC1_err, kC2_err, kRet_err, kDrop_err, kIf_err, nx']
  · have nx' : ∀ m : MS, neX m (.tup xs) (.tup []) = some (.bl true) := fun m => by
      rw [nx m]
      cases xs with
      | nil => exact absurd rfl he
      | cons _ _ => rfl
    obtain ⟨r, o1, e1, r0, r1, d1⟩ := next_ok (many := 3) (set_at (o := o) hn) dr (by omega) (by omega) (by omega)
    rw [List.set_set] at e1
    have gx : ∀ m : MS, gtX m (.int r) (.int 0) = some (.bl (decide (0 < r))) := fun m => rfl
    by_cases hr : 0 < r
    · have hr' : decide (0 < r) = true := decide_eq_true hr
      obtain ⟨lt, a, b, hlast, tb, _⟩ := hx (xs.getLast he) (List.getLast_mem he)
      obtain ⟨t', o2, e2, tb', d2⟩ := like_ok (set_at (o := o1) hn) d1 (by omega) hm tb
      rw [List.set_set] at e2
      refine ⟨t', o2, ?_, tb', d2⟩
      have hlen : 0 < xs.length := List.length_pos_iff.mpr he
      have al : ∀ m : MS, atD m (.tup xs) (.int (-1)) = some (.tup [lt, .rat a b]) := fun m => by
        show atI xs (-1) = _
        unfold atI ixN
        rw [if_neg (by omega), if_pos (by omega)]
        show xs[((xs.length : Int) + -1).toNat]? = _
        rw [← hlast, List.getLast_eq_getElem, show ((xs.length : Int) + -1).toNat = xs.length - 1 by omega]
        exact List.getElem?_eq_getElem _
      have a0 : ∀ m : MS, atD m (.tup [lt, .rat a b]) (.int 0) = some lt := fun m => rfl
      generalize D.tup [lt, .rat a b] = P at al a0
      generalize D.tup xs = X at *
      simp only [rvT, runD_ap, List.map_cons, List.map_nil, List.length_cons, List.length_nil, Nat.reduceAdd, Nat.reduceSub, List.replicate, List.cons_append, List.nil_append, sSeq_ap, sAsg_ap, sBin_ap, sCst_ap, kBin1_ok, sCall_ap, sCons_ap, sVar_ap, List.getElem?_cons_zero, List.getElem?_cons_succ, vR_some, kC1_ok, sNil_ap, kC2_ok, kCall_ok, ↓reduceIte, kBin2_ok, optR_some, kAsg_ok, gNm_ap, asgO_some, List.set_cons_succ, List.set_cons_zero, next_nx, next_ret, next_err, sIf_ap, sTst_ap, kTst_ok, kIf_f, kIf_t, sSkip_ap, sBif_ap, kBif_ok, sPar_ap, sTup_ap, kTup_ok, Nat.reduceLeDiff, kPar_ok, setAll, sRet_ap, kRet_ok, out_ret, out_nx, out_err, gTu_tup, gTu_lst, gsC_nm, gsC_tu, gsK_some, gsN, sNewL_ap, kNewL_ok, sAppend_ap, kApp0_some, kApp_ok, sAndV_ap, kAndV_ok, kAndV2_t, kAndV2_f, sOrV_ap, kOrV_ok, kOrV2_t, kOrV2_f, tru_bl, sIte_ap, kIte_t, kIte_f, sLst_ap, kLst_ok, sFor_ap, kFor_ok, sItems_ap, kItems_ok, itemsD, sNeg_ap, kNeg_ok, sSlc_ap, kS1_ok, kS2_ok, kS3_ok, sPart_ap, kPart_ok, sNoPart_ap, sOrT_ap, kOrT_f, kOrT_t, sAndT_ap, kAndT_t, kAndT_f, sNotT_ap, kNotT_ok, sNotV_ap, kNotV_ok, kNotV2_ok, sTru_ap, kTru_ok, sIsi_ap, kIsi_ok, sCallK_ap, kK1_ok, kK2_ok, and_self, sDrop_ap, kDrop_ok, sRetN_ap, sChain_ap, kCh1_ok, kCh2_ok, kCh3_t, kCh3_f, kCh4_ok, sTab_ap, kTab_ok, sAug_ap, kAug0_some, kAug1_ok, augO_some, iadd_int, isub_int, Bool.not_true, Bool.not_false, add_int, sub_int, eq_int, ne_int, lt_int, le_int, gt_int, ge_int, eq_str, ne_str, len_lst, len_tup, sRange1_ap, kRange1_ok, eq_self, decide_true, decide_false, eq_self_iff_true, pm_nil, pm_cons, sRev_ap, kRev_ok, rev_tup, rev_lst, sRaise_ap, kRaise_ok, sTry_ap, kTry_nx, kTry_ret, sTryF_ap, kTryF_nx, kAsg_err, kBin1_err, kBin2_err, kCall_err, kC1_err, kC2_err, kRet_err, kDrop_err, kIf_err, nx', e1, gx, hr', al, a0, e2]
    · have hr' : decide (0 < r) = false := decide_eq_false hr
      refine ⟨t, o1, ?_, ht, up_to d1 (by omega)⟩
      generalize D.tup xs = X at *
      simp only [rvT, runD_ap, List.map_cons, List.map_nil, List.length_cons, List.length_nil, Nat.reduceAdd, Nat.reduceSub, List.replicate, List.cons_append, List.nil_append, sSeq_ap, sAsg_ap, sBin_ap, sCst_ap, kBin1_ok, sCall_ap, sCons_ap, sVar_ap, List.getElem?_cons_zero, List.getElem?_cons_succ, vR_some, kC1_ok, sNil_ap, kC2_ok, kCall_ok, ↓reduceIte, kBin2_ok, optR_some, kAsg_ok, gNm_ap, asgO_some, List.set_cons_succ, List.set_cons_zero, next_nx, next_ret, next_err, sIf_ap, sTst_ap, kTst_ok, kIf_f, kIf_t, sSkip_ap, sBif_ap, kBif_ok, sPar_ap, sTup_ap, kTup_ok, Nat.reduceLeDiff, kPar_ok, setAll, sRet_ap, kRet_ok, out_ret, out_nx, out_err, gTu_tup, gTu_lst, gsC_nm, gsC_tu, gsK_some, gsN, sNewL_ap, kNewL_ok, sAppend_ap, kApp0_some, kApp_ok, sAndV_ap, kAndV_ok, kAndV2_t, kAndV2_f, sOrV_ap, kOrV_ok, kOrV2_t, kOrV2_f, tru_bl, sIte_ap, kIte_t, kIte_f, sLst_ap, kLst_ok, sFor_ap, kFor_ok, sItems_ap, kItems_ok, itemsD, sNeg_ap, kNeg_ok, sSlc_ap, kS1_ok, kS2_ok, kS3_ok, sPart_ap, kPart_ok, sNoPart_ap, sOrT_ap, kOrT_f, kOrT_t, sAndT_ap, kAndT_t, kAndT_f, sNotT_ap, kNotT_ok, sNotV_ap, kNotV_ok, kNotV2_ok, sTru_ap, kTru_ok, sIsi_ap, kIsi_ok, sCallK_ap, kK1_ok, kK2_ok, and_self, sDrop_ap, kDrop_ok, sRetN_ap, sChain_ap, kCh1_ok, kCh2_ok, kCh3_t, kCh3_f, kCh4_ok, sTab_ap, kTab_ok, sAug_ap, kAug0_some, kAug1_ok, augO_some, iadd_int, isub_int, Bool.not_true, Bool.not_false, add_int, sub_int, eq_int, ne_int, lt_int, le_int, gt_int, ge_int, eq_str, ne_str, len_lst, len_tup, sRange1_ap, kRange1_ok, eq_self, decide_true, decide_false, eq_self_iff_true, pm_nil, pm_cons, sRev_ap, kRev_ok, rev_tup, rev_lst, sRaise_ap, kRaise_ok, sTry_ap, kTry_nx, kTry_ret, sTryF_ap, kTryF_nx, kAsg_err, kBin1_err, kBin2_err, kCall_err, kC1_err, kC2_err, kRet_err, kDrop_err, kIf_err, nx', e1, gx, hr']
theorem rvB_ok {B : Nat} {o o0 : MO} {most : Int} {xs : List D} {p1 p4 p5 p6 : Option D} (hn : ms[n]? = some o0) (dr : Dr B o) (hB : B < 600000) (hm : 3 ≤ most) (hm2 : most < 1000) (hx : RcL most xs) (hl : xs.length ≤ 1000) :
    ∃ (x : D) (q5 q6 : Option D) (o' : MO), rvB [some (.loc n), p1, some (.int most), some (.tup xs), p4, p5, p6] (ms.set n o) = .nx [some (.loc n), p1, some (.int most), some (.tup (xs ++ [x])), p4, q5, q6] (ms.set n o') ∧ RcP most x ∧ Dr (B + 45) o' := by
  obtain ⟨t, o1, e1, tb, d1⟩ := table_ok (most := most) (set_at (o := o) hn) dr (by omega) (by omega) hm2
  rw [List.set_set] at e1
  obtain ⟨t', o2, e2, tb', d2⟩ := rvT_ok (p1 := p1) (p2 := some (.int most)) (p4 := p4) (p6 := p6) (xs := xs) hn d1 (by omega) hm hx tb
  obtain ⟨a, o3, e3, a0, a1, d3⟩ := next_ok (many := 12) (set_at (o := o2) hn) d2 (by omega) (by omega) (by omega)
  rw [List.set_set] at e3
  obtain ⟨k, rfl⟩ := Int.eq_ofNat_of_zero_le a0
  obtain ⟨x, y, o4, e4, x0, x1, x2, d4⟩ := mk_drawn (env := [some (.loc n), p1, some (.int most), some (.tup xs), p4, some t', some (.int (k : Nat))]) (a := k) hn d3 (by omega) rfl rfl (by omega)
  refine ⟨.tup [t', .rat x y], some t', some (.int (k : Nat)), o4, ?_, ⟨t', x, y, rfl, tb', x0, x1, x2⟩, up_to d4 (by omega)⟩
  have ad : ∀ m : MS, addD m (.tup xs) (.tup [.tup [t', .rat x y]]) = some (.tup (xs ++ [.tup [t', .rat x y]])) := fun m => add_tup (by simp only [List.length_cons, List.length_nil]; omega)
  show (sSeq _ (sSeq rvT _)) _ _ = _
  have e3' : F_law_next [.loc n, .int 12] (ms.set n o2) = .ok (.int (k : Nat)) (ms.set n o3) := e3
  generalize cutE (sMake true 0 F_Ratio_init 3 [] (sCons (sVar 6) (sCons (sBin addD (sBin addD (sVar 6) (sCst (.int 1))) (sCall F_law_next 2 (sCons (sVar 0) (sCons (sCst (.int 20)) sNil)))) sNil))) = MK at e4 ⊢
  generalize rvT = RT at e2 ⊢
  generalize D.tup (xs ++ [.tup [t', .rat x y]]) = Z at *
  generalize D.tup xs = X at *
  simp only [runD_ap, List.map_cons, List.map_nil, List.length_cons, List.length_nil, Nat.reduceAdd, Nat.reduceSub, List.replicate, List.cons_append, List.nil_append, sSeq_ap, sAsg_ap, sBin_ap, sCst_ap, kBin1_ok, sCall_ap, sCons_ap, sVar_ap, List.getElem?_cons_zero, List.getElem?_cons_succ, vR_some, kC1_ok, sNil_ap, kC2_ok, kCall_ok, ↓reduceIte, kBin2_ok, optR_some, kAsg_ok, gNm_ap, asgO_some, List.set_cons_succ, List.set_cons_zero, next_nx, next_ret, next_err, sIf_ap, sTst_ap, kTst_ok, kIf_f, kIf_t, sSkip_ap, sBif_ap, kBif_ok, sPar_ap, sTup_ap, kTup_ok, Nat.reduceLeDiff, kPar_ok, setAll, sRet_ap, kRet_ok, out_ret, out_nx, out_err, gTu_tup, gTu_lst, gsC_nm, gsC_tu, gsK_some, gsN, sNewL_ap, kNewL_ok, sAppend_ap, kApp0_some, kApp_ok, sAndV_ap, kAndV_ok, kAndV2_t, kAndV2_f, sOrV_ap, kOrV_ok, kOrV2_t, kOrV2_f, tru_bl, sIte_ap, kIte_t, kIte_f, sLst_ap, kLst_ok, sFor_ap, kFor_ok, sItems_ap, kItems_ok, itemsD, sNeg_ap, kNeg_ok, sSlc_ap, kS1_ok, kS2_ok, kS3_ok, sPart_ap, kPart_ok, sNoPart_ap, sOrT_ap, kOrT_f, kOrT_t, sAndT_ap, kAndT_t, kAndT_f, sNotT_ap, kNotT_ok, sNotV_ap, kNotV_ok, kNotV2_ok, sTru_ap, kTru_ok, sIsi_ap, kIsi_ok, sCallK_ap, kK1_ok, kK2_ok, and_self, sDrop_ap, kDrop_ok, sRetN_ap, sChain_ap, kCh1_ok, kCh2_ok, kCh3_t, kCh3_f, kCh4_ok, sTab_ap, kTab_ok, sAug_ap, kAug0_some, kAug1_ok, augO_some, iadd_int, isub_int, Bool.not_true, Bool.not_false, add_int, sub_int, eq_int, ne_int, lt_int, le_int, gt_int, ge_int, eq_str, ne_str, len_lst, len_tup, sRange1_ap, kRange1_ok, eq_self, decide_true, decide_false, eq_self_iff_true, pm_nil, pm_cons, sRev_ap, kRev_ok, rev_tup, rev_lst, sRaise_ap, kRaise_ok, sTry_ap, kTry_nx, kTry_ret, sTryF_ap, kTryF_nx, kAsg_err, kBin1_err, kBin2_err, kCall_err, kC1_err, kC2_err, kRet_err, kDrop_err, kIf_err, e1, e2, e3', e4, ad]
theorem receiver_ok {B : Nat} {o : MO} {most many : Int} (hn : ms[n]? = some o) (dr : Dr B o) (hB : B < 500000) (hm : 3 ≤ most) (hm2 : most < 1000) (h1 : 0 < many) (h4 : many ≤ 4) :
    ∃ (xs : List D) (o' : MO), F_law_receiver [.loc n, .int many, .int most] ms = .ok (.tup xs) (ms.set n o') ∧ 1 ≤ xs.length ∧ (xs.length : Int) ≤ many ∧ RcL most xs ∧ Dr (B + 200) o' := by
  obtain ⟨r, o1, e1, r0, r1, d1⟩ := next_ok (many := many) hn dr (by omega) h1 (by omega)
  have go : ∀ (ds : List D) (xs : List D) (B : Nat) (o : MO) (p4 p5 p6 : Option D), Dr B o → B + 45 * ds.length < 600000 → RcL most xs → xs.length + ds.length ≤ 1000 → ∃ (ys : List D) (q4 q5 q6 : Option D) (o' : MO),
      forL (gNm 4) rvB ds [some (.loc n), some (.int many), some (.int most), some (.tup xs), p4, p5, p6] (ms.set n o) = .nx [some (.loc n), some (.int many), some (.int most), some (.tup (xs ++ ys)), q4, q5, q6] (ms.set n o') ∧ ys.length = ds.length ∧ RcL most (xs ++ ys) ∧ Dr (B + 45 * ds.length) o' := by
    intro ds
    induction ds with
    | nil => intro xs B o p4 p5 p6 dr _ hx _; exact ⟨[], p4, p5, p6, o, by rw [List.append_nil]; rfl, rfl, by rw [List.append_nil]; exact hx, dr⟩
    | cons d ds ih =>
      intro xs B o p4 p5 p6 dr hB hx hl
      simp only [List.length_cons] at hB hl
      obtain ⟨x, q5, q6, o', e, hp, d'⟩ := rvB_ok (p1 := some (.int many)) (p4 := some d) (p5 := p5) (p6 := p6) hn dr (by omega) hm hm2 hx (by omega)
      obtain ⟨ys, r4, r5, r6, o'', e', l', hy, d''⟩ := ih (xs ++ [x]) (B + 45) o' (some d) q5 q6 d' (by omega) (fun z hz => by
        rcases List.mem_append.mp hz with hz | hz
        · exact hx z hz
        · rw [List.mem_singleton.mp hz]; exact hp) (by rw [List.length_append]; simp only [List.length_cons, List.length_nil]; omega)
      refine ⟨x :: ys, r4, r5, r6, o'', ?_, by simp [l'], by rw [List.append_assoc] at hy; exact hy, by simp only [List.length_cons]; rw [show B + 45 * (ds.length + 1) = B + 45 + 45 * ds.length by omega]; exact d''⟩
      rw [forL_cons (env1 := [some (.loc n), some (.int many), some (.int most), some (.tup xs), some d, p5, p6]) rfl e, e', List.append_assoc]
      rfl
  have len : (rngL 0 (1 + r).toNat).length = (1 + r).toNat := by simp [rngL]
  obtain ⟨ys, q4, q5, q6, o', e, l', hy, d'⟩ := go (rngL 0 (1 + r).toNat) [] (B + 1) o1 none none none d1 (by rw [len]; omega) (fun x hx => by cases hx) (by rw [len]; simp; omega)
  rw [List.nil_append] at e hy
  rw [len] at l' d'
  refine ⟨ys, o', cutF_set [] ?_ d'.lt (by simp only [locsLt]; exact hy.locs _), by omega, by omega, hy, up_to d' (by omega)⟩
  have ir : inR (1 + r) = true := decide_eq_true (by omega)
  rw [b_rv_eq]
  generalize rvB = RV at *
  simp only [runD_ap, List.map_cons, List.map_nil, List.length_cons, List.length_nil, Nat.reduceAdd, Nat.reduceSub, List.replicate, List.cons_append, List.nil_append, sSeq_ap, sAsg_ap, sBin_ap, sCst_ap, kBin1_ok, sCall_ap, sCons_ap, sVar_ap, List.getElem?_cons_zero, List.getElem?_cons_succ, vR_some, kC1_ok, sNil_ap, kC2_ok, kCall_ok, ↓reduceIte, kBin2_ok, optR_some, kAsg_ok, gNm_ap, asgO_some, List.set_cons_succ, List.set_cons_zero, next_nx, next_ret, next_err, sIf_ap, sTst_ap, kTst_ok, kIf_f, kIf_t, sSkip_ap, sBif_ap, kBif_ok, sPar_ap, sTup_ap, kTup_ok, Nat.reduceLeDiff, kPar_ok, setAll, sRet_ap, kRet_ok, out_ret, out_nx, out_err, gTu_tup, gTu_lst, gsC_nm, gsC_tu, gsK_some, gsN, sNewL_ap, kNewL_ok, sAppend_ap, kApp0_some, kApp_ok, sAndV_ap, kAndV_ok, kAndV2_t, kAndV2_f, sOrV_ap, kOrV_ok, kOrV2_t, kOrV2_f, tru_bl, sIte_ap, kIte_t, kIte_f, sLst_ap, kLst_ok, sFor_ap, kFor_ok, sItems_ap, kItems_ok, itemsD, sNeg_ap, kNeg_ok, sSlc_ap, kS1_ok, kS2_ok, kS3_ok, sPart_ap, kPart_ok, sNoPart_ap, sOrT_ap, kOrT_f, kOrT_t, sAndT_ap, kAndT_t, kAndT_f, sNotT_ap, kNotT_ok, sNotV_ap, kNotV_ok, kNotV2_ok, sTru_ap, kTru_ok, sIsi_ap, kIsi_ok, sCallK_ap, kK1_ok, kK2_ok, and_self, sDrop_ap, kDrop_ok, sRetN_ap, sChain_ap, kCh1_ok, kCh2_ok, kCh3_t, kCh3_f, kCh4_ok, sTab_ap, kTab_ok, sAug_ap, kAug0_some, kAug1_ok, augO_some, iadd_int, isub_int, Bool.not_true, Bool.not_false, add_int, sub_int, eq_int, ne_int, lt_int, le_int, gt_int, ge_int, eq_str, ne_str, len_lst, len_tup, sRange1_ap, kRange1_ok, eq_self, decide_true, decide_false, eq_self_iff_true, pm_nil, pm_cons, sRev_ap, kRev_ok, rev_tup, rev_lst, sRaise_ap, kRaise_ok, sTry_ap, kTry_nx, kTry_ret, sTryF_ap, kTryF_nx, kAsg_err, kBin1_err, kBin2_err, kCall_err, kC1_err, kC2_err, kRet_err, kDrop_err, kIf_err, e1, ir, e, List.append_nil]
end
end U

/-! receivers: equality, what is refused, sendings -/
namespace U
open PySem L2 DL
section
variable {ms : MS} {n : Nat}
theorem tb_pd {most : Int} {t : D} (h : Tb most t) : Pd 2 t := by
  cases h with
  | hv z b z0 z1 b0 b1 => exact .tup (Pd.cons (.str (by decide +kernel)) (Pd.cons (.int z) (Pd.cons (.int b) Pd.nil)))
  | pr hs z0 z1 o0 o1 st b hc hh a1 a2 a3 a4 a5 a6 a7 a8 a9 a10 hne b0 b1 =>
    exact .tup (Pd.cons (.str (by decide +kernel)) (Pd.cons (Pd.tints hs) (Pd.cons (Pd.tints [z0, z1]) (Pd.cons (Pd.tints [o0, o1]) (Pd.cons (.int st) (Pd.cons (.int b) Pd.nil))))))
theorem eqT_pd {k : Nat} {a b : D} (ha : Pd 60 a) (hb : Pd 60 b) : eqT ms k a b = some (eqv a b) := by
  cases k with
  | zero => exact eqP_pd ha hb
  | succ k => simp only [eqT, eqP_pd ha hb]
theorem eqT_rat {k : Nat} {a b c d : Int} : eqT ms (k + 1) (.rat a b) (.rat c d) = some (decide (a = c) && decide (b = d)) := by
  have : eqP ms (.rat a b) (.rat c d) = none := eqP_n1 rfl
  simp only [eqT, this]
theorem eqTs_self {f : D → D → Option Bool} : ∀ {xs : List D}, (∀ x ∈ xs, f x x = some true) → eqTs f xs xs = some true
  | [], _ => rfl
  | x :: xs, h => by
    simp only [eqTs, h x List.mem_cons_self]
    exact eqTs_self fun y hy => h y (List.mem_cons_of_mem _ hy)
theorem eqT_pair {most : Int} {x : D} {k : Nat} (h : RcP most x) : eqT ms (k + 2) x x = some true := by
  obtain ⟨t, a, b, rfl, tb, _⟩ := h
  have e0 : eqP ms (.tup [t, .rat a b]) (.tup [t, .rat a b]) = none := eqP_n1 (pd_tup (toPs_none (x := .rat a b) (by simp) rfl))
  have e1 : eqT ms (k + 1) t t = some true := by rw [eqT_pd ((tb_pd tb).up (by omega)) ((tb_pd tb).up (by omega)), (tb_pd tb).eqv_refl]
  have e2 : eqT ms (k + 1) (.rat a b) (.rat a b) = some true := by rw [eqT_rat]; simp
  rw [eqT]
  simp only [e0, eqTs, e1, e2, Option.map_some]
  simp
theorem tupT_self {most : Int} {xs : List D} (h : RcL most xs) : tupT ms (.tup xs) (.tup xs) = some true := by
  simp only [tupT, eqTs_self fun x hx => eqT_pair (k := 6) (h x hx), Option.map_some]
  simp
theorem eqX_self {most : Int} {xs : List D} (h : RcL most xs) (hne : xs ≠ []) : eqX ms (.tup xs) (.tup xs) = some (.bl true) := by
  simp only [eqX, eqD_n1 (h.none hne), tupT_self h]
theorem neX_self {most : Int} {xs : List D} (h : RcL most xs) (hne : xs ≠ []) : neX ms (.tup xs) (.tup xs) = some (.bl false) := by
  simp only [neX, neD_n1 (h.none hne), tupT_self h]
  rfl
/-! ### the first wrong pair -/
theorem firstW_none : ∀ {xs : List D} {i : Nat}, (∀ x ∈ xs, pairB x = true) → firstW xs i = none
  | [], _, _ => rfl
  | x :: xs, i, h => by
    simp only [firstW, h x List.mem_cons_self, if_true]
    exact firstW_none fun y hy => h y (List.mem_cons_of_mem _ hy)
theorem firstW_at : ∀ {xs : List D} {i k : Nat} {x : D}, xs[k]? = some x → pairB x = false → (∀ j y, j < k → xs[j]? = some y → pairB y = true) → firstW xs i = some (i + k)
  | [], _, _, _, h, _, _ => by simp at h
  | y :: ys, i, 0, x, h, hx, _ => by
    simp only [List.getElem?_cons_zero, Option.some.injEq] at h
    subst h
    simp [firstW, hx]
  | y :: ys, i, k + 1, x, h, hx, hb => by
    rw [List.getElem?_cons_succ] at h
    have hy := hb 0 y (by omega) rfl
    simp only [firstW, hy, if_true]
    rw [firstW_at (i := i + 1) h hx fun j z hj hz => hb (j + 1) z (by omega) (by rw [List.getElem?_cons_succ]; exact hz)]
    congr 1
    omega
theorem tbB_ok {most : Int} {t : D} (h : Tb most t) (hm : most ≤ 8) : tbB t = true := by
  unfold tbB
  rw [tb_non (h.up hm)]
theorem RcP.pair {most : Int} {x : D} (h : RcP most x) (hm : most ≤ 8) : pairB x = true := by
  obtain ⟨t, a, b, rfl, tb, a0, a1, _⟩ := h
  show (tbB t && tolB (.rat a b)) = true
  rw [tbB_ok tb hm]
  simp [tolB, a1]
theorem tolQ_rat {a b : Int} (h0 : 0 ≤ a) (h1 : a < b) (h2 : b ≤ 40) : TolQ (.rat a b) := .inr ⟨a, b, rfl, h0, by omega, by omega, by omega⟩
theorem RcP.pr {most : Int} {x : D} (h : RcP most x) : Pr x := by
  obtain ⟨t, a, b, rfl, tb, a0, a1, a2⟩ := h
  exact .pair (.inl ⟨6, by omega, tb_p2' tb⟩) (tolQ_rat a0 a1 a2)
theorem need_rc {most : Int} {xs : List D} (h : RcL most xs) (hm : most ≤ 8) (h1 : 1 ≤ xs.length) (h4 : xs.length ≤ 4) : F_need_receiver [.tup xs] ms = .ok (.tup xs) ms := by
  rw [need_rcv (fun x hx => (h x hx).pr) h.locs]
  unfold rcvR
  rw [if_pos ⟨h1, h4⟩, firstW_none fun x hx => (h x hx).pair hm]
/-! ### put in anew -/
theorem cut_take {xs : List D} {i : Nat} (h : i ≤ xs.length) : cutL xs none (some (i : Int)) = xs.take i := by
  simp only [cutL, HT.sIx_nat, HT.sIx_none, List.drop_zero]
  rw [Nat.min_eq_left h, Nat.sub_zero]
theorem cut_drop {xs : List D} {i : Nat} : cutL xs (some ((i : Int) + 1)) none = xs.drop (i + 1) := by
  have e : ((i : Int) + 1) = ((i + 1 : Nat) : Int) := by omega
  simp only [cutL, e, HT.sIx_nat, HT.sIx_none]
  by_cases h : i + 1 ≤ xs.length
  · rw [Nat.min_eq_left h]
    rw [List.take_of_length_le (by rw [List.length_drop]; omega)]
  · rw [Nat.min_eq_right (by omega)]
    rw [List.drop_of_length_le (Nat.le_refl _), List.drop_of_length_le (by omega), List.take_nil]
theorem put_eq {xs : List D} {i : Nat} {d : D} (h : i < xs.length) : cutL xs none (some (i : Int)) ++ [d] ++ cutL xs (some ((i : Int) + 1)) none = xs.set i d := by
  rw [cut_take (by omega), cut_drop, List.set_eq_take_append_cons_drop, if_pos h, List.append_assoc]
  rfl
/-! ### sendings -/
def bitsD : D → Int
  | .tup ts => (match ts.getLast? with
    | some (.int b) => b
    | _ => 0)
  | _ => 0
theorem bits_ok {most : Int} {t : D} (h : Tb most t) : F_bits_of [t] ms = .ok (.int (bitsD t)) ms ∧ 1 ≤ bitsD t ∧ bitsD t ≤ most ∧ (∀ m : MS, atD m t (.int (-1)) = some (.int (bitsD t))) := by
  cases h with
  | hv z b z0 z1 b0 b1 => exact ⟨cutF_here (by kernel_rfl) rfl, b0, b1, fun m => rfl⟩
  | pr hs z0 z1 o0 o1 st b hc hh a1 a2 a3 a4 a5 a6 a7 a8 a9 a10 hne b0 b1 => exact ⟨cutF_here (by kernel_rfl) rfl, b0, b1, fun m => rfl⟩
def bitsB (t w : D) : Bool := match w with
  | .tup ys => decide ((ys.length : Int) = bitsD t) && ys.all fun d => wholeB d 0 1
  | _ => false
/-- what a sending may be mistaken for -/
def WQ (w : D) : Prop := flat w = true ∧ ∀ ys, w = .tup ys → ys.length ≤ 1000 ∧ ∀ d ∈ ys, flat d = true
theorem bitsB_ok {most : Int} {t w : D} (h : Tb most t) (hw : WQ w) : F_is_bits [t, w] ms = .ok (.bl (bitsB t w)) ms := by
  by_cases ht : ∃ ys, w = .tup ys
  · obtain ⟨ys, rfl⟩ := ht
    obtain ⟨h1, h2⟩ := hw.2 ys rfl
    exact is_bits_tup (fun m => (bits_ok (ms := m) h).1) h2 h1
  · have e : isTup w = false := by
      cases w with
      | tup ys => exact absurd ⟨ys, rfl⟩ ht
      | _ => rfl
    have z : bitsB t w = false := by
      cases w with
      | tup ys => exact absurd ⟨ys, rfl⟩ ht
      | _ => rfl
    rw [z]
    exact is_bits_no hw.1 e
def sentB (xs : List D) : D → Bool
  | .tup [a, w] => (match a with
    | .int k => wholeB (.int k) 0 ((xs.length : Int) - 1) && (match xs[k.toNat]? with
      | some (.tup [t, _]) => bitsB t w
      | _ => false)
    | _ => false)
  | _ => false
inductive SQ : D → Prop
  | no {d : D} : flat d = true → (∀ xs, d ≠ .tup xs) → SQ d
  | len {xs : List D} : xs.length ≠ 2 → SQ (.tup xs)
  | pair {a w : D} : flat a = true → WQ w → SQ (.tup [a, w])
noncomputable abbrev snC : ST := (sOrT (sNotT (sTru (sIsi "tuple" (sVar 1)))) (sOrT (sTst (sBin neD (sBif lenD (sCons (sVar 1) sNil)) (sCst (.int 2)))) (sNotT (sTru (sCall F_is_whole 3 (sCons (sBin atD (sVar 1) (sCst (.int 0))) (sCons (sCst (.int 0)) (sCons (sBin subD (sBif lenD (sCons (sVar 0) sNil)) (sCst (.int 1))) sNil))))))))
theorem b_sent_eq : b_is_sent_by = (sSeq (sIf snC (sRet (sCst (.bl false))) sSkip) (sRet (sCall F_is_bits 2 (sCons (sBin atD (sBin atD (sVar 0) (sBin atD (sVar 1) (sCst (.int 0)))) (sCst (.int 0))) (sCons (sBin atD (sVar 1) (sCst (.int 1))) sNil))))) := rfl
theorem sent_ok {most : Int} {xs : List D} {d : D} (hx : RcL most xs) (h : SQ d) : F_is_sent_by [.tup xs, d] ms = .ok (.bl (sentB xs d)) ms := by
  have lx : ∀ m : MS, lenD m [.tup xs] = some (.int xs.length) := fun m => rfl
  refine cutF_here ?_ rfl
  rw [b_sent_eq]
  cases h with
  | no hf ht =>
    have it := fun m : MS => isi_notup (ms := m) hf ht
    have z : sentB xs d = false := by
      cases d with
      | tup xs => exact absurd rfl (ht xs)
      | _ => rfl
    rw [z]
    simp only [snC, runD_ap, List.map_cons, List.map_nil, List.length_cons, List.length_nil, Nat.reduceAdd, Nat.reduceSub, List.replicate, List.cons_append, List.nil_append, sSeq_ap, sAsg_ap, sBin_ap, sCst_ap, kBin1_ok, sCall_ap, sCons_ap, sVar_ap, List.getElem?_cons_zero, List.getElem?_cons_succ, vR_some, kC1_ok, sNil_ap, kC2_ok, kCall_ok, ↓reduceIte, kBin2_ok, optR_some, kAsg_ok, gNm_ap, asgO_some, List.set_cons_succ, List.set_cons_zero, next_nx, next_ret, next_err, sIf_ap, sTst_ap, kTst_ok, kIf_f, kIf_t, sSkip_ap, sBif_ap, kBif_ok, sPar_ap, sTup_ap, kTup_ok, Nat.reduceLeDiff, kPar_ok, setAll, sRet_ap, kRet_ok, out_ret, out_nx, out_err, gTu_tup, gTu_lst, gsC_nm, gsC_tu, gsK_some, gsN, sNewL_ap, kNewL_ok, sAppend_ap, kApp0_some, kApp_ok, sAndV_ap, kAndV_ok, kAndV2_t, kAndV2_f, sOrV_ap, kOrV_ok, kOrV2_t, kOrV2_f, tru_bl, sIte_ap, kIte_t, kIte_f, sLst_ap, kLst_ok, sFor_ap, kFor_ok, sItems_ap, kItems_ok, itemsD, sNeg_ap, kNeg_ok, sSlc_ap, kS1_ok, kS2_ok, kS3_ok, sPart_ap, kPart_ok, sNoPart_ap, sOrT_ap, kOrT_f, kOrT_t, sAndT_ap, kAndT_t, kAndT_f, sNotT_ap, kNotT_ok, sNotV_ap, kNotV_ok, kNotV2_ok, sTru_ap, kTru_ok, sIsi_ap, kIsi_ok, sCallK_ap, kK1_ok, kK2_ok, and_self, sDrop_ap, kDrop_ok, sRetN_ap, sChain_ap, kCh1_ok, kCh2_ok, kCh3_t, kCh3_f, kCh4_ok, sTab_ap, kTab_ok, sAug_ap, kAug0_some, kAug1_ok, augO_some, iadd_int, isub_int, Bool.not_true, Bool.not_false, add_int, sub_int, eq_int, ne_int, lt_int, le_int, gt_int, ge_int, eq_str, ne_str, len_lst, len_tup, sRange1_ap, kRange1_ok, eq_self, decide_true, decide_false, eq_self_iff_true, pm_nil, pm_cons, sRev_ap, kRev_ok, rev_tup, rev_lst, sRaise_ap, kRaise_ok, sTry_ap, kTry_nx, kTry_ret, sTryF_ap, kTryF_nx, kAsg_err, kBin1_err, kBin2_err, kCall_err, kC1_err, kC2_err, kRet_err, kDrop_err, kIf_err, it, Option.map_some]
  | @len ys hl =>
    have it : ∀ m : MS, isiB "tuple" m (.tup ys) = some true := fun m => isi_tup
    have z : sentB xs (.tup ys) = false := by
      match ys, hl with
      | [], _ => rfl
      | [_], _ => rfl
      | _ :: _ :: _ :: _, _ => rfl
      | [_, _], h => exact absurd rfl h
    have ne : ∀ m : MS, neD m (.int ys.length) (.int 2) = some (.bl true) := fun m => by
      rw [ne_int, decide_eq_false (by omega)]; rfl
    rw [z]
    have l0 : ∀ m : MS, lenD m [.tup ys] = some (.int ys.length) := fun m => rfl
    generalize D.tup ys = X at *
    generalize (ys.length : Int) = N at *
    simp only [snC, runD_ap, List.map_cons, List.map_nil, List.length_cons, List.length_nil, Nat.reduceAdd, Nat.reduceSub, List.replicate, List.cons_append, List.nil_append, sSeq_ap, sAsg_ap, sBin_ap, sCst_ap, kBin1_ok, sCall_ap, sCons_ap, sVar_ap, List.getElem?_cons_zero, List.getElem?_cons_succ, vR_some, kC1_ok, sNil_ap, kC2_ok, kCall_ok, ↓reduceIte, kBin2_ok, optR_some, kAsg_ok, gNm_ap, asgO_some, List.set_cons_succ, List.set_cons_zero, next_nx, next_ret, next_err, sIf_ap, sTst_ap, kTst_ok, kIf_f, kIf_t, sSkip_ap, sBif_ap, kBif_ok, sPar_ap, sTup_ap, kTup_ok, Nat.reduceLeDiff, kPar_ok, setAll, sRet_ap, kRet_ok, out_ret, out_nx, out_err, gTu_tup, gTu_lst, gsC_nm, gsC_tu, gsK_some, gsN, sNewL_ap, kNewL_ok, sAppend_ap, kApp0_some, kApp_ok, sAndV_ap, kAndV_ok, kAndV2_t, kAndV2_f, sOrV_ap, kOrV_ok, kOrV2_t, kOrV2_f, tru_bl, sIte_ap, kIte_t, kIte_f, sLst_ap, kLst_ok, sFor_ap, kFor_ok, sItems_ap, kItems_ok, itemsD, sNeg_ap, kNeg_ok, sSlc_ap, kS1_ok, kS2_ok, kS3_ok, sPart_ap, kPart_ok, sNoPart_ap, sOrT_ap, kOrT_f, kOrT_t, sAndT_ap, kAndT_t, kAndT_f, sNotT_ap, kNotT_ok, sNotV_ap, kNotV_ok, kNotV2_ok, sTru_ap, kTru_ok, sIsi_ap, kIsi_ok, sCallK_ap, kK1_ok, kK2_ok, and_self, sDrop_ap, kDrop_ok, sRetN_ap, sChain_ap, kCh1_ok, kCh2_ok, kCh3_t, kCh3_f, kCh4_ok, sTab_ap, kTab_ok, sAug_ap, kAug0_some, kAug1_ok, augO_some, iadd_int, isub_int, Bool.not_true, Bool.not_false, add_int, sub_int, eq_int, ne_int, lt_int, le_int, gt_int, ge_int, eq_str, ne_str, len_lst, len_tup, sRange1_ap, kRange1_ok, eq_self, decide_true, decide_false, eq_self_iff_true, pm_nil, pm_cons, sRev_ap, kRev_ok, rev_tup, rev_lst, sRaise_ap, kRaise_ok, sTry_ap, kTry_nx, kTry_ret, sTryF_ap, kTryF_nx, kAsg_err, kBin1_err, kBin2_err, kCall_err, kC1_err, kC2_err, kRet_err, kDrop_err, kIf_err, it, Option.map_some, l0, ne]
  | @pair a w ha hw =>
    have it : ∀ m : MS, isiB "tuple" m (.tup [a, w]) = some true := fun m => isi_tup
    have l0 : ∀ m : MS, lenD m [.tup [a, w]] = some (.int 2) := fun m => rfl
    have a0 : ∀ m : MS, atD m (.tup [a, w]) (.int 0) = some a := fun m => rfl
    have a1 : ∀ m : MS, atD m (.tup [a, w]) (.int 1) = some w := fun m => rfl
    have wh := fun m : MS => is_whole_ok (ms := m) (lo := 0) (hi := (xs.length : Int) - 1) ha
    cases q : wholeB a 0 ((xs.length : Int) - 1) with
    | false =>
      rw [q] at wh
      have z : sentB xs (.tup [a, w]) = false := by
        cases a with
        | int k => simp only [sentB, q, Bool.false_and]
        | _ => rfl
      rw [z]
      generalize D.tup [a, w] = Y at *
      generalize D.tup xs = X at *
      generalize ((xs.length : Int)) = N at *
      simp only [snC, runD_ap, List.map_cons, List.map_nil, List.length_cons, List.length_nil, Nat.reduceAdd, Nat.reduceSub, List.replicate, List.cons_append, List.nil_append, sSeq_ap, sAsg_ap, sBin_ap, sCst_ap, kBin1_ok, sCall_ap, sCons_ap, sVar_ap, List.getElem?_cons_zero, List.getElem?_cons_succ, vR_some, kC1_ok, sNil_ap, kC2_ok, kCall_ok, ↓reduceIte, kBin2_ok, optR_some, kAsg_ok, gNm_ap, asgO_some, List.set_cons_succ, List.set_cons_zero, next_nx, next_ret, next_err, sIf_ap, sTst_ap, kTst_ok, kIf_f, kIf_t, sSkip_ap, sBif_ap, kBif_ok, sPar_ap, sTup_ap, kTup_ok, Nat.reduceLeDiff, kPar_ok, setAll, sRet_ap, kRet_ok, out_ret, out_nx, out_err, gTu_tup, gTu_lst, gsC_nm, gsC_tu, gsK_some, gsN, sNewL_ap, kNewL_ok, sAppend_ap, kApp0_some, kApp_ok, sAndV_ap, kAndV_ok, kAndV2_t, kAndV2_f, sOrV_ap, kOrV_ok, kOrV2_t, kOrV2_f, tru_bl, sIte_ap, kIte_t, kIte_f, sLst_ap, kLst_ok, sFor_ap, kFor_ok, sItems_ap, kItems_ok, itemsD, sNeg_ap, kNeg_ok, sSlc_ap, kS1_ok, kS2_ok, kS3_ok, sPart_ap, kPart_ok, sNoPart_ap, sOrT_ap, kOrT_f, kOrT_t, sAndT_ap, kAndT_t, kAndT_f, sNotT_ap, kNotT_ok, sNotV_ap, kNotV_ok, kNotV2_ok, sTru_ap, kTru_ok, sIsi_ap, kIsi_ok, sCallK_ap, kK1_ok, kK2_ok, and_self, sDrop_ap, kDrop_ok, sRetN_ap, sChain_ap, kCh1_ok, kCh2_ok, kCh3_t, kCh3_f, kCh4_ok, sTab_ap, kTab_ok, sAug_ap, kAug0_some, kAug1_ok, augO_some, iadd_int, isub_int, Bool.not_true, Bool.not_false, add_int, sub_int, eq_int, ne_int, lt_int, le_int, gt_int, ge_int, eq_str, ne_str, len_lst, len_tup, sRange1_ap, kRange1_ok, eq_self, decide_true, decide_false, eq_self_iff_true, pm_nil, pm_cons, sRev_ap, kRev_ok, rev_tup, rev_lst, sRaise_ap, kRaise_ok, sTry_ap, kTry_nx, kTry_ret, sTryF_ap, kTryF_nx, kAsg_err, kBin1_err, kBin2_err, kCall_err, kC1_err, kC2_err, kRet_err, kDrop_err, kIf_err, it, Option.map_some, l0, a0, lx, wh]
    | true =>
      rw [q] at wh
      obtain ⟨k, rfl, k0, k1⟩ := whole_int q
      obtain ⟨i, rfl⟩ := Int.eq_ofNat_of_zero_le k0
      have hi : i < xs.length := by omega
      obtain ⟨t, c, e, hxi, tb, _⟩ := hx xs[i] (List.getElem_mem hi)
      have gi : xs[i]? = some (.tup [t, .rat c e]) := by rw [List.getElem?_eq_getElem hi, hxi]
      have z : sentB xs (.tup [.int (i : Nat), w]) = bitsB t w := by
        simp only [sentB, q, Bool.true_and, Int.toNat_natCast, gi]
      rw [z]
      have b1 : ∀ m : MS, atD m (.tup xs) (.int (i : Nat)) = some (.tup [t, .rat c e]) := fun m => by
        obtain ⟨d, e1, e2⟩ := atI_nat (xs := xs) (i := (i : Int)) (by omega) (by omega)
        show atI xs i = _
        rw [e1, ← e2]
        rw [Int.toNat_natCast]; exact gi
      have b2 : ∀ m : MS, atD m (.tup [t, .rat c e]) (.int 0) = some t := fun m => rfl
      have b3 := fun m : MS => bitsB_ok (ms := m) tb hw
      have n2 : ∀ m : MS, neD m (.int 2) (.int 2) = some (.bl false) := fun m => rfl
      generalize D.tup [t, .rat c e] = Z at *
      generalize D.tup [.int (i : Nat), w] = Y at *
      generalize D.tup xs = X at *
      generalize ((xs.length : Int)) = N at *
      generalize bitsB t w = BB at *
      simp only [snC, runD_ap, List.map_cons, List.map_nil, List.length_cons, List.length_nil, Nat.reduceAdd, Nat.reduceSub, List.replicate, List.cons_append, List.nil_append, sSeq_ap, sAsg_ap, sBin_ap, sCst_ap, kBin1_ok, sCall_ap, sCons_ap, sVar_ap, List.getElem?_cons_zero, List.getElem?_cons_succ, vR_some, kC1_ok, sNil_ap, kC2_ok, kCall_ok, ↓reduceIte, kBin2_ok, optR_some, kAsg_ok, gNm_ap, asgO_some, List.set_cons_succ, List.set_cons_zero, next_nx, next_ret, next_err, sIf_ap, sTst_ap, kTst_ok, kIf_f, kIf_t, sSkip_ap, sBif_ap, kBif_ok, sPar_ap, sTup_ap, kTup_ok, Nat.reduceLeDiff, kPar_ok, setAll, sRet_ap, kRet_ok, out_ret, out_nx, out_err, gTu_tup, gTu_lst, gsC_nm, gsC_tu, gsK_some, gsN, sNewL_ap, kNewL_ok, sAppend_ap, kApp0_some, kApp_ok, sAndV_ap, kAndV_ok, kAndV2_t, kAndV2_f, sOrV_ap, kOrV_ok, kOrV2_t, kOrV2_f, tru_bl, sIte_ap, kIte_t, kIte_f, sLst_ap, kLst_ok, sFor_ap, kFor_ok, sItems_ap, kItems_ok, itemsD, sNeg_ap, kNeg_ok, sSlc_ap, kS1_ok, kS2_ok, kS3_ok, sPart_ap, kPart_ok, sNoPart_ap, sOrT_ap, kOrT_f, kOrT_t, sAndT_ap, kAndT_t, kAndT_f, sNotT_ap, kNotT_ok, sNotV_ap, kNotV_ok, kNotV2_ok, sTru_ap, kTru_ok, sIsi_ap, kIsi_ok, sCallK_ap, kK1_ok, kK2_ok, and_self, sDrop_ap, kDrop_ok, sRetN_ap, sChain_ap, kCh1_ok, kCh2_ok, kCh3_t, kCh3_f, kCh4_ok, sTab_ap, kTab_ok, sAug_ap, kAug0_some, kAug1_ok, augO_some, iadd_int, isub_int, Bool.not_true, Bool.not_false, add_int, sub_int, eq_int, ne_int, lt_int, le_int, gt_int, ge_int, eq_str, ne_str, len_lst, len_tup, sRange1_ap, kRange1_ok, eq_self, decide_true, decide_false, eq_self_iff_true, pm_nil, pm_cons, sRev_ap, kRev_ok, rev_tup, rev_lst, sRaise_ap, kRaise_ok, sTry_ap, kTry_nx, kTry_ret, sTryF_ap, kTryF_nx, kAsg_err, kBin1_err, kBin2_err, kCall_err, kC1_err, kC2_err, kRet_err, kDrop_err, kIf_err, it, Option.map_some, l0, a0, a1, lx, wh, b1, b2, b3]
theorem sending_ok {most : Int} {xs : List D} {d : D} (hx : RcL most xs) (hm : most ≤ 8) (h1 : 1 ≤ xs.length) (h4 : xs.length ≤ 4) (h : SQ d) : F_is_sending [.tup xs, d] ms = .ok (.bl (sentB xs d)) ms := by
  have nr := fun m : MS => need_rc (ms := m) hx hm h1 h4
  have sn := fun m : MS => sent_ok (ms := m) hx h
  refine cutF_here ?_ rfl
  generalize D.tup xs = X at *
  simp only [b_is_sending, runD_ap, List.map_cons, List.map_nil, List.length_cons, List.length_nil, Nat.reduceAdd, Nat.reduceSub, List.replicate, List.cons_append, List.nil_append, sSeq_ap, sAsg_ap, sBin_ap, sCst_ap, kBin1_ok, sCall_ap, sCons_ap, sVar_ap, List.getElem?_cons_zero, List.getElem?_cons_succ, vR_some, kC1_ok, sNil_ap, kC2_ok, kCall_ok, ↓reduceIte, kBin2_ok, optR_some, kAsg_ok, gNm_ap, asgO_some, List.set_cons_succ, List.set_cons_zero, next_nx, next_ret, next_err, sIf_ap, sTst_ap, kTst_ok, kIf_f, kIf_t, sSkip_ap, sBif_ap, kBif_ok, sPar_ap, sTup_ap, kTup_ok, Nat.reduceLeDiff, kPar_ok, setAll, sRet_ap, kRet_ok, out_ret, out_nx, out_err, gTu_tup, gTu_lst, gsC_nm, gsC_tu, gsK_some, gsN, sNewL_ap, kNewL_ok, sAppend_ap, kApp0_some, kApp_ok, sAndV_ap, kAndV_ok, kAndV2_t, kAndV2_f, sOrV_ap, kOrV_ok, kOrV2_t, kOrV2_f, tru_bl, sIte_ap, kIte_t, kIte_f, sLst_ap, kLst_ok, sFor_ap, kFor_ok, sItems_ap, kItems_ok, itemsD, sNeg_ap, kNeg_ok, sSlc_ap, kS1_ok, kS2_ok, kS3_ok, sPart_ap, kPart_ok, sNoPart_ap, sOrT_ap, kOrT_f, kOrT_t, sAndT_ap, kAndT_t, kAndT_f, sNotT_ap, kNotT_ok, sNotV_ap, kNotV_ok, kNotV2_ok, sTru_ap, kTru_ok, sIsi_ap, kIsi_ok, sCallK_ap, kK1_ok, kK2_ok, and_self, sDrop_ap, kDrop_ok, sRetN_ap, sChain_ap, kCh1_ok, kCh2_ok, kCh3_t, kCh3_f, kCh4_ok, sTab_ap, kTab_ok, sAug_ap, kAug0_some, kAug1_ok, augO_some, iadd_int, isub_int, Bool.not_true, Bool.not_false, add_int, sub_int, eq_int, ne_int, lt_int, le_int, gt_int, ge_int, eq_str, ne_str, len_lst, len_tup, sRange1_ap, kRange1_ok, eq_self, decide_true, decide_false, eq_self_iff_true, pm_nil, pm_cons, sRev_ap, kRev_ok, rev_tup, rev_lst, sRaise_ap, kRaise_ok, sTry_ap, kTry_nx, kTry_ret, sTryF_ap, kTryF_nx, kAsg_err, kBin1_err, kBin2_err, kCall_err, kC1_err, kC2_err, kRet_err, kDrop_err, kIf_err, nr, sn]
end
end U

namespace L09
open PySem L2 DL U
def top (i : Nat) : Stmt := PySem.Challenge.pw_beamframes_k09_receivers.main.body.getD i (.Pass ⟨0, 0, 0, 0⟩)
abbrev s_is_integer : Stmt := top 8
noncomputable abbrev c_is_integer : Cfg := mkC {  } { N := ["thing"], gl := [("isinstance", .bi .isin), ("int", .ty "int"), ("bool", .ty "bool")] }
theorem e_is_integer : cpS (c_is_integer) 12 12 (defScope s_is_integer) (defBody s_is_integer) = some (b_is_integer) := by kernel_rfl
theorem z_is_integer : FnScope ["thing"] ["thing"] (defScope s_is_integer) := ⟨rfl, rfl, rfl, by decide +kernel, rfl, by decide +kernel, by decide +kernel⟩
abbrev s_is_whole : Stmt := top 9
noncomputable abbrev c_is_whole : Cfg := mkC {  } { N := ["thing", "least", "most"], gl := [("is_integer", .fn F_is_integer 1 [])] }
theorem e_is_whole : cpS (c_is_whole) 12 12 (defScope s_is_whole) (defBody s_is_whole) = some (b_is_whole) := by kernel_rfl
theorem z_is_whole : FnScope ["thing", "least", "most"] ["thing", "least", "most"] (defScope s_is_whole) := ⟨rfl, rfl, rfl, by decide +kernel, rfl, by decide +kernel, by decide +kernel⟩
abbrev s_shared_by : Stmt := top 10
noncomputable abbrev c_shared_by : Cfg := mkC {  } { N := ["one", "other"], gl := [] }
theorem e_shared_by : cpS (c_shared_by) 12 12 (defScope s_shared_by) (defBody s_shared_by) = some (b_shared_by) := by kernel_rfl
theorem z_shared_by : FnScope ["one", "other"] ["one", "other"] (defScope s_shared_by) := ⟨rfl, rfl, rfl, by decide +kernel, rfl, by decide +kernel, by decide +kernel⟩
abbrev s_Ratio_init : Stmt := clsAt (top 12) 0
noncomputable abbrev c_Ratio_init : Cfg := mkC {  } { N := ["self", "num", "den", "shared"], gl := [("is_integer", .fn F_is_integer 1 []), ("BadRatio", .er 0 false []), ("shared_by", .fn F_shared_by 2 []), ("Ratio", .cl { c := 0, rat := true, fs := ["own_num", "own_den"] })], lend := ["self"] }
theorem e_Ratio_init : cpS (c_Ratio_init) 12 12 (defScope s_Ratio_init) (defBody s_Ratio_init) = some (b_Ratio_init) := by kernel_rfl
theorem z_Ratio_init : FnScope ["self", "num", "den", "shared"] ["self", "num", "den"] (defScope s_Ratio_init) := ⟨rfl, rfl, rfl, by decide +kernel, rfl, by decide +kernel, by decide +kernel⟩
abbrev s_Ratio_eq : Stmt := clsAt (top 12) 6
noncomputable abbrev c_Ratio_eq : Cfg := mkC {  } { N := ["self", "other"], gl := [("isinstance", .bi .isin), ("Ratio", .cl { c := 0, rat := true, fs := ["own_num", "own_den"], isi := true })] }
theorem e_Ratio_eq : cpS (c_Ratio_eq) 12 12 (defScope s_Ratio_eq) (defBody s_Ratio_eq) = some (b_Ratio_eq) := by kernel_rfl
theorem z_Ratio_eq : FnScope ["self", "other"] ["self", "other"] (defScope s_Ratio_eq) := ⟨rfl, rfl, rfl, by decide +kernel, rfl, by decide +kernel, by decide +kernel⟩
abbrev s_Ratio_lt : Stmt := clsAt (top 12) 7
noncomputable abbrev c_Ratio_lt : Cfg := mkC {  } { N := ["self", "other"], gl := [("isinstance", .bi .isin), ("Ratio", .cl { c := 0, rat := true, fs := ["own_num", "own_den"], isi := true })] }
theorem e_Ratio_lt : cpS (c_Ratio_lt) 12 12 (defScope s_Ratio_lt) (defBody s_Ratio_lt) = some (b_Ratio_lt) := by kernel_rfl
theorem z_Ratio_lt : FnScope ["self", "other"] ["self", "other"] (defScope s_Ratio_lt) := ⟨rfl, rfl, rfl, by decide +kernel, rfl, by decide +kernel, by decide +kernel⟩
abbrev s_Ratio_le : Stmt := clsAt (top 12) 8
noncomputable abbrev c_Ratio_le : Cfg := mkC {  } { N := ["self", "other"], gl := [("isinstance", .bi .isin), ("Ratio", .cl { c := 0, rat := true, fs := ["own_num", "own_den"], isi := true })] }
theorem e_Ratio_le : cpS (c_Ratio_le) 12 12 (defScope s_Ratio_le) (defBody s_Ratio_le) = some (b_Ratio_le) := by kernel_rfl
theorem z_Ratio_le : FnScope ["self", "other"] ["self", "other"] (defScope s_Ratio_le) := ⟨rfl, rfl, rfl, by decide +kernel, rfl, by decide +kernel, by decide +kernel⟩
abbrev s_Ratio_gt : Stmt := clsAt (top 12) 9
noncomputable abbrev c_Ratio_gt : Cfg := mkC {  } { N := ["self", "other"], gl := [("isinstance", .bi .isin), ("Ratio", .cl { c := 0, rat := true, fs := ["own_num", "own_den"], isi := true })] }
theorem e_Ratio_gt : cpS (c_Ratio_gt) 12 12 (defScope s_Ratio_gt) (defBody s_Ratio_gt) = some (b_Ratio_gt) := by kernel_rfl
theorem z_Ratio_gt : FnScope ["self", "other"] ["self", "other"] (defScope s_Ratio_gt) := ⟨rfl, rfl, rfl, by decide +kernel, rfl, by decide +kernel, by decide +kernel⟩
abbrev s_Ratio_ge : Stmt := clsAt (top 12) 10
noncomputable abbrev c_Ratio_ge : Cfg := mkC {  } { N := ["self", "other"], gl := [("isinstance", .bi .isin), ("Ratio", .cl { c := 0, rat := true, fs := ["own_num", "own_den"], isi := true })] }
theorem e_Ratio_ge : cpS (c_Ratio_ge) 12 12 (defScope s_Ratio_ge) (defBody s_Ratio_ge) = some (b_Ratio_ge) := by kernel_rfl
theorem z_Ratio_ge : FnScope ["self", "other"] ["self", "other"] (defScope s_Ratio_ge) := ⟨rfl, rfl, rfl, by decide +kernel, rfl, by decide +kernel, by decide +kernel⟩
abbrev s_is_duration : Stmt := top 18
noncomputable abbrev c_is_duration : Cfg := mkC {  } { N := ["thing"], gl := [("is_whole", .fn F_is_whole 3 []), ("LONGEST", .val (.int 99999))] }
theorem e_is_duration : cpS (c_is_duration) 12 12 (defScope s_is_duration) (defBody s_is_duration) = some (b_is_duration) := by kernel_rfl
theorem z_is_duration : FnScope ["thing"] ["thing"] (defScope s_is_duration) := ⟨rfl, rfl, rfl, by decide +kernel, rfl, by decide +kernel, by decide +kernel⟩
abbrev s_are_durations : Stmt := top 19
noncomputable abbrev c_are_durations : Cfg := mkC {  } { N := ["thing", "sizes", "one"], gl := [("isinstance", .bi .isin), ("tuple", .ty "tuple"), ("len", .bi .len), ("all", .bi .all), ("is_duration", .fn F_is_duration 1 [])] }
theorem e_are_durations : cpS (c_are_durations) 12 12 (defScope s_are_durations) (defBody s_are_durations) = some (b_are_durations) := by kernel_rfl
theorem z_are_durations : FnScope ["thing", "sizes", "one"] ["thing", "sizes"] (defScope s_are_durations) := ⟨rfl, rfl, rfl, by decide +kernel, rfl, by decide +kernel, by decide +kernel⟩
abbrev s_wrong_part : Stmt := top 20
noncomputable abbrev c_wrong_part : Cfg := mkC {  } { N := ["table", "name", "unit", "bits", "tests", "header", "zero", "one", "stop", "wrong", "part", "is_right"], gl := [("HALVES", .val (.str "halves")), ("is_duration", .fn F_is_duration 1 []), ("are_durations", .fn F_are_durations 2 []), ("is_whole", .fn F_is_whole 3 []), ("MOST_BITS", .val (.int 8))], mt := ["tests"] }
theorem e_wrong_part : cpS (c_wrong_part) 12 12 (defScope s_wrong_part) (defBody s_wrong_part) = some (b_wrong_part) := by kernel_rfl
theorem z_wrong_part : FnScope ["table", "name", "unit", "bits", "tests", "header", "zero", "one", "stop", "wrong", "part", "is_right"] ["table"] (defScope s_wrong_part) := ⟨rfl, rfl, rfl, by decide +kernel, rfl, by decide +kernel, by decide +kernel⟩
abbrev s_need_table : Stmt := top 21
noncomputable abbrev c_need_table : Cfg := mkC {  } { N := ["thing", "part"], gl := [("isinstance", .bi .isin), ("tuple", .ty "tuple"), ("len", .bi .len), ("str", .ty "str"), ("BadTable", .er 1 true []), ("HALVES", .val (.str "halves")), ("PAIRS", .val (.str "pairs")), ("wrong_part", .fn F_wrong_part 1 [])] }
theorem e_need_table : cpS (c_need_table) 12 12 (defScope s_need_table) (defBody s_need_table) = some (b_need_table) := by kernel_rfl
theorem z_need_table : FnScope ["thing", "part"] ["thing"] (defScope s_need_table) := ⟨rfl, rfl, rfl, by decide +kernel, rfl, by decide +kernel, by decide +kernel⟩
abbrev s_is_table : Stmt := top 22
noncomputable abbrev c_is_table : Cfg := mkC {  } { N := ["thing"], gl := [("need_table", .fn F_need_table 1 []), ("BadTable", .er 1 true [(1, true)])] }
theorem e_is_table : cpS (c_is_table) 12 12 (defScope s_is_table) (defBody s_is_table) = some (b_is_table) := by kernel_rfl
theorem z_is_table : FnScope ["thing"] ["thing"] (defScope s_is_table) := ⟨rfl, rfl, rfl, by decide +kernel, rfl, by decide +kernel, by decide +kernel⟩
abbrev s_bits_of : Stmt := top 23
noncomputable abbrev c_bits_of : Cfg := mkC {  } { N := ["table"], gl := [] }
theorem e_bits_of : cpS (c_bits_of) 12 12 (defScope s_bits_of) (defBody s_bits_of) = some (b_bits_of) := by kernel_rfl
theorem z_bits_of : FnScope ["table"] ["table"] (defScope s_bits_of) := ⟨rfl, rfl, rfl, by decide +kernel, rfl, by decide +kernel, by decide +kernel⟩
abbrev s_is_bits : Stmt := top 24
noncomputable abbrev c_is_bits : Cfg := mkC {  } { N := ["table", "thing", "bit"], gl := [("isinstance", .bi .isin), ("tuple", .ty "tuple"), ("len", .bi .len), ("bits_of", .fn F_bits_of 1 []), ("all", .bi .all), ("is_whole", .fn F_is_whole 3 [])] }
theorem e_is_bits : cpS (c_is_bits) 12 12 (defScope s_is_bits) (defBody s_is_bits) = some (b_is_bits) := by kernel_rfl
theorem z_is_bits : FnScope ["table", "thing", "bit"] ["table", "thing"] (defScope s_is_bits) := ⟨rfl, rfl, rfl, by decide +kernel, rfl, by decide +kernel, by decide +kernel⟩
abbrev s_is_tolerance : Stmt := top 27
noncomputable abbrev c_is_tolerance : Cfg := mkC {  } { N := ["thing"], gl := [("isinstance", .bi .isin), ("Ratio", .cl { c := 0, rat := true, nI := 3, ini := [(1, F_Ratio_init, [.int 1])], cm := true, isi := true })] }
theorem e_is_tolerance : cpS (c_is_tolerance) 12 12 (defScope s_is_tolerance) (defBody s_is_tolerance) = some (b_is_tolerance) := by kernel_rfl
theorem z_is_tolerance : FnScope ["thing"] ["thing"] (defScope s_is_tolerance) := ⟨rfl, rfl, rfl, by decide +kernel, rfl, by decide +kernel, by decide +kernel⟩
abbrev s_need_receiver : Stmt := top 28
noncomputable abbrev c_need_receiver : Cfg := mkC {  } { N := ["thing", "index", "pair"], gl := [("isinstance", .bi .isin), ("tuple", .ty "tuple"), ("len", .bi .len), ("MOST_TABLES", .val (.int 4)), ("BadReceiver", .er 4 false []), ("enumerate", .bi .enum), ("is_table", .fn F_is_table 1 []), ("is_tolerance", .fn F_is_tolerance 1 [])] }
theorem e_need_receiver : cpS (c_need_receiver) 12 12 (defScope s_need_receiver) (defBody s_need_receiver) = some (b_need_receiver) := by kernel_rfl
theorem z_need_receiver : FnScope ["thing", "index", "pair"] ["thing"] (defScope s_need_receiver) := ⟨rfl, rfl, rfl, by decide +kernel, rfl, by decide +kernel, by decide +kernel⟩
abbrev s_is_sent_by : Stmt := top 29
noncomputable abbrev c_is_sent_by : Cfg := mkC {  } { N := ["receiver", "thing"], gl := [("isinstance", .bi .isin), ("tuple", .ty "tuple"), ("len", .bi .len), ("is_whole", .fn F_is_whole 3 []), ("is_bits", .fn F_is_bits 2 [])] }
theorem e_is_sent_by : cpS (c_is_sent_by) 12 12 (defScope s_is_sent_by) (defBody s_is_sent_by) = some (b_is_sent_by) := by kernel_rfl
theorem z_is_sent_by : FnScope ["receiver", "thing"] ["receiver", "thing"] (defScope s_is_sent_by) := ⟨rfl, rfl, rfl, by decide +kernel, rfl, by decide +kernel, by decide +kernel⟩
abbrev s_is_sending : Stmt := top 30
noncomputable abbrev c_is_sending : Cfg := mkC {  } { N := ["receiver", "thing"], gl := [("is_sent_by", .fn F_is_sent_by 2 []), ("need_receiver", .fn F_need_receiver 1 [⟨0, ["thing"], [0]⟩])] }
theorem e_is_sending : cpS (c_is_sending) 12 12 (defScope s_is_sending) (defBody s_is_sending) = some (b_is_sending) := by kernel_rfl
theorem z_is_sending : FnScope ["receiver", "thing"] ["receiver", "thing"] (defScope s_is_sending) := ⟨rfl, rfl, rfl, by decide +kernel, rfl, by decide +kernel, by decide +kernel⟩
abbrev s_law_begin : Stmt := top 32
noncomputable abbrev c_law_begin (sx : List Int) : Cfg := mkC { mu := true, sx := some sx } { N := ["script"], gl := [] }
theorem e_law_begin (sx : List Int) : cpS (c_law_begin sx) 12 12 (defScope s_law_begin) (defBody s_law_begin) = some (b_law_begin sx) := by kernel_rfl
theorem z_law_begin : FnScope ["script"] ["script"] (defScope s_law_begin) := ⟨rfl, rfl, rfl, by decide +kernel, rfl, by decide +kernel, by decide +kernel⟩
abbrev s_law_next : Stmt := top 33
noncomputable abbrev c_law_next : Cfg := mkC { dst := ["draw"] } { N := ["draw", "many", "cell", "cells", "number", "k"], gl := [("len", .bi .len)], lend := ["draw"] }
theorem e_law_next : cpS (c_law_next) 12 12 (defScope s_law_next) (defBody s_law_next) = some (b_law_next) := by kernel_rfl
theorem z_law_next : FnScope ["draw", "many", "cell", "cells", "number", "k"] ["draw", "many"] (defScope s_law_next) := ⟨rfl, rfl, rfl, by decide +kernel, rfl, by decide +kernel, by decide +kernel⟩
abbrev s_law_pick : Stmt := top 34
noncomputable abbrev c_law_pick : Cfg := mkC {  } { N := ["draw", "some"], gl := [("_law_next", .fn F_law_next 2 []), ("len", .bi .len)], lend := ["draw"] }
theorem e_law_pick : cpS (c_law_pick) 12 12 (defScope s_law_pick) (defBody s_law_pick) = some (b_law_pick) := by kernel_rfl
theorem z_law_pick : FnScope ["draw", "some"] ["draw", "some"] (defScope s_law_pick) := ⟨rfl, rfl, rfl, by decide +kernel, rfl, by decide +kernel, by decide +kernel⟩
abbrev s_law_size : Stmt := top 35
noncomputable abbrev c_law_size : Cfg := mkC {  } { N := ["draw", "low", "high"], gl := [("_law_next", .fn F_law_next 2 []), ("_law_pick", .fn F_law_pick 2 [])], lend := ["draw"] }
theorem e_law_size : cpS (c_law_size) 12 12 (defScope s_law_size) (defBody s_law_size) = some (b_law_size) := by kernel_rfl
theorem z_law_size : FnScope ["draw", "low", "high"] ["draw"] (defScope s_law_size) := ⟨rfl, rfl, rfl, by decide +kernel, rfl, by decide +kernel, by decide +kernel⟩
abbrev s_law_table : Stmt := top 36
noncomputable abbrev c_law_table : Cfg := mkC {  } { N := ["draw", "most", "bits", "header", "k", "zero", "one"], gl := [("_law_next", .fn F_law_next 2 []), ("_law_size", .fn F_law_size 1 []), ("tuple", .bi .tuple), ("range", .bi .range), ("int", .bi .int)], lend := ["draw"] }
theorem e_law_table : cpS (c_law_table) 12 12 (defScope s_law_table) (defBody s_law_table) = some (b_law_table) := by kernel_rfl
theorem z_law_table : FnScope ["draw", "most", "bits", "header", "k", "zero", "one"] ["draw", "most"] (defScope s_law_table) := ⟨rfl, rfl, rfl, by decide +kernel, rfl, by decide +kernel, by decide +kernel⟩
abbrev s_law_like : Stmt := top 37
noncomputable abbrev c_law_like : Cfg := mkC {  } { N := ["draw", "table", "way", "unit", "name", "header", "zero", "one", "stop", "bits"], gl := [("_law_next", .fn F_law_next 2 [])], lend := ["draw"] }
theorem e_law_like : cpS (c_law_like) 12 12 (defScope s_law_like) (defBody s_law_like) = some (b_law_like) := by kernel_rfl
theorem z_law_like : FnScope ["draw", "table", "way", "unit", "name", "header", "zero", "one", "stop", "bits"] ["draw", "table"] (defScope s_law_like) := ⟨rfl, rfl, rfl, by decide +kernel, rfl, by decide +kernel, by decide +kernel⟩
abbrev s_law_receiver : Stmt := top 38
noncomputable abbrev c_law_receiver : Cfg := mkC {  } { N := ["draw", "many", "most", "found", "k", "table", "above"], gl := [("range", .bi .range), ("_law_next", .fn F_law_next 2 []), ("_law_table", .fn F_law_table 2 []), ("_law_like", .fn F_law_like 2 []), ("Ratio", .cl { c := 0, rat := true, nI := 3, ini := [(2, F_Ratio_init, [])], cm := true })], lend := ["draw"] }
theorem e_law_receiver : cpS (c_law_receiver) 12 12 (defScope s_law_receiver) (defBody s_law_receiver) = some (b_law_receiver) := by kernel_rfl
theorem z_law_receiver : FnScope ["draw", "many", "most", "found", "k", "table", "above"] ["draw", "many", "most"] (defScope s_law_receiver) := ⟨rfl, rfl, rfl, by decide +kernel, rfl, by decide +kernel, by decide +kernel⟩
abbrev s_law_words : Stmt := top 39
noncomputable abbrev c_law_words : Cfg := mkC {  } { N := ["many", "found", "k", "word"], gl := [("range", .bi .range)] }
theorem e_law_words : cpS (c_law_words) 12 12 (defScope s_law_words) (defBody s_law_words) = some (b_law_words) := by kernel_rfl
theorem z_law_words : FnScope ["many", "found", "k", "word"] ["many"] (defScope s_law_words) := ⟨rfl, rfl, rfl, by decide +kernel, rfl, by decide +kernel, by decide +kernel⟩
/-! _law_said -/
noncomputable def b_law_said : SS :=
    (sSeq (sAsg (sLst (sCons (sCst (.str "begun")) sNil)) (gNm 1))
    (sSeq (sTryF (fun k => List.lookup k [(0, false), (1, false), (4, true)]) 4 2 1 true
    (sAsg (sIte (sTst (sBin eqX (sCall F_need_receiver 1 (sCons (sVar 0) sNil)) (sVar 0))) (sLst sNil) (sLst (sCons (sCst (.str "another")) sNil))) (gNm 1)))
    (sRet (sVar 1))))
noncomputable def F_law_said : SF := cutF (runD 3 (b_law_said))
abbrev s_law_said : Stmt := top 41
noncomputable abbrev c_law_said : Cfg := mkC {  } { N := ["value", "found", "e"], gl := [("need_receiver", .fn F_need_receiver 1 [⟨0, ["thing"], [0]⟩]), ("BadReceiver", .er 4 false [(0, false), (1, false), (4, true)]), ("Ratio", .cl { c := 0, rat := true, cm := true })] }
theorem e_law_said : cpS (c_law_said) 12 12 (defScope s_law_said) (defBody s_law_said) = some (b_law_said) := by kernel_rfl
theorem z_law_said : FnScope ["value", "found", "e"] ["value"] (defScope s_law_said) := ⟨rfl, rfl, rfl, by decide +kernel, rfl, by decide +kernel, by decide +kernel⟩
/-! _law_odd_pair -/
noncomputable def b_law_odd_pair : SS :=
    (sSeq (sAsg (sVar 1) (gTu 2 (gsCons (gNm 2) (gsCons (gNm 3) gsNil))))
    (sSeq (sAsg (sLst (sCons (sCst .non) (sCons (sVar 2) (sCons (sTup (sCons (sVar 2) sNil)) (sCons (sLst (sCons (sVar 2) (sCons (sVar 3) sNil))) (sCons (sTup (sCons (sVar 2) (sCons (sVar 3) (sCons (sVar 3) sNil)))) (sCons (sTup (sCons (sVar 3) (sCons (sVar 2) sNil))) (sCons (sTup (sCons (sVar 2) (sCons (sCst (.int 0)) sNil))) (sCons (sTup (sCons (sVar 2) (sCons (sCst (.str "1/4")) sNil))) sNil))))))))) (gNm 4))
    (sSeq (sAsg (sBin addD (sVar 4) (sLst (sCons (sTup (sCons (sVar 2) (sCons (cutE (sMake true 0 F_Ratio_init 3 [.int 1] (sCons (sCst (.int 1)) sNil))) sNil))) (sCons (sTup (sCons (sVar 2) (sCons (cutE (sMake true 0 F_Ratio_init 3 [] (sCons (sCst (.int 9)) (sCons (sCst (.int 8)) sNil)))) sNil))) (sCons (sTup (sCons (sVar 2) (sCons (sCst .non) sNil))) (sCons (sTup (sCons (sBif listD (sCons (sVar 2) sNil)) (sCons (sVar 3) sNil))) (sCons (sTup (sCons (sSlc (sVar 2) sNoPart (sPart (sNeg (sCst (.int 1))))) (sCons (sVar 3) sNil))) sNil))))))) (gNm 4))
    (sRet (sCall F_law_pick 2 (sCons (sVar 0) (sCons (sBin addD (sVar 4) (sLst (sCons (sTup (sCons (sTup sNil) (sCons (sVar 3) sNil))) (sCons (sTup (sCons (sBin addD (sSlc (sVar 2) sNoPart (sPart (sNeg (sCst (.int 1))))) (sTup (sCons (sCst (.int 9)) sNil))) (sCons (sVar 3) sNil))) (sCons (sTup (sCons (sCst .non) (sCons (sVar 3) sNil))) (sCons (sDic0 false) (sCons (sTup (sCons (sVar 2) (sCons (sCst (.bl true)) sNil))) (sCons (sCst (.int 5)) (sCons (sTup sNil) sNil))))))))) sNil)))))))
noncomputable def F_law_odd_pair : SF := cutF (runD 5 (b_law_odd_pair))
abbrev s_law_odd_pair : Stmt := top 42
noncomputable abbrev c_law_odd_pair : Cfg := mkC {  } { N := ["draw", "pair", "table", "share", "some"], gl := [("list", .bi .list), ("_law_pick", .fn F_law_pick 2 []), ("Ratio", .cl { c := 0, rat := true, nI := 3, ini := [(1, F_Ratio_init, [.int 1]), (2, F_Ratio_init, [])] })], lend := ["draw"] }
theorem e_law_odd_pair : cpS (c_law_odd_pair) 12 12 (defScope s_law_odd_pair) (defBody s_law_odd_pair) = some (b_law_odd_pair) := by kernel_rfl
theorem z_law_odd_pair : FnScope ["draw", "pair", "table", "share", "some"] ["draw", "pair"] (defScope s_law_odd_pair) := ⟨rfl, rfl, rfl, by decide +kernel, rfl, by decide +kernel, by decide +kernel⟩
/-! _law_sendings_right -/
noncomputable def b_law_sendings_right : SS :=
    (sSeq (sAsg (sCall F_law_next 2 (sCons (sVar 0) (sCons (sBif lenD (sCons (sVar 1) sNil)) sNil))) (gNm 2))
    (sSeq (sAsg (sCall F_law_pick 2 (sCons (sVar 0) (sCons (sCall F_law_words 1 (sCons (sBin atD (sBin atD (sBin atD (sVar 1) (sVar 2)) (sCst (.int 0))) (sNeg (sCst (.int 1)))) sNil)) sNil))) (gNm 3))
    (sSeq (sIf (sOrT (sTst (sBin isnD (sCall F_is_sending 2 (sCons (sVar 1) (sCons (sTup (sCons (sVar 2) (sCons (sVar 3) sNil))) sNil))) (sCst (.bl true)))) (sTst (sBin isnD (sCallK F_is_sending ⟨0, ["thing", "receiver"], [1, 0]⟩ sNil (sCons (sTup (sCons (sVar 2) (sCons (sVar 3) sNil))) (sCons (sVar 1) sNil))) (sCst (.bl true)))))
    (sRet (sCst (.bl false)))
    sSkip)
    (sSeq (sAsg (sLst (sCons (sTup (sCons (sBif lenD (sCons (sVar 1) sNil)) (sCons (sVar 3) sNil))) (sCons (sTup (sCons (sNeg (sCst (.int 1))) (sCons (sVar 3) sNil))) (sCons (sTup (sCons (sCst .non) (sCons (sVar 3) sNil))) (sCons (sTup (sCons (sCst (.bl true)) (sCons (sVar 3) sNil))) (sCons (sTup (sCons (sVar 2) (sCons (sBin addD (sVar 3) (sTup (sCons (sCst (.int 0)) sNil))) sNil))) (sCons (sTup (sCons (sVar 2) (sCons (sBif listD (sCons (sVar 3) sNil)) sNil))) (sCons (sTup (sCons (sVar 2) sNil)) sNil)))))))) (gNm 4))
    (sSeq (sAsg (sBin addD (sVar 4) (sLst (sCons (sTup (sCons (sVar 2) (sCons (sSlc (sVar 3) sNoPart (sPart (sNeg (sCst (.int 1))))) sNil))) (sCons (sTup (sCons (sVar 2) (sCons (sBin addD (sSlc (sVar 3) sNoPart (sPart (sNeg (sCst (.int 1))))) (sTup (sCons (sCst (.int 2)) sNil))) sNil))) (sCons (sTup (sCons (sVar 2) (sCons (sVar 3) (sCons (sCst (.int 0)) sNil)))) (sCons (sLst (sCons (sVar 2) (sCons (sVar 3) sNil))) (sCons (sVar 3) (sCons (sCst .non) (sCons (sVar 2) (sCons (sTup (sCons (sVar 3) (sCons (sVar 2) sNil))) sNil)))))))))) (gNm 4))
    (sSeq (sAsg (sBin addD (sVar 4) (sLst (sCons (sTup (sCons (sVar 2) (sCons (sBin addD (sSlc (sVar 3) sNoPart (sPart (sNeg (sCst (.int 1))))) (sTup (sCons (sCst (.bl true)) sNil))) sNil))) (sCons (sTup (sCons (sVar 2) (sCons (sCst .non) sNil))) (sCons (sTup (sCons (sCst (.str "0")) (sCons (sVar 3) sNil))) (sCons (sDic0 false) sNil)))))) (gNm 5))
    (sRet (sBin eqD (sLc (sItems (sVar 5)) [6] (gNm 6) (sTst (sBin isnD (sCall F_is_sending 2 (sCons (sVar 1) (sCons (sVar 6) sNil))) (sCst (.bl false)))) (sVar 6)) (sLst sNil)))))))))
noncomputable def F_law_sendings_right : SF := cutF (runD 7 (b_law_sendings_right))
abbrev s_law_sendings_right : Stmt := top 43
noncomputable abbrev c_law_sendings_right : Cfg := mkC {  } { N := ["draw", "hearers", "at", "word", "some", "odd", "one"], gl := [("_law_next", .fn F_law_next 2 []), ("len", .bi .len), ("_law_pick", .fn F_law_pick 2 []), ("_law_words", .fn F_law_words 1 []), ("is_sending", .fn F_is_sending 2 [⟨0, ["thing", "receiver"], [1, 0]⟩]), ("list", .bi .list)], lend := ["draw"] }
theorem e_law_sendings_right : cpS (c_law_sendings_right) 12 12 (defScope s_law_sendings_right) (defBody s_law_sendings_right) = some (b_law_sendings_right) := by kernel_rfl
theorem z_law_sendings_right : FnScope ["draw", "hearers", "at", "word", "some", "odd", "one"] ["draw", "hearers"] (defScope s_law_sendings_right) := ⟨rfl, rfl, rfl, by decide +kernel, rfl, by decide +kernel, by decide +kernel⟩
/-! law -/
noncomputable def b_law (sx : List Int) : SS :=
    (sSeq (sAsg (sCall (F_law_begin sx) 1 (sCons (sVar 0) sNil)) (gNm 1))
    (sSeq (sFor (sRange1 (sCons (sCst (.int 5)) sNil)) (gNm 2)
    (sSeq (sAsg (sCall F_law_receiver 3 (sCons (sVar 1) (sCons (sCst (.int 4)) (sCons (sCst (.int 5)) sNil)))) (gNm 3))
    (sSeq (sIf (sOrT (sTst (sBin neX (sCall F_law_said 1 (sCons (sVar 3) sNil)) (sLst sNil))) (sTst (sBin neX (sCallK F_need_receiver ⟨0, ["thing"], [0]⟩ sNil (sCons (sVar 3) sNil)) (sVar 3))))
    (sRet (sCst (.bl false)))
    sSkip)
    (sSeq (sPar [4, 5] (sCons (sCall F_law_next 2 (sCons (sVar 1) (sCons (sBif lenD (sCons (sVar 3) sNil)) sNil))) (sCons (sCall F_law_next 2 (sCons (sVar 1) (sCons (sBif lenD (sCons (sVar 3) sNil)) sNil))) sNil)))
    (sSeq (sAsg (sCall F_law_odd_pair 2 (sCons (sVar 1) (sCons (sBin atD (sVar 3) (sVar 4)) sNil))) (gNm 6))
    (sSeq (sAsg (sBin addD (sBin addD (sSlc (sVar 3) sNoPart (sPart (sVar 4))) (sTup (sCons (sVar 6) sNil))) (sSlc (sVar 3) (sPart (sBin addD (sVar 4) (sCst (.int 1)))) sNoPart)) (gNm 7))
    (sSeq (sIf (sTst (sBin neX (sCall F_law_said 1 (sCons (sVar 7) sNil)) (sLst (sCons (sVar 4) sNil))))
    (sRet (sCst (.bl false)))
    sSkip)
    (sSeq (sAsg (sBin addD (sBin addD (sSlc (sVar 7) sNoPart (sPart (sVar 5))) (sTup (sCons (sCst .non) sNil))) (sSlc (sVar 7) (sPart (sBin addD (sVar 5) (sCst (.int 1)))) sNoPart)) (gNm 7))
    (sSeq (sIf (sTst (sBin neX (sCall F_law_said 1 (sCons (sVar 7) sNil)) (sLst (sCons (sIte (sTst (sBin ltX (sVar 5) (sVar 4))) (sVar 5) (sVar 4)) sNil))))
    (sRet (sCst (.bl false)))
    sSkip)
    (sSeq (sFor (sItems (sTup (sCons (sTup sNil) (sCons (sCst .non) (sCons (sBif listD (sCons (sVar 3) sNil)) (sCons (sBin atD (sVar 3) (sCst (.int 0))) (sCons (sBin mulD (sSlc (sVar 3) sNoPart (sPart (sCst (.int 1)))) (sCst (.int 5))) (sCons (sDic0 false) (sCons (sCst (.str "receiver")) (sCons (sCst (.int 5)) (sCons (sBin mulD (sTup (sCons (sCst .non) sNil)) (sCst (.int 5))) sNil))))))))))) (gNm 6)
    (sSeq (sAsg (sIte (sTst (sBin eqX (sVar 6) (sBin atD (sVar 3) (sCst (.int 0))))) (sLst (sCons (sCst (.int 0)) sNil)) (sLst (sCons (sCst .non) sNil))) (gNm 8))
    (sIf (sTst (sBin neX (sCall F_law_said 1 (sCons (sVar 6) sNil)) (sVar 8)))
    (sRet (sCst (.bl false)))
    sSkip)))
    (sIf (sNotT (sTru (sCall F_law_sendings_right 2 (sCons (sVar 1) (sCons (sVar 3) sNil)))))
    (sRet (sCst (.bl false)))
    sSkip)))))))))))
    (sRet (sCst (.bl true)))))
noncomputable def F_law (sx : List Int) : SF := cutF (runD 9 (b_law sx))
abbrev s_law : Stmt := top 44
noncomputable abbrev c_law (sx : List Int) : Cfg := mkC { sx := some sx } { N := ["script", "draw", "turn", "hearers", "at", "other", "odd", "spoiled", "due"], gl := [("_law_begin", .fn (F_law_begin sx) 1 []), ("range", .bi .range), ("_law_receiver", .fn F_law_receiver 3 []), ("_law_said", .fn F_law_said 1 []), ("need_receiver", .fn F_need_receiver 1 [⟨0, ["thing"], [0]⟩]), ("_law_next", .fn F_law_next 2 []), ("len", .bi .len), ("_law_odd_pair", .fn F_law_odd_pair 2 []), ("list", .bi .list), ("_law_sendings_right", .fn F_law_sendings_right 2 []), ("Ratio", .cl { c := 0, rat := true, cm := true })], lend := ["draw"] }
theorem e_law (sx : List Int) : cpS (c_law sx) 12 12 (defScope s_law) (defBody s_law) = some (b_law sx) := by kernel_rfl
theorem z_law : FnScope ["script", "draw", "turn", "hearers", "at", "other", "odd", "spoiled", "due"] ["script"] (defScope s_law) := ⟨rfl, rfl, rfl, by decide +kernel, rfl, by decide +kernel, by decide +kernel⟩
abbrev s_BadRatio : Stmt := clsInit (top 2)
theorem z_BadRatio : FnScope ["self", "given"] ["self", "given"] (defScope s_BadRatio) := ⟨rfl, rfl, rfl, by decide +kernel, rfl, by decide +kernel, by decide +kernel⟩
abbrev s_BadTable : Stmt := clsInit (top 3)
theorem z_BadTable : FnScope ["self", "part"] ["self", "part"] (defScope s_BadTable) := ⟨rfl, rfl, rfl, by decide +kernel, rfl, by decide +kernel, by decide +kernel⟩
abbrev s_BadReceiver : Stmt := clsInit (top 4)
theorem z_BadReceiver : FnScope ["self", "place"] ["self", "place"] (defScope s_BadReceiver) := ⟨rfl, rfl, rfl, by decide +kernel, rfl, by decide +kernel, by decide +kernel⟩
structure Facts (G : Gx) (w : World) (mg : Str → Option Value) : Prop where
  ec : ∀ c, G.EC c = He.ga G.K (erN c)
  fe : FeC G.K (He.ga G.K "FrameError")
  mfe : mg "FrameError" = some (.ref (He.ga G.K "FrameError"))
  i_BadRatio : ∃ fd, Fun G.K "__init__" "BadRatio.__init__" s_BadRatio (He.ma G.K (He.ga G.K "BadRatio") "__init__") fd
  o_BadRatio : OexI G.K "BadRatio" "given"
  m_BadRatio : mg "BadRatio" = some (.ref (He.ga G.K "BadRatio"))
  i_BadTable : ∃ fd, Fun G.K "__init__" "BadTable.__init__" s_BadTable (He.ma G.K (He.ga G.K "BadTable") "__init__") fd
  o_BadTable : OexI G.K "BadTable" "part"
  m_BadTable : mg "BadTable" = some (.ref (He.ga G.K "BadTable"))
  i_BadReceiver : ∃ fd, Fun G.K "__init__" "BadReceiver.__init__" s_BadReceiver (He.ma G.K (He.ga G.K "BadReceiver") "__init__") fd
  o_BadReceiver : OexI G.K "BadReceiver" "place"
  m_BadReceiver : mg "BadReceiver" = some (.ref (He.ga G.K "BadReceiver"))
  x_BadRatio_BadRatio : exmB G.K "BadRatio" "BadRatio" true = true
  x_BadTable_BadRatio : exmB G.K "BadTable" "BadRatio" false = true
  x_BadReceiver_BadRatio : exmB G.K "BadReceiver" "BadRatio" false = true
  x_BadRatio_BadTable : exmB G.K "BadRatio" "BadTable" false = true
  x_BadTable_BadTable : exmB G.K "BadTable" "BadTable" true = true
  x_BadReceiver_BadTable : exmB G.K "BadReceiver" "BadTable" false = true
  x_BadRatio_BadReceiver : exmB G.K "BadRatio" "BadReceiver" false = true
  x_BadTable_BadReceiver : exmB G.K "BadTable" "BadReceiver" false = true
  x_BadReceiver_BadReceiver : exmB G.K "BadReceiver" "BadReceiver" true = true
  oc : ∀ c, G.OC c = He.ga G.K (ocN c)
  cr : G.CR = (He.ga G.K "Ratio")
  hr : G.hr = true
  i_Ratio : IsiC G.K (He.ga G.K "Ratio")
  m_Ratio : mg "Ratio" = some (.ref (He.ga G.K "Ratio"))
  c_Ratio : Cls G.K (He.ga G.K "Ratio")
  n_Ratio : ∀ f ∈ (["own_num", "own_den"] : List Str), NoAttr G.K (He.ga G.K "Ratio") f
  k_Ratio : Mk G.K (He.ga G.K "Ratio") (He.ma G.K (He.ga G.K "Ratio") "__init__")
  d_is_integer : DefIn G.K mg "is_integer" s_is_integer
  d_is_whole : DefIn G.K mg "is_whole" s_is_whole
  d_shared_by : DefIn G.K mg "shared_by" s_shared_by
  f_Ratio_init : ∃ fd, FunD G.K "__init__" "Ratio.__init__" (defArgs s_Ratio_init) (defBody s_Ratio_init) (defScope s_Ratio_init) [.int 1] [] (He.ma G.K (He.ga G.K "Ratio") "__init__") fd
  f_Ratio_eq : ∃ fd, FunD G.K "__eq__" "Ratio.__eq__" (defArgs s_Ratio_eq) (defBody s_Ratio_eq) (defScope s_Ratio_eq) [] [] (He.ma G.K (He.ga G.K "Ratio") "__eq__") fd
  w_Ratio_eq : PySem.W.findIn G.K (.ref (He.ga G.K "Ratio")) "__eq__" = some (some (.ref (He.ma G.K (He.ga G.K "Ratio") "__eq__"))) ∧ PySem.W.isFn G.K (.ref (He.ma G.K (He.ga G.K "Ratio") "__eq__")) = true
  f_Ratio_lt : ∃ fd, FunD G.K "__lt__" "Ratio.__lt__" (defArgs s_Ratio_lt) (defBody s_Ratio_lt) (defScope s_Ratio_lt) [] [] (He.ma G.K (He.ga G.K "Ratio") "__lt__") fd
  w_Ratio_lt : PySem.W.findIn G.K (.ref (He.ga G.K "Ratio")) "__lt__" = some (some (.ref (He.ma G.K (He.ga G.K "Ratio") "__lt__"))) ∧ PySem.W.isFn G.K (.ref (He.ma G.K (He.ga G.K "Ratio") "__lt__")) = true
  f_Ratio_le : ∃ fd, FunD G.K "__le__" "Ratio.__le__" (defArgs s_Ratio_le) (defBody s_Ratio_le) (defScope s_Ratio_le) [] [] (He.ma G.K (He.ga G.K "Ratio") "__le__") fd
  w_Ratio_le : PySem.W.findIn G.K (.ref (He.ga G.K "Ratio")) "__le__" = some (some (.ref (He.ma G.K (He.ga G.K "Ratio") "__le__"))) ∧ PySem.W.isFn G.K (.ref (He.ma G.K (He.ga G.K "Ratio") "__le__")) = true
  f_Ratio_gt : ∃ fd, FunD G.K "__gt__" "Ratio.__gt__" (defArgs s_Ratio_gt) (defBody s_Ratio_gt) (defScope s_Ratio_gt) [] [] (He.ma G.K (He.ga G.K "Ratio") "__gt__") fd
  w_Ratio_gt : PySem.W.findIn G.K (.ref (He.ga G.K "Ratio")) "__gt__" = some (some (.ref (He.ma G.K (He.ga G.K "Ratio") "__gt__"))) ∧ PySem.W.isFn G.K (.ref (He.ma G.K (He.ga G.K "Ratio") "__gt__")) = true
  f_Ratio_ge : ∃ fd, FunD G.K "__ge__" "Ratio.__ge__" (defArgs s_Ratio_ge) (defBody s_Ratio_ge) (defScope s_Ratio_ge) [] [] (He.ma G.K (He.ga G.K "Ratio") "__ge__") fd
  w_Ratio_ge : PySem.W.findIn G.K (.ref (He.ga G.K "Ratio")) "__ge__" = some (some (.ref (He.ma G.K (He.ga G.K "Ratio") "__ge__"))) ∧ PySem.W.isFn G.K (.ref (He.ma G.K (He.ga G.K "Ratio") "__ge__")) = true
  d_is_duration : DefIn G.K mg "is_duration" s_is_duration
  d_are_durations : DefIn G.K mg "are_durations" s_are_durations
  d_wrong_part : DefIn G.K mg "wrong_part" s_wrong_part
  d_need_table : DefIn G.K mg "need_table" s_need_table
  d_is_table : DefIn G.K mg "is_table" s_is_table
  d_bits_of : DefIn G.K mg "bits_of" s_bits_of
  d_is_bits : DefIn G.K mg "is_bits" s_is_bits
  d_is_tolerance : DefIn G.K mg "is_tolerance" s_is_tolerance
  d_need_receiver : DefIn G.K mg "need_receiver" s_need_receiver
  d_is_sent_by : DefIn G.K mg "is_sent_by" s_is_sent_by
  d_is_sending : DefIn G.K mg "is_sending" s_is_sending
  d_law_begin : DefIn G.K mg "_law_begin" s_law_begin
  d_law_next : DefIn G.K mg "_law_next" s_law_next
  d_law_pick : DefIn G.K mg "_law_pick" s_law_pick
  d_law_size : DefIn G.K mg "_law_size" s_law_size
  d_law_table : DefIn G.K mg "_law_table" s_law_table
  d_law_like : DefIn G.K mg "_law_like" s_law_like
  d_law_receiver : DefIn G.K mg "_law_receiver" s_law_receiver
  d_law_words : DefIn G.K mg "_law_words" s_law_words
  d_law_said : DefIn G.K mg "_law_said" s_law_said
  d_law_odd_pair : DefIn G.K mg "_law_odd_pair" s_law_odd_pair
  d_law_sendings_right : DefIn G.K mg "_law_sendings_right" s_law_sendings_right
  d_law : DefIn G.K mg "law" s_law
  z_isinstance : mg "isinstance" = none
  z_int : mg "int" = none
  z_bool : mg "bool" = none
  z_tuple : mg "tuple" = none
  z_len : mg "len" = none
  z_all : mg "all" = none
  z_str : mg "str" = none
  z_enumerate : mg "enumerate" = none
  z_range : mg "range" = none
  z_list : mg "list" = none
  v_LONGEST : ∃ t, mg "LONGEST" = some (.int 99999 t)
  v_HALVES : ∃ t, mg "HALVES" = some (.str "halves" t)
  v_MOST_BITS : ∃ t, mg "MOST_BITS" = some (.int 8 t)
  v_PAIRS : ∃ t, mg "PAIRS" = some (.str "pairs" t)
  v_MOST_TABLES : ∃ t, mg "MOST_TABLES" = some (.int 4 t)
section
variable {G : Gx} {P : Program} {w : World} {mg : Str → Option Value} {base : Heap}
theorem er_BadRatio {X : Cx} {j : Nat} (T : Facts G w mg) (h1 : X.prog = P) (h2 : X.w = w) (h3 : X.K = G.K) (h4 : X.mg = mg) (h5 : X.base = base) (hr : Room j X.A) (hk : 2 ≤ j) : GlOk G X "BadRatio" (.er 0 false [(0, true), (1, false), (4, false)]) := by
  obtain ⟨fd, Fu⟩ := T.i_BadRatio
  exact er_gl (c := 0) (ps := ["self", "given"]) rfl T.ec T.o_BadRatio T.m_BadRatio (initA (k := 0) Fu z_BadRatio T.mfe T.fe T.o_BadRatio.o T.o_BadRatio.f rfl (.inl rfl) (.inl rfl) (by decide) (by decide) rfl (fun env => ⟨_, by rfl⟩)) (Fu.binds fun _ _ _ _ _ _ us hl => match us, hl with | [_, _], _ => rfl) (exCons T.x_BadRatio_BadRatio (exCons T.x_BadTable_BadRatio (exCons T.x_BadReceiver_BadRatio exNil))) h1 h2 h3 h4 h5 hr hk
theorem er_BadTable {X : Cx} {j : Nat} (T : Facts G w mg) (h1 : X.prog = P) (h2 : X.w = w) (h3 : X.K = G.K) (h4 : X.mg = mg) (h5 : X.base = base) (hr : Room j X.A) (hk : 2 ≤ j) : GlOk G X "BadTable" (.er 1 true [(0, false), (1, true), (4, false)]) := by
  obtain ⟨fd, Fu⟩ := T.i_BadTable
  exact er_gl (c := 1) (ps := ["self", "part"]) rfl T.ec T.o_BadTable T.m_BadTable (initB (k := 0) Fu z_BadTable T.mfe T.fe T.o_BadTable.o T.o_BadTable.f rfl (.inl rfl) (.inl rfl) (by decide) (by decide) (by decide) (by decide) rfl (fun env => ⟨_, by rfl⟩)) (Fu.binds fun _ _ _ _ _ _ us hl => match us, hl with | [_, _], _ => rfl) (exCons T.x_BadRatio_BadTable (exCons T.x_BadTable_BadTable (exCons T.x_BadReceiver_BadTable exNil))) h1 h2 h3 h4 h5 hr hk
theorem er_BadReceiver {X : Cx} {j : Nat} (T : Facts G w mg) (h1 : X.prog = P) (h2 : X.w = w) (h3 : X.K = G.K) (h4 : X.mg = mg) (h5 : X.base = base) (hr : Room j X.A) (hk : 2 ≤ j) : GlOk G X "BadReceiver" (.er 4 false [(0, false), (1, false), (4, true)]) := by
  obtain ⟨fd, Fu⟩ := T.i_BadReceiver
  exact er_gl (c := 4) (ps := ["self", "place"]) rfl T.ec T.o_BadReceiver T.m_BadReceiver (initA (k := 0) Fu z_BadReceiver T.mfe T.fe T.o_BadReceiver.o T.o_BadReceiver.f rfl (.inl rfl) (.inl rfl) (by decide) (by decide) rfl (fun env => ⟨_, by rfl⟩)) (Fu.binds fun _ _ _ _ _ _ us hl => match us, hl with | [_, _], _ => rfl) (exCons T.x_BadRatio_BadReceiver (exCons T.x_BadTable_BadReceiver (exCons T.x_BadReceiver_BadReceiver exNil))) h1 h2 h3 h4 h5 hr hk
theorem cl_Ratio_0 {X : Cx} {j : Nat} (T : Facts G w mg) (h1 : X.prog = P) (h2 : X.w = w) (h3 : X.K = G.K) (h4 : X.mg = mg) (h5 : X.base = base) (hr : Room j X.A) (hk : 0 ≤ j) : GlOk G X "Ratio" (.cl { c := 0, rat := true, fs := ["own_num", "own_den"] }) := by

  exact { mg := (by rw [h4, T.oc]; exact T.m_Ratio), rt := (fun _ => ⟨(T.oc 0).trans T.cr.symm, T.hr⟩), cls := (by rw [h3, T.oc]; exact T.c_Ratio), fs := (fun f hf => by rw [h3, T.oc]; exact T.n_Ratio f hf), ini := inNil, pr := luNil, cm := (fun z => by cases z), isi := (fun z => by cases z), me := meNil }
theorem cl_Ratio_1 {X : Cx} {j : Nat} (T : Facts G w mg) (h1 : X.prog = P) (h2 : X.w = w) (h3 : X.K = G.K) (h4 : X.mg = mg) (h5 : X.base = base) (hr : Room j X.A) (hk : 0 ≤ j) : GlOk G X "Ratio" (.cl { c := 0, rat := true, fs := ["own_num", "own_den"], isi := true }) := by

  exact { mg := (by rw [h4, T.oc]; exact T.m_Ratio), rt := (fun _ => ⟨(T.oc 0).trans T.cr.symm, T.hr⟩), cls := (by rw [h3, T.oc]; exact T.c_Ratio), fs := (fun f hf => by rw [h3, T.oc]; exact T.n_Ratio f hf), ini := inNil, pr := luNil, cm := (fun z => by cases z), isi := (fun _ => ⟨(T.oc 0).trans T.cr.symm, by rw [h3, T.oc]; exact T.i_Ratio⟩), me := meNil }
theorem has_is_integer (T : Facts G w mg) : Has G P w mg base "is_integer" 1 (F_is_integer) 1 [] :=
  has_of (ps := ["thing"]) T.d_is_integer (fun f fd Fu => fn_ok (C := c_is_integer) (d := 12) (n := 12) Fu z_is_integer (exOk (fun _ e => by cases e)) (fun X h1 h2 h3 h4 h5 hr hg => (glCons (gl_bi (b := .isin) h4 T.z_isinstance) (glCons (gl_ty h4 T.z_int (by decide +kernel) (by decide +kernel)) (glCons (gl_ty h4 T.z_bool (by decide +kernel) (by decide +kernel)) glNil)))) (e_is_integer) fun _ _ _ _ => rfl) (fun f fd Fu => Fu.binds fun _ _ _ _ _ _ us hl => match us, hl with | [_], _ => rfl) fun f fd Fu => shNil
theorem has_is_whole (T : Facts G w mg) : Has G P w mg base "is_whole" 2 (F_is_whole) 3 [] :=
  has_of (ps := ["thing", "least", "most"]) T.d_is_whole (fun f fd Fu => fn_ok (C := c_is_whole) (d := 12) (n := 12) Fu z_is_whole (exOk (fun _ e => by cases e)) (fun X h1 h2 h3 h4 h5 hr hg => (glCons ((has_is_integer T).gl h1 h2 h3 h4 h5 hr hg (by decide)) glNil)) (e_is_whole) fun _ _ _ _ => rfl) (fun f fd Fu => Fu.binds fun _ _ _ _ _ _ us hl => match us, hl with | [_, _, _], _ => rfl) fun f fd Fu => shNil
theorem has_shared_by (T : Facts G w mg) : Has G P w mg base "shared_by" 1 (F_shared_by) 2 [] :=
  has_of (ps := ["one", "other"]) T.d_shared_by (fun f fd Fu => fn_ok (C := c_shared_by) (d := 12) (n := 12) Fu z_shared_by (exOk (fun _ e => by cases e)) (fun X h1 h2 h3 h4 h5 hr hg => glNil) (e_shared_by) fun _ _ _ _ => rfl) (fun f fd Fu => Fu.binds fun _ _ _ _ _ _ us hl => match us, hl with | [_, _], _ => rfl) fun f fd Fu => shNil
theorem ok_Ratio_init (T : Facts G w mg) {fd : FuncData} (Fu : FunD G.K "__init__" "Ratio.__init__" (defArgs s_Ratio_init) (defBody s_Ratio_init) (defScope s_Ratio_init) [.int 1] [] (He.ma G.K (He.ga G.K "Ratio") "__init__") fd) : FnG P w G.K mg base 3 (He.ma G.K (He.ga G.K "Ratio") "__init__") fd ["self", "num", "den"] (spF G F_Ratio_init 3) :=
  fn_okE (C := c_Ratio_init) (d := 12) (n := 12) (funDE Fu) z_Ratio_init (exOk (fun _ e => by cases e)) (fun X h1 h2 h3 h4 h5 hr hg => (glCons ((has_is_integer T).gl h1 h2 h3 h4 h5 hr hg (by decide)) (glCons (er_sub (er_BadRatio T h1 h2 h3 h4 h5 hr (by decide)) (by decide)) (glCons ((has_shared_by T).gl h1 h2 h3 h4 h5 hr hg (by decide)) (glCons (cl_Ratio_0 T h1 h2 h3 h4 h5 hr (by decide)) glNil))))) e_Ratio_init fun _ _ _ _ => rfl
theorem cl_Ratio_5 {X : Cx} {j : Nat} (T : Facts G w mg) (h1 : X.prog = P) (h2 : X.w = w) (h3 : X.K = G.K) (h4 : X.mg = mg) (h5 : X.base = base) (hr : Room j X.A) (hk : 4 ≤ j) : GlOk G X "Ratio" (.cl { c := 0, rat := true, nI := 3, ini := [(1, F_Ratio_init, [.int 1]), (2, F_Ratio_init, [])] }) := by
  obtain ⟨fd_Ratio_init, F_dRatio_init⟩ := T.f_Ratio_init
  exact { mg := (by rw [h4, T.oc]; exact T.m_Ratio), rt := (fun _ => ⟨(T.oc 0).trans T.cr.symm, T.hr⟩), cls := (by rw [h3, T.oc]; exact T.c_Ratio), fs := (fun f hf => by cases hf), ini := (inCons (Q := fun F dd => IniG G X (G.OC 0) F 3 dd) (by rw [T.oc]; exact iniG_of h1 h2 h3 h4 h5 hr (k := 3) (Nat.le_trans (by decide) hk) T.k_Ratio (ok_Ratio_init T F_dRatio_init) (F_dRatio_init.binds1 (ps := ["self", "num", "den"]) 2 0 (by simp) rfl fun _ _ _ _ _ _ _ us its l1 l2 => match us, its, l1, l2 with | [_, _], [_], _, _ => ⟨_, rfl, rfl⟩) fun w => .cons (.int 1) (.nil)) (inCons (Q := fun F dd => IniG G X (G.OC 0) F 3 dd) (by rw [T.oc]; exact iniG_of h1 h2 h3 h4 h5 hr (k := 3) (Nat.le_trans (by decide) hk) T.k_Ratio (ok_Ratio_init T F_dRatio_init) (F_dRatio_init.binds1 (ps := ["self", "num", "den"]) 3 1 (by simp) rfl fun _ _ _ _ _ _ _ us its l1 l2 => match us, its, l1, l2 with | [_, _, _], [_], _, _ => ⟨_, rfl, rfl⟩) fun w => .nil) inNil)), pr := luNil, cm := (fun z => by cases z), isi := (fun z => by cases z), me := meNil }
theorem ok_Ratio_eq (T : Facts G w mg) {fd : FuncData} (Fu : FunD G.K "__eq__" "Ratio.__eq__" (defArgs s_Ratio_eq) (defBody s_Ratio_eq) (defScope s_Ratio_eq) [] [] (He.ma G.K (He.ga G.K "Ratio") "__eq__") fd) : FnG P w G.K mg base 1 (He.ma G.K (He.ga G.K "Ratio") "__eq__") fd ["self", "other"] (spF G F_Ratio_eq 2) :=
  fn_okE (C := c_Ratio_eq) (d := 12) (n := 12) (funDE Fu) z_Ratio_eq (exOk (fun _ e => by cases e)) (fun X h1 h2 h3 h4 h5 hr hg => (glCons (gl_bi (b := .isin) h4 T.z_isinstance) (glCons (cl_Ratio_1 T h1 h2 h3 h4 h5 hr (by decide)) glNil))) e_Ratio_eq fun _ _ _ _ => rfl
theorem ok_Ratio_lt (T : Facts G w mg) {fd : FuncData} (Fu : FunD G.K "__lt__" "Ratio.__lt__" (defArgs s_Ratio_lt) (defBody s_Ratio_lt) (defScope s_Ratio_lt) [] [] (He.ma G.K (He.ga G.K "Ratio") "__lt__") fd) : FnG P w G.K mg base 1 (He.ma G.K (He.ga G.K "Ratio") "__lt__") fd ["self", "other"] (spF G F_Ratio_lt 2) :=
  fn_okE (C := c_Ratio_lt) (d := 12) (n := 12) (funDE Fu) z_Ratio_lt (exOk (fun _ e => by cases e)) (fun X h1 h2 h3 h4 h5 hr hg => (glCons (gl_bi (b := .isin) h4 T.z_isinstance) (glCons (cl_Ratio_1 T h1 h2 h3 h4 h5 hr (by decide)) glNil))) e_Ratio_lt fun _ _ _ _ => rfl
theorem ok_Ratio_le (T : Facts G w mg) {fd : FuncData} (Fu : FunD G.K "__le__" "Ratio.__le__" (defArgs s_Ratio_le) (defBody s_Ratio_le) (defScope s_Ratio_le) [] [] (He.ma G.K (He.ga G.K "Ratio") "__le__") fd) : FnG P w G.K mg base 1 (He.ma G.K (He.ga G.K "Ratio") "__le__") fd ["self", "other"] (spF G F_Ratio_le 2) :=
  fn_okE (C := c_Ratio_le) (d := 12) (n := 12) (funDE Fu) z_Ratio_le (exOk (fun _ e => by cases e)) (fun X h1 h2 h3 h4 h5 hr hg => (glCons (gl_bi (b := .isin) h4 T.z_isinstance) (glCons (cl_Ratio_1 T h1 h2 h3 h4 h5 hr (by decide)) glNil))) e_Ratio_le fun _ _ _ _ => rfl
theorem ok_Ratio_gt (T : Facts G w mg) {fd : FuncData} (Fu : FunD G.K "__gt__" "Ratio.__gt__" (defArgs s_Ratio_gt) (defBody s_Ratio_gt) (defScope s_Ratio_gt) [] [] (He.ma G.K (He.ga G.K "Ratio") "__gt__") fd) : FnG P w G.K mg base 1 (He.ma G.K (He.ga G.K "Ratio") "__gt__") fd ["self", "other"] (spF G F_Ratio_gt 2) :=
  fn_okE (C := c_Ratio_gt) (d := 12) (n := 12) (funDE Fu) z_Ratio_gt (exOk (fun _ e => by cases e)) (fun X h1 h2 h3 h4 h5 hr hg => (glCons (gl_bi (b := .isin) h4 T.z_isinstance) (glCons (cl_Ratio_1 T h1 h2 h3 h4 h5 hr (by decide)) glNil))) e_Ratio_gt fun _ _ _ _ => rfl
theorem ok_Ratio_ge (T : Facts G w mg) {fd : FuncData} (Fu : FunD G.K "__ge__" "Ratio.__ge__" (defArgs s_Ratio_ge) (defBody s_Ratio_ge) (defScope s_Ratio_ge) [] [] (He.ma G.K (He.ga G.K "Ratio") "__ge__") fd) : FnG P w G.K mg base 1 (He.ma G.K (He.ga G.K "Ratio") "__ge__") fd ["self", "other"] (spF G F_Ratio_ge 2) :=
  fn_okE (C := c_Ratio_ge) (d := 12) (n := 12) (funDE Fu) z_Ratio_ge (exOk (fun _ e => by cases e)) (fun X h1 h2 h3 h4 h5 hr hg => (glCons (gl_bi (b := .isin) h4 T.z_isinstance) (glCons (cl_Ratio_1 T h1 h2 h3 h4 h5 hr (by decide)) glNil))) e_Ratio_ge fun _ _ _ _ => rfl
theorem cl_Ratio_2 {X : Cx} {j : Nat} (T : Facts G w mg) (h1 : X.prog = P) (h2 : X.w = w) (h3 : X.K = G.K) (h4 : X.mg = mg) (h5 : X.base = base) (hr : Room j X.A) (hk : 10 ≤ j) : GlOk G X "Ratio" (.cl { c := 0, rat := true, nI := 3, ini := [(1, F_Ratio_init, [.int 1])], cm := true, isi := true }) := by
  obtain ⟨fd_Ratio_init, F_dRatio_init⟩ := T.f_Ratio_init
  obtain ⟨fd_Ratio_lt, F_dRatio_lt⟩ := T.f_Ratio_lt
  obtain ⟨fd_Ratio_le, F_dRatio_le⟩ := T.f_Ratio_le
  obtain ⟨fd_Ratio_gt, F_dRatio_gt⟩ := T.f_Ratio_gt
  obtain ⟨fd_Ratio_ge, F_dRatio_ge⟩ := T.f_Ratio_ge
  obtain ⟨fd_Ratio_eq, F_dRatio_eq⟩ := T.f_Ratio_eq
  exact { mg := (by rw [h4, T.oc]; exact T.m_Ratio), rt := (fun _ => ⟨(T.oc 0).trans T.cr.symm, T.hr⟩), cls := (by rw [h3, T.oc]; exact T.c_Ratio), fs := (fun f hf => by cases hf), ini := (inCons (Q := fun F dd => IniG G X (G.OC 0) F 3 dd) (by rw [T.oc]; exact iniG_of h1 h2 h3 h4 h5 hr (k := 3) (Nat.le_trans (by decide) hk) T.k_Ratio (ok_Ratio_init T F_dRatio_init) (F_dRatio_init.binds1 (ps := ["self", "num", "den"]) 2 0 (by simp) rfl fun _ _ _ _ _ _ _ us its l1 l2 => match us, its, l1, l2 with | [_, _], [_], _, _ => ⟨_, rfl, rfl⟩) fun w => .cons (.int 1) (.nil)) inNil), pr := luNil, cm := (fun _ => ⟨_, _, _, _, ownG_of h1 h2 h3 h4 h5 hr (k := 1) (Nat.le_trans (by decide) hk) T.cr rfl T.w_Ratio_lt (ok_Ratio_lt T F_dRatio_lt) (F_dRatio_lt.bindsN fun _ _ _ _ _ _ us hl => match us, hl with | [_, _], _ => rfl), ownG_of h1 h2 h3 h4 h5 hr (k := 1) (Nat.le_trans (by decide) hk) T.cr rfl T.w_Ratio_le (ok_Ratio_le T F_dRatio_le) (F_dRatio_le.bindsN fun _ _ _ _ _ _ us hl => match us, hl with | [_, _], _ => rfl), ownG_of h1 h2 h3 h4 h5 hr (k := 1) (Nat.le_trans (by decide) hk) T.cr rfl T.w_Ratio_gt (ok_Ratio_gt T F_dRatio_gt) (F_dRatio_gt.bindsN fun _ _ _ _ _ _ us hl => match us, hl with | [_, _], _ => rfl), ownG_of h1 h2 h3 h4 h5 hr (k := 1) (Nat.le_trans (by decide) hk) T.cr rfl T.w_Ratio_ge (ok_Ratio_ge T F_dRatio_ge) (F_dRatio_ge.bindsN fun _ _ _ _ _ _ us hl => match us, hl with | [_, _], _ => rfl), ratLt, ratLe, ratGt, ratGe, 1, eqG_of (k := 1) h1 h2 h3 h4 h5 T.cr rfl T.w_Ratio_eq (ok_Ratio_eq T F_dRatio_eq) (F_dRatio_eq.bindsN fun _ _ _ _ _ _ us hl => match us, hl with | [_, _], _ => rfl) ratEq, hr.mono (Nat.le_trans (by decide) hk)⟩), isi := (fun _ => ⟨(T.oc 0).trans T.cr.symm, by rw [h3, T.oc]; exact T.i_Ratio⟩), me := meNil }
theorem cl_Ratio_3 {X : Cx} {j : Nat} (T : Facts G w mg) (h1 : X.prog = P) (h2 : X.w = w) (h3 : X.K = G.K) (h4 : X.mg = mg) (h5 : X.base = base) (hr : Room j X.A) (hk : 10 ≤ j) : GlOk G X "Ratio" (.cl { c := 0, rat := true, nI := 3, ini := [(2, F_Ratio_init, [])], cm := true }) := by
  obtain ⟨fd_Ratio_init, F_dRatio_init⟩ := T.f_Ratio_init
  obtain ⟨fd_Ratio_lt, F_dRatio_lt⟩ := T.f_Ratio_lt
  obtain ⟨fd_Ratio_le, F_dRatio_le⟩ := T.f_Ratio_le
  obtain ⟨fd_Ratio_gt, F_dRatio_gt⟩ := T.f_Ratio_gt
  obtain ⟨fd_Ratio_ge, F_dRatio_ge⟩ := T.f_Ratio_ge
  obtain ⟨fd_Ratio_eq, F_dRatio_eq⟩ := T.f_Ratio_eq
  exact { mg := (by rw [h4, T.oc]; exact T.m_Ratio), rt := (fun _ => ⟨(T.oc 0).trans T.cr.symm, T.hr⟩), cls := (by rw [h3, T.oc]; exact T.c_Ratio), fs := (fun f hf => by cases hf), ini := (inCons (Q := fun F dd => IniG G X (G.OC 0) F 3 dd) (by rw [T.oc]; exact iniG_of h1 h2 h3 h4 h5 hr (k := 3) (Nat.le_trans (by decide) hk) T.k_Ratio (ok_Ratio_init T F_dRatio_init) (F_dRatio_init.binds1 (ps := ["self", "num", "den"]) 3 1 (by simp) rfl fun _ _ _ _ _ _ _ us its l1 l2 => match us, its, l1, l2 with | [_, _, _], [_], _, _ => ⟨_, rfl, rfl⟩) fun w => .nil) inNil), pr := luNil, cm := (fun _ => ⟨_, _, _, _, ownG_of h1 h2 h3 h4 h5 hr (k := 1) (Nat.le_trans (by decide) hk) T.cr rfl T.w_Ratio_lt (ok_Ratio_lt T F_dRatio_lt) (F_dRatio_lt.bindsN fun _ _ _ _ _ _ us hl => match us, hl with | [_, _], _ => rfl), ownG_of h1 h2 h3 h4 h5 hr (k := 1) (Nat.le_trans (by decide) hk) T.cr rfl T.w_Ratio_le (ok_Ratio_le T F_dRatio_le) (F_dRatio_le.bindsN fun _ _ _ _ _ _ us hl => match us, hl with | [_, _], _ => rfl), ownG_of h1 h2 h3 h4 h5 hr (k := 1) (Nat.le_trans (by decide) hk) T.cr rfl T.w_Ratio_gt (ok_Ratio_gt T F_dRatio_gt) (F_dRatio_gt.bindsN fun _ _ _ _ _ _ us hl => match us, hl with | [_, _], _ => rfl), ownG_of h1 h2 h3 h4 h5 hr (k := 1) (Nat.le_trans (by decide) hk) T.cr rfl T.w_Ratio_ge (ok_Ratio_ge T F_dRatio_ge) (F_dRatio_ge.bindsN fun _ _ _ _ _ _ us hl => match us, hl with | [_, _], _ => rfl), ratLt, ratLe, ratGt, ratGe, 1, eqG_of (k := 1) h1 h2 h3 h4 h5 T.cr rfl T.w_Ratio_eq (ok_Ratio_eq T F_dRatio_eq) (F_dRatio_eq.bindsN fun _ _ _ _ _ _ us hl => match us, hl with | [_, _], _ => rfl) ratEq, hr.mono (Nat.le_trans (by decide) hk)⟩), isi := (fun z => by cases z), me := meNil }
theorem cl_Ratio_4 {X : Cx} {j : Nat} (T : Facts G w mg) (h1 : X.prog = P) (h2 : X.w = w) (h3 : X.K = G.K) (h4 : X.mg = mg) (h5 : X.base = base) (hr : Room j X.A) (hk : 10 ≤ j) : GlOk G X "Ratio" (.cl { c := 0, rat := true, cm := true }) := by
  obtain ⟨fd_Ratio_lt, F_dRatio_lt⟩ := T.f_Ratio_lt
  obtain ⟨fd_Ratio_le, F_dRatio_le⟩ := T.f_Ratio_le
  obtain ⟨fd_Ratio_gt, F_dRatio_gt⟩ := T.f_Ratio_gt
  obtain ⟨fd_Ratio_ge, F_dRatio_ge⟩ := T.f_Ratio_ge
  obtain ⟨fd_Ratio_eq, F_dRatio_eq⟩ := T.f_Ratio_eq
  exact { mg := (by rw [h4, T.oc]; exact T.m_Ratio), rt := (fun _ => ⟨(T.oc 0).trans T.cr.symm, T.hr⟩), cls := (by rw [h3, T.oc]; exact T.c_Ratio), fs := (fun f hf => by cases hf), ini := inNil, pr := luNil, cm := (fun _ => ⟨_, _, _, _, ownG_of h1 h2 h3 h4 h5 hr (k := 1) (Nat.le_trans (by decide) hk) T.cr rfl T.w_Ratio_lt (ok_Ratio_lt T F_dRatio_lt) (F_dRatio_lt.bindsN fun _ _ _ _ _ _ us hl => match us, hl with | [_, _], _ => rfl), ownG_of h1 h2 h3 h4 h5 hr (k := 1) (Nat.le_trans (by decide) hk) T.cr rfl T.w_Ratio_le (ok_Ratio_le T F_dRatio_le) (F_dRatio_le.bindsN fun _ _ _ _ _ _ us hl => match us, hl with | [_, _], _ => rfl), ownG_of h1 h2 h3 h4 h5 hr (k := 1) (Nat.le_trans (by decide) hk) T.cr rfl T.w_Ratio_gt (ok_Ratio_gt T F_dRatio_gt) (F_dRatio_gt.bindsN fun _ _ _ _ _ _ us hl => match us, hl with | [_, _], _ => rfl), ownG_of h1 h2 h3 h4 h5 hr (k := 1) (Nat.le_trans (by decide) hk) T.cr rfl T.w_Ratio_ge (ok_Ratio_ge T F_dRatio_ge) (F_dRatio_ge.bindsN fun _ _ _ _ _ _ us hl => match us, hl with | [_, _], _ => rfl), ratLt, ratLe, ratGt, ratGe, 1, eqG_of (k := 1) h1 h2 h3 h4 h5 T.cr rfl T.w_Ratio_eq (ok_Ratio_eq T F_dRatio_eq) (F_dRatio_eq.bindsN fun _ _ _ _ _ _ us hl => match us, hl with | [_, _], _ => rfl) ratEq, hr.mono (Nat.le_trans (by decide) hk)⟩), isi := (fun z => by cases z), me := meNil }
theorem has_is_duration (T : Facts G w mg) : Has G P w mg base "is_duration" 3 (F_is_duration) 1 [] :=
  has_of (ps := ["thing"]) T.d_is_duration (fun f fd Fu => fn_ok (C := c_is_duration) (d := 12) (n := 12) Fu z_is_duration (exOk (fun _ e => by cases e)) (fun X h1 h2 h3 h4 h5 hr hg => (glCons ((has_is_whole T).gl h1 h2 h3 h4 h5 hr hg (by decide)) (glCons (gl_int h4 T.v_LONGEST) glNil))) (e_is_duration) fun _ _ _ _ => rfl) (fun f fd Fu => Fu.binds fun _ _ _ _ _ _ us hl => match us, hl with | [_], _ => rfl) fun f fd Fu => shNil
theorem has_are_durations (T : Facts G w mg) : Has G P w mg base "are_durations" 4 (F_are_durations) 2 [] :=
  has_of (ps := ["thing", "sizes"]) T.d_are_durations (fun f fd Fu => fn_ok (C := c_are_durations) (d := 12) (n := 12) Fu z_are_durations (exOk (fun _ e => by cases e)) (fun X h1 h2 h3 h4 h5 hr hg => (glCons (gl_bi (b := .isin) h4 T.z_isinstance) (glCons (gl_ty h4 T.z_tuple (by decide +kernel) (by decide +kernel)) (glCons (gl_bi (b := .len) h4 T.z_len) (glCons (gl_bi (b := .all) h4 T.z_all) (glCons ((has_is_duration T).gl h1 h2 h3 h4 h5 hr hg (by decide)) glNil)))))) (e_are_durations) fun _ _ _ _ => rfl) (fun f fd Fu => Fu.binds fun _ _ _ _ _ _ us hl => match us, hl with | [_, _], _ => rfl) fun f fd Fu => shNil
theorem has_wrong_part (T : Facts G w mg) : Has G P w mg base "wrong_part" 5 (F_wrong_part) 1 [] :=
  has_of (ps := ["table"]) T.d_wrong_part (fun f fd Fu => fn_ok (C := c_wrong_part) (d := 12) (n := 12) Fu z_wrong_part (exOk (fun _ e => by cases e)) (fun X h1 h2 h3 h4 h5 hr hg => (glCons (gl_str h4 T.v_HALVES) (glCons ((has_is_duration T).gl h1 h2 h3 h4 h5 hr hg (by decide)) (glCons ((has_are_durations T).gl h1 h2 h3 h4 h5 hr hg (by decide)) (glCons ((has_is_whole T).gl h1 h2 h3 h4 h5 hr hg (by decide)) (glCons (gl_int h4 T.v_MOST_BITS) glNil)))))) (e_wrong_part) fun _ _ _ _ => rfl) (fun f fd Fu => Fu.binds fun _ _ _ _ _ _ us hl => match us, hl with | [_], _ => rfl) fun f fd Fu => shNil
theorem has_need_table (T : Facts G w mg) : Has G P w mg base "need_table" 6 (F_need_table) 1 [] :=
  has_of (ps := ["thing"]) T.d_need_table (fun f fd Fu => fn_ok (C := c_need_table) (d := 12) (n := 12) Fu z_need_table (exOk (fun _ e => by cases e)) (fun X h1 h2 h3 h4 h5 hr hg => (glCons (gl_bi (b := .isin) h4 T.z_isinstance) (glCons (gl_ty h4 T.z_tuple (by decide +kernel) (by decide +kernel)) (glCons (gl_bi (b := .len) h4 T.z_len) (glCons (gl_ty h4 T.z_str (by decide +kernel) (by decide +kernel)) (glCons (er_sub (er_BadTable T h1 h2 h3 h4 h5 hr (by decide)) (by decide)) (glCons (gl_str h4 T.v_HALVES) (glCons (gl_str h4 T.v_PAIRS) (glCons ((has_wrong_part T).gl h1 h2 h3 h4 h5 hr hg (by decide)) glNil))))))))) (e_need_table) fun _ _ _ _ => rfl) (fun f fd Fu => Fu.binds fun _ _ _ _ _ _ us hl => match us, hl with | [_], _ => rfl) fun f fd Fu => shNil
theorem has_is_table (T : Facts G w mg) : Has G P w mg base "is_table" 7 (F_is_table) 1 [] :=
  has_of (ps := ["thing"]) T.d_is_table (fun f fd Fu => fn_ok (C := c_is_table) (d := 12) (n := 12) Fu z_is_table (exOk (fun _ e => by cases e)) (fun X h1 h2 h3 h4 h5 hr hg => (glCons ((has_need_table T).gl h1 h2 h3 h4 h5 hr hg (by decide)) (glCons (er_sub (er_BadTable T h1 h2 h3 h4 h5 hr (by decide)) (by decide)) glNil))) (e_is_table) fun _ _ _ _ => rfl) (fun f fd Fu => Fu.binds fun _ _ _ _ _ _ us hl => match us, hl with | [_], _ => rfl) fun f fd Fu => shNil
theorem has_bits_of (T : Facts G w mg) : Has G P w mg base "bits_of" 1 (F_bits_of) 1 [] :=
  has_of (ps := ["table"]) T.d_bits_of (fun f fd Fu => fn_ok (C := c_bits_of) (d := 12) (n := 12) Fu z_bits_of (exOk (fun _ e => by cases e)) (fun X h1 h2 h3 h4 h5 hr hg => glNil) (e_bits_of) fun _ _ _ _ => rfl) (fun f fd Fu => Fu.binds fun _ _ _ _ _ _ us hl => match us, hl with | [_], _ => rfl) fun f fd Fu => shNil
theorem has_is_bits (T : Facts G w mg) : Has G P w mg base "is_bits" 3 (F_is_bits) 2 [] :=
  has_of (ps := ["table", "thing"]) T.d_is_bits (fun f fd Fu => fn_ok (C := c_is_bits) (d := 12) (n := 12) Fu z_is_bits (exOk (fun _ e => by cases e)) (fun X h1 h2 h3 h4 h5 hr hg => (glCons (gl_bi (b := .isin) h4 T.z_isinstance) (glCons (gl_ty h4 T.z_tuple (by decide +kernel) (by decide +kernel)) (glCons (gl_bi (b := .len) h4 T.z_len) (glCons ((has_bits_of T).gl h1 h2 h3 h4 h5 hr hg (by decide)) (glCons (gl_bi (b := .all) h4 T.z_all) (glCons ((has_is_whole T).gl h1 h2 h3 h4 h5 hr hg (by decide)) glNil))))))) (e_is_bits) fun _ _ _ _ => rfl) (fun f fd Fu => Fu.binds fun _ _ _ _ _ _ us hl => match us, hl with | [_, _], _ => rfl) fun f fd Fu => shNil
theorem has_is_tolerance (T : Facts G w mg) : Has G P w mg base "is_tolerance" 11 (F_is_tolerance) 1 [] :=
  has_of (ps := ["thing"]) T.d_is_tolerance (fun f fd Fu => fn_ok (C := c_is_tolerance) (d := 12) (n := 12) Fu z_is_tolerance (exOk (fun _ e => by cases e)) (fun X h1 h2 h3 h4 h5 hr hg => (glCons (gl_bi (b := .isin) h4 T.z_isinstance) (glCons (cl_Ratio_2 T h1 h2 h3 h4 h5 hr (by decide)) glNil))) (e_is_tolerance) fun _ _ _ _ => rfl) (fun f fd Fu => Fu.binds fun _ _ _ _ _ _ us hl => match us, hl with | [_], _ => rfl) fun f fd Fu => shNil
theorem has_need_receiver (T : Facts G w mg) : Has G P w mg base "need_receiver" 12 (F_need_receiver) 1 [⟨0, ["thing"], [0]⟩] :=
  has_of (ps := ["thing"]) T.d_need_receiver (fun f fd Fu => fn_ok (C := c_need_receiver) (d := 12) (n := 12) Fu z_need_receiver (exOk (fun _ e => by cases e)) (fun X h1 h2 h3 h4 h5 hr hg => (glCons (gl_bi (b := .isin) h4 T.z_isinstance) (glCons (gl_ty h4 T.z_tuple (by decide +kernel) (by decide +kernel)) (glCons (gl_bi (b := .len) h4 T.z_len) (glCons (gl_int h4 T.v_MOST_TABLES) (glCons (er_sub (er_BadReceiver T h1 h2 h3 h4 h5 hr (by decide)) (by decide)) (glCons (gl_bi (b := .enum) h4 T.z_enumerate) (glCons ((has_is_table T).gl h1 h2 h3 h4 h5 hr hg (by decide)) (glCons ((has_is_tolerance T).gl h1 h2 h3 h4 h5 hr hg (by decide)) glNil))))))))) (e_need_receiver) fun _ _ _ _ => rfl) (fun f fd Fu => Fu.binds fun _ _ _ _ _ _ us hl => match us, hl with | [_], _ => rfl) fun f fd Fu => shCons rfl (by decide) (kbn_of Fu fun _ _ _ _ _ _ us ws l1 l2 => match us, ws, l1, l2 with | [], [_], _, _ => rfl) (shNil)
theorem has_is_sent_by (T : Facts G w mg) : Has G P w mg base "is_sent_by" 4 (F_is_sent_by) 2 [] :=
  has_of (ps := ["receiver", "thing"]) T.d_is_sent_by (fun f fd Fu => fn_ok (C := c_is_sent_by) (d := 12) (n := 12) Fu z_is_sent_by (exOk (fun _ e => by cases e)) (fun X h1 h2 h3 h4 h5 hr hg => (glCons (gl_bi (b := .isin) h4 T.z_isinstance) (glCons (gl_ty h4 T.z_tuple (by decide +kernel) (by decide +kernel)) (glCons (gl_bi (b := .len) h4 T.z_len) (glCons ((has_is_whole T).gl h1 h2 h3 h4 h5 hr hg (by decide)) (glCons ((has_is_bits T).gl h1 h2 h3 h4 h5 hr hg (by decide)) glNil)))))) (e_is_sent_by) fun _ _ _ _ => rfl) (fun f fd Fu => Fu.binds fun _ _ _ _ _ _ us hl => match us, hl with | [_, _], _ => rfl) fun f fd Fu => shNil
theorem has_is_sending (T : Facts G w mg) : Has G P w mg base "is_sending" 13 (F_is_sending) 2 [⟨0, ["thing", "receiver"], [1, 0]⟩] :=
  has_of (ps := ["receiver", "thing"]) T.d_is_sending (fun f fd Fu => fn_ok (C := c_is_sending) (d := 12) (n := 12) Fu z_is_sending (exOk (fun _ e => by cases e)) (fun X h1 h2 h3 h4 h5 hr hg => (glCons ((has_is_sent_by T).gl h1 h2 h3 h4 h5 hr hg (by decide)) (glCons ((has_need_receiver T).gl h1 h2 h3 h4 h5 hr hg (by decide)) glNil))) (e_is_sending) fun _ _ _ _ => rfl) (fun f fd Fu => Fu.binds fun _ _ _ _ _ _ us hl => match us, hl with | [_, _], _ => rfl) fun f fd Fu => shCons rfl (by decide) (kbn_of Fu fun _ _ _ _ _ _ us ws l1 l2 => match us, ws, l1, l2 with | [], [_, _], _, _ => rfl) (shNil)
theorem has_law_begin (T : Facts G w mg) : Has G P w mg base "_law_begin" 1 (F_law_begin G.sx) 1 [] :=
  has_of (ps := ["script"]) T.d_law_begin (fun f fd Fu => fn_okN (C := c_law_begin G.sx) (d := 12) (n := 12) Fu z_law_begin (exOk (fun _ e => by cases e; rfl)) (fun X h1 h2 h3 h4 h5 hr hg => glNil) (e_law_begin G.sx) fun _ _ _ _ => rfl) (fun f fd Fu => Fu.binds fun _ _ _ _ _ _ us hl => match us, hl with | [_], _ => rfl) fun f fd Fu => shNil
theorem has_law_next (T : Facts G w mg) : Has G P w mg base "_law_next" 1 (F_law_next) 2 [] :=
  has_of (ps := ["draw", "many"]) T.d_law_next (fun f fd Fu => fn_ok (C := c_law_next) (d := 12) (n := 12) Fu z_law_next (exOk (fun _ e => by cases e)) (fun X h1 h2 h3 h4 h5 hr hg => (glCons (gl_bi (b := .len) h4 T.z_len) glNil)) (e_law_next) fun _ _ _ _ => rfl) (fun f fd Fu => Fu.binds fun _ _ _ _ _ _ us hl => match us, hl with | [_, _], _ => rfl) fun f fd Fu => shNil
theorem has_law_pick (T : Facts G w mg) : Has G P w mg base "_law_pick" 2 (F_law_pick) 2 [] :=
  has_of (ps := ["draw", "some"]) T.d_law_pick (fun f fd Fu => fn_ok (C := c_law_pick) (d := 12) (n := 12) Fu z_law_pick (exOk (fun _ e => by cases e)) (fun X h1 h2 h3 h4 h5 hr hg => (glCons ((has_law_next T).gl h1 h2 h3 h4 h5 hr hg (by decide)) (glCons (gl_bi (b := .len) h4 T.z_len) glNil))) (e_law_pick) fun _ _ _ _ => rfl) (fun f fd Fu => Fu.binds fun _ _ _ _ _ _ us hl => match us, hl with | [_, _], _ => rfl) fun f fd Fu => shNil
theorem has_law_size (T : Facts G w mg) : Has G P w mg base "_law_size" 3 (F_law_size) 1 [] :=
  has_of (ps := ["draw"]) T.d_law_size (fun f fd Fu => fn_ok (C := c_law_size) (d := 12) (n := 12) Fu z_law_size (exOk (fun _ e => by cases e)) (fun X h1 h2 h3 h4 h5 hr hg => (glCons ((has_law_next T).gl h1 h2 h3 h4 h5 hr hg (by decide)) (glCons ((has_law_pick T).gl h1 h2 h3 h4 h5 hr hg (by decide)) glNil))) (e_law_size) fun _ _ _ _ => rfl) (fun f fd Fu => Fu.binds fun _ _ _ _ _ _ us hl => match us, hl with | [_], _ => rfl) fun f fd Fu => shNil
theorem has_law_table (T : Facts G w mg) : Has G P w mg base "_law_table" 4 (F_law_table) 2 [] :=
  has_of (ps := ["draw", "most"]) T.d_law_table (fun f fd Fu => fn_ok (C := c_law_table) (d := 12) (n := 12) Fu z_law_table (exOk (fun _ e => by cases e)) (fun X h1 h2 h3 h4 h5 hr hg => (glCons ((has_law_next T).gl h1 h2 h3 h4 h5 hr hg (by decide)) (glCons ((has_law_size T).gl h1 h2 h3 h4 h5 hr hg (by decide)) (glCons (gl_bi (b := .tuple) h4 T.z_tuple) (glCons (gl_bi (b := .range) h4 T.z_range) (glCons (gl_bi (b := .int) h4 T.z_int) glNil)))))) (e_law_table) fun _ _ _ _ => rfl) (fun f fd Fu => Fu.binds fun _ _ _ _ _ _ us hl => match us, hl with | [_, _], _ => rfl) fun f fd Fu => shNil
theorem has_law_like (T : Facts G w mg) : Has G P w mg base "_law_like" 2 (F_law_like) 2 [] :=
  has_of (ps := ["draw", "table"]) T.d_law_like (fun f fd Fu => fn_ok (C := c_law_like) (d := 12) (n := 12) Fu z_law_like (exOk (fun _ e => by cases e)) (fun X h1 h2 h3 h4 h5 hr hg => (glCons ((has_law_next T).gl h1 h2 h3 h4 h5 hr hg (by decide)) glNil)) (e_law_like) fun _ _ _ _ => rfl) (fun f fd Fu => Fu.binds fun _ _ _ _ _ _ us hl => match us, hl with | [_, _], _ => rfl) fun f fd Fu => shNil
theorem has_law_receiver (T : Facts G w mg) : Has G P w mg base "_law_receiver" 11 (F_law_receiver) 3 [] :=
  has_of (ps := ["draw", "many", "most"]) T.d_law_receiver (fun f fd Fu => fn_ok (C := c_law_receiver) (d := 12) (n := 12) Fu z_law_receiver (exOk (fun _ e => by cases e)) (fun X h1 h2 h3 h4 h5 hr hg => (glCons (gl_bi (b := .range) h4 T.z_range) (glCons ((has_law_next T).gl h1 h2 h3 h4 h5 hr hg (by decide)) (glCons ((has_law_table T).gl h1 h2 h3 h4 h5 hr hg (by decide)) (glCons ((has_law_like T).gl h1 h2 h3 h4 h5 hr hg (by decide)) (glCons (cl_Ratio_3 T h1 h2 h3 h4 h5 hr (by decide)) glNil)))))) (e_law_receiver) fun _ _ _ _ => rfl) (fun f fd Fu => Fu.binds fun _ _ _ _ _ _ us hl => match us, hl with | [_, _, _], _ => rfl) fun f fd Fu => shNil
theorem has_law_words (T : Facts G w mg) : Has G P w mg base "_law_words" 1 (F_law_words) 1 [] :=
  has_of (ps := ["many"]) T.d_law_words (fun f fd Fu => fn_ok (C := c_law_words) (d := 12) (n := 12) Fu z_law_words (exOk (fun _ e => by cases e)) (fun X h1 h2 h3 h4 h5 hr hg => (glCons (gl_bi (b := .range) h4 T.z_range) glNil)) (e_law_words) fun _ _ _ _ => rfl) (fun f fd Fu => Fu.binds fun _ _ _ _ _ _ us hl => match us, hl with | [_], _ => rfl) fun f fd Fu => shNil
theorem has_law_said (T : Facts G w mg) : Has G P w mg base "_law_said" 13 (F_law_said) 1 [] :=
  has_of (ps := ["value"]) T.d_law_said (fun f fd Fu => fn_ok (C := c_law_said) (d := 12) (n := 12) Fu z_law_said (exOk (fun _ e => by cases e)) (fun X h1 h2 h3 h4 h5 hr hg => (glCons ((has_need_receiver T).gl h1 h2 h3 h4 h5 hr hg (by decide)) (glCons (er_sub (er_BadReceiver T h1 h2 h3 h4 h5 hr (by decide)) (by decide)) (glCons (cl_Ratio_4 T h1 h2 h3 h4 h5 hr (by decide)) glNil)))) (e_law_said) fun _ _ _ _ => rfl) (fun f fd Fu => Fu.binds fun _ _ _ _ _ _ us hl => match us, hl with | [_], _ => rfl) fun f fd Fu => shNil
theorem has_law_odd_pair (T : Facts G w mg) : Has G P w mg base "_law_odd_pair" 5 (F_law_odd_pair) 2 [] :=
  has_of (ps := ["draw", "pair"]) T.d_law_odd_pair (fun f fd Fu => fn_ok (C := c_law_odd_pair) (d := 12) (n := 12) Fu z_law_odd_pair (exOk (fun _ e => by cases e)) (fun X h1 h2 h3 h4 h5 hr hg => (glCons (gl_bi (b := .list) h4 T.z_list) (glCons ((has_law_pick T).gl h1 h2 h3 h4 h5 hr hg (by decide)) (glCons (cl_Ratio_5 T h1 h2 h3 h4 h5 hr (by decide)) glNil)))) (e_law_odd_pair) fun _ _ _ _ => rfl) (fun f fd Fu => Fu.binds fun _ _ _ _ _ _ us hl => match us, hl with | [_, _], _ => rfl) fun f fd Fu => shNil
theorem has_law_sendings_right (T : Facts G w mg) : Has G P w mg base "_law_sendings_right" 14 (F_law_sendings_right) 2 [] :=
  has_of (ps := ["draw", "hearers"]) T.d_law_sendings_right (fun f fd Fu => fn_ok (C := c_law_sendings_right) (d := 12) (n := 12) Fu z_law_sendings_right (exOk (fun _ e => by cases e)) (fun X h1 h2 h3 h4 h5 hr hg => (glCons ((has_law_next T).gl h1 h2 h3 h4 h5 hr hg (by decide)) (glCons (gl_bi (b := .len) h4 T.z_len) (glCons ((has_law_pick T).gl h1 h2 h3 h4 h5 hr hg (by decide)) (glCons ((has_law_words T).gl h1 h2 h3 h4 h5 hr hg (by decide)) (glCons ((has_is_sending T).gl h1 h2 h3 h4 h5 hr hg (by decide)) (glCons (gl_bi (b := .list) h4 T.z_list) glNil))))))) (e_law_sendings_right) fun _ _ _ _ => rfl) (fun f fd Fu => Fu.binds fun _ _ _ _ _ _ us hl => match us, hl with | [_, _], _ => rfl) fun f fd Fu => shNil
theorem ok_law (T : Facts G w mg) {f : Addr} {fd : FuncData} (Fu : Fun G.K "law" "law" s_law f fd) : FnG P w G.K mg base 15 f fd ["script"] (spF G (F_law G.sx) 1) :=
  fn_ok (ps := ["script"]) (C := c_law G.sx) (d := 12) (n := 12) Fu z_law (exOk (fun _ e => by cases e; rfl)) (fun X h1 h2 h3 h4 h5 hr hg => (glCons ((has_law_begin T).gl h1 h2 h3 h4 h5 hr hg (by decide)) (glCons (gl_bi (b := .range) h4 T.z_range) (glCons ((has_law_receiver T).gl h1 h2 h3 h4 h5 hr hg (by decide)) (glCons ((has_law_said T).gl h1 h2 h3 h4 h5 hr hg (by decide)) (glCons ((has_need_receiver T).gl h1 h2 h3 h4 h5 hr hg (by decide)) (glCons ((has_law_next T).gl h1 h2 h3 h4 h5 hr hg (by decide)) (glCons (gl_bi (b := .len) h4 T.z_len) (glCons ((has_law_odd_pair T).gl h1 h2 h3 h4 h5 hr hg (by decide)) (glCons (gl_bi (b := .list) h4 T.z_list) (glCons ((has_law_sendings_right T).gl h1 h2 h3 h4 h5 hr hg (by decide)) (glCons (cl_Ratio_4 T h1 h2 h3 h4 h5 hr (by decide)) glNil)))))))))))) (e_law G.sx) fun _ _ _ _ => rfl
end
def dd_is_integer : He.DefD := ⟨("is_integer", none), "is_integer", "is_integer", defArgs s_is_integer, defBody s_is_integer, defScope s_is_integer, [], []⟩
def dd_is_whole : He.DefD := ⟨("is_whole", none), "is_whole", "is_whole", defArgs s_is_whole, defBody s_is_whole, defScope s_is_whole, [], []⟩
def dd_shared_by : He.DefD := ⟨("shared_by", none), "shared_by", "shared_by", defArgs s_shared_by, defBody s_shared_by, defScope s_shared_by, [], []⟩
def dd_Ratio_init : He.DefD := ⟨("Ratio", some "__init__"), "__init__", "Ratio.__init__", defArgs s_Ratio_init, defBody s_Ratio_init, defScope s_Ratio_init, [.int 1], []⟩
def dd_Ratio_eq : He.DefD := ⟨("Ratio", some "__eq__"), "__eq__", "Ratio.__eq__", defArgs s_Ratio_eq, defBody s_Ratio_eq, defScope s_Ratio_eq, [], []⟩
def dd_Ratio_lt : He.DefD := ⟨("Ratio", some "__lt__"), "__lt__", "Ratio.__lt__", defArgs s_Ratio_lt, defBody s_Ratio_lt, defScope s_Ratio_lt, [], []⟩
def dd_Ratio_le : He.DefD := ⟨("Ratio", some "__le__"), "__le__", "Ratio.__le__", defArgs s_Ratio_le, defBody s_Ratio_le, defScope s_Ratio_le, [], []⟩
def dd_Ratio_gt : He.DefD := ⟨("Ratio", some "__gt__"), "__gt__", "Ratio.__gt__", defArgs s_Ratio_gt, defBody s_Ratio_gt, defScope s_Ratio_gt, [], []⟩
def dd_Ratio_ge : He.DefD := ⟨("Ratio", some "__ge__"), "__ge__", "Ratio.__ge__", defArgs s_Ratio_ge, defBody s_Ratio_ge, defScope s_Ratio_ge, [], []⟩
def dd_is_duration : He.DefD := ⟨("is_duration", none), "is_duration", "is_duration", defArgs s_is_duration, defBody s_is_duration, defScope s_is_duration, [], []⟩
def dd_are_durations : He.DefD := ⟨("are_durations", none), "are_durations", "are_durations", defArgs s_are_durations, defBody s_are_durations, defScope s_are_durations, [], []⟩
def dd_wrong_part : He.DefD := ⟨("wrong_part", none), "wrong_part", "wrong_part", defArgs s_wrong_part, defBody s_wrong_part, defScope s_wrong_part, [], []⟩
def dd_need_table : He.DefD := ⟨("need_table", none), "need_table", "need_table", defArgs s_need_table, defBody s_need_table, defScope s_need_table, [], []⟩
def dd_is_table : He.DefD := ⟨("is_table", none), "is_table", "is_table", defArgs s_is_table, defBody s_is_table, defScope s_is_table, [], []⟩
def dd_bits_of : He.DefD := ⟨("bits_of", none), "bits_of", "bits_of", defArgs s_bits_of, defBody s_bits_of, defScope s_bits_of, [], []⟩
def dd_is_bits : He.DefD := ⟨("is_bits", none), "is_bits", "is_bits", defArgs s_is_bits, defBody s_is_bits, defScope s_is_bits, [], []⟩
def dd_is_tolerance : He.DefD := ⟨("is_tolerance", none), "is_tolerance", "is_tolerance", defArgs s_is_tolerance, defBody s_is_tolerance, defScope s_is_tolerance, [], []⟩
def dd_need_receiver : He.DefD := ⟨("need_receiver", none), "need_receiver", "need_receiver", defArgs s_need_receiver, defBody s_need_receiver, defScope s_need_receiver, [], []⟩
def dd_is_sent_by : He.DefD := ⟨("is_sent_by", none), "is_sent_by", "is_sent_by", defArgs s_is_sent_by, defBody s_is_sent_by, defScope s_is_sent_by, [], []⟩
def dd_is_sending : He.DefD := ⟨("is_sending", none), "is_sending", "is_sending", defArgs s_is_sending, defBody s_is_sending, defScope s_is_sending, [], []⟩
def dd_law_begin : He.DefD := ⟨("_law_begin", none), "_law_begin", "_law_begin", defArgs s_law_begin, defBody s_law_begin, defScope s_law_begin, [], []⟩
def dd_law_next : He.DefD := ⟨("_law_next", none), "_law_next", "_law_next", defArgs s_law_next, defBody s_law_next, defScope s_law_next, [], []⟩
def dd_law_pick : He.DefD := ⟨("_law_pick", none), "_law_pick", "_law_pick", defArgs s_law_pick, defBody s_law_pick, defScope s_law_pick, [], []⟩
def dd_law_size : He.DefD := ⟨("_law_size", none), "_law_size", "_law_size", defArgs s_law_size, defBody s_law_size, defScope s_law_size, [], []⟩
def dd_law_table : He.DefD := ⟨("_law_table", none), "_law_table", "_law_table", defArgs s_law_table, defBody s_law_table, defScope s_law_table, [], []⟩
def dd_law_like : He.DefD := ⟨("_law_like", none), "_law_like", "_law_like", defArgs s_law_like, defBody s_law_like, defScope s_law_like, [], []⟩
def dd_law_receiver : He.DefD := ⟨("_law_receiver", none), "_law_receiver", "_law_receiver", defArgs s_law_receiver, defBody s_law_receiver, defScope s_law_receiver, [], []⟩
def dd_law_words : He.DefD := ⟨("_law_words", none), "_law_words", "_law_words", defArgs s_law_words, defBody s_law_words, defScope s_law_words, [], []⟩
def dd_law_said : He.DefD := ⟨("_law_said", none), "_law_said", "_law_said", defArgs s_law_said, defBody s_law_said, defScope s_law_said, [], []⟩
def dd_law_odd_pair : He.DefD := ⟨("_law_odd_pair", none), "_law_odd_pair", "_law_odd_pair", defArgs s_law_odd_pair, defBody s_law_odd_pair, defScope s_law_odd_pair, [], []⟩
def dd_law_sendings_right : He.DefD := ⟨("_law_sendings_right", none), "_law_sendings_right", "_law_sendings_right", defArgs s_law_sendings_right, defBody s_law_sendings_right, defScope s_law_sendings_right, [], []⟩
def dd_law : He.DefD := ⟨("law", none), "law", "law", defArgs s_law, defBody s_law, defScope s_law, [], []⟩
def fz : List FnA := []
def dd_BadRatio : He.DefD := ⟨("BadRatio", some "__init__"), "__init__", "BadRatio.__init__", defArgs s_BadRatio, defBody s_BadRatio, defScope s_BadRatio, [], []⟩
def dd_BadTable : He.DefD := ⟨("BadTable", some "__init__"), "__init__", "BadTable.__init__", defArgs s_BadTable, defBody s_BadTable, defScope s_BadTable, [], []⟩
def dd_BadReceiver : He.DefD := ⟨("BadReceiver", some "__init__"), "__init__", "BadReceiver.__init__", defArgs s_BadReceiver, defBody s_BadReceiver, defScope s_BadReceiver, [], []⟩
def fn : List He.DefD := [dd_is_integer, dd_is_whole, dd_shared_by, dd_Ratio_init, dd_Ratio_eq, dd_Ratio_lt, dd_Ratio_le, dd_Ratio_gt, dd_Ratio_ge, dd_is_duration, dd_are_durations, dd_wrong_part, dd_need_table, dd_is_table, dd_bits_of, dd_is_bits, dd_is_tolerance, dd_need_receiver, dd_is_sent_by, dd_is_sending, dd_law_begin, dd_law_next, dd_law_pick, dd_law_size, dd_law_table, dd_law_like, dd_law_receiver, dd_law_words, dd_law_said, dd_law_odd_pair, dd_law_sendings_right, dd_law, dd_BadRatio, dd_BadTable, dd_BadReceiver]
def fa : List He.Fa := [.glo "is_integer", .glo "is_whole", .glo "shared_by", .glo "is_duration", .glo "are_durations", .glo "wrong_part", .glo "need_table", .glo "is_table", .glo "bits_of", .glo "is_bits", .glo "is_tolerance", .glo "need_receiver", .glo "is_sent_by", .glo "is_sending", .glo "_law_begin", .glo "_law_next", .glo "_law_pick", .glo "_law_size", .glo "_law_table", .glo "_law_like", .glo "_law_receiver", .glo "_law_words", .glo "_law_said", .glo "_law_odd_pair", .glo "_law_sendings_right", .glo "law", .free "isinstance", .free "int", .free "bool", .free "tuple", .free "len", .free "all", .free "str", .free "enumerate", .free "range", .free "list", .int "LONGEST" 99999, .str "HALVES" "halves", .int "MOST_BITS" 8, .str "PAIRS" "pairs", .int "MOST_TABLES" 4, .glo "FrameError", .glo "BadRatio", .glo "BadTable", .glo "BadReceiver", .glo "Ratio"]
def ts : List He.Tab := []
def exs (K : PySem.W.Frag) : List Bool := [feB K "FrameError", oexB K "BadRatio" "given", oexB K "BadTable" "part", oexB K "BadReceiver" "place", exmB K "BadRatio" "BadRatio" true, exmB K "BadTable" "BadRatio" false, exmB K "BadReceiver" "BadRatio" false, exmB K "BadRatio" "BadTable" false, exmB K "BadTable" "BadTable" true, exmB K "BadReceiver" "BadTable" false, exmB K "BadRatio" "BadReceiver" false, exmB K "BadTable" "BadReceiver" false, exmB K "BadReceiver" "BadReceiver" true, isiCB K (He.ga K "Ratio"), clsB K (He.ga K "Ratio"), noAtB K (He.ga K "Ratio") ["own_num", "own_den"], mkB K (He.ga K "Ratio"), ownB K (He.ga K "Ratio") "__eq__", ownB K (He.ga K "Ratio") "__lt__", ownB K (He.ga K "Ratio") "__le__", ownB K (He.ga K "Ratio") "__gt__", ownB K (He.ga K "Ratio") "__ge__"]
def exB (K : PySem.W.Frag) : Bool := (exs K).all id
theorem ex_at {K : PySem.W.Frag} (h : exB K = true) {i : Nat} {b : Bool} (e : (exs K)[i]? = some b) : b = true := List.all_eq_true.mp h b (List.mem_of_getElem? e)
abbrev R : PySem.W.OpenRow := PySem.W.OpenLaw.row PySem.Challenge.rw_beamframes_k09_receivers
abbrev hk : PySem.W.Hook := hookZ 6 fa fn ts [] exB fz
def ob (s : PySem.W.SharedT) : AlZ := obsZ 6 fa fn ts [] exB fz (HandSHeadRun.getT s)
theorem ob_eq (s : PySem.W.SharedT) : ob s = hk.obs s.abs := obsZ_eq (HandSHeadRun.getT_eq s)
def nms0 : List Str := ["FrameError", "BadRatio", "BadTable", "BadReceiver", "DIGITS", "MOST_DIGITS", "is_integer", "is_whole", "shared_by", "number_in", "Ratio", "PAIRS", "HALVES", "LONGEST", "MOST_BITS", "is_duration", "are_durations", "wrong_part", "need_table", "is_table", "bits_of", "is_bits", "MOST_TABLES", "is_tolerance", "need_receiver", "is_sent_by", "is_sending", "_law_begin", "_law_next", "_law_pick"]
def nms1 : List Str := ["_law_size", "_law_table", "_law_like", "_law_receiver", "_law_words", "_law_frame", "_law_said", "_law_odd_pair", "_law_sendings_right"]
abbrev nms : List Str := nms0 ++ nms1
theorem ran_false (w : World) : HandSHeadRun.RunEq R (PySem.W.view R.prog [44]) hk ob 20000 nms (w.withFollow "special-get-raises" false) := by
  intro os
  kernel_rfl
theorem ran_true (w : World) : HandSHeadRun.RunEq R (PySem.W.view R.prog [44]) hk ob 20000 nms (w.withFollow "special-get-raises" true) := by
  intro os
  kernel_rfl
theorem ran (w : World) : HandSHeadRun.RunEq R (PySem.W.view R.prog [44]) hk ob 20000 nms w := PySem.W.byRow2 (P := fun w => HandSHeadRun.RunEq R (PySem.W.view R.prog [44]) hk ob 20000 nms w) "special-get-raises" ran_false ran_true w
theorem isi_of {K : PySem.W.Frag} {w : World} {h : Heap} (c : SaysZ fa fn ts [] exB fz w h K) : IsiC K (He.ga K "Ratio") := isiCB_ok (ex_at c.more (i := 13) rfl)
theorem facts {K : PySem.W.Frag} {w : World} {h : Heap} {mg : Str → Option Value} (X : K.In h) (G : h.Ns mainGlobals mg) (c : SaysZ fa fn ts [] exB fz w h K) (a : Addr) (ns : List Int) : Facts (mkG K a ns true fun _ => isi_of c) w mg where
  oc := fun _ => rfl
  cr := rfl
  hr := rfl
  i_Ratio := isi_of c
  m_Ratio := He.glo_ok X G (c.x.t.d.fact 45 (f := .glo "Ratio") rfl)
  c_Ratio := clsB_ok (ex_at c.more (i := 14) rfl)
  n_Ratio := noAtB_ok (ex_at c.more (i := 15) rfl)
  k_Ratio := mkB_ok (ex_at c.more (i := 16) rfl)
  ec := fun _ => rfl
  fe := feB_ok (ex_at c.more (i := 0) rfl)
  mfe := He.glo_ok X G (c.x.t.d.fact 41 (f := .glo "FrameError") rfl)
  i_BadRatio := by
    obtain ⟨fd, F⟩ := c.x.t.d.def_ 32 (d := dd_BadRatio) rfl
    exact ⟨fd, fun_of F⟩
  o_BadRatio := oexB_ok (ex_at c.more (i := 1) rfl)
  m_BadRatio := He.glo_ok X G (c.x.t.d.fact 42 (f := .glo "BadRatio") rfl)
  i_BadTable := by
    obtain ⟨fd, F⟩ := c.x.t.d.def_ 33 (d := dd_BadTable) rfl
    exact ⟨fd, fun_of F⟩
  o_BadTable := oexB_ok (ex_at c.more (i := 2) rfl)
  m_BadTable := He.glo_ok X G (c.x.t.d.fact 43 (f := .glo "BadTable") rfl)
  i_BadReceiver := by
    obtain ⟨fd, F⟩ := c.x.t.d.def_ 34 (d := dd_BadReceiver) rfl
    exact ⟨fd, fun_of F⟩
  o_BadReceiver := oexB_ok (ex_at c.more (i := 3) rfl)
  m_BadReceiver := He.glo_ok X G (c.x.t.d.fact 44 (f := .glo "BadReceiver") rfl)
  x_BadRatio_BadRatio := ex_at c.more (i := 4) rfl
  x_BadTable_BadRatio := ex_at c.more (i := 5) rfl
  x_BadReceiver_BadRatio := ex_at c.more (i := 6) rfl
  x_BadRatio_BadTable := ex_at c.more (i := 7) rfl
  x_BadTable_BadTable := ex_at c.more (i := 8) rfl
  x_BadReceiver_BadTable := ex_at c.more (i := 9) rfl
  x_BadRatio_BadReceiver := ex_at c.more (i := 10) rfl
  x_BadTable_BadReceiver := ex_at c.more (i := 11) rfl
  x_BadReceiver_BadReceiver := ex_at c.more (i := 12) rfl
  d_is_integer := by
    obtain ⟨fd, F⟩ := c.x.t.d.def_ 0 (d := dd_is_integer) rfl
    exact ⟨_, fd, fun_of F, He.glo_ok X G (c.x.t.d.fact 0 (f := .glo "is_integer") rfl)⟩
  d_is_whole := by
    obtain ⟨fd, F⟩ := c.x.t.d.def_ 1 (d := dd_is_whole) rfl
    exact ⟨_, fd, fun_of F, He.glo_ok X G (c.x.t.d.fact 1 (f := .glo "is_whole") rfl)⟩
  d_shared_by := by
    obtain ⟨fd, F⟩ := c.x.t.d.def_ 2 (d := dd_shared_by) rfl
    exact ⟨_, fd, fun_of F, He.glo_ok X G (c.x.t.d.fact 2 (f := .glo "shared_by") rfl)⟩
  f_Ratio_init := c.x.t.d.def_ 3 (d := dd_Ratio_init) rfl
  f_Ratio_eq := c.x.t.d.def_ 4 (d := dd_Ratio_eq) rfl
  w_Ratio_eq := ownB_ok (ex_at c.more (i := 17) rfl)
  f_Ratio_lt := c.x.t.d.def_ 5 (d := dd_Ratio_lt) rfl
  w_Ratio_lt := ownB_ok (ex_at c.more (i := 18) rfl)
  f_Ratio_le := c.x.t.d.def_ 6 (d := dd_Ratio_le) rfl
  w_Ratio_le := ownB_ok (ex_at c.more (i := 19) rfl)
  f_Ratio_gt := c.x.t.d.def_ 7 (d := dd_Ratio_gt) rfl
  w_Ratio_gt := ownB_ok (ex_at c.more (i := 20) rfl)
  f_Ratio_ge := c.x.t.d.def_ 8 (d := dd_Ratio_ge) rfl
  w_Ratio_ge := ownB_ok (ex_at c.more (i := 21) rfl)
  d_is_duration := by
    obtain ⟨fd, F⟩ := c.x.t.d.def_ 9 (d := dd_is_duration) rfl
    exact ⟨_, fd, fun_of F, He.glo_ok X G (c.x.t.d.fact 3 (f := .glo "is_duration") rfl)⟩
  d_are_durations := by
    obtain ⟨fd, F⟩ := c.x.t.d.def_ 10 (d := dd_are_durations) rfl
    exact ⟨_, fd, fun_of F, He.glo_ok X G (c.x.t.d.fact 4 (f := .glo "are_durations") rfl)⟩
  d_wrong_part := by
    obtain ⟨fd, F⟩ := c.x.t.d.def_ 11 (d := dd_wrong_part) rfl
    exact ⟨_, fd, fun_of F, He.glo_ok X G (c.x.t.d.fact 5 (f := .glo "wrong_part") rfl)⟩
  d_need_table := by
    obtain ⟨fd, F⟩ := c.x.t.d.def_ 12 (d := dd_need_table) rfl
    exact ⟨_, fd, fun_of F, He.glo_ok X G (c.x.t.d.fact 6 (f := .glo "need_table") rfl)⟩
  d_is_table := by
    obtain ⟨fd, F⟩ := c.x.t.d.def_ 13 (d := dd_is_table) rfl
    exact ⟨_, fd, fun_of F, He.glo_ok X G (c.x.t.d.fact 7 (f := .glo "is_table") rfl)⟩
  d_bits_of := by
    obtain ⟨fd, F⟩ := c.x.t.d.def_ 14 (d := dd_bits_of) rfl
    exact ⟨_, fd, fun_of F, He.glo_ok X G (c.x.t.d.fact 8 (f := .glo "bits_of") rfl)⟩
  d_is_bits := by
    obtain ⟨fd, F⟩ := c.x.t.d.def_ 15 (d := dd_is_bits) rfl
    exact ⟨_, fd, fun_of F, He.glo_ok X G (c.x.t.d.fact 9 (f := .glo "is_bits") rfl)⟩
  d_is_tolerance := by
    obtain ⟨fd, F⟩ := c.x.t.d.def_ 16 (d := dd_is_tolerance) rfl
    exact ⟨_, fd, fun_of F, He.glo_ok X G (c.x.t.d.fact 10 (f := .glo "is_tolerance") rfl)⟩
  d_need_receiver := by
    obtain ⟨fd, F⟩ := c.x.t.d.def_ 17 (d := dd_need_receiver) rfl
    exact ⟨_, fd, fun_of F, He.glo_ok X G (c.x.t.d.fact 11 (f := .glo "need_receiver") rfl)⟩
  d_is_sent_by := by
    obtain ⟨fd, F⟩ := c.x.t.d.def_ 18 (d := dd_is_sent_by) rfl
    exact ⟨_, fd, fun_of F, He.glo_ok X G (c.x.t.d.fact 12 (f := .glo "is_sent_by") rfl)⟩
  d_is_sending := by
    obtain ⟨fd, F⟩ := c.x.t.d.def_ 19 (d := dd_is_sending) rfl
    exact ⟨_, fd, fun_of F, He.glo_ok X G (c.x.t.d.fact 13 (f := .glo "is_sending") rfl)⟩
  d_law_begin := by
    obtain ⟨fd, F⟩ := c.x.t.d.def_ 20 (d := dd_law_begin) rfl
    exact ⟨_, fd, fun_of F, He.glo_ok X G (c.x.t.d.fact 14 (f := .glo "_law_begin") rfl)⟩
  d_law_next := by
    obtain ⟨fd, F⟩ := c.x.t.d.def_ 21 (d := dd_law_next) rfl
    exact ⟨_, fd, fun_of F, He.glo_ok X G (c.x.t.d.fact 15 (f := .glo "_law_next") rfl)⟩
  d_law_pick := by
    obtain ⟨fd, F⟩ := c.x.t.d.def_ 22 (d := dd_law_pick) rfl
    exact ⟨_, fd, fun_of F, He.glo_ok X G (c.x.t.d.fact 16 (f := .glo "_law_pick") rfl)⟩
  d_law_size := by
    obtain ⟨fd, F⟩ := c.x.t.d.def_ 23 (d := dd_law_size) rfl
    exact ⟨_, fd, fun_of F, He.glo_ok X G (c.x.t.d.fact 17 (f := .glo "_law_size") rfl)⟩
  d_law_table := by
    obtain ⟨fd, F⟩ := c.x.t.d.def_ 24 (d := dd_law_table) rfl
    exact ⟨_, fd, fun_of F, He.glo_ok X G (c.x.t.d.fact 18 (f := .glo "_law_table") rfl)⟩
  d_law_like := by
    obtain ⟨fd, F⟩ := c.x.t.d.def_ 25 (d := dd_law_like) rfl
    exact ⟨_, fd, fun_of F, He.glo_ok X G (c.x.t.d.fact 19 (f := .glo "_law_like") rfl)⟩
  d_law_receiver := by
    obtain ⟨fd, F⟩ := c.x.t.d.def_ 26 (d := dd_law_receiver) rfl
    exact ⟨_, fd, fun_of F, He.glo_ok X G (c.x.t.d.fact 20 (f := .glo "_law_receiver") rfl)⟩
  d_law_words := by
    obtain ⟨fd, F⟩ := c.x.t.d.def_ 27 (d := dd_law_words) rfl
    exact ⟨_, fd, fun_of F, He.glo_ok X G (c.x.t.d.fact 21 (f := .glo "_law_words") rfl)⟩
  d_law_said := by
    obtain ⟨fd, F⟩ := c.x.t.d.def_ 28 (d := dd_law_said) rfl
    exact ⟨_, fd, fun_of F, He.glo_ok X G (c.x.t.d.fact 22 (f := .glo "_law_said") rfl)⟩
  d_law_odd_pair := by
    obtain ⟨fd, F⟩ := c.x.t.d.def_ 29 (d := dd_law_odd_pair) rfl
    exact ⟨_, fd, fun_of F, He.glo_ok X G (c.x.t.d.fact 23 (f := .glo "_law_odd_pair") rfl)⟩
  d_law_sendings_right := by
    obtain ⟨fd, F⟩ := c.x.t.d.def_ 30 (d := dd_law_sendings_right) rfl
    exact ⟨_, fd, fun_of F, He.glo_ok X G (c.x.t.d.fact 24 (f := .glo "_law_sendings_right") rfl)⟩
  d_law := by
    obtain ⟨fd, F⟩ := c.x.t.d.def_ 31 (d := dd_law) rfl
    exact ⟨_, fd, fun_of F, He.glo_ok X G (c.x.t.d.fact 25 (f := .glo "law") rfl)⟩
  z_isinstance := He.free_ok X G (c.x.t.d.fact 26 (f := .free "isinstance") rfl)
  z_int := He.free_ok X G (c.x.t.d.fact 27 (f := .free "int") rfl)
  z_bool := He.free_ok X G (c.x.t.d.fact 28 (f := .free "bool") rfl)
  z_tuple := He.free_ok X G (c.x.t.d.fact 29 (f := .free "tuple") rfl)
  z_len := He.free_ok X G (c.x.t.d.fact 30 (f := .free "len") rfl)
  z_all := He.free_ok X G (c.x.t.d.fact 31 (f := .free "all") rfl)
  z_str := He.free_ok X G (c.x.t.d.fact 32 (f := .free "str") rfl)
  z_enumerate := He.free_ok X G (c.x.t.d.fact 33 (f := .free "enumerate") rfl)
  z_range := He.free_ok X G (c.x.t.d.fact 34 (f := .free "range") rfl)
  z_list := He.free_ok X G (c.x.t.d.fact 35 (f := .free "list") rfl)
  v_LONGEST := He.int_ok X G (c.x.t.d.fact 36 (f := .int "LONGEST" 99999) rfl)
  v_HALVES := He.str_ok X G (c.x.t.d.fact 37 (f := .str "HALVES" "halves") rfl)
  v_MOST_BITS := He.int_ok X G (c.x.t.d.fact 38 (f := .int "MOST_BITS" 8) rfl)
  v_PAIRS := He.str_ok X G (c.x.t.d.fact 39 (f := .str "PAIRS" "pairs") rfl)
  v_MOST_TABLES := He.int_ok X G (c.x.t.d.fact 40 (f := .int "MOST_TABLES" 4) rfl)
end L09

namespace L09
open PySem L2 DL U
section
variable {ms : MS} {n : Nat}
/-! ### _law_said -/
def verdict : D → Option D
  | .tup xs => if 1 ≤ xs.length ∧ xs.length ≤ 4 then (firstW xs 0).map (fun i => .int (i : Nat)) else some .non
  | _ => some .non
def saidL (d : D) : List D := match verdict d with
  | none => []
  | some x => [x]
inductive SaidQ : D → Prop
  | no {d : D} : flat d = true → (∀ xs, d ≠ .tup xs) → SaidQ d
  | tup {xs : List D} : (∀ x ∈ xs, Pr x) → (∀ k, locsLts k xs = true) → (verdict (.tup xs) = none → RcL 8 xs) → SaidQ (.tup xs)
theorem lk4 : (fun k : Nat => List.lookup k [(0, false), (1, false), (4, true)]) 4 = some true := rfl
theorem said_err {d x : D} (h : ∀ m : MS, F_need_receiver [d] m = .err 4 x m) (hx : ∀ k, locsLt k x = true) : F_law_said [d] ms = .ok (.lst [x]) ms := by
  refine cutF_here ?_ (by simp only [locsLt, locsLts, hx, Bool.and_self])
  have tf : ∀ (en : DE) (m : MS), 2 < en.length → kTryF (fun k => List.lookup k [(0, false), (1, false), (4, true)]) 4 2 1 true (.err 4 x en m) = .nx ((en.set 1 (some (.lst [x]))).set 2 none) m := fun en m hl => tryF_hit lk4 hl
  simp only [b_law_said, runD_ap, List.map_cons, List.map_nil, List.length_cons, List.length_nil, Nat.reduceAdd, Nat.reduceSub, List.replicate, List.cons_append, List.nil_append, sSeq_ap, sAsg_ap, sBin_ap, sCst_ap, kBin1_ok, sCall_ap, sCons_ap, sVar_ap, List.getElem?_cons_zero, List.getElem?_cons_succ, vR_some, kC1_ok, sNil_ap, kC2_ok, kCall_ok, ↓reduceIte, kBin2_ok, optR_some, kAsg_ok, gNm_ap, asgO_some, List.set_cons_succ, List.set_cons_zero, next_nx, next_ret, next_err, sIf_ap, sTst_ap, kTst_ok, kIf_f, kIf_t, sSkip_ap, sBif_ap, kBif_ok, sPar_ap, sTup_ap, kTup_ok, Nat.reduceLeDiff, kPar_ok, setAll, sRet_ap, kRet_ok, out_ret, out_nx, out_err, gTu_tup, gTu_lst, gsC_nm, gsC_tu, gsK_some, gsN, sNewL_ap, kNewL_ok, sAppend_ap, kApp0_some, kApp_ok, sAndV_ap, kAndV_ok, kAndV2_t, kAndV2_f, sOrV_ap, kOrV_ok, kOrV2_t, kOrV2_f, tru_bl, sIte_ap, kIte_t, kIte_f, sLst_ap, kLst_ok, sFor_ap, kFor_ok, sItems_ap, kItems_ok, itemsD, sNeg_ap, kNeg_ok, sSlc_ap, kS1_ok, kS2_ok, kS3_ok, sPart_ap, kPart_ok, sNoPart_ap, sOrT_ap, kOrT_f, kOrT_t, sAndT_ap, kAndT_t, kAndT_f, sNotT_ap, kNotT_ok, sNotV_ap, kNotV_ok, kNotV2_ok, sTru_ap, kTru_ok, sIsi_ap, kIsi_ok, sCallK_ap, kK1_ok, kK2_ok, and_self, sDrop_ap, kDrop_ok, sRetN_ap, sChain_ap, kCh1_ok, kCh2_ok, kCh3_t, kCh3_f, kCh4_ok, sTab_ap, kTab_ok, sAug_ap, kAug0_some, kAug1_ok, augO_some, iadd_int, isub_int, Bool.not_true, Bool.not_false, add_int, sub_int, eq_int, ne_int, lt_int, le_int, gt_int, ge_int, eq_str, ne_str, len_lst, len_tup, sRange1_ap, kRange1_ok, eq_self, decide_true, decide_false, eq_self_iff_true, pm_nil, pm_cons, sRev_ap, kRev_ok, rev_tup, rev_lst, sRaise_ap, kRaise_ok, sTry_ap, kTry_nx, kTry_ret, sTryF_ap, kTryF_nx, kAsg_err, kBin1_err, kBin2_err, kCall_err, kC1_err, kC2_err, kRet_err, kDrop_err, kIf_err, h, kIte_err, kTst_err, tf, Nat.reduceLT]
theorem said_ok {d : D} (h : SaidQ d) : F_law_said [d] ms = .ok (.lst (saidL d)) ms := by
  cases h with
  | no hf ht =>
    have z : saidL d = [.non] := by
      cases d with
      | tup xs => exact absurd rfl (ht xs)
      | _ => rfl
    rw [z]
    exact said_err (fun m => need_rcv_no hf ht) fun k => rfl
  | @tup xs hp hl hv =>
    have nr := fun m : MS => need_rcv (ms := m) hp hl
    unfold rcvR at nr
    by_cases hc : 1 ≤ xs.length ∧ xs.length ≤ 4
    · have e0 : verdict (.tup xs) = (firstW xs 0).map (fun i => D.int (i : Nat)) := by simp only [verdict, hc, and_self, if_true]
      unfold saidL
      rw [e0] at hv ⊢
      cases q : firstW xs 0 with
      | some i =>
        simp only [if_pos hc, q] at nr
        exact said_err nr fun k => rfl
      | none =>
        simp only [if_pos hc, q] at nr
        rw [q] at hv
        have hr := hv rfl
        have ex := fun m : MS => eqX_self (ms := m) hr (fun e => by subst e; simp at hc)
        refine cutF_here ?_ rfl
        show runD 3 b_law_said [.tup xs] ms = .ok (.lst []) ms
        generalize D.tup xs = X at *
        simp only [b_law_said, runD_ap, List.map_cons, List.map_nil, List.length_cons, List.length_nil, Nat.reduceAdd, Nat.reduceSub, List.replicate, List.cons_append, List.nil_append, sSeq_ap, sAsg_ap, sBin_ap, sCst_ap, kBin1_ok, sCall_ap, sCons_ap, sVar_ap, List.getElem?_cons_zero, List.getElem?_cons_succ, vR_some, kC1_ok, sNil_ap, kC2_ok, kCall_ok, ↓reduceIte, kBin2_ok, optR_some, kAsg_ok, gNm_ap, asgO_some, List.set_cons_succ, List.set_cons_zero, next_nx, next_ret, next_err, sIf_ap, sTst_ap, kTst_ok, kIf_f, kIf_t, sSkip_ap, sBif_ap, kBif_ok, sPar_ap, sTup_ap, kTup_ok, Nat.reduceLeDiff, kPar_ok, setAll, sRet_ap, kRet_ok, out_ret, out_nx, out_err, gTu_tup, gTu_lst, gsC_nm, gsC_tu, gsK_some, gsN, sNewL_ap, kNewL_ok, sAppend_ap, kApp0_some, kApp_ok, sAndV_ap, kAndV_ok, kAndV2_t, kAndV2_f, sOrV_ap, kOrV_ok, kOrV2_t, kOrV2_f, tru_bl, sIte_ap, kIte_t, kIte_f, sLst_ap, kLst_ok, sFor_ap, kFor_ok, sItems_ap, kItems_ok, itemsD, sNeg_ap, kNeg_ok, sSlc_ap, kS1_ok, kS2_ok, kS3_ok, sPart_ap, kPart_ok, sNoPart_ap, sOrT_ap, kOrT_f, kOrT_t, sAndT_ap, kAndT_t, kAndT_f, sNotT_ap, kNotT_ok, sNotV_ap, kNotV_ok, kNotV2_ok, sTru_ap, kTru_ok, sIsi_ap, kIsi_ok, sCallK_ap, kK1_ok, kK2_ok, and_self, sDrop_ap, kDrop_ok, sRetN_ap, sChain_ap, kCh1_ok, kCh2_ok, kCh3_t, kCh3_f, kCh4_ok, sTab_ap, kTab_ok, sAug_ap, kAug0_some, kAug1_ok, augO_some, iadd_int, isub_int, Bool.not_true, Bool.not_false, add_int, sub_int, eq_int, ne_int, lt_int, le_int, gt_int, ge_int, eq_str, ne_str, len_lst, len_tup, sRange1_ap, kRange1_ok, eq_self, decide_true, decide_false, eq_self_iff_true, pm_nil, pm_cons, sRev_ap, kRev_ok, rev_tup, rev_lst, sRaise_ap, kRaise_ok, sTry_ap, kTry_nx, kTry_ret, sTryF_ap, kTryF_nx, kAsg_err, kBin1_err, kBin2_err, kCall_err, kC1_err, kC2_err, kRet_err, kDrop_err, kIf_err, nr, ex]
    · have e0 : saidL (.tup xs) = [.non] := by unfold saidL; simp only [verdict, hc, if_false]
      rw [e0]
      simp only [if_neg hc] at nr
      exact said_err nr fun k => rfl
/-! ### what is no pair -/
def oddA (t s : D) : List D := [.non, t, .tup [t], .lst [t, s], .tup [t, s, s], .tup [s, t], .tup [t, .int 0], .tup [t, .str "1/4"]]
def oddB (ts : List D) (s : D) : List D := [.tup [.tup ts, .rat 1 1], .tup [.tup ts, .rat 9 8], .tup [.tup ts, .non], .tup [.lst ts, s], .tup [.tup (cutL ts none (some (-1))), s]]
def oddC (ts : List D) (s : D) : List D := [.tup [.tup [], s], .tup [.tup (cutL ts none (some (-1)) ++ [.int 9]), s], .tup [.non, s], .dic [] [], .tup [.tup ts, .bl true], .int 5, .tup []]
theorem mk98 {env : DE} : cutE (sMake true 0 F_Ratio_init 3 [] (sCons (sCst (.int 9)) (sCons (sCst (.int 8)) sNil))) env ms = .ok (.rat 9 8) ms := by
  refine cutE_ok (g := [.dead]) ?_ rfl
  have small : ∀ x : Nat, x < 100 → x < 2 ^ 8000 := fun x hx => Nat.lt_of_lt_of_le hx (Nat.le_trans (show 100 ≤ 2 ^ 7 by decide) (Nat.pow_le_pow_right (by decide) (by decide)))
  have e := mkEnd_ok (ms := ms) (n := 9) (d := 8) (small 9 (by decide)) (small 8 (by decide)) (by decide)
  show kMake true 0 F_Ratio_init 3 [] (.ok [.int 9, .int 8] ms) = _
  rw [kMake_ok]
  exact e
/-- a thing that stands for a pair, wrongly -/
def Odd (x : D) : Prop := Pr x ∧ pairB x = false ∧ ∀ k, locsLt k x = true
theorem tbB_tb {d : D} (h : tbB d = true) : Tb 8 d := by
  apply tb_due
  unfold tbB at h
  split at h
  · assumption
  · cases h
theorem tb_tup {most : Int} {t : D} (h : Tb most t) : ∃ ts, t = .tup ts ∧ (ts.length = 3 ∨ ts.length = 6) ∧ (∀ d ∈ ts, P1 6 d) ∧ tbB (.tup (cutL ts none (some (-1)))) = false ∧ tbB (.tup (cutL ts none (some (-1)) ++ [.int 9])) = false := by
  have p := due_items (tb_p2' h)
  cases h with
  | hv z b z0 z1 b0 b1 =>
    refine ⟨_, rfl, .inl rfl, p _ rfl, by kernel_rfl, ?_⟩
    cases q : tbB (.tup (cutL [D.str "halves", .int z, .int b] none (some (-1)) ++ [.int 9])) with
    | false => rfl
    | true =>
      have e : cutL [D.str "halves", .int z, .int b] none (some (-1)) ++ [.int 9] = [D.str "halves", .int z, .int 9] := rfl
      rw [e] at q
      have := tbB_tb q
      cases this
      omega
  | pr hs z0 z1 o0 o1 st b hc hh a1 a2 a3 a4 a5 a6 a7 a8 a9 a10 hne b0 b1 =>
    refine ⟨_, rfl, .inr rfl, p _ rfl, by kernel_rfl, ?_⟩
    cases q : tbB (.tup (cutL [D.str "pairs", .tup (hs.map D.int), .tup [.int z0, .int z1], .tup [.int o0, .int o1], .int st, .int b] none (some (-1)) ++ [.int 9])) with
    | false => rfl
    | true =>
      have e : cutL [D.str "pairs", .tup (hs.map D.int), .tup [.int z0, .int z1], .tup [.int o0, .int o1], .int st, .int b] none (some (-1)) ++ [.int 9] = [D.str "pairs", .tup (hs.map D.int), .tup [.int z0, .int z1], .tup [.int o0, .int o1], .int st, .int 9] := rfl
      rw [e] at q
      have hb : ∀ d : D, Tb 8 d → ∀ (a b c d' e : D) (i : Int), d = .tup [a, b, c, d', e, .int i] → i ≤ 8 := fun d h a b c d' e i hd => by
        cases h with
        | hv z b z0 z1 b0 b1 => cases hd
        | pr _ _ _ _ _ _ _ _ _ _ _ _ _ _ _ _ _ _ _ _ _ hbb => cases hd; exact hbb
      have := hb _ (tbB_tb q) _ _ _ _ _ 9 rfl
      omega
theorem cutM_mem {xs : List D} {lo hi : Option Int} {d : D} (h : d ∈ cutL xs lo hi) : d ∈ xs := List.mem_of_mem_drop (List.mem_of_mem_take h)
theorem cutM_len {xs : List D} {lo hi : Option Int} : (cutL xs lo hi).length ≤ xs.length := by
  unfold cutL
  rw [List.length_take, List.length_drop]
  omega
theorem p1s_locs {L : Nat} {ts : List D} (h : ∀ d ∈ ts, P1 L d) (k : Nat) : locsLts k ts = true := locs_all fun d hd => (h d hd).locs k
theorem odd_all {t : D} {a b : Int} (ht : Tb 5 t) (a0 : 0 ≤ a) (a1 : a < b) (a2 : b ≤ 40) : ∃ ts, t = .tup ts ∧ ts.length ≤ 6 ∧ ∀ x ∈ oddA t (.rat a b) ++ oddB ts (.rat a b) ++ oddC ts (.rat a b), Odd x := by
  obtain ⟨ts, rfl, hl, hp, t1, t2⟩ := tb_tup ht
  refine ⟨ts, rfl, by omega, ?_⟩
  have tq : TbQ (.tup ts) := .inl ⟨6, by omega, .tup (by omega) hp⟩
  have rq : TolQ (.rat a b) := tolQ_rat a0 a1 a2
  have rq1 : TolQ (.rat 1 1) := .inr ⟨1, 1, rfl, by omega, by omega, by omega, by omega⟩
  have rq2 : TolQ (.rat 9 8) := .inr ⟨9, 8, rfl, by omega, by omega, by omega, by omega⟩
  have rt : TbQ (.rat a b) := .inr ⟨a, b, rfl⟩
  have sl := p1s_locs hp
  have cl : ∀ k, locsLts k (cutL ts none (some (-1))) = true := fun k => locs_all fun d hd => (hp d (cutM_mem hd)).locs k
  have c9 : ∀ k, locsLts k (cutL ts none (some (-1)) ++ [.int 9]) = true := fun k => locs_all fun d hd => by
    rcases List.mem_append.mp hd with hd | hd
    · exact (hp d (cutM_mem hd)).locs k
    · rw [List.mem_singleton.mp hd]; rfl
  have clen := cutM_len (xs := ts) (lo := none) (hi := some (-1))
  have f0 : ∀ x : D, tolB x = false → pairB (.tup [.tup ts, x]) = false := fun x h => by simp only [pairB, h, Bool.and_false]
  have f1 : ∀ x y : D, tbB x = false → pairB (.tup [x, y]) = false := fun x y h => by simp only [pairB, h, Bool.false_and]
  intro x hx
  simp only [oddA, oddB, oddC, List.cons_append, List.nil_append, List.mem_cons, List.not_mem_nil, or_false] at hx
  rcases hx with rfl | rfl | rfl | rfl | rfl | rfl | rfl | rfl | rfl | rfl | rfl | rfl | rfl | rfl | rfl | rfl | rfl | rfl | rfl | rfl
  · exact ⟨.no rfl (fun _ e => by cases e), rfl, fun k => rfl⟩
  · refine ⟨.len (by omega), ?_, fun k => by simp only [locsLt]; exact sl k⟩
    match ts, hl with
    | [_, _, _], _ => rfl
    | [_, _, _, _, _, _], _ => rfl
  · exact ⟨.len (by simp), rfl, fun k => by simp only [locsLt, locsLts, Bool.and_true]; exact sl k⟩
  · exact ⟨.no rfl (fun _ e => by cases e), rfl, fun k => by simp only [locsLt, locsLts, Bool.and_true]; exact sl k⟩
  · exact ⟨.len (by simp), rfl, fun k => by simp only [locsLt, locsLts, Bool.and_true]; exact sl k⟩
  · exact ⟨.pair rt (.inl rfl), f1 _ _ rfl, fun k => by simp only [locsLt, locsLts, Bool.and_true, Bool.true_and]; exact sl k⟩
  · exact ⟨.pair tq (.inl rfl), f0 _ rfl, fun k => by simp only [locsLt, locsLts, Bool.and_true]; exact sl k⟩
  · exact ⟨.pair tq (.inl rfl), f0 _ rfl, fun k => by simp only [locsLt, locsLts, Bool.and_true]; exact sl k⟩
  · exact ⟨.pair tq rq1, f0 _ rfl, fun k => by simp only [locsLt, locsLts, Bool.and_true]; exact sl k⟩
  · exact ⟨.pair tq rq2, f0 _ rfl, fun k => by simp only [locsLt, locsLts, Bool.and_true]; exact sl k⟩
  · exact ⟨.pair tq (.inl rfl), f0 _ rfl, fun k => by simp only [locsLt, locsLts, Bool.and_true]; exact sl k⟩
  · exact ⟨.pair (.inl ⟨6, by omega, .lst (by omega) hp⟩) rq, f1 _ _ rfl, fun k => by simp only [locsLt, locsLts, Bool.and_true]; exact sl k⟩
  · exact ⟨.pair (.inl ⟨6, by omega, .tup (by omega) fun d hd => hp d (cutM_mem hd)⟩) rq, f1 _ _ t1, fun k => by simp only [locsLt, locsLts, Bool.and_true]; exact cl k⟩
  · exact ⟨.pair (.inl ⟨6, by omega, .tup (by simp) mem0⟩) rq, f1 _ _ rfl, fun k => rfl⟩
  · exact ⟨.pair (.inl ⟨7, by omega, .tup (by rw [List.length_append]; simp only [List.length_cons, List.length_nil]; omega) fun d hd => by
      rcases List.mem_append.mp hd with hd | hd
      · exact (hp d (cutM_mem hd)).to (by omega)
      · rw [List.mem_singleton.mp hd]; exact .up (.int 9)⟩) rq, f1 _ _ t2, fun k => by simp only [locsLt, locsLts, Bool.and_true]; exact c9 k⟩
  · exact ⟨.pair (.inl ⟨6, by omega, .up (.up .non)⟩) rq, f1 _ _ rfl, fun k => rfl⟩
  · exact ⟨.no rfl (fun _ e => by cases e), rfl, fun k => rfl⟩
  · exact ⟨.pair tq (.inl rfl), f0 _ rfl, fun k => by simp only [locsLt, locsLts, Bool.and_true]; exact sl k⟩
  · exact ⟨.no rfl (fun _ e => by cases e), rfl, fun k => rfl⟩
  · exact ⟨.len (by simp), rfl, fun k => rfl⟩
theorem odd_ok {B : Nat} {o : MO} {x : D} (hn : ms[n]? = some o) (dr : Dr B o) (hB : B < 900000) (hx : RcP 5 x) :
    ∃ (d : D) (o' : MO), F_law_odd_pair [.loc n, x] ms = .ok d (ms.set n o') ∧ Odd d ∧ Dr (B + 1) o' := by
  obtain ⟨t, a, b, rfl, tb, a0, a1, a2⟩ := hx
  obtain ⟨ts, rfl, tl, all⟩ := odd_all tb a0 a1 a2
  obtain ⟨d, o', e, mem, dr'⟩ := pickL (xs := oddA (.tup ts) (.rat a b) ++ oddB ts (.rat a b) ++ oddC ts (.rat a b)) hn dr (by omega) (by simp [oddA]) (by simp [oddA, oddB, oddC]) (locs_all fun d hd => (all d hd).2.2 _)
  refine ⟨d, o', cutF_set [] ?_ dr'.lt ((all d mem).2.2 _), all d mem, dr'⟩
  have un : ∀ (m : MS) (p2 p3 p4 : Option D), gTu 2 (gsCons (gNm 2) (gsCons (gNm 3) gsNil)) m (.tup [.tup ts, .rat a b]) [some (.loc n), some (.tup [.tup ts, .rat a b]), p2, p3, p4] = some [some (.loc n), some (.tup [.tup ts, .rat a b]), some (.tup ts), some (.rat a b), p4] := fun m p2 p3 p4 => rfl
  have li : ∀ m : MS, listD m [.tup ts] = some (.lst ts) := fun m => rfl
  have ad1 : ∀ m : MS, addD m (.lst (oddA (.tup ts) (.rat a b))) (.lst (oddB ts (.rat a b))) = some (.lst (oddA (.tup ts) (.rat a b) ++ oddB ts (.rat a b))) := fun m => add_lst (by simp [oddA, oddB])
  have ad2 : ∀ m : MS, addD m (.lst (oddA (.tup ts) (.rat a b) ++ oddB ts (.rat a b))) (.lst (oddC ts (.rat a b))) = some (.lst (oddA (.tup ts) (.rat a b) ++ oddB ts (.rat a b) ++ oddC ts (.rat a b))) := fun m => add_lst (by simp [oddA, oddB, oddC])
  have ad3 : ∀ m : MS, addD m (.tup (cutL ts none (some (-1)))) (.tup [.int 9]) = some (.tup (cutL ts none (some (-1)) ++ [.int 9])) := fun m => add_tup (by have := cutM_len (xs := ts) (lo := none) (hi := some (-1)); simp only [List.length_cons, List.length_nil]; omega)
  have d0 : ∀ (e : DE) (m : MS), sDic0 false e m = .ok (.dic [] []) m := fun e m => rfl
  have sc : ∀ m : MS, slcD m (.tup ts) none (some (-1)) = some (.tup (cutL ts none (some (-1)))) := fun m => rfl
  have m98 := fun (en : DE) (m : MS) => mk98 (ms := m) (env := en)
  have m1 := fun (en : DE) (m : MS) => mk_one (ms := m) (env := en)
  simp only [oddA, oddB, oddC, List.cons_append, List.nil_append] at ad1 ad2 e
  generalize cutL ts none (some (-1)) ++ [.int 9] = C9 at *
  generalize cutL ts none (some (-1)) = C1 at *
  clear all mem tb tl dr dr'
  simp only [b_law_odd_pair, runD_ap, List.map_cons, List.map_nil, List.length_cons, List.length_nil, Nat.reduceAdd, Nat.reduceSub, List.replicate, List.cons_append, List.nil_append, sSeq_ap, sAsg_ap, sBin_ap, sCst_ap, kBin1_ok, sCall_ap, sCons_ap, sVar_ap, List.getElem?_cons_zero, List.getElem?_cons_succ, vR_some, kC1_ok, sNil_ap, kC2_ok, kCall_ok, ↓reduceIte, kBin2_ok, optR_some, kAsg_ok, gNm_ap, asgO_some, List.set_cons_succ, List.set_cons_zero, next_nx, next_ret, next_err, sIf_ap, sTst_ap, kTst_ok, kIf_f, kIf_t, sSkip_ap, sBif_ap, kBif_ok, sPar_ap, sTup_ap, kTup_ok, Nat.reduceLeDiff, kPar_ok, setAll, sRet_ap, kRet_ok, out_ret, out_nx, out_err, gTu_tup, gTu_lst, gsC_nm, gsC_tu, gsK_some, gsN, sNewL_ap, kNewL_ok, sAppend_ap, kApp0_some, kApp_ok, sAndV_ap, kAndV_ok, kAndV2_t, kAndV2_f, sOrV_ap, kOrV_ok, kOrV2_t, kOrV2_f, tru_bl, sIte_ap, kIte_t, kIte_f, sLst_ap, kLst_ok, sFor_ap, kFor_ok, sItems_ap, kItems_ok, itemsD, sNeg_ap, kNeg_ok, sSlc_ap, kS1_ok, kS2_ok, kS3_ok, sPart_ap, kPart_ok, sNoPart_ap, sOrT_ap, kOrT_f, kOrT_t, sAndT_ap, kAndT_t, kAndT_f, sNotT_ap, kNotT_ok, sNotV_ap, kNotV_ok, kNotV2_ok, sTru_ap, kTru_ok, sIsi_ap, kIsi_ok, sCallK_ap, kK1_ok, kK2_ok, and_self, sDrop_ap, kDrop_ok, sRetN_ap, sChain_ap, kCh1_ok, kCh2_ok, kCh3_t, kCh3_f, kCh4_ok, sTab_ap, kTab_ok, sAug_ap, kAug0_some, kAug1_ok, augO_some, iadd_int, isub_int, Bool.not_true, Bool.not_false, add_int, sub_int, eq_int, ne_int, lt_int, le_int, gt_int, ge_int, eq_str, ne_str, len_lst, len_tup, sRange1_ap, kRange1_ok, eq_self, decide_true, decide_false, eq_self_iff_true, pm_nil, pm_cons, sRev_ap, kRev_ok, rev_tup, rev_lst, sRaise_ap, kRaise_ok, sTry_ap, kTry_nx, kTry_ret, sTryF_ap, kTryF_nx, kAsg_err, kBin1_err, kBin2_err, kCall_err, kC1_err, kC2_err, kRet_err, kDrop_err, kIf_err, un, li, ad1, ad2, ad3, d0, sc, m98, m1, e, List.append_nil]
end
end L09

namespace L09
open PySem L2 DL U
section
variable {ms : MS} {n : Nat}
theorem cut_m1 {xs : List D} : (cutL xs none (some (-1))).length = xs.length - 1 := by
  cases xs with
  | nil => rfl
  | cons x xs =>
    have e : HT.sIx (x :: xs).length (x :: xs).length (some (-1)) = (x :: xs).length - 1 := by
      unfold HT.sIx
      simp only [List.length_cons]
      split <;> omega
    simp only [cutL, e, HT.sIx_none, List.length_take, List.length_drop]
    omega
def sA (len k : Int) (ys : List D) : List D := [.tup [.int len, .tup ys], .tup [.int (-1), .tup ys], .tup [.non, .tup ys], .tup [.bl true, .tup ys], .tup [.int k, .tup (ys ++ [.int 0])], .tup [.int k, .lst ys], .tup [.int k]]
def sB (k : Int) (ys : List D) : List D := [.tup [.int k, .tup (cutL ys none (some (-1)))], .tup [.int k, .tup (cutL ys none (some (-1)) ++ [.int 2])], .tup [.int k, .tup ys, .int 0], .lst [.int k, .tup ys], .tup ys, .non, .int k, .tup [.tup ys, .int k]]
def sC (k : Int) (ys : List D) : List D := [.tup [.int k, .tup (cutL ys none (some (-1)) ++ [.bl true])], .tup [.int k, .non], .tup [.str "0", .tup ys], .dic [] []]
theorem flat_app {xs ys : List D} (hx : ∀ d ∈ xs, flat d = true) (hy : ∀ d ∈ ys, flat d = true) : ∀ d ∈ xs ++ ys, flat d = true := fun d hd => (List.mem_append.mp hd).elim (hx d) (hy d)
theorem one_flat {x : D} (h : flat x = true) : ∀ d ∈ [x], flat d = true := fun d hd => by rw [List.mem_singleton.mp hd]; exact h
theorem sents {xs : List D} {i : Nat} {t : D} {c e : Int} {w : List Int} (h1 : 1 ≤ xs.length) (hi : xs[i]? = some (.tup [t, .rat c e])) (hw : (w.length : Int) = bitsD t) (b1 : 1 ≤ bitsD t) (b2 : bitsD t ≤ 8) :
    ∀ d ∈ sA xs.length i (w.map D.int) ++ sB i (w.map D.int) ++ sC i (w.map D.int), SQ d ∧ sentB xs d = false ∧ ∀ k, locsLt k d = true := by
  have fi := flat_ints w
  have lw : (w.map D.int).length ≤ 8 := by rw [List.length_map]; omega
  have cf : ∀ d ∈ cutL (w.map D.int) none (some (-1)), flat d = true := fun d hd => fi d (cutM_mem hd)
  have cl : (cutL (w.map D.int) none (some (-1))).length + 1 = w.length := by rw [cut_m1, List.length_map]; omega
  have wq : WQ (.tup (w.map D.int)) := ⟨rfl, fun ys e => by cases e; exact ⟨by omega, fi⟩⟩
  have wq0 : ∀ z, flat z = true → WQ (.tup (w.map D.int ++ [z])) := fun z hz => ⟨rfl, fun ys e => by cases e; exact ⟨by rw [List.length_append]; simp only [List.length_cons, List.length_nil]; omega, flat_app fi (one_flat hz)⟩⟩
  have wqc : ∀ z, flat z = true → WQ (.tup (cutL (w.map D.int) none (some (-1)) ++ [z])) := fun z hz => ⟨rfl, fun ys e => by cases e; exact ⟨by rw [List.length_append]; simp only [List.length_cons, List.length_nil]; omega, flat_app cf (one_flat hz)⟩⟩
  have wqd : WQ (.tup (cutL (w.map D.int) none (some (-1)))) := ⟨rfl, fun ys e => by cases e; exact ⟨by omega, cf⟩⟩
  have wql : WQ (.lst (w.map D.int)) := ⟨rfl, fun ys e => by cases e⟩
  have wqn : ∀ z : D, flat z = true → isTup z = false → WQ z := fun z h1 h2 => ⟨h1, fun ys e => by subst e; cases h2⟩
  have li : ∀ k, locsLts k (w.map D.int) = true := fun k => locs_ints _ _
  have lc : ∀ k, locsLts k (cutL (w.map D.int) none (some (-1))) = true := fun k => locs_all fun d hd => by
    obtain ⟨z, _, rfl⟩ := List.mem_map.mp (cutM_mem hd); rfl
  have la : ∀ (ys : List D) (z : D) (k : Nat), locsLts k ys = true → locsLt k z = true → locsLts k (ys ++ [z]) = true := fun ys z k h1 h2 => locs_all fun d hd => by
    rcases List.mem_append.mp hd with hd | hd
    · exact locs_mem h1 hd
    · rw [List.mem_singleton.mp hd]; exact h2
  have sk : ∀ w' : D, bitsB t w' = false → sentB xs (.tup [.int (i : Nat), w']) = false := fun w' h => by
    simp only [sentB, Int.toNat_natCast, hi, h, Bool.and_false]
  have bl : ∀ ys : List D, (ys.length : Int) ≠ bitsD t → bitsB t (.tup ys) = false := fun ys h => by
    simp only [bitsB, decide_eq_false h, Bool.false_and]
  have ba : ∀ (ys : List D) (z : D), wholeB z 0 1 = false → bitsB t (.tup (ys ++ [z])) = false := fun ys z h => by
    simp only [bitsB, List.all_append, List.all_cons, h, Bool.false_and, Bool.and_false]
  intro d hd
  simp only [sA, sB, sC, List.cons_append, List.nil_append, List.mem_cons, List.not_mem_nil, or_false] at hd
  rcases hd with rfl | rfl | rfl | rfl | rfl | rfl | rfl | rfl | rfl | rfl | rfl | rfl | rfl | rfl | rfl | rfl | rfl | rfl | rfl
  · refine ⟨.pair rfl wq, ?_, fun k => by simp only [locsLt, locsLts, Bool.and_true, Bool.true_and]; exact li k⟩
    have : wholeB (.int (xs.length : Int)) 0 ((xs.length : Int) - 1) = false := by
      simp only [wholeB, Bool.and_eq_false_iff, decide_eq_false_iff_not]; omega
    simp only [sentB, this, Bool.false_and]
  · refine ⟨.pair rfl wq, ?_, fun k => by simp only [locsLt, locsLts, Bool.and_true, Bool.true_and]; exact li k⟩
    have : wholeB (.int (-1)) 0 ((xs.length : Int) - 1) = false := rfl
    simp only [sentB, this, Bool.false_and]
  · exact ⟨.pair rfl wq, rfl, fun k => by simp only [locsLt, locsLts, Bool.and_true, Bool.true_and]; exact li k⟩
  · exact ⟨.pair rfl wq, rfl, fun k => by simp only [locsLt, locsLts, Bool.and_true, Bool.true_and]; exact li k⟩
  · exact ⟨.pair rfl (wq0 _ rfl), sk _ (bl _ (by rw [List.length_append, List.length_map]; simp only [List.length_cons, List.length_nil]; omega)), fun k => by simp only [locsLt, locsLts, Bool.and_true, Bool.true_and]; exact la _ _ k (li k) rfl⟩
  · exact ⟨.pair rfl wql, sk _ rfl, fun k => by simp only [locsLt, locsLts, Bool.and_true, Bool.true_and]; exact li k⟩
  · exact ⟨.len (by simp), rfl, fun k => rfl⟩
  · exact ⟨.pair rfl wqd, sk _ (bl _ (by omega)), fun k => by simp only [locsLt, locsLts, Bool.and_true, Bool.true_and]; exact lc k⟩
  · exact ⟨.pair rfl (wqc _ rfl), sk _ (ba _ _ rfl), fun k => by simp only [locsLt, locsLts, Bool.and_true, Bool.true_and]; exact la _ _ k (lc k) rfl⟩
  · exact ⟨.len (by simp), rfl, fun k => by simp only [locsLt, locsLts, Bool.and_true, Bool.true_and]; exact li k⟩
  · exact ⟨.no rfl (fun _ e => by cases e), rfl, fun k => by simp only [locsLt, locsLts, Bool.and_true, Bool.true_and]; exact li k⟩
  · by_cases h2 : w.length = 2
    · obtain ⟨a, b, rfl⟩ : ∃ a b, w = [a, b] := by
        match w, h2 with
        | [a, b], _ => exact ⟨a, b, rfl⟩
      refine ⟨.pair rfl (wqn _ rfl rfl), ?_, fun k => rfl⟩
      show sentB xs (.tup [.int a, .int b]) = false
      simp only [sentB]
      split <;> simp [bitsB]
    · refine ⟨.len (by rw [List.length_map]; exact h2), ?_, fun k => by simp only [locsLt]; exact li k⟩
      match w, h2 with
      | [], _ => rfl
      | [_], _ => rfl
      | _ :: _ :: _ :: _, _ => rfl
      | [_, _], h => exact absurd rfl h
  · exact ⟨.no rfl (fun _ e => by cases e), rfl, fun k => rfl⟩
  · exact ⟨.no rfl (fun _ e => by cases e), rfl, fun k => rfl⟩
  · exact ⟨.pair rfl (wqn _ rfl rfl), rfl, fun k => by simp only [locsLt, locsLts, Bool.and_true, Bool.true_and]; exact li k⟩
  · exact ⟨.pair rfl (wqc _ rfl), sk _ (ba _ _ rfl), fun k => by simp only [locsLt, locsLts, Bool.and_true, Bool.true_and]; exact la _ _ k (lc k) rfl⟩
  · exact ⟨.pair rfl (wqn _ rfl rfl), sk _ rfl, fun k => rfl⟩
  · exact ⟨.pair rfl wq, rfl, fun k => by simp only [locsLt, locsLts, Bool.and_true, Bool.true_and]; exact li k⟩
  · exact ⟨.no rfl (fun _ e => by cases e), rfl, fun k => rfl⟩
noncomputable abbrev rrE : SE := (sLc (sItems (sVar 5)) [6] (gNm 6) (sTst (sBin isnD (sCall F_is_sending 2 (sCons (sVar 1) (sCons (sVar 6) sNil))) (sCst (.bl false)))) (sVar 6))
theorem rr_ok {xs ds : List D} {p0 p2 p3 p4 p6 : Option D} (hx : RcL 5 xs) (h1 : 1 ≤ xs.length) (h4 : xs.length ≤ 4) (hd : ∀ d ∈ ds, SQ d ∧ sentB xs d = false ∧ ∀ k, locsLt k d = true) (hl : ds.length ≤ 1000) :
    rrE [p0, some (.tup xs), p2, p3, p4, some (.lst ds), p6] ms = .ok (.lst []) ms := by
  have lc := sLc_pure (ms := ms) (env := [p0, some (.tup xs), p2, p3, p4, some (.lst ds), p6]) (fi := sItems (sVar 5)) (vs := [6]) (gt := gNm 6) (tt := sTst (sBin isnD (sCall F_is_sending 2 (sCons (sVar 1) (sCons (sVar 6) sNil))) (sCst (.bl false)))) (fe := sVar 6) (ds := ds) (fun _ => false) (fun d => d) (by simp [itemsD])
    (fun d hm acc => ⟨[p0, some (.tup xs), p2, p3, p4, some (.lst ds), some d], rfl, by
      have e := sending_ok (ms := ms ++ [.lst acc]) hx (by omega) h1 h4 (hd d hm).1
      rw [(hd d hm).2.1] at e
      have nn : ∀ m : MS, isnD m (.bl false) (.bl false) = some (.bl false) := fun m => rfl
      simp only [runD_ap, List.map_cons, List.map_nil, List.length_cons, List.length_nil, Nat.reduceAdd, Nat.reduceSub, List.replicate, List.cons_append, List.nil_append, sSeq_ap, sAsg_ap, sBin_ap, sCst_ap, kBin1_ok, sCall_ap, sCons_ap, sVar_ap, List.getElem?_cons_zero, List.getElem?_cons_succ, vR_some, kC1_ok, sNil_ap, kC2_ok, kCall_ok, ↓reduceIte, kBin2_ok, optR_some, kAsg_ok, gNm_ap, asgO_some, List.set_cons_succ, List.set_cons_zero, next_nx, next_ret, next_err, sIf_ap, sTst_ap, kTst_ok, kIf_f, kIf_t, sSkip_ap, sBif_ap, kBif_ok, sPar_ap, sTup_ap, kTup_ok, Nat.reduceLeDiff, kPar_ok, setAll, sRet_ap, kRet_ok, out_ret, out_nx, out_err, gTu_tup, gTu_lst, gsC_nm, gsC_tu, gsK_some, gsN, sNewL_ap, kNewL_ok, sAppend_ap, kApp0_some, kApp_ok, sAndV_ap, kAndV_ok, kAndV2_t, kAndV2_f, sOrV_ap, kOrV_ok, kOrV2_t, kOrV2_f, tru_bl, sIte_ap, kIte_t, kIte_f, sLst_ap, kLst_ok, sFor_ap, kFor_ok, sItems_ap, kItems_ok, itemsD, sNeg_ap, kNeg_ok, sSlc_ap, kS1_ok, kS2_ok, kS3_ok, sPart_ap, kPart_ok, sNoPart_ap, sOrT_ap, kOrT_f, kOrT_t, sAndT_ap, kAndT_t, kAndT_f, sNotT_ap, kNotT_ok, sNotV_ap, kNotV_ok, kNotV2_ok, sTru_ap, kTru_ok, sIsi_ap, kIsi_ok, sCallK_ap, kK1_ok, kK2_ok, and_self, sDrop_ap, kDrop_ok, sRetN_ap, sChain_ap, kCh1_ok, kCh2_ok, kCh3_t, kCh3_f, kCh4_ok, sTab_ap, kTab_ok, sAug_ap, kAug0_some, kAug1_ok, augO_some, iadd_int, isub_int, Bool.not_true, Bool.not_false, add_int, sub_int, eq_int, ne_int, lt_int, le_int, gt_int, ge_int, eq_str, ne_str, len_lst, len_tup, sRange1_ap, kRange1_ok, eq_self, decide_true, decide_false, eq_self_iff_true, pm_nil, pm_cons, sRev_ap, kRev_ok, rev_tup, rev_lst, sRaise_ap, kRaise_ok, sTry_ap, kTry_nx, kTry_ret, sTryF_ap, kTryF_nx, kAsg_err, kBin1_err, kBin2_err, kCall_err, kC1_err, kC2_err, kRet_err, kDrop_err, kIf_err, e, nn], fun z => by cases z⟩) (by omega) (by have e0 : ds.filter (fun _ => false) = [] := (by simp); rw [e0]; rfl)
  have e0 : ds.filter (fun _ => false) = [] := by simp
  rw [e0] at lc
  exact lc
noncomputable abbrev srA : SS := (sAsg (sLst (sCons (sTup (sCons (sBif lenD (sCons (sVar 1) sNil)) (sCons (sVar 3) sNil))) (sCons (sTup (sCons (sNeg (sCst (.int 1))) (sCons (sVar 3) sNil))) (sCons (sTup (sCons (sCst .non) (sCons (sVar 3) sNil))) (sCons (sTup (sCons (sCst (.bl true)) (sCons (sVar 3) sNil))) (sCons (sTup (sCons (sVar 2) (sCons (sBin addD (sVar 3) (sTup (sCons (sCst (.int 0)) sNil))) sNil))) (sCons (sTup (sCons (sVar 2) (sCons (sBif listD (sCons (sVar 3) sNil)) sNil))) (sCons (sTup (sCons (sVar 2) sNil)) sNil)))))))) (gNm 4))
noncomputable abbrev srB : SS := (sAsg (sBin addD (sVar 4) (sLst (sCons (sTup (sCons (sVar 2) (sCons (sSlc (sVar 3) sNoPart (sPart (sNeg (sCst (.int 1))))) sNil))) (sCons (sTup (sCons (sVar 2) (sCons (sBin addD (sSlc (sVar 3) sNoPart (sPart (sNeg (sCst (.int 1))))) (sTup (sCons (sCst (.int 2)) sNil))) sNil))) (sCons (sTup (sCons (sVar 2) (sCons (sVar 3) (sCons (sCst (.int 0)) sNil)))) (sCons (sLst (sCons (sVar 2) (sCons (sVar 3) sNil))) (sCons (sVar 3) (sCons (sCst .non) (sCons (sVar 2) (sCons (sTup (sCons (sVar 3) (sCons (sVar 2) sNil))) sNil)))))))))) (gNm 4))
noncomputable abbrev srC : SS := (sAsg (sBin addD (sVar 4) (sLst (sCons (sTup (sCons (sVar 2) (sCons (sBin addD (sSlc (sVar 3) sNoPart (sPart (sNeg (sCst (.int 1))))) (sTup (sCons (sCst (.bl true)) sNil))) sNil))) (sCons (sTup (sCons (sVar 2) (sCons (sCst .non) sNil))) (sCons (sTup (sCons (sCst (.str "0")) (sCons (sVar 3) sNil))) (sCons (sDic0 false) sNil)))))) (gNm 5))
noncomputable abbrev srI : SS := (sIf (sOrT (sTst (sBin isnD (sCall F_is_sending 2 (sCons (sVar 1) (sCons (sTup (sCons (sVar 2) (sCons (sVar 3) sNil))) sNil))) (sCst (.bl true)))) (sTst (sBin isnD (sCallK F_is_sending ⟨0, ["thing", "receiver"], [1, 0]⟩ sNil (sCons (sTup (sCons (sVar 2) (sCons (sVar 3) sNil))) (sCons (sVar 1) sNil))) (sCst (.bl true)))))
    (sRet (sCst (.bl false)))
    sSkip)
theorem b_sr_eq : b_law_sendings_right = (sSeq (sAsg (sCall F_law_next 2 (sCons (sVar 0) (sCons (sBif lenD (sCons (sVar 1) sNil)) sNil))) (gNm 2))
    (sSeq (sAsg (sCall F_law_pick 2 (sCons (sVar 0) (sCons (sCall F_law_words 1 (sCons (sBin atD (sBin atD (sBin atD (sVar 1) (sVar 2)) (sCst (.int 0))) (sNeg (sCst (.int 1)))) sNil)) sNil))) (gNm 3))
    (sSeq srI (sSeq srA (sSeq srB (sSeq srC (sRet (sBin eqD rrE (sLst sNil))))))))) := rfl
theorem sendings_ok {B : Nat} {o : MO} {xs : List D} (hn : ms[n]? = some o) (dr : Dr B o) (hB : B < 900000) (hx : RcL 5 xs) (h1 : 1 ≤ xs.length) (h4 : xs.length ≤ 4) :
    ∃ o' : MO, F_law_sendings_right [.loc n, .tup xs] ms = .ok (.bl true) (ms.set n o') ∧ Dr (B + 2) o' := by
  obtain ⟨k, o1, e1, k0, k1, d1⟩ := next_ok (many := (xs.length : Int)) hn dr (by omega) (by omega) (by omega)
  obtain ⟨i, rfl⟩ := Int.eq_ofNat_of_zero_le k0
  have hi : i < xs.length := by omega
  obtain ⟨t, c, e, hxi, tb, _⟩ := hx xs[i] (List.getElem_mem hi)
  have gi : xs[i]? = some (.tup [t, .rat c e]) := by rw [List.getElem?_eq_getElem hi, hxi]
  obtain ⟨_, b1, b2, bl⟩ := bits_ok (ms := ms) tb
  have hne : WL (bitsD t).toNat ≠ [] := fun z => by
    have := WL_len (bitsD t).toNat
    rw [z] at this
    exact absurd this (by have := Nat.two_pow_pos (bitsD t).toNat; simp; omega)
  have wlen : (WL (bitsD t).toNat).length ≤ 32 := by
    rw [WL_len]
    exact Nat.le_trans (Nat.pow_le_pow_right (by omega) (show (bitsD t).toNat ≤ 5 by omega)) (by decide)
  obtain ⟨d, o2, e2, mem, d2⟩ := pickL (xs := (WL (bitsD t).toNat).map wD) (set_at (o := o1) hn) d1 (by omega) (fun z => hne (List.map_eq_nil_iff.mp z)) (by rw [List.length_map]; omega) (locs_words _ _)
  rw [List.set_set] at e2
  obtain ⟨w, hw, rfl⟩ := List.mem_map.mp mem
  obtain ⟨wl, wb⟩ := WL_bits _ w hw
  have all := sents (w := w) h1 gi (by omega) b1 (by omega)
  have lw := fun m : MS => law_words_ok (ms := m) (k := bitsD t) (by omega) (by omega)
  have sq : SQ (.tup [.int (i : Nat), wD w]) := .pair rfl ⟨rfl, fun ys e => by cases e; exact ⟨by rw [List.length_map]; omega, flat_ints w⟩⟩
  have sn := fun m : MS => sending_ok (ms := m) hx (by omega) h1 h4 sq
  have st : sentB xs (.tup [.int (i : Nat), wD w]) = true := by
    have q : wholeB (.int (i : Nat)) 0 ((xs.length : Int) - 1) = true := by simp only [wholeB, Bool.and_eq_true, decide_eq_true_eq]; omega
    simp only [sentB, q, Bool.true_and, Int.toNat_natCast, gi, bitsB, wD, Bool.and_eq_true, decide_eq_true_eq, List.length_map]
    exact ⟨by omega, whole_ints wb⟩
  rw [st] at sn
  have a1 : ∀ m : MS, atD m (.tup xs) (.int (i : Nat)) = some (.tup [t, .rat c e]) := fun m => by
    obtain ⟨d, e1, e2⟩ := atI_nat (xs := xs) (i := (i : Int)) (by omega) (by omega)
    show atI xs i = _
    rw [e1, ← e2, Int.toNat_natCast]; exact gi
  have a2 : ∀ m : MS, atD m (.tup [t, .rat c e]) (.int 0) = some t := fun m => rfl
  have e1' : F_law_next [.loc n, .int xs.length] ms = .ok (.int (i : Nat)) (ms.set n o1) := e1
  have lx : ∀ m : MS, lenD m [.tup xs] = some (.int xs.length) := fun m => rfl
  have tt : ∀ m : MS, isnD m (.bl true) (.bl true) = some (.bl false) := fun m => rfl
  have rr := fun (m : MS) (p0 p2 p3 p4 p6 : Option D) => rr_ok (ms := m) (p0 := p0) (p2 := p2) (p3 := p3) (p4 := p4) (p6 := p6) hx h1 h4 all (by simp [sA, sB, sC])
  have ee : ∀ m : MS, eqD m (.lst []) (.lst []) = some (.bl true) := fun m => by kernel_rfl
  have li : ∀ m : MS, listD m [.tup (w.map D.int)] = some (.lst (w.map D.int)) := fun m => rfl
  have sc : ∀ m : MS, slcD m (.tup (w.map D.int)) none (some (-1)) = some (.tup (cutL (w.map D.int) none (some (-1)))) := fun m => rfl
  have c1 := cutM_len (xs := w.map D.int) (lo := none) (hi := some (-1))
  have lwm : (w.map D.int).length ≤ 5 := by rw [List.length_map]; omega
  have ad0 : ∀ (m : MS) (z : D), addD m (.tup (w.map D.int)) (.tup [z]) = some (.tup (w.map D.int ++ [z])) := fun m z => add_tup (by simp only [List.length_cons, List.length_nil]; omega)
  have ad1 : ∀ (m : MS) (z : D), addD m (.tup (cutL (w.map D.int) none (some (-1)))) (.tup [z]) = some (.tup (cutL (w.map D.int) none (some (-1)) ++ [z])) := fun m z => add_tup (by simp only [List.length_cons, List.length_nil]; omega)
  have ad2 : ∀ m : MS, addD m (.lst (sA xs.length i (w.map D.int))) (.lst (sB i (w.map D.int))) = some (.lst (sA xs.length i (w.map D.int) ++ sB i (w.map D.int))) := fun m => add_lst (by simp [sA, sB])
  have ad3 : ∀ m : MS, addD m (.lst (sA xs.length i (w.map D.int) ++ sB i (w.map D.int))) (.lst (sC i (w.map D.int))) = some (.lst (sA xs.length i (w.map D.int) ++ sB i (w.map D.int) ++ sC i (w.map D.int))) := fun m => add_lst (by simp [sA, sB, sC])
  have d0 : ∀ (e : DE) (m : MS), sDic0 false e m = .ok (.dic [] []) m := fun e m => rfl
  have hwD : wD w = .tup (w.map D.int) := rfl
  rw [hwD] at e2 sn
  generalize hW : D.tup (w.map D.int) = W at *
  have SA : ∀ (p4 p5 p6 : Option D) (m : MS), srA [some (.loc n), some (.tup xs), some (.int (i : Nat)), some W, p4, p5, p6] m = .nx [some (.loc n), some (.tup xs), some (.int (i : Nat)), some W, some (.lst (sA xs.length i (w.map D.int))), p5, p6] m := fun p4 p5 p6 m => by
    simp only [srA, runD_ap, List.map_cons, List.map_nil, List.length_cons, List.length_nil, Nat.reduceAdd, Nat.reduceSub, List.replicate, List.cons_append, List.nil_append, sSeq_ap, sAsg_ap, sBin_ap, sCst_ap, kBin1_ok, sCall_ap, sCons_ap, sVar_ap, List.getElem?_cons_zero, List.getElem?_cons_succ, vR_some, kC1_ok, sNil_ap, kC2_ok, kCall_ok, ↓reduceIte, kBin2_ok, optR_some, kAsg_ok, gNm_ap, asgO_some, List.set_cons_succ, List.set_cons_zero, next_nx, next_ret, next_err, sIf_ap, sTst_ap, kTst_ok, kIf_f, kIf_t, sSkip_ap, sBif_ap, kBif_ok, sPar_ap, sTup_ap, kTup_ok, Nat.reduceLeDiff, kPar_ok, setAll, sRet_ap, kRet_ok, out_ret, out_nx, out_err, gTu_tup, gTu_lst, gsC_nm, gsC_tu, gsK_some, gsN, sNewL_ap, kNewL_ok, sAppend_ap, kApp0_some, kApp_ok, sAndV_ap, kAndV_ok, kAndV2_t, kAndV2_f, sOrV_ap, kOrV_ok, kOrV2_t, kOrV2_f, tru_bl, sIte_ap, kIte_t, kIte_f, sLst_ap, kLst_ok, sFor_ap, kFor_ok, sItems_ap, kItems_ok, itemsD, sNeg_ap, kNeg_ok, sSlc_ap, kS1_ok, kS2_ok, kS3_ok, sPart_ap, kPart_ok, sNoPart_ap, sOrT_ap, kOrT_f, kOrT_t, sAndT_ap, kAndT_t, kAndT_f, sNotT_ap, kNotT_ok, sNotV_ap, kNotV_ok, kNotV2_ok, sTru_ap, kTru_ok, sIsi_ap, kIsi_ok, sCallK_ap, kK1_ok, kK2_ok, and_self, sDrop_ap, kDrop_ok, sRetN_ap, sChain_ap, kCh1_ok, kCh2_ok, kCh3_t, kCh3_f, kCh4_ok, sTab_ap, kTab_ok, sAug_ap, kAug0_some, kAug1_ok, augO_some, iadd_int, isub_int, Bool.not_true, Bool.not_false, add_int, sub_int, eq_int, ne_int, lt_int, le_int, gt_int, ge_int, eq_str, ne_str, len_lst, len_tup, sRange1_ap, kRange1_ok, eq_self, decide_true, decide_false, eq_self_iff_true, pm_nil, pm_cons, sRev_ap, kRev_ok, rev_tup, rev_lst, sRaise_ap, kRaise_ok, sTry_ap, kTry_nx, kTry_ret, sTryF_ap, kTryF_nx, kAsg_err, kBin1_err, kBin2_err, kCall_err, kC1_err, kC2_err, kRet_err, kDrop_err, kIf_err, lx, ad0, li, sA, hW]
  have SB : ∀ (p5 p6 : Option D) (m : MS), srB [some (.loc n), some (.tup xs), some (.int (i : Nat)), some W, some (.lst (sA xs.length i (w.map D.int))), p5, p6] m = .nx [some (.loc n), some (.tup xs), some (.int (i : Nat)), some W, some (.lst (sA xs.length i (w.map D.int) ++ sB i (w.map D.int))), p5, p6] m := fun p5 p6 m => by
    generalize hAA : sA xs.length i (w.map D.int) = AA at *
    have ad2' : ∀ m : MS, addD m (.lst AA) (.lst [.tup [.int (i : Nat), .tup (cutL (w.map D.int) none (some (-1)))], .tup [.int (i : Nat), .tup (cutL (w.map D.int) none (some (-1)) ++ [.int 2])], .tup [.int (i : Nat), W, .int 0], .lst [.int (i : Nat), W], W, .non, .int (i : Nat), .tup [W, .int (i : Nat)]]) = some (.lst (AA ++ sB i (w.map D.int))) := fun m => by
      rw [← ad2 m]; simp only [sB, hW]
    simp only [srB, runD_ap, List.map_cons, List.map_nil, List.length_cons, List.length_nil, Nat.reduceAdd, Nat.reduceSub, List.replicate, List.cons_append, List.nil_append, sSeq_ap, sAsg_ap, sBin_ap, sCst_ap, kBin1_ok, sCall_ap, sCons_ap, sVar_ap, List.getElem?_cons_zero, List.getElem?_cons_succ, vR_some, kC1_ok, sNil_ap, kC2_ok, kCall_ok, ↓reduceIte, kBin2_ok, optR_some, kAsg_ok, gNm_ap, asgO_some, List.set_cons_succ, List.set_cons_zero, next_nx, next_ret, next_err, sIf_ap, sTst_ap, kTst_ok, kIf_f, kIf_t, sSkip_ap, sBif_ap, kBif_ok, sPar_ap, sTup_ap, kTup_ok, Nat.reduceLeDiff, kPar_ok, setAll, sRet_ap, kRet_ok, out_ret, out_nx, out_err, gTu_tup, gTu_lst, gsC_nm, gsC_tu, gsK_some, gsN, sNewL_ap, kNewL_ok, sAppend_ap, kApp0_some, kApp_ok, sAndV_ap, kAndV_ok, kAndV2_t, kAndV2_f, sOrV_ap, kOrV_ok, kOrV2_t, kOrV2_f, tru_bl, sIte_ap, kIte_t, kIte_f, sLst_ap, kLst_ok, sFor_ap, kFor_ok, sItems_ap, kItems_ok, itemsD, sNeg_ap, kNeg_ok, sSlc_ap, kS1_ok, kS2_ok, kS3_ok, sPart_ap, kPart_ok, sNoPart_ap, sOrT_ap, kOrT_f, kOrT_t, sAndT_ap, kAndT_t, kAndT_f, sNotT_ap, kNotT_ok, sNotV_ap, kNotV_ok, kNotV2_ok, sTru_ap, kTru_ok, sIsi_ap, kIsi_ok, sCallK_ap, kK1_ok, kK2_ok, and_self, sDrop_ap, kDrop_ok, sRetN_ap, sChain_ap, kCh1_ok, kCh2_ok, kCh3_t, kCh3_f, kCh4_ok, sTab_ap, kTab_ok, sAug_ap, kAug0_some, kAug1_ok, augO_some, iadd_int, isub_int, Bool.not_true, Bool.not_false, add_int, sub_int, eq_int, ne_int, lt_int, le_int, gt_int, ge_int, eq_str, ne_str, len_lst, len_tup, sRange1_ap, kRange1_ok, eq_self, decide_true, decide_false, eq_self_iff_true, pm_nil, pm_cons, sRev_ap, kRev_ok, rev_tup, rev_lst, sRaise_ap, kRaise_ok, sTry_ap, kTry_nx, kTry_ret, sTryF_ap, kTryF_nx, kAsg_err, kBin1_err, kBin2_err, kCall_err, kC1_err, kC2_err, kRet_err, kDrop_err, kIf_err, sc, ad1, ad2']
  have SC : ∀ (p5 p6 : Option D) (m : MS), srC [some (.loc n), some (.tup xs), some (.int (i : Nat)), some W, some (.lst (sA xs.length i (w.map D.int) ++ sB i (w.map D.int))), p5, p6] m = .nx [some (.loc n), some (.tup xs), some (.int (i : Nat)), some W, some (.lst (sA xs.length i (w.map D.int) ++ sB i (w.map D.int))), some (.lst (sA xs.length i (w.map D.int) ++ sB i (w.map D.int) ++ sC i (w.map D.int))), p6] m := fun p5 p6 m => by
    generalize hAA : sA xs.length i (w.map D.int) ++ sB i (w.map D.int) = AA at *
    have ad3' : ∀ m : MS, addD m (.lst AA) (.lst [.tup [.int (i : Nat), .tup (cutL (w.map D.int) none (some (-1)) ++ [.bl true])], .tup [.int (i : Nat), .non], .tup [.str "0", W], .dic [] []]) = some (.lst (AA ++ sC i (w.map D.int))) := fun m => by
      rw [← ad3 m]; simp only [sC, hW]
    simp only [srC, runD_ap, List.map_cons, List.map_nil, List.length_cons, List.length_nil, Nat.reduceAdd, Nat.reduceSub, List.replicate, List.cons_append, List.nil_append, sSeq_ap, sAsg_ap, sBin_ap, sCst_ap, kBin1_ok, sCall_ap, sCons_ap, sVar_ap, List.getElem?_cons_zero, List.getElem?_cons_succ, vR_some, kC1_ok, sNil_ap, kC2_ok, kCall_ok, ↓reduceIte, kBin2_ok, optR_some, kAsg_ok, gNm_ap, asgO_some, List.set_cons_succ, List.set_cons_zero, next_nx, next_ret, next_err, sIf_ap, sTst_ap, kTst_ok, kIf_f, kIf_t, sSkip_ap, sBif_ap, kBif_ok, sPar_ap, sTup_ap, kTup_ok, Nat.reduceLeDiff, kPar_ok, setAll, sRet_ap, kRet_ok, out_ret, out_nx, out_err, gTu_tup, gTu_lst, gsC_nm, gsC_tu, gsK_some, gsN, sNewL_ap, kNewL_ok, sAppend_ap, kApp0_some, kApp_ok, sAndV_ap, kAndV_ok, kAndV2_t, kAndV2_f, sOrV_ap, kOrV_ok, kOrV2_t, kOrV2_f, tru_bl, sIte_ap, kIte_t, kIte_f, sLst_ap, kLst_ok, sFor_ap, kFor_ok, sItems_ap, kItems_ok, itemsD, sNeg_ap, kNeg_ok, sSlc_ap, kS1_ok, kS2_ok, kS3_ok, sPart_ap, kPart_ok, sNoPart_ap, sOrT_ap, kOrT_f, kOrT_t, sAndT_ap, kAndT_t, kAndT_f, sNotT_ap, kNotT_ok, sNotV_ap, kNotV_ok, kNotV2_ok, sTru_ap, kTru_ok, sIsi_ap, kIsi_ok, sCallK_ap, kK1_ok, kK2_ok, and_self, sDrop_ap, kDrop_ok, sRetN_ap, sChain_ap, kCh1_ok, kCh2_ok, kCh3_t, kCh3_f, kCh4_ok, sTab_ap, kTab_ok, sAug_ap, kAug0_some, kAug1_ok, augO_some, iadd_int, isub_int, Bool.not_true, Bool.not_false, add_int, sub_int, eq_int, ne_int, lt_int, le_int, gt_int, ge_int, eq_str, ne_str, len_lst, len_tup, sRange1_ap, kRange1_ok, eq_self, decide_true, decide_false, eq_self_iff_true, pm_nil, pm_cons, sRev_ap, kRev_ok, rev_tup, rev_lst, sRaise_ap, kRaise_ok, sTry_ap, kTry_nx, kTry_ret, sTryF_ap, kTryF_nx, kAsg_err, kBin1_err, kBin2_err, kCall_err, kC1_err, kC2_err, kRet_err, kDrop_err, kIf_err, sc, ad1, ad3', d0]
  have SI : ∀ (p4 p5 p6 : Option D) (m : MS), srI [some (.loc n), some (.tup xs), some (.int (i : Nat)), some W, p4, p5, p6] m = .nx [some (.loc n), some (.tup xs), some (.int (i : Nat)), some W, p4, p5, p6] m := fun p4 p5 p6 m => by
    generalize D.tup xs = X at *
    simp only [srI, runD_ap, List.map_cons, List.map_nil, List.length_cons, List.length_nil, Nat.reduceAdd, Nat.reduceSub, List.replicate, List.cons_append, List.nil_append, sSeq_ap, sAsg_ap, sBin_ap, sCst_ap, kBin1_ok, sCall_ap, sCons_ap, sVar_ap, List.getElem?_cons_zero, List.getElem?_cons_succ, vR_some, kC1_ok, sNil_ap, kC2_ok, kCall_ok, ↓reduceIte, kBin2_ok, optR_some, kAsg_ok, gNm_ap, asgO_some, List.set_cons_succ, List.set_cons_zero, next_nx, next_ret, next_err, sIf_ap, sTst_ap, kTst_ok, kIf_f, kIf_t, sSkip_ap, sBif_ap, kBif_ok, sPar_ap, sTup_ap, kTup_ok, Nat.reduceLeDiff, kPar_ok, setAll, sRet_ap, kRet_ok, out_ret, out_nx, out_err, gTu_tup, gTu_lst, gsC_nm, gsC_tu, gsK_some, gsN, sNewL_ap, kNewL_ok, sAppend_ap, kApp0_some, kApp_ok, sAndV_ap, kAndV_ok, kAndV2_t, kAndV2_f, sOrV_ap, kOrV_ok, kOrV2_t, kOrV2_f, tru_bl, sIte_ap, kIte_t, kIte_f, sLst_ap, kLst_ok, sFor_ap, kFor_ok, sItems_ap, kItems_ok, itemsD, sNeg_ap, kNeg_ok, sSlc_ap, kS1_ok, kS2_ok, kS3_ok, sPart_ap, kPart_ok, sNoPart_ap, sOrT_ap, kOrT_f, kOrT_t, sAndT_ap, kAndT_t, kAndT_f, sNotT_ap, kNotT_ok, sNotV_ap, kNotV_ok, kNotV2_ok, sTru_ap, kTru_ok, sIsi_ap, kIsi_ok, sCallK_ap, kK1_ok, kK2_ok, and_self, sDrop_ap, kDrop_ok, sRetN_ap, sChain_ap, kCh1_ok, kCh2_ok, kCh3_t, kCh3_f, kCh4_ok, sTab_ap, kTab_ok, sAug_ap, kAug0_some, kAug1_ok, augO_some, iadd_int, isub_int, Bool.not_true, Bool.not_false, add_int, sub_int, eq_int, ne_int, lt_int, le_int, gt_int, ge_int, eq_str, ne_str, len_lst, len_tup, sRange1_ap, kRange1_ok, eq_self, decide_true, decide_false, eq_self_iff_true, pm_nil, pm_cons, sRev_ap, kRev_ok, rev_tup, rev_lst, sRaise_ap, kRaise_ok, sTry_ap, kTry_nx, kTry_ret, sTryF_ap, kTryF_nx, kAsg_err, kBin1_err, kBin2_err, kCall_err, kC1_err, kC2_err, kRet_err, kDrop_err, kIf_err, sn, tt]
  refine ⟨o2, cutF_set [] ?_ d2.lt rfl, d2⟩
  rw [b_sr_eq]
  generalize sA xs.length i (w.map D.int) ++ sB i (w.map D.int) ++ sC i (w.map D.int) = L3 at *
  generalize sA xs.length i (w.map D.int) ++ sB i (w.map D.int) = L2 at *
  generalize sA xs.length i (w.map D.int) = L1 at *
  generalize D.tup [t, .rat c e] = P at *
  generalize D.tup xs = X at *
  generalize srI = zI at *
  generalize srA = zA at *
  generalize srB = zB at *
  generalize srC = zC at *
  generalize rrE = zE at *
  simp only [runD_ap, List.map_cons, List.map_nil, List.length_cons, List.length_nil, Nat.reduceAdd, Nat.reduceSub, List.replicate, List.cons_append, List.nil_append, sSeq_ap, sAsg_ap, sBin_ap, sCst_ap, kBin1_ok, sCall_ap, sCons_ap, sVar_ap, List.getElem?_cons_zero, List.getElem?_cons_succ, vR_some, kC1_ok, sNil_ap, kC2_ok, kCall_ok, ↓reduceIte, kBin2_ok, optR_some, kAsg_ok, gNm_ap, asgO_some, List.set_cons_succ, List.set_cons_zero, next_nx, next_ret, next_err, sIf_ap, sTst_ap, kTst_ok, kIf_f, kIf_t, sSkip_ap, sBif_ap, kBif_ok, sPar_ap, sTup_ap, kTup_ok, Nat.reduceLeDiff, kPar_ok, setAll, sRet_ap, kRet_ok, out_ret, out_nx, out_err, gTu_tup, gTu_lst, gsC_nm, gsC_tu, gsK_some, gsN, sNewL_ap, kNewL_ok, sAppend_ap, kApp0_some, kApp_ok, sAndV_ap, kAndV_ok, kAndV2_t, kAndV2_f, sOrV_ap, kOrV_ok, kOrV2_t, kOrV2_f, tru_bl, sIte_ap, kIte_t, kIte_f, sLst_ap, kLst_ok, sFor_ap, kFor_ok, sItems_ap, kItems_ok, itemsD, sNeg_ap, kNeg_ok, sSlc_ap, kS1_ok, kS2_ok, kS3_ok, sPart_ap, kPart_ok, sNoPart_ap, sOrT_ap, kOrT_f, kOrT_t, sAndT_ap, kAndT_t, kAndT_f, sNotT_ap, kNotT_ok, sNotV_ap, kNotV_ok, kNotV2_ok, sTru_ap, kTru_ok, sIsi_ap, kIsi_ok, sCallK_ap, kK1_ok, kK2_ok, and_self, sDrop_ap, kDrop_ok, sRetN_ap, sChain_ap, kCh1_ok, kCh2_ok, kCh3_t, kCh3_f, kCh4_ok, sTab_ap, kTab_ok, sAug_ap, kAug0_some, kAug1_ok, augO_some, iadd_int, isub_int, Bool.not_true, Bool.not_false, add_int, sub_int, eq_int, ne_int, lt_int, le_int, gt_int, ge_int, eq_str, ne_str, len_lst, len_tup, sRange1_ap, kRange1_ok, eq_self, decide_true, decide_false, eq_self_iff_true, pm_nil, pm_cons, sRev_ap, kRev_ok, rev_tup, rev_lst, sRaise_ap, kRaise_ok, sTry_ap, kTry_nx, kTry_ret, sTryF_ap, kTryF_nx, kAsg_err, kBin1_err, kBin2_err, kCall_err, kC1_err, kC2_err, kRet_err, kDrop_err, kIf_err, lx, e1', a1, a2, bl, lw, e2, SI, SA, SB, SC, rr, ee, List.append_nil]
end
end L09

namespace L09
open PySem L2 DL U
section
variable {ms : MS} {n : Nat}
theorem ne_l0 : neX ms (.lst []) (.lst []) = some (.bl false) := by kernel_rfl
theorem ne_li {a : Int} : neX ms (.lst [.int a]) (.lst [.int a]) = some (.bl false) := by
  have e : neD ms (.lst [.int a]) (.lst [.int a]) = some (.bl false) := by
    rw [ne_pd (Pd.up (n := 1) (.lst (Pd.cons (.int a) Pd.nil)) (by omega)) (Pd.up (n := 1) (.lst (Pd.cons (.int a) Pd.nil)) (by omega))]
    rw [(Pd.lst (n := 0) (Pd.cons (.int a) Pd.nil)).eqv_refl]
    rfl
  simp only [neX, e]
theorem ne_ln : neX ms (.lst [.non]) (.lst [.non]) = some (.bl false) := by kernel_rfl
theorem RcL.up {m m' : Int} {xs : List D} (h : RcL m xs) (hm : m ≤ m') : RcL m' xs := fun x hx => by
  obtain ⟨t, a, b, e, tb, r⟩ := h x hx
  exact ⟨t, a, b, e, tb.up hm, r⟩
theorem rc_said {xs : List D} (h : RcL 5 xs) (h1 : 1 ≤ xs.length) (h4 : xs.length ≤ 4) : SaidQ (.tup xs) ∧ saidL (.tup xs) = [] := by
  have v : verdict (.tup xs) = none := by
    simp only [verdict, h1, h4, and_self, if_true, firstW_none fun x hx => (h x hx).pair (by omega), Option.map_none]
  exact ⟨.tup (fun x hx => (h x hx).pr) h.locs fun _ => RcL.up h (by omega), by unfold saidL; rw [v]⟩
theorem bad_said {zs : List D} {k : Nat} (hp : ∀ x ∈ zs, Pr x) (hl : ∀ x ∈ zs, ∀ j, locsLt j x = true) (h1 : 1 ≤ zs.length) (h4 : zs.length ≤ 4) (hw : firstW zs 0 = some k) : SaidQ (.tup zs) ∧ saidL (.tup zs) = [.int (k : Nat)] := by
  have v : verdict (.tup zs) = some (.int (k : Nat)) := by simp only [verdict, h1, h4, and_self, if_true, hw, Option.map_some]
  exact ⟨.tup hp (fun j => locs_all fun x hx => hl x hx j) (fun z => by rw [v] at z; cases z), by unfold saidL; rw [v]⟩
theorem mem_set {xs : List D} {i : Nat} {d y : D} (h : y ∈ xs.set i d) : y = d ∨ y ∈ xs := by
  rcases List.mem_or_eq_of_mem_set h with h | h
  · exact .inr h
  · exact .inl h
/-! ### the nine things -/
/-- said as due -/
def Nine (x0 d : D) : Prop := SaidQ d ∧ ((∀ m : MS, eqX m d x0 = some (.bl true)) ∧ saidL d = [.int 0] ∨ (∀ m : MS, eqX m d x0 = some (.bl false)) ∧ saidL d = [.non])
noncomputable abbrev iB : SS := (sSeq (sAsg (sIte (sTst (sBin eqX (sVar 6) (sBin atD (sVar 3) (sCst (.int 0))))) (sLst (sCons (sCst (.int 0)) sNil)) (sLst (sCons (sCst .non) sNil))) (gNm 8))
    (sIf (sTst (sBin neX (sCall F_law_said 1 (sCons (sVar 6) sNil)) (sVar 8)))
    (sRet (sCst (.bl false)))
    sSkip))
theorem i_ok {x0 d : D} {xs : List D} {p0 p1 p2 p4 p5 p7 p8 : Option D} (h0 : ∀ m : MS, atD m (.tup xs) (.int 0) = some x0) (h : Nine x0 d) :
    ∃ q8, iB [p0, p1, p2, some (.tup xs), p4, p5, some d, p7, p8] ms = .nx [p0, p1, p2, some (.tup xs), p4, p5, some d, p7, q8] ms := by
  obtain ⟨hs, h⟩ := h
  have sd := fun m : MS => said_ok (ms := m) hs
  generalize D.tup xs = X at *
  rcases h with ⟨e, l⟩ | ⟨e, l⟩
  · rw [l] at sd
    have ne : ∀ m : MS, neX m (.lst [.int 0]) (.lst [.int 0]) = some (.bl false) := fun m => ne_li
    exact ⟨some (.lst [.int 0]), by simp only [iB, runD_ap, List.map_cons, List.map_nil, List.length_cons, List.length_nil, Nat.reduceAdd, Nat.reduceSub, List.replicate, List.cons_append, List.nil_append, sSeq_ap, sAsg_ap, sBin_ap, sCst_ap, kBin1_ok, sCall_ap, sCons_ap, sVar_ap, List.getElem?_cons_zero, List.getElem?_cons_succ, vR_some, kC1_ok, sNil_ap, kC2_ok, kCall_ok, ↓reduceIte, kBin2_ok, optR_some, kAsg_ok, gNm_ap, asgO_some, List.set_cons_succ, List.set_cons_zero, next_nx, next_ret, next_err, sIf_ap, sTst_ap, kTst_ok, kIf_f, kIf_t, sSkip_ap, sBif_ap, kBif_ok, sPar_ap, sTup_ap, kTup_ok, Nat.reduceLeDiff, kPar_ok, setAll, sRet_ap, kRet_ok, out_ret, out_nx, out_err, gTu_tup, gTu_lst, gsC_nm, gsC_tu, gsK_some, gsN, sNewL_ap, kNewL_ok, sAppend_ap, kApp0_some, kApp_ok, sAndV_ap, kAndV_ok, kAndV2_t, kAndV2_f, sOrV_ap, kOrV_ok, kOrV2_t, kOrV2_f, tru_bl, sIte_ap, kIte_t, kIte_f, sLst_ap, kLst_ok, sFor_ap, kFor_ok, sItems_ap, kItems_ok, itemsD, sNeg_ap, kNeg_ok, sSlc_ap, kS1_ok, kS2_ok, kS3_ok, sPart_ap, kPart_ok, sNoPart_ap, sOrT_ap, kOrT_f, kOrT_t, sAndT_ap, kAndT_t, kAndT_f, sNotT_ap, kNotT_ok, sNotV_ap, kNotV_ok, kNotV2_ok, sTru_ap, kTru_ok, sIsi_ap, kIsi_ok, sCallK_ap, kK1_ok, kK2_ok, and_self, sDrop_ap, kDrop_ok, sRetN_ap, sChain_ap, kCh1_ok, kCh2_ok, kCh3_t, kCh3_f, kCh4_ok, sTab_ap, kTab_ok, sAug_ap, kAug0_some, kAug1_ok, augO_some, iadd_int, isub_int, Bool.not_true, Bool.not_false, add_int, sub_int, eq_int, ne_int, lt_int, le_int, gt_int, ge_int, eq_str, ne_str, len_lst, len_tup, sRange1_ap, kRange1_ok, eq_self, decide_true, decide_false, eq_self_iff_true, pm_nil, pm_cons, sRev_ap, kRev_ok, rev_tup, rev_lst, sRaise_ap, kRaise_ok, sTry_ap, kTry_nx, kTry_ret, sTryF_ap, kTryF_nx, kAsg_err, kBin1_err, kBin2_err, kCall_err, kC1_err, kC2_err, kRet_err, kDrop_err, kIf_err, h0, e, sd, ne]⟩
  · rw [l] at sd
    have ne : ∀ m : MS, neX m (.lst [.non]) (.lst [.non]) = some (.bl false) := fun m => ne_ln
    exact ⟨some (.lst [.non]), by simp only [iB, runD_ap, List.map_cons, List.map_nil, List.length_cons, List.length_nil, Nat.reduceAdd, Nat.reduceSub, List.replicate, List.cons_append, List.nil_append, sSeq_ap, sAsg_ap, sBin_ap, sCst_ap, kBin1_ok, sCall_ap, sCons_ap, sVar_ap, List.getElem?_cons_zero, List.getElem?_cons_succ, vR_some, kC1_ok, sNil_ap, kC2_ok, kCall_ok, ↓reduceIte, kBin2_ok, optR_some, kAsg_ok, gNm_ap, asgO_some, List.set_cons_succ, List.set_cons_zero, next_nx, next_ret, next_err, sIf_ap, sTst_ap, kTst_ok, kIf_f, kIf_t, sSkip_ap, sBif_ap, kBif_ok, sPar_ap, sTup_ap, kTup_ok, Nat.reduceLeDiff, kPar_ok, setAll, sRet_ap, kRet_ok, out_ret, out_nx, out_err, gTu_tup, gTu_lst, gsC_nm, gsC_tu, gsK_some, gsN, sNewL_ap, kNewL_ok, sAppend_ap, kApp0_some, kApp_ok, sAndV_ap, kAndV_ok, kAndV2_t, kAndV2_f, sOrV_ap, kOrV_ok, kOrV2_t, kOrV2_f, tru_bl, sIte_ap, kIte_t, kIte_f, sLst_ap, kLst_ok, sFor_ap, kFor_ok, sItems_ap, kItems_ok, itemsD, sNeg_ap, kNeg_ok, sSlc_ap, kS1_ok, kS2_ok, kS3_ok, sPart_ap, kPart_ok, sNoPart_ap, sOrT_ap, kOrT_f, kOrT_t, sAndT_ap, kAndT_t, kAndT_f, sNotT_ap, kNotT_ok, sNotV_ap, kNotV_ok, kNotV2_ok, sTru_ap, kTru_ok, sIsi_ap, kIsi_ok, sCallK_ap, kK1_ok, kK2_ok, and_self, sDrop_ap, kDrop_ok, sRetN_ap, sChain_ap, kCh1_ok, kCh2_ok, kCh3_t, kCh3_f, kCh4_ok, sTab_ap, kTab_ok, sAug_ap, kAug0_some, kAug1_ok, augO_some, iadd_int, isub_int, Bool.not_true, Bool.not_false, add_int, sub_int, eq_int, ne_int, lt_int, le_int, gt_int, ge_int, eq_str, ne_str, len_lst, len_tup, sRange1_ap, kRange1_ok, eq_self, decide_true, decide_false, eq_self_iff_true, pm_nil, pm_cons, sRev_ap, kRev_ok, rev_tup, rev_lst, sRaise_ap, kRaise_ok, sTry_ap, kTry_nx, kTry_ret, sTryF_ap, kTryF_nx, kAsg_err, kBin1_err, kBin2_err, kCall_err, kC1_err, kC2_err, kRet_err, kDrop_err, kIf_err, h0, e, sd, ne]⟩
theorem i_all {x0 : D} {xs : List D} {p0 p1 p2 p4 p5 p7 : Option D} (h0 : ∀ m : MS, atD m (.tup xs) (.int 0) = some x0) : ∀ (ds : List D) (p6 p8 : Option D), (∀ d ∈ ds, Nine x0 d) →
    ∃ q6 q8, forL (gNm 6) iB ds [p0, p1, p2, some (.tup xs), p4, p5, p6, p7, p8] ms = .nx [p0, p1, p2, some (.tup xs), p4, p5, q6, p7, q8] ms
  | [], p6, p8, _ => ⟨p6, p8, rfl⟩
  | d :: ds, p6, p8, h => by
    obtain ⟨q8, e⟩ := i_ok (ms := ms) (p0 := p0) (p1 := p1) (p2 := p2) (p4 := p4) (p5 := p5) (p7 := p7) (p8 := p8) h0 (h d List.mem_cons_self)
    obtain ⟨r6, r8, e'⟩ := i_all (p0 := p0) (p1 := p1) (p2 := p2) (p4 := p4) (p5 := p5) (p7 := p7) h0 ds (some d) q8 fun y hy => h y (List.mem_cons_of_mem _ hy)
    exact ⟨r6, r8, by rw [forL_cons (env1 := [p0, p1, p2, some (.tup xs), p4, p5, some d, p7, p8]) rfl e, e']⟩
theorem nines {xs : List D} {x0 : D} (h : RcL 5 xs) (h1 : 1 ≤ xs.length) (hx : x0 ∈ xs) : ∀ d ∈ ([.tup [], .non, .lst xs, x0, .tup [x0, x0, x0, x0, x0], .dic [] [], .str "receiver", .int 5, .tup [.non, .non, .non, .non, .non]] : List D), Nine x0 d := by
  have hp := h x0 hx
  obtain ⟨t, a, b, rfl, tb, a0, a1, a2⟩ := hp
  have hp := h _ hx
  have tn : toPs [t, .rat a b] = none := toPs_none (x := .rat a b) (by simp) rfl
  have n2 : ∀ (m : MS) (z : D), eqD m z (.tup [t, .rat a b]) = none := fun m z => eqD_n2 tn
  obtain ⟨ts, rfl, tl, tp, _⟩ := tb_tup tb
  have dn : ∀ d : D, diffB d (.tup [.tup ts, .rat a b]) = true → (∀ m, tupT m d (.tup [.tup ts, .rat a b]) = none) → ∀ m : MS, eqX m d (.tup [.tup ts, .rat a b]) = some (.bl false) := fun d h1 h2 m => by
    simp only [eqX, n2, h2, h1, if_true]
  have l0 := hp.locs
  have pr0 : Pr (.tup [.tup ts, .rat a b]) := hp.pr
  intro d hd
  simp only [List.mem_cons, List.not_mem_nil, or_false] at hd
  rcases hd with rfl | rfl | rfl | rfl | rfl | rfl | rfl | rfl | rfl
  · refine ⟨.tup (fun x hx => by cases hx) (fun k => rfl) (fun z => by cases z), .inr ⟨fun m => ?_, rfl⟩⟩
    simp only [eqX, n2, tupT, eqTs, Option.map_some, List.length_cons, List.length_nil]
    rfl
  · exact ⟨.no rfl (fun _ e => by cases e), .inr ⟨dn _ rfl fun m => rfl, rfl⟩⟩
  · exact ⟨.no rfl (fun _ e => by cases e), .inr ⟨dn _ rfl fun m => rfl, rfl⟩⟩
  · have pt : Pr (.tup ts) := .len (by omega)
    have pf : pairB (.tup ts) = false := by
      match ts, tl with
      | [_, _, _], _ => rfl
      | [_, _, _, _, _, _], _ => rfl
    obtain ⟨s1, s2⟩ := bad_said (zs := [.tup ts, .rat a b]) (k := 0) (fun x hx => by
      rcases List.mem_cons.mp hx with rfl | hx
      · exact pt
      · rw [List.mem_singleton.mp hx]; exact .rat) (fun x hx j => by
      rcases List.mem_cons.mp hx with rfl | hx
      · simp only [locsLt]; exact p1s_locs tp j
      · rw [List.mem_singleton.mp hx]; rfl) (by simp) (by simp) (by simp only [firstW, pf]; rfl)
    refine ⟨s1, .inl ⟨fun m => ?_, s2⟩⟩
    have es := eqT_pair (ms := m) (k := 6) hp
    have e1 : eqT m 8 (.tup ts) (.tup ts) = some true := by rw [eqT_pd ((tb_pd tb).up (by omega)) ((tb_pd tb).up (by omega)), (tb_pd tb).eqv_refl]
    have e2 : eqT m 8 (.rat a b) (.rat a b) = some true := by rw [eqT_rat]; simp
    simp only [eqX, n2, tupT, eqTs, e1, e2, Option.map_some]
    simp
  · refine ⟨.tup (fun x hx => ?_) (fun k => locs_all fun x hx => ?_) (fun z => by cases z), .inr ⟨fun m => ?_, rfl⟩⟩
    · have : x = .tup [.tup ts, .rat a b] := by simpa using hx
      rw [this]; exact pr0
    · have : x = .tup [.tup ts, .rat a b] := by simpa using hx
      rw [this]; exact l0 k
    · have e0 : eqT m 8 (.tup [.tup ts, .rat a b]) (.tup ts) = some false := by
        have z0 : eqP m (.tup [.tup ts, .rat a b]) (.tup ts) = none := eqP_n1 (pd_tup tn)
        have hs : ∃ s r, ts = .str s :: r ∧ PyData.strOk s = true := by
          cases tb with
          | hv z b z0 z1 b0 b1 => exact ⟨_, _, rfl, by decide +kernel⟩
          | pr hs z0 z1 o0 o1 st b hc hh a1 a2 a3 a4 a5 a6 a7 a8 a9 a10 hne b0 b1 => exact ⟨_, _, rfl, by decide +kernel⟩
        obtain ⟨s, r, rfl, ok⟩ := hs
        have z1 : eqT m 7 (.tup (.str s :: r)) (.str s) = some false := by
          rw [eqT_pd ((tb_pd tb).up (by omega)) (.str ok)]
          simp [eqv]
        rw [eqT]
        simp only [z0, eqTs, z1, Option.map_some, Bool.false_and]
      simp only [eqX, n2, tupT, eqTs, e0, Option.map_some, Bool.false_and]
  · refine ⟨.no rfl (fun _ e => by cases e), .inr ⟨fun m => ?_, rfl⟩⟩
    simp only [eqX, n2, tupT, diffB, dtB]
    rfl
  · exact ⟨.no rfl (fun _ e => by cases e), .inr ⟨dn _ rfl fun m => rfl, rfl⟩⟩
  · exact ⟨.no rfl (fun _ e => by cases e), .inr ⟨dn _ rfl fun m => rfl, rfl⟩⟩
  · refine ⟨.tup (fun x hx => ?_) (fun k => rfl) (fun z => by cases z), .inr ⟨fun m => ?_, rfl⟩⟩
    · have : x = .non := by simpa using hx
      rw [this]; exact .no rfl (fun _ e => by cases e)
    · have e0 : eqT m 8 .non (.tup ts) = some false := by
        rw [eqT_pd .non ((tb_pd tb).up (by omega))]
        simp [eqv]
      simp only [eqX, n2, tupT, eqTs, e0, Option.map_some, Bool.false_and]
end
end L09

namespace L09
open PySem L2 DL U
section
variable {ms : MS} {n : Nat}
noncomputable abbrev t2 : SS := (sIf (sOrT (sTst (sBin neX (sCall F_law_said 1 (sCons (sVar 3) sNil)) (sLst sNil))) (sTst (sBin neX (sCallK F_need_receiver ⟨0, ["thing"], [0]⟩ sNil (sCons (sVar 3) sNil)) (sVar 3))))
    (sRet (sCst (.bl false)))
    sSkip)
noncomputable abbrev t3 : SS := (sPar [4, 5] (sCons (sCall F_law_next 2 (sCons (sVar 1) (sCons (sBif lenD (sCons (sVar 3) sNil)) sNil))) (sCons (sCall F_law_next 2 (sCons (sVar 1) (sCons (sBif lenD (sCons (sVar 3) sNil)) sNil))) sNil)))
noncomputable abbrev t5 : SS := (sAsg (sBin addD (sBin addD (sSlc (sVar 3) sNoPart (sPart (sVar 4))) (sTup (sCons (sVar 6) sNil))) (sSlc (sVar 3) (sPart (sBin addD (sVar 4) (sCst (.int 1)))) sNoPart)) (gNm 7))
noncomputable abbrev t6 : SS := (sIf (sTst (sBin neX (sCall F_law_said 1 (sCons (sVar 7) sNil)) (sLst (sCons (sVar 4) sNil))))
    (sRet (sCst (.bl false)))
    sSkip)
noncomputable abbrev t7 : SS := (sAsg (sBin addD (sBin addD (sSlc (sVar 7) sNoPart (sPart (sVar 5))) (sTup (sCons (sCst .non) sNil))) (sSlc (sVar 7) (sPart (sBin addD (sVar 5) (sCst (.int 1)))) sNoPart)) (gNm 7))
noncomputable abbrev t8 : SS := (sIf (sTst (sBin neX (sCall F_law_said 1 (sCons (sVar 7) sNil)) (sLst (sCons (sIte (sTst (sBin ltX (sVar 5) (sVar 4))) (sVar 5) (sVar 4)) sNil))))
    (sRet (sCst (.bl false)))
    sSkip)
noncomputable abbrev t9 : SS := (sFor (sItems (sTup (sCons (sTup sNil) (sCons (sCst .non) (sCons (sBif listD (sCons (sVar 3) sNil)) (sCons (sBin atD (sVar 3) (sCst (.int 0))) (sCons (sBin mulD (sSlc (sVar 3) sNoPart (sPart (sCst (.int 1)))) (sCst (.int 5))) (sCons (sDic0 false) (sCons (sCst (.str "receiver")) (sCons (sCst (.int 5)) (sCons (sBin mulD (sTup (sCons (sCst .non) sNil)) (sCst (.int 5))) sNil))))))))))) (gNm 6) iB)
noncomputable abbrev t10 : SS := (sIf (sNotT (sTru (sCall F_law_sendings_right 2 (sCons (sVar 1) (sCons (sVar 3) sNil)))))
    (sRet (sCst (.bl false)))
    sSkip)
noncomputable abbrev tB : SS := (sSeq (sAsg (sCall F_law_receiver 3 (sCons (sVar 1) (sCons (sCst (.int 4)) (sCons (sCst (.int 5)) sNil)))) (gNm 3))
    (sSeq t2 (sSeq t3 (sSeq (sAsg (sCall F_law_odd_pair 2 (sCons (sVar 1) (sCons (sBin atD (sVar 3) (sVar 4)) sNil))) (gNm 6))
    (sSeq t5 (sSeq t6 (sSeq t7 (sSeq t8 (sSeq t9 t10)))))))))
theorem b_law_eq (sx : List Int) : b_law sx = (sSeq (sAsg (sCall (F_law_begin sx) 1 (sCons (sVar 0) sNil)) (gNm 1)) (sSeq (sFor (sRange1 (sCons (sCst (.int 5)) sNil)) (gNm 2) tB) (sRet (sCst (.bl true))))) := rfl
theorem at_nat {xs : List D} {i : Nat} {x : D} (h : xs[i]? = some x) : atD ms (.tup xs) (.int (i : Nat)) = some x := by
  have hi := (List.getElem?_eq_some_iff.mp h).1
  obtain ⟨d, e1, e2⟩ := atI_nat (xs := xs) (i := (i : Int)) (by omega) (by omega)
  show atI xs i = _
  rw [e1, ← e2, Int.toNat_natCast]; exact h
theorem put_ok {xs : List D} {i : Nat} {d : D} (h : i < xs.length) (h4 : xs.length ≤ 4) : (∀ m : MS, addD m (.tup (cutL xs none (some (i : Int)))) (.tup [d]) = some (.tup (cutL xs none (some (i : Int)) ++ [d]))) ∧
    ∀ m : MS, addD m (.tup (cutL xs none (some (i : Int)) ++ [d])) (.tup (cutL xs (some ((i : Int) + 1)) none)) = some (.tup (xs.set i d)) := by
  have l1 := cutM_len (xs := xs) (lo := none) (hi := some (i : Int))
  have l2 := cutM_len (xs := xs) (lo := some ((i : Int) + 1)) (hi := none)
  exact ⟨fun m => add_tup (by simp only [List.length_cons, List.length_nil]; omega), fun m => by
    rw [add_tup (by rw [List.length_append]; simp only [List.length_cons, List.length_nil]; omega), put_eq h]⟩
theorem t_ok {B : Nat} {o : MO} {p0 p2 p3 p4 p5 p6 p7 p8 : Option D} (hn : ms[n]? = some o) (dr : Dr B o) (hB : B < 400000) :
    ∃ (q3 q4 q5 q6 q7 q8 : Option D) (o' : MO), tB [p0, some (.loc n), p2, p3, p4, p5, p6, p7, p8] ms = .nx [p0, some (.loc n), p2, q3, q4, q5, q6, q7, q8] (ms.set n o') ∧ Dr (B + 210) o' := by
  obtain ⟨xs, o1, e1, x1, x4, rc, d1⟩ := receiver_ok (most := 5) (many := 4) hn dr (by omega) (by omega) (by omega) (by omega) (by omega)
  have x4 : xs.length ≤ 4 := by omega
  have hne : xs ≠ [] := fun e => by subst e; simp at x1
  obtain ⟨a, o2, e2, a0, a1, d2⟩ := next_ok (many := (xs.length : Int)) (set_at (o := o1) hn) d1 (by omega) (by omega) (by omega)
  rw [List.set_set] at e2
  obtain ⟨b, o3, e3, b0, b1, d3⟩ := next_ok (many := (xs.length : Int)) (set_at (o := o2) hn) d2 (by omega) (by omega) (by omega)
  rw [List.set_set] at e3
  obtain ⟨i, rfl⟩ := Int.eq_ofNat_of_zero_le a0
  obtain ⟨j, rfl⟩ := Int.eq_ofNat_of_zero_le b0
  have hi : i < xs.length := by omega
  have hj : j < xs.length := by omega
  have gi : xs[i]? = some xs[i] := List.getElem?_eq_getElem hi
  obtain ⟨od, o4, e4, hod, d4⟩ := odd_ok (x := xs[i]) (set_at (o := o3) hn) d3 (by omega) (rc _ (List.getElem_mem hi))
  rw [List.set_set] at e4
  obtain ⟨o5, e5, d5⟩ := sendings_ok (set_at (o := o4) hn) d4 (by omega) rc x1 x4
  rw [List.set_set] at e5
  -- the first spoiled one
  have all : ∀ (k : Nat) (y : D), xs[k]? = some y → pairB y = true := fun k y h => (rc y (List.mem_of_getElem? h)).pair (by omega)
  have q1 : firstW (xs.set i od) 0 = some i := by
    have := firstW_at (xs := xs.set i od) (i := 0) (k := i) (x := od) (List.getElem?_set_self hi) hod.2.1 fun k y hk hy => by
      rw [List.getElem?_set_ne (by omega)] at hy
      exact all k y hy
    rw [this, Nat.zero_add]
  obtain ⟨s1, l1⟩ := bad_said (zs := xs.set i od) (k := i) (fun x hx => (mem_set hx).elim (fun e => e ▸ hod.1) fun h => (rc x h).pr) (fun x hx k => (mem_set hx).elim (fun e => e ▸ hod.2.2 k) fun h => (rc x h).locs k) (by rw [List.length_set]; exact x1) (by rw [List.length_set]; exact x4) q1
  -- the second one
  have pn : Pr .non := .no rfl (fun _ e => by cases e)
  have q2 : firstW ((xs.set i od).set j .non) 0 = some (if j < i then j else i) := by
    by_cases hij : j < i
    · rw [if_pos hij]
      have := firstW_at (xs := (xs.set i od).set j .non) (i := 0) (k := j) (x := .non) (List.getElem?_set_self (by rw [List.length_set]; exact hj)) rfl fun k y hk hy => by
        rw [List.getElem?_set_ne (by omega), List.getElem?_set_ne (by omega)] at hy
        exact all k y hy
      rw [this, Nat.zero_add]
    · rw [if_neg hij]
      by_cases he : j = i
      · subst he
        have := firstW_at (xs := (xs.set j od).set j .non) (i := 0) (k := j) (x := .non) (List.getElem?_set_self (by rw [List.length_set]; exact hj)) rfl fun k y hk hy => by
          rw [List.getElem?_set_ne (by omega), List.getElem?_set_ne (by omega)] at hy
          exact all k y hy
        rw [this, Nat.zero_add]
      · have := firstW_at (xs := (xs.set i od).set j .non) (i := 0) (k := i) (x := od) (by rw [List.getElem?_set_ne (by omega)]; exact List.getElem?_set_self hi) hod.2.1 fun k y hk hy => by
          rw [List.getElem?_set_ne (by omega), List.getElem?_set_ne (by omega)] at hy
          exact all k y hy
        rw [this, Nat.zero_add]
  obtain ⟨s2, l2⟩ := bad_said (zs := (xs.set i od).set j .non) (k := if j < i then j else i) (fun x hx => (mem_set hx).elim (fun e => e ▸ pn) fun h => (mem_set h).elim (fun e => e ▸ hod.1) fun h => (rc x h).pr)
    (fun x hx k => (mem_set hx).elim (fun e => e ▸ rfl) fun h => (mem_set h).elim (fun e => e ▸ hod.2.2 k) fun h => (rc x h).locs k) (by rw [List.length_set, List.length_set]; exact x1) (by rw [List.length_set, List.length_set]; exact x4) q2
  obtain ⟨s0, l0⟩ := rc_said rc x1 x4
  have w0 := fun m : MS => said_ok (ms := m) s0
  have w1 := fun m : MS => said_ok (ms := m) s1
  have w2 := fun m : MS => said_ok (ms := m) s2
  rw [l0] at w0
  rw [l1] at w1
  rw [l2] at w2
  obtain ⟨pa1, pa2⟩ := put_ok (d := od) hi x4
  obtain ⟨pb1, pb2⟩ := put_ok (xs := xs.set i od) (i := j) (d := .non) (by rw [List.length_set]; exact hj) (by rw [List.length_set]; exact x4)
  have lx : ∀ m : MS, lenD m [.tup xs] = some (.int xs.length) := fun m => rfl
  have nd := fun m : MS => need_rc (ms := m) rc (by omega) x1 x4
  have nx := fun m : MS => neX_self (ms := m) rc hne
  have e2' : F_law_next [.loc n, .int xs.length] (ms.set n o1) = .ok (.int (i : Nat)) (ms.set n o2) := e2
  have e3' : F_law_next [.loc n, .int xs.length] (ms.set n o2) = .ok (.int (j : Nat)) (ms.set n o3) := e3
  have ai : ∀ m : MS, atD m (.tup xs) (.int (i : Nat)) = some xs[i] := fun m => at_nat gi
  have x0 : 0 < xs.length := by omega
  have a00 : ∀ m : MS, atD m (.tup xs) (.int 0) = some xs[0] := fun m => at_nat (i := 0) (List.getElem?_eq_getElem x0)
  have T2 : ∀ (q4 q5 q6 q7 q8 : Option D) (m : MS), t2 [p0, some (.loc n), p2, some (.tup xs), q4, q5, q6, q7, q8] m = .nx [p0, some (.loc n), p2, some (.tup xs), q4, q5, q6, q7, q8] m := fun q4 q5 q6 q7 q8 m => by
    have n0 : ∀ m : MS, neX m (.lst []) (.lst []) = some (.bl false) := fun m => ne_l0
    generalize D.tup xs = X at *
    simp only [t2, runD_ap, List.map_cons, List.map_nil, List.length_cons, List.length_nil, Nat.reduceAdd, Nat.reduceSub, List.replicate, List.cons_append, List.nil_append, sSeq_ap, sAsg_ap, sBin_ap, sCst_ap, kBin1_ok, sCall_ap, sCons_ap, sVar_ap, List.getElem?_cons_zero, List.getElem?_cons_succ, vR_some, kC1_ok, sNil_ap, kC2_ok, kCall_ok, ↓reduceIte, kBin2_ok, optR_some, kAsg_ok, gNm_ap, asgO_some, List.set_cons_succ, List.set_cons_zero, next_nx, next_ret, next_err, sIf_ap, sTst_ap, kTst_ok, kIf_f, kIf_t, sSkip_ap, sBif_ap, kBif_ok, sPar_ap, sTup_ap, kTup_ok, Nat.reduceLeDiff, kPar_ok, setAll, sRet_ap, kRet_ok, out_ret, out_nx, out_err, gTu_tup, gTu_lst, gsC_nm, gsC_tu, gsK_some, gsN, sNewL_ap, kNewL_ok, sAppend_ap, kApp0_some, kApp_ok, sAndV_ap, kAndV_ok, kAndV2_t, kAndV2_f, sOrV_ap, kOrV_ok, kOrV2_t, kOrV2_f, tru_bl, sIte_ap, kIte_t, kIte_f, sLst_ap, kLst_ok, sFor_ap, kFor_ok, sItems_ap, kItems_ok, itemsD, sNeg_ap, kNeg_ok, sSlc_ap, kS1_ok, kS2_ok, kS3_ok, sPart_ap, kPart_ok, sNoPart_ap, sOrT_ap, kOrT_f, kOrT_t, sAndT_ap, kAndT_t, kAndT_f, sNotT_ap, kNotT_ok, sNotV_ap, kNotV_ok, kNotV2_ok, sTru_ap, kTru_ok, sIsi_ap, kIsi_ok, sCallK_ap, kK1_ok, kK2_ok, and_self, sDrop_ap, kDrop_ok, sRetN_ap, sChain_ap, kCh1_ok, kCh2_ok, kCh3_t, kCh3_f, kCh4_ok, sTab_ap, kTab_ok, sAug_ap, kAug0_some, kAug1_ok, augO_some, iadd_int, isub_int, Bool.not_true, Bool.not_false, add_int, sub_int, eq_int, ne_int, lt_int, le_int, gt_int, ge_int, eq_str, ne_str, len_lst, len_tup, sRange1_ap, kRange1_ok, eq_self, decide_true, decide_false, eq_self_iff_true, pm_nil, pm_cons, sRev_ap, kRev_ok, rev_tup, rev_lst, sRaise_ap, kRaise_ok, sTry_ap, kTry_nx, kTry_ret, sTryF_ap, kTryF_nx, kAsg_err, kBin1_err, kBin2_err, kCall_err, kC1_err, kC2_err, kRet_err, kDrop_err, kIf_err, w0, n0, nd, nx]
  have T3 : ∀ (q4 q5 q6 q7 q8 : Option D), t3 [p0, some (.loc n), p2, some (.tup xs), q4, q5, q6, q7, q8] (ms.set n o1) = .nx [p0, some (.loc n), p2, some (.tup xs), some (.int (i : Nat)), some (.int (j : Nat)), q6, q7, q8] (ms.set n o3) := fun q4 q5 q6 q7 q8 => by
    generalize D.tup xs = X at *
    generalize (xs.length : Int) = N at *
    simp only [t3, runD_ap, List.map_cons, List.map_nil, List.length_cons, List.length_nil, Nat.reduceAdd, Nat.reduceSub, List.replicate, List.cons_append, List.nil_append, sSeq_ap, sAsg_ap, sBin_ap, sCst_ap, kBin1_ok, sCall_ap, sCons_ap, sVar_ap, List.getElem?_cons_zero, List.getElem?_cons_succ, vR_some, kC1_ok, sNil_ap, kC2_ok, kCall_ok, ↓reduceIte, kBin2_ok, optR_some, kAsg_ok, gNm_ap, asgO_some, List.set_cons_succ, List.set_cons_zero, next_nx, next_ret, next_err, sIf_ap, sTst_ap, kTst_ok, kIf_f, kIf_t, sSkip_ap, sBif_ap, kBif_ok, sPar_ap, sTup_ap, kTup_ok, Nat.reduceLeDiff, kPar_ok, setAll, sRet_ap, kRet_ok, out_ret, out_nx, out_err, gTu_tup, gTu_lst, gsC_nm, gsC_tu, gsK_some, gsN, sNewL_ap, kNewL_ok, sAppend_ap, kApp0_some, kApp_ok, sAndV_ap, kAndV_ok, kAndV2_t, kAndV2_f, sOrV_ap, kOrV_ok, kOrV2_t, kOrV2_f, tru_bl, sIte_ap, kIte_t, kIte_f, sLst_ap, kLst_ok, sFor_ap, kFor_ok, sItems_ap, kItems_ok, itemsD, sNeg_ap, kNeg_ok, sSlc_ap, kS1_ok, kS2_ok, kS3_ok, sPart_ap, kPart_ok, sNoPart_ap, sOrT_ap, kOrT_f, kOrT_t, sAndT_ap, kAndT_t, kAndT_f, sNotT_ap, kNotT_ok, sNotV_ap, kNotV_ok, kNotV2_ok, sTru_ap, kTru_ok, sIsi_ap, kIsi_ok, sCallK_ap, kK1_ok, kK2_ok, and_self, sDrop_ap, kDrop_ok, sRetN_ap, sChain_ap, kCh1_ok, kCh2_ok, kCh3_t, kCh3_f, kCh4_ok, sTab_ap, kTab_ok, sAug_ap, kAug0_some, kAug1_ok, augO_some, iadd_int, isub_int, Bool.not_true, Bool.not_false, add_int, sub_int, eq_int, ne_int, lt_int, le_int, gt_int, ge_int, eq_str, ne_str, len_lst, len_tup, sRange1_ap, kRange1_ok, eq_self, decide_true, decide_false, eq_self_iff_true, pm_nil, pm_cons, sRev_ap, kRev_ok, rev_tup, rev_lst, sRaise_ap, kRaise_ok, sTry_ap, kTry_nx, kTry_ret, sTryF_ap, kTryF_nx, kAsg_err, kBin1_err, kBin2_err, kCall_err, kC1_err, kC2_err, kRet_err, kDrop_err, kIf_err, lx, e2', e3']
  have T5 : ∀ (q5 q7 q8 : Option D) (m : MS), t5 [p0, some (.loc n), p2, some (.tup xs), some (.int (i : Nat)), q5, some od, q7, q8] m = .nx [p0, some (.loc n), p2, some (.tup xs), some (.int (i : Nat)), q5, some od, some (.tup (xs.set i od)), q8] m := fun q5 q7 q8 m => by
    simp only [t5, runD_ap, List.map_cons, List.map_nil, List.length_cons, List.length_nil, Nat.reduceAdd, Nat.reduceSub, List.replicate, List.cons_append, List.nil_append, sSeq_ap, sAsg_ap, sBin_ap, sCst_ap, kBin1_ok, sCall_ap, sCons_ap, sVar_ap, List.getElem?_cons_zero, List.getElem?_cons_succ, vR_some, kC1_ok, sNil_ap, kC2_ok, kCall_ok, ↓reduceIte, kBin2_ok, optR_some, kAsg_ok, gNm_ap, asgO_some, List.set_cons_succ, List.set_cons_zero, next_nx, next_ret, next_err, sIf_ap, sTst_ap, kTst_ok, kIf_f, kIf_t, sSkip_ap, sBif_ap, kBif_ok, sPar_ap, sTup_ap, kTup_ok, Nat.reduceLeDiff, kPar_ok, setAll, sRet_ap, kRet_ok, out_ret, out_nx, out_err, gTu_tup, gTu_lst, gsC_nm, gsC_tu, gsK_some, gsN, sNewL_ap, kNewL_ok, sAppend_ap, kApp0_some, kApp_ok, sAndV_ap, kAndV_ok, kAndV2_t, kAndV2_f, sOrV_ap, kOrV_ok, kOrV2_t, kOrV2_f, tru_bl, sIte_ap, kIte_t, kIte_f, sLst_ap, kLst_ok, sFor_ap, kFor_ok, sItems_ap, kItems_ok, itemsD, sNeg_ap, kNeg_ok, sSlc_ap, kS1_ok, kS2_ok, kS3_ok, sPart_ap, kPart_ok, sNoPart_ap, sOrT_ap, kOrT_f, kOrT_t, sAndT_ap, kAndT_t, kAndT_f, sNotT_ap, kNotT_ok, sNotV_ap, kNotV_ok, kNotV2_ok, sTru_ap, kTru_ok, sIsi_ap, kIsi_ok, sCallK_ap, kK1_ok, kK2_ok, and_self, sDrop_ap, kDrop_ok, sRetN_ap, sChain_ap, kCh1_ok, kCh2_ok, kCh3_t, kCh3_f, kCh4_ok, sTab_ap, kTab_ok, sAug_ap, kAug0_some, kAug1_ok, augO_some, iadd_int, isub_int, Bool.not_true, Bool.not_false, add_int, sub_int, eq_int, ne_int, lt_int, le_int, gt_int, ge_int, eq_str, ne_str, len_lst, len_tup, sRange1_ap, kRange1_ok, eq_self, decide_true, decide_false, eq_self_iff_true, pm_nil, pm_cons, sRev_ap, kRev_ok, rev_tup, rev_lst, sRaise_ap, kRaise_ok, sTry_ap, kTry_nx, kTry_ret, sTryF_ap, kTryF_nx, kAsg_err, kBin1_err, kBin2_err, kCall_err, kC1_err, kC2_err, kRet_err, kDrop_err, kIf_err, slc_tup, pa1, pa2]
  have T6 : ∀ (q5 q6 q8 : Option D) (m : MS), t6 [p0, some (.loc n), p2, some (.tup xs), some (.int (i : Nat)), q5, q6, some (.tup (xs.set i od)), q8] m = .nx [p0, some (.loc n), p2, some (.tup xs), some (.int (i : Nat)), q5, q6, some (.tup (xs.set i od)), q8] m := fun q5 q6 q8 m => by
    have n0 : ∀ m : MS, neX m (.lst [.int (i : Nat)]) (.lst [.int (i : Nat)]) = some (.bl false) := fun m => ne_li
    generalize D.tup (xs.set i od) = X at *
    simp only [t6, runD_ap, List.map_cons, List.map_nil, List.length_cons, List.length_nil, Nat.reduceAdd, Nat.reduceSub, List.replicate, List.cons_append, List.nil_append, sSeq_ap, sAsg_ap, sBin_ap, sCst_ap, kBin1_ok, sCall_ap, sCons_ap, sVar_ap, List.getElem?_cons_zero, List.getElem?_cons_succ, vR_some, kC1_ok, sNil_ap, kC2_ok, kCall_ok, ↓reduceIte, kBin2_ok, optR_some, kAsg_ok, gNm_ap, asgO_some, List.set_cons_succ, List.set_cons_zero, next_nx, next_ret, next_err, sIf_ap, sTst_ap, kTst_ok, kIf_f, kIf_t, sSkip_ap, sBif_ap, kBif_ok, sPar_ap, sTup_ap, kTup_ok, Nat.reduceLeDiff, kPar_ok, setAll, sRet_ap, kRet_ok, out_ret, out_nx, out_err, gTu_tup, gTu_lst, gsC_nm, gsC_tu, gsK_some, gsN, sNewL_ap, kNewL_ok, sAppend_ap, kApp0_some, kApp_ok, sAndV_ap, kAndV_ok, kAndV2_t, kAndV2_f, sOrV_ap, kOrV_ok, kOrV2_t, kOrV2_f, tru_bl, sIte_ap, kIte_t, kIte_f, sLst_ap, kLst_ok, sFor_ap, kFor_ok, sItems_ap, kItems_ok, itemsD, sNeg_ap, kNeg_ok, sSlc_ap, kS1_ok, kS2_ok, kS3_ok, sPart_ap, kPart_ok, sNoPart_ap, sOrT_ap, kOrT_f, kOrT_t, sAndT_ap, kAndT_t, kAndT_f, sNotT_ap, kNotT_ok, sNotV_ap, kNotV_ok, kNotV2_ok, sTru_ap, kTru_ok, sIsi_ap, kIsi_ok, sCallK_ap, kK1_ok, kK2_ok, and_self, sDrop_ap, kDrop_ok, sRetN_ap, sChain_ap, kCh1_ok, kCh2_ok, kCh3_t, kCh3_f, kCh4_ok, sTab_ap, kTab_ok, sAug_ap, kAug0_some, kAug1_ok, augO_some, iadd_int, isub_int, Bool.not_true, Bool.not_false, add_int, sub_int, eq_int, ne_int, lt_int, le_int, gt_int, ge_int, eq_str, ne_str, len_lst, len_tup, sRange1_ap, kRange1_ok, eq_self, decide_true, decide_false, eq_self_iff_true, pm_nil, pm_cons, sRev_ap, kRev_ok, rev_tup, rev_lst, sRaise_ap, kRaise_ok, sTry_ap, kTry_nx, kTry_ret, sTryF_ap, kTryF_nx, kAsg_err, kBin1_err, kBin2_err, kCall_err, kC1_err, kC2_err, kRet_err, kDrop_err, kIf_err, w1, n0]
  have T7 : ∀ (q4 q6 q8 : Option D) (m : MS), t7 [p0, some (.loc n), p2, some (.tup xs), q4, some (.int (j : Nat)), q6, some (.tup (xs.set i od)), q8] m = .nx [p0, some (.loc n), p2, some (.tup xs), q4, some (.int (j : Nat)), q6, some (.tup ((xs.set i od).set j .non)), q8] m := fun q4 q6 q8 m => by
    generalize xs.set i od = Z at *
    simp only [t7, runD_ap, List.map_cons, List.map_nil, List.length_cons, List.length_nil, Nat.reduceAdd, Nat.reduceSub, List.replicate, List.cons_append, List.nil_append, sSeq_ap, sAsg_ap, sBin_ap, sCst_ap, kBin1_ok, sCall_ap, sCons_ap, sVar_ap, List.getElem?_cons_zero, List.getElem?_cons_succ, vR_some, kC1_ok, sNil_ap, kC2_ok, kCall_ok, ↓reduceIte, kBin2_ok, optR_some, kAsg_ok, gNm_ap, asgO_some, List.set_cons_succ, List.set_cons_zero, next_nx, next_ret, next_err, sIf_ap, sTst_ap, kTst_ok, kIf_f, kIf_t, sSkip_ap, sBif_ap, kBif_ok, sPar_ap, sTup_ap, kTup_ok, Nat.reduceLeDiff, kPar_ok, setAll, sRet_ap, kRet_ok, out_ret, out_nx, out_err, gTu_tup, gTu_lst, gsC_nm, gsC_tu, gsK_some, gsN, sNewL_ap, kNewL_ok, sAppend_ap, kApp0_some, kApp_ok, sAndV_ap, kAndV_ok, kAndV2_t, kAndV2_f, sOrV_ap, kOrV_ok, kOrV2_t, kOrV2_f, tru_bl, sIte_ap, kIte_t, kIte_f, sLst_ap, kLst_ok, sFor_ap, kFor_ok, sItems_ap, kItems_ok, itemsD, sNeg_ap, kNeg_ok, sSlc_ap, kS1_ok, kS2_ok, kS3_ok, sPart_ap, kPart_ok, sNoPart_ap, sOrT_ap, kOrT_f, kOrT_t, sAndT_ap, kAndT_t, kAndT_f, sNotT_ap, kNotT_ok, sNotV_ap, kNotV_ok, kNotV2_ok, sTru_ap, kTru_ok, sIsi_ap, kIsi_ok, sCallK_ap, kK1_ok, kK2_ok, and_self, sDrop_ap, kDrop_ok, sRetN_ap, sChain_ap, kCh1_ok, kCh2_ok, kCh3_t, kCh3_f, kCh4_ok, sTab_ap, kTab_ok, sAug_ap, kAug0_some, kAug1_ok, augO_some, iadd_int, isub_int, Bool.not_true, Bool.not_false, add_int, sub_int, eq_int, ne_int, lt_int, le_int, gt_int, ge_int, eq_str, ne_str, len_lst, len_tup, sRange1_ap, kRange1_ok, eq_self, decide_true, decide_false, eq_self_iff_true, pm_nil, pm_cons, sRev_ap, kRev_ok, rev_tup, rev_lst, sRaise_ap, kRaise_ok, sTry_ap, kTry_nx, kTry_ret, sTryF_ap, kTryF_nx, kAsg_err, kBin1_err, kBin2_err, kCall_err, kC1_err, kC2_err, kRet_err, kDrop_err, kIf_err, slc_tup, pb1, pb2]
  have T8 : ∀ (q6 q8 : Option D) (m : MS), t8 [p0, some (.loc n), p2, some (.tup xs), some (.int (i : Nat)), some (.int (j : Nat)), q6, some (.tup ((xs.set i od).set j .non)), q8] m = .nx [p0, some (.loc n), p2, some (.tup xs), some (.int (i : Nat)), some (.int (j : Nat)), q6, some (.tup ((xs.set i od).set j .non)), q8] m := fun q6 q8 m => by
    have lt : ∀ m : MS, ltX m (.int (j : Nat)) (.int (i : Nat)) = some (.bl (decide ((j : Int) < (i : Int)))) := fun m => rfl
    have n0 : ∀ (m : MS) (k : Int), neX m (.lst [.int k]) (.lst [.int k]) = some (.bl false) := fun m k => ne_li
    generalize D.tup ((xs.set i od).set j .non) = X at *
    by_cases hij : j < i
    · have h1 : decide ((j : Int) < (i : Int)) = true := decide_eq_true (by omega)
      rw [if_pos hij] at w2
      simp only [t8, runD_ap, List.map_cons, List.map_nil, List.length_cons, List.length_nil, Nat.reduceAdd, Nat.reduceSub, List.replicate, List.cons_append, List.nil_append, sSeq_ap, sAsg_ap, sBin_ap, sCst_ap, kBin1_ok, sCall_ap, sCons_ap, sVar_ap, List.getElem?_cons_zero, List.getElem?_cons_succ, vR_some, kC1_ok, sNil_ap, kC2_ok, kCall_ok, ↓reduceIte, kBin2_ok, optR_some, kAsg_ok, gNm_ap, asgO_some, List.set_cons_succ, List.set_cons_zero, next_nx, next_ret, next_err, sIf_ap, sTst_ap, kTst_ok, kIf_f, kIf_t, sSkip_ap, sBif_ap, kBif_ok, sPar_ap, sTup_ap, kTup_ok, Nat.reduceLeDiff, kPar_ok, setAll, sRet_ap, kRet_ok, out_ret, out_nx, out_err, gTu_tup, gTu_lst, gsC_nm, gsC_tu, gsK_some, gsN, sNewL_ap, kNewL_ok, sAppend_ap, kApp0_some, kApp_ok, sAndV_ap, kAndV_ok, kAndV2_t, kAndV2_f, sOrV_ap, kOrV_ok, kOrV2_t, kOrV2_f, tru_bl, sIte_ap, kIte_t, kIte_f, sLst_ap, kLst_ok, sFor_ap, kFor_ok, sItems_ap, kItems_ok, itemsD, sNeg_ap, kNeg_ok, sSlc_ap, kS1_ok, kS2_ok, kS3_ok, sPart_ap, kPart_ok, sNoPart_ap, sOrT_ap, kOrT_f, kOrT_t, sAndT_ap, kAndT_t, kAndT_f, sNotT_ap, kNotT_ok, sNotV_ap, kNotV_ok, kNotV2_ok, sTru_ap, kTru_ok, sIsi_ap, kIsi_ok, sCallK_ap, kK1_ok, kK2_ok, and_self, sDrop_ap, kDrop_ok, sRetN_ap, sChain_ap, kCh1_ok, kCh2_ok, kCh3_t, kCh3_f, kCh4_ok, sTab_ap, kTab_ok, sAug_ap, kAug0_some, kAug1_ok, augO_some, iadd_int, isub_int, Bool.not_true, Bool.not_false, add_int, sub_int, eq_int, ne_int, lt_int, le_int, gt_int, ge_int, eq_str, ne_str, len_lst, len_tup, sRange1_ap, kRange1_ok, eq_self, decide_true, decide_false, eq_self_iff_true, pm_nil, pm_cons, sRev_ap, kRev_ok, rev_tup, rev_lst, sRaise_ap, kRaise_ok, sTry_ap, kTry_nx, kTry_ret, sTryF_ap, kTryF_nx, kAsg_err, kBin1_err, kBin2_err, kCall_err, kC1_err, kC2_err, kRet_err, kDrop_err, kIf_err, w2, lt, h1, n0]
    · have h1 : decide ((j : Int) < (i : Int)) = false := decide_eq_false (by omega)
      rw [if_neg hij] at w2
      simp only [t8, runD_ap, List.map_cons, List.map_nil, List.length_cons, List.length_nil, Nat.reduceAdd, Nat.reduceSub, List.replicate, List.cons_append, List.nil_append, sSeq_ap, sAsg_ap, sBin_ap, sCst_ap, kBin1_ok, sCall_ap, sCons_ap, sVar_ap, List.getElem?_cons_zero, List.getElem?_cons_succ, vR_some, kC1_ok, sNil_ap, kC2_ok, kCall_ok, ↓reduceIte, kBin2_ok, optR_some, kAsg_ok, gNm_ap, asgO_some, List.set_cons_succ, List.set_cons_zero, next_nx, next_ret, next_err, sIf_ap, sTst_ap, kTst_ok, kIf_f, kIf_t, sSkip_ap, sBif_ap, kBif_ok, sPar_ap, sTup_ap, kTup_ok, Nat.reduceLeDiff, kPar_ok, setAll, sRet_ap, kRet_ok, out_ret, out_nx, out_err, gTu_tup, gTu_lst, gsC_nm, gsC_tu, gsK_some, gsN, sNewL_ap, kNewL_ok, sAppend_ap, kApp0_some, kApp_ok, sAndV_ap, kAndV_ok, kAndV2_t, kAndV2_f, sOrV_ap, kOrV_ok, kOrV2_t, kOrV2_f, tru_bl, sIte_ap, kIte_t, kIte_f, sLst_ap, kLst_ok, sFor_ap, kFor_ok, sItems_ap, kItems_ok, itemsD, sNeg_ap, kNeg_ok, sSlc_ap, kS1_ok, kS2_ok, kS3_ok, sPart_ap, kPart_ok, sNoPart_ap, sOrT_ap, kOrT_f, kOrT_t, sAndT_ap, kAndT_t, kAndT_f, sNotT_ap, kNotT_ok, sNotV_ap, kNotV_ok, kNotV2_ok, sTru_ap, kTru_ok, sIsi_ap, kIsi_ok, sCallK_ap, kK1_ok, kK2_ok, and_self, sDrop_ap, kDrop_ok, sRetN_ap, sChain_ap, kCh1_ok, kCh2_ok, kCh3_t, kCh3_f, kCh4_ok, sTab_ap, kTab_ok, sAug_ap, kAug0_some, kAug1_ok, augO_some, iadd_int, isub_int, Bool.not_true, Bool.not_false, add_int, sub_int, eq_int, ne_int, lt_int, le_int, gt_int, ge_int, eq_str, ne_str, len_lst, len_tup, sRange1_ap, kRange1_ok, eq_self, decide_true, decide_false, eq_self_iff_true, pm_nil, pm_cons, sRev_ap, kRev_ok, rev_tup, rev_lst, sRaise_ap, kRaise_ok, sTry_ap, kTry_nx, kTry_ret, sTryF_ap, kTryF_nx, kAsg_err, kBin1_err, kBin2_err, kCall_err, kC1_err, kC2_err, kRet_err, kDrop_err, kIf_err, w2, lt, h1, n0]
  have T9 : ∀ (q4 q5 q6 q7 q8 : Option D) (m : MS), ∃ r6 r8, t9 [p0, some (.loc n), p2, some (.tup xs), q4, q5, q6, q7, q8] m = .nx [p0, some (.loc n), p2, some (.tup xs), q4, q5, r6, q7, r8] m := fun q4 q5 q6 q7 q8 m => by
    obtain ⟨r6, r8, e⟩ := i_all (ms := m) (p0 := p0) (p1 := some (.loc n)) (p2 := p2) (p4 := q4) (p5 := q5) (p7 := q7) a00 _ q6 q8 (nines rc x1 (List.getElem_mem x0))
    refine ⟨r6, r8, ?_⟩
    have li : ∀ m : MS, listD m [.tup xs] = some (.lst xs) := fun m => rfl
    have m5 : ∀ m : MS, mulD m (.tup [.non]) (.int 5) = some (.tup [.non, .non, .non, .non, .non]) := fun m => by kernel_rfl
    have c1 : ∀ m : MS, slcD m (.tup xs) none (some 1) = some (.tup [xs[0]]) := fun m => by
      rw [slc_tup]
      have : cutL xs none (some (1 : Int)) = xs.take 1 := cut_take (i := 1) (by omega)
      rw [this, List.take_one]
      cases xs with
      | nil => exact absurd rfl hne
      | cons x ys => rfl
    have m6 : ∀ m : MS, mulD m (.tup [xs[0]]) (.int 5) = some (.tup [xs[0], xs[0], xs[0], xs[0], xs[0]]) := fun m => by
      generalize xs[0] = Q
      kernel_rfl
    have d0 : ∀ (e : DE) (m : MS), sDic0 false e m = .ok (.dic [] []) m := fun e m => rfl
    generalize xs[0] = Q at *
    simp only [t9, runD_ap, List.map_cons, List.map_nil, List.length_cons, List.length_nil, Nat.reduceAdd, Nat.reduceSub, List.replicate, List.cons_append, List.nil_append, sSeq_ap, sAsg_ap, sBin_ap, sCst_ap, kBin1_ok, sCall_ap, sCons_ap, sVar_ap, List.getElem?_cons_zero, List.getElem?_cons_succ, vR_some, kC1_ok, sNil_ap, kC2_ok, kCall_ok, ↓reduceIte, kBin2_ok, optR_some, kAsg_ok, gNm_ap, asgO_some, List.set_cons_succ, List.set_cons_zero, next_nx, next_ret, next_err, sIf_ap, sTst_ap, kTst_ok, kIf_f, kIf_t, sSkip_ap, sBif_ap, kBif_ok, sPar_ap, sTup_ap, kTup_ok, Nat.reduceLeDiff, kPar_ok, setAll, sRet_ap, kRet_ok, out_ret, out_nx, out_err, gTu_tup, gTu_lst, gsC_nm, gsC_tu, gsK_some, gsN, sNewL_ap, kNewL_ok, sAppend_ap, kApp0_some, kApp_ok, sAndV_ap, kAndV_ok, kAndV2_t, kAndV2_f, sOrV_ap, kOrV_ok, kOrV2_t, kOrV2_f, tru_bl, sIte_ap, kIte_t, kIte_f, sLst_ap, kLst_ok, sFor_ap, kFor_ok, sItems_ap, kItems_ok, itemsD, sNeg_ap, kNeg_ok, sSlc_ap, kS1_ok, kS2_ok, kS3_ok, sPart_ap, kPart_ok, sNoPart_ap, sOrT_ap, kOrT_f, kOrT_t, sAndT_ap, kAndT_t, kAndT_f, sNotT_ap, kNotT_ok, sNotV_ap, kNotV_ok, kNotV2_ok, sTru_ap, kTru_ok, sIsi_ap, kIsi_ok, sCallK_ap, kK1_ok, kK2_ok, and_self, sDrop_ap, kDrop_ok, sRetN_ap, sChain_ap, kCh1_ok, kCh2_ok, kCh3_t, kCh3_f, kCh4_ok, sTab_ap, kTab_ok, sAug_ap, kAug0_some, kAug1_ok, augO_some, iadd_int, isub_int, Bool.not_true, Bool.not_false, add_int, sub_int, eq_int, ne_int, lt_int, le_int, gt_int, ge_int, eq_str, ne_str, len_lst, len_tup, sRange1_ap, kRange1_ok, eq_self, decide_true, decide_false, eq_self_iff_true, pm_nil, pm_cons, sRev_ap, kRev_ok, rev_tup, rev_lst, sRaise_ap, kRaise_ok, sTry_ap, kTry_nx, kTry_ret, sTryF_ap, kTryF_nx, kAsg_err, kBin1_err, kBin2_err, kCall_err, kC1_err, kC2_err, kRet_err, kDrop_err, kIf_err, li, a00, c1, m6, m5, d0]
    exact e
  obtain ⟨r6, r8, T9'⟩ := T9 (some (.int (i : Nat))) (some (.int (j : Nat))) (some od) (some (.tup ((xs.set i od).set j .non))) p8 (ms.set n o4)
  refine ⟨some (.tup xs), some (.int (i : Nat)), some (.int (j : Nat)), r6, some (.tup ((xs.set i od).set j .non)), r8, o5, ?_, up_to d5 (by omega)⟩
  have T10 : t10 [p0, some (.loc n), p2, some (.tup xs), some (.int (i : Nat)), some (.int (j : Nat)), r6, some (.tup ((xs.set i od).set j .non)), r8] (ms.set n o4) = .nx [p0, some (.loc n), p2, some (.tup xs), some (.int (i : Nat)), some (.int (j : Nat)), r6, some (.tup ((xs.set i od).set j .non)), r8] (ms.set n o5) := by
    generalize D.tup xs = X at *
    simp only [t10, runD_ap, List.map_cons, List.map_nil, List.length_cons, List.length_nil, Nat.reduceAdd, Nat.reduceSub, List.replicate, List.cons_append, List.nil_append, sSeq_ap, sAsg_ap, sBin_ap, sCst_ap, kBin1_ok, sCall_ap, sCons_ap, sVar_ap, List.getElem?_cons_zero, List.getElem?_cons_succ, vR_some, kC1_ok, sNil_ap, kC2_ok, kCall_ok, ↓reduceIte, kBin2_ok, optR_some, kAsg_ok, gNm_ap, asgO_some, List.set_cons_succ, List.set_cons_zero, next_nx, next_ret, next_err, sIf_ap, sTst_ap, kTst_ok, kIf_f, kIf_t, sSkip_ap, sBif_ap, kBif_ok, sPar_ap, sTup_ap, kTup_ok, Nat.reduceLeDiff, kPar_ok, setAll, sRet_ap, kRet_ok, out_ret, out_nx, out_err, gTu_tup, gTu_lst, gsC_nm, gsC_tu, gsK_some, gsN, sNewL_ap, kNewL_ok, sAppend_ap, kApp0_some, kApp_ok, sAndV_ap, kAndV_ok, kAndV2_t, kAndV2_f, sOrV_ap, kOrV_ok, kOrV2_t, kOrV2_f, tru_bl, sIte_ap, kIte_t, kIte_f, sLst_ap, kLst_ok, sFor_ap, kFor_ok, sItems_ap, kItems_ok, itemsD, sNeg_ap, kNeg_ok, sSlc_ap, kS1_ok, kS2_ok, kS3_ok, sPart_ap, kPart_ok, sNoPart_ap, sOrT_ap, kOrT_f, kOrT_t, sAndT_ap, kAndT_t, kAndT_f, sNotT_ap, kNotT_ok, sNotV_ap, kNotV_ok, kNotV2_ok, sTru_ap, kTru_ok, sIsi_ap, kIsi_ok, sCallK_ap, kK1_ok, kK2_ok, and_self, sDrop_ap, kDrop_ok, sRetN_ap, sChain_ap, kCh1_ok, kCh2_ok, kCh3_t, kCh3_f, kCh4_ok, sTab_ap, kTab_ok, sAug_ap, kAug0_some, kAug1_ok, augO_some, iadd_int, isub_int, Bool.not_true, Bool.not_false, add_int, sub_int, eq_int, ne_int, lt_int, le_int, gt_int, ge_int, eq_str, ne_str, len_lst, len_tup, sRange1_ap, kRange1_ok, eq_self, decide_true, decide_false, eq_self_iff_true, pm_nil, pm_cons, sRev_ap, kRev_ok, rev_tup, rev_lst, sRaise_ap, kRaise_ok, sTry_ap, kTry_nx, kTry_ret, sTryF_ap, kTryF_nx, kAsg_err, kBin1_err, kBin2_err, kCall_err, kC1_err, kC2_err, kRet_err, kDrop_err, kIf_err, e5]
  show (sSeq _ (sSeq t2 (sSeq t3 (sSeq _ (sSeq t5 (sSeq t6 (sSeq t7 (sSeq t8 (sSeq t9 t10))))))))) _ _ = _
  generalize t2 = z2 at *
  generalize t3 = z3 at *
  generalize t5 = z5 at *
  generalize t6 = z6 at *
  generalize t7 = z7 at *
  generalize t8 = z8 at *
  generalize t9 = z9 at *
  generalize t10 = z10 at *
  generalize xs[i] = Q at *
  simp only [runD_ap, List.map_cons, List.map_nil, List.length_cons, List.length_nil, Nat.reduceAdd, Nat.reduceSub, List.replicate, List.cons_append, List.nil_append, sSeq_ap, sAsg_ap, sBin_ap, sCst_ap, kBin1_ok, sCall_ap, sCons_ap, sVar_ap, List.getElem?_cons_zero, List.getElem?_cons_succ, vR_some, kC1_ok, sNil_ap, kC2_ok, kCall_ok, ↓reduceIte, kBin2_ok, optR_some, kAsg_ok, gNm_ap, asgO_some, List.set_cons_succ, List.set_cons_zero, next_nx, next_ret, next_err, sIf_ap, sTst_ap, kTst_ok, kIf_f, kIf_t, sSkip_ap, sBif_ap, kBif_ok, sPar_ap, sTup_ap, kTup_ok, Nat.reduceLeDiff, kPar_ok, setAll, sRet_ap, kRet_ok, out_ret, out_nx, out_err, gTu_tup, gTu_lst, gsC_nm, gsC_tu, gsK_some, gsN, sNewL_ap, kNewL_ok, sAppend_ap, kApp0_some, kApp_ok, sAndV_ap, kAndV_ok, kAndV2_t, kAndV2_f, sOrV_ap, kOrV_ok, kOrV2_t, kOrV2_f, tru_bl, sIte_ap, kIte_t, kIte_f, sLst_ap, kLst_ok, sFor_ap, kFor_ok, sItems_ap, kItems_ok, itemsD, sNeg_ap, kNeg_ok, sSlc_ap, kS1_ok, kS2_ok, kS3_ok, sPart_ap, kPart_ok, sNoPart_ap, sOrT_ap, kOrT_f, kOrT_t, sAndT_ap, kAndT_t, kAndT_f, sNotT_ap, kNotT_ok, sNotV_ap, kNotV_ok, kNotV2_ok, sTru_ap, kTru_ok, sIsi_ap, kIsi_ok, sCallK_ap, kK1_ok, kK2_ok, and_self, sDrop_ap, kDrop_ok, sRetN_ap, sChain_ap, kCh1_ok, kCh2_ok, kCh3_t, kCh3_f, kCh4_ok, sTab_ap, kTab_ok, sAug_ap, kAug0_some, kAug1_ok, augO_some, iadd_int, isub_int, Bool.not_true, Bool.not_false, add_int, sub_int, eq_int, ne_int, lt_int, le_int, gt_int, ge_int, eq_str, ne_str, len_lst, len_tup, sRange1_ap, kRange1_ok, eq_self, decide_true, decide_false, eq_self_iff_true, pm_nil, pm_cons, sRev_ap, kRev_ok, rev_tup, rev_lst, sRaise_ap, kRaise_ok, sTry_ap, kTry_nx, kTry_ret, sTryF_ap, kTryF_nx, kAsg_err, kBin1_err, kBin2_err, kCall_err, kC1_err, kC2_err, kRet_err, kDrop_err, kIf_err, e1, T2, T3, ai, e4, T5, T6, T7, T8, T9', T10]
theorem law_true (ns : List Int) (h : ns.length ≤ 63) : ∃ ms, F_law ns [.scr] [] = .ok (.bl true) ms := by
  obtain ⟨e0, d0⟩ := U.begin_ok (ms := []) h
  have go : ∀ (ds : List D) (B : Nat) (o : MO) (ms : MS) (p2 p3 p4 p5 p6 p7 p8 : Option D), ms[0]? = some o → Dr B o → B + 210 * ds.length < 400000 → ∃ (q2 q3 q4 q5 q6 q7 q8 : Option D) (ms' : MS),
      forL (gNm 2) tB ds [some .scr, some (.loc 0), p2, p3, p4, p5, p6, p7, p8] ms = .nx [some .scr, some (.loc 0), q2, q3, q4, q5, q6, q7, q8] ms' := by
    intro ds
    induction ds with
    | nil => intro B o ms p2 p3 p4 p5 p6 p7 p8 _ _ _; exact ⟨p2, p3, p4, p5, p6, p7, p8, ms, rfl⟩
    | cons d ds ih =>
      intro B o ms p2 p3 p4 p5 p6 p7 p8 h0 dr hB
      simp only [List.length_cons] at hB
      obtain ⟨q3, q4, q5, q6, q7, q8, o', e, d'⟩ := t_ok (p0 := some .scr) (p2 := some d) (p3 := p3) (p4 := p4) (p5 := p5) (p6 := p6) (p7 := p7) (p8 := p8) h0 dr (by omega)
      obtain ⟨r2, r3, r4, r5, r6, r7, r8, ms'', e'⟩ := ih (B + 210) o' (ms.set 0 o') (some d) q3 q4 q5 q6 q7 q8 (set_at h0) d' (by omega)
      exact ⟨r2, r3, r4, r5, r6, r7, r8, ms'', by rw [forL_cons (env1 := [some .scr, some (.loc 0), some d, p3, p4, p5, p6, p7, p8]) rfl e, e']⟩
  have ir : inR 5 = true := rfl
  obtain ⟨q2, q3, q4, q5, q6, q7, q8, ms', e⟩ := go (rngL 0 (5 : Int).toNat) 0 _ [drM ((ns ++ [0]).map D.int) (.int 0) (.int 0) (.int 0)] none none none none none none none rfl d0 (by simp [rngL])
  simp only [List.length_nil, List.nil_append] at e0
  refine ⟨[], cutF_top (m := ms') ?_⟩
  simp only [b_law_eq]
  generalize tB = TB at e ⊢
  simp only [runD_ap, List.map_cons, List.map_nil, List.length_cons, List.length_nil, Nat.reduceAdd, Nat.reduceSub, List.replicate, List.cons_append, List.nil_append, sSeq_ap, sAsg_ap, sBin_ap, sCst_ap, kBin1_ok, sCall_ap, sCons_ap, sVar_ap, List.getElem?_cons_zero, List.getElem?_cons_succ, vR_some, kC1_ok, sNil_ap, kC2_ok, kCall_ok, ↓reduceIte, kBin2_ok, optR_some, kAsg_ok, gNm_ap, asgO_some, List.set_cons_succ, List.set_cons_zero, next_nx, next_ret, next_err, sIf_ap, sTst_ap, kTst_ok, kIf_f, kIf_t, sSkip_ap, sBif_ap, kBif_ok, sPar_ap, sTup_ap, kTup_ok, Nat.reduceLeDiff, kPar_ok, setAll, sRet_ap, kRet_ok, out_ret, out_nx, out_err, gTu_tup, gTu_lst, gsC_nm, gsC_tu, gsK_some, gsN, sNewL_ap, kNewL_ok, sAppend_ap, kApp0_some, kApp_ok, sAndV_ap, kAndV_ok, kAndV2_t, kAndV2_f, sOrV_ap, kOrV_ok, kOrV2_t, kOrV2_f, tru_bl, sIte_ap, kIte_t, kIte_f, sLst_ap, kLst_ok, sFor_ap, kFor_ok, sItems_ap, kItems_ok, itemsD, sNeg_ap, kNeg_ok, sSlc_ap, kS1_ok, kS2_ok, kS3_ok, sPart_ap, kPart_ok, sNoPart_ap, sOrT_ap, kOrT_f, kOrT_t, sAndT_ap, kAndT_t, kAndT_f, sNotT_ap, kNotT_ok, sNotV_ap, kNotV_ok, kNotV2_ok, sTru_ap, kTru_ok, sIsi_ap, kIsi_ok, sCallK_ap, kK1_ok, kK2_ok, and_self, sDrop_ap, kDrop_ok, sRetN_ap, sChain_ap, kCh1_ok, kCh2_ok, kCh3_t, kCh3_f, kCh4_ok, sTab_ap, kTab_ok, sAug_ap, kAug0_some, kAug1_ok, augO_some, iadd_int, isub_int, Bool.not_true, Bool.not_false, add_int, sub_int, eq_int, ne_int, lt_int, le_int, gt_int, ge_int, eq_str, ne_str, len_lst, len_tup, sRange1_ap, kRange1_ok, eq_self, decide_true, decide_false, eq_self_iff_true, pm_nil, pm_cons, sRev_ap, kRev_ok, rev_tup, rev_lst, sRaise_ap, kRaise_ok, sTry_ap, kTry_nx, kTry_ret, sTryF_ap, kTryF_nx, kAsg_err, kBin1_err, kBin2_err, kCall_err, kC1_err, kC2_err, kRet_err, kDrop_err, kIf_err, e0, ir, e]
end
end L09

open PySem PySem.W PySem.Calls PyProof.Rows
theorem PySem.Challenge.cw_beamframes_k09_receivers_holds : PySem.Challenge.rw_beamframes_k09_receivers.Holds := by
  w_on; o_law
  refine HandSHeadRun.head_any (r := OpenLaw.row PySem.Challenge.rw_beamframes_k09_receivers) (q := view (OpenLaw.row PySem.Challenge.rw_beamframes_k09_receivers).prog [44]) (H := L09.hk) (ob := L09.ob) (M := 20000) (loose := L09.nms) (d := HandSHeadRun.topDef (OpenLaw.row PySem.Challenge.rw_beamframes_k09_receivers).prog 44) (kwd := []) L09.ob_eq
    (by kernel_rfl) (fun s => by kernel_rfl) L09.ran (by kernel_rfl) (by kernel_rfl) (by kernel_rfl) (by rfl) (by first | assumption | decide +kernel) (by decide +kernel) ⟨rfl, rfl, rfl, rfl, rfl, by decide +kernel⟩ ?hw ?hc
  case hw => w_witness2
  case hc =>
    refine DL.lawWalk (l := PySem.Challenge.rw_beamframes_k09_receivers) (n := 63) (k := 15) (x := "script") rfl (by decide) (by kernel_rfl) ⟨rfl, by decide, by decide⟩ ?F
    intro w mg fa h a ns hlen Y Gs hmg0
    obtain ⟨K, KX, c⟩ := Y
    have named : (HandSHeadRun.topDef (OpenLaw.row PySem.Challenge.rw_beamframes_k09_receivers).prog 44).name = ("law" : PySem.Str) := by kernel_rfl
    have under : mg ("law" : PySem.Str) = some (.ref fa) := by rw [← named]; exact hmg0
    have T := L09.facts KX Gs c a ns
    obtain ⟨f, fd, Fu, hm⟩ := T.d_law
    have e := hm.symm.trans under
    cases e
    refine ⟨(DL.mkG K a ns true fun _ => L09.isi_of c), fd, L09.F_law ns, KX, rfl, rfl, L09.law_true ns hlen, fun s u => .of_eq ?_, fun base _ _ => ?_⟩
    · obtain ⟨oc, od, kV, doc, pm, an, cdv, ct, osl, rfl, lk, hcd⟩ := Fu.ex
      rfl
    · exact L09.ok_law (G := (DL.mkG K a ns true fun _ => L09.isi_of c)) T Fu
