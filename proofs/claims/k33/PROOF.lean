import PyProof.Rows.All
import Wide.All
import OpenK.AllK
import Wide.FinOn
import HandS.ForMost
import HandS.Lambda
import HandS.Conv
import HandS.IsInst
import HandS.Zip
import HandS.Exc
import HandS.Defaults
import HandS.CallSlots
import HandS.WordsExc
import HandS.SortInts
import HandS.TupLen
import HandS.NamedTupSort
import KE.KDictDisplayH
import HandS.More
import HandS.Deep
import HandS.ExcInit
import HandS.ExcField
import PyProof.StrOps2
import HandS.TryMany
import HandS.EndTab
import HandS.HeadHook4
import HandS.Head2
import PyProof.DictDisplay
import HandS.Style
import HandS.SetFor
import HandS.DictComp
import PyProof.WalkInts
import PyProof.Rows.SumAny
import KE.KDictCopyH
import PySem.Challenge.RW_siftlevels_k33_whole_classes
set_option Elab.async false
set_option linter.all false
set_option maxRecDepth 100000
set_option maxHeartbeats 4000000
namespace TL
open PySem L2
/-- data as trees -/
inductive D where
  | non | bl (b : Bool) | int (i : Int) | str (x : Str)
  | seq (t : Bool) (xs : List D)
  | dk (ks : List Key) (vs : List D)
  | dt (ks : List (List Key)) (vs : List D)
  | ins (C : Addr) (fs : List Str) (vs : List D)
mutual
inductive Rep (phi : Addr → Prop) (H : Hp) : V → D → Prop
  | non : Rep phi H .non .non
  | bl (b : Bool) : Rep phi H (.bl b) (.bl b)
  | int (i : Int) : Rep phi H (.int i) (.int i)
  | str (x : Str) : Rep phi H (.str x) (.str x)
  | lst {a : Addr} {vs : List V} {ds : List D} : H a = some (.lst vs) → phi a → RepL phi H vs ds → Rep phi H (.ref a) (.seq false ds)
  | tup {a : Addr} {vs : List V} {ds : List D} : H a = some (.tup vs) → RepL phi H vs ds → Rep phi H (.ref a) (.seq true ds)
  | dk {a : Addr} {kvs : List (Key × V)} {ks : List Key} {ds : List D} : Rd H a (.dK kvs) → phi a → kvs.map (·.1) = ks → RepL phi H (kvs.map (·.2)) ds → Rep phi H (.ref a) (.dk ks ds)
  | dt {a : Addr} {kvs : List (List Key × V)} {ks : List (List Key)} {ds : List D} : Rd H a (.dT kvs) → phi a → kvs.map (·.1) = ks → RepL phi H (kvs.map (·.2)) ds → Rep phi H (.ref a) (.dt ks ds)
  | ins {a C dx : Addr} {fs : List (Str × V)} {ns : List Str} {ds : List D} : H a = some (.ins C dx fs) → phi a → fs.map (·.1) = ns → RepL phi H (fs.map (·.2)) ds → Rep phi H (.ref a) (.ins C ns ds)
inductive RepL (phi : Addr → Prop) (H : Hp) : List V → List D → Prop
  | nil : RepL phi H [] []
  | cons {v : V} {vs : List V} {d : D} {ds : List D} : Rep phi H v d → RepL phi H vs ds → RepL phi H (v :: vs) (d :: ds)
end
/-- all that stands in the one stands in the other -/
def Le (H H' : Hp) : Prop := ∀ a o, H a = some o → H' a = some o
theorem Le.refl (H : Hp) : Le H H := fun _ _ h => h
theorem Le.trans {H H1 H2 : Hp} (a : Le H H1) (b : Le H1 H2) : Le H H2 := fun c o h => b c o (a c o h)
theorem Le.rd {H H' : Hp} (e : Le H H') {a : Addr} {u : HO} (h : Rd H a u) : Rd H' a u := by
  rcases h with h | ⟨o, h⟩
  · exact .inl (e _ _ h)
  · exact .inr ⟨o, e _ _ h⟩
theorem Le.nn {H H' : Hp} (e : Le H H') {a : Addr} (h : H' a = none) : H a = none := by
  cases q : H a with
  | none => rfl
  | some o => rw [e a o q] at h; cases h
theorem Le.nw {H : Hp} {p : Addr} {o : HO} (h : H p = none) : Le H (upd H p o) := fun a u e => by
  rw [upd_ne (ne_of_none e h)]; exact e
def nonTup : HO → Bool
  | .tup _ => false
  | _ => true
def nonTupO : Option HO → Bool
  | some u => nonTup u
  | none => false
/-- what carries a Rep from a heap to another -/
structure Car (phi psi : Addr → Prop) (H H' : Hp) : Prop where
  rdl : ∀ a vs, phi a → H a = some (.lst vs) → H' a = some (.lst vs)
  rdk : ∀ a kvs, phi a → Rd H a (.dK kvs) → Rd H' a (.dK kvs)
  rdt : ∀ a kvs, phi a → Rd H a (.dT kvs) → Rd H' a (.dT kvs)
  tup : ∀ a vs, H a = some (.tup vs) → H' a = some (.tup vs)
  ins : ∀ a C dx fs, phi a → H a = some (.ins C dx fs) → H' a = some (.ins C dx fs)
  imp : ∀ a, phi a → nonTupO (H a) = true → psi a
theorem rd_nt {H : Hp} {a : Addr} {u : HO} (h : Rd H a u) (n : nonTup u = true) : nonTupO (H a) = true := by
  rcases h with h | ⟨o, h⟩
  · rw [h]; exact n
  · rw [h]; rfl
theorem nt_some {H : Hp} {a : Addr} (h : nonTupO (H a) = true) : (H a).isSome = true := by
  cases q : H a with
  | none => rw [q] at h; cases h
  | some u => rfl
mutual
theorem Rep.car {phi psi : Addr → Prop} {H H' : Hp} (c : Car phi psi H H') : ∀ {v : V} {d : D}, Rep phi H v d → Rep psi H' v d
  | _, _, .non => .non
  | _, _, .bl b => .bl b
  | _, _, .int i => .int i
  | _, _, .str x => .str x
  | _, _, .lst h p r => .lst (c.rdl _ _ p h) (c.imp _ p (rd_nt (.inl h) rfl)) (RepL.car c r)
  | _, _, .tup h r => .tup (c.tup _ _ h) (RepL.car c r)
  | _, _, .dk h p e r => .dk (c.rdk _ _ p h) (c.imp _ p (rd_nt h rfl)) e (RepL.car c r)
  | _, _, .dt h p e r => .dt (c.rdt _ _ p h) (c.imp _ p (rd_nt h rfl)) e (RepL.car c r)
  | _, _, .ins h p e r => .ins (c.ins _ _ _ _ p h) (c.imp _ p (by rw [h]; rfl)) e (RepL.car c r)
theorem RepL.car {phi psi : Addr → Prop} {H H' : Hp} (c : Car phi psi H H') : ∀ {vs : List V} {ds : List D}, RepL phi H vs ds → RepL psi H' vs ds
  | _, _, .nil => .nil
  | _, _, .cons h t => .cons (Rep.car c h) (RepL.car c t)
end
theorem Car.le {phi psi : Addr → Prop} {H H' : Hp} (e : Le H H') (i : ∀ a, phi a → (H a).isSome = true → psi a) : Car phi psi H H' :=
  ⟨fun _ _ _ h => e _ _ h, fun _ _ _ h => e.rd h, fun _ _ _ h => e.rd h, fun _ _ h => e _ _ h, fun _ _ _ _ _ h => e _ _ h, fun a h n => i a h (nt_some n)⟩
theorem Rep.mono {phi : Addr → Prop} {H H' : Hp} (e : Le H H') {v : V} {d : D} (r : Rep phi H v d) : Rep phi H' v d := r.car (Car.le e fun _ h _ => h)
theorem RepL.mono {phi : Addr → Prop} {H H' : Hp} (e : Le H H') {v : List V} {d : List D} (r : RepL phi H v d) : RepL phi H' v d := r.car (Car.le e fun _ h _ => h)
theorem Rep.imp {phi psi : Addr → Prop} {H : Hp} (i : ∀ a, phi a → psi a) {v : V} {d : D} (r : Rep phi H v d) : Rep psi H v d := r.car (Car.le (Le.refl H) fun a h _ => i a h)
theorem RepL.imp {phi psi : Addr → Prop} {H : Hp} (i : ∀ a, phi a → psi a) {v : List V} {d : List D} (r : RepL phi H v d) : RepL psi H v d := r.car (Car.le (Le.refl H) fun a h _ => i a h)
theorem RepL.length {phi : Addr → Prop} {H : Hp} : ∀ {vs : List V} {ds : List D}, RepL phi H vs ds → vs.length = ds.length
  | _, _, .nil => rfl
  | _, _, .cons _ t => congrArg (· + 1) t.length
theorem RepL.get {phi : Addr → Prop} {H : Hp} : ∀ {vs : List V} {ds : List D}, RepL phi H vs ds → ∀ {i : Nat} {d : D}, ds[i]? = some d → ∃ v, vs[i]? = some v ∧ Rep phi H v d
  | _, _, .nil, _, _, h => by simp at h
  | _, _, .cons r t, 0, _, h => by simp at h; subst h; exact ⟨_, rfl, r⟩
  | _, _, .cons r t, i + 1, _, h => by
    obtain ⟨v, h1, h2⟩ := t.get (i := i) (by simpa using h)
    exact ⟨v, by simpa using h1, h2⟩
theorem RepL.append {phi : Addr → Prop} {H : Hp} : ∀ {vs ws : List V} {ds es : List D}, RepL phi H vs ds → RepL phi H ws es → RepL phi H (vs ++ ws) (ds ++ es)
  | _, _, _, _, .nil, s => s
  | _, _, _, _, .cons r t, s => .cons r (t.append s)
theorem RepL.set {phi : Addr → Prop} {H : Hp} {v : V} {d : D} (r : Rep phi H v d) : ∀ {vs : List V} {ds : List D} (i : Nat), RepL phi H vs ds → RepL phi H (vs.set i v) (ds.set i d)
  | _, _, _, .nil => .nil
  | _, _, 0, .cons _ t => .cons r t
  | _, _, i + 1, .cons q t => .cons q (t.set r i)
theorem RepL.take {phi : Addr → Prop} {H : Hp} : ∀ {vs : List V} {ds : List D} (i : Nat), RepL phi H vs ds → RepL phi H (vs.take i) (ds.take i)
  | _, _, 0, _ => .nil
  | _, _, _ + 1, .nil => .nil
  | _, _, i + 1, .cons q t => .cons q (t.take i)
theorem RepL.drop {phi : Addr → Prop} {H : Hp} : ∀ {vs : List V} {ds : List D} (i : Nat), RepL phi H vs ds → RepL phi H (vs.drop i) (ds.drop i)
  | _, _, 0, r => r
  | _, _, _ + 1, .nil => .nil
  | _, _, i + 1, .cons q t => t.drop i
theorem RepL.eraseIdx {phi : Addr → Prop} {H : Hp} : ∀ {vs : List V} {ds : List D} (i : Nat), RepL phi H vs ds → RepL phi H (vs.eraseIdx i) (ds.eraseIdx i)
  | _, _, _, .nil => .nil
  | _, _, 0, .cons _ t => t
  | _, _, i + 1, .cons q t => .cons q (t.eraseIdx i)
theorem RepL.ints {phi : Addr → Prop} {H : Hp} : ∀ (ns : List Int), RepL phi H (ns.map V.int) (ns.map D.int)
  | [] => .nil
  | n :: ns => .cons (.int n) (RepL.ints ns)
/-- flat data is told by the value alone -/
def D.flat : D → Option V
  | .non => some .non | .bl b => some (.bl b) | .int i => some (.int i) | .str x => some (.str x)
  | _ => none
theorem Rep.flat {phi : Addr → Prop} {H : Hp} {v : V} {d : D} (r : Rep phi H v d) {w : V} (h : d.flat = some w) : v = w := by
  cases r <;> simp [D.flat] at h <;> exact h
theorem rep_flat {phi : Addr → Prop} {H : Hp} {d : D} {w : V} (h : d.flat = some w) : Rep phi H w d := by
  cases d <;> simp [D.flat] at h <;> subst h <;> constructor
theorem repL_ints {phi : Addr → Prop} {H : Hp} : ∀ {ns : List Int} {vs : List V}, RepL phi H vs (ns.map D.int) → vs = ns.map V.int
  | [], _, .nil => rfl
  | n :: ns, _, .cons r t => by
    rw [r.flat rfl, repL_ints t]; rfl
theorem repL_bls {phi : Addr → Prop} {H : Hp} : ∀ {ns : List Bool} {vs : List V}, RepL phi H vs (ns.map D.bl) → vs = ns.map V.bl
  | [], _, .nil => rfl
  | n :: ns, _, .cons r t => by
    rw [r.flat rfl, repL_bls t]; rfl
structure PS where
  cells : List Int
  b : Int
  c : Int
  e : Int
def StOk (H : Hp) (a q : Addr) (g : PS) : Prop := a ≠ q ∧ H a = some (.lst [.ref q, .int g.b, .int g.c, .int g.e]) ∧ H q = some (.lst (g.cells.map V.int))
inductive It where
  | no
  | fz (nw : Bool) (d : D)
  | ow (p : Addr) (nw : Bool) (d : D)
  | dp (S : Addr → Bool) (d : D)
  | st (a q : Addr) (g : PS)
  | fr (S : Addr → Bool) (H0 : Hp)
  | scr (K : PySem.W.Frag) (ns : List Int)
  | pin (a : Addr) (o : Obj) (u : HO)
  | tb (P : Addr) (q : Str)
def It.reg : It → Addr → Bool
  | .ow p _ _, a => a == p
  | .dp S _, a => S a
  | .st x y _, a => a == x || a == y
  | .fr S _, a => S a
  | .tb P _, a => a == P
  | _, _ => false
/-- the base: what stood frozen at the start; what else stood there (S), as it was (h) -/
structure Bs where
  g : Hp
  S : Addr → Bool
  h : Hp
def Bs.of (H : Hp) : Bs := ⟨H, fun _ => false, H⟩
def nwP (G0 : Bs) (nw : Bool) (a : Addr) : Prop := nw = true → G0.g a = none
def OwOk (phi : Addr → Prop) (G H : Hp) (p : Addr) : D → Prop
  | .seq false ds => ∃ vs, H p = some (.lst vs) ∧ RepL phi G vs ds
  | .dk ks ds => ∃ kvs : List (Key × V), H p = some (.dK kvs) ∧ kvs.map (·.1) = ks ∧ RepL phi G (kvs.map (·.2)) ds
  | .dt ks ds => ∃ kvs : List (List Key × V), H p = some (.dT kvs) ∧ kvs.map (·.1) = ks ∧ RepL phi G (kvs.map (·.2)) ds
  | .ins C ns ds => ∃ (dx : Addr) (fs : List (Str × V)), H p = some (.ins C dx fs) ∧ fs.map (·.1) = ns ∧ RepL phi G (fs.map (·.2)) ds
  | _ => False
def mrg (S : Addr → Bool) (H G : Hp) : Hp := fun a => if S a = true then H a else G a
def ItOk (G0 : Bs) (G H : Hp) (o : Option V) : It → Prop
  | .no => True
  | .fz nw d => ∃ v, o = some v ∧ Rep (nwP G0 nw) G v d
  | .ow p nw d => o = some (.ref p) ∧ OwOk (nwP G0 nw) G H p d
  | .dp S d => ∃ v, o = some v ∧ Rep (fun a => S a = true) (mrg S H G) v d
  | .st a q g => o = some (.ref a) ∧ StOk H a q g
  | .fr S H0 => ∀ a, S a = true → H a = H0 a
  | .scr K ns => ∃ a, o = some (.ref a) ∧ SqL K G a (ns.map V.int)
  | .pin a o u => G a = some (.frz o u)
  | .tb P q => ∃ ps : Array Value, H P = some (.tbl ps) ∧ TriplesOk ps.toList ∧ ∀ (pos : Pos) (cv : Value), codeAmong pos ps.toList = some cv → ∃ c, cv = .ref c ∧ G c = some (LamX.CodeO c q)
structure EnvG (G0 : Bs) (G H : Hp) (vs : List (Option V)) (its : List It) : Prop where
  len : vs.length = its.length
  l0 : Le G0.g G
  le : Le G H
  tp : ∀ a xs, H a = some (.tup xs) → G a = some (.tup xs)
  ok : ∀ (i : Nat) (x : It), its[i]? = some x → ItOk G0 G H (vs.getD i none) x
  sp : ∀ (i j : Nat) (x y : It) (a : Addr), its[i]? = some x → its[j]? = some y → x.reg a = true → y.reg a = true → i = j
  out : ∀ (i : Nat) (x : It) (a : Addr), its[i]? = some x → x.reg a = true → G a = none ∧ (H a).isSome = true
  fr : ∀ a, G0.S a = true → G a = none ∧ H a = G0.h a ∧ (H a).isSome = true
  frd : ∀ (i : Nat) (x : It) (a : Addr), its[i]? = some x → x.reg a = true → G0.S a = false
def Env (G0 : Bs) (H : Hp) (vs : List (Option V)) (its : List It) : Prop := ∃ G, EnvG G0 G H vs its
theorem OwOk.mono {phi : Addr → Prop} {G G' H H' : Hp} {p : Addr} {d : D} (h : OwOk phi G H p d) (e : Le G G') (k : ∀ o, H p = some o → H' p = some o) : OwOk phi G' H' p d := by
  cases d with
  | seq t ds =>
    cases t with
    | false => obtain ⟨vs, h1, h2⟩ := h; exact ⟨vs, k _ h1, h2.mono e⟩
    | true => exact h
  | dk ks ds => obtain ⟨vs, h1, h2, h3⟩ := h; exact ⟨vs, k _ h1, h2, h3.mono e⟩
  | dt ks ds => obtain ⟨vs, h1, h2, h3⟩ := h; exact ⟨vs, k _ h1, h2, h3.mono e⟩
  | ins C ns ds => obtain ⟨dx, vs, h1, h2, h3⟩ := h; exact ⟨dx, vs, k _ h1, h2, h3.mono e⟩
  | _ => exact h
/-- an item whose region is kept -/
theorem ItOk.keep {G0 : Bs} {G G' H H' : Hp} {o : Option V} {x : It} (h : ItOk G0 G H o x) (e : Le G G') (k : ∀ a u, x.reg a = true → H a = some u → H' a = some u) (hp : ∀ a, x.reg a = true → (H a).isSome = true) : ItOk G0 G' H' o x := by
  cases x with
  | no => trivial
  | fz nw d => obtain ⟨v, h1, h2⟩ := h; exact ⟨v, h1, h2.mono e⟩
  | ow p nw d => exact ⟨h.1, h.2.mono e fun u q => k p u (by simp [It.reg]) q⟩
  | dp S d =>
    obtain ⟨v, h1, h2⟩ := h
    refine ⟨v, h1, h2.mono fun a u q => ?_⟩
    unfold mrg at q ⊢
    by_cases hs : S a = true
    · rw [if_pos hs] at q ⊢; exact k a u hs q
    · rw [if_neg hs] at q ⊢; exact e a u q
  | st a q g =>
    obtain ⟨h1, h2, h3, h4⟩ := h
    exact ⟨h1, h2, k _ _ (by simp [It.reg]) h3, k _ _ (by simp [It.reg]) h4⟩
  | fr S H0 =>
    intro a hs
    have z := hp a hs
    cases q : H a with
    | none => rw [q] at z; cases z
    | some u => rw [k a u hs q, ← h a hs, q]
  | pin a o u => exact e _ _ h
  | tb P q =>
    obtain ⟨ps, h1, h2, h3⟩ := h
    exact ⟨ps, k _ _ (by simp [It.reg]) h1, h2, fun pos cv hc => let ⟨c, e1, e2⟩ := h3 pos cv hc; ⟨c, e1, e _ _ e2⟩⟩
  | scr K ns =>
    obtain ⟨a, h1, h2⟩ := h
    refine ⟨a, h1, ?_⟩
    rcases h2 with h2 | h2
    · exact .inl (e.rd h2)
    · exact .inr h2
section
variable {G0 : Bs} {G H G' H' : Hp} {vs vs' : List (Option V)} {its its' : List It}
/-- a choice of the places -/
theorem EnvG.sel (E : EnvG G0 G H vs its) (f : Nat → Nat) (inj : ∀ i j, f i = f j → i = j) (hl : vs'.length = its'.length)
    (h : ∀ (i : Nat) (x : It), its'[i]? = some x → x = .no ∨ (its[f i]? = some x ∧ vs'.getD i none = vs.getD (f i) none)) : EnvG G0 G H vs' its' where
  len := hl
  l0 := E.l0
  le := E.le
  tp := E.tp
  ok := fun i x hx => by
    rcases h i x hx with rfl | ⟨h1, h2⟩
    · trivial
    · rw [h2]; exact E.ok _ _ h1
  sp := fun i j x y a hx hy rx ry => by
    rcases h i x hx with rfl | ⟨h1, _⟩
    · simp [It.reg] at rx
    rcases h j y hy with rfl | ⟨h2, _⟩
    · simp [It.reg] at ry
    exact inj _ _ (E.sp _ _ _ _ _ h1 h2 rx ry)
  out := fun i x a hx rx => by
    rcases h i x hx with rfl | ⟨h1, _⟩
    · simp [It.reg] at rx
    · exact E.out _ _ _ h1 rx
  fr := E.fr
  frd := fun i x a hx rx => by
    rcases h i x hx with rfl | ⟨h1, _⟩
    · simp [It.reg] at rx
    · exact E.frd _ _ _ h1 rx
theorem EnvG.tail {v : Option V} {x : It} (E : EnvG G0 G H (v :: vs) (x :: its)) : EnvG G0 G H vs its :=
  E.sel (· + 1) (fun _ _ h => by simpa using h) (by simpa using E.len) fun i y h => .inr ⟨by simpa using h, by simp⟩
theorem EnvG.head {v : Option V} {x : It} (E : EnvG G0 G H (v :: vs) (x :: its)) : ItOk G0 G H v x := by
  have := E.ok 0 x (by simp)
  simpa using this
/-- the heap grows, a new thing on top -/
theorem EnvG.push (E : EnvG G0 G H vs its) {v : Option V} {x : It} (e : Le G G') (le : Le G' H') (tp : ∀ a xs, H' a = some (.tup xs) → G' a = some (.tup xs)) (k : Le H H')
    (gr : ∀ a, G a = none → (G' a).isSome = true → H a = none) (ok : ItOk G0 G' H' v x) (rg : ∀ a, x.reg a = true → H a = none ∧ G' a = none ∧ (H' a).isSome = true) : EnvG G0 G' H' (v :: vs) (x :: its) where
  len := by simpa using E.len
  l0 := E.l0.trans e
  le := le
  tp := tp
  ok := fun i y hy => by
    cases i with
    | zero => simp at hy; subst hy; simpa using ok
    | succ i =>
      have hy : its[i]? = some y := by simpa using hy
      have := (E.ok i y hy).keep e (fun a u _ q => k a u q) fun a r => (E.out i y a hy r).2
      simpa using this
  sp := fun i j y z a hy hz ry rz => by
    have far : ∀ (i : Nat) (y : It), its[i]? = some y → y.reg a = true → x.reg a = true → False := fun i y h r r' => by
      have h1 := (E.out i y a h r).2
      rw [(rg a r').1] at h1; cases h1
    cases i with
    | zero =>
      cases j with
      | zero => rfl
      | succ j => simp at hy hz; subst hy; exact (far j z hz rz ry).elim
    | succ i =>
      cases j with
      | zero => simp at hy hz; subst hz; exact (far i y hy ry rz).elim
      | succ j => simp at hy hz; exact congrArg _ (E.sp i j y z a hy hz ry rz)
  out := fun i y a hy ry => by
    cases i with
    | zero => simp at hy; subst hy; exact (rg a ry).2
    | succ i =>
      have hy : its[i]? = some y := by simpa using hy
      obtain ⟨h1, h2⟩ := E.out i y a hy ry
      refine ⟨?_, ?_⟩
      · cases q : G' a with
        | none => rfl
        | some o =>
          have := gr a h1 (by rw [q]; rfl)
          rw [this] at h2; cases h2
      · cases q : H a with
        | none => rw [q] at h2; cases h2
        | some o => rw [k a o q]; rfl
  fr := fun a h => by
    obtain ⟨h1, h2, h3⟩ := E.fr a h
    refine ⟨?_, ?_, ?_⟩
    · cases q : G' a with
      | none => rfl
      | some o => rw [gr a h1 (by rw [q]; rfl)] at h3; cases h3
    · cases q : H a with
      | none => rw [q] at h3; cases h3
      | some o => rw [k a o q, ← h2, q]
    · cases q : H a with
      | none => rw [q] at h3; cases h3
      | some o => rw [k a o q]; rfl
  frd := fun i y a hy ry => by
    cases i with
    | zero =>
      simp at hy; subst hy
      cases q : G0.S a with
      | false => rfl
      | true => have := (E.fr a q).2.2; rw [(rg a ry).1] at this; cases this
    | succ i => exact E.frd i y a (by simpa using hy) ry
/-- the heap grows -/
theorem EnvG.grow (E : EnvG G0 G H vs its) (e : Le G G') (le : Le G' H') (tp : ∀ a xs, H' a = some (.tup xs) → G' a = some (.tup xs)) (k : Le H H')
    (gr : ∀ a, G a = none → (G' a).isSome = true → H a = none) : EnvG G0 G' H' vs its :=
  (E.push (v := none) (x := .no) e le tp k gr trivial fun a r => by simp [It.reg] at r).tail
/-- the item at a place changes, and what lies in its region -/
theorem EnvG.put (E : EnvG G0 G H vs its) {i : Nat} {x y : It} (hi : its[i]? = some x) (e : Le G G') (le : Le G' H') (tp : ∀ a xs, H' a = some (.tup xs) → G' a = some (.tup xs))
    (k : ∀ a o, x.reg a = false → H a = some o → H' a = some o) (gr : ∀ a, G a = none → (G' a).isSome = true → H a = none ∨ x.reg a = true)
    (ok : ItOk G0 G' H' (vs.getD i none) y) (rg : ∀ a, y.reg a = true → (H a = none ∨ x.reg a = true) ∧ G' a = none ∧ (H' a).isSome = true) : EnvG G0 G' H' vs (its.set i y) where
  len := by simpa using E.len
  l0 := E.l0.trans e
  le := le
  tp := tp
  ok := fun j z hz => by
    by_cases hj : j = i
    · subst hj
      rw [List.getElem?_set_self (List.getElem?_eq_some_iff.mp hi).1] at hz
      cases hz; exact ok
    · rw [List.getElem?_set_ne (Ne.symm hj)] at hz
      refine (E.ok j z hz).keep e (fun a u r q => k a u ?_ q) fun a r => (E.out j z a hz r).2
      cases q : x.reg a with
      | false => rfl
      | true => exact (hj (E.sp j i z x a hz hi r q)).elim
  sp := fun j l z w a hz hw rz rw' => by
    have far : ∀ (j : Nat) (z : It), j ≠ i → its[j]? = some z → z.reg a = true → y.reg a = true → False := fun j z hj hz r r' => by
      rcases (rg a r').1 with h | h
      · have h1 := (E.out j z a hz r).2
        rw [h] at h1; cases h1
      · exact hj (E.sp j i z x a hz hi r h)
    by_cases hj : j = i
    · subst hj
      by_cases hl : l = j
      · exact hl.symm
      · rw [List.getElem?_set_self (List.getElem?_eq_some_iff.mp hi).1] at hz
        rw [List.getElem?_set_ne (Ne.symm hl)] at hw
        cases hz
        exact (far l w hl hw rw' rz).elim
    · by_cases hl : l = i
      · subst hl
        rw [List.getElem?_set_self (List.getElem?_eq_some_iff.mp hi).1] at hw
        rw [List.getElem?_set_ne (Ne.symm hj)] at hz
        cases hw
        exact (far j z hj hz rz rw').elim
      · rw [List.getElem?_set_ne (Ne.symm hj)] at hz
        rw [List.getElem?_set_ne (Ne.symm hl)] at hw
        exact E.sp j l z w a hz hw rz rw'
  out := fun j z a hz rz => by
    by_cases hj : j = i
    · subst hj
      rw [List.getElem?_set_self (List.getElem?_eq_some_iff.mp hi).1] at hz
      cases hz
      exact (rg a rz).2
    · rw [List.getElem?_set_ne (Ne.symm hj)] at hz
      obtain ⟨h1, h2⟩ := E.out j z a hz rz
      have nx : x.reg a = false := by
        cases q : x.reg a with
        | false => rfl
        | true => exact (hj (E.sp j i z x a hz hi rz q)).elim
      refine ⟨?_, ?_⟩
      · cases q : G' a with
        | none => rfl
        | some o =>
          rcases gr a h1 (by rw [q]; rfl) with h | h
          · rw [h] at h2; cases h2
          · rw [nx] at h; cases h
      · cases q : H a with
        | none => rw [q] at h2; cases h2
        | some o => rw [k a o nx q]; rfl
  fr := fun a h => by
    obtain ⟨h1, h2, h3⟩ := E.fr a h
    have nx : x.reg a = false := by
      cases q : x.reg a with
      | false => rfl
      | true => have := E.frd i x a hi q; rw [h] at this; cases this
    refine ⟨?_, ?_, ?_⟩
    · cases q : G' a with
      | none => rfl
      | some o =>
        rcases gr a h1 (by rw [q]; rfl) with z | z
        · rw [z] at h3; cases h3
        · rw [nx] at z; cases z
    · cases q : H a with
      | none => rw [q] at h3; cases h3
      | some o => rw [k a o nx q, ← h2, q]
    · cases q : H a with
      | none => rw [q] at h3; cases h3
      | some o => rw [k a o nx q]; rfl
  frd := fun j z a hz rz => by
    by_cases hj : j = i
    · subst hj
      rw [List.getElem?_set_self (List.getElem?_eq_some_iff.mp hi).1] at hz
      cases hz
      cases q : G0.S a with
      | false => rfl
      | true =>
        rcases (rg a rz).1 with h | h
        · have := (E.fr a q).2.2; rw [h] at this; cases this
        · have := E.frd j x a hi h; rw [q] at this; cases this
    · rw [List.getElem?_set_ne (Ne.symm hj)] at hz
      exact E.frd j z a hz rz
end
end TL
namespace TL
open PySem L2
abbrev Rho := List It
abbrev TDE := Rho → (It → Rho → Prop) → Prop
theorem RepL.pair {phi : Addr → Prop} {G : Hp} : ∀ {vs : List V} {ds : List D}, RepL phi G vs ds → Paired (Rep phi G) vs ds
  | _, _, .nil => .nil
  | _, _, .cons r t => .cons r t.pair
theorem RepL.of {phi : Addr → Prop} {G : Hp} : ∀ {vs : List V} {ds : List D}, Paired (Rep phi G) vs ds → RepL phi G vs ds
  | _, _, .nil => .nil
  | _, _, .cons r t => .cons r (RepL.of t)
def It.view : It → Option (Bool × D)
  | .fz nw d => some (nw, d)
  | .ow _ nw d => some (nw, d)
  | .dp _ d => some (true, d)
  | _ => none
/-- data that may be looked into (no deep ones) -/
def It.cview : It → Option (Bool × D)
  | .fz nw d => some (nw, d)
  | .ow _ nw d => some (nw, d)
  | _ => none
/-- the draws' state as data is nothing; the item of an operand -/
def ItX (G0 : Bs) (G H : Hp) (o : Option V) (x : It) : Prop := ItOk G0 G H o x ∧ ∀ a, x.reg a = true → G a = none ∧ (H a).isSome = true
theorem EnvG.itx {G0 : Bs} {G H : Hp} {vs : List (Option V)} {its : List It} (E : EnvG G0 G H vs its) {i : Nat} {x : It} (h : its[i]? = some x) : ItX G0 G H (vs.getD i none) x :=
  ⟨E.ok i x h, fun a r => E.out i x a h r⟩
theorem ItX.rep {G0 : Bs} {G H : Hp} {v : V} {x : It} {nw : Bool} {d : D} (l0 : Le G0.g G) (le : Le G H) (h : ItX G0 G H (some v) x) (e : x.view = some (nw, d)) : Rep (nwP G0 nw) H v d := by
  obtain ⟨h, o⟩ := h
  cases x with
  | no => cases e
  | st a q g => cases e
  | fr S H0 => cases e
  | scr K ns => cases e
  | pin a o u => cases e
  | tb P q => cases e
  | fz n d' =>
    cases e
    obtain ⟨w, e1, r⟩ := h
    cases e1
    exact r.mono le
  | ow p n d' =>
    cases e
    obtain ⟨e1, r⟩ := h
    cases e1
    have hp : nwP G0 nw p := fun _ => l0.nn (o p (by simp [It.reg])).1
    cases d with
    | seq t ds =>
      cases t with
      | false => obtain ⟨vs, h1, h2⟩ := r; exact .lst h1 hp (h2.mono le)
      | true => exact r.elim
    | dk ks ds => obtain ⟨vs, h1, h2, h3⟩ := r; exact .dk (.inl h1) hp h2 (h3.mono le)
    | dt ks ds => obtain ⟨vs, h1, h2, h3⟩ := r; exact .dt (.inl h1) hp h2 (h3.mono le)
    | ins C ns ds => obtain ⟨dx, vs, h1, h2, h3⟩ := r; exact .ins h1 hp h2 (h3.mono le)
    | _ => exact r.elim
  | dp S d' =>
    cases e
    obtain ⟨w, e1, r⟩ := h
    cases e1
    refine r.car (Car.le (fun a u q => ?_) fun a hs _ => fun _ => l0.nn (o a hs).1)
    unfold mrg at q
    by_cases hs : S a = true
    · rw [if_pos hs] at q; exact q
    · rw [if_neg hs] at q; exact le _ _ q
/-- shallowly -/
def Sh (R : V → D → Prop) (H : Hp) (v : V) : D → Prop
  | .seq false ds => ∃ a vs, v = .ref a ∧ H a = some (.lst vs) ∧ Paired R vs ds
  | .seq true ds => ∃ a vs, v = .ref a ∧ H a = some (.tup vs) ∧ Paired R vs ds
  | .dk ks ds => ∃ (a : Addr) (kvs : List (Key × V)), v = .ref a ∧ Rd H a (.dK kvs) ∧ kvs.map (·.1) = ks ∧ Paired R (kvs.map (·.2)) ds
  | .dt ks ds => ∃ (a : Addr) (kvs : List (List Key × V)), v = .ref a ∧ Rd H a (.dT kvs) ∧ kvs.map (·.1) = ks ∧ Paired R (kvs.map (·.2)) ds
  | .ins C ns ds => ∃ (a dx : Addr) (fs : List (Str × V)), v = .ref a ∧ H a = some (.ins C dx fs) ∧ fs.map (·.1) = ns ∧ Paired R (fs.map (·.2)) ds
  | d => d.flat = some v
theorem Rep.sh {phi : Addr → Prop} {G H : Hp} {v : V} {d : D} (r : Rep phi G v d) (le : Le G H) : Sh (Rep phi G) H v d := by
  cases r with
  | non => rfl
  | bl => rfl
  | int => rfl
  | str => rfl
  | lst h p q => exact ⟨_, _, rfl, le _ _ h, q.pair⟩
  | tup h q => exact ⟨_, _, rfl, le _ _ h, q.pair⟩
  | dk h p e q => exact ⟨_, _, rfl, le.rd h, e, q.pair⟩
  | dt h p e q => exact ⟨_, _, rfl, le.rd h, e, q.pair⟩
  | ins h p e q => exact ⟨_, _, _, rfl, le _ _ h, e, q.pair⟩
theorem ItX.sh {G0 : Bs} {G H : Hp} {v : V} {x : It} {nw : Bool} {d : D} (le : Le G H) (h : ItX G0 G H (some v) x) (e : x.cview = some (nw, d)) : Sh (Rep (nwP G0 nw) G) H v d := by
  obtain ⟨h, o⟩ := h
  cases x with
  | no => cases e
  | st a q g => cases e
  | fr S H0 => cases e
  | scr K ns => cases e
  | pin a o u => cases e
  | tb P q => cases e
  | dp S d' => cases e
  | fz n d' =>
    cases e
    obtain ⟨w, e1, r⟩ := h
    cases e1
    exact r.sh le
  | ow p n d' =>
    cases e
    obtain ⟨e1, r⟩ := h
    cases e1
    cases d with
    | seq t ds =>
      cases t with
      | false => obtain ⟨vs, h1, h2⟩ := r; exact ⟨_, _, rfl, h1, h2.pair⟩
      | true => exact r.elim
    | dk ks ds => obtain ⟨vs, h1, h2, h3⟩ := r; exact ⟨_, _, rfl, .inl h1, h2, h3.pair⟩
    | dt ks ds => obtain ⟨vs, h1, h2, h3⟩ := r; exact ⟨_, _, rfl, .inl h1, h2, h3.pair⟩
    | ins C ns ds => obtain ⟨dx, vs, h1, h2, h3⟩ := r; exact ⟨_, _, _, rfl, h1, h2, h3.pair⟩
    | _ => exact r.elim
/-- the values ahead: temporaries, the callers' own; then the slots -/
def SndE (G0 : Bs) (te : TE) (t : TDE) : Prop :=
  ∀ (vs : List (Option V)) (ka : List It) (sg : L2.St) (H : Hp) (r : Rho) (P : It → Rho → Prop) (Q : VK), vs.length = ka.length → Env G0 H (vs ++ sg) (ka ++ r) → t r P →
    (∀ v H' x r', r'.length = r.length → Env G0 H' (some v :: (vs ++ sg)) (x :: (ka ++ r')) → P x r' → Q v H') → te sg H Q
inductive Opd where
  | sl (i : Nat) | tm (x : It)
def Opd.it (r : Rho) : Opd → It
  | .sl i => r.getD i .no
  | .tm x => x
def Opd.tmp : Opd → It
  | .sl _ => .no
  | .tm x => x
def Opd.at_ (sg : L2.St) (v : V) : Opd → Prop
  | .sl i => sg[i]? = some (some v)
  | .tm _ => True
abbrev TDO := Rho → (Opd → Rho → Prop) → Prop
def SndO (G0 : Bs) (te : TE) (t : TDO) : Prop :=
  ∀ (vs : List (Option V)) (ka : List It) (sg : L2.St) (H : Hp) (r : Rho) (P : Opd → Rho → Prop) (Q : VK), vs.length = ka.length → Env G0 H (vs ++ sg) (ka ++ r) → t r P →
    (∀ v H' o r', r'.length = r.length → Env G0 H' (some v :: (vs ++ sg)) (o.tmp :: (ka ++ r')) → o.at_ sg v → P o r' → Q v H') → te sg H Q
section
variable {G0 : Bs} {te ta tb : TE} {t : TDE} {toa tob : TDO}
/-- a slot by its name, borrowed -/
def It.isVal : It → Bool
  | .no => false
  | .pin _ _ _ => false
  | .tb _ _ => false
  | .fr _ _ => false
  | _ => true
def tdNm (i : Nat) : TDO := fun r P => (∃ x, r[i]? = some x ∧ x.isVal = true) ∧ P (.sl i) r
def tdEx (t : TDE) : TDO := fun r P => t r fun x r' => P (.tm x) r'
theorem getD_app {vs : List (Option V)} {ka : List It} {sg : L2.St} (h : vs.length = ka.length) (i : Nat) : (vs ++ sg).getD (ka.length + i) none = sg.getD i none := by
  rw [List.getD_eq_getElem?_getD, List.getD_eq_getElem?_getD, List.getElem?_append_right (by omega)]
  rw [show ka.length + i - vs.length = i by omega]
theorem get_app {ka : List It} {r : Rho} (i : Nat) : (ka ++ r)[ka.length + i]? = r[i]? := by
  rw [List.getElem?_append_right (by omega)]
  congr 1
  omega
theorem slot_val {G0 : Bs} {G H : Hp} {vs : List (Option V)} {ka : List It} {sg : L2.St} {r : Rho} (E : EnvG G0 G H (vs ++ sg) (ka ++ r)) (hl : vs.length = ka.length) {i : Nat} {x : It} (h : r[i]? = some x) (hx : x.isVal = true) : ∃ v, sg[i]? = some (some v) := by
  have ok := E.ok (ka.length + i) x (by rw [get_app]; exact h)
  rw [getD_app hl] at ok
  have : ∃ v, sg.getD i none = some v := by
    cases x with
    | no => cases hx
    | fr S H0 => cases hx
    | scr K ns => obtain ⟨a, e, _⟩ := ok; exact ⟨_, e⟩
    | pin a o u => cases hx
    | tb P q => cases hx
    | fz nw d => obtain ⟨v, e, _⟩ := ok; exact ⟨v, e⟩
    | ow p nw d => exact ⟨_, ok.1⟩
    | dp S d => obtain ⟨v, e, _⟩ := ok; exact ⟨v, e⟩
    | st a q g => exact ⟨_, ok.1⟩
  obtain ⟨v, e⟩ := this
  refine ⟨v, ?_⟩
  rw [List.getD_eq_getElem?_getD] at e
  cases q : sg[i]? with
  | none => rw [q] at e; cases e
  | some o => rw [q] at e; exact congrArg some e
theorem EnvG.pushNo {G H : Hp} {vs : List (Option V)} {its : List It} (E : EnvG G0 G H vs its) (v : Option V) : EnvG G0 G H (v :: vs) (.no :: its) :=
  E.push (Le.refl _) E.le E.tp (Le.refl _) (fun a h1 h2 => by rw [h1] at h2; cases h2) trivial fun a r => by simp [It.reg] at r
theorem sno_nm {i : Nat} : SndO G0 (tVar i) (tdNm i) := by
  intro vs ka sg H r P Q hl E h k
  obtain ⟨⟨x, h1, h2⟩, h3⟩ := h
  obtain ⟨G, E⟩ := E
  obtain ⟨v, hv⟩ := slot_val E hl h1 h2
  exact ⟨v, hv, k v H (.sl i) r rfl ⟨G, E.pushNo _⟩ hv h3⟩
theorem sno_ex (h : SndE G0 te t) : SndO G0 te (tdEx t) := by
  intro vs ka sg H r P Q hl E hp k
  exact h vs ka sg H r _ Q hl E hp fun v H' x r' h1 h2 h3 => k v H' (.tm x) r' h1 h2 trivial h3
/-- the operand's item is there -/
theorem opd_itx {G H : Hp} {vs us : List (Option V)} {ka kb : List It} {sg : L2.St} {r : Rho} {v : V} {o : Opd} (E : EnvG G0 G H (us ++ (some v :: (vs ++ sg))) (kb ++ (o.tmp :: (ka ++ r)))) (hu : us.length = kb.length) (hl : vs.length = ka.length) (ha : o.at_ sg v) :
    ItX G0 G H (some v) (o.it r) := by
  cases o with
  | tm x =>
    have := E.itx (i := kb.length) (x := x) (by rw [List.getElem?_append_right (Nat.le_refl _)]; simp [Opd.tmp])
    have e : (us ++ (some v :: (vs ++ sg))).getD kb.length none = some v := by
      rw [← hu]; simp [List.getD]
    rw [e] at this
    exact this
  | sl i =>
    show ItX G0 G H (some v) (r.getD i .no)
    cases q : r[i]? with
    | none =>
      have e : r.getD i It.no = It.no := by rw [List.getD_eq_getElem?_getD, q]; rfl
      rw [e]
      exact ⟨trivial, fun a z => by simp [It.reg] at z⟩
    | some x =>
      have e : r.getD i It.no = x := by rw [List.getD_eq_getElem?_getD, q]; rfl
      rw [e]
      have := E.itx (i := kb.length + (1 + (ka.length + i))) (x := x) (by
        rw [get_app]
        rw [show 1 + (ka.length + i) = (ka.length + i) + 1 by omega, List.getElem?_cons_succ, get_app]
        exact q)
      have e2 : (us ++ (some v :: (vs ++ sg))).getD (kb.length + (1 + (ka.length + i))) none = some v := by
        have hs : sg[i]? = some (some v) := ha
        rw [List.getD_eq_getElem?_getD, List.getElem?_append_right (by omega)]
        rw [show kb.length + (1 + (ka.length + i)) - us.length = (ka.length + i) + 1 by omega, List.getElem?_cons_succ, List.getElem?_append_right (by omega)]
        rw [show ka.length + i - vs.length = i by omega, hs]
        rfl
      rw [e2] at this
      exact this
def Opd.view (r : Rho) (o : Opd) : Option (Bool × D) := (o.it r).view
def Opd.cview (r : Rho) (o : Opd) : Option (Bool × D) := (o.it r).cview
def Opd.dat (r : Rho) (o : Opd) : Option D := (o.it r).view.map (·.2)
theorem Opd.dat_view {r : Rho} {o : Opd} {d : D} (h : o.dat r = some d) : ∃ nw, o.view r = some (nw, d) := by
  unfold Opd.dat at h
  cases q : (o.it r).view with
  | none => rw [q] at h; cases h
  | some p => rw [q] at h; cases h; exact ⟨p.1, q⟩
theorem EnvG.pushFz {G H : Hp} {vs : List (Option V)} {its : List It} (E : EnvG G0 G H vs its) {v : V} {nw : Bool} {d : D} (h : Rep (nwP G0 nw) G v d) : EnvG G0 G H (some v :: vs) (.fz nw d :: its) :=
  E.push (Le.refl _) E.le E.tp (Le.refl _) (fun a h1 h2 => by rw [h1] at h2; cases h2) ⟨v, rfl, h⟩ fun a r => by simp [It.reg] at r
theorem EnvG.pushFlat {G H : Hp} {vs : List (Option V)} {its : List It} (E : EnvG G0 G H vs its) {v : V} {d : D} (h : d.flat = some v) : EnvG G0 G H (some v :: vs) (.fz true d :: its) :=
  E.pushFz (rep_flat h)
theorem EnvG.pushOw {G H : Hp} {vs : List (Option V)} {its : List It} (E : EnvG G0 G H vs its) {p : Addr} {o : HO} {nw : Bool} {d : D} (hp : H p = none) (ho : nonTup o = true) (h : OwOk (nwP G0 nw) G (upd H p o) p d) : EnvG G0 G (upd H p o) (some (.ref p) :: vs) (.ow p nw d :: its) := by
  refine E.push (Le.refl _) (E.le.trans (Le.nw hp)) (fun a xs e => ?_) (Le.nw hp) (fun a h1 h2 => by rw [h1] at h2; cases h2) ⟨rfl, h⟩ fun a r => ?_
  · by_cases ha : a = p
    · subst ha; rw [upd_same] at e; cases e; cases ho
    · rw [upd_ne ha] at e; exact E.tp _ _ e
  · have : a = p := by simpa [It.reg] using r
    subst this
    exact ⟨hp, E.le.nn hp, by rw [upd_same]; rfl⟩
/-- a new tuple -/
theorem EnvG.pushTup {G H : Hp} {vs : List (Option V)} {its : List It} (E : EnvG G0 G H vs its) {p : Addr} {ws : List V} {nw : Bool} {ds : List D} (hp : H p = none) (h : RepL (nwP G0 nw) G ws ds) :
    EnvG G0 (upd G p (.tup ws)) (upd H p (.tup ws)) (some (.ref p) :: vs) (.fz nw (.seq true ds) :: its) := by
  have hg := E.le.nn hp
  refine E.push (Le.nw hg) (fun a o e => ?_) (fun a xs e => ?_) (Le.nw hp) (fun a h1 h2 => ?_) ⟨_, rfl, .tup upd_same (h.mono (Le.nw hg))⟩ fun a r => by simp [It.reg] at r
  · by_cases ha : a = p
    · subst ha; rw [upd_same] at e ⊢; exact e
    · rw [upd_ne ha] at e ⊢; exact E.le _ _ e
  · by_cases ha : a = p
    · subst ha; rw [upd_same] at e ⊢; exact e
    · rw [upd_ne ha] at e ⊢; exact E.tp _ _ e
  · by_cases ha : a = p
    · subst ha; exact hp
    · rw [upd_ne ha, h1] at h2; cases h2
/-- what is frozen -/
def frzG (x : It) (H G : Hp) : Hp := fun a => if x.reg a = true then H a else G a
theorem EnvG.freeze {G H : Hp} {vs : List (Option V)} {its : List It} (E : EnvG G0 G H vs its) {i : Nat} {x : It} {nw : Bool} {d : D} (hi : its[i]? = some x) (hv : x.view = some (nw, d)) :
    ∃ G', EnvG G0 G' H vs (its.set i (.fz nw d)) := by
  have X := E.itx hi
  have le1 : Le G (frzG x H G) := fun a o e => by
    unfold frzG
    by_cases h : x.reg a = true
    · rw [(X.2 a h).1] at e; cases e
    · rw [if_neg h]; exact e
  have le2 : Le (frzG x H G) H := fun a o e => by
    unfold frzG at e
    by_cases h : x.reg a = true
    · rw [if_pos h] at e; exact e
    · rw [if_neg h] at e; exact E.le _ _ e
  have key : ∀ v, vs.getD i none = some v → Rep (nwP G0 nw) (frzG x H G) v d := fun v ev => by
    rw [ev] at X
    obtain ⟨h, o⟩ := X
    cases x with
    | no => cases hv
    | st a q g => cases hv
    | fr S H0 => cases hv
    | scr K ns => cases hv
    | pin a o u => cases hv
    | tb P q => cases hv
    | fz n d' =>
      cases hv
      obtain ⟨w, e1, r⟩ := h
      cases e1
      exact r.mono le1
    | ow p n d' =>
      cases hv
      obtain ⟨e1, r⟩ := h
      cases e1
      have hp : nwP G0 nw p := fun _ => E.l0.nn (o p (by simp [It.reg])).1
      have at_ : ∀ u, H p = some u → frzG (.ow p nw d) H G p = some u := fun u e => by
        unfold frzG; rw [if_pos (by simp [It.reg])]; exact e
      cases d with
      | seq t ds =>
        cases t with
        | false => obtain ⟨vs, h1, h2⟩ := r; exact .lst (at_ _ h1) hp (h2.mono le1)
        | true => exact r.elim
      | dk ks ds => obtain ⟨vs, h1, h2, h3⟩ := r; exact .dk (.inl (at_ _ h1)) hp h2 (h3.mono le1)
      | dt ks ds => obtain ⟨vs, h1, h2, h3⟩ := r; exact .dt (.inl (at_ _ h1)) hp h2 (h3.mono le1)
      | ins C ns ds => obtain ⟨dx, vs, h1, h2, h3⟩ := r; exact .ins (at_ _ h1) hp h2 (h3.mono le1)
      | _ => exact r.elim
    | dp S d' =>
      cases hv
      obtain ⟨w, e1, r⟩ := h
      cases e1
      exact r.car (Car.le (Le.refl _) fun a hs _ => fun _ => E.l0.nn (o a hs).1)
  have hsome : ∃ v, vs.getD i none = some v := by
    have h := X.1
    cases x with
    | no => cases hv
    | st a q g => cases hv
    | fr S H0 => cases hv
    | scr K ns => cases hv
    | pin a o u => cases hv
    | tb P q => cases hv
    | fz n d' => obtain ⟨w, e1, _⟩ := h; exact ⟨w, e1⟩
    | ow p n d' => exact ⟨_, h.1⟩
    | dp S d' => obtain ⟨w, e1, _⟩ := h; exact ⟨w, e1⟩
  obtain ⟨v, ev⟩ := hsome
  refine ⟨frzG x H G, E.put hi le1 le2 (fun a xs e => le1 _ _ (E.tp a xs e)) (fun a o _ e => e) (fun a h1 h2 => ?_) ⟨v, ev, key v ev⟩ fun a r => by simp [It.reg] at r⟩
  unfold frzG at h2
  by_cases h : x.reg a = true
  · exact .inr h
  · rw [if_neg h, h1] at h2; cases h2
theorem Env.freeze0 {H : Hp} {vs : List (Option V)} {its : List It} {v : Option V} {x : It} {nw : Bool} {d : D} (E : Env G0 H (v :: vs) (x :: its)) (hv : x.view = some (nw, d)) : Env G0 H (v :: vs) (.fz nw d :: its) := by
  obtain ⟨G, E⟩ := E
  obtain ⟨G', E'⟩ := E.freeze (i := 0) rfl hv
  exact ⟨G', E'⟩
/-- a name's value, handed on: what it holds is frozen -/
def tdV (i : Nat) : TDE := fun r P => ∃ x nw d, r[i]? = some x ∧ x.view = some (nw, d) ∧ P (.fz nw d) (r.set i (.fz nw d))
theorem set_app {ka : List It} {r : Rho} {i : Nat} {y : It} : (ka ++ r).set (ka.length + i) y = ka ++ r.set i y := by
  rw [List.set_append_right _ _ (by omega)]
  congr 2
  omega
theorem snd_v {i : Nat} : SndE G0 (tVar i) (tdV i) := by
  intro vs ka sg H r P Q hl E h k
  obtain ⟨x, nw, d, h1, h2, h3⟩ := h
  obtain ⟨G, E⟩ := E
  obtain ⟨v, hv⟩ := slot_val E hl h1 (by cases x <;> first | rfl | cases h2)
  obtain ⟨G', E'⟩ := E.freeze (i := ka.length + i) (by rw [get_app]; exact h1) h2
  rw [set_app] at E'
  have X := E'.itx (i := ka.length + i) (x := .fz nw d) (by rw [get_app]; exact List.getElem?_set_self (List.getElem?_eq_some_iff.mp h1).1)
  rw [getD_app hl] at X
  have e : sg.getD i none = some v := by rw [List.getD_eq_getElem?_getD, hv]; rfl
  rw [e] at X
  obtain ⟨⟨w, e1, rp⟩, _⟩ := X
  cases e1
  exact ⟨v, hv, k v H _ _ (by simp) ⟨G', E'.pushFz rp⟩ h3⟩
/-- a constant -/
def tdC (d : D) : TDE := fun r P => P (.fz true d) r
theorem snd_c {v : V} {d : D} (h : d.flat = some v) : SndE G0 (tC v) (tdC d) := by
  intro vs ka sg H r P Q hl E hp k
  obtain ⟨G, E⟩ := E
  exact k v H _ r rfl ⟨G, E.pushFlat h⟩ hp
theorem snd_int {i : Int} : SndE G0 (tC (.int i)) (tdC (.int i)) := snd_c rfl
theorem snd_bl {b : Bool} : SndE G0 (tC (.bl b)) (tdC (.bl b)) := snd_c rfl
theorem snd_non : SndE G0 (tC .non) (tdC .non) := snd_c rfl
theorem snd_str {x : Str} : SndE G0 (tC (.str x)) (tdC (.str x)) := snd_c rfl
/-- an operation on data whose result is flat -/
def Op2 (r : R2) (f : D → D → Option D) : Prop := ∀ (H : Hp) (x y : V) (dx dy d : D) (Q : VK), Rep (fun _ => True) H x dx → Rep (fun _ => True) H y dy → f dx dy = some d → (∀ w, d.flat = some w → Q w H) → r x y H Q
def tdOp2 (f : D → D → Option D) (toa tob : TDO) : TDE := fun r P => toa r fun x r1 => tob r1 fun y r2 => ∃ dx dy d, x.dat r2 = some dx ∧ y.dat r2 = some dy ∧ f dx dy = some d ∧ P (.fz true d) r2
theorem two {Q : VK} {vs : List (Option V)} {ka : List It} {sg : L2.St} {H : Hp} {r : Rho} {P : Opd → Opd → Rho → Prop} {R : V → V → Hp → Prop} (ha : SndO G0 ta toa) (hb : SndO G0 tb tob) (hl : vs.length = ka.length) (E : Env G0 H (vs ++ sg) (ka ++ r))
    (h : toa r fun x r1 => tob r1 fun y r2 => P x y r2)
    (k : ∀ (x y : V) (ox oy : Opd) (H2 : Hp) (r2 : Rho) (G : Hp), r2.length = r.length → EnvG G0 G H2 (some y :: some x :: (vs ++ sg)) (oy.tmp :: ox.tmp :: (ka ++ r2)) → ItX G0 G H2 (some x) (ox.it r2) → ItX G0 G H2 (some y) (oy.it r2) → P ox oy r2 → R x y H2) :
    ta sg H fun x H1 => tb sg H1 fun y H2 => R x y H2 := by
  refine ha vs ka sg H r _ _ hl E h fun x H1 ox r1 l1 E1 a1 h1 => ?_
  refine hb (some x :: vs) (ox.tmp :: ka) sg H1 r1 _ _ (by simp [hl]) E1 h1 fun y H2 oy r2 l2 E2 a2 h2 => ?_
  obtain ⟨G, E2⟩ := E2
  refine k x y ox oy H2 r2 G (l2.trans l1) E2 ?_ ?_ h2
  · exact opd_itx (us := [some y]) (kb := [oy.tmp]) E2 rfl hl a1
  · exact opd_itx (us := []) (kb := []) (vs := some x :: vs) (ka := ox.tmp :: ka) E2 rfl (by simp [hl]) a2
theorem snd_op2 {rr : R2} {f : D → D → Option D} (hr : Op2 rr f) (ha : SndO G0 ta toa) (hb : SndO G0 tb tob) : SndE G0 (tOp rr ta tb) (tdOp2 f toa tob) := by
  intro vs ka sg H r P Q hl E h k
  refine two (Q := Q) ha hb hl E h fun x y ox oy H2 r2 G l E2 ix iy h2 => ?_
  obtain ⟨dx, dy, d, e1, e2, e3, h3⟩ := h2
  obtain ⟨n1, e1⟩ := Opd.dat_view e1
  obtain ⟨n2, e2⟩ := Opd.dat_view e2
  refine hr H2 x y dx dy d Q ((ix.rep E2.l0 E2.le e1).imp fun _ _ => trivial) ((iy.rep E2.l0 E2.le e2).imp fun _ _ => trivial) e3 fun w ew => ?_
  exact k w H2 _ r2 l ⟨G, E2.tail.tail.pushFlat ew⟩ h3
def tdOp1 (f : D → Option D) (toa : TDO) : TDE := fun r P => toa r fun x r1 => ∃ dx d, x.dat r1 = some dx ∧ f dx = some d ∧ P (.fz true d) r1
theorem one {vs : List (Option V)} {ka : List It} {sg : L2.St} {H : Hp} {r : Rho} {P : Opd → Rho → Prop} {R : V → Hp → Prop} (ha : SndO G0 ta toa) (hl : vs.length = ka.length) (E : Env G0 H (vs ++ sg) (ka ++ r))
    (h : toa r P) (k : ∀ (x : V) (ox : Opd) (H2 : Hp) (r2 : Rho) (G : Hp), r2.length = r.length → EnvG G0 G H2 (some x :: (vs ++ sg)) (ox.tmp :: (ka ++ r2)) → ItX G0 G H2 (some x) (ox.it r2) → P ox r2 → R x H2) :
    ta sg H fun x H1 => R x H1 := by
  refine ha vs ka sg H r _ _ hl E h fun x H1 ox r1 l1 E1 a1 h1 => ?_
  obtain ⟨G, E1⟩ := E1
  exact k x ox H1 r1 G l1 E1 (opd_itx (us := []) (kb := []) E1 rfl hl a1) h1
end
end TL
namespace TL
open PySem L2
section
variable {G0 : Bs} {te ta tb tc : TE} {t u : TDE} {toa tob toc : TDO}
abbrev F2 := D → D → Option D
theorem rep_int {phi : Addr → Prop} {H : Hp} {v : V} {i : Int} (r : Rep phi H v (.int i)) : v = .int i := r.flat rfl
theorem rep_str {phi : Addr → Prop} {H : Hp} {v : V} {i : Str} (r : Rep phi H v (.str i)) : v = .str i := r.flat rfl
theorem rep_bl {phi : Addr → Prop} {H : Hp} {v : V} {i : Bool} (r : Rep phi H v (.bl i)) : v = .bl i := r.flat rfl
/-- int operations by their conditions -/
def tdI0 (f : Int → Int → D) (toa tob : TDO) : TDE := fun r P => toa r fun x r1 => tob r1 fun y r2 => ∃ i j, x.dat r2 = some (.int i) ∧ y.dat r2 = some (.int j) ∧ P (.fz true (f i j)) r2
def tdI (C : Int → Int → Prop) (f : Int → Int → D) (toa tob : TDO) : TDE := fun r P => toa r fun x r1 => tob r1 fun y r2 => ∃ i j, x.dat r2 = some (.int i) ∧ y.dat r2 = some (.int j) ∧ C i j ∧ P (.fz true (f i j)) r2
theorem dat_rep {G H : Hp} {v : V} {o : Opd} {r : Rho} {d : D} {n : List (Option V)} {its : List It} (E : EnvG G0 G H n its) (ix : ItX G0 G H (some v) (o.it r)) (h : o.dat r = some d) : Rep (fun _ => True) H v d := by
  obtain ⟨nw, e⟩ := Opd.dat_view h
  exact (ix.rep E.l0 E.le e).imp fun _ _ => trivial
theorem snd_I0 {g : Int → Int → V} {f : Int → Int → D} (h : ∀ i j, (f i j).flat = some (g i j)) (ha : SndO G0 ta toa) (hb : SndO G0 tb tob) : SndE G0 (tOp (rI0 g) ta tb) (tdI0 f toa tob) := by
  intro vs ka sg H r P Q hl E hp k
  refine two (Q := Q) ha hb hl E hp fun x y ox oy H2 r2 G l E2 ix iy h2 => ?_
  obtain ⟨i, j, e1, e2, h3⟩ := h2
  refine ⟨i, j, rep_int (dat_rep E2 ix e1), rep_int (dat_rep E2 iy e2), ?_⟩
  exact k _ H2 _ r2 l ⟨G, E2.tail.tail.pushFlat (h i j)⟩ h3
theorem snd_I {C : Int → Int → Prop} {g : Int → Int → V} {f : Int → Int → D} (h : ∀ i j, (f i j).flat = some (g i j)) (ha : SndO G0 ta toa) (hb : SndO G0 tb tob) : SndE G0 (tOp (rI C g) ta tb) (tdI C f toa tob) := by
  intro vs ka sg H r P Q hl E hp k
  refine two (Q := Q) ha hb hl E hp fun x y ox oy H2 r2 G l E2 ix iy h2 => ?_
  obtain ⟨i, j, e1, e2, c, h3⟩ := h2
  refine ⟨i, j, rep_int (dat_rep E2 ix e1), rep_int (dat_rep E2 iy e2), c, ?_⟩
  exact k _ H2 _ r2 l ⟨G, E2.tail.tail.pushFlat (h i j)⟩ h3
/-- equality of flat things -/
def fEq : F2 := fun x y => match x, y with
  | .int i, .int j => some (.bl (decide (i = j)))
  | .str i, .str j => some (.bl (decide (i = j)))
  | .bl i, .bl j => some (.bl (decide (i = j)))
  | .non, .non => some (.bl true)
  | .non, .int _ => some (.bl false)
  | .int _, .non => some (.bl false)
  | .non, .str _ => some (.bl false)
  | .str _, .non => some (.bl false)
  | .int _, .str _ => some (.bl false)
  | .str _, .int _ => some (.bl false)
  | _, _ => none
def dNot : D → D
  | .bl b => .bl (!b)
  | d => d
theorem op2_eq : Op2 rEq fEq := by
  intro H x y dx dy d Q rx ry e k
  cases dx <;> cases dy <;> simp only [fEq] at e <;> first
    | (cases e; done)
    | (cases e; rw [rx.flat rfl, ry.flat rfl]; refine ⟨rfl, ?_⟩
       refine k _ ?_
       simp [D.flat])
def fNe : F2 := fun x y => (fEq x y).map dNot
theorem op2_ne : Op2 rNe fNe := by
  intro H x y dx dy d Q rx ry e k
  cases dx <;> cases dy <;> simp only [fNe, fEq, Option.map_some, Option.map_none] at e <;> first
    | (cases e; done)
    | (cases e; rw [rx.flat rfl, ry.flat rfl]; refine ⟨rfl, ?_⟩
       refine k _ ?_
       simp [D.flat, dNot])
mutual
def D.py : D → PyData
  | .non => .none
  | .bl b => .bool b
  | .int i => .int i
  | .str x => .str x
  | .seq false xs => .list (D.pys xs)
  | .seq true xs => .tuple (D.pys xs)
  | _ => .dict []
def D.pys : List D → List PyData
  | [] => []
  | x :: xs => x.py :: D.pys xs
end
mutual
def D.nod : D → Bool
  | .non | .bl _ | .int _ | .str _ => true
  | .seq _ xs => D.nods xs
  | _ => false
def D.nods : List D → Bool
  | [] => true
  | x :: xs => x.nod && D.nods xs
end
mutual
theorem Rep.dp {K : PySem.W.Frag} {phi : Addr → Prop} {H : Hp} : ∀ {v : V} {d : D}, Rep phi H v d → d.nod = true → Dp K H v d.py
  | _, _, .non, _ => .non
  | _, _, .bl b, _ => .bl b
  | _, _, .int i, _ => .int i
  | _, _, .str x, _ => .str x
  | _, _, .lst h p r, e => .lst (SqL.of h) (RepL.dp r (by simpa [D.nod] using e))
  | _, _, .tup h r, e => .tup (SqT.of h) (RepL.dp r (by simpa [D.nod] using e))
  | _, _, .dk h p _ r, e => by simp [D.nod] at e
  | _, _, .dt h p _ r, e => by simp [D.nod] at e
  | _, _, .ins h p _ r, e => by simp [D.nod] at e
theorem RepL.dp {K : PySem.W.Frag} {phi : Addr → Prop} {H : Hp} : ∀ {vs : List V} {ds : List D}, RepL phi H vs ds → D.nods ds = true → DpAll K H vs (D.pys ds)
  | _, _, .nil, _ => .nil
  | _, _, .cons h t, e => by
    have e' := Bool.and_eq_true_iff.mp (by simpa [D.nods] using e : (_ && _) = true)
    exact .cons (Rep.dp h e'.1) (RepL.dp t e'.2)
end
def D.eqOk (d : D) : Bool := d.nod && SeqAt.shaped d.py
def D.deq (a b : D) : Bool := PyData.eqv a.py b.py
def tdEqD (neg : Bool) (toa tob : TDO) : TDE := fun r P => toa r fun x r1 => tob r1 fun y r2 => ∃ dx dy, x.dat r2 = some dx ∧ y.dat r2 = some dy ∧ dx.eqOk = true ∧ dy.eqOk = true ∧ P (.fz true (.bl (if neg then !dx.deq dy else dx.deq dy))) r2
theorem snd_eqD {K : PySem.W.Frag} (ha : SndO G0 ta toa) (hb : SndO G0 tb tob) : SndE G0 (tOp (rEqD K) ta tb) (tdEqD false toa tob) := by
  intro vs ka sg H r P Q hl E hp k
  refine two (Q := Q) ha hb hl E hp fun x y ox oy H2 r2 G l E2 ix iy h2 => ?_
  obtain ⟨dx, dy, e1, e2, c1, c2, h3⟩ := h2
  have c1 := Bool.and_eq_true_iff.mp c1
  have c2 := Bool.and_eq_true_iff.mp c2
  exact ⟨_, _, (dat_rep E2 ix e1).dp c1.1, (dat_rep E2 iy e2).dp c2.1, c1.2, c2.2, k _ H2 _ r2 l ⟨G, E2.tail.tail.pushFlat rfl⟩ h3⟩
theorem snd_neD {K : PySem.W.Frag} (ha : SndO G0 ta toa) (hb : SndO G0 tb tob) : SndE G0 (tOp (rNeD K) ta tb) (tdEqD true toa tob) := by
  intro vs ka sg H r P Q hl E hp k
  refine two (Q := Q) ha hb hl E hp fun x y ox oy H2 r2 G l E2 ix iy h2 => ?_
  obtain ⟨dx, dy, e1, e2, c1, c2, h3⟩ := h2
  have c1 := Bool.and_eq_true_iff.mp c1
  have c2 := Bool.and_eq_true_iff.mp c2
  exact ⟨_, _, (dat_rep E2 ix e1).dp c1.1, (dat_rep E2 iy e2).dp c2.1, c1.2, c2.2, k _ H2 _ r2 l ⟨G, E2.tail.tail.pushFlat rfl⟩ h3⟩
/-- is None -/
def D.isNon : D → Bool
  | .non => true
  | _ => false
theorem Rep.isNon {phi : Addr → Prop} {H : Hp} {v : V} {d : D} (r : Rep phi H v d) : decide (v = .non) = d.isNon := by
  cases r <;> simp [D.isNon]
def tdIsN (neg : Bool) (toa : TDO) : TDE := fun r P => toa r fun x r1 => ∃ dx, x.dat r1 = some dx ∧ P (.fz true (.bl (if neg then !dx.isNon else dx.isNon))) r1
theorem snd_isN (ha : SndO G0 ta toa) : SndE G0 (tOp (fun x y H Q => y = .non ∧ Q (.bl (decide (x = .non))) H) ta (tC .non)) (tdIsN false toa) := by
  intro vs ka sg H r P Q hl E hp k
  show ta sg H fun x H1 => V.non = V.non ∧ Q (.bl (decide (x = .non))) H1
  refine one ha hl E hp fun x ox H2 r2 G l E2 ix h2 => ?_
  obtain ⟨dx, e1, h3⟩ := h2
  refine ⟨rfl, ?_⟩
  rw [(dat_rep E2 ix e1).isNon]
  exact k _ H2 _ r2 l ⟨G, E2.tail.pushFlat rfl⟩ h3
theorem snd_notN (ha : SndO G0 ta toa) : SndE G0 (tOp (fun x y H Q => y = .non ∧ Q (.bl (!decide (x = .non))) H) ta (tC .non)) (tdIsN true toa) := by
  intro vs ka sg H r P Q hl E hp k
  show ta sg H fun x H1 => V.non = V.non ∧ Q (.bl (!decide (x = .non))) H1
  refine one ha hl E hp fun x ox H2 r2 G l E2 ix h2 => ?_
  obtain ⟨dx, e1, h3⟩ := h2
  refine ⟨rfl, ?_⟩
  rw [(dat_rep E2 ix e1).isNon]
  exact k _ H2 _ r2 l ⟨G, E2.tail.pushFlat rfl⟩ h3
abbrev TDT := Rho → (Bool → Rho → Prop) → Prop
def SndT (G0 : Bs) (tt : TT) (t : TDT) : Prop :=
  ∀ (vs : List (Option V)) (ka : List It) (sg : L2.St) (H : Hp) (r : Rho) (P : Bool → Rho → Prop) (Q : Bool → Hp → Prop), vs.length = ka.length → Env G0 H (vs ++ sg) (ka ++ r) → t r P →
    (∀ b H' r', r'.length = r.length → Env G0 H' (vs ++ sg) (ka ++ r') → P b r' → Q b H') → tt sg H Q
def tdTest (t : TDE) : TDT := fun r P => t r fun x r' => ∃ nw b, x = .fz nw (.bl b) ∧ P b r'
variable {tt tu : TT} {s s' : TDT}
theorem fz_val {G H : Hp} {vs : List (Option V)} {its : List It} {v : V} {nw : Bool} {d : D} (E : EnvG G0 G H (some v :: vs) (.fz nw d :: its)) : Rep (nwP G0 nw) G v d := by
  obtain ⟨w, e, r⟩ := E.head
  cases e
  exact r
theorem snt_B (h : SndE G0 te t) : SndT G0 (tB te) (tdTest t) := by
  intro vs ka sg H r P Q hl E hp k
  refine h vs ka sg H r _ _ hl E hp fun v H' x r' l E' h' => ?_
  obtain ⟨nw, b, rfl, h'⟩ := h'
  obtain ⟨G, E'⟩ := E'
  exact ⟨b, rep_bl (fz_val E'), k b H' r' l ⟨G, E'.tail⟩ h'⟩
theorem snt_test (h : SndE G0 te t) : SndT G0 (tTest te) (tdTest t) := snt_B h
def tdAnd (s s' : TDT) : TDT := fun r P => s r fun b r1 => (b = true → s' r1 P) ∧ (b = false → P false r1)
def tdOr (s s' : TDT) : TDT := fun r P => s r fun b r1 => (b = true → P true r1) ∧ (b = false → s' r1 P)
def tdNot (s : TDT) : TDT := fun r P => s r fun b r1 => P (!b) r1
theorem snt_and (h : SndT G0 tt s) (h2 : SndT G0 tu s') : SndT G0 (tAnd tt tu) (tdAnd s s') := by
  intro vs ka sg H r P Q hl E hp k
  refine h vs ka sg H r _ _ hl E hp fun b H' r' l E' h' => ?_
  cases b with
  | true => exact h2 vs ka sg H' r' _ _ hl E' (h'.1 rfl) fun b2 H2 r2 l2 E2 p2 => k b2 H2 r2 (l2.trans l) E2 p2
  | false => exact k false H' r' l E' (h'.2 rfl)
theorem snt_or (h : SndT G0 tt s) (h2 : SndT G0 tu s') : SndT G0 (tOr tt tu) (tdOr s s') := by
  intro vs ka sg H r P Q hl E hp k
  refine h vs ka sg H r _ _ hl E hp fun b H' r' l E' h' => ?_
  cases b with
  | false => exact h2 vs ka sg H' r' _ _ hl E' (h'.2 rfl) fun b2 H2 r2 l2 E2 p2 => k b2 H2 r2 (l2.trans l) E2 p2
  | true => exact k true H' r' l E' (h'.1 rfl)
theorem snt_not (h : SndT G0 tt s) : SndT G0 (tNot tt) (tdNot s) := by
  intro vs ka sg H r P Q hl E hp k
  exact h vs ka sg H r _ _ hl E hp fun b H' r' l E' h' => k (!b) H' r' l E' h'
/-- as values -/
def tdAndV (t u : TDE) : TDE := fun r P => t r fun x r1 => ∃ nw b, x = .fz nw (.bl b) ∧ (b = true → u r1 P) ∧ (b = false → P (.fz true (.bl false)) r1)
def tdOrV (t u : TDE) : TDE := fun r P => t r fun x r1 => ∃ nw b, x = .fz nw (.bl b) ∧ (b = true → P (.fz true (.bl true)) r1) ∧ (b = false → u r1 P)
def tdNotV (t : TDE) : TDE := fun r P => t r fun x r1 => ∃ nw b, x = .fz nw (.bl b) ∧ P (.fz true (.bl (!b))) r1
theorem snd_andV (h : SndE G0 ta t) (h2 : SndE G0 tb u) : SndE G0 (tAndV ta tb) (tdAndV t u) := by
  intro vs ka sg H r P Q hl E hp k
  refine h vs ka sg H r _ _ hl E hp fun v H' x r' l E' h' => ?_
  obtain ⟨nw, b, rfl, h'⟩ := h'
  obtain ⟨G, E'⟩ := E'
  refine ⟨b, rep_bl (fz_val E'), ?_⟩
  cases b with
  | true => exact h2 vs ka sg H' r' _ _ hl ⟨G, E'.tail⟩ (h'.1 rfl) fun b2 H2 x r2 l2 E2 p2 => k b2 H2 x r2 (l2.trans l) E2 p2
  | false => exact k _ H' _ r' l ⟨G, E'.tail.pushFlat rfl⟩ (h'.2 rfl)
theorem snd_notV (h : SndE G0 ta t) : SndE G0 (tNotV ta) (tdNotV t) := by
  intro vs ka sg H r P Q hl E hp k
  refine h vs ka sg H r _ _ hl E hp fun v H' x r' l E' h' => ?_
  obtain ⟨nw, b, rfl, h'⟩ := h'
  obtain ⟨G, E'⟩ := E'
  exact ⟨b, rep_bl (fz_val E'), k _ H' _ r' l ⟨G, E'.tail.pushFlat rfl⟩ h'⟩
def tdIf (s : TDT) (t u : TDE) : TDE := fun r P => s r fun b r1 => (b = true → t r1 P) ∧ (b = false → u r1 P)
theorem snd_if (h : SndT G0 tt s) (ha : SndE G0 ta t) (hb : SndE G0 tb u) : SndE G0 (tIf tt ta tb) (tdIf s t u) := by
  intro vs ka sg H r P Q hl E hp k
  refine h vs ka sg H r _ _ hl E hp fun b H' r' l E' h' => ?_
  cases b with
  | true => exact ha vs ka sg H' r' _ _ hl E' (h'.1 rfl) fun b2 H2 x r2 l2 E2 p2 => k b2 H2 x r2 (l2.trans l) E2 p2
  | false => exact hb vs ka sg H' r' _ _ hl E' (h'.2 rfl) fun b2 H2 x r2 l2 E2 p2 => k b2 H2 x r2 (l2.trans l) E2 p2
abbrev TDA := Rho → (List Opd → Rho → Prop) → Prop
def SndA (G0 : Bs) (ta : TA) (t : TDA) : Prop :=
  ∀ (vs : List (Option V)) (ka : List It) (sg : L2.St) (H : Hp) (r : Rho) (P : List Opd → Rho → Prop) (Q : List V → Hp → Prop), vs.length = ka.length → Env G0 H (vs ++ sg) (ka ++ r) → t r P →
    (∀ ws H' os r' G, r'.length = r.length → EnvG G0 G H' (vs ++ sg) (ka ++ r') → Paired (fun w (o : Opd) => ItX G0 G H' (some w) (o.it r')) ws os → (∀ x, Opd.tm x ∈ os → ∀ (j : Nat) (y : It) (b : Addr), (ka ++ r')[j]? = some y → y.reg b = true → x.reg b = true → False) → P os r' → Q ws H') → ta sg H Q
def tdNil : TDA := fun r P => P [] r
def tdCons (toa : TDO) (t : TDA) : TDA := fun r P => toa r fun o r1 => t r1 fun os r2 => P (o :: os) r2
variable {al : TA} {tal : TDA}
theorem sna_nil : SndA G0 tNil tdNil := by
  intro vs ka sg H r P Q hl E hp k
  obtain ⟨G, E⟩ := E
  exact k [] H [] r G rfl E .nil (fun x h => by cases h) hp
theorem sna_cons (ha : SndO G0 ta toa) (hr : SndA G0 al tal) : SndA G0 (tCons ta al) (tdCons toa tal) := by
  intro vs ka sg H r P Q hl E hp k
  refine ha vs ka sg H r _ _ hl E hp fun v H1 o r1 l1 E1 a1 h1 => ?_
  refine hr (some v :: vs) (o.tmp :: ka) sg H1 r1 _ _ (by simp [hl]) E1 h1 fun ws H2 os r2 G l2 E2 p2 s2 h2 => ?_
  refine k (v :: ws) H2 (o :: os) r2 G (l2.trans l1) E2.tail (.cons (opd_itx (us := []) (kb := []) E2 rfl hl a1) p2) (fun x hx j y b hy r1 r2' => ?_) h2
  rcases List.mem_cons.mp hx with e | hx
  · subst e
    have := E2.sp 0 (j + 1) x y b (by simp [Opd.tmp]) (by simpa using hy) r2' r1
    omega
  · exact s2 x hx (j + 1) y b (by simpa using hy) r1 r2'
/-- the data of operands -/
def dats (r : Rho) : List Opd → Option (List D)
  | [] => some []
  | o :: os => match o.dat r, dats r os with
    | some d, some ds => some (d :: ds)
    | _, _ => none
theorem dats_rep {G H : Hp} {n : List (Option V)} {its : List It} {r : Rho} (E : EnvG G0 G H n its) : ∀ {ws : List V} {os : List Opd}, Paired (fun w (o : Opd) => ItX G0 G H (some w) (o.it r)) ws os → ∀ {ds : List D}, dats r os = some ds → RepL (fun _ => True) H ws ds
  | _, _, .nil, _, h => by cases h; exact .nil
  | _, _, .cons (b := o) (l₂ := os) i p, ds, h => by
    unfold dats at h
    cases q1 : o.dat r with
    | none => rw [q1] at h; simp at h
    | some d =>
      cases q2 : dats r os with
      | none => rw [q1, q2] at h; simp at h
      | some es =>
        rw [q1, q2] at h
        simp at h
        subst h
        exact .cons (dat_rep E i q1) (dats_rep E p q2)
/-- shallow data of operands -/
def cdats (r : Rho) : List Opd → Option (Bool × List D)
  | [] => some (true, [])
  | o :: os => match o.cview r, cdats r os with
    | some (n, d), some (m, ds) => some (n && m, d :: ds)
    | _, _ => none
theorem Sh.imp {R R' : V → D → Prop} (h : ∀ v d, R v d → R' v d) {H : Hp} {v : V} : ∀ {d : D}, Sh R H v d → Sh R' H v d
  | .seq false ds, ⟨a, vs, e, x, p⟩ => ⟨a, vs, e, x, Paired.mono h p⟩
  | .seq true ds, ⟨a, vs, e, x, p⟩ => ⟨a, vs, e, x, Paired.mono h p⟩
  | .dk ks ds, ⟨a, vs, e, x, q, p⟩ => ⟨a, vs, e, x, q, Paired.mono h p⟩
  | .dt ks ds, ⟨a, vs, e, x, q, p⟩ => ⟨a, vs, e, x, q, Paired.mono h p⟩
  | .ins C ns ds, ⟨a, dx, vs, e, x, q, p⟩ => ⟨a, dx, vs, e, x, q, Paired.mono h p⟩
  | .non, e => e
  | .bl _, e => e
  | .int _, e => e
  | .str _, e => e
theorem cdats_sh {G H : Hp} {n : List (Option V)} {its : List It} {r : Rho} (E : EnvG G0 G H n its) : ∀ {ws : List V} {os : List Opd}, Paired (fun w (o : Opd) => ItX G0 G H (some w) (o.it r)) ws os → ∀ {nw : Bool} {ds : List D}, cdats r os = some (nw, ds) →
    Paired (Sh (Rep (nwP G0 nw) G) H) ws ds
  | _, _, .nil, _, _, h => by cases h; exact .nil
  | _, _, .cons (b := o) (l₂ := os) i p, nw, ds, h => by
    unfold cdats at h
    cases q1 : o.cview r with
    | none => rw [q1] at h; simp at h
    | some d =>
      obtain ⟨n1, d⟩ := d
      cases q2 : cdats r os with
      | none => rw [q1, q2] at h; simp at h
      | some es =>
        obtain ⟨n2, es⟩ := es
        rw [q1, q2] at h
        simp at h
        obtain ⟨h1, h2⟩ := h
        subst h1 h2
        refine .cons ((i.sh E.le q1).imp fun v d q => q.imp fun a f e => f ?_) (Paired.mono (fun v d q => q.imp fun v d q => q.imp fun a f e => f ?_) (cdats_sh E p q2))
        · exact (Bool.and_eq_true_iff.mp e).1
        · exact (Bool.and_eq_true_iff.mp e).2
abbrev RA := List V → Hp → VK → Prop
def OpA (r : RA) (C : List D → D → Prop) : Prop := ∀ (H : Hp) (ws : List V) (ds : List D) (d : D) (Q : VK), RepL (fun _ => True) H ws ds → C ds d → (∀ w, d.flat = some w → Q w H) → r ws H Q
def tdB (C : List D → D → Prop) (tas : TDA) : TDE := fun r P => tas r fun os r1 => ∃ ds d, dats r1 os = some ds ∧ C ds d ∧ P (.fz true d) r1
theorem snd_B {rr : RA} {C : List D → D → Prop} (hr : OpA rr C) (ha : SndA G0 al tal) : SndE G0 (tCB rr al) (tdB C tal) := by
  intro vs ka sg H r P Q hl E hp k
  refine ha vs ka sg H r _ _ hl E hp fun ws H' os r' G l E' p _ h' => ?_
  obtain ⟨ds, d, e1, e2, h3⟩ := h'
  exact hr H' ws ds d Q (dats_rep E' p e1) e2 fun w ew => k w H' _ r' l ⟨G, E'.pushFlat ew⟩ h3
/-- new lists: what the items are made of stays -/
def OpL (r : RA) (C : List D → List D → Prop) : Prop := ∀ (R : V → D → Prop) (H : Hp) (ws : List V) (ds es : List D) (Q : VK), (∀ d w, d.flat = some w → ∀ v, R v d ↔ v = w) → Paired (Sh R H) ws ds → C ds es →
  (∀ p us, H p = none → Paired R us es → Q (.ref p) (upd H p (.lst us))) → r ws H Q
def tdL (C : List D → List D → Prop) (tas : TDA) : TDE := fun r P => tas r fun os r1 => ∃ nw ds es, cdats r1 os = some (nw, ds) ∧ C ds es ∧ ∀ p, P (.ow p nw (.seq false es)) r1
def OpT (r : RA) (C : List D → List D → Prop) : Prop := ∀ (R : V → D → Prop) (H : Hp) (ws : List V) (ds es : List D) (Q : VK), (∀ d w, d.flat = some w → ∀ v, R v d ↔ v = w) → Paired (Sh R H) ws ds → C ds es →
  (∀ p us, H p = none → Paired R us es → Q (.ref p) (upd H p (.tup us))) → (∀ p us, H p = some (.tup us) → Paired R us es → Q (.ref p) H) → r ws H Q
def tdT (C : List D → List D → Prop) (tas : TDA) : TDE := fun r P => tas r fun os r1 => ∃ nw ds es, cdats r1 os = some (nw, ds) ∧ C ds es ∧ P (.fz nw (.seq true es)) r1
theorem snd_T {rr : RA} {C : List D → List D → Prop} (hr : OpT rr C) (ha : SndA G0 al tal) : SndE G0 (tCB rr al) (tdT C tal) := by
  intro vs ka sg H r P Q hl E hp k
  refine ha vs ka sg H r _ _ hl E hp fun ws H' os r' G l E' p _ h' => ?_
  obtain ⟨nw, ds, es, e1, e2, h3⟩ := h'
  refine hr _ H' ws ds es Q (fun d w e v => ⟨fun r => r.flat e, fun z => z ▸ rep_flat e⟩) (cdats_sh E' p e1) e2 (fun p us hp hr => ?_) fun p us hp hr => ?_
  · exact k _ _ _ r' l ⟨_, E'.pushTup hp (RepL.of hr)⟩ h3
  · exact k _ _ _ r' l ⟨_, E'.pushFz (.tup (E'.tp _ _ hp) (RepL.of hr))⟩ h3
/-- the same of two operands -/
def Op2L (r : R2) (C : D → D → List D → Prop) : Prop := ∀ (R : V → D → Prop) (H : Hp) (x y : V) (dx dy : D) (es : List D) (Q : VK), (∀ d w, d.flat = some w → ∀ v, R v d ↔ v = w) → Sh R H x dx → Sh R H y dy → C dx dy es →
  (∀ p us, H p = none → Paired R us es → Q (.ref p) (upd H p (.lst us))) → r x y H Q
def tdL2 (C : D → D → List D → Prop) (toa tob : TDO) : TDE := fun r P => toa r fun x r1 => tob r1 fun y r2 => ∃ nw dx dy es, cdats r2 [x, y] = some (nw, [dx, dy]) ∧ C dx dy es ∧ ∀ p, P (.ow p nw (.seq false es)) r2
theorem snd_L2 {rr : R2} {C : D → D → List D → Prop} (hr : Op2L rr C) (ha : SndO G0 ta toa) (hb : SndO G0 tb tob) : SndE G0 (tOp rr ta tb) (tdL2 C toa tob) := by
  intro vs ka sg H r P Q hl E hp k
  refine two (Q := Q) ha hb hl E hp fun x y ox oy H2 r2 G l E2 ix iy h2 => ?_
  obtain ⟨nw, dx, dy, es, e1, e2, h3⟩ := h2
  have E3 := E2.tail.tail
  have pr := cdats_sh E3 (.cons ix (.cons iy .nil)) e1
  cases pr with
  | cons q1 q2 =>
    cases q2 with
    | cons q2 _ =>
      refine hr _ H2 x y dx dy es Q (fun d w e v => ⟨fun r => r.flat e, fun z => z ▸ rep_flat e⟩) q1 q2 e2 fun p us hp hr => ?_
      exact k _ _ _ r2 l ⟨G, E3.pushOw (nw := nw) (d := .seq false es) hp rfl ⟨us, upd_same, RepL.of hr⟩⟩ (h3 p)
/-- a part of the first operand -/
def isFlat (d : D) : Bool := d.flat.isSome
def Op2C (r : R2) (C : D → D → D → Prop) : Prop := ∀ (R : V → D → Prop) (H : Hp) (x y : V) (dx dy d : D) (Q : VK), (∀ d w, d.flat = some w → ∀ v, R v d ↔ v = w) → Sh R H x dx → Sh R H y dy → C dx dy d → (∀ v, R v d → Q v H) → r x y H Q
def tdC2 (C : D → D → D → Prop) (toa tob : TDO) : TDE := fun r P => toa r fun x r1 => tob r1 fun y r2 => ∃ nw dx dy d, cdats r2 [x, y] = some (nw, [dx, dy]) ∧ C dx dy d ∧ P (.fz (nw || isFlat d) d) r2
theorem Rep.nwFlat {G : Hp} {v : V} {nw : Bool} {d : D} (r : Rep (nwP G0 nw) G v d) : Rep (nwP G0 (nw || isFlat d)) G v d := by
  cases q : isFlat d with
  | false => rw [Bool.or_false]; exact r
  | true =>
    unfold isFlat at q
    cases q2 : d.flat with
    | none => rw [q2] at q; cases q
    | some w => rw [r.flat q2]; exact rep_flat q2
theorem snd_C2 {rr : R2} {C : D → D → D → Prop} (hr : Op2C rr C) (ha : SndO G0 ta toa) (hb : SndO G0 tb tob) : SndE G0 (tOp rr ta tb) (tdC2 C toa tob) := by
  intro vs ka sg H r P Q hl E hp k
  refine two (Q := Q) ha hb hl E hp fun x y ox oy H2 r2 G l E2 ix iy h2 => ?_
  obtain ⟨nw, dx, dy, d, e1, e2, h3⟩ := h2
  have E3 := E2.tail.tail
  have pr := cdats_sh E3 (.cons ix (.cons iy .nil)) e1
  cases pr with
  | cons q1 q2 =>
    cases q2 with
    | cons q2 _ =>
      refine hr _ H2 x y dx dy d Q (fun d w e v => ⟨fun r => r.flat e, fun z => z ▸ rep_flat e⟩) q1 q2 e2 fun v hv => ?_
      exact k _ _ _ r2 l ⟨G, E3.pushFz hv.nwFlat⟩ h3
end
end TL
namespace TL
open PySem L2
structure TEnds where
  nx : Rho → Prop
  rt : TL.It → Rho → Prop
  bk : Rho → Prop := fun _ => False
  ct : Rho → Prop := fun _ => False
abbrev TDS := TEnds → Rho → Prop
structure EOk (G0 : Bs) (vs : List (Option V)) (ka : List TL.It) (P : TEnds) (Dn : Ends) : Prop where
  nx : ∀ (sg : L2.St) (H : Hp) (r : Rho), Env G0 H (vs ++ sg) (ka ++ r) → P.nx r → Dn.nx sg H
  rt : ∀ (v : V) (sg : L2.St) (H : Hp) (x : TL.It) (r : Rho), Env G0 H (some v :: (vs ++ sg)) (x :: (ka ++ r)) → P.rt x r → Dn.rt v H
  bk : ∀ (sg : L2.St) (H : Hp) (r : Rho), Env G0 H (vs ++ sg) (ka ++ r) → P.bk r → Dn.bk sg H
  ct : ∀ (sg : L2.St) (H : Hp) (r : Rho), Env G0 H (vs ++ sg) (ka ++ r) → P.ct r → Dn.ct sg H
def SndS (G0 : Bs) (ts : TS) (t : TDS) : Prop :=
  ∀ (vs : List (Option V)) (ka : List TL.It) (sg : L2.St) (H : Hp) (r : Rho) (P : TEnds) (Dn : Ends), vs.length = ka.length → Env G0 H (vs ++ sg) (ka ++ r) → t P r → EOk G0 vs ka P Dn → ts Dn sg H
theorem EnvG.assign {G0 : Bs} {G H : Hp} {vs : List (Option V)} {ka : List TL.It} {sg : L2.St} {r : Rho} {v : V} {x : TL.It} (E : EnvG G0 G H (some v :: (vs ++ sg)) (x :: (ka ++ r))) (hl : vs.length = ka.length) (i : Nat) :
    EnvG G0 G H (vs ++ sg.set i (some v)) (ka ++ r.set i x) := by
  have hs : sg.length = r.length := by have := E.len; simp at this; omega
  refine E.sel (fun j => if j = ka.length + i then 0 else j + 1) (fun a b h => ?_) (by simp [hl, hs]) fun j y hy => ?_
  · have h : (if a = ka.length + i then 0 else a + 1) = (if b = ka.length + i then 0 else b + 1) := h
    split at h <;> split at h <;> omega
  · refine .inr ?_
    by_cases hj : j = ka.length + i
    · subst hj
      rw [get_app] at hy
      have hi : i < r.length := by have := (List.getElem?_eq_some_iff.mp hy).1; simpa using this
      rw [List.getElem?_set_self hi] at hy
      cases hy
      rw [if_pos rfl]
      refine ⟨rfl, ?_⟩
      rw [getD_app hl, List.getD_eq_getElem?_getD, List.getElem?_set_self (by omega)]
      rfl
    · rw [if_neg hj]
      by_cases hk : j < ka.length
      · rw [List.getElem?_append_left hk] at hy
        refine ⟨by rw [List.getElem?_cons_succ, List.getElem?_append_left hk]; exact hy, ?_⟩
        rw [List.getD_eq_getElem?_getD, List.getD_eq_getElem?_getD, List.getElem?_cons_succ, List.getElem?_append_left (by omega), List.getElem?_append_left (by omega)]
      · obtain ⟨m, rfl⟩ : ∃ m, j = ka.length + m := ⟨j - ka.length, by omega⟩
        rw [get_app, List.getElem?_set_ne (by omega)] at hy
        refine ⟨by rw [List.getElem?_cons_succ, get_app]; exact hy, ?_⟩
        rw [getD_app hl, List.getD_eq_getElem?_getD, List.getD_eq_getElem?_getD, List.getElem?_cons_succ, ← hl, List.getElem?_append_right (by omega), List.getElem?_set_ne (by omega)]
        congr 2
        omega
theorem Env.assign {G0 : Bs} {H : Hp} {vs : List (Option V)} {ka : List TL.It} {sg : L2.St} {r : Rho} {v : V} {x : TL.It} (E : Env G0 H (some v :: (vs ++ sg)) (x :: (ka ++ r))) (hl : vs.length = ka.length) (i : Nat) :
    Env G0 H (vs ++ sg.set i (some v)) (ka ++ r.set i x) := by
  obtain ⟨G, E⟩ := E
  exact ⟨G, E.assign hl i⟩
theorem Env.tail {G0 : Bs} {H : Hp} {vs : List (Option V)} {its : List TL.It} {v : Option V} {x : TL.It} (E : Env G0 H (v :: vs) (x :: its)) : Env G0 H vs its := by
  obtain ⟨G, E⟩ := E
  exact ⟨G, E.tail⟩
section
variable {G0 : Bs} {te ta tb tc : TE} {t u : TDE} {toa tob toc : TDO} {tt : TT} {s : TDT} {ts tu : TS} {ds du : TDS}
def tdSeq (ds du : TDS) : TDS := fun P r => ds { P with nx := du P } r
theorem sns_seq (h1 : SndS G0 ts ds) (h2 : SndS G0 tu du) : SndS G0 (tSeq ts tu) (tdSeq ds du) := by
  intro vs ka sg H r P Dn hl E h k
  exact h1 vs ka sg H r _ _ hl E h ⟨fun sg' H' r' E' h' => h2 vs ka sg' H' r' P Dn hl E' h' k, k.rt, k.bk, k.ct⟩
def tdNext : TDS := fun P r => P.nx r
theorem sns_next : SndS G0 tNext tdNext := fun vs ka sg H r P Dn hl E h k => k.nx sg H r E h
def tdBreak : TDS := fun P r => P.bk r
def tdCont : TDS := fun P r => P.ct r
def tdRet (t : TDE) : TDS := fun P r => t r P.rt
theorem sns_ret (h : SndE G0 te t) : SndS G0 (tRet te) (tdRet t) := by
  intro vs ka sg H r P Dn hl E hp k
  exact h vs ka sg H r _ _ hl E hp fun v H' x r' _ E' h' => k.rt v sg H' x r' E' h'
def tdRetN : TDS := fun P r => P.rt (.fz true .non) r
def tdDrop (t : TDE) : TDS := fun P r => t r fun _ r' => P.nx r'
theorem sns_drop (h : SndE G0 te t) : SndS G0 (tDrop te) (tdDrop t) := by
  intro vs ka sg H r P Dn hl E hp k
  exact h vs ka sg H r _ _ hl E hp fun v H' x r' _ E' h' => k.nx sg H' r' E'.tail h'
def tdIfS (s : TDT) (ds du : TDS) : TDS := fun P r => s r fun b r' => (b = true → ds P r') ∧ (b = false → du P r')
theorem sns_if (h : SndT G0 tt s) (h1 : SndS G0 ts ds) (h2 : SndS G0 tu du) : SndS G0 (tIfS tt ts tu) (tdIfS s ds du) := by
  intro vs ka sg H r P Dn hl E hp k
  refine h vs ka sg H r _ _ hl E hp fun b H' r' l E' h' => ?_
  cases b with
  | true => exact h1 vs ka sg H' r' P Dn hl E' (h'.1 rfl) k
  | false => exact h2 vs ka sg H' r' P Dn hl E' (h'.2 rfl) k
/-- x = e -/
def tdAsg (t : TDE) (i : Nat) : TDS := fun P r => t r fun x r' => P.nx (r'.set i x)
theorem sns_asg {i : Nat} (h : SndE G0 te t) : SndS G0 (tAsg te (gName i)) (tdAsg t i) := by
  intro vs ka sg H r P Dn hl E hp k
  exact h vs ka sg H r _ _ hl E hp fun v H' x r' _ E' h' => k.nx _ H' _ (E'.assign hl i) h'
/-- x, y = e1, e2 -/
def tdPar (t u : TDE) (i j : Nat) : TDS := fun P r => t r fun x r1 => u r1 fun y r2 => P.nx ((r2.set i x).set j y)
theorem sns_par {i j : Nat} (ha : SndE G0 ta t) (hb : SndE G0 tb u) : SndS G0 (tPar i j (tCons ta (tCons tb tNil))) (tdPar t u i j) := by
  intro vs ka sg H r P Dn hl E hp k
  refine ha vs ka sg H r _ _ hl E hp fun v H1 x r1 l1 E1 h1 => ?_
  refine hb (some v :: vs) (x :: ka) sg H1 r1 _ _ (by simp [hl]) E1 h1 fun w H2 y r2 l2 E2 h2 => ?_
  refine ⟨v, w, rfl, ?_⟩
  refine k.nx _ H2 _ ?_ h2
  have hl2 : (some v :: vs).length = (x :: ka).length := by simp [hl]
  obtain ⟨G, E2⟩ := E2
  -- swap the two on top
  have E3 : EnvG G0 G H2 (some v :: some w :: (vs ++ sg)) (x :: y :: (ka ++ r2)) := E2.sel (fun n => if n = 0 then 1 else if n = 1 then 0 else n)
    (fun a b h => by
      have h : (if a = 0 then 1 else if a = 1 then 0 else a) = (if b = 0 then 1 else if b = 1 then 0 else b) := h
      repeat' split at h
      all_goals omega) (by have := E2.len; simpa using this) fun n z hz => .inr (by
      match n with
      | 0 => exact ⟨by simpa using hz, by simp⟩
      | 1 => exact ⟨by simpa using hz, by simp⟩
      | n + 2 => exact ⟨by simpa using hz, by simp⟩)
  have E4 := EnvG.assign (vs := some w :: vs) (ka := y :: ka) E3 (by simp [hl]) i
  have E5 := EnvG.assign (vs := vs) (ka := ka) E4 hl j
  exact ⟨G, E5⟩
/-- targets -/
abbrev TDG := TL.It → Rho → (Rho → Prop) → Prop
def SndG (G0 : Bs) (own : List Nat) (g : TG) (tg : TDG) : Prop :=
  ∀ (vs : List (Option V)) (ka : List TL.It) (sg : L2.St) (H : Hp) (r : Rho) (v : V) (x : TL.It) (P : Rho → Prop) (Q : L2.St → Hp → Prop), vs.length = ka.length → Env G0 H (some v :: (vs ++ sg)) (x :: (ka ++ r)) → tg x r P →
    (∀ sg' r', r'.length = r.length → (∀ j, j ∉ own → sg'[j]? = sg[j]?) → sg'.length = sg.length → Env G0 H (vs ++ sg') (ka ++ r') → P r' → Q sg' H) → g v sg H Q
def tgN (i : Nat) : TDG := fun x r P => P (r.set i x)
theorem sng_name {own : List Nat} {i : Nat} (h : i ∈ own) : SndG G0 own (gName i) (tgN i) := by
  intro vs ka sg H r v x P Q hl E hp k
  exact k _ _ (by simp) (fun j hj => List.getElem?_set_ne (by rintro rfl; exact hj h)) (by simp) (E.assign hl i) hp
def setsR : List Nat → List TL.It → Rho → Rho
  | i :: is, x :: xs, r => setsR is xs (r.set i x)
  | _, _, r => r
/-- (a, b, ..) -/
def tgT (is : List Nat) : TDG := fun x r P => ∃ nw ds, x = .fz nw (.seq true ds) ∧ ds.length = is.length ∧ P (setsR is (ds.map fun d => .fz (nw || isFlat d) d) r)
def gNames : List Nat → TGs
  | [] => gNil
  | i :: is => gCons (gName i) (gNames is)
theorem gNames_ok {own : List Nat} : ∀ (is : List Nat) (vs : List (Option V)) (ka : List TL.It) (sg : L2.St) (H G : Hp) (r : Rho) (xs : List V) (nw : Bool) (ds : List D) (P : Rho → Prop) (Q : L2.St → Hp → Prop), (∀ i ∈ is, i ∈ own) → vs.length = ka.length →
    EnvG G0 G H (vs ++ sg) (ka ++ r) → RepL (nwP G0 nw) G xs ds → ds.length = is.length → P (setsR is (ds.map fun d => .fz (nw || isFlat d) d) r) →
    (∀ sg' r', r'.length = r.length → (∀ j, j ∉ own → sg'[j]? = sg[j]?) → sg'.length = sg.length → Env G0 H (vs ++ sg') (ka ++ r') → P r' → Q sg' H) → gNames is xs sg H Q
  | [], vs, ka, sg, H, G, r, xs, nw, ds, P, Q, ho, hl, E, hr, hd, hp, k => by
    have : ds = [] := List.length_eq_zero_iff.mp hd
    subst this
    cases hr
    exact ⟨rfl, k sg r rfl (fun _ _ => rfl) rfl ⟨G, E⟩ hp⟩
  | i :: is, vs, ka, sg, H, G, r, xs, nw, d :: ds, P, Q, ho, hl, E, hr, hd, hp, k => by
    cases hr with
    | cons q qs =>
      refine ⟨_, _, rfl, ?_⟩
      have E1 := EnvG.assign (E.pushFz q.nwFlat) hl i
      refine gNames_ok is vs ka _ H G _ _ nw ds P Q (fun j hj => ho j (List.mem_cons_of_mem _ hj)) hl E1 qs (by simpa using hd) hp fun sg' r' l1 l2 l3 E' h' => ?_
      exact k sg' r' (by simpa using l1) (fun j hj => (l2 j hj).trans (List.getElem?_set_ne (by rintro rfl; exact hj (ho _ List.mem_cons_self)))) (by simpa using l3) E' h'
theorem sng_tup {K : PySem.W.Frag} {own : List Nat} {is : List Nat} {n : Nat} (hn : is.length = n) (ho : ∀ i ∈ is, i ∈ own) : SndG G0 own (gTup K n (gNames is)) (tgT is) := by
  intro vs ka sg H r v x P Q hl E hp k
  obtain ⟨nw, ds, rfl, hd, hp⟩ := hp
  obtain ⟨G, E⟩ := E
  have rv := fz_val E
  cases rv with
  | tup h q => exact ⟨_, _, rfl, SqT.of (E.le _ _ h), by rw [q.length, hd, hn], gNames_ok is vs ka sg H G r _ nw ds P Q ho hl E.tail q hd hp k⟩
/-- a, b = e -/
def tdUnp (t : TDE) (tg : TDG) : TDS := fun P r => t r fun x r' => tg x r' P.nx
theorem sns_unp {g : TG} {tg : TDG} {own : List Nat} (h : SndE G0 te t) (hg : SndG G0 own g tg) : SndS G0 (tAsg te g) (tdUnp t tg) := by
  intro vs ka sg H r P Dn hl E hp k
  refine h vs ka sg H r _ _ hl E hp fun v H' x r' _ E' h' => ?_
  exact hg vs ka sg H' r' v x _ _ hl E' h' fun sg' r2 _ _ _ E2 h2 => k.nx sg' H' r2 E2 h2
def Yields (G0 : Bs) (vs : List (Option V)) (ka : List TL.It) (J : L2.It) (ys : List TL.It) : Prop :=
  ∀ (k : Nat) (vf : List (Option V)) (kf : List TL.It) (sg : L2.St) (H : Hp) (r : Rho), vf.length = kf.length → Env G0 H (vf ++ (vs ++ sg)) (kf ++ (ka ++ r)) →
    (∀ x, ys[k]? = some x → J.go k H ∧ ∀ v H', J.yld k H v H' → Env G0 H' (some v :: (vf ++ (vs ++ sg))) (x :: (kf ++ (ka ++ r)))) ∧ (ys.length ≤ k → J.stop k H)
abbrev TDI := Rho → (List TL.It → Rho → Prop) → Prop
def SndI (G0 : Bs) (wi : TI) (t : TDI) : Prop :=
  ∀ (vs : List (Option V)) (ka : List TL.It) (sg : L2.St) (H : Hp) (r : Rho) (P : List TL.It → Rho → Prop) (R : L2.It → Hp → Prop), vs.length = ka.length → Env G0 H (vs ++ sg) (ka ++ r) → t r P →
    (∀ vs' ka' J H' ys r', vs'.length = ka'.length → r'.length = r.length → Env G0 H' ((vs' ++ vs) ++ sg) ((ka' ++ ka) ++ r') → Yields G0 (vs' ++ vs) (ka' ++ ka) J ys → P ys r' → R J H') → wi sg H R
def forB (tg : TDG) (tb : TDS) (P : TEnds) (ys : List TL.It) (r1 : Rho) : Prop := ∃ I : Nat → Rho → Prop, I 0 r1 ∧
  (∀ k x r', ys[k]? = some x → I k r' → tg x r' fun r2 => tb { P with nx := I (k + 1), ct := I (k + 1), bk := P.nx } r2) ∧ ∀ r', I ys.length r' → P.nx r'
def tdFor (ti : TDI) (tg : TDG) (tb : TDS) : TDS := fun P r => ti r (forB tg tb P)
theorem Env.dropFront {H : Hp} {vs' vs : List (Option V)} {ka' ka : List TL.It} {sg : L2.St} {r : Rho} (h : vs'.length = ka'.length) (E : Env G0 H ((vs' ++ vs) ++ sg) ((ka' ++ ka) ++ r)) : Env G0 H (vs ++ sg) (ka ++ r) := by
  obtain ⟨G, E⟩ := E
  refine ⟨G, E.sel (· + ka'.length) (fun _ _ h => by simpa using h) (by have := E.len; simp at this ⊢; omega) fun i x hx => .inr ⟨?_, ?_⟩⟩
  · show ((ka' ++ ka) ++ r)[i + ka'.length]? = some x
    rw [List.append_assoc, List.getElem?_append_right (by omega)]
    simpa using hx
  · show (vs ++ sg).getD i none = ((vs' ++ vs) ++ sg).getD (i + ka'.length) none
    rw [List.append_assoc, List.getD_eq_getElem?_getD, List.getD_eq_getElem?_getD, List.getElem?_append_right (l₁ := vs') (by omega)]
    congr 2
    omega
theorem Env.dropMid {H : Hp} {v : V} {x : TL.It} {vs' vs : List (Option V)} {ka' ka : List TL.It} {sg : L2.St} {r : Rho} (h : vs'.length = ka'.length) (E : Env G0 H (some v :: ((vs' ++ vs) ++ sg)) (x :: ((ka' ++ ka) ++ r))) : Env G0 H (some v :: (vs ++ sg)) (x :: (ka ++ r)) := by
  obtain ⟨G, E⟩ := E
  refine ⟨G, E.sel (fun i => if i = 0 then 0 else i + ka'.length) (fun a b h => ?_) (by have := E.len; simp at this ⊢; omega) fun i y hy => .inr ?_⟩
  · have h : (if a = 0 then 0 else a + ka'.length) = (if b = 0 then 0 else b + ka'.length) := h
    split at h <;> split at h <;> omega
  · cases i with
    | zero => exact ⟨by simpa using hy, by simp⟩
    | succ i =>
      rw [if_neg (Nat.succ_ne_zero i)]
      refine ⟨?_, ?_⟩
      · rw [show i + 1 + ka'.length = (i + ka'.length) + 1 by omega, List.getElem?_cons_succ, List.append_assoc, List.getElem?_append_right (by omega)]
        simpa using hy
      · rw [List.append_assoc, List.getD_eq_getElem?_getD, List.getD_eq_getElem?_getD, List.getElem?_cons_succ, show i + 1 + ka'.length = (i + ka'.length) + 1 by omega, List.getElem?_cons_succ, List.getElem?_append_right (l₁ := vs') (by omega)]
        congr 2
        omega
theorem EOk.front {vs' vs : List (Option V)} {ka' ka : List TL.It} {P : TEnds} {Dn : Ends} (h : vs'.length = ka'.length) (k : EOk G0 vs ka P Dn) : EOk G0 (vs' ++ vs) (ka' ++ ka) P Dn :=
  ⟨fun sg H r E p => k.nx sg H r (E.dropFront h) p, fun v sg H x r E p => k.rt v sg H x r (E.dropMid h) p, fun sg H r E p => k.bk sg H r (E.dropFront h) p, fun sg H r E p => k.ct sg H r (E.dropFront h) p⟩
theorem for_core {g : TG} {tg : TDG} {own : List Nat} (hg : SndG G0 own g tg) (hb : SndS G0 ts ds) {vs : List (Option V)} {ka : List TL.It} {sg : L2.St} {H : Hp} {r : Rho} {J : L2.It} {ys : List TL.It} {P : TEnds} {Dn : Ends}
    (hl2 : vs.length = ka.length) (k2 : EOk G0 vs ka P Dn) (E' : Env G0 H (vs ++ sg) (ka ++ r)) (Y : Yields G0 vs ka J ys) (hp : forB tg ds P ys r) :
    ∃ W : Nat → Nat → L2.St → Hp → Prop, (∃ m, W 0 m sg H) ∧ ∀ i m σ H, W i m σ H →
      (J.stop i H ∧ Dn.nx σ H) ∨ (J.go i H ∧ ∃ N : L2.St → Hp → Prop, (∀ σ' H', N σ' H' → ∃ m', m' < m ∧ W (i + 1) m' σ' H') ∧ ∀ x H', J.yld i H x H' → g x σ H' fun σ2 H2 => ts { Dn with nx := N, ct := N, bk := Dn.nx } σ2 H2) := by
  obtain ⟨I, i0, step, fin⟩ := hp
  refine ⟨fun i m sg H => m = ys.length - i ∧ i ≤ ys.length ∧ ∃ r, Env G0 H (vs ++ sg) (ka ++ r) ∧ I i r, ⟨_, rfl, Nat.zero_le _, r, E', i0⟩, ?_⟩
  rintro i m sg1 H1 ⟨rfl, hi, r1, E1, p1⟩
  obtain ⟨y1, y2⟩ := Y i [] [] sg1 H1 r1 rfl E1
  by_cases hlt : i < ys.length
  · have hx : ys[i]? = some ys[i] := List.getElem?_eq_getElem hlt
    obtain ⟨go, yl⟩ := y1 _ hx
    refine .inr ⟨go, fun sg2 H2 => ∃ r2, Env G0 H2 (vs ++ sg2) (ka ++ r2) ∧ I (i + 1) r2, fun sg2 H2 ⟨r2, E2, p2⟩ => ⟨ys.length - (i + 1), by omega, rfl, hlt, r2, E2, p2⟩, fun v H2 yv => ?_⟩
    refine hg _ _ sg1 H2 r1 v _ _ _ hl2 (yl v H2 yv) (step i _ r1 hx p1) fun sg3 r3 l1 _ _ E3 h3 => ?_
    exact hb _ _ sg3 H2 r3 _ _ hl2 E3 h3 ⟨fun sg4 H4 r4 E4 h4 => ⟨r4, E4, h4⟩, k2.rt, k2.nx, fun sg4 H4 r4 E4 h4 => ⟨r4, E4, h4⟩⟩
  · have e : i = ys.length := by omega
    subst e
    exact .inl ⟨y2 (Nat.le_refl _), k2.nx _ _ _ E1 (fin _ p1)⟩
theorem sns_for {wi : TI} {ti : TDI} {g : TG} {tg : TDG} {own : List Nat} (hi : SndI G0 wi ti) (hg : SndG G0 own g tg) (hb : SndS G0 ts ds) : SndS G0 (tFor wi g ts) (tdFor ti tg ds) := by
  intro vs ka sg H r P Dn hl E hp k
  refine hi vs ka sg H r _ _ hl E hp fun vs' ka' J H' ys r' hl' lr E' Y hp => ?_
  exact for_core hg hb (by simp [hl, hl']) (k.front (vs' := vs') (ka' := ka') hl') E' Y hp
/-- while -/
def tdWhile (s : TDT) (tb : TDS) : TDS := fun P r => ∃ W : Nat → Rho → Prop, (∃ m, W m r) ∧ ∀ m r', W m r' → s r' fun b r1 => (b = true → tb { P with nx := fun r2 => ∃ m', m' < m ∧ W m' r2, ct := fun r2 => ∃ m', m' < m ∧ W m' r2, bk := P.nx } r1) ∧ (b = false → P.nx r1)
theorem sns_while (h : SndT G0 tt s) (hb : SndS G0 ts ds) : SndS G0 (tWhile tt ts) (tdWhile s ds) := by
  intro vs ka sg H r P Dn hl E hp k
  obtain ⟨W, ⟨m0, w0⟩, turn⟩ := hp
  refine ⟨fun m sg H => ∃ r, Env G0 H (vs ++ sg) (ka ++ r) ∧ W m r, ⟨m0, r, E, w0⟩, ?_⟩
  rintro m sg1 H1 ⟨r1, E1, w1⟩
  refine h vs ka sg1 H1 r1 _ _ hl E1 (turn m r1 w1) fun b H2 r2 l E2 h2 => ?_
  cases b with
  | true =>
    rw [if_pos rfl]
    refine ⟨fun sg' H' => ∃ m', m' < m ∧ ∃ r, Env G0 H' (vs ++ sg') (ka ++ r) ∧ W m' r, fun sg' H' q => q, ?_⟩
    exact hb vs ka sg1 H2 r2 _ _ hl E2 (h2.1 rfl) ⟨fun sg4 H4 r4 E4 ⟨m', l', w'⟩ => ⟨m', l', r4, E4, w'⟩, k.rt, k.nx, fun sg4 H4 r4 E4 ⟨m', l', w'⟩ => ⟨m', l', r4, E4, w'⟩⟩
  | false =>
    rw [if_neg Bool.false_ne_true]
    exact k.nx sg1 H2 r2 E2 (h2.2 rfl)
def wR (own : List Nat) (r : Rho) : Rho := own.foldr (fun i r => r.set i .no) r
theorem wR_length (own : List Nat) (r : Rho) : (wR own r).length = r.length := by
  induction own with
  | nil => rfl
  | cons i is ih => unfold wR at *; simp [ih]
def lcB (tg : TDG) (s : TDT) (t : TDE) (own : List Nat) (P : TL.It → Rho → Prop) (ys : List TL.It) (r1 : Rho) : Prop := ys.length ≤ sizeLine ∧ ∃ (nw : Bool) (I : Nat → List D → Rho → Prop), I 0 [] (wR own r1) ∧
  (∀ k x acc r', ys[k]? = some x → acc.length ≤ k → I k acc r' → tg x (wR own r') fun r2 => s r2 fun b r3 => (b = true → t r3 fun y r4 => ∃ n d, y.view = some (n, d) ∧ (nw = true → n = true) ∧ I (k + 1) (acc ++ [d]) (wR own r4)) ∧ (b = false → I (k + 1) acc (wR own r3))) ∧
  ∀ acc r', acc.length ≤ ys.length → I ys.length acc r' → ∀ p, P (.ow p nw (.seq false acc)) (wR own r')
def tdLc (ti : TDI) (tg : TDG) (s : TDT) (t : TDE) (own : List Nat) : TDE := fun r P => ti r (lcB tg s t own P)
theorem EnvG.weak {G H : Hp} {vs : List (Option V)} {ka : List TL.It} {sg sg' : L2.St} {r : Rho} (own : List Nat) (E : EnvG G0 G H (vs ++ sg) (ka ++ r)) (hl : vs.length = ka.length) (hs : sg'.length = sg.length) (h : ∀ j, j ∉ own → sg'[j]? = sg[j]?) : EnvG G0 G H (vs ++ sg') (ka ++ wR own r) := by
  have hr : sg.length = r.length := by have := E.len; simp at this; omega
  refine E.sel id (fun _ _ h => h) (by simp [wR_length]; omega) fun i x hx => ?_
  by_cases hk : i < ka.length
  · rw [List.getElem?_append_left hk] at hx
    refine .inr ⟨by rw [id, List.getElem?_append_left hk]; exact hx, ?_⟩
    rw [id, List.getD_eq_getElem?_getD, List.getD_eq_getElem?_getD, List.getElem?_append_left (by omega), List.getElem?_append_left (by omega)]
  · obtain ⟨m, rfl⟩ : ∃ m, i = ka.length + m := ⟨i - ka.length, by omega⟩
    rw [get_app] at hx
    have key : ∀ (own : List Nat), (wR own r)[m]? = some x → (m ∈ own ∧ x = .no) ∨ (m ∉ own ∧ r[m]? = some x) := by
      intro own
      induction own with
      | nil => intro h; exact .inr ⟨by simp, h⟩
      | cons j js ih =>
        intro h
        have h : ((wR js r).set j .no)[m]? = some x := h
        by_cases hj : j = m
        · subst hj
          have : j < (wR js r).length := by have := (List.getElem?_eq_some_iff.mp h).1; simpa using this
          rw [List.getElem?_set_self this] at h
          cases h
          exact .inl ⟨by simp, rfl⟩
        · rw [List.getElem?_set_ne hj] at h
          rcases ih h with ⟨a, b⟩ | ⟨a, b⟩
          · exact .inl ⟨by simp [a], b⟩
          · exact .inr ⟨by simp [a, Ne.symm hj], b⟩
    rcases key own hx with ⟨_, rfl⟩ | ⟨ho, hx⟩
    · exact .inl rfl
    · refine .inr ⟨by rw [id, get_app]; exact hx, ?_⟩
      rw [id, getD_app hl, getD_app hl, List.getD_eq_getElem?_getD, List.getD_eq_getElem?_getD, h m ho]
theorem wipe_eq {sg sg' : L2.St} {own : List Nat} (hl : sg'.length = sg.length) (h : ∀ j, j ∉ own → sg'[j]? = sg[j]?) : wipe sg' own = wipe sg own := by
  apply List.ext_getElem?
  intro j
  by_cases hj : j ∈ own
  · have key : ∀ (s : L2.St) (own : List Nat), j ∈ own → (wipe s own)[j]? = if j < s.length then some none else none := by
      intro s own
      induction own with
      | nil => intro h; cases h
      | cons i is ih =>
        intro h
        show ((wipe s is).set i none)[j]? = _
        by_cases hi : i = j
        · subst hi
          rw [List.getElem?_set]
          simp [wipe_length]
        · rw [List.getElem?_set_ne hi]
          exact ih ((List.mem_cons.mp h).resolve_left (Ne.symm hi))
    rw [key _ _ hj, key _ _ hj, hl]
  · rw [wipe_out hj, wipe_out hj, h j hj]
/-- an item goes to the end of the list on top -/
theorem EnvG.app {G H : Hp} {vs : List (Option V)} {its : List TL.It} {i : Nat} {p : Addr} {nw : Bool} {ds : List D} {xs : List V} {y : V} {d : D} (E : EnvG G0 G H vs its) (hi : its[i]? = some (.ow p nw (.seq false ds))) (hx : H p = some (.lst xs)) (ry : Rep (nwP G0 nw) G y d) :
    EnvG G0 G (upd H p (.lst (xs ++ [y]))) vs (its.set i (.ow p nw (.seq false (ds ++ [d])))) := by
  have X := E.ok i _ hi
  obtain ⟨e1, us, e2, e3⟩ := X
  rw [hx] at e2
  cases e2
  have o := E.out i _ p hi (by simp [It.reg])
  have ne : ∀ a u, G a = some u → a ≠ p := fun a u e z => by rw [z, o.1] at e; cases e
  refine E.put hi (Le.refl _) (fun a u e => by rw [upd_ne (ne a u e)]; exact E.le _ _ e) (fun a us e => ?_) (fun a u hr e => ?_) (fun a h1 h2 => by rw [h1] at h2; cases h2) ⟨e1, _, upd_same, e3.append (.cons ry .nil)⟩ fun a hr => ?_
  · by_cases ha : a = p
    · subst ha; rw [upd_same] at e; cases e
    · rw [upd_ne ha] at e; exact E.tp _ _ e
  · have : a ≠ p := by rintro rfl; simp [It.reg] at hr
    rw [upd_ne this]; exact e
  · have : a = p := by simpa [It.reg] using hr
    subst this
    exact ⟨.inr (by simp [It.reg]), o.1, by rw [upd_same]; rfl⟩
theorem lc_core_ {g : TG} {tg : TDG} {own : List Nat} (hg : SndG G0 own g tg) (ht : SndT G0 tt s) (he : SndE G0 te t) {vs : List (Option V)} {ka : List TL.It} {sg : L2.St} {H1 : Hp} {r1 : Rho} {J : L2.It} {ys : List TL.It} {P : TL.It → Rho → Prop} {Q : VK}
    (hl2 : vs.length = ka.length) (E1 : Env G0 H1 (vs ++ sg) (ka ++ r1)) (Y : Yields G0 vs ka J ys) (hp : lcB tg s t own P ys r1)
    (k : ∀ Dl H2 x r2, r2.length = r1.length → Env G0 H2 (some (V.ref Dl) :: (vs ++ sg)) (x :: (ka ++ r2)) → P x r2 → Q (.ref Dl) H2) :
    ∀ Dl, H1 Dl = none → ∃ W : Nat → Nat → Hp → Prop, (∃ m, W 0 m (upd H1 Dl (.lst []))) ∧ ∀ i m H, W i m H →
      (J.stop i H ∧ Q (.ref Dl) H) ∨ (J.go i H ∧ ∃ Nx : Hp → Prop, (∀ H', Nx H' → ∃ m', m' < m ∧ W (i + 1) m' H') ∧ ∀ x H', J.yld i H x H' → g x (wipe sg own) H' fun σ2 H2 => wipe σ2 own = wipe sg own ∧ tt σ2 H2 fun b H3 =>
        if b = true then te σ2 H3 fun y H4 => ∃ acc, H4 Dl = some (.lst acc) ∧ acc.length < sizeLine ∧ Nx (upd H4 Dl (.lst (acc ++ [y]))) else Nx H3) := by
  obtain ⟨hz, nw, I, i0, step, fin⟩ := hp
  intro Dl hD
  -- what holds between the turns
  let W := fun (i : Nat) (H : Hp) => ∃ r acc, acc.length ≤ i ∧ r.length = r1.length ∧ Env G0 H (some (.ref Dl) :: (vs ++ sg)) (.ow Dl nw (.seq false acc) :: (ka ++ r)) ∧ wR own r = r ∧ I i acc r
  have wRR : ∀ r, wR own (wR own r) = wR own r := by
    intro r
    apply List.ext_getElem?
    intro j
    have key : ∀ (own : List Nat) (q : Rho), (wR own q)[j]? = if j ∈ own then (if j < q.length then some .no else none) else q[j]? := by
      intro own q
      induction own with
      | nil => simp [wR]
      | cons i is ih =>
        show ((wR is q).set i .no)[j]? = _
        by_cases hi : i = j
        · subst hi; rw [List.getElem?_set]; simp [wR_length]
        · rw [List.getElem?_set_ne hi, ih]; simp [Ne.symm hi]
    rw [key own (wR own r), key own r, wR_length]
    split <;> rfl
  refine ⟨fun i m H => m = ys.length - i ∧ i ≤ ys.length ∧ W i H, ⟨_, rfl, Nat.zero_le _, wR own r1, [], Nat.le_refl _, wR_length _ _, ?_, wRR _, i0⟩, ?_⟩
  · obtain ⟨G, E1⟩ := E1
    have E2 := E1.weak own (sg' := sg) hl2 rfl (fun _ _ => rfl)
    exact ⟨G, E2.pushOw (nw := nw) (d := .seq false []) hD rfl ⟨[], upd_same, .nil⟩⟩
  rintro i m H2 ⟨rfl, hi', r2, acc, ha, l2, E2, hw, p2⟩
  obtain ⟨y1, y2⟩ := Y i [some (.ref Dl)] [.ow Dl nw (.seq false acc)] sg H2 r2 rfl E2
  by_cases hlt : i < ys.length
  · have hx : ys[i]? = some ys[i] := List.getElem?_eq_getElem hlt
    obtain ⟨go, yl⟩ := y1 _ hx
    refine .inr ⟨go, W (i + 1), fun H3 w3 => ⟨ys.length - (i + 1), by omega, rfl, hlt, w3⟩, fun v H3 yv => ?_⟩
    have hl4 : (some (V.ref Dl) :: vs).length = (TL.It.ow Dl nw (.seq false acc) :: ka).length := by simp [hl2]
    obtain ⟨G3, E3⟩ := yl v H3 yv
    have E3w := EnvG.weak (vs := some v :: some (V.ref Dl) :: vs) (ka := ys[i] :: .ow Dl nw (.seq false acc) :: ka) own (sg' := wipe sg own) E3 (by simp [hl2]) (wipe_length _ _) fun j hj => wipe_out hj
    refine hg (some (V.ref Dl) :: vs) (.ow Dl nw (.seq false acc) :: ka) (wipe sg own) H3 (wR own r2) v _ _ _ hl4 ⟨G3, E3w⟩ (step i _ acc r2 hx ha p2) fun sg' r3 l3 out3 ls3 E4 h4 => ?_
    have same : ∀ j, j ∉ own → sg'[j]? = sg[j]? := fun j hj => (out3 j hj).trans (wipe_out hj)
    have lsg : sg'.length = sg.length := ls3.trans (wipe_length _ _)
    refine ⟨wipe_eq lsg same, ?_⟩
    refine ht _ _ sg' H3 r3 _ _ hl4 E4 h4 fun b H4 r4 l4 E5 h5 => ?_
    have back : ∀ (H : Hp) (acc : List D) (r : Rho), r.length = r4.length → Env G0 H (some (V.ref Dl) :: (vs ++ sg')) (.ow Dl nw (.seq false acc) :: (ka ++ r)) → acc.length ≤ i + 1 → I (i + 1) acc (wR own r) → W (i + 1) H := fun H acc r lr' E la hI => by
      obtain ⟨G, E⟩ := E
      have E' := EnvG.weak (vs := some (V.ref Dl) :: vs) (ka := .ow Dl nw (.seq false acc) :: ka) own (sg' := sg) E (by simp [hl2]) lsg.symm fun j hj => (same j hj).symm
      exact ⟨wR own r, acc, la, by rw [wR_length, lr', l4, l3, wR_length, l2], ⟨G, E'⟩, wRR _, hI⟩
    cases b with
    | false =>
      rw [if_neg Bool.false_ne_true]
      exact back H4 acc r4 rfl E5 (by omega) (h5.2 rfl)
    | true =>
      rw [if_pos rfl]
      refine he _ _ sg' H4 r4 _ _ hl4 E5 (h5.1 rfl) fun y H5 x5 r5 l5 E6 h6 => ?_
      obtain ⟨n, d, hv, hn, hI⟩ := h6
      have E6 := E6.freeze0 hv
      obtain ⟨G, E6⟩ := E6
      have ry : Rep (nwP G0 nw) G y d := (fz_val E6).imp fun a f e => f (hn e)
      have okD := E6.ok 1 _ (by simp; rfl)
      obtain ⟨_, us, e2, e3⟩ := okD
      refine ⟨us, e2, ?_, ?_⟩
      · rw [e3.length]; omega
      · have E7 := (E6.app (i := 1) (by simp; rfl) e2 ry).tail
        exact back _ (acc ++ [d]) r5 l5 ⟨G, E7⟩ (by simp; omega) hI
  · have e : i = ys.length := by omega
    subst e
    refine .inl ⟨y2 (Nat.le_refl _), ?_⟩
    refine k Dl H2 _ r2 l2 ?_ (by rw [← hw]; exact fin acc r2 ha p2 Dl)
    exact E2
theorem snd_lc {wi : TI} {ti : TDI} {g : TG} {tg : TDG} {own : List Nat} (hi : SndI G0 wi ti) (hg : SndG G0 own g tg) (ht : SndT G0 tt s) (he : SndE G0 te t) : SndE G0 (tLc wi g tt te own) (tdLc ti tg s t own) := by
  intro vs ka sg H r P Q hl E hp k
  refine hi vs ka sg H r _ _ hl E hp fun vs' ka' J H1 ys r1 hl' lr E1 Y hp => ?_
  exact lc_core_ hg ht he (by simp [hl, hl']) E1 Y hp fun Dl H2 x r2 l2 E2 h2 => k _ H2 x r2 (l2.trans lr) (Env.dropMid hl' E2) h2
end
end TL
namespace TL
open PySem PySem.Spec PyProof.Rows L2
section
variable {X : Cx} {tg : Expr}
def iSeq (K : PySem.W.Frag) (tl : TE) : TI := fun σ H R => tl σ H fun x H1 => ∃ a, x = .ref a ∧ (((∃ xs, SqL K H1 a xs) ∧ R (Itl K a) H1) ∨ ((∃ xs, SqT K H1 a xs) ∧ R (Itt K a) H1))
theorem pi_seq {l : Expr} {tl : TE} (hl : PE X l tl) : PI X tg l (iSeq X.K tl) := by
  refine ⟨fun pins s σ H R I h => ?_⟩
  refine thn (hl.run pins s σ H _ I h) fun v s1 ⟨x, H1, I1, r1, q1⟩ => ?_
  obtain ⟨a, e, q1⟩ := q1
  subst e
  cases r1
  have new : ∀ b ∈ [s1.heap.objs.size], FpOk X pins H1 b := fun b hb => by
    have e : b = s1.heap.objs.size := by simpa using hb
    subst e
    exact I1.fpOk (Nat.le_refl _) (I1.hok.fresh (Nat.le_refl _))
  rcases q1 with ⟨⟨xs, hq⟩, q⟩ | ⟨⟨xs, hq⟩, q⟩
  · obtain ⟨its, rv, p, hz⟩ := I1.list hq
    refine wpAny_pyIter_list p.isList ?_
    exact ⟨s1.heap.objs.size, [s1.heap.objs.size], _, _, H1, rfl, I1.kept (t' := s1.toks) fun b o e => Heap.get?_push_of_some _ e, turn_list a _, ⟨_, Heap.get?_push_size _ rfl, rfl, rfl⟩, new, q⟩
  · obtain ⟨its, rv, p, hz⟩ := I1.tuple hq
    refine wpAny_pyIter_tuple (show s1.heap.IsTuple a its.toArray from p) ?_
    exact ⟨s1.heap.objs.size, [s1.heap.objs.size], _, _, H1, rfl, I1.kept (t' := s1.toks) fun b o e => Heap.get?_push_of_some _ e, turn_tuple a _, ⟨_, Heap.get?_push_size _ rfl, rfl, rfl⟩, new, q⟩
def rInA (K : PySem.W.Frag) (neg : Bool) : R2 := fun x y H Q => rIn K neg x y H Q ∨ (∃ a o, y = .ref a ∧ DGet H a x o ∧ Q (.bl (if neg then !o.isSome else o.isSome)) H)
theorem op_notInA (hu : X.A.units + 1 < cLine) : OpR X (compareOp .NotIn) (rInA X.K true) := by
  intro pins s σ H x y v u Q I rx ry h
  rcases h with h | ⟨a, o, rfl, g, q⟩
  · exact op_notIn_seq pins s σ H x y v u Q I rx ry h
  · obtain rfl : u = Value.ref a := ry
    exact d_notIn hu I g rx fun s' I' => ⟨.bl (!o.isSome), H, I', rfl, q⟩
def rIxA (K : PySem.W.Frag) : R2 := fun x y H Q => rIx K x y H Q ∨ (∃ a v, x = .ref a ∧ DGet H a y (some v) ∧ Q v H)
theorem ix_any (hu : X.A.units + 1 < cLine) : IxR X (rIxA X.K) := by
  intro value slice pins s σ H x y v u Q I rx ry h hs
  rcases h with h | ⟨a, w, rfl, g, q⟩
  · exact ix_seq value slice pins s σ H x y v u Q I rx ry h hs
  · obtain rfl : v = Value.ref a := rx
    exact tail_any (dict_typeIs I g) PySem.F.slot_dict_getitem.lookup (d_getItem hu I g ry fun w' s3 I3 rw' => ⟨w, H, I3, rw', q⟩) hs
end
section
variable {G0 : Bs} {te ta tb tc : TE} {t u : TDE} {toa tob toc : TDO} {tt : TT} {s : TDT} {ts tu : TS} {ds du : TDS} {al : TA} {tal : TDA} {K : PySem.W.Frag}
/-- the place of a key -/
def ixOf {κ : Type} [DecidableEq κ] (k : κ) : List κ → Option Nat
  | [] => none
  | x :: xs => if x = k then some 0 else (ixOf k xs).map (· + 1)
/-- xs[i]: a place from 0 on or from the end; a key -/
def CIx : D → D → D → Prop
  | .seq _ xs, .int i, d => atI xs i = some d
  | .str z, .int i, d => z.length ≤ sizeLine ∧ ∃ c, atI z.cps.toList i = some c ∧ d = .str ⟨#[c]⟩
  | .dk ks vs, .int i, d => ∃ j, ixOf (Sum.inl i) ks = some j ∧ vs[j]? = some d
  | .dk ks vs, .str x, d => ∃ j, ixOf (Sum.inr x) ks = some j ∧ vs[j]? = some d
  | _, _, _ => False
theorem paired_getV {α β : Type} {R : α → β → Prop} : ∀ {vs : List α} {ds : List β}, Paired R vs ds → ∀ {i : Nat} {d : β}, ds[i]? = some d → ∃ v, vs[i]? = some v ∧ R v d
  | _, _, .nil, _, _, h => by simp at h
  | _, _, .cons r t, 0, _, h => by simp at h; subst h; exact ⟨_, rfl, r⟩
  | _, _, .cons r t, i + 1, _, h => by
    obtain ⟨v, h1, h2⟩ := paired_getV t (i := i) (by simpa using h)
    exact ⟨v, by simpa using h1, h2⟩
theorem paired_atI {α β : Type} {R : α → β → Prop} {vs : List α} {ds : List β} (p : Paired R vs ds) {i : Int} {d : β} (h : atI ds i = some d) : ∃ v, atI vs i = some v ∧ R v d := by
  unfold atI at h ⊢
  rw [p.length]
  cases q : ixN ds.length i with
  | none => rw [q] at h; cases h
  | some j => rw [q] at h; exact paired_getV p h
/-- a key's place -/
theorem valV_idx {κ : Type} [DecidableEq κ] (k : κ) : ∀ (kvs : List (κ × V)), valV kvs k = (ixOf k (kvs.map (·.1))).bind fun j => (kvs.map (·.2))[j]?
  | [] => by simp [valV, ixOf]
  | (k', v) :: r => by
    by_cases h : k' = k
    · subst h
      rw [valV_pos rfl]
      simp [ixOf]
    · rw [valV_neg h, valV_idx k r]
      simp only [List.map_cons, ixOf, h, if_false]
      cases ixOf k (List.map (fun x => x.1) r) <;> simp
theorem op_ixA : Op2C (rIxA K) CIx := by
  intro R H x y dx dy d Q hf sx sy c k
  cases dx with
  | seq tt xs =>
    cases dy with
    | int i =>
      have c : atI xs i = some d := c
      have ey : y = .int i := by have : (D.int i).flat = some y := sy; cases this; rfl
      subst ey
      cases tt with
      | false =>
        obtain ⟨a, vs, rfl, h, p⟩ := sx
        obtain ⟨v, h1, h2⟩ := paired_atI p c
        exact .inl (.inl ⟨a, vs, i, v, rfl, rfl, SqL.of h, h1, k v h2⟩)
      | true =>
        obtain ⟨a, vs, rfl, h, p⟩ := sx
        obtain ⟨v, h1, h2⟩ := paired_atI p c
        exact .inl (.inr (.inl ⟨a, vs, i, v, rfl, rfl, SqT.of h, h1, k v h2⟩))
    | _ => exact c.elim
  | str z =>
    cases dy with
    | int i =>
      obtain ⟨hz, cc, c1, rfl⟩ := c
      have ey : y = .int i := by have : (D.int i).flat = some y := sy; cases this; rfl
      have ex : x = .str z := by have : (D.str z).flat = some x := sx; cases this; rfl
      subst ey; subst ex
      exact .inl (.inr (.inr ⟨z, i, cc, rfl, rfl, hz, c1, k _ ((hf _ _ rfl _).mpr rfl)⟩))
    | _ => exact c.elim
  | dk ks ws =>
    obtain ⟨a, kvs, rfl, h, e, p⟩ := sx
    cases dy with
    | int i =>
      obtain ⟨j, c1, c2⟩ := c
      have ey : y = .int i := by have : (D.int i).flat = some y := sy; cases this; rfl
      subst ey; subst e
      obtain ⟨v, h1, h2⟩ := paired_getV p c2
      refine .inr ⟨a, v, rfl, .inl ⟨kvs, Sum.inl i, h, rfl, ?_⟩, k v h2⟩
      rw [valV_idx, c1]; exact h1.symm
    | str z =>
      obtain ⟨j, c1, c2⟩ := c
      have ey : y = .str z := by have : (D.str z).flat = some y := sy; cases this; rfl
      subst ey; subst e
      obtain ⟨v, h1, h2⟩ := paired_getV p c2
      refine .inr ⟨a, v, rfl, .inl ⟨kvs, Sum.inr z, h, rfl, ?_⟩, k v h2⟩
      rw [valV_idx, c1]; exact h1.symm
    | _ => exact c.elim
  | _ => cases dy <;> exact c.elim
theorem snd_ix (ha : SndO G0 ta toa) (hb : SndO G0 tb tob) : SndE G0 (tOp (rIxA K) ta tb) (tdC2 CIx toa tob) := snd_C2 op_ixA ha hb
/-- x in y: flat things in a sequence; a key in a dict -/
def D.keyI : D → Option Key
  | .int i => some (.inl i)
  | .str x => some (.inr x)
  | _ => none
def D.keyT : D → Option (List Key)
  | .seq true ds => ds.mapM D.keyI
  | _ => none
def flatD (d : D) : Bool := d.flat.isSome
def eqF (a b : D) : Bool := match a.flat, b.flat with
  | some x, some y => eqV x y
  | _, _ => false
/-- whether a key is there -/
def hasK {κ : Type} [DecidableEq κ] (k : κ) (ks : List κ) : Bool := ks.any fun x => decide (x = k)
def inD (x : D) : D → Option Bool
  | .seq _ xs => if flatD x = true ∧ xs.all flatD = true then some (xs.any fun y => eqF y x) else none
  | .dk ks _ => x.keyI.map fun k => hasK k ks
  | .dt ks _ => x.keyT.map fun k => hasK k ks
  | _ => none
theorem keyI_rep {phi : Addr → Prop} {H : Hp} {v : V} {d : D} {k : Key} (r : Rep phi H v d) (h : d.keyI = some k) : v = kV k := by
  cases d <;> simp [D.keyI] at h
  · subst h; exact r.flat rfl
  · subst h; exact r.flat rfl
theorem keyT_rep {phi : Addr → Prop} {H : Hp} : ∀ {vs : List V} {ds : List D} {ks : List Key}, RepL phi H vs ds → ds.mapM D.keyI = some ks → vs = ks.map kV
  | _, _, ks, .nil, h => by simp at h; subst h; rfl
  | _, _, ks, .cons (d := d) (ds := ds) r t, h => by
    rw [List.mapM_cons] at h
    cases q1 : d.keyI with
    | none => rw [q1] at h; simp at h
    | some k =>
      cases q2 : ds.mapM D.keyI with
      | none => rw [q1, q2] at h; simp at h
      | some l =>
        rw [q1, q2] at h
        simp at h
        subst h
        rw [keyI_rep r q1, keyT_rep t q2]; rfl
theorem valV_some {κ : Type} [DecidableEq κ] (k : κ) (kvs : List (κ × V)) : (valV kvs k).isSome = hasK k (kvs.map (·.1)) := by
  rw [← valV_any]
  unfold hasK
  rw [List.any_map]
  rfl
theorem dget_of {phi : Addr → Prop} {H : Hp} {a : Addr} {x : V} {dx dy : D} {b : Bool} (rx : Rep phi H x dx) (ry : Rep phi H (.ref a) dy) (hn : ∀ t xs, dy ≠ .seq t xs) (h : inD dx dy = some b) : ∃ o, DGet H a x o ∧ o.isSome = b := by
  cases dy with
  | seq t xs => exact absurd rfl (hn t xs)
  | dk ks vs =>
    cases ry with
    | dk h1 h2 h3 h4 =>
      rename_i kvs
      simp only [inD] at h
      cases q : dx.keyI with
      | none => rw [q] at h; cases h
      | some k =>
        rw [q] at h
        refine ⟨valV kvs k, .inl ⟨kvs, k, h1, keyI_rep rx q, rfl⟩, ?_⟩
        rw [valV_some, h3]
        simpa using h
  | dt ks vs =>
    cases ry with
    | dt h1 h2 h3 h4 =>
      rename_i kvs
      simp only [inD] at h
      cases q : dx.keyT with
      | none => rw [q] at h; cases h
      | some k =>
        rw [q] at h
        cases dx with
        | seq t es =>
          cases t with
          | false => cases q
          | true =>
            cases rx with
            | tup hx rr =>
              have e := keyT_rep rr q
              subst e
              refine ⟨valV kvs k, .inr ⟨kvs, k, _, h1, rfl, hx, rfl⟩, ?_⟩
              rw [valV_some, h3]
              simpa using h
        | _ => cases q
  | _ => simp [inD] at h
theorem flat_V {phi : Addr → Prop} {H : Hp} {v : V} {d : D} (r : Rep phi H v d) (h : flatD d = true) : d.flat = some v ∧ flatV v = true := by
  cases r <;> simp_all [flatD, D.flat, flatV]
theorem any_eq {phi : Addr → Prop} {H : Hp} {x : V} {dx : D} (hx : dx.flat = some x) : ∀ {vs : List V} {ds : List D}, RepL phi H vs ds → ds.all flatD = true → vs.all flatV = true ∧ inV x vs = ds.any fun y => eqF y dx
  | _, _, .nil, _ => ⟨rfl, rfl⟩
  | _, _, .cons (v := v) (vs := vs) (d := d) r t, h => by
    rw [List.all_cons, Bool.and_eq_true] at h
    obtain ⟨f1, f2⟩ := flat_V r h.1
    obtain ⟨i1, i2⟩ := any_eq hx t h.2
    refine ⟨by rw [List.all_cons, f2, i1]; rfl, ?_⟩
    show (eqV v x || inV x vs) = _
    rw [List.any_cons, i2]
    congr 1
    simp [eqF, f1, hx]
def tdIn (neg : Bool) (toa tob : TDO) : TDE := fun r P => toa r fun x r1 => tob r1 fun y r2 => ∃ dx dy b, x.dat r2 = some dx ∧ y.dat r2 = some dy ∧ inD dx dy = some b ∧ P (.fz true (.bl (if neg then !b else b))) r2
theorem snd_in {neg : Bool} (ha : SndO G0 ta toa) (hb : SndO G0 tb tob) : SndE G0 (tOp (rInA K neg) ta tb) (tdIn neg toa tob) := by
  intro vs ka sg H r P Q hl E hp k
  refine two (Q := Q) ha hb hl E hp fun x y ox oy H2 r2 G l E2 ix iy h2 => ?_
  obtain ⟨dx, dy, b, e1, e2, c, h3⟩ := h2
  have rx := dat_rep E2 ix e1
  have ry := dat_rep E2 iy e2
  have fin : ∀ b' : Bool, b' = b → Q (.bl (if neg = true then !b' else b')) H2 := fun b' e => by
    subst e
    exact k _ H2 _ r2 l ⟨G, E2.tail.tail.pushFlat rfl⟩ h3
  by_cases hs : ∃ t xs, dy = .seq t xs
  · obtain ⟨t, xs, rfl⟩ := hs
    simp only [inD] at c
    by_cases cc : flatD dx = true ∧ xs.all flatD = true
    · rw [if_pos cc] at c
      cases c
      obtain ⟨f1, f2⟩ := flat_V rx cc.1
      left
      cases ry with
      | lst h p q =>
        obtain ⟨g1, g2⟩ := any_eq f1 q cc.2
        exact ⟨_, _, rfl, .inl (SqL.of h), f2, g1, fin _ g2⟩
      | tup h q =>
        obtain ⟨g1, g2⟩ := any_eq f1 q cc.2
        exact ⟨_, _, rfl, .inr (SqT.of h), f2, g1, fin _ g2⟩
    · rw [if_neg cc] at c; cases c
  · right
    have ey : ∃ a, y = .ref a := by
      cases dy <;> simp [inD] at c
      · exact absurd ⟨_, _, rfl⟩ hs
      · cases ry; exact ⟨_, rfl⟩
      · cases ry; exact ⟨_, rfl⟩
    obtain ⟨a, rfl⟩ := ey
    obtain ⟨o, g1, g2⟩ := dget_of rx ry (fun t xs e => hs ⟨t, xs, e⟩) c
    exact ⟨a, o, rfl, g1, fin _ g2⟩
abbrev TDF := Rho → (Bool → List D → Rho → Prop) → Prop
def SndF (G0 : Bs) (ta : TA) (t : TDF) : Prop :=
  ∀ (vs : List (Option V)) (ka : List TL.It) (sg : L2.St) (H : Hp) (r : Rho) (P : Bool → List D → Rho → Prop) (Q : List V → Hp → Prop), vs.length = ka.length → Env G0 H (vs ++ sg) (ka ++ r) → t r P →
    (∀ ws H' nw es r' G, r'.length = r.length → EnvG G0 G H' (vs ++ sg) (ka ++ r') → RepL (nwP G0 nw) G ws es → P nw es r' → Q ws H') → ta sg H Q
def tfNil : TDF := fun r P => P true [] r
def tfCons (t : TDE) (f : TDF) : TDF := fun r P => t r fun x r1 => ∃ n d, x.view = some (n, d) ∧ f r1 fun m es r2 => P (n && m) (d :: es) r2
theorem snf_nil : SndF G0 tNil tfNil := by
  intro vs ka sg H r P Q hl E hp k
  obtain ⟨G, E⟩ := E
  exact k [] H true [] r G rfl E .nil hp
theorem nw_l {G : Hp} {n m : Bool} {v : V} {d : D} (r : Rep (nwP G0 n) G v d) : Rep (nwP G0 (n && m)) G v d := r.imp fun a f e => f (Bool.and_eq_true_iff.mp e).1
theorem nw_r {G : Hp} {n m : Bool} {v : List V} {d : List D} (r : RepL (nwP G0 m) G v d) : RepL (nwP G0 (n && m)) G v d := r.imp fun a f e => f (Bool.and_eq_true_iff.mp e).2
theorem snf_cons {f : TDF} (ha : SndE G0 ta t) (hr : SndF G0 al f) : SndF G0 (tCons ta al) (tfCons t f) := by
  intro vs ka sg H r P Q hl E hp k
  refine ha vs ka sg H r _ _ hl E hp fun v H1 x r1 l1 E1 h1 => ?_
  obtain ⟨n, d, hv, h1⟩ := h1
  refine hr (some v :: vs) (.fz n d :: ka) sg H1 r1 _ _ (by simp [hl]) (E1.freeze0 hv) h1 fun ws H2 m es r2 G l2 E2 p2 h2 => ?_
  exact k (v :: ws) H2 (n && m) (d :: es) r2 G (l2.trans l1) E2.tail (.cons (nw_l (fz_val E2)) (nw_r p2)) h2
def tdLst (f : TDF) : TDE := fun r P => f r fun nw es r1 => es.length ≤ sizeLine ∧ ∀ p, P (.ow p nw (.seq false es)) r1
theorem snd_lst {f : TDF} (ha : SndF G0 al f) : SndE G0 (tLst al) (tdLst f) := by
  intro vs ka sg H r P Q hl E hp k
  refine ha vs ka sg H r _ _ hl E hp fun ws H' nw es r' G l E' p h' => ⟨by rw [p.length]; exact h'.1, fun a ha => ?_⟩
  exact k _ _ _ r' l ⟨G, E'.pushOw (nw := nw) (d := .seq false es) ha rfl ⟨ws, upd_same, p⟩⟩ (h'.2 a)
def tdTup (f : TDF) : TDE := fun r P => f r fun nw es r1 => es.length ≤ sizeLine ∧ P (.fz nw (.seq true es)) r1
theorem snd_tup {f : TDF} (ha : SndF G0 al f) : SndE G0 (tTup al) (tdTup f) := by
  intro vs ka sg H r P Q hl E hp k
  refine ha vs ka sg H r _ _ hl E hp fun ws H' nw es r' G l E' p h' => ⟨by rw [p.length]; exact h'.1, fun a ha => ?_⟩
  exact k _ _ _ r' l ⟨_, E'.pushTup ha p⟩ h'.2
/-- {} -/
def tdDictK : TDE := fun r P => ∀ p, P (.ow p true (.dk [] [])) r
theorem snd_dictK : SndE G0 tDNewK tdDictK := by
  intro vs ka sg H r P Q hl E hp k
  obtain ⟨G, E⟩ := E
  intro p hp'
  exact k _ _ _ r rfl ⟨G, E.pushOw (nw := true) (d := .dk [] []) hp' rfl ⟨[], upd_same, rfl, .nil⟩⟩ (hp p)
def tdDictT : TDE := fun r P => ∀ p, P (.ow p true (.dt [] [])) r
theorem snd_dictT : SndE G0 tDNewT tdDictT := by
  intro vs ka sg H r P Q hl E hp k
  obtain ⟨G, E⟩ := E
  intro p hp'
  exact k _ _ _ r rfl ⟨G, E.pushOw (nw := true) (d := .dt [] []) hp' rfl ⟨[], upd_same, rfl, .nil⟩⟩ (hp p)
def tdSeqI (t : TDE) : TDI := fun r P => t r fun x r1 => ∃ nw b ds, x.cview = some (nw, .seq b ds) ∧ P (ds.map fun d => .fz (nw || isFlat d) d) r1
theorem cv_sh {G H : Hp} {vs vf : List (Option V)} {ka kf : List TL.It} {v : V} {x : TL.It} {nw : Bool} {d : D} (E : EnvG G0 G H (vf ++ (some v :: vs)) (kf ++ (x :: ka))) (hl : vf.length = kf.length) (e : x.cview = some (nw, d)) : Sh (Rep (nwP G0 nw) G) H v d := by
  have X := E.itx (i := kf.length) (x := x) (by rw [List.getElem?_append_right (Nat.le_refl _)]; simp)
  have e2 : (vf ++ (some v :: vs)).getD kf.length none = some v := by rw [← hl]; simp [List.getD]
  rw [e2] at X
  exact X.sh E.le e
theorem sni_seq (h : SndE G0 te t) : SndI G0 (iSeq K te) (tdSeqI t) := by
  intro vs ka sg H r P R hl E hp k
  refine h vs ka sg H r _ _ hl E hp fun v H1 x r1 l1 E1 h1 => ?_
  obtain ⟨nw, b, ds, hv, h1⟩ := h1
  have Y : ∀ a, v = .ref a → Yields G0 ([some v] ++ vs) ([x] ++ ka) (if b = true then Itt K a else Itl K a) (ds.map fun d => .fz (nw || isFlat d) d) := by
    intro a ea j vf kf sg2 H2 r2 hf E2
    obtain ⟨G, E2⟩ := E2
    have sh := cv_sh (vs := vs ++ sg2) (ka := ka ++ r2) E2 hf hv
    cases b with
    | false =>
      obtain ⟨a', ws, e1, e2, p⟩ := sh
      rw [ea] at e1; cases e1
      refine ⟨fun y hy => ?_, fun hle => ⟨ws, SqL.of e2, by rw [p.length]; simpa using hle⟩⟩
      rw [List.getElem?_map] at hy
      cases q : ds[j]? with
      | none => rw [q] at hy; cases hy
      | some d =>
        rw [q] at hy; cases hy
        obtain ⟨w, h2, h3⟩ := paired_getV p q
        refine ⟨⟨ws, w, SqL.of e2, h2⟩, fun u H3 yl => ?_⟩
        obtain ⟨rfl, f⟩ := yl
        have := f ws (SqL.of e2)
        rw [h2] at this; cases this
        exact ⟨G, E2.pushFz h3.nwFlat⟩
    | true =>
      obtain ⟨a', ws, e1, e2, p⟩ := sh
      rw [ea] at e1; cases e1
      refine ⟨fun y hy => ?_, fun hle => ⟨ws, SqT.of e2, by rw [p.length]; simpa using hle⟩⟩
      rw [List.getElem?_map] at hy
      cases q : ds[j]? with
      | none => rw [q] at hy; cases hy
      | some d =>
        rw [q] at hy; cases hy
        obtain ⟨w, h2, h3⟩ := paired_getV p q
        refine ⟨⟨ws, w, SqT.of e2, h2⟩, fun u H3 yl => ?_⟩
        obtain ⟨rfl, f⟩ := yl
        have := f ws (SqT.of e2)
        rw [h2] at this; cases this
        exact ⟨G, E2.pushFz h3.nwFlat⟩
  obtain ⟨G, E1⟩ := id E1
  have sh := cv_sh (vf := []) (kf := []) (vs := vs ++ sg) (ka := ka ++ r1) E1 rfl hv
  cases b with
  | false =>
    obtain ⟨a, ws, e1, e2, p⟩ := sh
    subst e1
    exact ⟨a, rfl, .inl ⟨⟨ws, SqL.of e2⟩, k [some (.ref a)] [x] _ H1 _ r1 rfl l1 ⟨G, E1⟩ (Y a rfl) h1⟩⟩
  | true =>
    obtain ⟨a, ws, e1, e2, p⟩ := sh
    subst e1
    exact ⟨a, rfl, .inr ⟨⟨ws, SqT.of e2⟩, k [some (.ref a)] [x] _ H1 _ r1 rfl l1 ⟨G, E1⟩ (Y a rfl) h1⟩⟩
/-- range -/
def tdRng1 (tal : TDA) : TDI := fun r P => tal r fun os r1 => ∃ n, dats r1 os = some [.int n] ∧ (-(2 ^ 62) ≤ n ∧ n < 2 ^ 62) ∧ P ((List.range n.toNat).map fun i => .fz true (.int (i : Nat))) r1
theorem yields_rng {vs : List (Option V)} {ka : List TL.It} (lo : Int) (n : Nat) : Yields G0 vs ka (Itr lo n) ((List.range n).map fun i => .fz true (.int (lo + (i : Nat)))) := by
  intro j vf kf sg2 H2 r2 hf E2
  refine ⟨fun y hy => ?_, fun hle => (show n ≤ j by simpa using hle)⟩
  rw [List.getElem?_map] at hy
  by_cases hj : j < n
  · rw [List.getElem?_range hj] at hy
    cases hy
    refine ⟨hj, fun u H3 yl => ?_⟩
    obtain ⟨rfl, rfl⟩ := yl
    obtain ⟨G, E2⟩ := E2
    exact ⟨G, E2.pushFlat rfl⟩
  · rw [List.getElem?_eq_none (by simpa using hj)] at hy
    cases hy
theorem rep1 {H : Hp} {ws : List V} {d : D} {phi : Addr → Prop} (r : RepL phi H ws [d]) : ∃ w, ws = [w] ∧ Rep phi H w d := by
  cases r with
  | cons a t => cases t; exact ⟨_, rfl, a⟩
theorem rep2 {H : Hp} {ws : List V} {d e : D} {phi : Addr → Prop} (r : RepL phi H ws [d, e]) : ∃ w u, ws = [w, u] ∧ Rep phi H w d ∧ Rep phi H u e := by
  cases r with
  | cons a t => obtain ⟨u, rfl, b⟩ := rep1 t; exact ⟨_, _, rfl, a, b⟩
theorem sni_rng1 (h : SndA G0 al tal) : SndI G0 (iRng1 al) (tdRng1 tal) := by
  intro vs ka sg H r P R hl E hp k
  refine h vs ka sg H r _ _ hl E hp fun ws H' os r' G l E' p _ h' => ?_
  obtain ⟨n, e1, ⟨b1, b2⟩, h3⟩ := h'
  obtain ⟨w, rfl, rw'⟩ := rep1 (dats_rep E' p e1)
  refine ⟨n, by rw [rep_int rw'], b1, b2, ?_⟩
  have Y := yields_rng (G0 := G0) (vs := [] ++ vs) (ka := [] ++ ka) 0 n.toNat
  have e : ((List.range n.toNat).map fun i => TL.It.fz true (.int ((0 : Int) + (i : Nat)))) = (List.range n.toNat).map fun i => TL.It.fz true (.int (i : Nat)) := by simp
  rw [e] at Y
  exact k [] [] _ H' _ r' rfl l ⟨G, E'⟩ Y h3
def tdRng2 (tal : TDA) : TDI := fun r P => tal r fun os r1 => ∃ lo hi, dats r1 os = some [.int lo, .int hi] ∧ (-(2 ^ 62) ≤ lo ∧ lo < 2 ^ 62 ∧ -(2 ^ 62) ≤ hi ∧ hi < 2 ^ 62) ∧ P ((List.range (hi - lo).toNat).map fun i => .fz true (.int (lo + (i : Nat)))) r1
end
end TL
namespace TL
open PySem PySem.Spec PyProof.Rows L2
section
variable {G0 : Bs} {te ta tb tc : TE} {t u : TDE} {toa tob toc : TDO} {tt : TT} {s : TDT} {ts tu : TS} {ds du : TDS} {al : TA} {tal : TDA} {K : PySem.W.Frag}
/-- the object of an owned item changes -/
theorem EnvG.upd_ {G H : Hp} {vs : List (Option V)} {its : List TL.It} {i : Nat} {p : Addr} {nw nw' : Bool} {d d' : D} {o : HO} (E : EnvG G0 G H vs its) (hi : its[i]? = some (.ow p nw d)) (ho : nonTup o = true) (h : OwOk (nwP G0 nw') G (upd H p o) p d') :
    EnvG G0 G (upd H p o) vs (its.set i (.ow p nw' d')) := by
  have X := E.ok i _ hi
  have oo := E.out i _ p hi (by simp [It.reg])
  have ne : ∀ a u, G a = some u → a ≠ p := fun a u e z => by rw [z, oo.1] at e; cases e
  refine E.put hi (Le.refl _) (fun a u e => by rw [upd_ne (ne a u e)]; exact E.le _ _ e) (fun a us e => ?_) (fun a u hr e => ?_) (fun a h1 h2 => by rw [h1] at h2; cases h2) ⟨X.1, h⟩ fun a hr => ?_
  · by_cases ha : a = p
    · subst ha; rw [upd_same] at e; cases e; cases ho
    · rw [upd_ne ha] at e; exact E.tp _ _ e
  · have : a ≠ p := by rintro rfl; simp [It.reg] at hr
    rw [upd_ne this]; exact e
  · have : a = p := by simpa [It.reg] using hr
    subst this
    exact ⟨.inr (by simp [It.reg]), oo.1, by rw [upd_same]; rfl⟩
theorem RepL.nwl {G : Hp} {n m : Bool} {v : List V} {d : List D} (r : RepL (nwP G0 n) G v d) : RepL (nwP G0 (n && m)) G v d := r.imp fun a f e => f (Bool.and_eq_true_iff.mp e).1
theorem Rep.nwr {G : Hp} {n m : Bool} {v : V} {d : D} (r : Rep (nwP G0 m) G v d) : Rep (nwP G0 (n && m)) G v d := r.imp fun a f e => f (Bool.and_eq_true_iff.mp e).2
theorem slot_ow {G H : Hp} {vs : List (Option V)} {ka : List TL.It} {sg : L2.St} {r : Rho} (E : EnvG G0 G H (vs ++ sg) (ka ++ r)) (hl : vs.length = ka.length) {i : Nat} {p : Addr} {nw : Bool} {d : D} (h : r[i]? = some (.ow p nw d)) :
    sg[i]? = some (some (.ref p)) ∧ OwOk (nwP G0 nw) G H p d := by
  obtain ⟨v, hv⟩ := slot_val E hl h rfl
  have ok := E.ok (ka.length + i) _ (by rw [get_app]; exact h)
  rw [getD_app hl, List.getD_eq_getElem?_getD, hv] at ok
  have e : v = .ref p := by have := ok.1; simpa using this
  exact ⟨by rw [hv, e], ok.2⟩
/-- x.append(e) -/
def tdApp (i : Nat) (t : TDE) : TDS := fun P r => (∃ p nw ds, r[i]? = some (.ow p nw (.seq false ds))) ∧ t r fun y r1 => ∃ p nw ds n d, r1[i]? = some (.ow p nw (.seq false ds)) ∧ y.view = some (n, d) ∧ ds.length < sizeLine ∧
  P.nx (r1.set i (.ow p (nw && n) (.seq false (ds ++ [d]))))
theorem sns_app {i : Nat} (h : SndE G0 te t) : SndS G0 (tDrop (tBM K "list" rAppend (tVar i) (tCons te tNil))) (tdApp i t) := by
  intro vs ka sg H r P Dn hl E hp k
  obtain ⟨⟨p, nw, ds, hi⟩, hp⟩ := hp
  obtain ⟨G, E0⟩ := id E
  obtain ⟨hv, us, h1, _⟩ := slot_ow E0 hl hi
  refine ⟨_, hv, .inl ⟨rfl, us, .inl (.inl h1)⟩, ?_⟩
  refine h vs ka sg H r _ _ hl E hp fun y H1 x r1 l1 E1 h' => ?_
  obtain ⟨p', nw, ds, n, d, hi, hy, hz, h'⟩ := h'
  obtain ⟨G, E1⟩ := E1.freeze0 hy
  have ry := fz_val E1
  have E2 := E1.tail
  obtain ⟨hv', us, h2, h3⟩ := slot_ow E2 hl hi
  rw [hv] at hv'
  cases hv'
  refine ⟨p, us, y, rfl, rfl, h2, by rw [h3.length]; exact hz, ?_⟩
  have E3 := E2.upd_ (i := ka.length + i) (nw' := nw && n) (d' := .seq false (ds ++ [d])) (o := .lst (us ++ [y])) (by rw [get_app]; exact hi) rfl ⟨_, upd_same, h3.nwl.append (.cons ry.nwr .nil)⟩
  rw [set_app] at E3
  exact k.nx sg _ _ ⟨G, E3⟩ h'
/-- x[i] = e, a list -/
def tdSetL (i : Nat) (t : TDE) (toa : TDO) : TDS := fun P r => t r fun y r1 => ∃ n d, y.view = some (n, d) ∧ (∃ z, r1[i]? = some z ∧ z.isVal = true) ∧ toa r1 fun o r2 => ∃ p nw ds k j, r2[i]? = some (.ow p nw (.seq false ds)) ∧ o.dat r2 = some (.int k) ∧ ixN ds.length k = some j ∧
  P.nx (r2.set i (.ow p (nw && n) (.seq false (ds.set j d))))
theorem sns_setL {i : Nat} (h : SndE G0 te t) (ha : SndO G0 ta toa) : SndS G0 (tAsg te (gSub (tVar i) ta rSetL)) (tdSetL i t toa) := by
  intro vs ka sg H r P Dn hl E hp k
  refine h vs ka sg H r _ _ hl E hp fun y H1 x r1 l1 E1 h' => ?_
  obtain ⟨n, d, hy, ⟨z, hz, hz'⟩, h'⟩ := h'
  have E1 := E1.freeze0 hy
  obtain ⟨v, hv⟩ : ∃ v, sg[i]? = some (some v) := by
    obtain ⟨G, E1⟩ := E1
    exact slot_val E1.tail hl hz hz'
  refine ⟨v, hv, ?_⟩
  refine ha (some y :: vs) (.fz n d :: ka) sg H1 r1 _ _ (by simp [hl]) E1 h' fun iv H2 o r2 l2 E2 a2 h2 => ?_
  obtain ⟨p, nw, ds, kk, j, hi, ho, hj, h3⟩ := h2
  obtain ⟨G, E2⟩ := E2
  have ix := opd_itx (us := []) (kb := []) (vs := some y :: vs) (ka := .fz n d :: ka) E2 rfl (by simp [hl]) a2
  have rk := dat_rep E2 ix ho
  have E3 := E2.tail
  have ry := fz_val E3
  have E4 := E3.tail
  obtain ⟨hv', us, q2, q3⟩ := slot_ow E4 hl hi
  rw [hv] at hv'
  cases hv'
  refine ⟨p, us, kk, j, rfl, rep_int rk, q2, by rw [q3.length]; exact hj, ?_⟩
  have E5 := EnvG.upd_ (its := ka ++ r2) (i := ka.length + i) (nw' := nw && n) (d' := .seq false (ds.set j d)) (o := .lst (us.set j y)) E4 (by rw [get_app]; exact hi) rfl ⟨_, upd_same, q3.nwl.set ry.nwr j⟩
  rw [set_app] at E5
  exact k.nx sg _ _ ⟨G, E5⟩ h3
/-- d[k] = e -/
def dputK {κ : Type} [DecidableEq κ] (k : κ) (ks : List κ) : List κ := if hasK k ks = true then ks else ks ++ [k]
def dputV {κ : Type} [DecidableEq κ] (k : κ) (ks : List κ) (ds : List D) (d : D) : List D := if hasK k ks = true then List.zipWith (fun x y => if x = k then d else y) ks ds else ds ++ [d]
def dputI : D → D → D → Option D
  | .dk ks ds, kd, d => kd.keyI.map fun k => .dk (dputK k ks) (dputV k ks ds d)
  | .dt ks ds, kd, d => kd.keyT.map fun k => .dt (dputK k ks) (dputV k ks ds d)
  | _, _, _ => none
def dlen : D → Nat
  | .dk ks _ => ks.length
  | .dt ks _ => ks.length
  | .seq _ xs => xs.length
  | _ => 0
theorem put_keys {κ : Type} [DecidableEq κ] (k : κ) (v : V) (kvs : List (κ × V)) : (putK kvs k v).map (·.1) = dputK k (kvs.map (·.1)) := by
  unfold putK dputK hasK
  rw [List.any_map]
  have e : (kvs.any fun kv => decide (kv.1 = k)) = kvs.any ((fun x => decide (x = k)) ∘ fun x => x.1) := rfl
  rw [← e]
  split
  · rw [List.map_map]
    apply List.map_congr_left
    intro p hp
    show (if p.1 = k then (p.1, v) else p).1 = p.1
    split <;> rfl
  · simp
theorem put_vals {κ : Type} [DecidableEq κ] {phi : Addr → Prop} {H : Hp} (k : κ) {v : V} {d : D} (r : Rep phi H v d) : ∀ {kvs : List (κ × V)} {ds : List D}, RepL phi H (kvs.map (·.2)) ds → RepL phi H ((putK kvs k v).map (·.2)) (dputV k (kvs.map (·.1)) ds d) := by
  intro kvs ds h
  unfold putK dputV hasK
  rw [List.any_map]
  have e : (kvs.any fun kv => decide (kv.1 = k)) = kvs.any ((fun x => decide (x = k)) ∘ fun x => x.1) := rfl
  rw [← e]
  split
  · rename_i hh
    clear hh e
    induction kvs generalizing ds with
    | nil => cases h; exact .nil
    | cons p kvs ih =>
      cases h with
      | cons q t =>
        refine .cons ?_ (ih t)
        show Rep phi H (if p.1 = k then (p.1, v) else p).2 (if p.1 = k then d else _)
        split
        · exact r
        · exact q
  · rw [List.map_append]
    exact h.append (.cons r .nil)
def tdDPut (i : Nat) (t : TDE) (toa : TDO) : TDS := fun P r => t r fun y r1 => ∃ n d, y.view = some (n, d) ∧ (∃ z, r1[i]? = some z ∧ z.isVal = true) ∧ toa r1 fun o r2 => ∃ p nw dd kd dd', r2[i]? = some (.ow p nw dd) ∧ o.dat r2 = some kd ∧ dlen dd < sizeLine ∧ dputI dd kd d = some dd' ∧
  P.nx (r2.set i (.ow p (nw && n) dd'))
theorem sns_dput {i : Nat} (h : SndE G0 te t) (ha : SndO G0 ta toa) : SndS G0 (sDPut (tVar i) ta te) (tdDPut i t toa) := by
  intro vs ka sg H r P Dn hl E hp k
  refine h vs ka sg H r _ _ hl E hp fun y H1 x r1 l1 E1 h' => ?_
  obtain ⟨n, d, hy, ⟨z, hz, hz'⟩, h'⟩ := h'
  have E1 := E1.freeze0 hy
  obtain ⟨v, hv⟩ : ∃ v, sg[i]? = some (some v) := by
    obtain ⟨G, E1⟩ := E1
    exact slot_val E1.tail hl hz hz'
  refine ⟨v, hv, ?_⟩
  refine ha (some y :: vs) (.fz n d :: ka) sg H1 r1 _ _ (by simp [hl]) E1 h' fun iv H2 o r2 l2 E2 a2 h2 => ?_
  obtain ⟨p, nw, dd, kd, dd', hi, ho, hj, hd, h3⟩ := h2
  obtain ⟨G, E2⟩ := E2
  have ix := opd_itx (us := []) (kb := []) (vs := some y :: vs) (ka := .fz n d :: ka) E2 rfl (by simp [hl]) a2
  have rk := dat_rep E2 ix ho
  have E3 := E2.tail
  have ry := fz_val E3
  have E4 := E3.tail
  obtain ⟨hv', ow⟩ := slot_ow E4 hl hi
  rw [hv] at hv'
  cases hv'
  cases dd with
  | dk ks ds =>
    obtain ⟨kvs, q1, q2, q3⟩ := ow
    simp only [dputI] at hd
    cases qk : kd.keyI with
    | none => rw [qk] at hd; cases hd
    | some kk =>
      rw [qk] at hd
      cases hd
      refine ⟨p, upd H2 p (.dK (putK kvs kk y)), rfl, ?_, ?_⟩
      · rw [keyI_rep rk qk]
        exact DPut.k q1 (by have : kvs.length = ks.length := by rw [← q2]; simp
                            rw [this]; exact hj)
      · subst q2
        have E5 := EnvG.upd_ (its := ka ++ r2) (i := ka.length + i) (nw' := nw && n) (d' := .dk (dputK kk (kvs.map (·.1))) (dputV kk (kvs.map (·.1)) ds d)) (o := .dK (putK kvs kk y)) E4 (by rw [get_app]; exact hi) rfl ⟨_, upd_same, put_keys kk y kvs, put_vals kk ry.nwr q3.nwl⟩
        rw [set_app] at E5
        exact k.nx sg _ _ ⟨G, E5⟩ h3
  | dt ks ds =>
    obtain ⟨kvs, q1, q2, q3⟩ := ow
    simp only [dputI] at hd
    cases qk : kd.keyT with
    | none => rw [qk] at hd; cases hd
    | some kk =>
      rw [qk] at hd
      cases hd
      refine ⟨p, upd H2 p (.dT (putK kvs kk y)), rfl, ?_, ?_⟩
      · cases kd with
        | seq tt es =>
          cases tt with
          | false => cases qk
          | true =>
            cases rk with
            | tup hx rr =>
              have e := keyT_rep rr qk
              subst e
              exact DPut.t q1 hx (by have : kvs.length = ks.length := by rw [← q2]; simp
                                     rw [this]; exact hj)
        | _ => cases qk
      · subst q2
        have E5 := EnvG.upd_ (its := ka ++ r2) (i := ka.length + i) (nw' := nw && n) (d' := .dt (dputK kk (kvs.map (·.1))) (dputV kk (kvs.map (·.1)) ds d)) (o := .dT (putK kvs kk y)) E4 (by rw [get_app]; exact hi) rfl ⟨_, upd_same, put_keys kk y kvs, put_vals kk ry.nwr q3.nwl⟩
        rw [set_app] at E5
        exact k.nx sg _ _ ⟨G, E5⟩ h3
  | _ => cases hd
/-- x.pop() -/
def tdPop (i : Nat) : TDE := fun r P => ∃ p nw ds d, r[i]? = some (.ow p nw (.seq false ds)) ∧ ds[ds.length - 1]? = some d ∧ P (.fz (nw || isFlat d) d) (r.set i (.ow p nw (.seq false ds.dropLast)))
theorem RepL.dropLast {phi : Addr → Prop} {H : Hp} : ∀ {vs : List V} {ds : List D}, RepL phi H vs ds → RepL phi H vs.dropLast ds.dropLast
  | _, _, .nil => .nil
  | _, _, .cons r .nil => .nil
  | _, _, .cons r (.cons r' t) => .cons r (RepL.dropLast (.cons r' t))
theorem snd_pop {i : Nat} : SndE G0 (tBM0 K "list" rPop (tVar i)) (tdPop i) := by
  intro vs ka sg H r P Q hl E hp k
  obtain ⟨p, nw, ds, d, hi, hd, hp⟩ := hp
  obtain ⟨G, E⟩ := E
  obtain ⟨hv, us, h1, h3⟩ := slot_ow E hl hi
  obtain ⟨y, hy, ry⟩ := h3.get hd
  refine ⟨_, hv, .inl ⟨rfl, us, .inl (.inl h1)⟩, p, us, y, rfl, rfl, h1, by rw [h3.length]; exact hy, ?_⟩
  have E3 := EnvG.upd_ (its := ka ++ r) (i := ka.length + i) (nw' := nw) (d' := .seq false ds.dropLast) (o := .lst us.dropLast) E (by rw [get_app]; exact hi) rfl ⟨_, upd_same, h3.dropLast⟩
  rw [set_app] at E3
  exact k y _ _ _ (by simp) ⟨G, E3.pushFz ry.nwFlat⟩ hp
/-- x.pop(k) -/
def tdPopAt (i : Nat) (toa : TDO) : TDE := fun r P => (∃ p nw ds, r[i]? = some (.ow p nw (.seq false ds))) ∧ toa r fun o r1 => ∃ p nw ds k j d, r1[i]? = some (.ow p nw (.seq false ds)) ∧ o.dat r1 = some (.int k) ∧ -(2 ^ 63) ≤ k ∧ k < 2 ^ 63 ∧ seqIndex? k ds.length = some j ∧ ds[j]? = some d ∧
  P (.fz (nw || isFlat d) d) (r1.set i (.ow p nw (.seq false (ds.eraseIdx j))))
theorem snd_popAt {i : Nat} (ha : SndO G0 ta toa) : SndE G0 (tBM K "list" rPopAt (tVar i) (tCons ta tNil)) (tdPopAt i toa) := by
  intro vs ka sg H r P Q hl E hp k
  obtain ⟨⟨p, nw, ds, hi⟩, hp⟩ := hp
  obtain ⟨G, E0⟩ := id E
  obtain ⟨hv, us, h1, _⟩ := slot_ow E0 hl hi
  refine ⟨_, hv, .inl ⟨rfl, us, .inl (.inl h1)⟩, ?_⟩
  refine ha vs ka sg H r _ _ hl E hp fun y H1 o r1 l1 E1 a1 h' => ?_
  obtain ⟨p', nw, ds, kk, j, d, hi, ho, b1, b2, hj, hd, h'⟩ := h'
  obtain ⟨G, E1⟩ := E1
  have ix := opd_itx (us := []) (kb := []) E1 rfl hl a1
  have rk := dat_rep E1 ix ho
  have E2 := E1.tail
  obtain ⟨hv', us, h2, h3⟩ := slot_ow E2 hl hi
  rw [hv] at hv'
  cases hv'
  obtain ⟨w, hw, rw'⟩ := h3.get hd
  refine ⟨p, us, kk, j, w, rfl, by rw [rep_int rk], h2, b1, b2, by rw [h3.length]; exact hj, hw, ?_⟩
  have E3 := EnvG.upd_ (its := ka ++ r1) (i := ka.length + i) (nw' := nw) (d' := .seq false (ds.eraseIdx j)) (o := .lst (us.eraseIdx j)) E2 (by rw [get_app]; exact hi) rfl ⟨_, upd_same, h3.eraseIdx j⟩
  rw [set_app] at E3
  exact k w _ _ _ (by simpa using l1) ⟨G, E3.pushFz rw'.nwFlat⟩ h'
/-- x.extend(ys) -/
def tdExt (i : Nat) (t : TDE) : TDS := fun P r => (∃ p nw ds, r[i]? = some (.ow p nw (.seq false ds))) ∧ t r fun y r1 => ∃ p q nw n ds es, r1[i]? = some (.ow p nw (.seq false ds)) ∧ y = .ow q n (.seq false es) ∧ ds.length + es.length ≤ sizeLine ∧
  P.nx (r1.set i (.ow p (nw && n) (.seq false (ds ++ es))))
theorem RepL.nwr {G : Hp} {n m : Bool} {v : List V} {d : List D} (r : RepL (nwP G0 m) G v d) : RepL (nwP G0 (n && m)) G v d := r.imp fun a f e => f (Bool.and_eq_true_iff.mp e).2
theorem sns_ext {i : Nat} (h : SndE G0 te t) : SndS G0 (tDrop (tBM K "list" rExtend (tVar i) (tCons te tNil))) (tdExt i t) := by
  intro vs ka sg H r P Dn hl E hp k
  obtain ⟨⟨p, nw, ds, hi⟩, hp⟩ := hp
  obtain ⟨G, E0⟩ := id E
  obtain ⟨hv, us, h1, _⟩ := slot_ow E0 hl hi
  refine ⟨_, hv, .inl ⟨rfl, us, .inl (.inl h1)⟩, ?_⟩
  refine h vs ka sg H r _ _ hl E hp fun y H1 x r1 l1 E1 h' => ?_
  obtain ⟨p', q, nw, n, ds, es, hi, rfl, hz, h'⟩ := h'
  obtain ⟨G, E1⟩ := E1
  obtain ⟨ey, ws, g1, g2⟩ := E1.head
  cases ey
  have E2 := E1.tail
  obtain ⟨hv', us, h2, h3⟩ := slot_ow E2 hl hi
  rw [hv] at hv'
  cases hv'
  refine ⟨p, q, us, ws, rfl, rfl, h2, g1, by rw [h3.length, g2.length]; exact hz, ?_⟩
  have E3 := EnvG.upd_ (its := ka ++ r1) (i := ka.length + i) (nw' := nw && n) (d' := .seq false (ds ++ es)) (o := .lst (us ++ ws)) E2 (by rw [get_app]; exact hi) rfl ⟨_, upd_same, h3.nwl.append g2.nwr⟩
  rw [set_app] at E3
  exact k.nx sg _ _ ⟨G, E3⟩ h'
/-- x += e, an int -/
def tdAug (i : Nat) (f : Int → Int → Int) (toa : TDO) : TDS := fun P r => ∃ nw a, r[i]? = some (.fz nw (.int a)) ∧ toa r fun o r1 => ∃ b, o.dat r1 = some (.int b) ∧ P.nx (r1.set i (.fz true (.int (f a b))))
end
end TL
namespace TL
open PySem PySem.Spec PyProof.Rows L2
inductive Out where
  | ret (d : D) | exc (C : Addr) (ns : List Str) (es : List D)
abbrev Fn := List D → (Out → Prop) → Prop
abbrev FnS := PS → List D → (PS → Out → Prop) → Prop
abbrev XC := Addr → List Str → Bool → List D → Prop
/-- what is raised is wanted -/
def XOk (G0 : Bs) (E : XK) (Xc : XC) : Prop := ∀ (C : Addr) (ns : List Str) (nw : Bool) (es : List D) (dx : Addr) (fs : List (Str × V)) (H' G' : Hp), Xc C ns nw es → Le G0.g G' → Le G' H' → (∀ a xs, H' a = some (.tup xs) → G' a = some (.tup xs)) →
  (∀ a, G0.S a = true → G' a = none ∧ H' a = G0.h a) → H' dx = some (.xd fs) → fs.map (·.1) = ns → RepL (nwP G0 nw) G' (fs.map (·.2)) es → E (.ref C) (some dx) H'
theorem XOk.no {G0 : Bs} {E : XK} : XOk G0 E (fun _ _ _ _ => False) := fun _ _ _ _ _ _ _ _ h => h.elim
def excK (Kc : Out → Prop) : XC := fun C ns nw es => nw = true ∧ Kc (.exc C ns es)
def excA (Kc : Out → Prop) : XC := fun C ns _ es => Kc (.exc C ns es)
def outK (P : D → Prop) (Xc : XC) : Out → Prop
  | .ret d => P d
  | .exc C ns es => Xc C ns true es
def outA (P : D → Prop) (Xc : XC) : Out → Prop
  | .ret d => P d
  | .exc C ns es => Xc C ns (es.all isFlat) es
/-- pure: what it hands back is new -/
def spP (F : Fn) : Sp := fun vs H Q E => ∃ ds Kc, RepL (fun _ => True) H vs ds ∧ F ds Kc ∧ (∀ d v H', Kc (.ret d) → Le H H' → Rep (fun a => H a = none) H' v d → Q v H') ∧ XOk (Bs.of H) E (excK Kc)
/-- it hands back what may be a part of what it was handed -/
def spA (F : Fn) : Sp := fun vs H Q E => ∃ G ds Kc, Le G H ∧ (∀ a xs, H a = some (.tup xs) → G a = some (.tup xs)) ∧ RepL (fun _ => True) G vs ds ∧ F ds Kc ∧
  (∀ d v H' G', Kc (.ret d) → Le H H' → Le G G' → Le G' H' → (∀ a xs, H' a = some (.tup xs) → G' a = some (.tup xs)) → (∀ a, G a = none → (G' a).isSome = true → H a = none) → Rep (fun _ => True) G' v d → Q v H') ∧ XOk ⟨G, fun a => (H a).isSome && (G a).isNone, H⟩ E (excA Kc)
def hid (H : Hp) (a q : Addr) : Hp := fun x => if x = a ∨ x = q then none else H x
theorem hid_le (H : Hp) (a q : Addr) : Le (hid H a q) H := fun x o e => by
  unfold hid at e
  split at e
  · cases e
  · exact e
theorem hid_ne {H : Hp} {a q x : Addr} (h1 : x ≠ a) (h2 : x ≠ q) : hid H a q x = H x := by
  unfold hid
  rw [if_neg (by rintro (h | h); exact h1 h; exact h2 h)]
theorem hid_a {H : Hp} {a q : Addr} : hid H a q a = none := by unfold hid; rw [if_pos (.inl rfl)]
theorem hid_q {H : Hp} {a q : Addr} : hid H a q q = none := by unfold hid; rw [if_pos (.inr rfl)]
/-- with draws: what it hands back is new -/
def spD (F : FnS) : Sp := fun vs H Q E => ∃ a q g ws ds Kc, vs = .ref a :: ws ∧ StOk H a q g ∧ RepL (fun _ => True) (hid H a q) ws ds ∧ F g ds Kc ∧
  (∀ g' d v H', Kc g' (.ret d) → (∀ x o, x ≠ a → x ≠ q → H x = some o → H' x = some o) → StOk H' a q g' → Rep (fun x => H x = none) (hid H' a q) v d → Q v H')
/-- with draws: what it hands back may be a part of what it was handed -/
def spDA (F : FnS) : Sp := fun vs H Q E => ∃ a q g ws ds Kc G, vs = .ref a :: ws ∧ StOk H a q g ∧ Le G H ∧ G a = none ∧ G q = none ∧ (∀ a xs, H a = some (.tup xs) → G a = some (.tup xs)) ∧ RepL (fun _ => True) G ws ds ∧ F g ds Kc ∧
  (∀ g' d v H' G', Kc g' (.ret d) → (∀ x o, x ≠ a → x ≠ q → H x = some o → H' x = some o) → StOk H' a q g' → Le G G' → Le G' H' → (∀ a xs, H' a = some (.tup xs) → G' a = some (.tup xs)) → (∀ a, G a = none → (G' a).isSome = true → H a = none) → Rep (fun _ => True) G' v d → Q v H')
section
variable {G0 : Bs} {te ta tb tc : TE} {t u : TDE} {toa tob toc : TDO} {tt : TT} {s : TDT} {ts tu : TS} {ds du : TDS} {al : TA} {tal : TDA} {K : PySem.W.Frag} {E : XK} {Xc : XC}
def tdCallP (F : Fn) (Xc : XC) (tal : TDA) : TDE := fun r P => tal r fun os r1 => ∃ ds, dats r1 os = some ds ∧ F ds (outK (fun d => P (.fz true d) r1) Xc)
/-- behind a call: all that is new is frozen -/
def newG (H H' G : Hp) : Hp := fun a => if (H a).isSome = true then G a else H' a
theorem newG_le {H H' G : Hp} (le : Le G H) : Le G (newG H H' G) := fun a o e => by
  unfold newG
  rw [if_pos (by rw [le a o e]; rfl)]
  exact e
theorem EnvG.called {G H H' : Hp} {vs : List (Option V)} {its : List TL.It} (E : EnvG G0 G H vs its) (e : Le H H') : EnvG G0 (newG H H' G) H' vs its := by
  refine E.grow (newG_le E.le) (fun a o q => ?_) (fun a xs q => ?_) e (fun a h1 h2 => ?_)
  · unfold newG at q
    split at q
    · exact e _ _ (E.le _ _ q)
    · exact q
  · unfold newG
    split
    · rename_i h
      cases z : H a with
      | none => rw [z] at h; cases h
      | some o =>
        have := e _ _ z
        rw [q] at this
        cases this
        exact E.tp _ _ z
    · exact q
  · unfold newG at h2
    split at h2
    · rw [h1] at h2; cases h2
    · rename_i h
      cases z : H a with
      | none => rfl
      | some o => rw [z] at h; exact absurd rfl h
theorem new_rep {G H H' : Hp} {vs : List (Option V)} {its : List TL.It} (E : EnvG G0 G H vs its) (e : Le H H') {v : V} {d : D} (r : Rep (fun a => H a = none) H' v d) : Rep (nwP G0 true) (newG H H' G) v d := by
  have at_ : ∀ a, H a = none → newG H H' G a = H' a := fun a h => by unfold newG; rw [if_neg (by rw [h]; decide)]
  have rd : ∀ a u, H a = none → Rd H' a u → Rd (newG H H' G) a u := fun a u h q => by
    unfold Rd; rw [at_ a h]; exact q
  have E' := E.called e
  refine r.car ⟨fun a vs h q => by rw [at_ a h]; exact q, fun a vs h q => rd a _ h q, fun a vs h q => rd a _ h q, fun a vs q => E'.tp _ _ q, fun a C dx fs h q => by rw [at_ a h]; exact q, fun a h _ _ => E.l0.nn (E.le.nn h)⟩
theorem new_repL {G H H' : Hp} {vs : List (Option V)} {its : List TL.It} (E : EnvG G0 G H vs its) (e : Le H H') : ∀ {us : List V} {ds : List D}, RepL (fun a => H a = none) H' us ds → RepL (nwP G0 true) (newG H H' G) us ds
  | _, _, .nil => .nil
  | _, _, .cons r t => .cons (new_rep E e r) (new_repL E e t)
theorem XOk.call {G H : Hp} {vs : List (Option V)} {its : List TL.It} {P : D → Prop} (hE : XOk G0 E Xc) (En : EnvG G0 G H vs its) : XOk (Bs.of H) E (excK (outK P Xc)) := by
  rintro C ns nw es dx fs H2 G2 ⟨rfl, hx⟩ le1 le2 tp fr hdx hns rp
  have e : Le H H2 := le1.trans le2
  have E2 := En.called e
  exact hE C ns true es dx fs H2 (newG H H2 G) hx E2.l0 E2.le E2.tp (fun a h => ⟨(E2.fr a h).1, (E2.fr a h).2.1⟩) hdx hns (new_repL En e ((rp.mono le2).imp fun a f => f rfl))
theorem snd_callP {F : Fn} (hE : XOk G0 E Xc) (ha : SndA G0 al tal) : SndE G0 (tCall (spP F) [] E al) (tdCallP F Xc tal) := by
  intro vs ka sg H r P Q hl En hp k
  refine ha vs ka sg H r _ _ hl En hp fun ws H' os r' G l E' p _ h' => ?_
  obtain ⟨ds, e1, h3⟩ := h'
  rw [List.append_nil]
  refine ⟨ds, _, dats_rep E' p e1, h3, fun d v H2 kd e rd => ?_, hE.call E'⟩
  exact k v H2 _ r' l ⟨_, (E'.called e).pushFz (new_rep E' e rd)⟩ kd
/-- .. kept apart (it may be spoilt) -/
def tdCallPD (F : Fn) (Xc : XC) (tal : TDA) : TDE := fun r P => tal r fun os r1 => ∃ ds, dats r1 os = some ds ∧ F ds (outK (fun d => ∀ S, P (.dp S d) r1) Xc)
theorem snd_callPD {F : Fn} (hE : XOk G0 E Xc) (ha : SndA G0 al tal) : SndE G0 (tCall (spP F) [] E al) (tdCallPD F Xc tal) := by
  intro vs ka sg H r P Q hl En hp k
  refine ha vs ka sg H r _ _ hl En hp fun ws H' os r' G l E' p _ h' => ?_
  obtain ⟨ds, e1, h3⟩ := h'
  rw [List.append_nil]
  refine ⟨ds, _, dats_rep E' p e1, h3, fun d v H2 kd e rd => ?_, hE.call E'⟩
  -- the tuples are frozen, all else that is new stands apart
  let S : Addr → Bool := fun a => (H' a).isNone && nonTupO (H2 a)
  let G2 : Hp := fun a => if (H' a).isNone = true ∧ nonTupO (H2 a) = false then H2 a else G a
  have g1 : ∀ a o, G a = some o → G2 a = some o := fun a o q => by
    show (if _ then _ else _) = _
    rw [if_neg (by rw [E'.le _ _ q]; simp)]
    exact q
  have g2 : Le G2 H2 := fun a o q => by
    have q : (if (H' a).isNone = true ∧ nonTupO (H2 a) = false then H2 a else G a) = some o := q
    split at q
    · exact q
    · exact e _ _ (E'.le _ _ q)
  have g3 : ∀ a xs, H2 a = some (.tup xs) → G2 a = some (.tup xs) := fun a xs q => by
    show (if _ then _ else _) = _
    cases z : H' a with
    | none => rw [if_pos ⟨rfl, by rw [q]; rfl⟩]; exact q
    | some o =>
      rw [if_neg (by simp)]
      have := e _ _ z
      rw [q] at this
      cases this
      exact E'.tp _ _ z
  have at_ : ∀ a, S a = true → mrg S H2 G2 a = H2 a := fun a h => by unfold mrg; rw [if_pos h]
  have sOf : ∀ a u, H' a = none → H2 a = some u → nonTup u = true → S a = true := fun a u h q n => by
    show ((H' a).isNone && nonTupO (H2 a)) = true
    rw [h, q]
    exact n
  have rd' : ∀ a u, H' a = none → nonTup u = true → Rd H2 a u → Rd (mrg S H2 G2) a u ∧ S a = true := fun a u h n q => by
    have hs : S a = true := by
      rcases q with q | ⟨o, q⟩
      · exact sOf a u h q n
      · exact sOf a _ h q rfl
    refine ⟨?_, hs⟩
    unfold Rd; rw [at_ a hs]; exact q
  have tp' : ∀ a xs, H2 a = some (.tup xs) → mrg S H2 G2 a = some (.tup xs) := fun a xs q => by
    unfold mrg
    split
    · exact q
    · exact g3 a xs q
  have rep : Rep (fun a => S a = true) (mrg S H2 G2) v d := rd.car ⟨fun a vs h q => by rw [at_ a (sOf a _ h q rfl)]; exact q, fun a vs h q => (rd' a _ h rfl q).1, fun a vs h q => (rd' a _ h rfl q).1, fun a vs q => tp' a vs q, fun a C dx fs h q => by rw [at_ a (sOf a _ h q rfl)]; exact q, fun a h n => by
    show ((H' a).isNone && nonTupO (H2 a)) = true
    rw [h, n]; rfl⟩
  refine k v H2 (.dp S d) r' l ⟨G2, E'.push g1 g2 g3 e (fun a h1 h2 => ?_) ⟨v, rfl, rep⟩ fun a hs => ?_⟩ (kd S)
  · have h2 : (if (H' a).isNone = true ∧ nonTupO (H2 a) = false then H2 a else G a).isSome = true := h2
    split at h2
    · rename_i hh; simpa using hh.1
    · rw [h1] at h2; cases h2
  · have hs : ((H' a).isNone && nonTupO (H2 a)) = true := hs
    rw [Bool.and_eq_true] at hs
    have n1 : H' a = none := by simpa using hs.1
    refine ⟨n1, ?_, ?_⟩
    · show (if _ then _ else _) = _
      rw [if_neg (by rw [hs.2]; simp)]
      exact E'.le.nn n1
    · cases q : H2 a with
      | none => rw [q] at hs; simp [nonTupO] at hs
      | some o => rfl
def tdCallD (i : Nat) (F : FnS) (tal : TDA) : TDE := fun r P => (∃ a q g, r[i]? = some (.st a q g)) ∧ tal r fun os r1 => ∃ a q g ds, r1[i]? = some (.st a q g) ∧ dats r1 os = some ds ∧ (∀ o ∈ os, ∀ j, o = .sl j → j ≠ i) ∧ F g ds (fun g' => outK (fun d => P (.fz true d) (r1.set i (.st a q g'))) fun _ _ _ _ => False)
/-- an operand's data without the state's own lists -/
theorem opd_hid {G H : Hp} {vs : List (Option V)} {ka : List TL.It} {sg : L2.St} {r : Rho} (E : EnvG G0 G H (vs ++ sg) (ka ++ r)) {i : Nat} {a q : Addr} {g : PS} (hi : r[i]? = some (.st a q g)) :
    ∀ {ws : List V} {os : List Opd}, Paired (fun w (o : Opd) => ItX G0 G H (some w) (o.it r)) ws os → (∀ x, Opd.tm x ∈ os → ∀ (j : Nat) (y : TL.It) (b : Addr), (ka ++ r)[j]? = some y → y.reg b = true → x.reg b = true → False) → (∀ o ∈ os, ∀ j, o = Opd.sl j → j ≠ i) →
      ∀ {ds : List D}, dats r os = some ds → RepL (fun _ => True) (hid H a q) ws ds
  | _, _, .nil, _, _, _, h => by cases h; exact .nil
  | _, _, .cons (a := w) (b := o) (l₂ := os) ix p, sp, ns, ds, h => by
    unfold dats at h
    cases q1 : o.dat r with
    | none => rw [q1] at h; simp at h
    | some d =>
      cases q2 : dats r os with
      | none => rw [q1, q2] at h; simp at h
      | some es =>
        rw [q1, q2] at h
        simp at h
        subst h
        refine .cons ?_ (opd_hid E hi p (fun x hx => sp x (List.mem_cons_of_mem _ hx)) (fun o' ho' => ns o' (List.mem_cons_of_mem _ ho')) q2)
        obtain ⟨nw, hv⟩ := Opd.dat_view q1
        have hst : (ka ++ r)[ka.length + i]? = some (.st a q g) := by rw [get_app]; exact hi
        have far : ∀ b, (o.it r).reg b = true → b ≠ a ∧ b ≠ q := fun b hb => by
          have key : ∀ b', TL.It.reg (.st a q g) b' = true → (o.it r).reg b' = true → False := fun b' h1 h2 => by
            cases o with
            | tm x => exact sp x List.mem_cons_self _ _ b' hst h1 h2
            | sl j =>
              have hj := ns _ List.mem_cons_self j rfl
              cases q3 : r[j]? with
              | none =>
                have e : (Opd.sl j).it r = .no := by show r.getD j .no = .no; rw [List.getD_eq_getElem?_getD, q3]; rfl
                rw [e] at h2; simp [It.reg] at h2
              | some x =>
                have e : (Opd.sl j).it r = x := by show r.getD j .no = x; rw [List.getD_eq_getElem?_getD, q3]; rfl
                rw [e] at h2
                have := E.sp (ka.length + j) (ka.length + i) x _ b' (by rw [get_app]; exact q3) hst h2 h1
                omega
          refine ⟨?_, ?_⟩
          · rintro rfl; exact key _ (by simp [It.reg]) hb
          · rintro rfl; exact key _ (by simp [It.reg]) hb
        have oa := E.out (ka.length + i) _ a hst (by simp [It.reg])
        have oq := E.out (ka.length + i) _ q hst (by simp [It.reg])
        have lg : Le G (hid H a q) := fun b u e => by
          rw [hid_ne (fun z => by rw [z, oa.1] at e; cases e) (fun z => by rw [z, oq.1] at e; cases e)]
          exact E.le _ _ e
        have lr : ∀ b u, (o.it r).reg b = true → H b = some u → hid H a q b = some u := fun b u h1 h2 => by
          obtain ⟨n1, n2⟩ := far b h1
          rw [hid_ne n1 n2]; exact h2
        have X2 : ItX G0 G (hid H a q) (some w) (o.it r) := ⟨ix.1.keep (Le.refl _) (fun b u h1 h2 => lr b u h1 h2) fun b h1 => (ix.2 b h1).2, fun b h1 => ⟨(ix.2 b h1).1, by
          have h2 := (ix.2 b h1).2
          cases q4 : H b with
          | none => rw [q4] at h2; cases h2
          | some u => rw [lr b u h1 q4]; rfl⟩⟩
        exact (X2.rep E.l0 lg hv).imp fun _ _ => trivial
theorem st_call {G H H2 : Hp} {vs : List (Option V)} {ka : List TL.It} {sg : L2.St} {r : Rho} (E : EnvG G0 G H (vs ++ sg) (ka ++ r)) {i : Nat} {a q : Addr} {g g' : PS} (hl : vs.length = ka.length) (hi : r[i]? = some (.st a q g))
    (k : ∀ x o, x ≠ a → x ≠ q → H x = some o → H2 x = some o) (so : StOk H2 a q g') : EnvG G0 (newG H H2 G) H2 (vs ++ sg) (ka ++ r.set i (.st a q g')) := by
  have hst : (ka ++ r)[ka.length + i]? = some (.st a q g) := by rw [get_app]; exact hi
  have oa := E.out (ka.length + i) _ a hst (by simp [It.reg])
  have oq := E.out (ka.length + i) _ q hst (by simp [It.reg])
  have ok := E.ok _ _ hst
  have na : ∀ b u, G b = some u → b ≠ a ∧ b ≠ q := fun b u e => ⟨fun z => by (rw [z, oa.1] at e); (cases e), fun z => by (rw [z, oq.1] at e); cases e⟩
  have E2 : EnvG G0 (newG H H2 G) H2 (vs ++ sg) ((ka ++ r).set (ka.length + i) (.st a q g')) := by
    refine E.put hst (newG_le E.le) (fun b o z => ?_) (fun b xs z => ?_) (fun b o h1 h2 => ?_) (fun b h1 h2 => ?_) ⟨ok.1, so⟩ fun b h1 => ?_
    · unfold newG at z
      split at z
      · exact k _ _ (na b o z).1 (na b o z).2 (E.le _ _ z)
      · exact z
    · unfold newG
      split
      · rename_i h
        cases w : H b with
        | none => rw [w] at h; cases h
        | some o =>
          by_cases h1 : b = a
          · subst h1; rw [so.2.1] at z; cases z
          · by_cases h2 : b = q
            · subst h2; rw [so.2.2] at z; cases z
            · have := k _ _ h1 h2 w
              rw [z] at this
              cases this
              exact E.tp _ _ w
      · exact z
    · have : b ≠ a ∧ b ≠ q := by simpa [It.reg] using h1
      exact k _ _ this.1 this.2 h2
    · unfold newG at h2
      split at h2
      · rw [h1] at h2; cases h2
      · rename_i h
        left
        cases w : H b with
        | none => rfl
        | some o => rw [w] at h; exact absurd rfl h
    · have h1 : b = a ∨ b = q := by simpa [It.reg] using h1
      rcases h1 with rfl | rfl
      · refine ⟨.inr (by simp [It.reg]), ?_, by rw [so.2.1]; rfl⟩
        unfold newG; rw [if_pos oa.2]; exact oa.1
      · refine ⟨.inr (by simp [It.reg]), ?_, by rw [so.2.2]; rfl⟩
        unfold newG; rw [if_pos oq.2]; exact oq.1
  rw [set_app] at E2
  exact E2
theorem snd_callD {i : Nat} {F : FnS} (ha : SndA G0 al tal) : SndE G0 (tCall (spD F) [] E (tCons (tVar i) al)) (tdCallD i F tal) := by
  intro vs ka sg H r P Q hl En hp k
  obtain ⟨⟨a0, q0, g0, hi0⟩, hp⟩ := hp
  obtain ⟨v, hv⟩ : ∃ v, sg[i]? = some (some v) := by
    obtain ⟨G, En⟩ := En
    exact slot_val En hl hi0 rfl
  refine ⟨v, hv, ?_⟩
  refine ha vs ka sg H r _ _ hl En hp fun ws H' os r' G l E' p sp h' => ?_
  obtain ⟨a, q, g, ds, hi, e1, ns, h3⟩ := h'
  rw [List.append_nil]
  have hst : (ka ++ r')[ka.length + i]? = some (.st a q g) := by rw [get_app]; exact hi
  have ok := E'.ok _ _ hst
  rw [getD_app hl, List.getD_eq_getElem?_getD, hv] at ok
  have ev : v = .ref a := by have := ok.1; simpa using this
  subst ev
  have oa := E'.out (ka.length + i) _ a hst (by simp [It.reg])
  have oq := E'.out (ka.length + i) _ q hst (by simp [It.reg])
  refine ⟨a, q, g, ws, ds, _, rfl, ok.2, opd_hid E' hi p sp ns e1, h3, fun g' d w H2 kd kp so rd => ?_⟩
  have E2 := st_call E' hl hi kp so
  refine k w H2 _ _ (by simpa using l) ⟨_, E2.pushFz ?_⟩ kd
  have at_ : ∀ b, H' b = none → newG H' H2 G b = H2 b := fun b h => by unfold newG; rw [if_neg (by rw [h]; decide)]
  have nh : ∀ b u, hid H2 a q b = some u → H2 b = some u ∧ b ≠ a ∧ b ≠ q := fun b u h => by
    refine ⟨hid_le _ _ _ _ _ h, ?_, ?_⟩
    · rintro rfl; rw [hid_a] at h; cases h
    · rintro rfl; rw [hid_q] at h; cases h
  have rd' : ∀ b u, H' b = none → Rd (hid H2 a q) b u → Rd (newG H' H2 G) b u := fun b u h z => by
    unfold Rd
    rw [at_ b h]
    rcases z with z | ⟨o, z⟩
    · exact .inl (hid_le _ _ _ _ _ z)
    · exact .inr ⟨o, hid_le _ _ _ _ _ z⟩
  exact rd.car ⟨fun b vs h z => by rw [at_ b h]; exact hid_le _ _ _ _ _ z, fun b vs h z => rd' b _ h z, fun b vs h z => rd' b _ h z, fun b vs z => E2.tp _ _ (hid_le _ _ _ _ _ z), fun b C dx fs h z => by rw [at_ b h]; exact hid_le _ _ _ _ _ z, fun b h _ _ => E'.l0.nn (E'.le.nn h)⟩
def tdCallA (F : Fn) (Xc : XC) (f : TDF) : TDE := fun r P => f r fun nw ds r1 => F ds (outA (fun d => P (.fz (isFlat d) d) r1) Xc)
theorem Rep.flatNw {G : Hp} {v : V} {d : D} (r : Rep (fun _ => True) G v d) : Rep (nwP G0 (isFlat d)) G v d := by
  cases q : isFlat d with
  | false => exact r.imp fun a _ h => by cases h
  | true =>
    unfold isFlat at q
    cases q2 : d.flat with
    | none => rw [q2] at q; cases q
    | some w => rw [r.flat q2]; exact rep_flat q2
theorem RepL.flatNw {G0' : Bs} {nw : Bool} {G : Hp} : ∀ {vs : List V} {ds : List D}, RepL (nwP G0' nw) G vs ds → RepL (nwP G0 (ds.all isFlat)) G vs ds
  | _, _, .nil => .nil
  | _, _, .cons r t => by
    refine .cons ((Rep.flatNw (G0 := G0) (r.imp fun _ _ => trivial)).imp fun a f e => f ?_) ((RepL.flatNw t).imp fun a f e => f ?_)
    · rw [List.all_cons, Bool.and_eq_true] at e; exact e.1
    · rw [List.all_cons, Bool.and_eq_true] at e; exact e.2
theorem XOk.callA {G H : Hp} {vs : List (Option V)} {its : List TL.It} {P : D → Prop} (hE : XOk G0 E Xc) (En : EnvG G0 G H vs its) : XOk ⟨G, fun a => (H a).isSome && (G a).isNone, H⟩ E (excA (outA P Xc)) := by
  intro C ns nw es dx fs H2 G2 hx le1 le2 tp fr hdx hns rp
  have sOf : ∀ a o, H a = some o → G a = none → ((H a).isSome && (G a).isNone) = true := fun a o h1 h2 => by rw [h1, h2]; rfl
  have e : Le H H2 := fun a o h => by
    cases z : G a with
    | some u => have := En.le a u z; rw [h] at this; cases this; exact le2 _ _ (le1 _ _ z)
    | none => rw [(fr a (sOf a o h z)).2]; exact h
  have E2 := En.grow le1 le2 tp e fun a h1 h2 => by
    cases z : H a with
    | none => rfl
    | some u => rw [(fr a (sOf a u z h1)).1] at h2; cases h2
  exact hE C ns _ es dx fs H2 G2 hx E2.l0 E2.le E2.tp (fun a h => ⟨(E2.fr a h).1, (E2.fr a h).2.1⟩) hdx hns rp.flatNw
theorem snd_callA {F : Fn} {f : TDF} (hE : XOk G0 E Xc) (ha : SndF G0 al f) : SndE G0 (tCall (spA F) [] E al) (tdCallA F Xc f) := by
  intro vs ka sg H r P Q hl En hp k
  refine ha vs ka sg H r _ _ hl En hp fun ws H' nw ds r' G l E' p h' => ?_
  rw [List.append_nil]
  refine ⟨G, ds, _, E'.le, E'.tp, p.imp fun _ _ => trivial, h', fun d v H2 G2 kd e1 e2 e3 tp gr rd => ?_, hE.callA E'⟩
  exact k v H2 _ r' l ⟨G2, (E'.grow e2 e3 tp e1 gr).pushFz rd.flatNw⟩ kd
def tdCallDA (i : Nat) (F : FnS) (f : TDF) : TDE := fun r P => (∃ a q g, r[i]? = some (.st a q g)) ∧ f r fun nw ds r1 => ∃ a q g, r1[i]? = some (.st a q g) ∧ F g ds (fun g' => outK (fun d => P (.fz (isFlat d) d) (r1.set i (.st a q g'))) fun _ _ _ _ => False)
theorem snd_callDA {i : Nat} {F : FnS} {f : TDF} (ha : SndF G0 al f) : SndE G0 (tCall (spDA F) [] E (tCons (tVar i) al)) (tdCallDA i F f) := by
  intro vs ka sg H r P Q hl En hp k
  obtain ⟨⟨a0, q0, g0, hi0⟩, hp⟩ := hp
  obtain ⟨v, hv⟩ : ∃ v, sg[i]? = some (some v) := by
    obtain ⟨G, En⟩ := En
    exact slot_val En hl hi0 rfl
  refine ⟨v, hv, ?_⟩
  refine ha vs ka sg H r _ _ hl En hp fun ws H' nw ds r' G l E' p h' => ?_
  obtain ⟨a, q, g, hi, h3⟩ := h'
  rw [List.append_nil]
  have hst : (ka ++ r')[ka.length + i]? = some (.st a q g) := by rw [get_app]; exact hi
  have ok := E'.ok _ _ hst
  rw [getD_app hl, List.getD_eq_getElem?_getD, hv] at ok
  have ev : v = .ref a := by have := ok.1; simpa using this
  subst ev
  have oa := E'.out (ka.length + i) _ a hst (by simp [It.reg])
  have oq := E'.out (ka.length + i) _ q hst (by simp [It.reg])
  refine ⟨a, q, g, ws, ds, _, G, rfl, ok.2, E'.le, oa.1, oq.1, E'.tp, p.imp fun _ _ => trivial, h3, fun g' d w H2 G2 kd kp so e2 e3 tp gr rd => ?_⟩
  have E2 : EnvG G0 G2 H2 (vs ++ sg) ((ka ++ r').set (ka.length + i) (.st a q g')) := by
    refine E'.put hst e2 e3 tp (fun b o h1 h2 => ?_) (fun b h1 h2 => .inl (gr b h1 h2)) ⟨by rw [getD_app hl, List.getD_eq_getElem?_getD, hv]; rfl, so⟩ fun b h1 => ?_
    · have : b ≠ a ∧ b ≠ q := by simpa [It.reg] using h1
      exact kp _ _ this.1 this.2 h2
    · have n2 : ∀ b, G b = none → (H' b).isSome = true → G2 b = none := fun b z1 z2 => by
        cases z : G2 b with
        | none => rfl
        | some o =>
          have := gr b z1 (by rw [z]; rfl)
          rw [this] at z2; cases z2
      have h1 : b = a ∨ b = q := by simpa [It.reg] using h1
      rcases h1 with rfl | rfl
      · exact ⟨.inr (by simp [It.reg]), n2 _ oa.1 oa.2, by rw [so.2.1]; rfl⟩
      · exact ⟨.inr (by simp [It.reg]), n2 _ oq.1 oq.2, by rw [so.2.2]; rfl⟩
  rw [set_app] at E2
  exact k w H2 _ _ (by simpa using l) ⟨_, E2.pushFz rd.flatNw⟩ kd
end
section
variable {P : Program} {w : World} {K : PySem.W.Frag} {mg : Str → Option Value} {base : Heap} {x qual : Str} {params : Arguments} {body : List Stmt} {scope : Scope} {f : Addr} {fd : FuncData} {N ps : List Str} {k : Nat}
def nos (n : Nat) : List TL.It := List.replicate n .no
theorem env_nos {G0 : Bs} {G H : Hp} (l0 : Le G0.g G) (le : Le G H) (tp : ∀ a xs, H a = some (.tup xs) → G a = some (.tup xs)) (fr : ∀ a, G0.S a = true → G a = none ∧ H a = G0.h a ∧ (H a).isSome = true) (n : Nat) : EnvG G0 G H (List.replicate n none) (nos n) :=
  have no : ∀ (i : Nat) (x : TL.It), (nos n)[i]? = some x → x = .no := fun i x h => by
    simp [nos, List.getElem?_replicate] at h
    exact h.2.symm
  ⟨by simp [nos], l0, le, tp, fun i x h => by rw [no i x h]; trivial, fun i j x y a hx _ r1 _ => by rw [no i x hx] at r1; simp [It.reg] at r1, fun i x a hx r1 => by rw [no i x hx] at r1; simp [It.reg] at r1, fr, fun i x a hx r1 => by rw [no i x hx] at r1; simp [It.reg] at r1⟩
theorem env_fzs {G0 : Bs} {G H : Hp} (l0 : Le G0.g G) (le : Le G H) (tp : ∀ a xs, H a = some (.tup xs) → G a = some (.tup xs)) (fr : ∀ a, G0.S a = true → G a = none ∧ H a = G0.h a ∧ (H a).isSome = true) (n : Nat) : ∀ {vs : List V} {ds : List D}, RepL (fun _ => True) G vs ds → EnvG G0 G H (vs.map some ++ List.replicate n none) (ds.map (.fz false) ++ nos n)
  | _, _, .nil => env_nos l0 le tp fr n
  | _, _, .cons r t => (env_fzs l0 le tp fr n t).pushFz (r.imp fun _ _ h => by cases h)
theorem start_eq {N : List Str} {vs : List V} {ds : List D} (h : vs.length = ds.length) : L2.start N vs = vs.map some ++ List.replicate (N.length - ds.length) none := by unfold L2.start; rw [h]
/-- what a body hands back: new -/
def rtP (Kc : Out → Prop) : TEnds := { nx := fun _ => Kc (.ret .non), rt := fun x _ => ∃ n d, x.view = some (n, d) ∧ (n || isFlat d) = true ∧ Kc (.ret d) }
theorem okP {Fs : Fn} (F : FunD K x qual params body scope [] [] f fd) (S : FnScope N ps scope) (hn : ∀ ds Kc, Fs ds Kc → ds.length = ps.length)
    (hbody : ∀ (cdv : Value) (A : Around) (outer : List PySem.Env) (s : Shared) (H : Hp) (E : XK), Room k (A.deeper (envOfC qual scope s.heap.objs.size f cdv)) →
      ∃ (ts : TS) (t : XC → TDS), PSs (cxOf (L2.CX P w) P w K mg base N qual scope f cdv A outer s H E) body ts ∧ (∀ Xc, XOk (Bs.of H) E Xc → SndS (Bs.of H) ts (t Xc)) ∧
        ∀ ds Kc, Fs ds Kc → t (excK Kc) (rtP Kc) (ds.map (.fz false) ++ nos (N.length - ds.length))) :
    FnOk P w K mg base (L2.CX P w) (k + 1) f fd ps (spP Fs) := by
  refine F.ok S (fun vs H Q E ⟨ds, Kc, r, h, _⟩ => r.length.trans (hn ds Kc h)) fun cdv A outer s H vs Q E hr ⟨ds, Kc, r, h, q, hx⟩ => ?_
  obtain ⟨ts, t, d1, d2, d3⟩ := hbody cdv A outer s H E hr
  refine ⟨ts, d1, ?_⟩
  rw [start_eq r.length]
  refine d2 _ hx [] [] _ H _ _ _ rfl ⟨H, env_fzs (G0 := Bs.of H) (Le.refl _) (Le.refl _) (fun _ _ h => h) (fun _ h => by cases h) _ r⟩ (d3 ds Kc h) ⟨fun sg H' r' E' h' => ?_, fun v sg H' x r' E' h' => ?_, fun _ _ _ _ h => h.elim, fun _ _ _ _ h => h.elim⟩
  · obtain ⟨G, E'⟩ := E'
    exact q _ _ H' h' (E'.l0.trans E'.le) .non
  · obtain ⟨n, d, hv, hn, h'⟩ := h'
    obtain ⟨G, E'⟩ := E'
    have X := E'.itx (i := 0) (x := x) rfl
    exact q d v H' h' (E'.l0.trans E'.le) ((X.rep E'.l0 E'.le hv).nwFlat.imp fun a z => z hn)
/-- .. it may be a part of what was handed -/
def rtA (Kc : Out → Prop) : TEnds := { nx := fun _ => Kc (.ret .non), rt := fun x _ => ∃ nw d, x.view = some (nw, d) ∧ Kc (.ret d) }
theorem okA {Fs : Fn} (F : FunD K x qual params body scope [] [] f fd) (S : FnScope N ps scope) (hn : ∀ ds Kc, Fs ds Kc → ds.length = ps.length)
    (hbody : ∀ (cdv : Value) (A : Around) (outer : List PySem.Env) (s : Shared) (H : Hp) (B : Bs) (E : XK), Room k (A.deeper (envOfC qual scope s.heap.objs.size f cdv)) →
      ∃ (ts : TS) (t : XC → TDS), PSs (cxOf (L2.CX P w) P w K mg base N qual scope f cdv A outer s H E) body ts ∧ (∀ Xc, XOk B E Xc → SndS B ts (t Xc)) ∧
        ∀ ds Kc, Fs ds Kc → t (excA Kc) (rtA Kc) (ds.map (.fz false) ++ nos (N.length - ds.length))) :
    FnOk P w K mg base (L2.CX P w) (k + 1) f fd ps (spA Fs) := by
  refine F.ok S (fun vs H Q E ⟨G, ds, Kc, _, _, r, h, _⟩ => r.length.trans (hn ds Kc h)) fun cdv A outer s H vs Q E hr ⟨G, ds, Kc, le, tp, r, h, q, hx⟩ => ?_
  -- all else that stands is a frame
  obtain ⟨ts, t, d1, d2, d3⟩ := hbody cdv A outer s H ⟨G, fun a => (H a).isSome && (G a).isNone, H⟩ E hr
  refine ⟨ts, d1, ?_⟩
  rw [start_eq r.length]
  have sOf : ∀ a u, G a = none → H a = some u → ((H a).isSome && (G a).isNone) = true := fun a u h1 h2 => by rw [h1, h2]; rfl
  have E0 := env_fzs (G0 := ⟨G, fun a => (H a).isSome && (G a).isNone, H⟩) (Le.refl G) le tp (fun a h => by
    have h : ((H a).isSome && (G a).isNone) = true := h
    rw [Bool.and_eq_true] at h
    exact ⟨by simpa using h.2, rfl, h.1⟩) (N.length - ds.length) r
  have keep : ∀ {H' G' : Hp} {n : List (Option V)} {m : List TL.It}, EnvG ⟨G, fun a => (H a).isSome && (G a).isNone, H⟩ G' H' n m → Le H H' ∧ ∀ a, G a = none → (G' a).isSome = true → H a = none := fun {H' G' n m} E' => by
    refine ⟨fun a u h => ?_, fun a h1 h2 => ?_⟩
    · cases z : G a with
      | some u' =>
        have := le a u' z
        rw [h] at this; cases this
        exact E'.le _ _ (E'.l0 _ _ z)
      | none => rw [(E'.fr a (sOf a u z h)).2.1]; exact h
    · cases z : H a with
      | none => rfl
      | some u =>
        have := (E'.fr a (sOf a u h1 z)).1
        rw [this] at h2; cases h2
  refine d2 _ hx [] [] _ H _ _ _ rfl ⟨G, E0⟩ (d3 ds Kc h) ⟨fun sg H' r' E' h' => ?_, fun v sg H' x r' E' h' => ?_, fun _ _ _ _ h => h.elim, fun _ _ _ _ h => h.elim⟩
  · obtain ⟨G', E'⟩ := E'
    obtain ⟨k1, k2⟩ := keep E'
    exact q _ _ H' G' h' k1 E'.l0 E'.le E'.tp k2 .non
  · obtain ⟨nw, d, hv, h'⟩ := h'
    obtain ⟨G', E'⟩ := E'.freeze0 hv
    obtain ⟨k1, k2⟩ := keep E'
    exact q d v H' G' h' k1 E'.l0 E'.le E'.tp k2 ((fz_val E').imp fun _ _ => trivial)
/-- with draws -/
def rtD (a q : Addr) (Kc : PS → Out → Prop) : TEnds := { nx := fun r => ∃ g', r[0]? = some (.st a q g') ∧ Kc g' (.ret .non), rt := fun x r => ∃ n d g', x.view = some (n, d) ∧ (n || isFlat d) = true ∧ r[0]? = some (.st a q g') ∧ Kc g' (.ret d) }
theorem okD {Fs : FnS} (F : FunD K x qual params body scope [] [] f fd) (S : FnScope N ps scope) (hn : ∀ g ds Kc, Fs g ds Kc → ds.length + 1 = ps.length)
    (hbody : ∀ (cdv : Value) (A : Around) (outer : List PySem.Env) (s : Shared) (H : Hp) (G0 : Bs) (E : XK), Room k (A.deeper (envOfC qual scope s.heap.objs.size f cdv)) →
      ∃ (ts : TS) (t : TDS), PSs (cxOf (L2.CX P w) P w K mg base N qual scope f cdv A outer s H E) body ts ∧ SndS G0 ts t ∧
        ∀ a q g ds Kc, Fs g ds Kc → t (rtD a q Kc) (.st a q g :: (ds.map (.fz false) ++ nos (N.length - (ds.length + 1))))) :
    FnOk P w K mg base (L2.CX P w) (k + 1) f fd ps (spD Fs) := by
  refine F.ok S (fun vs H Q E ⟨a, q, g, ws, ds, Kc, e, _, r, h, _⟩ => by rw [e, List.length_cons, r.length]; exact hn g ds Kc h) fun cdv A outer s H vs Q E hr ⟨a, q, g, ws, ds, Kc, e, so, r, h, kq⟩ => ?_
  subst e
  obtain ⟨ts, t, d1, d2, d3⟩ := hbody cdv A outer s H (Bs.of (hid H a q)) E hr
  refine ⟨ts, d1, ?_⟩
  rw [start_eq (ds := .non :: ds) (by simp [r.length])]
  have tp : ∀ b xs, H b = some (.tup xs) → hid H a q b = some (.tup xs) := fun b xs z => by
    rw [hid_ne (fun e => by rw [e, so.2.1] at z; cases z) (fun e => by rw [e, so.2.2] at z; cases z)]; exact z
  have E0 := env_fzs (G0 := Bs.of (hid H a q)) (Le.refl (hid H a q)) (hid_le H a q) tp (fun _ h => by cases h) (N.length - (ds.length + 1)) r
  have noreg : ∀ (i : Nat) (y : TL.It) (b : Addr), (ds.map (TL.It.fz false) ++ nos (N.length - (ds.length + 1)))[i]? = some y → y.reg b = true → False := fun i y b h r1 => by
    have : y ∈ ds.map (TL.It.fz false) ++ nos (N.length - (ds.length + 1)) := List.mem_of_getElem? h
    rcases List.mem_append.mp this with h | h
    · obtain ⟨d, _, rfl⟩ := List.mem_map.mp h; simp [It.reg] at r1
    · have : y = .no := by have := List.eq_of_mem_replicate h; exact this
      subst this; simp [It.reg] at r1
  have ro : ∀ b, TL.It.reg (.st a q g) b = true → hid H a q b = none ∧ (H b).isSome = true := fun b h => by
    have h : b = a ∨ b = q := by simpa [It.reg] using h
    rcases h with rfl | rfl
    · exact ⟨hid_a, by rw [so.2.1]; rfl⟩
    · exact ⟨hid_q, by rw [so.2.2]; rfl⟩
  have E1 : EnvG (Bs.of (hid H a q)) (hid H a q) H (some (.ref a) :: (ws.map some ++ List.replicate (N.length - (ds.length + 1)) none)) (.st a q g :: (ds.map (.fz false) ++ nos (N.length - (ds.length + 1)))) := ⟨by simpa using E0.len, E0.l0, E0.le, E0.tp, fun i y hy => by
      cases i with
      | zero => simp at hy; subst hy; exact ⟨rfl, so⟩
      | succ i => have := E0.ok i y (by simpa using hy); simpa using this, fun i j y z b hy hz ry rz => by
      cases i with
      | zero =>
        cases j with
        | zero => rfl
        | succ j => exact (noreg j z b (by simpa using hz) rz).elim
      | succ i => exact (noreg i y b (by simpa using hy) ry).elim, fun i y b hy ry => by
      cases i with
      | zero => simp at hy; subst hy; exact ro b ry
      | succ i => exact (noreg i y b (by simpa using hy) ry).elim, fun _ h => (by cases h), fun _ _ _ _ _ => rfl⟩
  have endG : ∀ {n : List (Option V)} {m : List TL.It} {sg : L2.St} {r' : Rho} {H' G' : Hp} {g' : PS}, EnvG (Bs.of (hid H a q)) G' H' (n ++ sg) (m ++ r') → n.length = m.length → r'[0]? = some (.st a q g') →
      (∀ x o, x ≠ a → x ≠ q → H x = some o → H' x = some o) ∧ StOk H' a q g' ∧ Le G' (hid H' a q) := fun {n m sg r' H' G' g'} E' hl hr => by
    have hst : (m ++ r')[m.length + 0]? = some (.st a q g') := by rw [get_app]; exact hr
    have ok := E'.ok _ _ hst
    have oa := E'.out _ _ a hst (by simp [It.reg])
    have oq := E'.out _ _ q hst (by simp [It.reg])
    refine ⟨fun x o h1 h2 h3 => E'.le _ _ (E'.l0 _ _ (show hid H a q x = some o by rw [hid_ne h1 h2]; exact h3)), ok.2, fun x o z => ?_⟩
    rw [hid_ne (fun e => by rw [e, oa.1] at z; cases z) (fun e => by rw [e, oq.1] at z; cases z)]
    exact E'.le _ _ z
  refine d2 [] [] _ H _ _ _ rfl ⟨_, E1⟩ (d3 a q g ds Kc h) ⟨fun sg H' r' E' h' => ?_, fun v sg H' x r' E' h' => ?_, fun _ _ _ _ h => h.elim, fun _ _ _ _ h => h.elim⟩
  · obtain ⟨g', h1, h2⟩ := h'
    obtain ⟨G', E'⟩ := E'
    obtain ⟨k1, k2, k3⟩ := endG (n := []) (m := []) E' rfl h1
    exact kq g' _ _ H' h2 k1 k2 .non
  · obtain ⟨n, d, g', hv, hn, h1, h2⟩ := h'
    obtain ⟨G', E'⟩ := E'.freeze0 hv
    obtain ⟨k1, k2, k3⟩ := endG (n := [some v]) (m := [.fz n d]) E' rfl h1
    refine kq g' d v H' h2 k1 k2 ((fz_val E').nwFlat.car ⟨fun b vs _ z => k3 _ _ z, fun b vs _ z => k3.rd z, fun b vs _ z => k3.rd z, fun b vs z => k3 _ _ z, fun b C dx fs _ z => k3 _ _ z, fun b z n => ?_⟩)
    have z : hid H a q b = none := z hn
    have n := nt_some n
    by_cases h1 : b = a
    · subst h1
      cases y : G' b with
      | none => rw [y] at n; cases n
      | some o => have := k3 _ _ y; rw [hid_a] at this; cases this
    · by_cases h2 : b = q
      · subst h2
        cases y : G' b with
        | none => rw [y] at n; cases n
        | some o => have := k3 _ _ y; rw [hid_q] at this; cases this
      · rw [hid_ne h1 h2] at z; exact z
end
end TL
namespace TL
open PySem L2
theorem opd_dat {r : Rho} {o : Opd} : o.dat r = (o.it r).view.map (·.2) := rfl
theorem opd_cview {r : Rho} {o : Opd} : o.cview r = (o.it r).cview := rfl
def tdYes : TDT := fun r P => P true r
theorem snt_yes {G0 : Bs} : SndT G0 tYes tdYes := fun vs ka sg H r P Q hl E h k => k true H r rfl E h
theorem view_fz {nw d} : (It.fz nw d).view = some (nw, d) := rfl
theorem view_ow {p nw d} : (It.ow p nw d).view = some (nw, d) := rfl
theorem view_dp {S d} : (It.dp S d).view = some (true, d) := rfl
theorem cview_fz {nw d} : (It.fz nw d).cview = some (nw, d) := rfl
theorem cview_ow {p nw d} : (It.ow p nw d).cview = some (nw, d) := rfl
theorem it_sl {r i} : (Opd.sl i).it r = r.getD i .no := rfl
theorem it_tm {r x} : (Opd.tm x).it r = x := rfl
theorem val_fz {nw d} : (It.fz nw d).isVal = true := rfl
theorem val_ow {p nw d} : (It.ow p nw d).isVal = true := rfl
theorem val_dp {S d} : (It.dp S d).isVal = true := rfl
theorem val_st {a q g} : (It.st a q g).isVal = true := rfl
/-- a def of the text -/
def DefAt (K : PySem.W.Frag) (mg : Str → Option Value) (x : Str) (st : Stmt) : Prop := ∃ f fd, FunD K x x (defArgs st) (defBody st) (defScope st) [] [] f fd ∧ mg x = some (.ref f)
/-- it keeps its promise -/
def Has (P : Program) (w : World) (K : PySem.W.Frag) (mg : Str → Option Value) (base : Heap) (x : Str) (lv : Nat) (ps : List Str) (sp : Sp) : Prop :=
  ∃ f fd, FnOk P w K mg base (L2.CX P w) lv f fd ps sp ∧ mg x = some (.ref f) ∧ PySem.W.keepIn K (.ref f) = true ∧ Binds K fd ps []
theorem wR_wR (own : List Nat) (r : Rho) : wR own (wR own r) = wR own r := by
  apply List.ext_getElem?
  intro j
  have key : ∀ (own : List Nat) (q : Rho), (wR own q)[j]? = if j ∈ own then (if j < q.length then some .no else none) else q[j]? := by
    intro own q
    induction own with
    | nil => simp [wR]
    | cons i is ih =>
      show ((wR is q).set i .no)[j]? = _
      by_cases hi : i = j
      · subst hi; rw [List.getElem?_set]; simp [wR_length]
      · rw [List.getElem?_set_ne hi, ih]; simp [Ne.symm hi]
  rw [key own (wR own r), key own r, wR_length]
  split <;> rfl
/-- a comprehension whose element is a function of the item -/
theorem lc_map {tg : TDG} {s : TDT} {t : TDE} {own : List Nat} {P : TL.It → Rho → Prop} {ys : List TL.It} {r1 : Rho} (f : TL.It → D) (nw : Bool) (hz : ys.length ≤ sizeLine)
    (h : ∀ x ∈ ys, ∀ Q : Bool → D → Rho → Prop, (∀ n r4, (nw = true → n = true) → wR own r4 = wR own r1 → Q n (f x) r4) → tg x (wR own r1) fun r2 => s r2 fun b r3 => b = true ∧ t r3 fun y r4 => ∃ n d, y.view = some (n, d) ∧ Q n d r4)
    (mono : ∀ {x : TL.It} {r : Rho} {A B : Rho → Prop}, (∀ r, A r → B r) → tg x r A → tg x r B) (smono : ∀ {r : Rho} {A B : Bool → Rho → Prop}, (∀ b r, A b r → B b r) → s r A → s r B)
    (k : ∀ p, P (.ow p nw (.seq false (ys.map f))) (wR own r1)) : lcB tg s t own P ys r1 := by
  refine ⟨hz, nw, fun i acc r => acc = (ys.take i).map f ∧ wR own r = wR own r1, ⟨rfl, wR_wR _ _⟩, ?_, ?_⟩
  · rintro i x acc r' hx ha ⟨rfl, hr⟩
    rw [hr]
    refine mono (fun r2 h2 => smono (fun b r3 h3 => ?_) h2) (h x (List.mem_of_getElem? hx) (fun n d r4 => (nw = true → n = true) ∧ ((ys.take i).map f ++ [d] = (ys.take (i + 1)).map f) ∧ wR own (wR own r4) = wR own r1) fun n r4 h1 h2 => ⟨h1, ?_, by rw [wR_wR]; exact h2⟩)
    · obtain ⟨hb, h3⟩ := h3
      exact ⟨fun _ => h3, fun e => by rw [hb] at e; cases e⟩
    · rw [List.take_succ, hx]; simp
  · rintro acc r' _ ⟨rfl, hr⟩ p
    rw [List.take_length, hr]
    exact k p
end TL
namespace TL
open PySem PySem.Spec PyProof.Rows L2 SrtO
section
variable {prog : Program} {w : World} {A : Around} {E : Value → Shared → Prop} {s : Shared}
theorem collect_tup {l : Addr} {vs : List Value} {Q : List Value → Shared → Prop} (hl : s.heap.IsTuple l vs.toArray)
    (h : Q vs { s with heap := (s.heap.push (seqObj "list" #[] 0)).update s.heap.objs.size (Obj.mapSeq (· ++ vs.toArray)) }) (hsz : vs.length ≤ sizeLine) :
    wpAny (model prog w) A (collect (.ref l)) Q E s := by
  obtain ⟨o, ho, hc, n, hd⟩ := id hl
  unfold collect
  refine wpAny_bind (wpAny_runValue (codeAny_builtin entry_proto_collect' ?_))
  show wpAny _ _ (do again (.builtin "list.__iadd__" ⟨[← newList [], .ref l], []⟩)) _ _ s
  refine wpAny_bind (wpAny_newList (wpAny_pure ⟨Code.quiet_builtin _ (by decide +kernel), codeAny_builtin entry_list_iadd' ?_⟩))
  show wpAny _ _ (Builtin.List.listExtendWith (.ref s.heap.objs.size) (.ref l) (.ref s.heap.objs.size)) _ _ { s with heap := s.heap.push (seqObj "list" #[] 0) }
  unfold Builtin.List.listExtendWith
  have ho' : (s.heap.push (seqObj "list" #[] 0)).get? l = some o := Heap.get?_push_of_some _ ho
  refine wpAny_bind (wpAny_typeOf (T := "tuple") ⟨o, ho', hc⟩ ?_)
  have ht : (Value.type "tuple" == Value.type "tuple") = true := by rfl
  rw [if_pos (by rw [ht]; simp)]
  refine wpAny_bind (listItems_at ho' hd ?_)
  refine wpAny_bind (listItems_at (xs := #[]) (n := 0) (Heap.get?_push_size _ rfl) rfl ?_)
  rw [if_neg (by simp)]
  refine wpAny_bind (listUpdate_at (xs := #[]) (n := 0) (Heap.get?_push_size _ rfl) rfl ?_ (Nat.zero_le _) (by show (#[] ++ vs.toArray).size ≤ sizeLine + 1; simp only [Array.size_append, List.size_toArray, List.length_nil]; omega))
  refine wpAny_pure ?_
  show wpAny (model prog w) A (do
      let o ← load s.heap.objs.size
      match o.data with
      | .seq xs _ => pure xs.toList
      | _ => unsupported "internal:collect") Q E { s with heap := (s.heap.push (seqObj "list" #[] 0)).update s.heap.objs.size (Obj.mapSeq (· ++ vs.toArray)) }
  refine wpAny_bind (wpAny_load (get?_update_seq (Heap.get?_push_size _ rfl) _) ?_)
  show wpAny _ _ (pure ((#[] : Array Value) ++ vs.toArray).toList) Q E _
  rw [show ((#[] : Array Value) ++ vs.toArray).toList = vs by simp]
  exact wpAny_pure h
theorem sorted_ordT {l : Addr} {vs : List Value} {ltv : Value → Value → Bool} {Q : Value → Shared → Prop} (O : Swo ltv) (hl : s.heap.IsTuple l vs.toArray) (hz : vs.length ≤ sizeLine)
    (hS : 2 ≤ vs.length → ∀ (h₁ : Heap) (a : Addr), h₁.get? a = some (seqObj "list" vs.toArray 0) → (∀ b o, s.heap.get? b = some o → b ≠ a ∧ h₁.get? b = some o) → SortableO prog w A.in1.in1 { s with heap := h₁ } a vs ltv)
    (h : ∀ out : List Value, Srtd ltv out → Stb ltv out vs → Q (.ref (s.heap.objs.size + 1)) { s with heap := sortedAll s.heap vs out.toArray }) :
    wpAny (model prog w) A (call (.builtin "sorted") [.ref l]) Q E s := by
  refine Calls.call_function_entry kind_sorted plain_sorted entry_sorted (args_sorted1 _) ?_
  unfold Builtin.«sorted»
  refine wpAny_bind (m := checkCount "sorted" 1 1 _) (wpAny_pure ?_)
  refine wpAny_bind (collect_tup hl ?_ hz)
  refine wpAny_bind (wpAny_newList ?_ hz)
  have hsz : ((s.heap.push (seqObj "list" #[] 0)).update s.heap.objs.size (Obj.mapSeq (· ++ vs.toArray))).objs.size = s.heap.objs.size + 1 := by
    rw [Heap.size_update, size_push']
  have hoL : (((s.heap.push (seqObj "list" #[] 0)).update s.heap.objs.size (Obj.mapSeq (· ++ vs.toArray))).push (seqObj "list" vs.toArray 0)).get? (s.heap.objs.size + 1) = some (seqObj "list" vs.toArray 0) := by
    rw [← hsz]; exact Heap.get?_push_size _ rfl
  have keep : ∀ b o, s.heap.get? b = some o → b ≠ s.heap.objs.size + 1 ∧ (((s.heap.push (seqObj "list" #[] 0)).update s.heap.objs.size (Obj.mapSeq (· ++ vs.toArray))).push (seqObj "list" vs.toArray 0)).get? b = some o := fun b o q => by
    have hlt : b < s.heap.objs.size := Heap.lt_size q
    refine ⟨Nat.ne_of_lt (Nat.lt_succ_of_lt hlt), Heap.get?_push_of_some _ ?_⟩
    rw [Heap.get?_update_ne _ _ _ _ (Nat.ne_of_lt hlt)]
    exact Heap.get?_push_of_some _ q
  show wpAny _ _ _ _ _ { s with heap := ((s.heap.push (seqObj "list" #[] 0)).update s.heap.objs.size (Obj.mapSeq (· ++ vs.toArray))).push (seqObj "list" vs.toArray 0) }
  rw [hsz]
  refine wpAny_bind (wpAny_holding (wpAny_call_entry slot_list_sort ⟨_, hoL, rfl⟩ entry_list_sort (list_sort_ord O hoL hz (fun h2 => hS h2 _ _ hoL keep) fun out hs hb => ⟨_, rfl, ?_⟩) (args_list_sort _)))
  exact wpAny_pure ⟨_, rfl, h out hs hb⟩
end
section
variable {X : Cx}
/-- sorted(xs): ints, a list or a tuple, any number -/
def rSortedQ (K : PySem.W.Frag) : RA := fun vs H Q => ∃ (a : Addr) (ns : List Int), vs = [V.ref a] ∧ (SqL K H a (ns.map V.int) ∨ SqT K H a (ns.map V.int)) ∧
  ∀ (ns' : List Int) (p : Addr), ns'.Perm ns → ns'.Pairwise (· ≤ ·) → H p = none → Q (.ref p) (upd H p (.lst (ns'.map V.int)))
theorem cr_sortedQ : CallR X (.builtin "sorted") (rSortedQ X.K) := by
  intro pins s σ H vs us Q I r h
  obtain ⟨a, ns, rfl, hs, q⟩ := h
  rw [Vals.ref1 r]
  rcases hs with hs | hs
  · obtain ⟨its, rv, hl, hz⟩ := I.list hs
    have hi := rv.ints
    refine sorted_ord swo_int hl.isList (by rw [← rv.length]; exact hz) (fun h2 h₁ a' _ _ => ints_sortable hi h2) fun out h1 h2 => ?_
    obtain ⟨k1, k2, k3⟩ := ints_out hi h1 h2
    obtain ⟨ep, he'⟩ := PyProof.Rows.sortedAll_at s.heap its out.toArray
    have hlen : ((out.map iv).map V.int).length ≤ sizeLine := by
      rw [List.length_map, k2.length_eq]
      rw [List.length_map] at hz
      exact hz
    exact ⟨.ref _, upd H (s.heap.objs.size + 1) (.lst ((out.map iv).map V.int)), I.laid (t' := s.toks) (fun _ _ => PyProof.Rows.sortedAll_old) (Nat.le_succ _) ⟨hlen, out, ep, vals_of_ints k1, he'⟩, rfl, q _ _ k2 k3 (I.hok.fresh (Nat.le_succ _))⟩
  · obtain ⟨its, rv, hl, hz⟩ := I.tuple hs
    have hi := rv.ints
    refine sorted_ordT swo_int (show s.heap.IsTuple a its.toArray from hl) (by rw [← rv.length]; exact hz) (fun h2 h₁ a' _ _ => ints_sortable hi h2) fun out h1 h2 => ?_
    obtain ⟨k1, k2, k3⟩ := ints_out hi h1 h2
    obtain ⟨ep, he'⟩ := PyProof.Rows.sortedAll_at s.heap its out.toArray
    have hlen : ((out.map iv).map V.int).length ≤ sizeLine := by
      rw [List.length_map, k2.length_eq]
      rw [List.length_map] at hz
      exact hz
    exact ⟨.ref _, upd H (s.heap.objs.size + 1) (.lst ((out.map iv).map V.int)), I.laid (t' := s.toks) (fun _ _ => PyProof.Rows.sortedAll_old) (Nat.le_succ _) ⟨hlen, out, ep, vals_of_ints k1, he'⟩, rfl, q _ _ k2 k3 (I.hok.fresh (Nat.le_succ _))⟩
/-- len of anything -/
def rLenA (K : PySem.W.Frag) : RA := fun xs H Q => (∃ x n, xs = [x] ∧ LenV K x H n ∧ Q (.int n) H) ∨ (∃ d kvs, xs = [.ref d] ∧ Rd H d (.dK kvs) ∧ Q (.int kvs.length) H)
theorem call_lenA : CallR X (.builtin "len") (rLenA X.K) := by
  intro pins s σ H xs us Q I r h
  rcases h with h | ⟨d, kvs, rfl, hd, q⟩
  · exact call_len pins s σ H xs us Q I r h
  · rw [Vals.ref1 r]
    exact d_len I hd fun t s' I' => ⟨.int kvs.length, H, I', ⟨t, rfl⟩, q⟩
/-- isinstance(x, T) -/
def D.tag : D → Option String
  | .non => some "NoneType" | .bl _ => some "bool" | .int _ => some "int" | .str _ => some "str"
  | .seq false _ => some "list" | .seq true _ => some "tuple" | .dk _ _ => some "dict"
  | _ => none
def isIn (a b : String) : Bool := a == b || (a == "bool" && b == "int")
def tagsA : List String := ["NoneType", "bool", "int", "str", "list", "tuple", "dict"]
def tagsB : List String := ["bool", "int", "str", "list", "tuple", "dict"]
theorem kit_tab : (tagsA.all fun a => tagsB.all fun b => decide (kitB a b = some (isIn a b))) = true := by decide +kernel
theorem kit_at {K : PySem.W.Frag} {a b : String} (ha : a ∈ tagsA) (hb : b ∈ tagsB) : PySem.W.kitOne K (.type a) (.type b) = some (isIn a b) :=
  kit_ty (of_decide_eq_true (List.all_eq_true.mp (List.all_eq_true.mp kit_tab a ha) b hb))
theorem tag_in {d : D} {t : String} (h : d.tag = some t) : t ∈ tagsA := by
  cases d with
  | seq b xs => cases b <;> (cases h; decide)
  | dt => cases h
  | ins => cases h
  | _ => cases h; decide
theorem Rep.tyX {K : PySem.W.Frag} {phi : Addr → Prop} {H : Hp} {v : V} {d : D} {t : String} (r : Rep phi H v d) (h : d.tag = some t) : TyX K H v (.type t) := by
  cases r with
  | non => cases h; exact .base .non
  | bl b => cases h; exact .base (.bl b)
  | int i => cases h; exact .base (.int i)
  | str x => cases h; exact .base (.str x)
  | lst hl p q =>
    cases h
    exact .base (.lst hl)
  | tup hl q => cases h; exact .base (.tup hl)
  | dk hl p e q =>
    cases h
    rcases hl with hl | ⟨o, hl⟩
    · exact .base (.dK hl)
    · exact .fDict hl
  | dt => cases h
  | ins => cases h
end
section
variable {G0 : Bs} {te ta tb tc : TE} {t u : TDE} {toa tob toc : TDO} {tt : TT} {s : TDT} {ts tu : TS} {ds du : TDS} {al : TA} {tal : TDA} {K : PySem.W.Frag}
def isAny (a : String) (bs : List String) : Bool := bs.any (isIn a)
/-- isinstance with one class -/
def tdIsi (bs : List String) (toa : TDO) : TDE := fun r P => toa r fun x r1 => ∃ d tg, x.dat r1 = some d ∧ d.tag = some tg ∧ P (.fz true (.bl (isAny tg bs))) r1
theorem snd_isi {b : String} (hb : b ∈ tagsB) (ha : SndO G0 ta toa) : SndE G0 (tCB (rIsi K) (tCons ta (tCons (tC (.ty b)) tNil))) (tdIsi [b] toa) := by
  intro vs ka sg H r P Q hl E hp k
  show ta sg H fun x H1 => rIsi K [x, .ty b] H1 Q
  refine one ha hl E hp fun x ox H2 r2 G l E2 ix h2 => ?_
  obtain ⟨d, tg, e1, e2, h3⟩ := h2
  have rx := dat_rep E2 ix e1
  refine ⟨x, .ty b, .type tg, .type b, isIn tg b, rfl, .ty b, rx.tyX e2, kit_at (tag_in e2) hb, ?_⟩
  have e : isIn tg b = isAny tg [b] := by simp [isAny]
  rw [e]
  exact k _ H2 _ r2 l ⟨G, E2.tail.pushFlat rfl⟩ h3
def tyTA : List String → TA
  | [] => tNil
  | b :: bs => tCons (tC (.ty b)) (tyTA bs)
theorem tyTA_run {sg : L2.St} {H : Hp} {Q : List V → Hp → Prop} : ∀ {bs : List String}, Q (bs.map V.ty) H → tyTA bs sg H Q
  | [], h => h
  | b :: bs, h => by
    show tyTA bs sg H fun xs H2 => Q (V.ty b :: xs) H2
    exact tyTA_run (bs := bs) h
theorem kit_any {K : PySem.W.Frag} {a : String} (ha : a ∈ tagsA) : ∀ {bs : List String}, (∀ b ∈ bs, b ∈ tagsB) → PySem.W.kitAny K (.type a) (bs.map Value.type) = some (isAny a bs)
  | [], _ => kitAny_nil
  | b :: bs, h => by
    refine kitAny_cons (kit_at ha (h b List.mem_cons_self)) (fun e => ?_) fun e => ?_
    · rw [kit_any ha fun c hc => h c (List.mem_cons_of_mem _ hc)]
      simp [isAny, e]
    · simp [isAny, e]
theorem cls_all : ∀ bs : List String, Paired ClsV (bs.map V.ty) (bs.map Value.type)
  | [] => .nil
  | b :: bs => .cons (.ty b) (cls_all bs)
theorem snd_isiT {bs : List String} (hb : ∀ b ∈ bs, b ∈ tagsB) (hz : bs.length ≤ sizeLine) (ha : SndO G0 ta toa) : SndE G0 (tCB (rIsiT K) (tCons ta (tCons (tTup (tyTA bs)) tNil))) (tdIsi bs toa) := by
  intro vs ka sg H r P Q hl E hp k
  show ta sg H fun x H1 => tyTA bs sg H1 fun ys H2 => ys.length ≤ sizeLine ∧ ∀ p, H2 p = none → rIsiT K [x, .ref p] (upd H2 p (.tup ys)) Q
  refine one ha hl E hp fun x ox H2 r2 G l E2 ix h2 => tyTA_run ?_
  obtain ⟨d, tg, e1, e2, h3⟩ := h2
  refine ⟨by simpa using hz, fun p hp' => ?_⟩
  have rx := (dat_rep E2 ix e1).mono (Le.nw (o := .tup (bs.map V.ty)) hp')
  refine ⟨x, p, bs.map V.ty, .type tg, bs.map Value.type, isAny tg bs, rfl, upd_same, cls_all bs, rx.tyX e2, kit_any (tag_in e2) hb, ?_⟩
  -- the classes' tuple is dropped
  have E3 : EnvG G0 G H2 (vs ++ sg) (ka ++ r2) := E2.tail
  have hg := E3.le.nn hp'
  have E4 : EnvG G0 (upd G p (.tup (bs.map V.ty))) (upd H2 p (.tup (bs.map V.ty))) (vs ++ sg) (ka ++ r2) := by
    refine E3.grow (Le.nw hg) (fun a o e => ?_) (fun a xs e => ?_) (Le.nw hp') fun a h1 h2 => ?_
    · by_cases ha : a = p
      · subst ha; rw [upd_same] at e ⊢; exact e
      · rw [upd_ne ha] at e ⊢; exact E3.le _ _ e
    · by_cases ha : a = p
      · subst ha; rw [upd_same] at e ⊢; exact e
      · rw [upd_ne ha] at e ⊢; exact E3.tp _ _ e
    · by_cases ha : a = p
      · subst ha; exact hp'
      · rw [upd_ne ha, h1] at h2; cases h2
  exact k _ _ _ r2 l ⟨_, E4.pushFlat rfl⟩ h3
theorem rep_dk {phi : Addr → Prop} {H : Hp} {v : V} {ks : List Key} {ds : List D} (r : Rep phi H v (.dk ks ds)) : ∃ a kvs, v = .ref a ∧ Rd H a (.dK kvs) ∧ kvs.map (·.1) = ks := by
  cases r with
  | dk h p e q => exact ⟨_, _, rfl, h, e⟩
def CLen : List D → D → Prop := fun ds d => match ds with
  | [.seq _ xs] => d = .int xs.length
  | [.str z] => z.length ≤ sizeLine ∧ d = .int z.length
  | [.dk ks _] => d = .int ks.length
  | _ => False
theorem opa_len : OpA (rLenA K) CLen := by
  intro H ws ds d Q r c k
  match ds, r, c with
  | [.seq b xs], r, c =>
    obtain ⟨w, rfl, rw'⟩ := rep1 r
    subst c
    cases rw' with
    | lst h p q => exact .inl ⟨_, _, rfl, .inl ⟨_, SqL.of h, rfl⟩, by rw [q.length]; exact k _ rfl⟩
    | tup h q => exact .inl ⟨_, _, rfl, .inr ⟨_, SqT.of h, rfl⟩, by rw [q.length]; exact k _ rfl⟩
  | [.str z], r, c =>
    obtain ⟨w, rfl, rw'⟩ := rep1 r
    obtain ⟨c1, rfl⟩ := c
    rw [rep_str rw']
    exact .inl ⟨_, _, rfl, ⟨c1, rfl⟩, k _ rfl⟩
  | [.dk ks vs], r, c =>
    obtain ⟨w, rfl, rw'⟩ := rep1 r
    subst c
    obtain ⟨a, kvs, rfl, h, e⟩ := rep_dk rw'
    refine .inr ⟨a, kvs, rfl, h, ?_⟩
    have : kvs.length = ks.length := by rw [← e]; simp
    rw [this]
    exact k _ rfl
def CAbs : List D → D → Prop := fun ds d => ∃ i : Int, ds = [.int i] ∧ d = .int (if i < 0 then -i else i)
theorem opa_abs : OpA (fun xs H Q => ∃ i, xs = [.int i] ∧ Q (.int (if i < 0 then -i else i)) H) CAbs := by
  rintro H ws ds d Q r ⟨i, rfl, rfl⟩ k
  obtain ⟨w, rfl, rw'⟩ := rep1 r
  exact ⟨i, by rw [rep_int rw'], k _ rfl⟩
def CInt : List D → D → Prop := fun ds d => (∃ i : Int, ds = [.int i] ∧ d = .int i) ∨ ∃ b : Bool, ds = [.bl b] ∧ d = .int (if b then 1 else 0)
theorem opa_int : OpA (fun xs H Q => (∃ i, xs = [.int i] ∧ Q (.int i) H) ∨ ∃ k, xs = [.bl k] ∧ Q (.int (if k then 1 else 0)) H) CInt := by
  rintro H ws ds d Q r (⟨i, rfl, rfl⟩ | ⟨b, rfl, rfl⟩) k
  · obtain ⟨w, rfl, rw'⟩ := rep1 r
    exact .inl ⟨i, by rw [rep_int rw'], k _ rfl⟩
  · obtain ⟨w, rfl, rw'⟩ := rep1 r
    exact .inr ⟨b, by rw [rep_bl rw'], k _ rfl⟩
def CMax2 : List D → D → Prop := fun ds d => ∃ i j : Int, ds = [.int i, .int j] ∧ d = .int (if j > i then j else i)
theorem opa_max2 : OpA (fun xs H Q => ∃ i j, xs = [.int i, .int j] ∧ Q (.int (if j > i then j else i)) H) CMax2 := by
  rintro H ws ds d Q r ⟨i, j, rfl, rfl⟩ k
  obtain ⟨w, u, rfl, rw', ru⟩ := rep2 r
  exact ⟨i, j, by rw [rep_int rw', rep_int ru], k _ rfl⟩
def CMin2 : List D → D → Prop := fun ds d => ∃ i j : Int, ds = [.int i, .int j] ∧ d = .int (if j < i then j else i)
theorem opa_min2 : OpA (fun xs H Q => ∃ i j, xs = [.int i, .int j] ∧ Q (.int (if j < i then j else i)) H) CMin2 := by
  rintro H ws ds d Q r ⟨i, j, rfl, rfl⟩ k
  obtain ⟨w, u, rfl, rw', ru⟩ := rep2 r
  exact ⟨i, j, by rw [rep_int rw', rep_int ru], k _ rfl⟩
def CAll : List D → D → Prop := fun ds d => ∃ bs : List Bool, ds = [.seq false (bs.map .bl)] ∧ d = .bl (bs.all id)
theorem opa_all : OpA (rAll K) CAll := by
  rintro H ws ds d Q r ⟨bs, rfl, rfl⟩ k
  obtain ⟨w, rfl, rw'⟩ := rep1 r
  cases rw' with
  | lst h p q => exact ⟨_, bs, rfl, by rw [← repL_bls q]; exact SqL.of h, k _ rfl⟩
def CSum : List D → D → Prop := fun ds d => ∃ ns : List Int, ds = [.seq false (ns.map .int)] ∧ d = .int ns.sum
theorem opa_sum : OpA (rSum K) CSum := by
  rintro H ws ds d Q r ⟨bs, rfl, rfl⟩ k
  obtain ⟨w, rfl, rw'⟩ := rep1 r
  cases rw' with
  | lst h p q => exact ⟨_, bs, rfl, by rw [← repL_ints q]; exact SqL.of h, k _ rfl⟩
/-- -x -/
def tdNeg (toa : TDO) : TDE := fun r P => toa r fun x r1 => ∃ i, x.dat r1 = some (.int i) ∧ P (.fz true (.int (-i))) r1
theorem snd_neg (ha : SndO G0 ta toa) : SndE G0 (tUn (rU fun i => .int (-i)) ta) (tdNeg toa) := by
  intro vs ka sg H r P Q hl E hp k
  show ta sg H fun x H1 => (rU fun i => V.int (-i)) x H1 Q
  refine one ha hl E hp fun x ox H2 r2 G l E2 ix h2 => ?_
  obtain ⟨i, e1, h3⟩ := h2
  exact ⟨i, rep_int (dat_rep E2 ix e1), k _ H2 _ r2 l ⟨G, E2.tail.pushFlat rfl⟩ h3⟩
/-- list(xs), tuple(xs) of a sequence -/
def CList : List D → List D → Prop := fun ds es => ∃ b, ds = [.seq b es]
theorem opt_tuple : OpT (fun xs H Q => ∃ p ys, xs = [.ref p] ∧ ((SqL K H p ys ∧ ∀ l, H l = none → Q (.ref l) (upd H l (.tup ys))) ∨ (SqT K H p ys ∧ Q (.ref p) H))) CList := by
  rintro R H ws ds es Q hf r ⟨b, rfl⟩ k k2
  cases r with
  | cons a t =>
    cases t
    cases b with
    | false => obtain ⟨p, us, rfl, h, q⟩ := a; exact ⟨p, us, rfl, .inl ⟨SqL.of h, fun l hl => k l us hl q⟩⟩
    | true => obtain ⟨p, us, rfl, h, q⟩ := a; exact ⟨p, us, rfl, .inr ⟨SqT.of h, k2 p us h q⟩⟩
/-- sorted(xs), ints -/
def CSorted : List D → List D → Prop := fun ds es => ∃ (b : Bool) (ns : List Int), ds = [.seq b (ns.map .int)] ∧ es = ((ns.mergeSort (· ≤ ·)).map .int)
theorem paired_ints {R : V → D → Prop} (hR : ∀ (v : V) (i : Int), R v (.int i) ↔ v = .int i) : ∀ {ns : List Int} {vs : List V}, Paired R vs (ns.map D.int) → vs = ns.map V.int
  | [], _, .nil => rfl
  | n :: ns, _, .cons r t => by rw [(hR _ _).mp r, paired_ints hR t]; rfl
theorem ints_paired {R : V → D → Prop} (hR : ∀ (v : V) (i : Int), R v (.int i) ↔ v = .int i) : ∀ (ns : List Int), Paired R (ns.map V.int) (ns.map D.int)
  | [] => .nil
  | n :: ns => .cons ((hR _ _).mpr rfl) (ints_paired hR ns)
theorem sorted_unique {a b : List Int} (p : a.Perm b) (h1 : a.Pairwise (· ≤ ·)) (h2 : b.Pairwise (· ≤ ·)) : a = b :=
  p.eq_of_pairwise (fun x y _ _ h h' => Int.le_antisymm h h') h1 h2
theorem opl_sorted : OpL (rSortedQ K) CSorted := by
  rintro R H ws ds es Q hf r ⟨b, ns, rfl, rfl⟩ k
  have hR : ∀ (v : V) (i : Int), R v (.int i) ↔ v = .int i := fun v i => hf (.int i) _ rfl v
  have fin : ∀ (ns' : List Int) (p : Addr), ns'.Perm ns → ns'.Pairwise (· ≤ ·) → H p = none → Q (.ref p) (upd H p (.lst (ns'.map V.int))) := fun ns' p h1 h2 hp => by
    have e : ns' = ns.mergeSort (· ≤ ·) := by
      refine sorted_unique (h1.trans (List.mergeSort_perm ns _).symm) h2 ?_
      have := List.pairwise_mergeSort (le := fun (a b : Int) => decide (a ≤ b)) (fun a b c h h' => by simp only [decide_eq_true_eq] at *; omega) (fun a b => by simp only [Bool.or_eq_true, decide_eq_true_eq]; omega) ns
      exact this.imp fun h => of_decide_eq_true h
    subst e
    exact k p _ hp (ints_paired hR _)
  cases r with
  | cons a t =>
    cases t
    cases b with
    | false => obtain ⟨p, us, rfl, h, q⟩ := a; exact ⟨p, ns, rfl, .inl (SqL.of (by rw [← paired_ints hR q]; exact h)), fin⟩
    | true => obtain ⟨p, us, rfl, h, q⟩ := a; exact ⟨p, ns, rfl, .inr (SqT.of (by rw [← paired_ints hR q]; exact h)), fin⟩
/-- a + b, a * n, of lists -/
def CCat : D → D → List D → Prop := fun x y es => ∃ xs ys, x = .seq false xs ∧ y = .seq false ys ∧ es = xs ++ ys ∧ xs.length + ys.length ≤ sizeLine
theorem Paired.app {α β : Type} {R : α → β → Prop} : ∀ {a : List α} {b : List β} {c : List α} {d : List β}, Paired R a b → Paired R c d → Paired R (a ++ c) (b ++ d)
  | _, _, _, _, .nil, s => s
  | _, _, _, _, .cons r t, s => .cons r (Paired.app t s)
theorem op2l_cat : Op2L rCat CCat := by
  rintro R H x y dx dy es Q hf sx sy ⟨xs, ys, rfl, rfl, rfl, hz⟩ k
  obtain ⟨a, us, rfl, h1, p1⟩ := sx
  obtain ⟨b, ws, rfl, h2, p2⟩ := sy
  exact ⟨a, b, us, ws, rfl, rfl, h1, h2, by rw [p1.length, p2.length]; exact hz, fun p hp => k p _ hp (Paired.app p1 p2)⟩
def CRep : D → D → List D → Prop := fun x y es => ∃ xs n, x = .seq false xs ∧ y = .int n ∧ es = (List.replicate n.toNat xs).flatten ∧ (-(2 ^ 63) ≤ n ∧ n < 2 ^ 63) ∧ xs.length * n.toNat ≤ sizeLine
theorem Paired.rep {α β : Type} {R : α → β → Prop} {a : List α} {b : List β} (p : Paired R a b) : ∀ n : Nat, Paired R (List.replicate n a).flatten (List.replicate n b).flatten
  | 0 => .nil
  | n + 1 => by rw [List.replicate_succ, List.replicate_succ, List.flatten_cons, List.flatten_cons]; exact Paired.app p (Paired.rep p n)
theorem op2l_rep : Op2L rRep CRep := by
  rintro R H x y dx dy es Q hf sx sy ⟨xs, n, rfl, rfl, rfl, ⟨b1, b2⟩, hz⟩ k
  obtain ⟨a, us, rfl, h1, p1⟩ := sx
  have ey : y = .int n := by have : (D.int n).flat = some y := sy; cases this; rfl
  exact ⟨a, n, us, rfl, ey, h1, b1, b2, by rw [p1.length]; exact hz, fun p hp => k p _ hp (Paired.rep p1 _)⟩
def rgD (a b : Int) : List D := (List.range (b - a).toNat).map fun i => .int (a + (i : Nat))
theorem rgV_eq (a b : Int) : ∃ f : Nat → V, rgV a b = (List.range (b - a).toNat).map f ∧ ∀ i, f i = .int (a + (i : Nat)) := ⟨_, rfl, fun i => by simp⟩
theorem rg_rep {phi : Addr → Prop} {H : Hp} (a b : Int) : RepL phi H (rgV a b) (rgD a b) := by
  obtain ⟨f, e, h⟩ := rgV_eq a b
  rw [e]
  unfold rgD
  generalize List.range (b - a).toNat = l
  induction l with
  | nil => exact .nil
  | cons x l ih => exact .cons (by rw [h]; exact .int _) ih
def tdLstRg1 (toa : TDO) : TDE := fun r P => toa r fun x r1 => ∃ n, x.dat r1 = some (.int n) ∧ RgOk 0 n ∧ ∀ p, P (.ow p true (.seq false (rgD 0 n))) r1
theorem snd_lstRg1 (ha : SndO G0 ta toa) : SndE G0 (tLstRg (tRg1 ta)) (tdLstRg1 toa) := by
  intro vs ka sg H r P Q hl E hp k
  show ta sg H fun x H1 => ∃ n, x = .int n ∧ RgOk 0 n ∧ ∀ q, H1 q = none → Q (.ref q) (upd H1 q (.lst (rgV 0 n)))
  refine one ha hl E hp fun x ox H2 r2 G l E2 ix h2 => ?_
  obtain ⟨n, e1, ok, h3⟩ := h2
  exact ⟨n, rep_int (dat_rep E2 ix e1), ok, fun p hp' => k _ _ _ r2 l ⟨G, E2.tail.pushOw (nw := true) (d := .seq false (rgD 0 n)) hp' rfl ⟨_, upd_same, rg_rep 0 n⟩⟩ (h3 p)⟩
def tdTupRg1 (toa : TDO) : TDE := fun r P => toa r fun x r1 => ∃ n, x.dat r1 = some (.int n) ∧ RgOk 0 n ∧ P (.fz true (.seq true (rgD 0 n))) r1
theorem snd_tupRg1 (ha : SndO G0 ta toa) : SndE G0 (tTupRg (tRg1 ta)) (tdTupRg1 toa) := by
  intro vs ka sg H r P Q hl E hp k
  show ta sg H fun x H1 => ∃ n, x = .int n ∧ RgOk 0 n ∧ ∀ q, H1 q = none → Q (.ref q) (upd H1 q (.tup (rgV 0 n)))
  refine one ha hl E hp fun x ox H2 r2 G l E2 ix h2 => ?_
  obtain ⟨n, e1, ok, h3⟩ := h2
  exact ⟨n, rep_int (dat_rep E2 ix e1), ok, fun p hp' => k _ _ _ r2 l ⟨_, E2.tail.pushTup hp' (rg_rep 0 n)⟩ h3⟩
def tdLstRg2 (toa tob : TDO) : TDE := fun r P => toa r fun x r1 => tob r1 fun y r2 => ∃ m n, x.dat r2 = some (.int m) ∧ y.dat r2 = some (.int n) ∧ RgOk m n ∧ ∀ p, P (.ow p true (.seq false (rgD m n))) r2
theorem snd_lstRg2 (ha : SndO G0 ta toa) (hb : SndO G0 tb tob) : SndE G0 (tLstRg (tRg2 ta tb)) (tdLstRg2 toa tob) := by
  intro vs ka sg H r P Q hl E hp k
  show ta sg H fun x H1 => tb sg H1 fun y H2 => ∃ i j, x = .int i ∧ y = .int j ∧ RgOk i j ∧ ∀ q, H2 q = none → Q (.ref q) (upd H2 q (.lst (rgV i j)))
  refine two (Q := Q) ha hb hl E hp fun x y ox oy H2 r2 G l E2 ix iy h2 => ?_
  obtain ⟨m, n, e1, e2, ok, h3⟩ := h2
  exact ⟨m, n, rep_int (dat_rep E2 ix e1), rep_int (dat_rep E2 iy e2), ok, fun p hp' => k _ _ _ r2 l ⟨G, E2.tail.tail.pushOw (nw := true) (d := .seq false (rgD m n)) hp' rfl ⟨_, upd_same, rg_rep m n⟩⟩ (h3 p)⟩
/-- xs[i:j] of a list -/
abbrev TDP := Rho → (Option Int → Rho → Prop) → Prop
def SndP (G0 : Bs) (to : TO) (t : TDP) : Prop :=
  ∀ (vs : List (Option V)) (ka : List TL.It) (sg : L2.St) (H : Hp) (r : Rho) (P : Option Int → Rho → Prop) (Q : Option Int → Hp → Prop), vs.length = ka.length → Env G0 H (vs ++ sg) (ka ++ r) → t r P →
    (∀ o H' r', r'.length = r.length → Env G0 H' (vs ++ sg) (ka ++ r') → P o r' → Q o H') → to sg H Q
def tdNoP : TDP := fun r P => P none r
theorem snp_no : SndP G0 tNoPart tdNoP := fun vs ka sg H r P Q hl E h k => k none H r rfl E h
def tdSoP (toa : TDO) : TDP := fun r P => toa r fun x r1 => ∃ i, x.dat r1 = some (.int i) ∧ P (some i) r1
theorem snp_so (ha : SndO G0 ta toa) : SndP G0 (tPart ta) (tdSoP toa) := by
  intro vs ka sg H r P Q hl E hp k
  show ta sg H fun x H1 => ∃ i, x = .int i ∧ Q (some i) H1
  refine one ha hl E hp fun x ox H2 r2 G l E2 ix h2 => ?_
  obtain ⟨i, e1, h3⟩ := h2
  exact ⟨i, rep_int (dat_rep E2 ix e1), k _ H2 r2 l ⟨G, E2.tail⟩ h3⟩
def cutD (xs : List D) (lo hi : Option Int) : List D := (xs.drop (HT.sIx xs.length 0 lo)).take (HT.sIx xs.length xs.length hi - HT.sIx xs.length 0 lo)
theorem Paired.drop {α β : Type} {R : α → β → Prop} : ∀ {a : List α} {b : List β} (n : Nat), Paired R a b → Paired R (a.drop n) (b.drop n)
  | _, _, 0, p => p
  | _, _, _ + 1, .nil => .nil
  | _, _, n + 1, .cons _ t => Paired.drop n t
theorem Paired.take {α β : Type} {R : α → β → Prop} : ∀ {a : List α} {b : List β} (n : Nat), Paired R a b → Paired R (a.take n) (b.take n)
  | _, _, 0, _ => .nil
  | _, _, _ + 1, .nil => .nil
  | _, _, n + 1, .cons r t => .cons r (Paired.take n t)
def tdSlice (toa : TDO) (pl ph : TDP) : TDE := fun r P => toa r fun x r1 => pl r1 fun lo r2 => ph r2 fun hi r3 => ∃ nw xs, x.cview r3 = some (nw, .seq false xs) ∧ ∀ p, P (.ow p nw (.seq false (cutD xs lo hi))) r3
theorem snd_slice {tl th : TO} {pl ph : TDP} (ha : SndO G0 ta toa) (hlo : SndP G0 tl pl) (hhi : SndP G0 th ph) : SndE G0 (tSl (rSlL K) ta tl th) (tdSlice toa pl ph) := by
  intro vs ka sg H r P Q hl E hp k
  refine ha vs ka sg H r _ _ hl E hp fun v H1 o r1 l1 E1 a1 h1 => ?_
  have hl2 : (some v :: vs).length = (o.tmp :: ka).length := by simp [hl]
  refine hlo (some v :: vs) (o.tmp :: ka) sg H1 r1 _ _ hl2 E1 h1 fun lo H2 r2 l2 E2 h2 => ?_
  refine hhi (some v :: vs) (o.tmp :: ka) sg H2 r2 _ _ hl2 E2 h2 fun hi H3 r3 l3 E3 h3 => ?_
  obtain ⟨nw, xs, hv, h3⟩ := h3
  obtain ⟨G, E3⟩ := E3
  have ix := opd_itx (us := []) (kb := []) E3 rfl hl a1
  obtain ⟨a, us, rfl, h, p⟩ := ix.sh E3.le hv
  refine ⟨a, us, rfl, SqL.of h, fun q hq => ?_⟩
  refine k _ _ _ r3 (l3.trans (l2.trans l1)) ⟨G, E3.tail.pushOw (nw := nw) (d := .seq false (cutD xs lo hi)) hq rfl ⟨_, upd_same, RepL.of ?_⟩⟩ (h3 q)
  unfold cutV cutD
  rw [p.length]
  exact Paired.take _ (Paired.drop _ p)
end
end TL
namespace TL
open PySem PySem.Spec PyProof.Rows L2 SrtO
def tDisp1T (tk tv : TE) : TE := fun σ H Q => ∀ p, H p = none → tk σ (upd H p (.dT [])) fun x H1 => tv σ H1 fun y H2 => H2 p = some (.dT []) ∧ ∃ (k : List Key) (b : Addr), x = .ref b ∧ H2 b = some (.tup (k.map kV)) ∧ Q (.ref p) (upd H2 p (.dT [(k, y)]))
def onePair (R : V → V → Hp → Prop) : List (V × V) → Hp → Prop
  | [(x, y)], H => R x y H
  | _, _ => False
theorem pe_disp1T {X : Cx} {pos : Pos} {ke ve : Expr} {tk tv : TE} (hu : X.A.units + 1 < cLine) (hk : PE X ke tk) (hv : PE X ve tv) : PE X (.Dict [some ke] [ve] pos) (tDisp1T tk tv) := by
  refine ⟨fun pins s σ H Q I q => ?_⟩
  have hn := I.hok.fresh (Nat.le_refl s.heap.objs.size)
  have I1 := I.laid (a := s.heap.objs.size) (o := .dT []) (h' := s.heap.push { cls := .type "dict", data := .dict #[] }) (t' := s.toks) (fun _ _ q => Heap.get?_push_of_some _ q) (Nat.le_refl _) (dt_empty s.heap I.big)
  have hl := pairTrees_length [some ke] [ve] X.env pos rfl rfl
  rw [arm_eval_Dict, zip_pairTrees [some ke] [ve] X.env pos rfl rfl, dictDisplay_pairs (pairTrees [some ke] [ve] X.env pos) (fun e => by rw [e] at hl; cases hl) (by rw [hl]; simp)]
  refine wpAny_bind (wpAny_standAt (wpAny_bind (wpAny_subDictH (knd := tupleKind (mixKind X.prog X.w)) (show X.A.units < cLine from by omega) (by rw [hl]; simp) ?_)))
  refine thn ((pps_cons (trs := []) hk hv pps_nil).run pins _ σ _ (onePair fun x y H2 => H2 s.heap.objs.size = some (.dT []) ∧ ∃ (k : List Key) (b : Addr), x = .ref b ∧ H2 b = some (.tup (k.map kV)) ∧ Q (.ref s.heap.objs.size) (upd H2 s.heap.objs.size (.dT [(k, y)]))) I1 (q _ hn)) fun ws s2 ⟨ps, H2, I2, rel, q2⟩ => ?_
  cases rel with
  | nil => exact q2.elim
  | @cons v w _ _ h t =>
    cases t with
    | cons _ _ => exact q2.elim
    | nil =>
      obtain ⟨x, y⟩ := v
      obtain ⟨u, r⟩ := w
      obtain ⟨hp, k, b, ex, hb, q3⟩ := q2
      obtain ⟨h1, h2⟩ := h
      have ex : x = V.ref b := ex
      subst ex
      obtain rfl : u = Value.ref b := h1
      obtain ⟨z, hd, xs, r0, dd⟩ := dt_of I2.hok hp
      cases r0
      refine ⟨[(k, b, r)], ⟨rfl, rfl, key_of I2.hok hb, trivial⟩, dd, fun h' tk' dd' hs => wpAny_pure ⟨.ref s.heap.objs.size, _, ?_, rfl, q3⟩⟩
      obtain ⟨q, es, ep, hq, h2', h3, h4, _, h5⟩ := dd'
      refine d_write I2 (by rw [hp]; exact True.intro) hs ⟨q, hq⟩ ⟨by rw [sizeLine_eq]; simp, hd, _, .cons ⟨rfl, ?_, h2⟩ .nil, q, es, ep, hq, h2', h3, h4, h5⟩
      rw [upd_ne (ne_of hb hp (fun z => nomatch z))]
      exact hb
def Draws_tup {prog : Program} {w : World} {A : Around} {it l : Addr} {items : Array Value} (hh : A.handled = none) (hne : l ≠ it) :
    Draws prog w A it [it, l] items.size (fun i x => items[i]? = some x) (fun i h => h.IsTupleIter it l i ∧ h.IsTuple l items) where
  live := fun i h st => let ⟨⟨o, ho, _⟩, _⟩ := st; ⟨o, ho⟩
  frame := fun i h h' st k => ⟨st.1.at fun o e => k it (by simp) o e, let ⟨o, ho, r⟩ := st.2; ⟨o, k l (by simp) o ho, r⟩⟩
  item := fun i s Q E hi st hQ => by
    refine RZ.nextOf_tuple_item st.1 st.2 (x := items[i]) (by simp [hi]) fun h' hit' hs' => ?_
    obtain ⟨o, ho, r⟩ := st.2
    exact hQ _ h' s.toks (by simp [hi]) ⟨hit', o, (hs'.2 l hne).trans ho, r⟩ hs'
  done := fun s Q E st hE => RZ.nextOf_tuple_end hh st.1 st.2 (by simp) hE
theorem meets_enumerate_newT (l : Addr) (items : Array Value) (n : Nat) (dct : Option Addr) (sl : Array (Option Value)) :
    Meets (Builtin.«enumerate.__new__» ⟨[.type "enumerate", .ref l], []⟩) (fun _ R s => s.heap.get? l = some { cls := .type "tuple", dict := dct, data := .seq items n, slots := sl } ∧
      R (.ok (.ret (.ref (s.heap.push { cls := .type "tuple_iterator", data := .fields #[.ref l, .int 0 0] }).objs.size)))
        { s with heap := (s.heap.push { cls := .type "tuple_iterator", data := .fields #[.ref l, .int 0 0] }).push { cls := .type "enumerate", data := .fields #[.none, .bool false, .ref s.heap.objs.size, rawInt 0, .none, .none] } }) :=
  .of_wp fun prog w A R s h => by
    obtain ⟨hp, g, d, tk, os⟩ := s; obtain ⟨hl, h⟩ := h
    have hsub := sub_enumerate
    have hL : Heap.IsTuple (Shared.heap ⟨hp, g, d, tk, os⟩) l items := ⟨_, hl, rfl, n, rfl⟩
    wp_walk using AutoSeq1.wpAny_loadPart' hl
    refine wpAny_stack_any fun st => wpAny_pure ?_
    split
    · rename_i c _ _ _ _ _
      cases (c == Value.type "enumerate")
      · wp_walk using AutoSeq1.wpAny_loadPart' hl, wpAny_pyIter_tuple hL
        exact ⟨_, rfl, h⟩
      · wp_walk using AutoSeq1.wpAny_loadPart' hl, wpAny_pyIter_tuple hL
        exact ⟨_, rfl, h⟩
    · wp_walk using AutoSeq1.wpAny_loadPart' hl, wpAny_pyIter_tuple hL
      exact ⟨_, rfl, h⟩
theorem call_enumerate_tup {prog : Program} {w : World} {A : Around} {E : Value → Shared → Prop} {s : Shared} {l : Addr} {items : Array Value} {Q : Value → Shared → Prop} (hL : s.heap.IsTuple l items)
    (h : ∀ h', IsEnum h' (s.heap.objs.size + 1) s.heap.objs.size 0 .none → h'.IsTupleIter s.heap.objs.size l 0 → h'.objs.size = s.heap.objs.size + 2 →
      (∀ b o, s.heap.get? b = some o → h'.get? b = some o) → Q (.ref (s.heap.objs.size + 1)) { s with heap := h' }) :
    wpAny (model prog w) A (call (.type "enumerate") [.ref l]) Q E s := by
  obtain ⟨⟨c, dct, dt, sl⟩, hl, hc, n, hd⟩ := hL
  replace hc : c = .type "tuple" := hc
  replace hd : dt = .seq items n := hd
  subst hc hd
  refine callType_new F.called_enumerate (by decide) (F.typeCall_enumerate_1 _) (F.newCall_enumerate_1 _) (fun obj => F.args_object_init_2 obj _) F.entry_enumerate_new
    (meets_enumerate_newT l items n dct sl) ⟨hl, ?_⟩
  have hz : (s.heap.push { cls := .type "tuple_iterator", data := .fields #[.ref l, .int 0 0] }).objs.size = s.heap.objs.size + 1 := Heap.size_push ..
  show _ ∧ _
  rw [hz]
  have he : IsEnum ((s.heap.push { cls := .type "tuple_iterator", data := .fields #[.ref l, .int 0 0] }).push
      { cls := .type "enumerate", data := .fields #[.none, .bool false, .ref s.heap.objs.size, rawInt 0, .none, .none] }) (s.heap.objs.size + 1) s.heap.objs.size 0 .none := by
    have := Heap.get?_push_size (s.heap.push { cls := .type "tuple_iterator", data := .fields #[.ref l, .int 0 0] })
      (o := { cls := .type "enumerate", data := .fields #[.none, .bool false, .ref s.heap.objs.size, rawInt 0, .none, .none] }) rfl
    rw [hz] at this; exact this
  refine ⟨⟨_, he, rfl⟩, h _ he ⟨_, Heap.get?_push_of_some _ (Heap.get?_push_size _ rfl), rfl, rfl⟩ (by rw [Heap.size_push, hz]) fun b o x => Heap.get?_push_of_some _ (Heap.get?_push_of_some _ x)⟩
theorem wpAny_pyNext_enumT_end {prog : Program} {w : World} {A : Around} {E : Value → Shared → Prop} {s : Shared} {e it l : Addr} {i : Nat} {j : Int} {items : Array Value} {old : Value} {Q : Option Value → Shared → Prop} (hh : A.handled = none)
    (he : IsEnum s.heap e it j old) (hit : s.heap.IsTupleIter it l i) (hl : s.heap.IsTuple l items) (hx : items[i]? = none)
    (hQ : ∀ h', Heap.ExtBut it s.heap h' → Q none { s with heap := h' }) : wpAny (model prog w) A (pyNext (.ref e)) Q E s := by
  have hT : s.TypeIs (.ref e) "enumerate" := ⟨_, he, rfl⟩
  unfold pyNext
  refine wpAny_bind (wpAny_attempt (wpAny_callSpecial?_slot (name := Str.ofString "__next__") hT F.slot_enumerate_next
    (wpAny_call_entry F.slot_enumerate_next hT F.entry_enumerate_next ?_ (F.args_enumerate_next_1 _))))
  show wpAny _ _ (field (.ref e) 2 >>= _) _ _ _
  refine wpAny_bind (wpAny_field he rfl (x := .ref it) rfl ?_)
  refine wpAny_bind (RZ.nextOf_tuple_end hh hit hl hx fun h' x he' hx' => ?_)
  obtain ⟨o, ho, hc⟩ := hx'
  refine wpAny_bind (wpAny_isInstance (T := "StopIteration") (b := true) ⟨o, ho, hc⟩ isSubtype_stop ?_)
  exact wpAny_pure (hQ _ he')
/-- the tuple at a, each item in a new pair -/
def IteT (K : PySem.W.Frag) (a : Addr) : L2.It :=
  ⟨fun i H => ∃ (xs : List V) (x : V), SqT K H a xs ∧ xs[i]? = some x, fun i H v H' => ∃ T x, v = .ref T ∧ H T = none ∧ H' = upd H T (.tup [.int (i : Nat), x]) ∧ ∀ xs, SqT K H a xs → xs[i]? = some x, fun i H => ∃ xs : List V, SqT K H a xs ∧ xs.length ≤ i⟩
theorem turn_enumT {P : Program} {w : World} {K : PySem.W.Frag} {elts : List Expr} {kk : Nat} {tpos : Pos} (a e it : Addr) :
    Turn P w K (.Tuple elts kk tpos) (IteT K a) [e, it] e (fun i h => (∃ old, IsEnum h e it ((i : Nat) : Int) old) ∧ h.IsTupleIter it a i ∧ e ≠ it) where
  mem := by simp
  obj := fun i h st b hb => by
    obtain ⟨⟨old, he⟩, ⟨o, ho, hc, hd⟩, _⟩ := st
    have e' : b = e ∨ b = it := by simpa using hb
    rcases e' with z | z
    · rw [z]; exact ⟨_, he, fun v q => nomatch q⟩
    · rw [z]; exact ⟨o, ho, fun v q => by rw [hd] at q; cases q⟩
  keep := fun i h h' st k => let ⟨⟨old, he⟩, hi, hne⟩ := st; ⟨⟨old, k e (by simp) _ he⟩, hi.at fun o q => k it (by simp) o q, hne⟩
  item := by
    intro X hP hw hK hc i pins s σ H E I hf st hg
    subst hP hw hK
    obtain ⟨⟨old, he⟩, hit, hne⟩ := st
    obtain ⟨xs, x, hq, hx⟩ := hg
    obtain ⟨its, rv, p, hz⟩ := I.tuple hq
    obtain ⟨u, hu, ru⟩ := rv.get hx
    have hT : s.heap.IsTuple a its.toArray := p
    have hel : e < s.heap.objs.size := Heap.lt_size he
    have hil : it < s.heap.objs.size := by obtain ⟨_, q, _⟩ := hit; exact Heap.lt_size q
    have hai : a ≠ it := fun z => by
      obtain ⟨o, ho, c, _⟩ := hT
      obtain ⟨o2, ho2, c2, _⟩ := hit
      rw [z, ho2] at ho; cases ho
      rw [c] at c2; exact absurd (Value.type.inj c2) (by decide)
    have hae : a ≠ e := fun z => by
      obtain ⟨o, ho, c, _⟩ := hT
      rw [z] at ho
      have he' : s.heap.get? e = some _ := he
      rw [ho] at he'
      cases he'
      exact absurd (Value.type.inj c) (by decide)
    refine wpAny_pyNext_enum_itemD (P := fun i x => its.toArray[i]? = some x) (Draws_tup (I.ok.hd hc) hai) he ⟨hit, hT⟩ (by
      have := (List.getElem?_eq_some_iff.mp hu).1
      simpa using this) hne (by simp [Ne.symm hae, hne]) fun y h' tk hPx ho st' hT1 hsz hk => ?_
    obtain ⟨hit', _⟩ := st'
    have ey : y = u := by
      have h1 : its.toArray[i]? = some y := hPx
      have h2 : its.toArray[i]? = some u := by simpa using hu
      rw [h1] at h2
      exact Option.some.inj h2
    subst ey
    refine ⟨_, rfl, wpAny_letOwnedTupleGo_enum (s := { s with heap := h', toks := tk + 1 }) ho fun h'' he' sb => ?_⟩
    have hT2 : h''.get? s.heap.objs.size = some { cls := .type "tuple", data := .seq #[.int i tk, y] } := (sb.2 _ (Nat.ne_of_gt hel)).trans hT1
    have new : ObjOk X.prog X.w (upd H s.heap.objs.size (.tup [.int (i : Nat), x])) h'' s.heap.objs.size (.tup [.int (i : Nat), x]) :=
      ⟨by show 2 ≤ sizeLine; decide, [.int i tk, y], .cons ⟨_, rfl⟩ (.cons ru .nil), ⟨_, hT2, rfl, _, rfl⟩⟩
    have I1 : L2.Inv X pins σ (upd H s.heap.objs.size (.tup [.int (i : Nat), x])) { s with heap := h'', toks := tk + 1 } :=
      I.turnedNew (ch := [e, it]) (fun b ob hb q => (sb.2 b (fun z => hb (by simp [z]))).trans (hk b ob (fun z => hb (by simp [z])) (fun z => hb (by simp [z])) q)) hf (Nat.le_refl _) new
    refine ⟨.ref s.heap.objs.size, _, I1, rfl, ⟨_, x, rfl, I.hok.fresh (Nat.le_refl _), rfl, fun ys hy => by rw [I.tuple_inj hy hq]; exact hx⟩, ⟨⟨y, ?_⟩, hit'.at fun o q => (sb.2 it (Ne.symm hne)).trans q, hne⟩, fun b hb => ?_⟩
    · have e1 : ((i + 1 : Nat) : Int) = (i : Int) + 1 := by omega
      rw [e1]; exact he'
    · have hb' : b < s.heap.objs.size := by
        have e' : b = e ∨ b = it := by simpa using hb
        rcases e' with z | z
        · rw [z]; exact hel
        · rw [z]; exact hil
      rw [upd_ne (Nat.ne_of_lt hb')]
      exact (hf b hb).1
  done := by
    intro X hP hw hK hc i pins s σ H E I hf st hg
    subst hP hw hK
    obtain ⟨⟨old, he⟩, hit, hne⟩ := st
    obtain ⟨xs, hq, hx⟩ := hg
    obtain ⟨its, rv, p, hz⟩ := I.tuple hq
    have hT : s.heap.IsTuple a its.toArray := p
    obtain ⟨f0, f1, f2, f3, f4, f5⟩ := hf it (by simp)
    have hl := rv.length
    exact wpAny_pyNext_enumT_end (I.ok.hd hc) he hit hT (by simp; omega) fun h' eb => ⟨rfl, I.turned (t' := s.toks) (fun b o hb q => eb b o hb q) f0 f1 f3 f4 f5⟩
  self := fun A i s Q E st h => let ⟨⟨_, he⟩, _⟩ := st; wpAny_pyIter_enum he h
def iEnumA (K : PySem.W.Frag) (ta : TA) : TI := fun σ H R => ta σ H fun vs H1 => ∃ a, vs = [.ref a] ∧ (((∃ xs, SqL K H1 a xs) ∧ R (Ite K a) H1) ∨ ((∃ xs, SqT K H1 a xs) ∧ R (IteT K a) H1))
theorem pi_enumA {X : Cx} {e : Expr} {ta : TA} {p pos tpos : Pos} {elts : List Expr} {kk : Nat} (hg : Gl X "enumerate") (hm : X.mg "enumerate" = none) (ha : PA X [e] ta) (hs : starEach [e] X.env = [(false, eval e X.env)] := by rfl) :
    PI X (.Tuple elts kk tpos) (.Call (.Name "enumerate" p) [e] [] pos) (iEnumA X.K ta) := by
  refine ⟨fun pins s σ H R I h => ?_⟩
  refine Call_ (ld_blt I hg hm boot_enumerate (PyProof.Rows.callWith_type1 (thn (ha.run pos pins s σ H _ I h) fun us s1 ⟨vs, H1, I1, r1, q1⟩ => ?_) hs rfl))
  obtain ⟨a, ev, q1⟩ := q1
  subst ev
  cases r1 with
  | cons r rr =>
    cases rr
    cases r
    have fresh2 : ∀ b, b ∈ [s1.heap.objs.size + 1, s1.heap.objs.size] → FpOk X pins H1 b := fun b hb => by
      have e' : b = s1.heap.objs.size + 1 ∨ b = s1.heap.objs.size := by simpa using hb
      have hle : s1.heap.objs.size ≤ b := by
        rcases e' with z | z
        · rw [z]; exact Nat.le_add_right _ _
        · rw [z]; exact Nat.le_refl _
      exact I1.fpOk hle (I1.hok.fresh hle)
    rcases q1 with ⟨⟨xs, hq⟩, q⟩ | ⟨⟨xs, hq⟩, q⟩
    · obtain ⟨its, rv, p', hz⟩ := I1.list hq
      refine call_enumerate_list p'.isList fun h' he hit hsz hk => wpAny_pyIter_enum he ?_
      have I2 : L2.Inv X pins σ H1 { s1 with heap := h' } := I1.kept (t' := s1.toks) hk
      exact ⟨s1.heap.objs.size + 1, [s1.heap.objs.size + 1, s1.heap.objs.size], _, _, H1, rfl, I2, turn_enum a (s1.heap.objs.size + 1) s1.heap.objs.size, ⟨⟨.none, he⟩, hit, Nat.succ_ne_self _⟩, fresh2, q⟩
    · obtain ⟨its, rv, p', hz⟩ := I1.tuple hq
      refine call_enumerate_tup (show s1.heap.IsTuple a its.toArray from p') fun h' he hit hsz hk => wpAny_pyIter_enum he ?_
      have I2 : L2.Inv X pins σ H1 { s1 with heap := h' } := I1.kept (t' := s1.toks) hk
      exact ⟨s1.heap.objs.size + 1, [s1.heap.objs.size + 1, s1.heap.objs.size], _, _, H1, rfl, I2, turn_enumT a (s1.heap.objs.size + 1) s1.heap.objs.size, ⟨⟨.none, he⟩, hit, Nat.succ_ne_self _⟩, fresh2, q⟩
section
variable {G0 : Bs} {te ta tb tc : TE} {t u : TDE} {toa tob : TDO} {al : TA} {tal : TDA} {K : PySem.W.Frag}
/-- a new pair on top, its parts frozen -/
theorem EnvG.pushPair {G H : Hp} {vs : List (Option V)} {its : List TL.It} (E : EnvG G0 G H vs its) {T : Addr} {x y : V} {nx ny : Bool} {dx dy : D} (hT : H T = none) (rx : Rep (nwP G0 nx) G x dx) (ry : Rep (nwP G0 ny) G y dy) :
    Env G0 (upd H T (.tup [x, y])) (some (.ref T) :: vs) (.fz (nx && ny) (.seq true [dx, dy]) :: its) :=
  ⟨_, E.pushTup hT (.cons (nw_l rx) (nw_r (.cons ry .nil)))⟩
def tdEnumI (t : TDE) : TDI := fun r P => t r fun x r1 => ∃ nw b ds, x.cview = some (nw, .seq b ds) ∧ P (ds.mapIdx fun i d => .fz (nw || isFlat d) (.seq true [.int (i : Nat), d])) r1
theorem sni_enum (h : SndE G0 te t) : SndI G0 (iEnumA K (tCons te tNil)) (tdEnumI t) := by
  intro vs ka sg H r P R hl E hp k
  refine h vs ka sg H r _ _ hl E hp fun v H1 x r1 l1 E1 h1 => ?_
  obtain ⟨nw, b, ds, hv, h1⟩ := h1
  have Y : ∀ a, v = .ref a → Yields G0 ([some v] ++ vs) ([x] ++ ka) (if b = true then IteT K a else Ite K a) (ds.mapIdx fun i d => .fz (nw || isFlat d) (.seq true [.int (i : Nat), d])) := by
    intro a ea j vf kf sg2 H2 r2 hf E2
    obtain ⟨G, E2⟩ := E2
    have sh := cv_sh (vs := vs ++ sg2) (ka := ka ++ r2) E2 hf hv
    cases b with
    | false =>
      obtain ⟨a', ws, e1, e2, p⟩ := sh
      rw [ea] at e1; cases e1
      refine ⟨fun y hy => ?_, fun hle => ⟨ws, SqL.of e2, by rw [p.length]; simpa using hle⟩⟩
      rw [List.getElem?_mapIdx] at hy
      cases q : ds[j]? with
      | none => rw [q] at hy; cases hy
      | some d =>
        rw [q] at hy; cases hy
        obtain ⟨w, h2, h3⟩ := paired_getV p q
        refine ⟨⟨ws, w, SqL.of e2, h2⟩, fun u H3 yl => ?_⟩
        obtain ⟨T, w', rfl, hT, rfl, f⟩ := yl
        have := f ws (SqL.of e2)
        rw [h2] at this; cases this
        have E3 := E2.pushPair (nx := true) hT (dx := .int (j : Nat)) (.int _) h3.nwFlat
        exact E3
    | true =>
      obtain ⟨a', ws, e1, e2, p⟩ := sh
      rw [ea] at e1; cases e1
      refine ⟨fun y hy => ?_, fun hle => ⟨ws, SqT.of e2, by rw [p.length]; simpa using hle⟩⟩
      rw [List.getElem?_mapIdx] at hy
      cases q : ds[j]? with
      | none => rw [q] at hy; cases hy
      | some d =>
        rw [q] at hy; cases hy
        obtain ⟨w, h2, h3⟩ := paired_getV p q
        refine ⟨⟨ws, w, SqT.of e2, h2⟩, fun u H3 yl => ?_⟩
        obtain ⟨T, w', rfl, hT, rfl, f⟩ := yl
        have := f ws (SqT.of e2)
        rw [h2] at this; cases this
        have E3 := E2.pushPair (nx := true) hT (dx := .int (j : Nat)) (.int _) h3.nwFlat
        exact E3
  obtain ⟨G, E1⟩ := id E1
  have sh := cv_sh (vf := []) (kf := []) (vs := vs ++ sg) (ka := ka ++ r1) E1 rfl hv
  cases b with
  | false =>
    obtain ⟨a, ws, e1, e2, p⟩ := sh
    subst e1
    exact ⟨a, rfl, .inl ⟨⟨ws, SqL.of e2⟩, k [some (.ref a)] [x] _ H1 _ r1 rfl l1 ⟨G, E1⟩ (Y a rfl) h1⟩⟩
  | true =>
    obtain ⟨a, ws, e1, e2, p⟩ := sh
    subst e1
    exact ⟨a, rfl, .inr ⟨⟨ws, SqT.of e2⟩, k [some (.ref a)] [x] _ H1 _ r1 rfl l1 ⟨G, E1⟩ (Y a rfl) h1⟩⟩
/-- zip of two lists, of two tuples -/
def zipIt (n m : Bool) : List D → List D → List TL.It
  | x :: xs, y :: ys => .fz ((n || isFlat x) && (m || isFlat y)) (.seq true [x, y]) :: zipIt n m xs ys
  | _, _ => []
theorem zipIt_get (n m : Bool) : ∀ (xs ys : List D) (i : Nat), (zipIt n m xs ys)[i]? = (xs[i]?).bind fun x => (ys[i]?).map fun y => .fz ((n || isFlat x) && (m || isFlat y)) (.seq true [x, y])
  | [], ys, i => by simp [zipIt]
  | x :: xs, [], i => by cases h : (x :: xs)[i]? <;> simp [zipIt]
  | x :: xs, y :: ys, 0 => by simp [zipIt]
  | x :: xs, y :: ys, i + 1 => by simp [zipIt, zipIt_get n m xs ys i]
theorem zipIt_len (n m : Bool) : ∀ (xs ys : List D), (zipIt n m xs ys).length = min xs.length ys.length
  | [], ys => by simp [zipIt]
  | x :: xs, [] => by simp [zipIt]
  | x :: xs, y :: ys => by simp [zipIt, zipIt_len n m xs ys]
def tdZipI (t u : TDE) : TDI := fun r P => t r fun x r1 => ∃ nw b ds, x.cview = some (nw, .seq b ds) ∧ u r1 fun y r2 => ∃ nw' ds', y.cview = some (nw', .seq b ds') ∧ P (zipIt nw nw' ds ds') r2
theorem sni_zip (h : SndE G0 te t) (h' : SndE G0 tb u) : SndI G0 (RZ.iZipA K (tCons te (tCons tb tNil))) (tdZipI t u) := by
  intro vs ka sg H r P R hl E hp k
  refine h vs ka sg H r _ _ hl E hp fun v H1 x r1 l1 E1 h1 => ?_
  obtain ⟨nw, b, ds, hv, h1⟩ := h1
  refine h' (some v :: vs) (x :: ka) sg H1 r1 _ _ (by simp [hl]) E1 h1 fun v' H2 y r2 l2 E2 h2 => ?_
  obtain ⟨nw', ds', hv', h2⟩ := h2
  have Y : ∀ a a', v = .ref a → v' = .ref a' → Yields G0 ([some v', some v] ++ vs) ([y, x] ++ ka) (if b = true then RZ.ItzT K a a' else Itz K a a') (zipIt nw nw' ds ds') := by
    intro a a' ea ea' j vf kf sg2 H3 r3 hf E3
    obtain ⟨G, E3⟩ := E3
    have sh' := cv_sh (vs := some v :: (vs ++ sg2)) (ka := x :: (ka ++ r3)) E3 hf hv'
    have sh := cv_sh (vf := vf ++ [some v']) (kf := kf ++ [y]) (v := v) (x := x) (vs := vs ++ sg2) (ka := ka ++ r3) (by simpa using E3) (by simp [hf]) hv
    cases b with
    | false =>
      obtain ⟨_, ws, e1, e2, p⟩ := sh
      obtain ⟨_, ws', e1', e2', p'⟩ := sh'
      rw [ea] at e1; cases e1
      rw [ea'] at e1'; cases e1'
      refine ⟨fun z hz => ?_, fun hle => ⟨ws, ws', SqL.of e2, SqL.of e2', ?_⟩⟩
      · rw [zipIt_get] at hz
        cases q : ds[j]? with
        | none => rw [q] at hz; cases hz
        | some d =>
          cases q' : ds'[j]? with
          | none => rw [q, q'] at hz; cases hz
          | some d' =>
            rw [q, q'] at hz; cases hz
            obtain ⟨w, f2, f3⟩ := paired_getV p q
            obtain ⟨w', f2', f3'⟩ := paired_getV p' q'
            refine ⟨⟨ws, ws', w, w', SqL.of e2, SqL.of e2', f2, f2'⟩, fun u H4 yl => ?_⟩
            obtain ⟨T, z, z', rfl, hT, rfl, g1, g2⟩ := yl
            have := g1 ws (SqL.of e2)
            rw [f2] at this; cases this
            have := g2 ws' (SqL.of e2')
            rw [f2'] at this; cases this
            exact E3.pushPair hT f3.nwFlat f3'.nwFlat
      · rw [p.length, p'.length]
        rw [zipIt_len] at hle
        omega
    | true =>
      obtain ⟨_, ws, e1, e2, p⟩ := sh
      obtain ⟨_, ws', e1', e2', p'⟩ := sh'
      rw [ea] at e1; cases e1
      rw [ea'] at e1'; cases e1'
      refine ⟨fun z hz => ?_, fun hle => ⟨ws, ws', SqT.of e2, SqT.of e2', ?_⟩⟩
      · rw [zipIt_get] at hz
        cases q : ds[j]? with
        | none => rw [q] at hz; cases hz
        | some d =>
          cases q' : ds'[j]? with
          | none => rw [q, q'] at hz; cases hz
          | some d' =>
            rw [q, q'] at hz; cases hz
            obtain ⟨w, f2, f3⟩ := paired_getV p q
            obtain ⟨w', f2', f3'⟩ := paired_getV p' q'
            refine ⟨⟨ws, ws', w, w', SqT.of e2, SqT.of e2', f2, f2'⟩, fun u H4 yl => ?_⟩
            obtain ⟨T, z, z', rfl, hT, rfl, g1, g2⟩ := yl
            have := g1 ws (SqT.of e2)
            rw [f2] at this; cases this
            have := g2 ws' (SqT.of e2')
            rw [f2'] at this; cases this
            exact E3.pushPair hT f3.nwFlat f3'.nwFlat
      · rw [p.length, p'.length]
        rw [zipIt_len] at hle
        omega
  obtain ⟨G, E2⟩ := id E2
  have sh' := cv_sh (vf := []) (kf := []) (vs := some v :: (vs ++ sg)) (ka := x :: (ka ++ r2)) E2 rfl hv'
  have sh := cv_sh (vf := [some v']) (kf := [y]) (v := v) (x := x) (vs := vs ++ sg) (ka := ka ++ r2) E2 rfl hv
  cases b with
  | false =>
    obtain ⟨a, ws, e1, e2, p⟩ := sh
    obtain ⟨a', ws', e1', e2', p'⟩ := sh'
    subst e1; subst e1'
    exact ⟨a, a', ws, ws', rfl, .inl ⟨SqL.of e2, SqL.of e2', k [some (.ref a'), some (.ref a)] [y, x] _ H2 _ r2 rfl (l2.trans l1) ⟨G, E2⟩ (Y a a' rfl rfl) h2⟩⟩
  | true =>
    obtain ⟨a, ws, e1, e2, p⟩ := sh
    obtain ⟨a', ws', e1', e2', p'⟩ := sh'
    subst e1; subst e1'
    exact ⟨a, a', ws, ws', rfl, .inr ⟨SqT.of e2, SqT.of e2', k [some (.ref a'), some (.ref a)] [y, x] _ H2 _ r2 rfl (l2.trans l1) ⟨G, E2⟩ (Y a a' rfl rfl) h2⟩⟩
/-- {k: v}, k a tuple -/
def tdDisp1T (t u : TDE) : TDE := fun r P => t r fun x r1 => ∃ n kd, x.view = some (n, kd) ∧ u r1 fun y r2 => ∃ m d k, y.view = some (m, d) ∧ kd.keyT = some k ∧ ∀ p, P (.ow p m (.dt [k] [d])) r2
theorem snd_disp1T (ha : SndE G0 te t) (hb : SndE G0 tb u) : SndE G0 (tDisp1T te tb) (tdDisp1T t u) := by
  intro vs ka sg H r P Q hl E hp k
  intro p hpn
  obtain ⟨G, E⟩ := E
  have E1 : Env G0 (upd H p (.dT [])) ((some (.ref p) :: vs) ++ sg) ((.ow p true (.dt [] []) :: ka) ++ r) := ⟨G, E.pushOw (nw := true) (d := .dt [] []) hpn rfl ⟨[], upd_same, rfl, .nil⟩⟩
  refine ha (some (.ref p) :: vs) (.ow p true (.dt [] []) :: ka) sg _ r _ _ (by simp [hl]) E1 hp fun x H1 xi r1 l1 E2 h1 => ?_
  obtain ⟨n, kd, hx, h1⟩ := h1
  have E2 := E2.freeze0 hx
  refine hb (some x :: some (.ref p) :: vs) (.fz n kd :: .ow p true (.dt [] []) :: ka) sg H1 r1 _ _ (by simp [hl]) E2 h1 fun y H2 yi r2 l2 E3 h2 => ?_
  obtain ⟨m, d, kk, hy, hk, h2⟩ := h2
  obtain ⟨G3, E3⟩ := E3.freeze0 hy
  have ry := fz_val E3
  have rx := fz_val E3.tail
  obtain ⟨_, kvs, e1, e2, e3⟩ := E3.tail.tail.head
  cases kvs with
  | cons _ _ => cases e2
  | nil =>
    refine ⟨e1, ?_⟩
    cases kd with
    | seq tt es =>
      cases tt with
      | false => cases hk
      | true =>
        cases rx with
        | tup hh rr =>
          have e := keyT_rep rr hk
          subst e
          refine ⟨kk, _, rfl, E3.le _ _ hh, ?_⟩
          have E5 := EnvG.upd_ (its := .ow p true (.dt [] []) :: (ka ++ r2)) (i := 0) (nw' := m) (d' := .dt [kk] [d]) (o := .dT [(kk, y)]) E3.tail.tail rfl rfl ⟨[(kk, y)], upd_same, rfl, .cons ry .nil⟩
          exact k _ _ _ r2 (l2.trans l1) ⟨_, E5⟩ (h2 p)
    | _ => cases hk
end
end TL
namespace TL
open PySem PySem.Spec PyProof.Rows L2
open Classical in
noncomputable def swp (a : Addr) (u w : HO) (X : Hp) : Hp := fun b => if b = a ∧ X b = some u then some w else X b
section
variable {a : Addr} {u w : HO} {X Y : Hp}
theorem sw_ne {b : Addr} (h : b ≠ a) : swp a u w X b = X b := by unfold swp; rw [if_neg (fun z => h z.1)]
theorem sw_at (h : X a = some u) : swp a u w X a = some w := by unfold swp; rw [if_pos ⟨rfl, h⟩]
theorem sw_upd (h : X a = some u) : swp a u w X = upd X a w := by
  funext b
  by_cases hb : b = a
  · subst hb; rw [sw_at h, upd_same]
  · rw [sw_ne hb, upd_ne hb]
theorem sw_none {b : Addr} : swp a u w X b = none ↔ X b = none := by
  unfold swp
  split
  · rename_i h; rw [h.2]; simp
  · rfl
theorem sw_some {b : Addr} (h : (X b).isSome = true) : (swp a u w X b).isSome = true := by
  cases q : swp a u w X b with
  | none => rw [sw_none] at q; rw [q] at h; cases h
  | some _ => rfl
theorem Le.sw (h : Le X Y) : Le (swp a u w X) (swp a u w Y) := fun b o e => by
  by_cases hb : b = a
  · subst hb
    cases q : X b with
    | none => rw [sw_none.mpr q] at e; cases e
    | some z =>
      have qy := h _ _ q
      by_cases hz : z = u
      · subst hz; rw [sw_at q] at e; rw [sw_at qy]; exact e
      · unfold swp at e ⊢
        rw [if_neg (by rintro ⟨_, h2⟩; rw [q] at h2; cases h2; exact hz rfl)] at e
        rw [if_neg (by rintro ⟨_, h2⟩; rw [qy] at h2; cases h2; exact hz rfl)]
        exact h _ _ e
  · rw [sw_ne hb] at e ⊢; exact h _ _ e
theorem sw_sw (h : X a = none ∨ X a = some u) : swp a w u (swp a u w X) = X := by
  funext b
  by_cases hb : b = a
  · subst hb
    rcases h with h | h
    · rw [sw_none.mpr (sw_none.mpr h), h]
    · rw [sw_at (sw_at h), h]
  · rw [sw_ne hb, sw_ne hb]
/-- the two are the same thing, locked and not -/
inductive Lk : HO → HO → Prop
  | k (o : Obj) (kvs : List (Key × V)) : Lk (.dK kvs) (.frz o (.dK kvs))
  | t (o : Obj) (kvs : List (List Key × V)) : Lk (.dT kvs) (.frz o (.dT kvs))
  | uk (o : Obj) (kvs : List (Key × V)) : Lk (.frz o (.dK kvs)) (.dK kvs)
  | ut (o : Obj) (kvs : List (List Key × V)) : Lk (.frz o (.dT kvs)) (.dT kvs)
theorem Lk.keep {b : Addr} {o : HO} (l : Lk u w) (h : X b = some o) (n : ∀ kvs, o ≠ .dK kvs) (n2 : ∀ kvs, o ≠ .dT kvs) (n3 : ∀ ob z, o ≠ .frz ob z) : swp a u w X b = some o := by
  unfold swp
  rw [if_neg]
  · exact h
  · rintro ⟨_, h2⟩
    rw [h] at h2
    cases h2
    cases l with
    | k ob kvs => exact n _ rfl
    | t ob kvs => exact n2 _ rfl
    | uk ob kvs => exact n3 _ _ rfl
    | ut ob kvs => exact n3 _ _ rfl
theorem Lk.rdK {b : Addr} {kvs : List (Key × V)} (l : Lk u w) (h : Rd X b (.dK kvs)) : Rd (swp a u w X) b (.dK kvs) := by
  by_cases hb : b = a ∧ X b = some u
  · obtain ⟨rfl, hb⟩ := hb
    unfold Rd
    rw [sw_at hb]
    rcases h with h | ⟨ob, h⟩
    · rw [hb] at h; cases h; cases l with | k o _ => exact .inr ⟨o, rfl⟩
    · rw [hb] at h; cases h; cases l with | uk o _ => exact .inl rfl
  · unfold Rd swp
    rw [if_neg hb]; exact h
theorem Lk.rdT {b : Addr} {kvs : List (List Key × V)} (l : Lk u w) (h : Rd X b (.dT kvs)) : Rd (swp a u w X) b (.dT kvs) := by
  by_cases hb : b = a ∧ X b = some u
  · obtain ⟨rfl, hb⟩ := hb
    unfold Rd
    rw [sw_at hb]
    rcases h with h | ⟨ob, h⟩
    · rw [hb] at h; cases h; cases l with | t o _ => exact .inr ⟨o, rfl⟩
    · rw [hb] at h; cases h; cases l with | ut o _ => exact .inl rfl
  · unfold Rd swp
    rw [if_neg hb]; exact h
theorem Lk.car {phi psi : Addr → Prop} (l : Lk u w) (i : ∀ b, phi b → psi b) : Car phi psi X (swp a u w X) :=
  ⟨fun b vs _ h => l.keep h (fun _ z => nomatch z) (fun _ z => nomatch z) (fun _ _ z => nomatch z), fun b kvs _ h => l.rdK h, fun b kvs _ h => l.rdT h,
    fun b vs h => l.keep h (fun _ z => nomatch z) (fun _ z => nomatch z) (fun _ _ z => nomatch z), fun b C dx fs _ h => l.keep h (fun _ z => nomatch z) (fun _ z => nomatch z) (fun _ _ z => nomatch z), fun b h _ => i b h⟩
theorem Lk.sqL {K : PySem.W.Frag} {b : Addr} {xs : List V} (l : Lk u w) (h : SqL K X b xs) : SqL K (swp a u w X) b xs := by
  rcases h with h | h
  · refine .inl ?_
    by_cases hb : b = a ∧ X b = some u
    · obtain ⟨rfl, hb⟩ := hb
      rcases h with h | ⟨ob, h⟩
      · rw [hb] at h; cases h; cases l
      · rw [hb] at h; cases h; cases l
    · unfold Rd swp
      rw [if_neg hb]; exact h
  · exact .inr h
end
noncomputable def Bs.sw (B : Bs) (a : Addr) (u w : HO) : Bs := ⟨swp a u w B.g, B.S, B.h⟩
theorem Bs.sw_sw {B : Bs} {a : Addr} {u w : HO} (h : B.g a = none ∨ B.g a = some u) : (B.sw a u w).sw a w u = B := by
  unfold Bs.sw
  rw [TL.sw_sw h]
def It.isPin : It → Bool
  | .pin _ _ _ => true
  | _ => false
theorem ItOk.sw {G0 : Bs} {G H : Hp} {o : Option V} {x : It} {a : Addr} {u w : HO} (l : Lk u w) (hG : G a = some u) (h : ItOk G0 G H o x) (out : ∀ b, x.reg b = true → G b = none) (np : ∀ b o z, x = .pin b o z → b ≠ a) : ItOk (G0.sw a u w) (swp a u w G) (swp a u w H) o x := by
  have ne : ∀ b, x.reg b = true → b ≠ a := fun b r e => by rw [e] at r; rw [out a r] at hG; cases hG
  have nwp : ∀ nw b, nwP G0 nw b → nwP (G0.sw a u w) nw b := fun nw b h e => sw_none.mpr (h e)
  cases x with
  | no => trivial
  | fz nw d => obtain ⟨v, e, r⟩ := h; exact ⟨v, e, r.car (l.car fun b => nwp nw b)⟩
  | ow p nw d =>
    obtain ⟨e, r⟩ := h
    have hp : p ≠ a := ne p (by simp [It.reg])
    refine ⟨e, ?_⟩
    cases d with
    | seq t ds =>
      cases t with
      | false => obtain ⟨vs, h1, h2⟩ := r; exact ⟨vs, (sw_ne hp).trans h1, h2.car (l.car fun b => nwp nw b)⟩
      | true => exact r
    | dk ks ds => obtain ⟨vs, h1, h2, h3⟩ := r; exact ⟨vs, (sw_ne hp).trans h1, h2, h3.car (l.car fun b => nwp nw b)⟩
    | dt ks ds => obtain ⟨vs, h1, h2, h3⟩ := r; exact ⟨vs, (sw_ne hp).trans h1, h2, h3.car (l.car fun b => nwp nw b)⟩
    | ins C ns ds => obtain ⟨dx, vs, h1, h2, h3⟩ := r; exact ⟨dx, vs, (sw_ne hp).trans h1, h2, h3.car (l.car fun b => nwp nw b)⟩
    | _ => exact r
  | dp S d =>
    obtain ⟨v, e, r⟩ := h
    refine ⟨v, e, ?_⟩
    have : mrg S (swp a u w H) (swp a u w G) = swp a u w (mrg S H G) := by
      funext b
      unfold mrg
      by_cases hs : S b = true
      · have hb : b ≠ a := ne b hs
        rw [if_pos hs, sw_ne hb, sw_ne hb, if_pos hs]
      · by_cases hb : b = a
        · subst hb
          have e2 : (fun c => if S c = true then H c else G c) b = some u := by show (if S b = true then H b else G b) = _; rw [if_neg hs]; exact hG
          rw [if_neg hs, sw_at hG, sw_at e2]
        · rw [if_neg hs, sw_ne hb, sw_ne hb, if_neg hs]
    rw [this]
    exact r.car (l.car fun b h => h)
  | st b q g =>
    obtain ⟨h1, h2, h3, h4⟩ := h
    exact ⟨h1, h2, (sw_ne (ne _ (by simp [It.reg]))).trans h3, (sw_ne (ne _ (by simp [It.reg]))).trans h4⟩
  | fr S H0 => exact fun b hs => (sw_ne (ne b hs)).trans (h b hs)
  | scr K ns => obtain ⟨b, h1, h2⟩ := h; exact ⟨b, h1, l.sqL h2⟩
  | tb P q =>
    obtain ⟨ps, h1, h2, h3⟩ := h
    exact ⟨ps, (sw_ne (ne _ (by simp [It.reg]))).trans h1, h2, fun pos cv hc => let ⟨c, e1, e2⟩ := h3 pos cv hc; ⟨c, e1, l.keep e2 (fun _ z => nomatch z) (fun _ z => nomatch z) (fun _ _ z => nomatch z)⟩⟩
  | pin b ob z =>
    exact (sw_ne (np b ob z rfl)).trans h
theorem EnvG.sw {G0 : Bs} {G H : Hp} {vs : List (Option V)} {its : List It} {a : Addr} {u w : HO} (l : Lk u w) (E : EnvG G0 G H vs its) (hG : G a = some u) (np : ∀ (i : Nat) (b : Addr) (o : Obj) (z : HO), its[i]? = some (.pin b o z) → b ≠ a) :
    EnvG (G0.sw a u w) (swp a u w G) (swp a u w H) vs its where
  len := E.len
  l0 := E.l0.sw
  le := E.le.sw
  tp := fun b xs h => by
    have nu : ∀ xs, w ≠ .tup xs := fun xs e => by cases l <;> cases e
    by_cases hb : b = a
    · rw [hb, sw_at (E.le _ _ hG)] at h; cases h; exact absurd rfl (nu _)
    · rw [sw_ne hb] at h ⊢; exact E.tp _ _ h
  ok := fun i x hx => (E.ok i x hx).sw l hG (fun b r => (E.out i x b hx r).1) fun b o z e => np i b o z (by rw [hx, e])
  sp := E.sp
  out := fun i x b hx r => ⟨sw_none.mpr (E.out i x b hx r).1, sw_some (E.out i x b hx r).2⟩
  fr := fun b h => by
    obtain ⟨h1, h2, h3⟩ := E.fr b h
    have hb : b ≠ a := fun z => by rw [z, hG] at h1; cases h1
    exact ⟨(sw_ne hb).trans h1, (sw_ne hb).trans h2, by rw [sw_ne hb]; exact h3⟩
  frd := E.frd
def keyD : Key → D
  | .inl i => .int i
  | .inr x => .str x
def D.keys : D → Option (List D)
  | .dk ks _ => some (ks.map keyD)
  | .dt ks _ => some (ks.map fun k => .seq true (k.map keyD))
  | _ => none
def noPin (r : Rho) : Bool := r.all fun x => !x.isPin
/-- what holds behind the walk: no pins among the slots -/
def TEnds.np (P : TEnds) : TEnds := { nx := fun r => noPin r = true ∧ P.nx r, rt := fun x r => (noPin r = true ∧ x.isPin = false) ∧ P.rt x r, bk := fun r => noPin r = true ∧ P.bk r, ct := fun r => noPin r = true ∧ P.ct r }
def tdForK (i : Nat) (tg : TDG) (tb : TDS) : TDS := fun P r => ∃ x nw d ks, r[i]? = some x ∧ x.view = some (nw, d) ∧ d.keys = some ks ∧ forB tg tb P.np (ks.map (.fz true)) (r.set i (.fz nw d))
def tForK (td : TE) (g : TG) (tb : TS) : TS := fun D σ H => tFor (iKeys td) g tb D σ H ∨ tLock (tFor (iKeys td) g tb) D σ H
theorem ps_forK {X : Cx} {st : Stmt} {td : TE} {g : TG} {tb : TS} (h : L2.PS X st (tFor (iKeys td) g tb)) : L2.PS X st (tForK td g tb) := by
  refine ⟨fun pins s σ H D I hw => ?_⟩
  rcases hw with hw | hw
  · exact h.run pins s σ H D I hw
  · exact (ps_lock h).run pins s σ H D I hw
section
variable {G0 : Bs} {te ta tb tc : TE} {t u : TDE} {toa tob : TDO} {al : TA} {tal : TDA} {K : PySem.W.Frag} {ts : TS} {ds : TDS} {tt : TT} {s : TDT}
theorem RepL.keys {phi : Addr → Prop} {H : Hp} : ∀ (k : List Key), RepL phi H (k.map kV) (k.map keyD)
  | [] => .nil
  | .inl i :: r => .cons (.int i) (RepL.keys r)
  | .inr x :: r => .cons (.str x) (RepL.keys r)
theorem yields_k {G1 : Bs} {vs : List (Option V)} {ka : List TL.It} {a : Addr} {o : Obj} {kvs : List (Key × V)} : Yields G1 (none :: vs) (.pin a o (.dK kvs) :: ka) (Itk a o kvs) ((kvs.map (·.1)).map fun k => .fz true (keyD k)) := by
  intro j vf kf sg2 H2 r2 hf E2
  obtain ⟨G, E2⟩ := E2
  have hp : G a = some (.frz o (.dK kvs)) := E2.ok kf.length (.pin a o (.dK kvs)) (by rw [List.getElem?_append_right (Nat.le_refl _)]; simp)
  have hp2 := E2.le _ _ hp
  refine ⟨fun y hy => ?_, fun hle => ⟨hp2, by simpa using hle⟩⟩
  rw [List.map_map, List.getElem?_map] at hy
  cases q : kvs[j]? with
  | none => rw [q] at hy; cases hy
  | some p =>
    rw [q] at hy
    cases hy
    refine ⟨⟨hp2, (List.getElem?_eq_some_iff.mp q).1⟩, fun v H3 yl => ?_⟩
    obtain ⟨rfl, k, v', e1, rfl⟩ := yl
    rw [q] at e1
    cases e1
    exact ⟨G, E2.pushFlat (by cases k <;> rfl)⟩
theorem yields_t {G1 : Bs} {vs : List (Option V)} {ka : List TL.It} {a : Addr} {o : Obj} {kvs : List (List Key × V)} : Yields G1 (none :: vs) (.pin a o (.dT kvs) :: ka) (Itkt a o kvs) ((kvs.map (·.1)).map fun k => .fz true (.seq true (k.map keyD))) := by
  intro j vf kf sg2 H2 r2 hf E2
  obtain ⟨G, E2⟩ := E2
  have hp : G a = some (.frz o (.dT kvs)) := E2.ok kf.length (.pin a o (.dT kvs)) (by rw [List.getElem?_append_right (Nat.le_refl _)]; simp)
  have hp2 := E2.le _ _ hp
  refine ⟨fun y hy => ?_, fun hle => ⟨hp2, by simpa using hle⟩⟩
  rw [List.map_map, List.getElem?_map] at hy
  cases q : kvs[j]? with
  | none => rw [q] at hy; cases hy
  | some p =>
    rw [q] at hy
    cases hy
    refine ⟨⟨hp2, (List.getElem?_eq_some_iff.mp q).1⟩, fun v H3 yl => ?_⟩
    obtain ⟨rfl, k, v', b, e1, rfl, e3⟩ := yl
    rw [q] at e1
    cases e1
    exact ⟨G, E2.pushFz (.tup (E2.tp _ _ e3) (RepL.keys k))⟩
theorem EnvG.pushPin {G H : Hp} {vs : List (Option V)} {its : List TL.It} (E : EnvG G0 G H vs its) {a : Addr} {o : Obj} {u : HO} (h : G a = some (.frz o u)) : EnvG G0 G H (none :: vs) (.pin a o u :: its) :=
  E.push (Le.refl _) E.le E.tp (Le.refl _) (fun a h1 h2 => by rw [h1] at h2; cases h2) h fun a r => by simp [It.reg] at r
theorem noPin_get {r : Rho} (h : noPin r = true) {i : Nat} {x : TL.It} (hx : r[i]? = some x) : x.isPin = false := by
  have := List.all_eq_true.mp h x (List.mem_of_getElem? hx)
  simpa using this
/-- the walk's core: the thing at a stands in the frozen part -/
theorem forK_core {i : Nat} {g : TG} {tg : TDG} {own : List Nat} (hg : ∀ G0, SndG G0 own g tg) (hb : ∀ G0, SndS G0 ts ds) {vs : List (Option V)} {ka : List TL.It} {sg : L2.St} {G H : Hp} {r : Rho} {P : TEnds} {Dn : Ends} {a : Addr} {u : HO} {J : Obj → L2.It} {ys : List TL.It}
    (mu : Mut (some u)) (lk : ∀ od, Lk u (.frz od u)) (uk : ∀ od, Lk (.frz od u) u) (nf : ∀ o z, u ≠ .frz o z) (hy : ∀ G1 vs ka od, Yields G1 (none :: vs) (.pin a od u :: ka) (J od) ys)
    (hk : ∀ od (H : Hp) (R : L2.It → Hp → Prop), H a = some (.frz od u) → R (J od) H → iKeys (tVar i) sg H R) (hl : vs.length = ka.length) (E : EnvG G0 G H (vs ++ sg) (ka ++ r)) (hr : Rd G a u) (hp : forB tg ds P.np ys r) (k : EOk G0 vs ka P Dn) :
    tForK (tVar i) g ts Dn sg H := by
  rcases hr with hr | ⟨od, hr⟩
  · right
    refine ⟨a, u, E.le _ _ hr, mu, fun od => hk od _ _ upd_same ?_⟩
    have pn : ∀ (j : Nat) (b : Addr) (o : Obj) (z : HO), (ka ++ r)[j]? = some (.pin b o z) → b ≠ a := fun j b o z e q => by
      have h : G b = some (.frz o z) := E.ok j _ e
      rw [q, hr] at h
      cases h
      exact nf _ _ rfl
    have E1 := EnvG.sw (lk od) E hr pn
    rw [sw_upd (E.le _ _ hr)] at E1
    have E2 := E1.pushPin (sw_at hr)
    have h0 : G0.g a = none ∨ G0.g a = some u := by
      cases q : G0.g a with
      | none => exact .inl rfl
      | some o => rw [E.l0 _ _ q] at hr; cases hr; exact .inr rfl
    -- unlocked again
    have back : ∀ {vf : List (Option V)} {kf : List TL.It} {H' : Hp} {sg' : L2.St} {r' : Rho}, vf.length = kf.length → Env (G0.sw a u (.frz od u)) H' (vf ++ ((none :: vs) ++ sg')) (kf ++ ((.pin a od u :: ka) ++ r')) → noPin r' = true → noPin kf = true → H' a = some (.frz od u) ∧ Env G0 (upd H' a u) (vf ++ (vs ++ sg')) (kf ++ (ka ++ r')) := by
      intro vf kf H' sg' r' hf E3 n1 n2
      obtain ⟨G3, E3⟩ := E3
      have hp3 : G3 a = some (.frz od u) := E3.ok kf.length (.pin a od u) (by rw [List.getElem?_append_right (Nat.le_refl _)]; simp)
      have hh := E3.le _ _ hp3
      have E4 : EnvG (G0.sw a u (.frz od u)) G3 H' (vf ++ (vs ++ sg')) (kf ++ (ka ++ r')) := by
        refine E3.sel (fun i => if i < kf.length then i else i + 1) (fun i j h => ?_) (by have := E3.len; simp at this ⊢; omega) fun i x hx => .inr ?_
        · have h : (if i < kf.length then i else i + 1) = (if j < kf.length then j else j + 1) := h
          split at h <;> split at h <;> omega
        · by_cases hi : i < kf.length
          · rw [if_pos hi]
            rw [List.getElem?_append_left hi] at hx ⊢
            refine ⟨hx, ?_⟩
            rw [List.getD_eq_getElem?_getD, List.getD_eq_getElem?_getD, List.getElem?_append_left (by omega), List.getElem?_append_left (by omega)]
          · rw [if_neg hi]
            rw [List.getElem?_append_right (by omega)] at hx ⊢
            have e : i + 1 - kf.length = (i - kf.length) + 1 := by omega
            refine ⟨by rw [e]; exact hx, ?_⟩
            rw [List.getD_eq_getElem?_getD, List.getD_eq_getElem?_getD, List.getElem?_append_right (l₁ := vf) (l₂ := vs ++ sg') (by omega), List.getElem?_append_right (l₁ := vf) (l₂ := (none :: vs) ++ sg') (by omega)]
            rw [show i + 1 - vf.length = (i - vf.length) + 1 by omega]
            rfl
      have E5 := EnvG.sw (uk od) E4 hp3 fun j b o z e q => by
        by_cases hi : j < kf.length
        · rw [List.getElem?_append_left hi] at e
          have := noPin_get n2 e
          cases this
        · rw [List.getElem?_append_right (by omega)] at e
          by_cases hj : j - kf.length < ka.length
          · rw [List.getElem?_append_left hj] at e
            exact pn (j - kf.length) b o z (by rw [List.getElem?_append_left hj]; exact e) q
          · rw [List.getElem?_append_right (by omega)] at e
            have := noPin_get n1 e
            cases this
      rw [show (G0.sw a u (.frz od u)).sw a (.frz od u) u = G0 from Bs.sw_sw h0, sw_upd hh] at E5
      exact ⟨hh, _, E5⟩
    refine for_core (hg _) (hb _) (vs := none :: vs) (ka := .pin a od u :: ka) (by simp [hl]) ?_ ⟨_, E2⟩ (hy _ _ _ od) hp
    refine ⟨fun sg' H' r' E3 h => ?_, fun v sg' H' x r' E3 h => ?_, fun sg' H' r' E3 h => ?_, fun sg' H' r' E3 h => ?_⟩
    · obtain ⟨b1, b2⟩ := back (vf := []) (kf := []) rfl E3 h.1 rfl
      exact ⟨b1, k.nx _ _ _ b2 h.2⟩
    · obtain ⟨b1, b2⟩ := back (vf := [some v]) (kf := [x]) rfl E3 h.1.1 (by simp [noPin, h.1.2])
      exact ⟨b1, k.rt v sg' _ x r' b2 h.2⟩
    · obtain ⟨b1, b2⟩ := back (vf := []) (kf := []) rfl E3 h.1 rfl
      exact ⟨b1, k.bk _ _ _ b2 h.2⟩
    · obtain ⟨b1, b2⟩ := back (vf := []) (kf := []) rfl E3 h.1 rfl
      exact ⟨b1, k.ct _ _ _ b2 h.2⟩
  · left
    refine hk od _ _ (E.le _ _ hr) ?_
    have E2 := E.pushPin hr
    refine for_core (hg _) (hb _) (vs := none :: vs) (ka := .pin a od u :: ka) (by simp [hl]) ?_ ⟨_, E2⟩ (hy _ _ _ od) hp
    refine ⟨fun sg' H' r' E3 h => k.nx _ _ _ (Env.dropFront (vs' := [none]) (ka' := [.pin a od u]) rfl E3) h.2, fun v sg' H' x r' E3 h => k.rt v _ _ x r' (Env.dropMid (vs' := [none]) (ka' := [.pin a od u]) rfl E3) h.2,
      fun sg' H' r' E3 h => k.bk _ _ _ (Env.dropFront (vs' := [none]) (ka' := [.pin a od u]) rfl E3) h.2, fun sg' H' r' E3 h => k.ct _ _ _ (Env.dropFront (vs' := [none]) (ka' := [.pin a od u]) rfl E3) h.2⟩
/-- a name's value, frozen -/
theorem slot_frz {H : Hp} {vs : List (Option V)} {ka : List TL.It} {sg : L2.St} {r : Rho} {i : Nat} {x : TL.It} {nw : Bool} {d : D} (hl : vs.length = ka.length) (E : Env G0 H (vs ++ sg) (ka ++ r)) (hi : r[i]? = some x) (hv : x.view = some (nw, d)) :
    ∃ v G, sg[i]? = some (some v) ∧ EnvG G0 G H (vs ++ sg) (ka ++ r.set i (.fz nw d)) ∧ Rep (nwP G0 nw) G v d := by
  obtain ⟨G, E⟩ := E
  obtain ⟨v, hs⟩ := slot_val E hl hi (by cases x <;> first | rfl | cases hv)
  obtain ⟨G', E'⟩ := E.freeze (i := ka.length + i) (by rw [get_app]; exact hi) hv
  rw [set_app] at E'
  have X := E'.itx (i := ka.length + i) (x := .fz nw d) (by rw [get_app]; exact List.getElem?_set_self (List.getElem?_eq_some_iff.mp hi).1)
  rw [getD_app hl] at X
  have e : sg.getD i none = some v := by rw [List.getD_eq_getElem?_getD, hs]; rfl
  rw [e] at X
  obtain ⟨⟨w, e1, rp⟩, _⟩ := X
  cases e1
  exact ⟨v, G', hs, E', rp⟩
theorem sns_forK {i : Nat} {g : TG} {tg : TDG} {own : List Nat} (hg : ∀ G0, SndG G0 own g tg) (hb : ∀ G0, SndS G0 ts ds) : SndS G0 (tForK (tVar i) g ts) (tdForK i tg ds) := by
  intro vs ka sg H r P Dn hl E hp k
  obtain ⟨x, nw, d, ks, hi, hv, hks, hp⟩ := hp
  obtain ⟨v, G, hs, E, rp⟩ := slot_frz hl E hi hv
  cases d with
  | dk ks' ds' =>
    cases hks
    cases rp with
    | dk h1 h2 h3 h4 =>
      rename_i a kvs
      subst h3
      refine forK_core hg hb (J := fun od => Itk a od kvs) (u := .dK kvs) trivial (fun od => .k od kvs) (fun od => .uk od kvs) (fun _ _ z => nomatch z) (fun G1 vs ka od => yields_k) (fun od H R h q => ⟨_, hs, a, od, rfl, .inl ⟨kvs, h, q⟩⟩) hl E h1 ?_ k
      simpa [List.map_map, Function.comp_def] using hp
  | dt ks' ds' =>
    cases hks
    cases rp with
    | dt h1 h2 h3 h4 =>
      rename_i a kvs
      subst h3
      refine forK_core hg hb (J := fun od => Itkt a od kvs) (u := .dT kvs) trivial (fun od => .t od kvs) (fun od => .ut od kvs) (fun _ _ z => nomatch z) (fun G1 vs ka od => yields_t) (fun od H R h q => ⟨_, hs, a, od, rfl, .inr ⟨kvs, h, q⟩⟩) hl E h1 ?_ k
      simpa [List.map_map, Function.comp_def] using hp
  | _ => cases hks
end
end TL
namespace TL
open PySem PySem.Spec PyProof.Rows L2 SrtO
section
variable {G0 : Bs} {te ta tb tc : TE} {t u : TDE} {toa tob : TDO} {al : TA} {tal : TDA} {K : PySem.W.Frag} {ts : TS} {ds : TDS} {tt : TT} {s : TDT}
theorem unlock_env {vs : List (Option V)} {ka : List TL.It} {G : Hp} {a : Addr} {u : HO} {od : Obj} (uk : Lk (.frz od u) u) (pn : ∀ (j : Nat) (b : Addr) (o : Obj) (z : HO), ka[j]? = some (.pin b o z) → b ≠ a) (h0 : G0.g a = none ∨ G0.g a = some u) :
    ∀ {vf : List (Option V)} {kf : List TL.It} {H' : Hp} {sg' : L2.St} {r' : Rho}, vf.length = kf.length → Env (G0.sw a u (.frz od u)) H' (vf ++ ((none :: vs) ++ sg')) (kf ++ ((.pin a od u :: ka) ++ r')) → noPin r' = true → noPin kf = true → H' a = some (.frz od u) ∧ Env G0 (upd H' a u) (vf ++ (vs ++ sg')) (kf ++ (ka ++ r')) := by
  intro vf kf H' sg' r' hf E3 n1 n2
  obtain ⟨G3, E3⟩ := E3
  have hp3 : G3 a = some (.frz od u) := E3.ok kf.length (.pin a od u) (by rw [List.getElem?_append_right (Nat.le_refl _)]; simp)
  have hh := E3.le _ _ hp3
  have E4 : EnvG (G0.sw a u (.frz od u)) G3 H' (vf ++ (vs ++ sg')) (kf ++ (ka ++ r')) := by
    refine E3.sel (fun i => if i < kf.length then i else i + 1) (fun i j h => ?_) (by have := E3.len; simp at this ⊢; omega) fun i x hx => .inr ?_
    · have h : (if i < kf.length then i else i + 1) = (if j < kf.length then j else j + 1) := h
      split at h <;> split at h <;> omega
    · by_cases hi : i < kf.length
      · rw [if_pos hi]
        rw [List.getElem?_append_left hi] at hx ⊢
        refine ⟨hx, ?_⟩
        rw [List.getD_eq_getElem?_getD, List.getD_eq_getElem?_getD, List.getElem?_append_left (by omega), List.getElem?_append_left (by omega)]
      · rw [if_neg hi]
        rw [List.getElem?_append_right (by omega)] at hx ⊢
        have e : i + 1 - kf.length = (i - kf.length) + 1 := by omega
        refine ⟨by rw [e]; exact hx, ?_⟩
        rw [List.getD_eq_getElem?_getD, List.getD_eq_getElem?_getD, List.getElem?_append_right (l₁ := vf) (l₂ := vs ++ sg') (by omega), List.getElem?_append_right (l₁ := vf) (l₂ := (none :: vs) ++ sg') (by omega)]
        rw [show i + 1 - vf.length = (i - vf.length) + 1 by omega]
        rfl
  have E5 := EnvG.sw uk E4 hp3 fun j b o z e q => by
    by_cases hi : j < kf.length
    · rw [List.getElem?_append_left hi] at e
      have := noPin_get n2 e
      cases this
    · rw [List.getElem?_append_right (by omega)] at e
      by_cases hj : j - kf.length < ka.length
      · rw [List.getElem?_append_left hj] at e
        exact pn (j - kf.length) b o z e q
      · rw [List.getElem?_append_right (by omega)] at e
        have := noPin_get n1 e
        cases this
  rw [show (G0.sw a u (.frz od u)).sw a (.frz od u) u = G0 from Bs.sw_sw h0, sw_upd hh] at E5
  exact ⟨hh, _, E5⟩
def tLcK (td : TE) (g : TG) (tt : TT) (te : TE) (vs : List Nat) : TE := fun σ H Q => tLc (iKeys td) g tt te vs σ H Q ∨ tLockE (tLc (iKeys td) g tt te vs) σ H Q
theorem pe_lcK {X : Cx} {e : Expr} {td : TE} {g : TG} {vs : List Nat} (h : PE X e (tLc (iKeys td) g tt te vs)) : PE X e (tLcK td g tt te vs) := by
  refine ⟨fun pins s σ H Q I hw => ?_⟩
  rcases hw with hw | hw
  · exact h.run pins s σ H Q I hw
  · exact (pe_lock h).run pins s σ H Q I hw
def tdLcK (i : Nat) (tg : TDG) (s : TDT) (t : TDE) (own : List Nat) : TDE := fun r P => ∃ x nw d ks, r[i]? = some x ∧ x.view = some (nw, d) ∧ d.keys = some ks ∧ lcB tg s t own (fun x r => (noPin r = true ∧ x.isPin = false) ∧ P x r) (ks.map (.fz true)) (r.set i (.fz nw d))
theorem lcK_core {i : Nat} {g : TG} {tg : TDG} {own : List Nat} (hg : ∀ G0, SndG G0 own g tg) (ht : ∀ G0, SndT G0 tt s) (he : ∀ G0, SndE G0 te t) {vs : List (Option V)} {ka : List TL.It} {sg : L2.St} {G H : Hp} {r : Rho} {P : TL.It → Rho → Prop} {Q : VK} {a : Addr} {u : HO} {J : Obj → L2.It} {ys : List TL.It}
    (mu : Mut (some u)) (lk : ∀ od, Lk u (.frz od u)) (uk : ∀ od, Lk (.frz od u) u) (nf : ∀ o z, u ≠ .frz o z) (hy : ∀ G1 vs ka od, Yields G1 (none :: vs) (.pin a od u :: ka) (J od) ys)
    (hk : ∀ od (H : Hp) (R : L2.It → Hp → Prop), H a = some (.frz od u) → R (J od) H → iKeys (tVar i) sg H R) (hl : vs.length = ka.length) (E : EnvG G0 G H (vs ++ sg) (ka ++ r)) (hr : Rd G a u) (hp : lcB tg s t own (fun x r => (noPin r = true ∧ x.isPin = false) ∧ P x r) ys r)
    (k : ∀ v H' x r', r'.length = r.length → Env G0 H' (some v :: (vs ++ sg)) (x :: (ka ++ r')) → P x r' → Q v H') : tLcK (tVar i) g tt te own sg H Q := by
  rcases hr with hr | ⟨od, hr⟩
  · right
    refine ⟨a, u, E.le _ _ hr, mu, fun od => hk od _ _ upd_same ?_⟩
    have pn : ∀ (j : Nat) (b : Addr) (o : Obj) (z : HO), (ka ++ r)[j]? = some (.pin b o z) → b ≠ a := fun j b o z e q => by
      have h : G b = some (.frz o z) := E.ok j _ e
      rw [q, hr] at h
      cases h
      exact nf _ _ rfl
    have E1 := EnvG.sw (lk od) E hr pn
    rw [sw_upd (E.le _ _ hr)] at E1
    have E2 := E1.pushPin (sw_at hr)
    have h0 : G0.g a = none ∨ G0.g a = some u := by
      cases q : G0.g a with
      | none => exact .inl rfl
      | some o => rw [E.l0 _ _ q] at hr; cases hr; exact .inr rfl
    refine lc_core_ (hg _) (ht _) (he _) (vs := none :: vs) (ka := .pin a od u :: ka) (Q := fun v H' => H' a = some (.frz od u) ∧ Q v (upd H' a u)) (by simp [hl]) ⟨_, E2⟩ (hy _ _ _ od) hp fun Dl H2 x r2 l2 E3 h2 => ?_
    obtain ⟨b1, b2⟩ := unlock_env (G := G) (uk od) (fun j b o z e => pn j b o z (by
      have := (List.getElem?_eq_some_iff.mp e).1
      rw [List.getElem?_append_left this]; exact e)) h0 (vf := [some (.ref Dl)]) (kf := [x]) rfl E3 h2.1.1 (by simp [noPin, h2.1.2])
    exact ⟨b1, k _ _ x r2 l2 b2 h2.2⟩
  · left
    refine hk od _ _ (E.le _ _ hr) ?_
    have E2 := E.pushPin hr
    refine lc_core_ (hg _) (ht _) (he _) (vs := none :: vs) (ka := .pin a od u :: ka) (by simp [hl]) ⟨_, E2⟩ (hy _ _ _ od) hp fun Dl H2 x r2 l2 E3 h2 => ?_
    exact k _ _ x r2 l2 (Env.dropMid (vs' := [none]) (ka' := [.pin a od u]) rfl E3) h2.2
theorem snd_lcK {i : Nat} {g : TG} {tg : TDG} {own : List Nat} (hg : ∀ G0, SndG G0 own g tg) (ht : ∀ G0, SndT G0 tt s) (he : ∀ G0, SndE G0 te t) : SndE G0 (tLcK (tVar i) g tt te own) (tdLcK i tg s t own) := by
  intro vs ka sg H r P Q hl E hp k
  obtain ⟨x, nw, d, ks, hi, hv, hks, hp⟩ := hp
  obtain ⟨v, G, hs, E, rp⟩ := slot_frz hl E hi hv
  have k : ∀ v H' x r', r'.length = (r.set i (.fz nw d)).length → Env G0 H' (some v :: (vs ++ sg)) (x :: (ka ++ r')) → P x r' → Q v H' := fun v H' x r' l => k v H' x r' (by simpa using l)
  cases d with
  | dk ks' ds' =>
    cases hks
    cases rp with
    | dk h1 h2 h3 h4 =>
      rename_i a kvs
      subst h3
      refine lcK_core hg ht he (J := fun od => Itk a od kvs) (u := .dK kvs) trivial (fun od => .k od kvs) (fun od => .uk od kvs) (fun _ _ z => nomatch z) (fun G1 vs ka od => yields_k) (fun od H R h q => ⟨_, hs, a, od, rfl, .inl ⟨kvs, h, q⟩⟩) hl E h1 ?_ k
      simpa [List.map_map, Function.comp_def] using hp
  | dt ks' ds' =>
    cases hks
    cases rp with
    | dt h1 h2 h3 h4 =>
      rename_i a kvs
      subst h3
      refine lcK_core hg ht he (J := fun od => Itkt a od kvs) (u := .dT kvs) trivial (fun od => .t od kvs) (fun od => .ut od kvs) (fun _ _ z => nomatch z) (fun G1 vs ka od => yields_t) (fun od H R h q => ⟨_, hs, a, od, rfl, .inr ⟨kvs, h, q⟩⟩) hl E h1 ?_ k
      simpa [List.map_map, Function.comp_def] using hp
  | _ => cases hks
def tDNewA : TE := fun σ H Q => tDNewK σ H Q ∨ tDNewT σ H Q
theorem pe_dnewA {X : Cx} {pos : Pos} : PE X (.Dict [] [] pos) tDNewA := by
  refine ⟨fun pins s σ H Q I hw => ?_⟩
  rcases hw with hw | hw
  · exact pe_dnewK.run pins s σ H Q I hw
  · exact pe_dnewT.run pins s σ H Q I hw
/-- tt: the keys are tuples -/
def tdDict (tt : Bool) : TDE := fun r P => ∀ p, P (.ow p true (if tt = true then .dt [] [] else .dk [] [])) r
def tdDictA : TDE := fun r P => ∃ tt : Bool, tdDict tt r P
theorem snd_dictA : SndE G0 tDNewA tdDictA := by
  intro vs ka sg H r P Q hl E hp k
  obtain ⟨tt, hp⟩ := hp
  cases tt with
  | false => exact .inl (snd_dictK vs ka sg H r P Q hl E hp k)
  | true => exact .inr (snd_dictT vs ka sg H r P Q hl E hp k)
end
section
variable {prog : Program} {w : World} {A : Around} {E : Value → Shared → Prop} {s : Shared}
def IsTi (h : Heap) (v : Value) (ns : List Int) : Prop := ∃ (a : Addr) (o : Obj) (us : List Value) (n : Nat), v = .ref a ∧ h.get? a = some o ∧ o.cls = .type "tuple" ∧ o.data = .seq us.toArray n ∧ IntsAre us ns
theorem IsTi.keeps {h h' : Heap} {v : Value} {ns : List Int} (x : IsTi h v ns) (k : ∀ b o, h.get? b = some o → o.cls = .type "tuple" → h'.get? b = some o) : IsTi h' v ns := by
  obtain ⟨a, o, us, n, e, ho, hc, hd, hi⟩ := x
  exact ⟨a, o, us, n, e, k _ _ ho hc, hc, hd, hi⟩
theorem katlex_ints {Q : Bool → Shared → Prop} : ∀ {us ws : List Value} {ns ms : List Int} (i : Nat), IntsAre us ns → IntsAre ws ms → Q (HT.lexLt ns ms) s →
    PySem.W.KatLex prog w A true (decide (us.length < ws.length)) Q (us.zip ws) i s
  | _, _, _, _, i, .nil, .nil, h => h
  | _, _, _, _, i, .nil, .cons _ _ _, h => by simpa [PySem.W.KatLex, HT.lexLt] using h
  | _, _, _, _, i, .cons _ _ _, .nil, h => by simpa [PySem.W.KatLex, HT.lexLt] using h
  | _, _, _, _, i, .cons (vs := us) (ns := ns) x t tu, .cons (vs := ws) (ns := ms) y t' tw, h => by
    rw [HT.lexLt_cons] at h
    refine PySem.W.kat_cons (SeqAt.EqAt.int_int x t y t' prog w _ _ ?_)
    have e : (decide ((Value.int x t :: us).length < (Value.int y t' :: ws).length)) = decide (us.length < ws.length) := by simp
    rw [e]
    refine PySem.W.kat_go (fun e1 => ?_) (fun e1 => ?_)
    · have ex : x = y := by simpa using e1
      rw [if_pos ex] at h
      exact PySem.W.kat_yes (katlex_ints (i + 1) tu tw h)
    · have ex : ¬ x = y := by simpa using e1
      rw [if_neg ex] at h
      refine PySem.W.kat_no ?_
      cases i with
      | zero => exact oneLt_int h
      | succ i => exact PySem.W.kat_one _ _ (PyProof.Rows.lt_int h)
theorem tis_cmp {vs : List Value} {k : Value → List Int} (hp : ∀ v ∈ vs, IsTi s.heap v (k v)) : Cmp prog w A s (tuples' true) (fun p => p.1 ∈ vs) (lt2 fun v u => HT.lexLt (k v) (k u)) := by
  intro p q hm hm'
  have h1 := hp _ hm
  have h2 := hp _ hm'
  show wpAny (model prog w) A (keyLt' (tuples' true) p.1 q.1) (fun r s' => s' = s ∧ r = HT.lexLt (k p.1) (k q.1)) (fun _ _ => False) s
  obtain ⟨a, o, us, n, e, ho, hc, hd, hi⟩ := h1
  obtain ⟨a', o', us', n', e', ho', hc', hd', hi'⟩ := h2
  generalize k p.1 = ns at hi ⊢
  generalize k q.1 = ms at hi' ⊢
  rw [e, e']
  refine PySem.W.kat_lt ho hd ho' hd' ?_
  have := katlex_ints (prog := prog) (w := w) (A := A) (s := s) (Q := fun r s' => s' = s ∧ r = HT.lexLt ns ms) 0 hi hi' ⟨rfl, rfl⟩
  simpa using this
theorem firstsT_of {h : Heap} {k : Value → List Int} : ∀ {vs : List Value}, (∀ v ∈ vs, IsTi h v (k v) ∧ k v ≠ []) → ∃ fs : List Value, PySem.W.KatTups h vs fs ∧ fs.length = vs.length ∧ ∀ f ∈ fs, ∃ x t, f = Value.int x t
  | [], _ => ⟨[], PySem.W.KatTups.nil, rfl, fun _ hm => by simp at hm⟩
  | v :: vs, hp => by
    obtain ⟨fs, h1, h2, h3⟩ := firstsT_of (vs := vs) fun v' hm => hp v' (List.mem_cons_of_mem _ hm)
    obtain ⟨⟨a, o, us, n, e, ho, hc, hd, hi⟩, hn⟩ := hp v List.mem_cons_self
    subst e
    generalize k (.ref a) = ns at hi hn
    cases hi with
    | nil => exact absurd rfl hn
    | cons x t _ =>
      refine ⟨.int x t :: fs, PySem.W.KatTups.cons ho hc hd (by simp) h1, by rw [List.length_cons, List.length_cons, h2], fun f hm => ?_⟩
      rcases List.mem_cons.mp hm with rfl | hm
      · exact ⟨x, t, rfl⟩
      · exact h3 f hm
theorem tis_sortable {a : Addr} {vs : List Value} {k : Value → List Int} (h0 : 0 < vs.length) (hp : ∀ v ∈ vs, IsTi s.heap v (k v) ∧ k v ≠ []) (ha : ∀ o, s.heap.get? a = some o → o.cls ≠ .type "tuple") : SortableO prog w A s a vs fun v u => HT.lexLt (k v) (k u) := by
  intro h' keep
  have hp' : ∀ v ∈ vs, IsTi h' v (k v) ∧ k v ≠ [] := fun v hm => ⟨(hp v hm).1.keeps fun b o e c => keep b o (fun z => by subst z; exact ha o e c) e, (hp v hm).2⟩
  obtain ⟨fs, h1, h2, h3⟩ := firstsT_of hp'
  refine ⟨tuples' true, fun Q E hq => ?_, tis_cmp fun v hm => (hp' v hm).1⟩
  refine PySem.W.kat_kind (T := .type "int") h1 (by omega) (fun f hm => ?_) (by rfl) ?_
  · obtain ⟨x, t, rfl⟩ := h3 f hm
    exact PySem.W.Looks.now
  · have e : (Value.type "int" != Value.type "tuple") = true := by first | decide +kernel | rfl | decide
    rw [e]
    exact hq
end
def rSortedT (K : PySem.W.Frag) : RA := fun vs H Q => ∃ (a : Addr) (xs : List V) (k : V → List Int), vs = [.ref a] ∧ (SqL K H a xs ∨ SqT K H a xs) ∧ (∀ x ∈ xs, ∃ b, x = .ref b ∧ H b = some (.tup ((k x).map V.int)) ∧ k x ≠ []) ∧
  ∀ (p : Addr) (out : List V), out.Perm xs → out.Pairwise (fun x y => HT.lexLt (k y) (k x) = false) → H p = none → Q (.ref p) (upd H p (.lst out))
def vOf : Value → V
  | .ref b => .ref b
  | _ => .non
theorem refs_of : ∀ {xs : List V} {us : List Value}, Vals xs us → (∀ x ∈ xs, ∃ b, x = V.ref b) → us.map vOf = xs ∧ ∀ u ∈ us, ∃ b, u = .ref b ∧ V.ref b ∈ xs
  | _, _, .nil, _ => ⟨rfl, fun _ h => by cases h⟩
  | x :: xs, u :: us, .cons r t, h => by
    obtain ⟨b, rfl⟩ := h x List.mem_cons_self
    obtain rfl : u = .ref b := r
    obtain ⟨h1, h2⟩ := refs_of t fun y hy => h y (List.mem_cons_of_mem _ hy)
    refine ⟨by rw [List.map_cons, h1]; rfl, fun z hz => ?_⟩
    rcases List.mem_cons.mp hz with rfl | hz
    · exact ⟨b, rfl, List.mem_cons_self⟩
    · obtain ⟨c, e, m⟩ := h2 z hz
      exact ⟨c, e, List.mem_cons_of_mem _ m⟩
theorem vals_vOf : ∀ {us : List Value}, (∀ u ∈ us, ∃ b, u = Value.ref b) → Vals (us.map vOf) us
  | [], _ => .nil
  | u :: us, h => by
    obtain ⟨b, rfl⟩ := h u List.mem_cons_self
    exact .cons rfl (vals_vOf fun z hz => h z (List.mem_cons_of_mem _ hz))
theorem cr_sortedT {X : Cx} : CallR X (.builtin "sorted") (rSortedT X.K) := by
  intro pins s σ H vs us Q I r h
  obtain ⟨a, xs, k, rfl, hs, hk, q⟩ := h
  rw [Vals.ref1 r]
  have key : ∀ (its : List Value), Vals xs its → (∀ v ∈ its, IsTi s.heap v (k (vOf v)) ∧ k (vOf v) ≠ []) ∧ its.map vOf = xs ∧ ∀ v ∈ its, ∃ b, v = .ref b := fun its rv => by
    obtain ⟨e1, e2⟩ := refs_of rv fun x hx => let ⟨b, e, _⟩ := hk x hx; ⟨b, e⟩
    refine ⟨fun v hv => ?_, e1, fun v hv => let ⟨b, e, _⟩ := e2 v hv; ⟨b, e⟩⟩
    obtain ⟨b, rfl, hb⟩ := e2 v hv
    obtain ⟨b', e', ht, hn⟩ := hk _ hb
    cases e'
    obtain ⟨_, us, r, o, h1, h2, n, h3⟩ := (show ObjOk X.prog X.w H s.heap b (.tup ((k (.ref b)).map V.int)) from I.hok b _ ht)
    exact ⟨⟨b, o, us, n, rfl, h1, h2, h3, Vals.ints r⟩, hn⟩
  have fin : ∀ (its out : List Value) (h' : Heap) , Vals xs its → out.Perm its → out.Pairwise (fun x y => HT.lexLt (k (vOf y)) (k (vOf x)) = false) → xs.length ≤ sizeLine → (∀ b o, s.heap.get? b = some o → h'.get? b = some o) → (∃ n, h'.get? (s.heap.objs.size + 1) = some (seqObj "list" out.toArray n)) →
      ∃ x H', L2.Inv X pins σ H' { s with heap := h' } ∧ RelV x (.ref (s.heap.objs.size + 1)) ∧ Q x H' := fun its out h' rv pm pw hz kp he => by
    obtain ⟨k1, k2, k3⟩ := key its rv
    obtain ⟨n, he⟩ := he
    have ho : ∀ u ∈ out, ∃ b, u = Value.ref b := fun u hu => k3 u (pm.mem_iff.mp hu)
    have pm' : (out.map vOf).Perm xs := by rw [← k2]; exact pm.map _
    refine ⟨.ref _, upd H (s.heap.objs.size + 1) (.lst (out.map vOf)), I.laid (t' := s.toks) kp (Nat.le_succ _) ⟨by rw [pm'.length_eq]; exact hz, out, n, vals_vOf ho, he⟩, rfl, q _ _ pm' ?_ (I.hok.fresh (Nat.le_succ _))⟩
    rw [List.pairwise_map]
    exact pw
  rcases hs with hs | hs
  · obtain ⟨its, rv, hl, hz⟩ := I.list hs
    obtain ⟨k1, k2, k3⟩ := key its rv
    refine sorted_ord (NtL.swo_lexL fun v => k (vOf v)) hl.isList (by rw [← rv.length]; exact hz) (fun h2 h₁ a' ha' kk => ?_) fun out h1 h2 => ?_
    · refine tis_sortable (s := { s with heap := h₁ }) (k := fun v => k (vOf v)) (by omega) (fun v hm => ⟨(k1 v hm).1.keeps fun b o e _ => (kk b o e).2, (k1 v hm).2⟩) fun o e => ?_
      have e' : some o = some (seqObj "list" its.toArray 0) := e.symm.trans ha'
      cases e'
      intro c
      exact absurd (Value.type.inj c) (by decide)
    · obtain ⟨ep, he'⟩ := PyProof.Rows.sortedAll_at s.heap its out.toArray
      exact fin its out _ rv h2.perm h1 hz (fun _ _ => PyProof.Rows.sortedAll_old) ⟨ep, he'⟩
  · obtain ⟨its, rv, hl, hz⟩ := I.tuple hs
    obtain ⟨k1, k2, k3⟩ := key its rv
    refine sorted_ordT (NtL.swo_lexL fun v => k (vOf v)) (show s.heap.IsTuple a its.toArray from hl) (by rw [← rv.length]; exact hz) (fun h2 h₁ a' ha' kk => ?_) fun out h1 h2 => ?_
    · refine tis_sortable (s := { s with heap := h₁ }) (k := fun v => k (vOf v)) (by omega) (fun v hm => ⟨(k1 v hm).1.keeps fun b o e _ => (kk b o e).2, (k1 v hm).2⟩) fun o e => ?_
      have e' : some o = some (seqObj "list" its.toArray 0) := e.symm.trans ha'
      cases e'
      intro c
      exact absurd (Value.type.inj c) (by decide)
    · obtain ⟨ep, he'⟩ := PyProof.Rows.sortedAll_at s.heap its out.toArray
      exact fin its out _ rv h2.perm h1 hz (fun _ _ => PyProof.Rows.sortedAll_old) ⟨ep, he'⟩
theorem callR_or {X : Cx} {f : Value} {r1 r2 : RA} (h1 : CallR X f r1) (h2 : CallR X f r2) : CallR X f (fun vs H Q => r1 vs H Q ∨ r2 vs H Q) := by
  intro pins s σ H vs us Q I r h
  rcases h with h | h
  · exact h1 pins s σ H vs us Q I r h
  · exact h2 pins s σ H vs us Q I r h
/-- sorted(xs): ints, or tuples of ints -/
def rSortedA (K : PySem.W.Frag) : RA := fun vs H Q => rSortedQ K vs H Q ∨ rSortedT K vs H Q
theorem cr_sortedA {X : Cx} : CallR X (.builtin "sorted") (rSortedA X.K) := callR_or cr_sortedQ cr_sortedT
abbrev tupD (k : List Int) : D := .seq true (k.map .int)
def lexLe (a b : List Int) : Bool := !HT.lexLt b a
def sortT (ks : List (List Int)) : List (List Int) := ks.mergeSort lexLe
theorem lex_asymm_eq : ∀ {a b : List Int}, HT.lexLt a b = false → HT.lexLt b a = false → a = b
  | [], [], _, _ => rfl
  | [], y :: ys, h, _ => by rw [HT.lexLt_nil_cons] at h; cases h
  | x :: xs, [], _, h => by rw [HT.lexLt_nil_cons] at h; cases h
  | x :: xs, y :: ys, h, h' => by
    rw [HT.lexLt_cons] at h h'
    by_cases e : x = y
    · subst e
      rw [if_pos rfl] at h h'
      rw [lex_asymm_eq h h']
    · rw [if_neg e] at h
      rw [if_neg (Ne.symm e)] at h'
      have := of_decide_eq_false h
      have := of_decide_eq_false h'
      omega
theorem sortT_sorted (ks : List (List Int)) : (sortT ks).Pairwise fun x y => HT.lexLt y x = false := by
  have := List.pairwise_mergeSort (le := lexLe) (fun a b c h h' => by
    simp only [lexLe, Bool.not_eq_true'] at h h' ⊢
    exact NtL.lex_tr a b c h h') (fun a b => by
    simp only [lexLe, Bool.or_eq_true, Bool.not_eq_true']
    cases q : HT.lexLt b a with
    | false => exact .inl rfl
    | true => exact .inr (NtL.lex_asym _ _ q)) ks
  exact this.imp fun h => by simpa [lexLe] using h
theorem sortT_unique {out ks : List (List Int)} (p : out.Perm ks) (h : out.Pairwise fun x y => HT.lexLt y x = false) : out = sortT ks :=
  (p.trans (List.mergeSort_perm ks lexLe).symm).eq_of_pairwise (fun x y _ _ h h' => lex_asymm_eq h' h) h (sortT_sorted ks)
section
variable {G0 : Bs} {al : TA} {tal : TDA} {K : PySem.W.Frag}
def keyV (H : Hp) : V → List Int
  | .ref b => (match H b with
    | some (.tup xs) => xs.map fun x => (match x with | .int i => i | _ => 0)
    | _ => [])
  | _ => []
theorem keyV_tup {H : Hp} {b : Addr} {k : List Int} (h : H b = some (.tup (k.map V.int))) : keyV H (.ref b) = k := by
  simp only [keyV, h, List.map_map]
  clear h
  induction k with
  | nil => rfl
  | cons x k ih => simp only [List.map_cons, Function.comp, ih]
def tdSortedA (tal : TDA) : TDE := fun r P => tdL CSorted tal r P ∨ tal r fun os r1 => ∃ nw b ks, cdats r1 os = some (nw, [.seq b (ks.map tupD)]) ∧ (∀ k ∈ ks, k ≠ []) ∧ ∀ p, P (.ow p nw (.seq false ((sortT ks).map tupD))) r1
theorem snd_sortedA (ha : SndA G0 al tal) : SndE G0 (tCB (rSortedA K) al) (tdSortedA tal) := by
  intro vs ka sg H r P Q hl E hp k
  rcases hp with hp | hp
  · refine ha vs ka sg H r _ _ hl E hp fun ws H' os r' G l E' p _ h' => ?_
    obtain ⟨nw, ds, es, e1, e2, h3⟩ := h'
    left
    refine opl_sorted _ H' ws ds es Q (fun d w e v => ⟨fun r => r.flat e, fun z => z ▸ rep_flat e⟩) (cdats_sh E' p e1) e2 fun p us hp hr => ?_
    exact k _ _ _ r' l ⟨G, E'.pushOw (nw := nw) (d := .seq false es) hp rfl ⟨us, upd_same, RepL.of hr⟩⟩ (h3 p)
  · refine ha vs ka sg H r _ _ hl E hp fun ws H' os r' G l E' p _ h' => ?_
    obtain ⟨nw, b, ks, e1, hn, h3⟩ := h'
    right
    have sh := cdats_sh E' p e1
    have one : ∃ a xs, ws = [.ref a] ∧ (SqL K H' a xs ∨ SqT K H' a xs) ∧ Paired (Rep (nwP G0 nw) G) xs (ks.map tupD) := by
      cases sh with
      | cons z t =>
        cases t
        cases b with
        | false => obtain ⟨a, xs, rfl, h1, h2⟩ := z; exact ⟨a, xs, rfl, .inl (SqL.of h1), h2⟩
        | true => obtain ⟨a, xs, rfl, h1, h2⟩ := z; exact ⟨a, xs, rfl, .inr (SqT.of h1), h2⟩
    obtain ⟨a, xs, rfl, hs, pr⟩ := one
    have all : ∀ {xs : List V} {ks : List (List Int)}, Paired (Rep (nwP G0 nw) G) xs (ks.map tupD) → (∀ k ∈ ks, k ≠ []) → (∀ x ∈ xs, ∃ b, x = .ref b ∧ H' b = some (.tup ((keyV H' x).map V.int)) ∧ keyV H' x ≠ [] ∧ Rep (nwP G0 nw) G x (tupD (keyV H' x))) ∧ xs.map (keyV H') = ks := by
      intro xs
      induction xs with
      | nil => intro ks q _; cases ks with
        | nil => exact ⟨fun _ h => (by cases h), rfl⟩
        | cons _ _ => cases q
      | cons x xs ih =>
        intro ks q hn
        cases ks with
        | nil => cases q
        | cons k ks =>
          cases q with
          | cons r t =>
            obtain ⟨i1, i2⟩ := ih t fun k hk => hn k (List.mem_cons_of_mem _ hk)
            cases r with
            | tup h rr =>
              rename_i b us
              have eu := repL_ints rr
              subst eu
              have hb := E'.le _ _ h
              have e := keyV_tup hb
              refine ⟨fun y hy => ?_, by rw [List.map_cons, i2, e]⟩
              rcases List.mem_cons.mp hy with rfl | hy
              · exact ⟨b, rfl, by rw [e]; exact hb, by rw [e]; exact hn k List.mem_cons_self, by rw [e]; exact .tup h rr⟩
              · exact i1 y hy
    obtain ⟨a1, a2⟩ := all pr hn
    refine ⟨a, xs, keyV H', rfl, hs, fun x hx => let ⟨b, e, h1, h2, _⟩ := a1 x hx; ⟨b, e, h1, h2⟩, fun p' out pm pw hp' => ?_⟩
    have eo : out.map (keyV H') = sortT ks := sortT_unique (by rw [← a2]; exact pm.map _) (by rw [List.pairwise_map]; exact pw)
    have ro : ∀ (l : List V), (∀ x ∈ l, x ∈ xs) → RepL (nwP G0 nw) G l ((l.map (keyV H')).map tupD) := by
      intro l
      induction l with
      | nil => intro _; exact .nil
      | cons x l ih => intro h; exact .cons (let ⟨_, _, _, _, r⟩ := a1 x (h x List.mem_cons_self); r) (ih fun y hy => h y (List.mem_cons_of_mem _ hy))
    have rr := ro out fun x hx => pm.mem_iff.mp hx
    rw [eo] at rr
    exact k _ _ _ r' l ⟨G, E'.pushOw (nw := nw) (d := .seq false _) hp' rfl ⟨out, upd_same, rr⟩⟩ (h3 p')
end
end TL
namespace TL
open PySem PySem.Spec PyProof.Rows L2
def rListS (K : PySem.W.Frag) : RA := fun xs H Q => ∃ p ys, xs = [.ref p] ∧ (SqL K H p ys ∨ SqT K H p ys) ∧ ∀ l, H l = none → Q (.ref l) (upd H l (.lst ys))
def rListKd : RA := fun xs H Q => ∃ (a : Addr) (kvs : List (Key × V)), xs = [.ref a] ∧ Rd H a (.dK kvs) ∧ ∀ p, H p = none → Q (.ref p) (upd H p (.lst (kvs.map fun kv => kV kv.1)))
def rListTd : RA := fun xs H Q => ∃ d kvs, xs = [V.ref d] ∧ Rd H d (.dT kvs) ∧ ∀ p bs, H p = none → IsKeys H kvs bs → Q (.ref p) (upd H p (.lst (bs.map V.ref)))
def rListA (K : PySem.W.Frag) : RA := fun xs H Q => rListS K xs H Q ∨ (rListKd xs H Q ∨ rListTd xs H Q)
theorem call_listA {X : Cx} (hc : X.calm = true) : CallR X (.type "list") (rListA X.K) := callR_or call_list_of (callR_or (call_listD hc) (call_list_dT hc))
def D.items : D → Option (List D)
  | .seq _ xs => some xs
  | d => d.keys
section
variable {G0 : Bs} {te ta tb tc : TE} {t u : TDE} {toa tob : TDO} {al : TA} {tal : TDA} {K : PySem.W.Frag} {ts : TS} {ds : TDS} {tt : TT} {s : TDT}
def tdListA (tal : TDA) : TDE := fun r P => tal r fun os r1 => ∃ nw d es, cdats r1 os = some (nw, [d]) ∧ d.items = some es ∧ ∀ p, P (.ow p nw (.seq false es)) r1
theorem RepL.keysI {phi : Addr → Prop} {H : Hp} : ∀ (k : List Key), RepL phi H (k.map kV) (k.map keyD)
  | [] => .nil
  | .inl i :: r => .cons (.int i) (RepL.keysI r)
  | .inr x :: r => .cons (.str x) (RepL.keysI r)
theorem snd_listA (ha : SndA G0 al tal) : SndE G0 (tCB (rListA K) al) (tdListA tal) := by
  intro vs ka sg H r P Q hl E hp k
  refine ha vs ka sg H r _ _ hl E hp fun ws H' os r' G l E' p _ h' => ?_
  obtain ⟨nw, d, es, e1, e2, h3⟩ := h'
  have sh := cdats_sh E' p e1
  cases sh with
  | cons z t =>
    cases t
    cases d with
    | seq b xs =>
      cases e2
      left
      cases b with
      | false => obtain ⟨a, us, rfl, h1, h2⟩ := z; exact ⟨a, us, rfl, .inl (SqL.of h1), fun l' hl' => k _ _ _ r' l ⟨G, E'.pushOw (nw := nw) (d := .seq false es) hl' rfl ⟨us, upd_same, RepL.of h2⟩⟩ (h3 l')⟩
      | true => obtain ⟨a, us, rfl, h1, h2⟩ := z; exact ⟨a, us, rfl, .inr (SqT.of h1), fun l' hl' => k _ _ _ r' l ⟨G, E'.pushOw (nw := nw) (d := .seq false es) hl' rfl ⟨us, upd_same, RepL.of h2⟩⟩ (h3 l')⟩
    | dk ks vs' =>
      cases e2
      obtain ⟨a, kvs, rfl, h1, h2, h4⟩ := z
      subst h2
      refine .inr (.inl ⟨a, kvs, rfl, h1, fun l' hl' => k _ _ _ r' l ⟨G, E'.pushOw (nw := nw) (d := .seq false _) hl' rfl ⟨_, upd_same, ?_⟩⟩ (h3 l')⟩)
      have := RepL.keysI (phi := nwP G0 nw) (H := G) (kvs.map (·.1))
      simpa [List.map_map, Function.comp_def] using this
    | dt ks vs' =>
      cases e2
      obtain ⟨a, kvs, rfl, h1, h2, h4⟩ := z
      subst h2
      refine .inr (.inr ⟨a, kvs, rfl, h1, fun l' bs hl' ik => k _ _ _ r' l ⟨G, E'.pushOw (nw := nw) (d := .seq false _) hl' rfl ⟨_, upd_same, ?_⟩⟩ (h3 l')⟩)
      have : ∀ {kvs : List (List Key × V)} {bs : List Addr}, IsKeys H' kvs bs → RepL (nwP G0 nw) G (bs.map V.ref) ((kvs.map (·.1)).map fun k => .seq true (k.map keyD)) := by
        intro kvs bs ik
        unfold IsKeys at ik
        induction ik with
        | nil => exact .nil
        | cons h t ih => exact .cons (.tup (E'.tp _ _ h) (RepL.keysI _)) ih
      exact this ik
    | _ => cases e2
def idxF (x : D) (xs : List D) : Option Nat := xs.findIdx? fun y => eqF y x
def tdIndex (toa tob : TDO) : TDE := fun r P => toa r fun x r1 => (∃ xs, x.dat r1 = some (.seq false xs)) ∧ tob r1 fun y r2 => ∃ xs d j, x.dat r2 = some (.seq false xs) ∧ y.dat r2 = some d ∧ flatD d = true ∧ xs.all flatD = true ∧ idxF d xs = some j ∧ P (.fz true (.int (j : Nat))) r2
theorem flat_get {phi : Addr → Prop} {H : Hp} : ∀ {vs : List V} {ds : List D}, RepL phi H vs ds → ds.all flatD = true → vs.all flatV = true ∧ ∀ (j : Nat) (z : V), vs[j]? = some z → ∃ d, ds[j]? = some d ∧ d.flat = some z
  | _, _, .nil, _ => ⟨rfl, fun j z h => by simp at h⟩
  | _, _, .cons r t, h => by
    rw [List.all_cons, Bool.and_eq_true] at h
    obtain ⟨f1, f2⟩ := flat_V r h.1
    obtain ⟨i1, i2⟩ := flat_get t h.2
    refine ⟨by rw [List.all_cons, f2, i1]; rfl, fun j z hz => ?_⟩
    cases j with
    | zero => simp at hz; subst hz; exact ⟨_, rfl, f1⟩
    | succ j => simpa using i2 j z (by simpa using hz)
theorem snd_index (ha : SndO G0 ta toa) (hb : SndO G0 tb tob) : SndE G0 (tBM K "list" (rIndex K) ta (tCons tb tNil)) (tdIndex toa tob) := by
  intro vs ka sg H r P Q hl E hp k
  refine ha vs ka sg H r _ _ hl E hp fun x H1 ox r1 l1 E1 a1 h1 => ?_
  obtain ⟨⟨xs0, e0⟩, h1⟩ := h1
  refine ⟨?_, ?_⟩
  · obtain ⟨G, E1⟩ := E1
    have ix := opd_itx (us := []) (kb := []) E1 rfl hl a1
    have rx := dat_rep E1 ix e0
    cases rx with
    | lst h _ _ => exact .inl ⟨rfl, _, SqL.of h⟩
  · refine hb (some x :: vs) (ox.tmp :: ka) sg H1 r1 _ _ (by simp [hl]) E1 h1 fun y H2 oy r2 l2 E2 a2 h2 => ?_
    obtain ⟨xs, d, j, e1, e2, fd, fx, hj, h3⟩ := h2
    obtain ⟨G, E2⟩ := E2
    have ix := opd_itx (us := [some y]) (kb := [oy.tmp]) E2 rfl hl a1
    have iy := opd_itx (us := []) (kb := []) (vs := some x :: vs) (ka := ox.tmp :: ka) E2 rfl (by simp [hl]) a2
    have rx := dat_rep E2 ix e1
    have ry := dat_rep E2 iy e2
    obtain ⟨fy, fy2⟩ := flat_V ry fd
    have key : ∀ (z : V) (d' : D), d'.flat = some z → eqV z y = eqF d' d := fun z d' h => by simp [eqF, h, fy]
    cases rx with
    | lst h p q =>
      rename_i a us
      obtain ⟨g1, g2⟩ := flat_get q fx
      unfold idxF at hj
      rw [List.findIdx?_eq_some_iff_getElem] at hj
      obtain ⟨hlt, hv, hno⟩ := hj
      have hlt' : j < us.length := by rw [q.length]; exact hlt
      have hz : us[j]? = some us[j] := List.getElem?_eq_getElem hlt'
      obtain ⟨d', e', f'⟩ := g2 j _ hz
      rw [List.getElem?_eq_getElem hlt] at e'
      cases e'
      refine ⟨a, us, y, j, us[j], rfl, rfl, SqL.of h, fy2, g1, hz, by rw [key _ _ f']; exact hv, fun m z' hm hz' => ?_, k _ H2 _ r2 (l2.trans l1) ⟨G, E2.tail.tail.pushFlat rfl⟩ h3⟩
      obtain ⟨d'', e'', f''⟩ := g2 m _ hz'
      rw [key _ _ f'']
      have hm2 : m < xs.length := by omega
      rw [List.getElem?_eq_getElem hm2] at e''
      cases e''
      simpa using hno m hm
def op_repS_r : R2 := fun x y H Q => ∃ i n, x = .str i ∧ y = .int n ∧ (-(2 ^ 63) ≤ n ∧ n < 2 ^ 63) ∧ i.length * n.toNat ≤ sizeLine ∧ Q (.str ⟨(List.replicate n.toNat i.cps).foldl (· ++ ·) #[]⟩) H
theorem op_repS {X : Cx} : OpR X (binaryOp .Mult) op_repS_r := by
  intro pins s σ H x y v u Q I rx ry h
  obtain ⟨i, n, rfl, rfl, ⟨b1, b2⟩, hz, q⟩ := h
  obtain ⟨t, rfl⟩ := rx
  obtain ⟨t', rfl⟩ := ry
  have fit : Builtin.Str.tooLong (i.length * n.toNat) = false := by
    unfold Builtin.Str.tooLong
    simp only [decide_eq_false_iff_not]
    omega
  refine PySem.P.mul_str ?_ (fun h1 h2 => ?_) (fun _ _ => fit) ?_
  · simp only [Bool.or_eq_false_iff, decide_eq_false_iff_not]
    omega
  · have h3 : 1 ≤ n := by omega
    have h4 : (i.length : Int) * n ≤ sizeLine := by
      have : ((i.length * n.toNat : Nat) : Int) = (i.length : Int) * n := by rw [Int.natCast_mul]; congr 1; omega
      omega
    intro h5
    have h6 : ((2 ^ 63 - 1) / n) * n ≤ (2 ^ 63 - 1 : Int) := Int.ediv_mul_le _ (by omega)
    have h7 : ((2 ^ 63 - 1) / n + 1) ≤ (i.length : Int) := by omega
    have h8 : ((2 ^ 63 - 1) / n + 1) * n ≤ (i.length : Int) * n := Int.mul_le_mul_of_nonneg_right h7 (by omega)
    have h9 : (2 ^ 63 - 1 : Int) < ((2 ^ 63 - 1) / n + 1) * n := Int.lt_ediv_add_one_mul_self _ (by omega)
    rw [sizeLine_eq] at h4
    omega
  · split
    · rename_i hn
      have e0 : n.toNat = 0 := by omega
      rw [e0] at q
      exact ⟨by decide, .str Str.empty, H, I.tok _, ⟨_, rfl⟩, q⟩
    · split
      · rename_i hn hh
        have hv : (⟨(List.replicate n.toNat i.cps).foldl (· ++ ·) #[]⟩ : Str) = i := by
          rw [Bool.or_eq_true] at hh
          rcases hh with hh | hh
          · have : n = 1 := by simpa using hh
            subst this
            simp
          · have : i.cps = #[] := by
              have : i.cps.size = 0 := by simpa [Str.length] using hh
              exact Array.eq_empty_of_size_eq_zero this
            have : ∀ m, (List.replicate m i.cps).foldl (· ++ ·) #[] = #[] := by
              intro m
              rw [this]
              induction m with
              | zero => rfl
              | succ m ih => simpa [List.replicate_succ] using ih
            cases i
            simp_all
        rw [hv] at q
        exact ⟨.str i, H, I, ⟨_, rfl⟩, q⟩
      · refine ⟨?_, .str _, H, I.tok _, ⟨_, rfl⟩, q⟩
        have : ∀ (m : Nat) (acc : Array Nat), ((List.replicate m i.cps).foldl (· ++ ·) acc).size = acc.size + m * i.cps.size := by
          intro m
          induction m with
          | zero => intro acc; simp
          | succ m ih => intro acc; rw [List.replicate_succ, List.foldl_cons, ih, Array.size_append, Nat.succ_mul]; omega
        have h := this n.toNat #[]
        have hz' : i.cps.size * n.toNat ≤ sizeLine := hz
        rw [Nat.mul_comm] at hz'
        simpa [Str.length, h] using hz'
section
variable {G0 : Bs} {te ta tb tc : TE} {t u : TDE} {toa tob : TDO}
def strRep (i : Str) (n : Nat) : Str := ⟨(List.replicate n i.cps).foldl (· ++ ·) #[]⟩
def fRepS : D → D → Option D
  | .str i, .int n => if (-(2 ^ 63) ≤ n ∧ n < 2 ^ 63) ∧ i.length * n.toNat ≤ sizeLine then some (.str (strRep i n.toNat)) else none
  | _, _ => none
theorem op2_repS : Op2 op_repS_r fRepS := by
  intro H x y dx dy d Q rx ry e k
  cases dx <;> cases dy <;> simp [fRepS] at e
  rename_i i n
  obtain ⟨e1, e2⟩ := e
  exact ⟨i, n, rx.flat rfl, ry.flat rfl, e1.1, e1.2, k _ (by rw [← e2]; rfl)⟩
end
end
end TL
namespace TL
open PySem PySem.Spec PyProof.Rows L2
/-- __init__(self, y): self.f = y -/
def spIn (K : PySem.W.Frag) (f : Str) : Sp := fun vs H Q _ => ∃ (a C : Addr) (y : V), vs = [.ref a, y] ∧ OexC K C ∧ PySem.W.findIn K (.ref C) f = some none ∧ H a = some (exo a C none) ∧ ∀ dx, H dx = none → dx ≠ a → Q .non (upd (upd H dx (exd dx [(f, y)])) a (exo a C (some dx)))
structure ExcF (P : Program) (w : World) (K : PySem.W.Frag) (mg : Str → Option Value) (base : Heap) (x : Str) (C : Addr) (f : Str) : Prop where
  oex : OexC K C
  ini : ∃ (fI : Addr) (fd : FuncData) (ps : List Str), PySem.W.findIn K (.ref C) "__init__" = some (some (.ref fI)) ∧ PySem.W.typeIn K (.ref fI) = some (.type "function") ∧ FnOk P w K mg base (L2.CX P w) 1 fI fd ps (spIn K f) ∧ Binds K fd ps []
  noat : PySem.W.findIn K (.ref C) f = some none
  g : mg x = some (.ref C)
theorem ok_init {P : Program} {w : World} {K : PySem.W.Frag} {mg : Str → Option Value} {base : Heap} {qual q self p f : Str} {params : Arguments} {scope : Scope} {fI : Addr} {fd : FuncData} {p1 p2 p3 p4 : Pos} (hp : p ≠ self)
    (F : FunD K q qual params [.Assign [.Attribute (.Name self p1) f p2] (.Name p p3) p4] scope [] [] fI fd) (S : FnScope [self, p] [self, p] scope) (hs : (self == ("__debug__" : Str)) = false) (hs2 : (self == ("__classdict__" : Str)) = false) (h3 : (p == ("__debug__" : Str)) = false) (h4 : (p == ("__classdict__" : Str)) = false)
    (hsw : ∀ env, swapsWith (.Name p p3) (some (.Attribute (.Name self p1) f p2)) p4.line env = pure false) : FnOk P w K mg base (L2.CX P w) 1 fI fd [self, p] (spIn K f) := by
  refine F.ok S (fun vs H Q E ⟨a, C, y, e, _⟩ => by rw [e]; rfl) fun cdv A outer s H vs Q E hr ⟨a, C, y, e, T, hno, ha, hq⟩ => ?_
  subst e
  refine ⟨_, pss_one (ps_ost (f := f) (pe_var (i := 0) rfl ((S.par self (by simp)).elim .inl fun h => .inr (.inl h)) hs hs2) (pe_var (i := 1) rfl ((S.par p (by simp)).elim .inl fun h => .inr (.inl h)) h3 h4) (hsw _)), ?_⟩
  refine ⟨y, rfl, .ref a, rfl, a, C, rfl, T, hno, .inl ⟨ha, fun dx h1 h2 => hq dx h1 h2⟩⟩
def tRaise (K : PySem.W.Frag) (C : Addr) (f : Str) (E : XK) (ta : TA) : TS := fun _ σ H => tMkO C (spIn K f) [] ta σ H fun cls d H' => E cls d H'
theorem ps_raiseF {X : Cx} {x f : Str} {C : Addr} {E : XK} {e : Expr} {es : List Expr} {ta : TA} {p pos pos' : Pos} (T : ExcF X.prog X.w X.K X.mg X.base x C f) (hr : Room 2 X.A) (hc : X.calm = true) (tk : Takes X fun cls d _ H => E cls d H) (hg : Gl X x) (ha : PA X (e :: es) ta)
    (hdb : (x == ("__debug__" : Str)) = false := by decide) (he : starEach (e :: es) X.env = (false, eval e X.env) :: starEach es X.env := by rfl) (hpl : (backTo pos (starEach es X.env)).any (·.1) = false := by rfl) :
    L2.PS X (.Raise (some (.Call (.Name x p) (e :: es) [] pos)) none pos') (tRaise X.K C f E ta) := by
  obtain ⟨fI, fd, ps, iC, tI, F1, hb⟩ := T.ini
  exact ps_raise hc tk (pmk_oex (CX := L2.CX X.prog X.w) T.oex iC tI F1 hr hb .nil (passes_call LamX.takes0 fun _ _ _ _ h => h) hg T.g ha hdb he hpl)
section
variable {G0 : Bs} {K : PySem.W.Frag} {E : XK} {Xc : XC} {al : TA} {f : TDF}
def tdRaise (C : Addr) (n : Str) (Xc : XC) (f : TDF) : TDS := fun _ r => f r fun nw es _ => ∃ d, es = [d] ∧ Xc C [n] (nw || isFlat d) [d]
theorem sns_raise {C : Addr} {n : Str} (hE : XOk G0 E Xc) (hT : OexC K C) (hn : PySem.W.findIn K (.ref C) n = some none) (hf : SndF G0 al f) : SndS G0 (tRaise K C n E al) (tdRaise C n Xc f) := by
  intro vs ka sg H r P Dn hl En hp k
  refine hf vs ka sg H r _ _ hl En hp fun ws H' nw es r' G l E' rp h' => ?_
  obtain ⟨d, rfl, hx⟩ := h'
  obtain ⟨y, rfl, ry⟩ := rep1 rp
  refine ⟨by simp, fun a ha => ⟨a, C, y, rfl, hT, hn, upd_same, fun dx h1 h2 => ⟨rfl, dx, [(n, y)], upd_same, ?_, ?_, ?_⟩⟩⟩
  · rw [upd_ne h2, upd_same]
  · rw [upd_ne h2] at h1; exact h1
  · rw [upd_ne h2] at h1
    have le : Le H' (upd (del (upd (upd (upd H' a (exo a C none)) dx (exd dx [(n, y)])) a (exo a C (some dx))) a) dx (.xd [(n, y)])) := fun b o e => by
      have nb1 : b ≠ a := fun z => by rw [z, ha] at e; cases e
      have nb2 : b ≠ dx := fun z => by rw [z, h1] at e; cases e
      rw [upd_ne nb2, del_ne nb1, upd_ne nb1, upd_ne nb2, upd_ne nb1]; exact e
    have E2 : EnvG G0 G (upd (del (upd (upd (upd H' a (exo a C none)) dx (exd dx [(n, y)])) a (exo a C (some dx))) a) dx (.xd [(n, y)])) (vs ++ sg) (ka ++ r') := by
      refine E'.grow (Le.refl _) (E'.le.trans le) (fun b xs e => ?_) le fun b h1 h2 => by rw [h1] at h2; cases h2
      by_cases hb : b = dx
      · rw [hb, upd_same] at e; cases e
      · rw [upd_ne hb] at e
        by_cases hb2 : b = a
        · rw [hb2, del_same] at e; cases e
        · rw [del_ne hb2, upd_ne hb2, upd_ne hb, upd_ne hb2] at e
          exact E'.tp _ _ e
    exact hE C [n] _ [d] dx [(n, y)] _ G hx E2.l0 E2.le E2.tp (fun b h => ⟨(E2.fr b h).1, (E2.fr b h).2.1⟩) upd_same rfl (.cons ry.nwFlat .nil)
end
end TL
namespace TL
open PySem PySem.Spec PyProof.Rows L2
abbrev HTS := Addr → Value → Option Addr → TS
def unset (i : Nat) (D : Ends) : Ends := { nx := fun σ' H' => D.nx (σ'.set i none) H', rt := D.rt, bk := fun σ' H' => D.bk (σ'.set i none) H', ct := fun σ' H' => D.ct (σ'.set i none) H' }
/-- what the clauses wish of an exception of the body, one after the other -/
def wManyAs (K : PySem.W.Frag) (i : Nat) (Wout : WX) (D : Ends) : List (Value × HTS) → WX
  | [] => Wout
  | (c, ts) :: r => fun cls d σ H => ∃ b, PySem.W.exmOne K cls c = some b ∧ (b = true → ∀ a, H a = none → ts a cls d (unset i D) (σ.set i (some (.ref a))) H) ∧ (b = false → wManyAs K i Wout D r cls d σ H)
inductive HdsAs (X : Cx) (n : Str) : List ExceptHandler → List (Value × HTS) → Prop
  | nil : HdsAs X n [] []
  | cons {x : Str} {c : Value} {ts : HTS} {b₀ : Stmt} {suite : List Stmt} {np pos' : Pos} {hds : List ExceptHandler} {l : List (Value × HTS)} (hc : Names X x c)
      (hsu : ∀ (a : Addr) (oe : Obj) (cls : Value) (d : Option Addr) (pn : List (Addr × Obj)), Zc cls d oe → (∃ vs, oe.data = .fields vs) → PSs (X.suite a ((a, oe) :: pn)) (b₀ :: suite) (ts a cls d)) (r : HdsAs X n hds l) :
      HdsAs X n (.ExceptHandler (some (.Name x np)) (some n) (b₀ :: suite) pos' :: hds) ((c, ts) :: l)
section
variable {X : Cx} {body : List Stmt} {h₀ : ExceptHandler} {hds : List ExceptHandler} {l : List (Value × HTS)} {pos : Pos} {tb : WX → TS} {Wout : WX} {n : Str} {i : Nat}
theorem ps_try_manyAs (hs : X.stack = X.env :: X.outer) (hf : X.env.frame = some X.env.locals) (hN : X.N.Nodup) (hi : X.N[i]? = some n) (hln : X.env.kindOf n = some .local) (tk : Takes X Wout)
    (hb : ∀ (W : WX) (pn : List (Addr × Obj)) (xe : Value → Shared → Prop), Takes (X.tr pn xe) W → PassesOwn (model X.prog X.w) X.A X.env xe → PSs (X.tr pn xe) body (tb W))
    (hh : HdsAs X n (h₀ :: hds) l) : L2.PS X (.Try body (h₀ :: hds) [] [] pos) (fun D σ H => tb (fun cls d σ' H' => σ'.length = X.N.length → wManyAs X.K i Wout D l cls d σ' H') D σ H) := by
  refine ⟨fun pins s σ H D I h => ?_⟩
  have ok := I.ok
  have hfr : X.A.frames = some (X.env :: X.outer) := by rw [ok.frames, hs]
  have hloc : Loc X.env.scope n := .inl hln
  refine wpAny_Try_except ?_
  refine wpAny_mono ((hb (fun cls d σ' H' => σ'.length = X.N.length → wManyAs X.K i Wout D l cls d σ' H') (X.pn ++ pins) (fun e s₁ => wpAny (model X.prog X.w) X.A (noteFrame e X.env) (fun _ s₂ => wpAny (model X.prog X.w) X.A (setFlight e none) (fun _ s₃ =>
    wpAny (model X.prog X.w) X.A (handleBy e X.env (h₀ :: hds)) (SP X pins D) X.xe s₃) X.xe s₂) X.xe s₁) (fun u s' xx => ?_) PassesOwn.looking).run [] s σ H D (I.toTry _) h) (fun f s1 hsp => ?_) (fun e s1 he => he)
  · -- the catch
    obtain ⟨a, B, sI, pins', σ', H', cls, d, rfl, J', nb, up, sky, na, os, ag, w⟩ := xx
    have J : L2.Inv X pins σ' H' sI := J'.ofTry ok
    have sky' : Sky B (X.env :: X.outer) a (Zc cls d) X.env.locals s'.heap := by rw [← hs]; exact sky
    show wpAny (model X.prog X.w) X.A (noteFrame (.ref a) X.env) _ _ _
    refine Sky.land Zc.steady hfr hf sky' fun h3 fl3 up3 => ?_
    have J3 : L2.Inv X pins σ' H' { s' with heap := h3 } := J.landed nb fl3.1 (up.trans up3) os ag
    obtain ⟨oe3, vs3, he3, hz3, hd3⟩ := fl3.there
    have notFr : ∀ {h : Heap} {o : Obj} {vs : Array Value}, h.FunFrames B (X.env :: X.outer) → h.get? a = some o → o.data = .fields vs → a ∉ frs (X.env :: X.outer) := fun {h o vs} ff e dd hm => by
      obtain ⟨_, o', e', hnf⟩ := ff.mem hm
      rw [e] at e'; cases e'
      exact hnf _ dd
    have nfr := notFr fl3.2.2.1 he3 hd3
    have nL : a ≠ X.env.locals := fun z => nfr (List.mem_filterMap.mpr ⟨X.env, List.mem_cons_self, by rw [hf, z]⟩)
    have nF : a ∉ X.fs := fun hm => by
      obtain ⟨e, he, q⟩ := List.mem_filterMap.mp hm
      exact nfr (List.mem_filterMap.mpr ⟨e, List.mem_cons_of_mem _ he, q⟩)
    have S3 := J3.suite he3 hd3 na nL nF
    have go : ∀ {hds' : List ExceptHandler} {l' : List (Value × HTS)}, HdsAs X n hds' l' → wManyAs X.K i Wout D l' cls d σ' H' →
        wpAny (model X.prog X.w) X.A (handleBy (.ref a) X.env hds') (SP X pins D) X.xe { s' with heap := h3 } := by
      intro hds' l' hk
      induction hk with
      | nil =>
        intro w
        refine wpAny_handleBy_nil ?_
        obtain ⟨k1, k2, k3, oe, vs, T, oT, ts', he, hz, hd, h1, hr⟩ := id fl3
        unfold PySem.passOn
        refine wpAny_bind (wpAny_field he hd h1 ?_)
        rw [if_neg (show ¬ ((Value.ref T == Value.none) = true) from by simp)]
        have fin : wpAny (model X.prog X.w) X.A (setFlight (.ref a) X.env.frame) (fun _ s4 => wpAny (model X.prog X.w) X.A (throw (.ref a) : Sem Flow) (SP X pins D) X.xe s4) X.xe { s' with heap := h3 } := by
          rw [hf]
          refine HandSPX.setFlight_upZ fl3 fun h4 hh4 up4 => wpAny_throw (tk _ _ ?_)
          exact ⟨a, B, sI, pins, σ', H', cls, d, rfl, J, nb, (up.trans up3).trans up4, .inr (.inr (by rw [hs]; exact hh4)), na, os, ag, w⟩
        first
          | exact wpAny_bind (wpAny_pure (wpAny_bind fin))
          | exact wpAny_bind fin
      | @cons x c ts b₀ suite np pos' hds2 l2 hc hsu r ih =>
        intro w
        obtain ⟨b, hb1, hyes, hno⟩ := w
        refine wpAny_handleBy_cons (codeAny_handlers_test ?_) (by intro q; cases q)
        have LT : PySem.W.Looks (model X.prog X.w) h3 (typeOf (.ref a)) cls := fun A Q E s k q => wpAny_typeOf_ref (k _ _ he3) (by rw [hz3.1]; exact q)
        have LM := PySem.W.exm_one (M := model X.prog X.w) (J3.kIn) LT hb1
        have test : ∀ {Q : Value → Shared → Prop} {E : Value → Shared → Prop}, Q c { s' with heap := h3 } → wpAny (model X.prog X.w) (X.A.mark (some (.ref a))) (eval (.Name x np) X.env) Q E { s' with heap := h3 } := fun {Q E} q => by
          obtain ⟨hg, hdbg, hm | ⟨hm, hv, hnn⟩⟩ := hc
          · exact ld_glob (X := X.suite a ((a, oe3) :: (X.pn ++ pins))) S3 hg hm q hdbg
          · exact ld_blt (X := X.suite a ((a, oe3) :: (X.pn ++ pins))) S3 hg hm hv q hnn hdbg
        refine test (LM.here ?_)
        cases b with
        | true =>
          refine codeAny_handlers_suite_as ?_
          refine HandSPX.lands_againZ fl3 fun h4 fl4 up4 => ?_
          have J4 : L2.Inv X pins σ' H' { s' with heap := h4 } := J.landed nb fl4.1 ((up.trans up3).trans up4) os ag
          obtain ⟨oe4, vs4, he4, hz4, hd4⟩ := fl4.there
          have S4 := J4.suite he4 hd4 na nL nF
          refine store_ok (X := X.suite a ((a, oe4) :: (X.pn ++ pins))) (v := .ref a) S4 hN hi hloc rfl (fun s5 S5 => ?_) (.inr hln)
          refine wpAny_mono ((hsu a oe4 cls d (X.pn ++ pins) hz4 ⟨_, hd4⟩).run [] s5 _ H' _ S5 (hyes rfl a na)) (fun f s6 hsp => ?_) (fun _ _ z => False.elim z)
          have end_ : ∀ {σ6 : L2.St} {H6 : Hp} {Q : Shared → Prop}, L2.Inv (X.suite a ((a, oe4) :: (X.pn ++ pins))) [] σ6 H6 s6 → (∀ s7, L2.Inv X pins (σ6.set i none) H6 s7 → Q s7) →
              wpAny (model X.prog X.w) X.A (do bindName X.env n .none; unbindBehindTheSuite X.env n pos') (fun _ s7 => Q s7) X.xe s6 := fun {σ6 H6 Q} S6 hq => gone_ok (S6.unsuite ok) hN hi hln hq
          cases f with
          | next =>
            obtain ⟨σ6, H6, S6, q6⟩ := hsp
            exact end_ S6 fun s7 J7 => ⟨_, _, J7, q6⟩
          | brk =>
            obtain ⟨σ6, H6, S6, q6⟩ := hsp
            exact end_ S6 fun s7 J7 => ⟨_, _, J7, q6⟩
          | cont =>
            obtain ⟨σ6, H6, S6, q6⟩ := hsp
            exact end_ S6 fun s7 J7 => ⟨_, _, J7, q6⟩
          | ret u =>
            obtain ⟨v6, σ6, H6, S6, r6, q6⟩ := hsp
            exact end_ S6 fun s7 J7 => ⟨_, _, _, J7, r6, q6⟩
        | false =>
          show wpAny _ X.A (handleBy (.ref a) X.env hds2) _ _ _
          exact ih (hno rfl)
    exact go hh (w J.len)
  · cases f with
    | next =>
      obtain ⟨σ', H', J', q⟩ := hsp
      exact wpAny_execs_nil ⟨σ', H', J'.ofTry ok, q⟩
    | brk =>
      obtain ⟨σ', H', J', q⟩ := hsp
      exact ⟨σ', H', J'.ofTry ok, q⟩
    | cont =>
      obtain ⟨σ', H', J', q⟩ := hsp
      exact ⟨σ', H', J'.ofTry ok, q⟩
    | ret u =>
      obtain ⟨v, σ', H', J', r, q⟩ := hsp
      exact ⟨v, σ', H', J'.ofTry ok, r, q⟩
end
end TL
namespace TL
open PySem PySem.Spec PyProof.Rows L2 LamX
/-- what the making of a lambda does to the tracked heap -/
def LamStep (H H1 : Hp) (P : Addr) (q : Str) : Prop := H1 = H ∨ ∃ (ps ps' : Array Value) (c' : Addr), H P = some (.tbl ps) ∧ H c' = none ∧ H1 = upd (upd H P (.tbl ps')) c' (CodeO c' q) ∧
  TriplesOk ps'.toList ∧ ∀ (pos : Pos) (cv : Value), codeAmong pos ps'.toList = some cv → ∃ c, cv = .ref c ∧ (H c = some (CodeO c q) ∧ (∃ pos', codeAmong pos' ps.toList = some (.ref c)) ∨ c = c')
section
variable {X : Cx} {pins : List (Addr × Obj)} {σ : L2.St} {H : Hp} {s : Shared}
theorem lam_make1 {c P : Addr} {params : Arguments} {body : Expr} {scope : Scope} {pos : Pos} {E : Value → Shared → Prop} {Q : Value → Shared → Prop} (I : L2.Inv X pins σ H s) (TB : TabB X.base X.mg c P) (hcode : X.env.code = .ref c)
    (hT : TabS H P (X.env.qual ++ "<lambda>")) (hdef : defaultsOf params X.env = ([], [])) (hfree : ∀ y ∈ scope.names, y.2 = .free → ∃ c, X.env.cells.lookup y.1 = some c)
    (h : ∀ (f c' : Addr) (pm ctv : Value) (H1 : Hp) (s' : Shared), L2.Inv X pins σ H1 s' → LamStep H H1 P (X.env.qual ++ "<lambda>") →
      s'.heap.get? f = some (PySem.W.kla_obj "<lambda>" (X.env.qual ++ "<lambda>") params body scope (cloFrom X.env.cells scope.names []) pm c' ctv) → H1 f = none → f ∉ frs X.stack → H1 c' = some (CodeO c' (X.env.qual ++ "<lambda>")) → Q (.ref f) s') :
    wpAny (model X.prog X.w) X.A (eval (.Lambda params body scope pos) X.env) Q E s := by
  obtain ⟨ps, hP, ht, ha⟩ := id hT
  refine PySem.W.kla_eval hdef ?_
  have bP : s.heap.BuiltinsAt X.mg P := TB.bm.keeps I.bk
  have hP' : s.heap.get? P = some { cls := .none, data := .fields ps } := I.hok P _ hP
  have nofr : ∀ f, s.heap.objs.size ≤ f → f ∉ frs X.stack := fun f hf z => by
    rcases List.mem_cons.mp (I.stkSub _ z) with e | e
    · have h1 := I.lt
      rw [← e] at h1
      exact Nat.lt_irrefl _ (Nat.lt_of_lt_of_le h1 hf)
    · exact I.nofs hf e
  cases hc : codeAmong pos ps.toList with
  | none =>
    refine PySem.W.kla_makeFunction (mg := X.mg) (c := c) (P := P) (ps := ps) (closure_ok hfree) I.ok.glob (I.mod.glob.keeps I.bk) hcode (TB.code.keeps I.bk) hP' ht hc TB.gP bP fun c' ctv h' tk hx hge hlt hrec htb => ?_
    obtain ⟨c2, oc, vs, t, e2, hoc, hd, hv⟩ := hrec
    cases e2
    have hsz : s.heap.objs.size ≤ h'.objs.size := Nat.le_trans hge (Nat.le_of_lt hlt)
    have nC : H c' = none := I.hok.fresh hge
    have I1 := inv_table (t' := tk) (more := #[rawInt pos.line, rawInt pos.col, .ref c']) (h' := h'.push (PySem.W.kla_obj "<lambda>" (X.env.qual ++ "<lambda>") params body scope (cloFrom X.env.cells scope.names []) ((X.mg "__name__").getD .none) c' ctv)) I hP
      (fun b o hb e => Heap.get?_push_of_some _ (hx b o hb e)) (Heap.get?_push_of_some _ htb) hge ⟨oc, vs, t, Heap.get?_push_of_some _ hoc, hd, hv⟩
    have hE : ExtN H (upd (upd H P (.tbl (ps ++ #[rawInt pos.line, rawInt pos.col, .ref c']))) c' (CodeO c' (X.env.qual ++ "<lambda>"))) := fun b o e n => by
      rw [upd_ne (ne_of_none e nC), upd_ne (fun z => n ps (Option.some.inj (e.symm.trans (by rw [z]; exact hP))))]
      exact e
    have eL : (ps ++ #[rawInt pos.line, rawInt pos.col, .ref c']).toList = ps.toList ++ [rawInt pos.line, rawInt pos.col, .ref c'] := by simp
    refine h h'.objs.size c' ((X.mg "__name__").getD .none) ctv _ _ I1 (.inr ⟨ps, _, c', hP, nC, rfl, ?_⟩) (Heap.get?_push_size _ rfl) ?_ (nofr _ hsz) upd_same
    · refine ⟨by rw [eL]; exact PySem.TriplesOk_snoc _ _ _ _ ht, fun p' cv hcv => ?_⟩
      rw [eL] at hcv
      rcases among_app _ ht hcv with z | z
      · obtain ⟨c0, e1, e2⟩ := ha p' cv z
        exact ⟨c0, e1, .inl ⟨e2, p', by rw [z, e1]⟩⟩
      · exact ⟨c', z, .inr rfl⟩
    · have n1 : h'.objs.size ≠ c' := Nat.ne_of_gt hlt
      have n2 : h'.objs.size ≠ P := Nat.ne_of_gt (Nat.lt_of_lt_of_le (Heap.lt_size hP') hsz)
      rw [upd_ne n1, upd_ne n2]
      exact I.hok.fresh hsz
  | some cv =>
    obtain ⟨c', e, hco⟩ := ha pos cv hc
    subst e
    refine PySem.W.kla_makeFunctionHit (mg := X.mg) (c := c) (P := P) (ps := ps) (closure_ok hfree) I.ok.glob (I.mod.glob.keeps I.bk) hcode (TB.code.keeps I.bk) hP' ht hc bP fun ctv h' tk hx hsz => ?_
    have I1 : L2.Inv X pins σ H { s with heap := h'.push (PySem.W.kla_obj "<lambda>" (X.env.qual ++ "<lambda>") params body scope (cloFrom X.env.cells scope.names []) ((X.mg "__name__").getD .none) c' ctv), toks := tk } := I.kept fun b o e => Heap.get?_push_of_some _ (hx b o e)
    exact h h'.objs.size c' ((X.mg "__name__").getD .none) ctv H _ I1 (.inl rfl) (Heap.get?_push_size _ rfl) (I.hok.fresh hsz) (nofr _ hsz) hco
end
def tLam1 (P : Addr) (q : Str) (TT : (XK → Hp → VK → Prop) → Hp → VK → Prop) (t : XK → TE) : TE := fun σ H Q => TabS H P q ∧ ∀ H1, LamStep H H1 P q → TT (fun E H' Q' => t E σ H' Q') H1 Q
theorem pe_lamcall1 {TT : (XK → Hp → VK → Prop) → Hp → VK → Prop} {x a : Str} {g c P : Addr} {k : Nat} {pg : Arguments} {bg : List Stmt} {sg : Scope} {dV kV doc pm cdv ct oc : Value} {an od : Option Addr} {osl : Array (Option Value)} {Ng : List Str}
    {params : Arguments} {body : Expr} {scope : Scope} {t : XK → TE} {p lpos pos : Pos} (hg : Gl X x) (hm : X.mg x = some (.ref g)) (hk : PySem.W.keepIn X.K (.ref g) = true)
    (lk : X.K.lookup g = some ⟨oc, od, .func (PySem.W.fnOf x x pg bg sg dV kV doc pm an cdv ct), osl⟩) (hcg : PySem.W.codeIn X.K cdv x = true) (hb : L2.Binds X.K (PySem.W.fnOf x x pg bg sg dV kV doc pm an cdv ct) [a] []) (Sg : FnScope Ng [a] sg) (hNg : Ng[0]? = some a) (hva : Vis sg a)
    (hG : GivesTo X Ng x sg g cdv bg a (X.env.qual ++ "<lambda>") TT)
    (TB : TabB X.base X.mg c P) (hcode : X.env.code = .ref c) (hr : Room (k + 2) X.A) (L : LamS X.env.scope scope) (hdef : defaultsOf params X.env = ([], []))
    (hbind : ∀ (q : Str) (cl : List (Str × Addr)) (pm cv ctv : Value), bindArgs (PySem.W.kla_fn "<lambda>" q params body scope cl pm cv ctv) ⟨[], []⟩ = pure [])
    (hbody : ∀ (A : Around) (outer : List PySem.Env) (s : Shared) (H : Hp) (E : XK) (f c' : Addr), Room k (A.deeper (lamEnv X scope s.heap.objs.size f c')) → PE (lamCx X A outer s H E scope f c') body (t E))
    (hdb : (x == ("__debug__" : Str)) = false := by decide) (hd : (a == ("__debug__" : Str)) = false := by decide) (hcd : (a == ("__classdict__" : Str)) = false := by decide) :
    L2.PE X (.Call (.Name x p) [.Lambda params body scope lpos] [] pos) (tLam1 P (X.env.qual ++ "<lambda>") TT t) := by
  refine ⟨fun pins s σ H Q I h => ?_⟩
  obtain ⟨hT, h⟩ := h
  refine wpAny_Call_Name_kw (ld_glob I hg hm ?_ hdb)
  refine PySem.W.callWith_K (h₀ := X.base) I.ok.mod.kin hk ?_ (by rfl) (by rfl)
  show wpAny _ _ (spliced ((false, eval (.Lambda params body scope lpos) X.env) :: backTo pos (starEach [] X.env))) _ _ s
  refine Calls.spliced_cons (lam_make1 I TB hcode hT hdef (L.has I.ok) fun f c' pm' ctv H1 s' I1 eN hf hfn hfr hco => ?_)
  refine Calls.spliced_nil ⟨I1.kIn, ?_⟩
  have rc : codeAny (model X.prog X.w) X.A (.call (.ref g) ⟨[.ref f], []⟩) (CR C8.CX0 X.stack X.prog X.w H1 s' Q C8.E0) s' := by
    refine run_ofS (N := Ng) (ps := [a]) (us := [.ref f]) (vs := [.ref f]) lk hcg Sg hr I1.env0 (hb s' [.ref f] I1.kIn rfl) (.cons rfl .nil) rfl fun hr' => ?_
    obtain ⟨t', ht', hq'⟩ := hG f c' s' H1 Q (fun E H' Q' => t E σ H' Q') (fun W pn xe E p1 p2 tk hW => pe_act (i := 0) I1 L hf hfn hfr (hbind _ _ _ _ _) tk hW hr' (fun A outer s H hr2 => hbody A outer s H E f c' hr2) hNg hva hd hcd) hco (h H1 eN)
    exact ⟨t', ht'.nox, hq'⟩
  refine wpAny_call (codeAny_mono rc fun r s2 hq => ?_)
  cases r with
  | error e => exact (show False from hq).elim
  | ok fl =>
    cases fl with
    | ret u => exact I1.after hq
    | next => exact False.elim hq
    | brk => exact False.elim hq
    | cont => exact False.elim hq
def tellsX (K : PySem.W.Frag) : List (Addr × Str × Str) → Addr → Str → Str → Prop
  | [], _, _, _ => False
  | (Ci, w, f) :: r, C, w', f' => (PySem.W.exmOne K (.ref C) (.ref Ci) = some true ∧ C = Ci ∧ w = w' ∧ f = f') ∨ (PySem.W.exmOne K (.ref C) (.ref Ci) = some false ∧ tellsX K r C w' f')
inductive TellHs (K : PySem.W.Frag) (mg : Str → Option Value) (sg : Scope) (e : Str) : List ExceptHandler → List (Addr × Str × Str) → Prop
  | nil : TellHs K mg sg e [] []
  | cons {x w f : Str} {Ci : Addr} {np np' p1 p2 p3 p4 p5 : Pos} {j : Nat} {hds : List ExceptHandler} {l : List (Addr × Str × Str)} (hx : sg.names.lookup x = some .globalImplicit) (hd : (x == ("__debug__" : Str)) = false) (hm : mg x = some (.ref Ci)) (T : XfC K Ci) (hno : PySem.W.findIn K (.ref Ci) f = some none)
      (r : TellHs K mg sg e hds l) : TellHs K mg sg e (.ExceptHandler (some (.Name x np)) (some e) [.Return (some (.List [.Constant (.str w) j p1, .Attribute (.Name e p2) f p3] p4)) p5] np' :: hds) ((Ci, w, f) :: l)
def hTell (q : Addr × Str × Str) : Value × HTS := (.ref q.1, fun a cls d => tRet (tLst (tCons (tC (.str q.2.1)) (tCons (tXf a cls d q.1 q.2.2 (tVar 1)) tNil))))
/-- what the clauses wish, told -/
def xTell (K : PySem.W.Frag) (hs : List (Addr × Str × Str)) (Q : VK) : XK := fun cls d H' => ∃ (C dd : Addr) (fs : List (Str × V)) (w f : Str) (v : V), cls = .ref C ∧ d = some dd ∧ H' dd = some (.xd fs) ∧ tellsX K hs C w f ∧ fs.lookup f = some v ∧ ∀ l, H' l = none → Q (.ref l) (upd H' l (.lst [.str w, v]))
def TToldL (K : PySem.W.Frag) (told : Str) (hs : List (Addr × Str × Str)) : (XK → Hp → VK → Prop) → Hp → VK → Prop := fun tl H Q =>
  tl (xTell K hs Q) H fun v H1 => ([V.str told, v].length ≤ sizeLine ∧ ∀ l, H1 l = none → Q (.ref l) (upd H1 l (.lst [.str told, v])))
theorem xTell_many {K : PySem.W.Frag} {Q : VK} {D : Ends} {σ : L2.St} {H : Hp} (hD : ∀ v H', Q v H' → D.rt v H') (hl : 1 < σ.length) : ∀ (hs : List (Addr × Str × Str)) (cls : Value) (d : Option Addr), xTell K hs Q cls d H → wManyAs K 1 (fun _ _ _ _ => False) D (hs.map hTell) cls d σ H
  | [], cls, d, ⟨C, dd, fs, w, f, v, e1, e2, e3, e4, e5, e6⟩ => e4.elim
  | (Ci, w0, f0) :: r, cls, d, ⟨C, dd, fs, w, f, v, e1, e2, e3, e4, e5, e6⟩ => by
    subst e1; subst e2
    rcases e4 with ⟨b1, b2, b3, b4⟩ | ⟨b1, b2⟩
    · subst b2; subst b3; subst b4
      refine ⟨true, b1, fun _ a ha => ?_, fun h => by cases h⟩
      refine ⟨.ref a, ?_, rfl, rfl, dd, fs, v, rfl, e3, e5, by simp [sizeLine_eq], fun l hl' => hD _ _ (e6 l hl')⟩
      rw [List.getElem?_set_self hl]
    · exact ⟨false, b1, fun h => (by cases h), fun _ => xTell_many hD hl r _ _ ⟨C, dd, fs, w, f, v, rfl, rfl, e3, b2, e5, e6⟩⟩
theorem hdsTell {X : Cx} {e : Str} {sg : Scope} (he : X.env.scope = sg) (hi : X.N[1]? = some e) (hln : X.env.scope.names.lookup e = some .local) (hve : Vis X.env.scope e) (hd1 : (e == ("__debug__" : Str)) = false) (hd2 : (e == ("__classdict__" : Str)) = false) :
    ∀ {hds : List ExceptHandler} {l : List (Addr × Str × Str)}, TellHs X.K X.mg sg e hds l → HdsAs X e hds (l.map hTell)
  | _, _, .nil => .nil
  | _, _, .cons hx hd hm T hno r => by
    refine .cons ⟨?_, hd, .inl hm⟩ (fun a oe cls d pn hz hf => ?_) (hdsTell he hi hln hve hd1 hd2 r)
    · show X.env.scope.names.lookup _ = _
      rw [he]; exact hx
    · exact pss_one (ps_ret (pe_lst (pa_cons pe_str (pa_cons (pe_xf T hno hz hf (pe_var (X := X.suite a ((a, oe) :: pn)) (i := 1) hi hve hd1 hd2)) pa_nil))))
theorem told_givesL {X : Cx} {Ng : List Str} {x a e q told : Str} {sg : Scope} {g : Addr} {cdg : Value} {j : Nat} {p1 p2 p3 p4 p5 p6 : Pos} {hds : List ExceptHandler} {h₀ : ExceptHandler} {hs : List (Addr × Str × Str)} (hN : Ng.Nodup) (hlen : 2 ≤ Ng.length) (hi : Ng[1]? = some e) (hln : sg.names.lookup e = some .local)
    (hd1 : (e == ("__debug__" : Str)) = false) (hd2 : (e == ("__classdict__" : Str)) = false) (h0 : ∀ f : Addr, (L2.start Ng [V.ref f])[0]? = some (some (V.ref f))) (hh : TellHs X.K X.mg sg e (h₀ :: hds) hs) :
    GivesTo X Ng x sg g cdg [.Try [.Return (some (.List [.Constant (.str told) j p1, .Call (.Name a p2) [] [] p3] p4)) p5] (h₀ :: hds) [] [] p6] a q (TToldL X.K told hs) := by
  intro f c' s H Q tl act hc h
  refine ⟨_, pss_one (ps_try_manyAs (X := (cxOf C8.CX0 X.prog X.w X.K X.mg X.base Ng x sg g cdg X.A X.stack s H C8.E0).nox) (n := e) (i := 1) (l := hs.map hTell)
      (tb := fun W D σ H => ∃ Ech : XK, (∀ cls d σ' H', Ech cls d H' → W cls d σ' H') ∧ σ[0]? = some (some (.ref f)) ∧ H c' = some (CodeO c' q) ∧ tl Ech H fun v H1 => ([V.str told, v].length ≤ sizeLine ∧ ∀ l, H1 l = none → D.rt (.ref l) (upd H1 l (.lst [.str told, v]))))
      rfl rfl hN hi hln LamX.takes0 (fun W pn xe tk _ => ?_) (hdsTell rfl hi hln (.inl hln) hd1 hd2 hh)), ?_⟩
  · refine ⟨fun pins s' σ H' D I h' => ?_⟩
    obtain ⟨Ech, hW, h1, h2, h3⟩ := h'
    have hp := act W pn xe Ech p2 p3 tk hW
    have hq := pss_one (ps_ret (pos := p5) (pe_lst (pos := p4) (pa_cons (pe_str (x := told) (j := j) (pos := p1)) (pa_cons hp pa_nil))))
    exact hq.run pins s' σ H' D I ⟨h1, h2, h3⟩
  · exact ⟨xTell X.K hs Q, fun cls d σ' H' hx hl => xTell_many (fun _ _ q => q) (by show 1 < σ'.length; rw [hl]; exact hlen) hs cls d hx, h0 f, hc, h⟩
end TL
namespace TL
open PySem PySem.Spec PyProof.Rows L2 LamX
def frz1 (i : Nat) (r : Rho) : Rho := match (r.getD i .no).view with
  | some (n, d) => r.set i (.fz n d)
  | none => r
/-- the captured slots, frozen -/
def frzR (cap : List Nat) (r : Rho) : Rho := cap.foldr frz1 r
def capIt : It → It
  | .fz _ d => .fz false d
  | _ => .no
section
variable {G0 : Bs} {K : PySem.W.Frag}
theorem Env.frz1 {H : Hp} {vs : List (Option V)} {ka : List TL.It} {sg : L2.St} {r : Rho} (i : Nat) (E : Env G0 H (vs ++ sg) (ka ++ r)) : Env G0 H (vs ++ sg) (ka ++ frz1 i r) ∧ (frz1 i r).length = r.length := by
  unfold TL.frz1
  cases q : (r.getD i .no).view with
  | none => exact ⟨E, rfl⟩
  | some p =>
    obtain ⟨n, d⟩ := p
    have hx : ∃ x, r[i]? = some x ∧ x.view = some (n, d) := by
      rw [List.getD_eq_getElem?_getD] at q
      cases z : r[i]? with
      | none => rw [z] at q; cases q
      | some x => rw [z] at q; exact ⟨x, rfl, q⟩
    obtain ⟨x, h1, h2⟩ := hx
    obtain ⟨G, E⟩ := E
    obtain ⟨G', E'⟩ := E.freeze (i := ka.length + i) (by rw [get_app]; exact h1) h2
    rw [set_app] at E'
    exact ⟨⟨G', E'⟩, by simp⟩
theorem Env.frzR {H : Hp} {vs : List (Option V)} {ka : List TL.It} {sg : L2.St} {r : Rho} (E : Env G0 H (vs ++ sg) (ka ++ r)) : ∀ (cap : List Nat), Env G0 H (vs ++ sg) (ka ++ frzR cap r) ∧ (frzR cap r).length = r.length
  | [] => ⟨E, rfl⟩
  | i :: is => by
    obtain ⟨E1, l1⟩ := Env.frzR E is
    obtain ⟨E2, l2⟩ := E1.frz1 i
    exact ⟨E2, l2.trans l1⟩
def XcTell (K : PySem.W.Frag) (hs : List (Addr × Str × Str)) (Pp : TL.It → Prop) : XC := fun C ns nw es => ∃ w f d, tellsX K hs C w f ∧ ns = [f] ∧ es = [d] ∧ Pp (.fz nw (.seq false [.str w, d]))
def tdTold (j : Nat) (cap : List Nat) (P : Addr) (q : Str) (K : PySem.W.Frag) (told : Str) (hs : List (Addr × Str × Str)) (tb : XC → TDE) : TDE := fun r Pp => (frzR cap r)[j]? = some (.tb P q) ∧
  tb (XcTell K hs fun x => Pp x (frzR cap r)) ((frzR cap r).map capIt) fun x _ => ∃ n d, x.view = some (n, d) ∧ Pp (.fz n (.seq false [.str told, d])) (frzR cap r)
/-- a new list of a text and a thing -/
theorem EnvG.pushTold {G H : Hp} {vs : List (Option V)} {its : List TL.It} (E : EnvG G0 G H vs its) {l : Addr} {w : Str} {v : V} {nw : Bool} {d : D} (hl : H l = none) (r : Rep (nwP G0 nw) G v d) :
    Env G0 (upd H l (.lst [.str w, v])) (some (.ref l) :: vs) (.fz nw (.seq false [.str w, d]) :: its) := by
  have E1 := E.pushOw (nw := nw) (d := .seq false [.str w, d]) (o := .lst [.str w, v]) hl rfl ⟨_, upd_same, .cons (.str w) (.cons r .nil)⟩
  exact (Env.freeze0 ⟨G, E1⟩ rfl)
theorem snd_told {j : Nat} {cap : List Nat} {P : Addr} {q told : Str} {hs : List (Addr × Str × Str)} {t : XK → TE} {tb : XC → TDE} (hb : ∀ (G0 : Bs) (E : XK) (Xc : XC), XOk G0 E Xc → SndE G0 (t E) (tb Xc)) :
    SndE G0 (tLam1 P q (TToldL K told hs) t) (tdTold j cap P q K told hs tb) := by
  intro vs ka sg H r Pp Q hl En hp k
  obtain ⟨hj, hp⟩ := hp
  obtain ⟨En, lr⟩ := En.frzR cap
  have k : ∀ v H' x, Env G0 H' (some v :: (vs ++ sg)) (x :: (ka ++ frzR cap r)) → Pp x (frzR cap r) → Q v H' := fun v H' x => k v H' x (frzR cap r) lr
  generalize frzR cap r = r1 at *
  obtain ⟨G, E⟩ := En
  have hit : (ka ++ r1)[ka.length + j]? = some (.tb P q) := by rw [get_app]; exact hj
  obtain ⟨ps, hP, ht, ha⟩ := E.ok _ _ hit
  refine ⟨⟨ps, hP, ht, fun pos cv hc => let ⟨c, e1, e2⟩ := ha pos cv hc; ⟨c, e1, E.le _ _ e2⟩⟩, fun H1 step => ?_⟩
  -- the lambda is there
  have E1 : ∃ G1, EnvG G0 G1 H1 (vs ++ sg) (ka ++ r1) := by
    rcases step with rfl | ⟨ps0, ps', c', hP0, hc', rfl, ht', ha'⟩
    · exact ⟨G, E⟩
    · rw [hP] at hP0
      cases hP0
      have nPc : P ≠ c' := fun z => by rw [z, hc'] at hP; cases hP
      have gP := E.out _ _ P hit (by simp [It.reg])
      have gc : G c' = none := E.le.nn hc'
      refine ⟨upd G c' (CodeO c' q), ?_⟩
      have := E.put (y := .tb P q) (G' := upd G c' (CodeO c' q)) (H' := upd (upd H P (.tbl ps')) c' (CodeO c' q)) hit (Le.nw gc) (fun a o e => ?_) (fun a xs e => ?_) (fun a o h1 h2 => ?_) (fun a h1 h2 => ?_) ?_ fun a h1 => ?_
      · rw [show (ka ++ r1).set (ka.length + j) (.tb P q) = ka ++ r1 from by
          apply List.ext_getElem?
          intro i
          by_cases hi : ka.length + j = i
          · subst hi; rw [List.getElem?_set_self (List.getElem?_eq_some_iff.mp hit).1, hit]
          · rw [List.getElem?_set_ne hi]] at this
        exact this
      · by_cases h : a = c'
        · subst h; rw [upd_same] at e ⊢; exact e
        · rw [upd_ne h] at e ⊢
          rw [upd_ne (fun z => by rw [z, gP.1] at e; cases e)]
          exact E.le _ _ e
      · by_cases h : a = c'
        · subst h; rw [upd_same] at e; cases e
        · rw [upd_ne h] at e ⊢
          by_cases h2 : a = P
          · subst h2; rw [upd_same] at e; cases e
          · rw [upd_ne h2] at e; exact E.tp _ _ e
      · have hPa : a ≠ P := by simpa [It.reg] using h1
        rw [upd_ne (fun z => by rw [z, hc'] at h2; cases h2), upd_ne hPa]; exact h2
      · by_cases h : a = c'
        · subst h; exact .inl hc'
        · rw [upd_ne h, h1] at h2; cases h2
      · refine ⟨ps', by rw [upd_ne nPc, upd_same], ht', fun pos cv hcv => ?_⟩
        obtain ⟨c, e1, z⟩ := ha' pos cv hcv
        refine ⟨c, e1, ?_⟩
        rcases z with ⟨_, pos', z⟩ | rfl
        · obtain ⟨c2, e2, e3⟩ := ha pos' _ z
          cases e2
          rw [upd_ne (fun w => by rw [w, gc] at e3; cases e3)]; exact e3
        · exact upd_same
      · have : a = P := by simpa [It.reg] using h1
        subst this
        refine ⟨.inr (by simp [It.reg]), by rw [upd_ne nPc]; exact gP.1, by rw [upd_ne nPc, upd_same]; rfl⟩
  obtain ⟨G1, E1⟩ := E1
  -- its body is evaluated over all that is frozen
  let B : Bs := ⟨G1, fun a => (H1 a).isSome && (G1 a).isNone, H1⟩
  have sOf : ∀ a u, H1 a = some u → G1 a = none → B.S a = true := fun a u h1 h2 => by show ((H1 a).isSome && (G1 a).isNone) = true; rw [h1, h2]; rfl
  have EB : EnvG B G1 H1 ([] ++ sg) ([] ++ r1.map capIt) := by
    have len : sg.length = r1.length := by have := E1.len; simp at this; omega
    have noreg : ∀ (i : Nat) (x : TL.It) (a : Addr), (r1.map capIt)[i]? = some x → x.reg a = true → False := fun i x a h1 h2 => by
      rw [List.getElem?_map] at h1
      cases z : r1[i]? with
      | none => rw [z] at h1; cases h1
      | some y =>
        rw [z] at h1
        cases h1
        cases y <;> simp [capIt, It.reg] at h2
    refine ⟨by simp [len], Le.refl _, E1.le, E1.tp, fun i x hx => ?_, fun i j x y a hx _ r _ => (noreg i x a (by simpa using hx) r).elim, fun i x a hx r => (noreg i x a (by simpa using hx) r).elim, fun a h => ?_, fun i x a hx r => (noreg i x a (by simpa using hx) r).elim⟩
    · rw [List.nil_append, List.getElem?_map] at hx
      cases z : r1[i]? with
      | none => rw [z] at hx; cases hx
      | some y =>
        rw [z] at hx
        cases hx
        cases y with
        | fz n d =>
          have := E1.ok (ka.length + i) (.fz n d) (by rw [get_app]; exact z)
          rw [getD_app hl] at this
          obtain ⟨v, e1, e2⟩ := this
          exact ⟨v, by rw [List.nil_append]; exact e1, e2.imp fun _ _ h => by cases h⟩
        | _ => trivial
    · have h : ((H1 a).isSome && (G1 a).isNone) = true := h
      rw [Bool.and_eq_true] at h
      exact ⟨by simpa using h.2, rfl, h.1⟩
  -- behind it
  have back : ∀ {G2 H2 : Hp}, Le G1 G2 → Le G2 H2 → (∀ a xs, H2 a = some (.tup xs) → G2 a = some (.tup xs)) → (∀ a, B.S a = true → G2 a = none ∧ H2 a = H1 a) → EnvG G0 G2 H2 (vs ++ sg) (ka ++ r1) := fun {G2 H2} l1 l2 tp fr => by
    refine E1.grow l1 l2 tp (fun a u h => ?_) fun a h1 h2 => ?_
    · cases z : G1 a with
      | some u' => have := E1.le a u' z; rw [h] at this; cases this; exact l2 _ _ (l1 _ _ z)
      | none => rw [(fr a (sOf a u h z)).2]; exact h
    · cases z : H1 a with
      | none => rfl
      | some u => rw [(fr a (sOf a u z h1)).1] at h2; cases h2
  have nwB : ∀ (nw : Bool) (a : Addr), nwP B nw a → nwP G0 nw a := fun nw a h e => E1.l0.nn (h e)
  refine hb B _ _ (fun C ns nw es dx fs H2 G2 hx l1 l2 tp fr hdx hns rp => ?_) [] [] sg H1 (r1.map capIt) _ _ rfl ⟨G1, EB⟩ hp fun v H2 x r2 l2 E2 h2 => ⟨by simp [sizeLine_eq], fun l hl' => ?_⟩
  · obtain ⟨w, f, d, ht, rfl, rfl, hP⟩ := hx
    match fs, hns, rp with
    | [(f', v)], hns, rp =>
      have ef : f' = f := by simpa using hns
      subst ef
      obtain ⟨y, ey, ry⟩ := rep1 rp
      have ey : v = y := by simpa using ey
      subst ey
      refine ⟨C, dx, [(f', v)], w, f', v, rfl, rfl, hdx, ht, by simp, fun l hl' => ?_⟩
      exact k _ _ _ ((back l1 l2 tp fr).pushTold hl' (ry.imp fun a h => nwB nw a h)) hP
  · obtain ⟨n, d, hv, hP⟩ := h2
    obtain ⟨G2, E2⟩ := E2.freeze0 hv
    have rv := fz_val E2
    exact k _ _ _ ((back E2.l0 E2.le E2.tp fun a h => ⟨(E2.fr a h).1, (E2.fr a h).2.1⟩).pushTold hl' (rv.imp fun a h => nwB n a h)) hP
end
end TL
namespace TL
open PySem PySem.Spec PyProof.Rows L2
section
variable {G0 : Bs} {ta tb : TE} {toa tob : TDO} {K : PySem.W.Frag}
def tdInD (neg : Bool) (toa tob : TDO) : TDE := fun r P => toa r fun x r1 => tob r1 fun y r2 => ∃ dx ys, x.dat r2 = some dx ∧ y.dat r2 = some (.seq false ys) ∧ dx.eqOk = true ∧ (D.seq false ys).eqOk = true ∧ P (.fz true (.bl (if neg then !(ys.any fun z => z.deq dx) else ys.any fun z => z.deq dx))) r2
end
/-- the built-ins that the texts use are not the module's own -/
structure Bl (mg : Str → Option Value) : Prop where
  len : mg "len" = none
  range : mg "range" = none
  list : mg "list" = none
  tuple : mg "tuple" = none
  dict : mg "dict" = none
  sorted : mg "sorted" = none
  all : mg "all" = none
  any : mg "any" = none
  sum : mg "sum" = none
  min : mg "min" = none
  max : mg "max" = none
  abs : mg "abs" = none
  int : mg "int" = none
  str : mg "str" = none
  bool : mg "bool" = none
  isinstance : mg "isinstance" = none
  enumerate : mg "enumerate" = none
  zip : mg "zip" = none
  reversed : mg "reversed" = none
theorem Has.none {P : Program} {w : World} {K : PySem.W.Frag} {mg : Str → Option Value} {base : Heap} {x : Str} {st : Stmt} {lv : Nat} {ps : List Str} {sp : Sp} (F0 : DefAt K mg x st) (hs : ∀ vs H Q E, ¬ sp vs H Q E)
    (hb : ∀ f fd, FunD K x x (defArgs st) (defBody st) (defScope st) [] [] f fd → Binds K fd ps []) : Has P w K mg base x lv ps sp := by
  obtain ⟨f, fd, F, hm⟩ := F0
  exact ⟨f, fd, ⟨fun vs H Q E h => (hs vs H Q E h).elim, fun _ _ _ _ _ _ _ _ _ _ _ _ _ h => (hs _ _ _ _ h).elim⟩, hm, F.kp, hb f fd F⟩
end TL
namespace TL
open PySem PySem.Spec PyProof.Rows L2
abbrev inL (xs : List Int) : D := .seq false (xs.map .int)
mutual
/-- what == may be asked of -/
def D.lay : D → Bool
  | .non | .bl _ | .int _ => true
  | .str x => PyData.strOk x
  | .seq _ xs => D.lays xs
  | _ => false
def D.lays : List D → Bool
  | [] => true
  | x :: xs => x.lay && D.lays xs
end
mutual
def D.dep : D → Nat
  | .seq _ xs => D.deps xs + 1
  | _ => 0
def D.deps : List D → Nat
  | [] => 0
  | x :: xs => max x.dep (D.deps xs)
end
mutual
theorem lay_ok : ∀ (d : D), d.lay = true → d.nod = true ∧ d.py.canLay0 = true ∧ d.py.depth = d.dep
  | .non, _ => ⟨rfl, rfl, rfl⟩
  | .bl _, _ => ⟨rfl, rfl, rfl⟩
  | .int _, _ => ⟨rfl, rfl, rfl⟩
  | .str x, h => ⟨rfl, h, rfl⟩
  | .seq false xs, h => by
    obtain ⟨h1, h2, h3⟩ := lays_ok xs h
    exact ⟨h1, h2, congrArg (· + 1) h3⟩
  | .seq true xs, h => by
    obtain ⟨h1, h2, h3⟩ := lays_ok xs h
    exact ⟨h1, h2, congrArg (· + 1) h3⟩
  | .dk _ _, h => by cases h
  | .dt _ _, h => by cases h
  | .ins _ _ _, h => by cases h
theorem lays_ok : ∀ (xs : List D), D.lays xs = true → D.nods xs = true ∧ PyData.canLayAll0 (D.pys xs) = true ∧ PyData.depthAll (D.pys xs) = D.deps xs
  | [], _ => ⟨rfl, rfl, rfl⟩
  | x :: xs, h => by
    have h : (x.lay && D.lays xs) = true := h
    rw [Bool.and_eq_true] at h
    obtain ⟨a1, a2, a3⟩ := lay_ok x h.1
    obtain ⟨b1, b2, b3⟩ := lays_ok xs h.2
    refine ⟨?_, ?_, ?_⟩
    · show (x.nod && D.nods xs) = true
      rw [a1, b1]; rfl
    · show (x.py.canLay0 && PyData.canLayAll0 (D.pys xs)) = true
      rw [a2, b2]; rfl
    · show max x.py.depth (PyData.depthAll (D.pys xs)) = max x.dep (D.deps xs)
      rw [a3, b3]
end
theorem eqOk_of {d : D} (h : d.lay = true) (h2 : d.dep ≤ 64) : d.eqOk = true := by
  obtain ⟨h1, h3, h4⟩ := lay_ok d h
  unfold D.eqOk SeqAt.shaped
  rw [h1, h3, h4]
  simpa using h2
theorem lays_iff : ∀ (xs : List D), D.lays xs = xs.all D.lay
  | [] => rfl
  | x :: xs => by rw [D.lays, List.all_cons, lays_iff xs]
theorem deps_le : ∀ {xs : List D} {n : Nat}, (∀ x ∈ xs, x.dep ≤ n) → D.deps xs ≤ n
  | [], n, _ => Nat.zero_le _
  | x :: xs, n, h => Nat.max_le.mpr ⟨h x List.mem_cons_self, deps_le fun y hy => h y (List.mem_cons_of_mem _ hy)⟩
theorem lay_ints (b : Bool) (xs : List Int) : (D.seq b (xs.map .int)).lay = true ∧ (D.seq b (xs.map .int)).dep ≤ 1 := by
  refine ⟨?_, Nat.succ_le_succ (deps_le fun x hx => ?_)⟩
  · show D.lays _ = true
    rw [lays_iff, List.all_eq_true]
    intro x hx
    obtain ⟨i, _, rfl⟩ := List.mem_map.mp hx
    rfl
  · obtain ⟨i, _, rfl⟩ := List.mem_map.mp hx
    exact Nat.le_refl _
theorem eqOk_ints (b : Bool) (xs : List Int) : (D.seq b (xs.map .int)).eqOk = true := eqOk_of (lay_ints b xs).1 (Nat.le_trans (lay_ints b xs).2 (by decide))
theorem eqOk_intss (b c : Bool) (xs : List (List Int)) : (D.seq b (xs.map fun k => .seq c (k.map .int))).eqOk = true := by
  refine eqOk_of ?_ (Nat.le_trans (Nat.succ_le_succ (deps_le (n := 1) fun x hx => ?_)) (by decide))
  · show D.lays _ = true
    rw [lays_iff, List.all_eq_true]
    intro x hx
    obtain ⟨i, _, rfl⟩ := List.mem_map.mp hx
    exact (lay_ints c i).1
  · obtain ⟨i, _, rfl⟩ := List.mem_map.mp hx
    exact (lay_ints c i).2
theorem eqOk_nil (b : Bool) : (D.seq b []).eqOk = true := eqOk_ints b []
theorem deq_nil (b : Bool) (xs : List D) : (D.seq b xs).deq (.seq b []) = xs.isEmpty := by
  cases b <;> cases xs <;> rfl
theorem eqvAll_ints : ∀ xs ys : List Int, PyData.eqvAll (D.pys (xs.map .int)) (D.pys (ys.map .int)) = decide (xs = ys)
  | [], [] => rfl
  | [], _ :: _ => rfl
  | _ :: _, [] => rfl
  | x :: xs, y :: ys => by
    show ((x == y) && PyData.eqvAll (D.pys (xs.map .int)) (D.pys (ys.map .int))) = _
    rw [eqvAll_ints xs ys]
    by_cases h : x = y
    · subst h; simp
    · simp [h]
theorem deq_ints (b : Bool) (xs ys : List Int) : (D.seq b (xs.map .int)).deq (.seq b (ys.map .int)) = decide (xs = ys) := by
  cases b <;> exact eqvAll_ints xs ys
/-- a comprehension over things, the element a function of the thing -/
theorem lc_ds {tg : TDG} {s : TDT} {t : TDE} {own : List Nat} {P : TL.It → Rho → Prop} {ds : List D} {g : D → Bool} {r1 : Rho} (f : D → D) (nw : Bool) (hz : ds.length ≤ sizeLine)
    (h : ∀ d ∈ ds, ∀ Q : Bool → D → Rho → Prop, (∀ n r4, (nw = true → n = true) → wR own r4 = wR own r1 → Q n (f d) r4) → tg (.fz (g d) d) (wR own r1) fun r2 => s r2 fun b r3 => b = true ∧ t r3 fun y r4 => ∃ n d, y.view = some (n, d) ∧ Q n d r4)
    (mono : ∀ {x : TL.It} {r : Rho} {A B : Rho → Prop}, (∀ r, A r → B r) → tg x r A → tg x r B) (smono : ∀ {r : Rho} {A B : Bool → Rho → Prop}, (∀ b r, A b r → B b r) → s r A → s r B)
    (k : ∀ p, P (.ow p nw (.seq false (ds.map f))) (wR own r1)) : lcB tg s t own P (ds.map fun d => .fz (g d) d) r1 := by
  refine lc_map (fun x => match x with | .fz _ d => f d | _ => .non) nw (by simpa using hz) (fun x hx Q hQ => ?_) mono smono (fun p => ?_)
  · obtain ⟨d, hd, rfl⟩ := List.mem_map.mp hx
    exact h d hd Q hQ
  · rw [List.map_map]
    exact k p
/-- .. over numbers -/
theorem lc_ns {tg : TDG} {s : TDT} {t : TDE} {own : List Nat} {P : TL.It → Rho → Prop} {n : Nat} {r1 : Rho} (lo : Int) (f : Nat → D) (nw : Bool) (hz : n ≤ sizeLine)
    (h : ∀ i < n, ∀ Q : Bool → D → Rho → Prop, (∀ m r4, (nw = true → m = true) → wR own r4 = wR own r1 → Q m (f i) r4) → tg (.fz true (.int (lo + (i : Nat)))) (wR own r1) fun r2 => s r2 fun b r3 => b = true ∧ t r3 fun y r4 => ∃ n d, y.view = some (n, d) ∧ Q n d r4)
    (mono : ∀ {x : TL.It} {r : Rho} {A B : Rho → Prop}, (∀ r, A r → B r) → tg x r A → tg x r B) (smono : ∀ {r : Rho} {A B : Bool → Rho → Prop}, (∀ b r, A b r → B b r) → s r A → s r B)
    (k : ∀ p, P (.ow p nw (.seq false ((List.range n).map f))) (wR own r1)) : lcB tg s t own P ((List.range n).map fun i => .fz true (.int (lo + (i : Nat)))) r1 := by
  refine lc_map (fun x => match x with | .fz _ (.int j) => f (j - lo).toNat | _ => .non) nw (by simpa using hz) (fun x hx Q hQ => ?_) mono smono (fun p => ?_)
  · obtain ⟨i, hi, rfl⟩ := List.mem_map.mp hx
    refine h i (List.mem_range.mp hi) Q fun m r4 h1 h2 => ?_
    have := hQ m r4 h1 h2
    have e : (lo + (i : Int) - lo).toNat = i := by omega
    simpa only [e] using this
  · rw [List.map_map]
    have e : ((fun x : TL.It => match x with | .fz _ (.int j) => f (j - lo).toNat | _ => .non) ∘ fun i : Nat => TL.It.fz true (.int (lo + (i : Nat)))) = f := by
      funext i
      show f (lo + (i : Int) - lo).toNat = f i
      congr 1
      omega
    rw [e]
    exact k p
theorem atI_nat {α : Type} {xs : List α} {i : Nat} {d : α} (h : xs[i]? = some d) : atI xs (i : Nat) = some d := by
  have hl := (List.getElem?_eq_some_iff.mp h).1
  unfold atI ixN
  rw [if_pos (by omega), if_pos (by omega)]
  simpa using h
theorem cix_nat {b : Bool} {xs : List D} {i : Nat} {d : D} (h : xs[i]? = some d) : CIx (.seq b xs) (.int (i : Nat)) d := atI_nat h
theorem rgD_ints (n : Nat) : rgD 0 (n : Nat) = (List.range n).map fun i => D.int (i : Nat) := by
  unfold rgD
  simp
end TL
namespace TL
open PySem PySem.Spec PyProof.Rows L2
def keyOk : Key → Bool
  | .inl _ => true
  | .inr x => PyData.strOk x && decide (x.length ≤ sizeLine)
mutual
/-- plain data: what isinstance may be asked of, all through; sizes -/
def D.ok : D → Bool
  | .non | .bl _ | .int _ => true
  | .str x => PyData.strOk x && decide (x.length ≤ sizeLine)
  | .seq _ xs => decide (xs.length ≤ sizeLine) && D.oks xs
  | .dk ks vs => (decide (ks.length ≤ sizeLine) && (decide ks.Nodup && (decide (vs.length = ks.length) && ks.all keyOk))) && D.oks vs
  | _ => false
def D.oks : List D → Bool
  | [] => true
  | x :: xs => x.ok && D.oks xs
end
theorem oks_iff : ∀ (xs : List D), D.oks xs = xs.all D.ok
  | [] => rfl
  | x :: xs => by rw [D.oks, List.all_cons, oks_iff xs]
theorem ok_seq {b : Bool} {xs : List D} : (D.seq b xs).ok = true ↔ xs.length ≤ sizeLine ∧ ∀ x ∈ xs, x.ok = true := by
  show (decide (xs.length ≤ sizeLine) && D.oks xs) = true ↔ _
  rw [oks_iff, Bool.and_eq_true, decide_eq_true_eq, List.all_eq_true]
theorem ok_dk {ks : List Key} {vs : List D} : (D.dk ks vs).ok = true ↔ (ks.length ≤ sizeLine ∧ ks.Nodup ∧ vs.length = ks.length ∧ ks.all keyOk = true) ∧ ∀ x ∈ vs, x.ok = true := by
  show ((decide (ks.length ≤ sizeLine) && (decide ks.Nodup && (decide (vs.length = ks.length) && ks.all keyOk))) && D.oks vs) = true ↔ _
  rw [oks_iff, Bool.and_eq_true, Bool.and_eq_true, Bool.and_eq_true, Bool.and_eq_true, decide_eq_true_eq, decide_eq_true_eq, decide_eq_true_eq, ← List.all_eq_true (p := D.ok)]
mutual
/-- how deep -/
def D.dpt : D → Nat
  | .seq _ xs => D.dpts xs + 1
  | .dk _ vs => max 1 (D.dpts vs) + 1
  | _ => 0
def D.dpts : List D → Nat
  | [] => 0
  | x :: xs => max x.dpt (D.dpts xs)
end
theorem dpts_le {xs : List D} : ∀ x ∈ xs, x.dpt ≤ D.dpts xs := by
  induction xs with
  | nil => intro x h; cases h
  | cons y xs ih =>
    intro x h
    rcases List.mem_cons.mp h with rfl | h
    · exact Nat.le_max_left _ _
    · exact Nat.le_trans (ih x h) (Nat.le_max_right _ _)
theorem dpts_of {xs : List D} {n : Nat} (h : ∀ x ∈ xs, x.dpt ≤ n) : D.dpts xs ≤ n := by
  induction xs with
  | nil => exact Nat.zero_le _
  | cons y xs ih => exact Nat.max_le.mpr ⟨h y List.mem_cons_self, ih fun x hx => h x (List.mem_cons_of_mem _ hx)⟩
theorem ok_tag {d : D} (h : d.ok = true) : ∃ t, d.tag = some t := by
  cases d with
  | seq b xs => cases b <;> exact ⟨_, rfl⟩
  | dt => cases h
  | ins => cases h
  | _ => exact ⟨_, rfl⟩
def isInt : D → Bool
  | .int _ => true
  | _ => false
def isNum : D → Bool
  | .int i => decide (0 ≤ i)
  | _ => false
def isSeq : D → Bool
  | .seq _ _ => true
  | _ => false
def isDict : D → Bool
  | .dk _ _ => true
  | _ => false
def isBl : D → Bool
  | .bl _ => true
  | _ => false
def isStr : D → Bool
  | .str _ => true
  | _ => false
def isLst : D → Bool
  | .seq false _ => true
  | _ => false
def isTup : D → Bool
  | .seq true _ => true
  | _ => false
theorem ia_int {d : D} {t : String} (e : d.tag = some t) : isAny t ["int"] = (isInt d || isBl d) := by
  cases d with
  | seq b xs => cases b <;> (cases e; simp [isAny, isIn, isInt, isBl, isStr, isLst, isTup, isDict, isSeq])
  | dt => cases e
  | ins => cases e
  | _ => cases e; simp [isAny, isIn, isInt, isBl, isStr, isLst, isTup, isDict, isSeq]
theorem ia_bool {d : D} {t : String} (e : d.tag = some t) : isAny t ["bool"] = isBl d := by
  cases d with
  | seq b xs => cases b <;> (cases e; simp [isAny, isIn, isInt, isBl, isStr, isLst, isTup, isDict, isSeq])
  | dt => cases e
  | ins => cases e
  | _ => cases e; simp [isAny, isIn, isInt, isBl, isStr, isLst, isTup, isDict, isSeq]
theorem ia_str {d : D} {t : String} (e : d.tag = some t) : isAny t ["str"] = isStr d := by
  cases d with
  | seq b xs => cases b <;> (cases e; simp [isAny, isIn, isInt, isBl, isStr, isLst, isTup, isDict, isSeq])
  | dt => cases e
  | ins => cases e
  | _ => cases e; simp [isAny, isIn, isInt, isBl, isStr, isLst, isTup, isDict, isSeq]
theorem ia_list {d : D} {t : String} (e : d.tag = some t) : isAny t ["list"] = isLst d := by
  cases d with
  | seq b xs => cases b <;> (cases e; simp [isAny, isIn, isInt, isBl, isStr, isLst, isTup, isDict, isSeq])
  | dt => cases e
  | ins => cases e
  | _ => cases e; simp [isAny, isIn, isInt, isBl, isStr, isLst, isTup, isDict, isSeq]
theorem ia_tuple {d : D} {t : String} (e : d.tag = some t) : isAny t ["tuple"] = isTup d := by
  cases d with
  | seq b xs => cases b <;> (cases e; simp [isAny, isIn, isInt, isBl, isStr, isLst, isTup, isDict, isSeq])
  | dt => cases e
  | ins => cases e
  | _ => cases e; simp [isAny, isIn, isInt, isBl, isStr, isLst, isTup, isDict, isSeq]
theorem ia_dict {d : D} {t : String} (e : d.tag = some t) : isAny t ["dict"] = isDict d := by
  cases d with
  | seq b xs => cases b <;> (cases e; simp [isAny, isIn, isInt, isBl, isStr, isLst, isTup, isDict, isSeq])
  | dt => cases e
  | ins => cases e
  | _ => cases e; simp [isAny, isIn, isInt, isBl, isStr, isLst, isTup, isDict, isSeq]
theorem ia_seq {d : D} {t : String} (e : d.tag = some t) : isAny t ["list", "tuple"] = isSeq d := by
  cases d with
  | seq b xs => cases b <;> (cases e; simp [isAny, isIn, isInt, isBl, isStr, isLst, isTup, isDict, isSeq])
  | dt => cases e
  | ins => cases e
  | _ => cases e; simp [isAny, isIn, isInt, isBl, isStr, isLst, isTup, isDict, isSeq]
def D.ints : List D → Option (List Int)
  | [] => some []
  | .int i :: xs => (D.ints xs).map (i :: ·)
  | _ :: _ => none
theorem ints_eq : ∀ {xs : List D} {ks : List Int}, D.ints xs = some ks → xs = ks.map .int
  | [], ks, h => by cases h; rfl
  | x :: xs, ks, h => by
    cases x with
    | int i =>
      have h : (D.ints xs).map (i :: ·) = some ks := h
      cases q : D.ints xs with
      | none => rw [q] at h; cases h
      | some l => rw [q] at h; cases h; rw [ints_eq q]; rfl
    | _ => cases h
theorem ints_map : ∀ (ks : List Int), D.ints (ks.map .int) = some ks
  | [] => rfl
  | k :: ks => by show (D.ints (ks.map .int)).map (k :: ·) = _; rw [ints_map ks]; rfl
theorem ints_num : ∀ {xs : List D}, xs.all isNum = true → ∃ ks, D.ints xs = some ks
  | [], _ => ⟨[], rfl⟩
  | x :: xs, h => by
    rw [List.all_cons, Bool.and_eq_true] at h
    obtain ⟨ks, e⟩ := ints_num h.2
    cases x with
    | int i => exact ⟨i :: ks, by show (D.ints xs).map (i :: ·) = _; rw [e]; rfl⟩
    | _ => cases h.1
def iota (n : Nat) : List Int := (List.range n).map Int.ofNat
theorem rgD_iota (n : Nat) : rgD 0 (n : Nat) = (iota n).map .int := by
  rw [rgD_ints, iota, List.map_map]; rfl
theorem eqOk_iota (n : Nat) : (D.seq false ((List.range n).map fun i => D.int (i : Nat))).eqOk = true := by
  rw [← rgD_ints, rgD_iota]; exact eqOk_ints _ _
theorem rgOk_nat {n : Nat} (h : n ≤ sizeLine) : RgOk 0 (n : Nat) := by
  rw [sizeLine_eq] at h
  refine ⟨?_, ?_, ?_, ?_, ?_⟩ <;> omega
/-- the items are the places 0, 1, .. in some order -/
def isMotL (xs : List D) : Bool := match D.ints xs with
  | some ks => xs.all isNum && decide (ks.mergeSort (· ≤ ·) = iota ks.length)
  | none => false
def lenD : D → Nat
  | .seq _ xs => xs.length
  | .str z => z.length
  | .dk ks _ => ks.length
  | _ => 0
def itemsD : D → List D
  | .seq _ xs => xs
  | _ => []
def isMotOf (n : Int) (d : D) : Bool := isSeq d && (decide ((lenD d : Int) = n) && isMotL (itemsD d))
def F_is_integer : Fn
  | [d], Kc => d.ok = true ∧ Kc (.ret (.bl (isInt d)))
  | _, _ => False
def F_is_number : Fn
  | [d], Kc => d.ok = true ∧ Kc (.ret (.bl (isNum d)))
  | _, _ => False
def F_is_list : Fn
  | [d], Kc => d.ok = true ∧ Kc (.ret (.bl (isSeq d)))
  | _, _ => False
def F_check_many (C : Addr) : Fn
  | [d], Kc => (d.ok = true ∧ isFlat d = true) ∧ (isInt d = true ∧ (∀ n, d = .int n → 1 ≤ n) → Kc (.ret .non)) ∧ (¬ (isInt d = true ∧ (∀ n, d = .int n → 1 ≤ n)) → Kc (.exc C ["many"] [d]))
  | _, _ => False
def F_is_motion_of : Fn
  | [many, d], Kc => ∃ n, many = .int n ∧ (-(2 ^ 62) ≤ n ∧ n < 2 ^ 62) ∧ d.ok = true ∧ Kc (.ret (.bl (isMotOf n d)))
  | _, _ => False
def F_is_motion (C : Addr) : Fn
  | [many, d], Kc => ∃ n, many = .int n ∧ (1 ≤ n ∧ n < 2 ^ 62) ∧ d.ok = true ∧ Kc (.ret (.bl (isMotOf n d)))
  | _, _ => False
def F_composed : Fn
  | [a, b], Kc => ∃ (s t : Bool) (ms : List Int) (os : List D), a = .seq s (ms.map .int) ∧ b = .seq t os ∧ ms.length ≤ sizeLine ∧ (∀ m ∈ ms, 0 ≤ m ∧ m < os.length) ∧ (∀ o ∈ os, isFlat o = true) ∧ Kc (.ret (.seq false (ms.map fun m => os.getD m.toNat .non)))
  | _, _ => False
/-- a list of places of as many others as h, not empty -/
def goodM (h m : D) : Bool := (isMotOf (lenD m) m && decide (lenD m ≠ 0)) && decide (lenD m = lenD h)
def wrongM : D → Option Nat
  | .seq _ [] => some 0
  | .seq _ (x :: xs) => (x :: xs).findIdx? fun m => !goodM x m
  | _ => some 0
def optD : Option Nat → D
  | some i => .int (i : Nat)
  | none => .non
def F_wrong_motion (C : Addr) : Fn
  | [d], Kc => d.ok = true ∧ Kc (.ret (optD (wrongM d)))
  | _, _ => False
def F_need_motions (C C2 : Addr) : Fn
  | [d], Kc => d.ok = true ∧ (∀ i, wrongM d = some i → Kc (.exc C2 ["index"] [.int (i : Nat)])) ∧ (wrongM d = none → Kc (.ret .non))
  | _, _ => False
end TL
namespace TL
open PySem PySem.Spec PyProof.Rows L2
local macro_rules | `(tactic| walk_at "sx") => `(tactic| simp only [tgN, tdYes, tdC2, tdNm, tdEx, tdV, tdC, tdRet, tdLc, tdSeqI, tdSeq, tdIfS, tdNext, tdRetN, tdDrop, tdAsg, tdPar, tdTest, tdAnd, tdOr, tdNot, tdAndV, tdOrV, tdNotV, tdIf, tdCons, tdNil, tfNil, tfCons, tdLst, tdTup, tdI0, tdI, tdOp1, tdOp2, tdEqD, tdIsN, tdIn, tdInD, tdB, tdL, tdT, tdL2, tdCallP, tdCallPD, tdCallA, tdCallD, tdCallDA, tdUnp, tgT, tdRng1, tdRng2, tdFor, tdApp, tdSetL, tdDPut, tdPop, tdPopAt, tdExt, tdAug, tdDictK, tdDictT, tdDict, tdDictA, tdDisp1T, tdListA, tdEnumI, tdZipI, tdRaise, tdIsi, tdIndex, tdLstRg1, tdLstRg2, tdTupRg1, tdSlice, tdNoP, tdSoP, tdNeg, tdForK, tdLcK, tdBreak, tdCont, setsR,
  nos, List.replicate, List.map_cons, List.map_nil, List.length_cons, List.length_nil, List.cons_append, List.nil_append, List.set_cons_zero, List.set_cons_succ, List.getElem?_cons_zero, List.getElem?_cons_succ, List.getD_cons_zero, List.getD_cons_succ, wR, List.foldr_cons, List.foldr_nil, dats, cdats, opd_dat, opd_cview, it_sl, it_tm, view_fz, view_ow, view_dp, cview_fz, cview_ow, val_fz, val_ow, val_dp, val_st, D.seq.injEq, D.int.injEq, D.str.injEq, Option.map_some, Option.some.injEq, Prod.mk.injEq, List.cons.injEq, and_true, true_and, exists_eq_left', exists_and_left, exists_eq_left, exists_eq_right, rtP, rtA, rtD, outK, outA, excK, excA, Nat.reduceAdd, Nat.reduceSub, Nat.zero_add, Bool.and_true, Bool.true_and, Bool.false_or, Bool.true_or, Bool.or_true, Bool.or_false, Bool.false_and, Bool.and_false, exists_const, and_self, exists_prop, and_assoc, TL.It.fz.injEq, TL.It.ow.injEq, TL.It.st.injEq, Function.comp_apply, D.bl.injEq, exists_eq', eq_self, reduceCtorEq, false_implies, true_implies, implies_true, forall_const, Bool.not_true, Bool.not_false, Bool.true_eq_false, Bool.false_eq_true, if_false, if_true, Bool.not_eq_true', Bool.not_eq_false', ite_false, ite_true, Bool.not_not, forall_eq, forall_eq'])
/-- is_integer: ['thing'] -/
def t_is_integer (Xc : XC) : TDS :=
  (tdRet (tdAndV (tdIsi ["int"] (tdNm 0)) (tdNotV (tdIsi ["bool"] (tdNm 0)))))
/-- is_number: ['thing'] -/
def t_is_number (Xc : XC) : TDS :=
  (tdRet (tdAndV (tdCallP F_is_integer Xc (tdCons (tdNm 0) tdNil)) (tdI0 (fun i j => .bl (decide (j ≤ i))) (tdNm 0) (tdEx (tdC (.int 0))))))
/-- is_list: ['thing'] -/
def t_is_list (Xc : XC) : TDS :=
  (tdRet (tdIsi ["list", "tuple"] (tdNm 0)))
/-- check_many: ['many'] -/
def t_check_many (C_BadMany : Addr) (Xc : XC) : TDS :=
  (tdIfS (tdOr (tdNot (tdTest (tdCallP F_is_integer Xc (tdCons (tdNm 0) tdNil)))) (tdTest (tdI0 (fun i j => .bl (decide (i < j))) (tdNm 0) (tdEx (tdC (.int 1)))))) (tdRaise C_BadMany "many" Xc (tfCons (tdV 0) tfNil)) tdNext)
/-- is_motion_of: ['many', 'thing', 'goal'] -/
def t_is_motion_of (Xc : XC) : TDS :=
  (tdSeq (tdIfS (tdOr (tdNot (tdTest (tdCallP F_is_list Xc (tdCons (tdNm 1) tdNil)))) (tdOr (tdTest (tdOp2 fNe (tdEx (tdB CLen (tdCons (tdNm 1) tdNil))) (tdNm 0))) (tdNot (tdTest (tdB CAll (tdCons (tdEx (tdLc (tdSeqI (tdV 1)) (tgN 2) tdYes (tdCallP F_is_number (fun _ _ _ _ => False) (tdCons (tdNm 2) tdNil)) [2])) tdNil)))))) (tdRet (tdC (.bl false))) tdNext)
      (tdRet (tdEqD false (tdEx (tdSortedA (tdCons (tdNm 1) tdNil))) (tdEx (tdLstRg1 (tdNm 0))))))
/-- is_motion: ['many', 'thing'] -/
def t_is_motion (C_BadMany : Addr) (Xc : XC) : TDS :=
  (tdSeq (tdDrop (tdCallP (F_check_many C_BadMany) Xc (tdCons (tdNm 0) tdNil)))
      (tdRet (tdCallP F_is_motion_of Xc (tdCons (tdNm 0) (tdCons (tdNm 1) tdNil)))))
/-- composed: ['motion', 'other', 'place'] -/
def t_composed (Xc : XC) : TDS :=
  (tdRet (tdLc (tdSeqI (tdV 0)) (tgN 2) tdYes (tdC2 CIx (tdNm 1) (tdNm 2)) [2]))
/-- wrong_motion: ['motions', 'index', 'motion'] -/
def t_wrong_motion (C_BadMany : Addr) (Xc : XC) : TDS :=
  (tdSeq (tdIfS (tdOr (tdNot (tdTest (tdCallP F_is_list Xc (tdCons (tdNm 0) tdNil)))) (tdTest (tdOp2 fEq (tdEx (tdB CLen (tdCons (tdNm 0) tdNil))) (tdEx (tdC (.int 0)))))) (tdRet (tdC (.int 0))) tdNext)
      (tdSeq (tdFor (tdEnumI (tdV 0)) (tgT [1, 2])
      (tdSeq (tdIfS (tdOr (tdNot (tdTest (tdCallP F_is_list Xc (tdCons (tdNm 2) tdNil)))) (tdOr (tdTest (tdOp2 fEq (tdEx (tdB CLen (tdCons (tdNm 2) tdNil))) (tdEx (tdC (.int 0))))) (tdNot (tdTest (tdCallP (F_is_motion C_BadMany) Xc (tdCons (tdEx (tdB CLen (tdCons (tdNm 2) tdNil))) (tdCons (tdNm 2) tdNil))))))) (tdRet (tdV 1)) tdNext)
      (tdIfS (tdTest (tdOp2 fNe (tdEx (tdB CLen (tdCons (tdNm 2) tdNil))) (tdEx (tdB CLen (tdCons (tdEx (tdC2 CIx (tdNm 0) (tdEx (tdC (.int 0))))) tdNil))))) (tdRet (tdV 1)) tdNext)))
      (tdRet (tdC .non))))
/-- need_motions: ['motions', 'index'] -/
def t_need_motions (C_BadMany C_BadMotions : Addr) (Xc : XC) : TDS :=
  (tdSeq (tdAsg (tdCallP (F_wrong_motion C_BadMany) Xc (tdCons (tdNm 0) tdNil)) 1)
      (tdIfS (tdTest (tdIsN true (tdNm 1))) (tdRaise C_BadMotions "index" Xc (tfCons (tdV 1) tfNil)) tdNext))
theorem vc_is_integer : ∀ ds Kc, F_is_integer ds Kc → t_is_integer (excK Kc) (rtP Kc) (ds.map (.fz false) ++ nos (1 - ds.length)) := by
  intro ds Kc h
  match ds, h with
  | [d], ⟨h1, h2⟩ =>
    obtain ⟨t, e⟩ := ok_tag h1
    unfold t_is_integer
    walk_at "sx"
    simp only [e, Option.some.injEq, exists_eq_left', ia_int e, ia_bool e]
    cases d <;> simp_all [isInt, isBl]
theorem vc_is_number : ∀ ds Kc, F_is_number ds Kc → t_is_number (excK Kc) (rtP Kc) (ds.map (.fz false) ++ nos (1 - ds.length)) := by
  intro ds Kc h
  match ds, h with
  | [d], ⟨h1, h2⟩ =>
    unfold t_is_number
    walk_at "sx"
    simp only [F_is_integer, outK]
    cases d <;> simp_all [isInt, isNum]
theorem vc_is_list : ∀ ds Kc, F_is_list ds Kc → t_is_list (excK Kc) (rtP Kc) (ds.map (.fz false) ++ nos (1 - ds.length)) := by
  intro ds Kc h
  match ds, h with
  | [d], ⟨h1, h2⟩ =>
    obtain ⟨t, e⟩ := ok_tag h1
    unfold t_is_list
    walk_at "sx"
    simp only [e, Option.some.injEq, exists_eq_left', ia_seq e]
    exact h2
theorem vc_check_many (C : Addr) : ∀ ds Kc, F_check_many C ds Kc → t_check_many C (excK Kc) (rtP Kc) (ds.map (.fz false) ++ nos (1 - ds.length)) := by
  intro ds Kc h
  match ds, h with
  | [d], ⟨⟨h1, h0⟩, h2, h3⟩ =>
    unfold t_check_many
    walk_at "sx"
    simp only [F_is_integer, outK]
    cases d <;> simp_all [isInt]
theorem fNe_int (i j : Int) : fNe (.int i) (.int j) = some (.bl (!decide (i = j))) := rfl
theorem fEq_int (i j : Int) : fEq (.int i) (.int j) = some (.bl (decide (i = j))) := rfl
theorem vc_is_motion_of : ∀ ds Kc, F_is_motion_of ds Kc → t_is_motion_of (excK Kc) (rtP Kc) (ds.map (.fz false) ++ nos (3 - ds.length)) := by
  intro ds Kc h
  match ds, h with
  | [_, d], ⟨n, rfl, hn, h1, h2⟩ =>
    unfold t_is_motion_of
    walk_at "sx"
    simp only [F_is_list, outK]
    refine ⟨h1, _, rfl, fun hs => ?_, fun hs => ?_⟩
    · simpa [isMotOf, hs] using h2
    · cases d with
      | seq b xs =>
        obtain ⟨hz, hall⟩ := ok_seq.mp h1
        refine ⟨_, rfl, _, fNe_int _ _, _, rfl, fun hne => ?_, fun heq => ⟨b, xs, rfl, ?_⟩⟩
        · have : ¬ ((xs.length : Int) = n) := by simpa using hne
          simpa [isMotOf, lenD, this] using h2
        · have hlen : (xs.length : Int) = n := by simpa using heq
          refine lc_ds (g := isFlat) (fun x => .bl (isNum x)) true hz (fun x hx Q k => ?_) (fun h a => h _ a) (fun h a => h _ _ a) (fun p => ?_)
          · walk_at "sx"
            simp only [F_is_number, outK]
            refine ⟨hall x hx, k true _ (fun _ => rfl) ?_⟩
            walk_at "sx"
          · walk_at "sx"
            refine ⟨_, ⟨xs.map isNum, by simp, rfl⟩, _, rfl, fun hf => ?_, fun hf => ?_⟩
            · have : xs.all isNum = false := by simpa [List.all_map, Function.comp_def] using hf
              have hm : isMotL xs = false := by
                unfold isMotL
                cases D.ints xs <;> simp [this]
              simpa [isMotOf, lenD, itemsD, isSeq, hm] using h2
            · have hall2 : xs.all isNum = true := by simpa [List.all_map, Function.comp_def] using hf
              obtain ⟨ks, hk⟩ := ints_num hall2
              have ex := ints_eq hk
              subst ex
              refine .inl ?_
              walk_at "sx"
              have hn2 : n = (ks.length : Nat) := by simpa using hlen.symm
              subst hn2
              refine ⟨_, ⟨b, ks, rfl, rfl⟩, rgOk_nat (by simpa using hz), eqOk_ints _ _, by rw [rgD_ints]; exact eqOk_iota _, ?_⟩
              rw [rgD_iota, deq_ints]
              have e : isMotOf (ks.length : Nat) (.seq b (ks.map .int)) = decide (ks.mergeSort (· ≤ ·) = iota ks.length) := by
                simp [isMotOf, lenD, itemsD, isSeq, isMotL, ints_map, hall2]
              rw [e] at h2
              exact h2
      | _ => cases hs
theorem vc_is_motion (C : Addr) : ∀ ds Kc, F_is_motion C ds Kc → t_is_motion C (excK Kc) (rtP Kc) (ds.map (.fz false) ++ nos (2 - ds.length)) := by
  intro ds Kc h
  match ds, h with
  | [_, d], ⟨n, rfl, hn, h1, h2⟩ =>
    unfold t_is_motion
    walk_at "sx"
    simp only [F_is_motion_of, F_check_many, outK]
    refine ⟨⟨rfl, rfl⟩, fun _ => ⟨n, rfl, by omega, h1, h2⟩, fun hc => (hc ⟨rfl, fun m e => by cases e; exact hn.1⟩).elim⟩
theorem vc_need_motions (C C2 : Addr) : ∀ ds Kc, F_need_motions C C2 ds Kc → t_need_motions C C2 (excK Kc) (rtP Kc) (ds.map (.fz false) ++ nos (2 - ds.length)) := by
  intro ds Kc h
  match ds, h with
  | [d], ⟨h1, h2, h3⟩ =>
    unfold t_need_motions
    walk_at "sx"
    simp only [F_wrong_motion, outK]
    refine ⟨h1, ?_⟩
    cases e : wrongM d with
    | none => simpa [optD, D.isNon] using h3 e
    | some i => simpa [optD, D.isNon, isFlat, D.flat] using h2 i e
theorem vc_wrong_motion (C : Addr) : ∀ ds Kc, F_wrong_motion C ds Kc → t_wrong_motion C (excK Kc) (rtP Kc) (ds.map (.fz false) ++ nos (3 - ds.length)) := by
  intro ds Kc h
  match ds, h with
  | [d], ⟨h1, h2⟩ =>
    unfold t_wrong_motion
    walk_at "sx"
    simp only [F_is_list, outK]
    refine ⟨h1, _, rfl, fun hs => ?_, fun hs => ?_⟩
    · cases d with
      | seq b xs => cases hs
      | _ => exact h2
    · cases d with
      | seq b xs =>
        refine ⟨_, rfl, _, fEq_int _ _, _, rfl, fun h0 => ?_, fun h0 => ⟨b, xs, rfl, ?_⟩⟩
        · have : xs = [] := by simpa using h0
          subst this
          exact h2
        · obtain ⟨hz, hall⟩ := ok_seq.mp h1
          cases xs with
          | nil => simp at h0
          | cons x0 xs =>
            have hw : wrongM (.seq b (x0 :: xs)) = (x0 :: xs).findIdx? fun m => !goodM x0 m := rfl
            refine ⟨fun k r => (∃ y z, r = [.fz false (.seq b (x0 :: xs)), y, z]) ∧ ∀ j d, j < k → (x0 :: xs)[j]? = some d → goodM x0 d = true, ⟨⟨_, _, rfl⟩, fun j d hj => by omega⟩, ?_, ?_⟩
            · rintro k x _ hx ⟨⟨y, z, rfl⟩, hI⟩
              rw [List.getElem?_mapIdx] at hx
              cases hd : (x0 :: xs)[k]? with
              | none => rw [hd] at hx; cases hx
              | some d =>
                rw [hd] at hx
                cases hx
                have hok := hall d (List.mem_of_getElem? hd)
                walk_at "sx"
                simp only [F_is_list, F_is_motion, outK]
                have fl : (isFlat d || isFlat (D.int (k : Nat)) || isFlat (D.int (k : Nat))) = true := by simp [isFlat, D.flat]
                have bad : goodM x0 d = false → Kc (.ret (.int (k : Nat))) := fun hb => by
                  have : wrongM (.seq b (x0 :: xs)) = some k := by
                    rw [hw, List.findIdx?_eq_some_iff_getElem]
                    obtain ⟨hlt, he⟩ := List.getElem?_eq_some_iff.mp hd
                    refine ⟨hlt, by rw [he]; simp [hb], fun j hj => ?_⟩
                    simp [hI j _ hj (List.getElem?_eq_getElem (by omega))]
                  rw [this] at h2
                  exact h2
                refine ⟨hok, _, rfl, fun hs2 => ⟨fl, bad (by simp [goodM, isMotOf, hs2])⟩, fun hs2 => ?_⟩
                cases d with
                | seq c ys =>
                  have hys := (ok_seq.mp hok).1
                  refine ⟨_, rfl, _, fEq_int _ _, _, rfl, fun h0 => ⟨fl, bad ?_⟩, fun h0b => ⟨_, rfl, _, rfl, ⟨?_, ?_⟩, hok, _, rfl, fun hm => ⟨fl, bad ?_⟩, fun hm => ?_⟩⟩
                  · have : ys.length = 0 := by simpa using h0
                    simp [goodM, lenD, this]
                  · have : ¬ ((ys.length : Int) = 0) := of_decide_eq_false h0b
                    omega
                  · rw [sizeLine_eq] at hys; omega
                  · have hm : isMotOf (lenD (D.seq c ys)) (D.seq c ys) = false := hm
                    simp [goodM, hm]
                  · -- the first is a list by now
                    have first : ∃ b0 zs, x0 = .seq b0 zs := by
                      by_cases hk : k = 0
                      · subst hk
                        have : x0 = .seq c ys := by simpa using hd
                        exact ⟨c, ys, this⟩
                      · have g0 := hI 0 x0 (by omega) rfl
                        cases x0 with
                        | seq b0 zs => exact ⟨b0, zs, rfl⟩
                        | _ => simp [goodM, isMotOf, isSeq] at g0
                    obtain ⟨b0, zs, rfl⟩ := first
                    refine ⟨_, rfl, .seq b0 zs, cix_nat (i := 0) rfl, _, rfl, _, fNe_int _ _, _, rfl, fun hne => ⟨fl, bad ?_⟩, fun heq => ?_⟩
                    · have : ¬ ys.length = zs.length := by
                        have : ¬ ((ys.length : Int) = zs.length) := by simpa using hne
                        omega
                      simp [goodM, lenD, this]
                    · intro j d' hj hd'
                      by_cases hjk : j = k
                      · subst hjk
                        rw [hd] at hd'
                        cases hd'
                        have e1 : (ys.length : Int) = zs.length := by simpa using heq
                        have e1 : ys.length = zs.length := by omega
                        have e2 : ¬ ((ys.length : Int) = 0) := of_decide_eq_false h0b
                        have e2 : ¬ ys.length = 0 := by omega
                        have hm : isMotOf (ys.length : Nat) (D.seq c ys) = true := hm
                        unfold goodM
                        rw [show isMotOf (lenD (D.seq c ys) : Nat) (D.seq c ys) = true from hm]
                        simp only [lenD, e1, decide_true, Bool.and_true, Bool.true_and, decide_eq_true_eq]
                        rw [← e1]; exact e2
                      · exact hI j d' (by omega) hd'
                | _ => cases hs2
            · rintro _ ⟨⟨y, z, rfl⟩, hI⟩
              have : wrongM (.seq b (x0 :: xs)) = none := by
                rw [hw, List.findIdx?_eq_none_iff]
                intro d hd
                obtain ⟨j, hj⟩ := List.getElem?_of_mem hd
                simp [hI j d (by simpa using (List.getElem?_eq_some_iff.mp hj).1) hj]
              rw [this] at h2
              walk_at "sx"
              exact h2
      | _ => cases hs
end TL
namespace TL
abbrev Wd := List Int
def mulW (x g : Wd) : Wd := x.map fun i => g.getD i.toNat 0
theorem mem_iota {n : Nat} {i : Int} : i ∈ iota n ↔ 0 ≤ i ∧ i < n := by
  unfold iota
  rw [List.mem_map]
  constructor
  · rintro ⟨j, hj, rfl⟩
    have := List.mem_range.mp hj
    exact ⟨Int.natCast_nonneg j, by show (j : Int) < n; omega⟩
  · rintro ⟨h1, h2⟩
    exact ⟨i.toNat, List.mem_range.mpr (by omega), by show ((i.toNat : Nat) : Int) = i; omega⟩
theorem length_iota {n : Nat} : (iota n).length = n := by simp [iota]
theorem iota_get {n i : Nat} (h : i < n) : (iota n)[i]? = some (i : Int) := by simp [iota, h]
theorem nodup_iota {n : Nat} : (iota n).Nodup := by
  unfold iota
  rw [List.Nodup, List.pairwise_map]
  exact (List.nodup_range (n := n)).imp fun h e => h (Int.ofNat.inj e)
/-- nodup lists and pigeon holes -/
theorem nodup_le {α : Type} [DecidableEq α] : ∀ {l m : List α}, l.Nodup → (∀ a ∈ l, a ∈ m) → l.length ≤ m.length
  | [], m, _, _ => Nat.zero_le _
  | a :: l, m, h, s => by
    have ha := s a List.mem_cons_self
    have hn := List.nodup_cons.mp h
    have := nodup_le (l := l) (m := m.erase a) hn.2 fun b hb => by
      have : b ≠ a := fun e => hn.1 (e ▸ hb)
      exact (List.mem_erase_of_ne this).mpr (s b (List.mem_cons_of_mem _ hb))
    rw [List.length_erase_of_mem ha] at this
    have : 0 < m.length := List.length_pos_of_mem ha
    simp; omega
theorem pigeon {α : Type} [DecidableEq α] {l m : List α} (h : l.Nodup) (s : ∀ a ∈ l, a ∈ m) (z : m.length ≤ l.length) : ∀ a ∈ m, a ∈ l := fun a ha => by
  apply Classical.byContradiction
  intro hn
  have := nodup_le (l := a :: l) (m := m) (List.nodup_cons.mpr ⟨hn, h⟩) fun b hb => by
    rcases List.mem_cons.mp hb with rfl | hb
    · exact ha
    · exact s b hb
  simp at this; omega
structure IsP (n : Nat) (x : Wd) : Prop where
  len : x.length = n
  bd : ∀ i ∈ x, 0 ≤ i ∧ i < n
  nd : x.Nodup
theorem IsP.iota {n : Nat} : IsP n (iota n) := ⟨length_iota, fun i h => mem_iota.mp h, nodup_iota⟩
theorem IsP.perm {n : Nat} {x : Wd} (h : IsP n x) : x.Perm (TL.iota n) := by
  refine (List.perm_ext_iff_of_nodup h.nd nodup_iota).mpr fun a => ⟨fun ha => mem_iota.mpr (h.bd a ha), fun ha => ?_⟩
  exact pigeon h.nd (fun b hb => mem_iota.mpr (h.bd b hb)) (by rw [length_iota, h.len]; exact Nat.le_refl _) a ha
theorem IsP.of_perm {n : Nat} {x : Wd} (h : x.Perm (TL.iota n)) : IsP n x :=
  ⟨by rw [h.length_eq, length_iota], fun i hi => mem_iota.mp (h.mem_iff.mp hi), h.symm.nodup nodup_iota⟩
theorem IsP.has {n : Nat} {x : Wd} (h : IsP n x) {i : Int} (h0 : 0 ≤ i) (h1 : i < n) : i ∈ x := h.perm.mem_iff.mpr (mem_iota.mpr ⟨h0, h1⟩)
theorem getD_of {x : Wd} {i : Nat} {v : Int} (h : x[i]? = some v) : x.getD i 0 = v := by rw [List.getD_eq_getElem?_getD, h]; rfl
theorem IsP.get {n : Nat} {x : Wd} (h : IsP n x) {i : Int} (h0 : 0 ≤ i) (h1 : i < n) : x[i.toNat]? = some (x.getD i.toNat 0) ∧ 0 ≤ x.getD i.toNat 0 ∧ x.getD i.toNat 0 < n := by
  have hl : i.toNat < x.length := by rw [h.len]; omega
  have e : x[i.toNat]? = some x[i.toNat] := List.getElem?_eq_getElem hl
  rw [getD_of e]
  exact ⟨e, h.bd _ (List.getElem_mem hl)⟩
theorem nodup_get {x : Wd} (h : x.Nodup) {i j : Nat} {v : Int} (hi : x[i]? = some v) (hj : x[j]? = some v) : i = j := by
  obtain ⟨h1, e1⟩ := List.getElem?_eq_some_iff.mp hi
  obtain ⟨h2, e2⟩ := List.getElem?_eq_some_iff.mp hj
  exact (List.getElem_inj (h₀ := h1) (h₁ := h2) h).mp (e1.trans e2.symm)
theorem nodup_map {α β : Type} {f : α → β} : ∀ {l : List α}, l.Nodup → (∀ a ∈ l, ∀ b ∈ l, f a = f b → a = b) → (l.map f).Nodup
  | [], _, _ => List.nodup_nil
  | a :: l, h, inj => by
    have hn := List.nodup_cons.mp h
    rw [List.map_cons, List.nodup_cons]
    refine ⟨fun hm => ?_, nodup_map hn.2 fun b hb c hc => inj b (List.mem_cons_of_mem _ hb) c (List.mem_cons_of_mem _ hc)⟩
    obtain ⟨b, hb, e⟩ := List.mem_map.mp hm
    have := inj b (List.mem_cons_of_mem _ hb) a List.mem_cons_self e
    subst this
    exact hn.1 hb
theorem IsP.mul {n : Nat} {x g : Wd} (hx : IsP n x) (hg : IsP n g) : IsP n (mulW x g) := by
  refine ⟨by simp [mulW, hx.len], fun i hi => ?_, ?_⟩
  · obtain ⟨j, hj, rfl⟩ := List.mem_map.mp hi
    obtain ⟨h0, h1⟩ := hx.bd j hj
    exact (hg.get h0 h1).2
  · refine nodup_map hx.nd fun a ha b hb e => ?_
    obtain ⟨a0, a1⟩ := hx.bd a ha
    obtain ⟨b0, b1⟩ := hx.bd b hb
    have e : g.getD a.toNat 0 = g.getD b.toNat 0 := e
    have := nodup_get hg.nd (hg.get a0 a1).1 (by rw [e]; exact (hg.get b0 b1).1)
    omega
theorem mul_assoc {n : Nat} {x y z : Wd} (hx : IsP n x) (hy : IsP n y) : mulW (mulW x y) z = mulW x (mulW y z) := by
  unfold mulW
  rw [List.map_map]
  apply List.map_congr_left
  intro i hi
  obtain ⟨h0, h1⟩ := hx.bd i hi
  show z.getD (y.getD i.toNat 0).toNat 0 = (y.map fun i => z.getD i.toNat 0).getD i.toNat 0
  have e : (y.map fun i => z.getD i.toNat 0)[i.toNat]? = some (z.getD (y.getD i.toNat 0).toNat 0) := by
    rw [List.getElem?_map, (hy.get h0 h1).1]; rfl
  exact (getD_of e).symm
theorem iota_getD {n : Nat} {i : Int} (h0 : 0 ≤ i) (h1 : i < n) : (iota n).getD i.toNat 0 = i := by
  rw [getD_of (iota_get (by omega))]; omega
theorem mul_one {n : Nat} {x : Wd} (hx : IsP n x) : mulW x (iota n) = x := by
  unfold mulW
  have : x.map (fun i => (iota n).getD i.toNat 0) = x.map id := List.map_congr_left fun i hi => iota_getD (hx.bd i hi).1 (hx.bd i hi).2
  rw [this, List.map_id]
theorem one_mul {n : Nat} {x : Wd} (hx : IsP n x) : mulW (iota n) x = x := by
  apply List.ext_getElem?
  intro i
  unfold mulW
  rw [List.getElem?_map]
  by_cases h : i < n
  · rw [iota_get h]
    have := (hx.get (i := (i : Int)) (by omega) (by omega)).1
    simp only [Int.toNat_natCast] at this
    rw [this]; rfl
  · rw [List.getElem?_eq_none (by rw [length_iota]; omega), List.getElem?_eq_none (by rw [hx.len]; omega)]; rfl
/-- the back of a motion -/
def backW (x : Wd) : Wd := (List.range x.length).map fun p : Nat => ((x.idxOf (p : Int) : Nat) : Int)
theorem idxOf_get {x : Wd} {v : Int} (h : v ∈ x) : x[x.idxOf v]? = some v := by
  have hl := List.idxOf_lt_length_of_mem h
  rw [List.getElem?_eq_getElem hl, List.getElem_idxOf hl]
theorem IsP.back {n : Nat} {x : Wd} (hx : IsP n x) : IsP n (backW x) := by
  refine ⟨by simp [backW, hx.len], fun i hi => ?_, ?_⟩
  · obtain ⟨p, hp, rfl⟩ := List.mem_map.mp hi
    have hp := List.mem_range.mp hp
    rw [hx.len] at hp
    have := List.idxOf_lt_length_of_mem (hx.has (i := (p : Int)) (by omega) (by omega))
    rw [hx.len] at this
    omega
  · refine nodup_map List.nodup_range fun a ha b hb e => ?_
    have ha := List.mem_range.mp ha
    have hb := List.mem_range.mp hb
    rw [hx.len] at ha hb
    have e : x.idxOf (a : Int) = x.idxOf (b : Int) := by
      have : ((x.idxOf (a : Int) : Nat) : Int) = ((x.idxOf (b : Int) : Nat) : Int) := e
      omega
    have h1 := idxOf_get (hx.has (i := (a : Int)) (by omega) (by omega))
    have h2 := idxOf_get (hx.has (i := (b : Int)) (by omega) (by omega))
    rw [e, h2] at h1
    have := Option.some.inj h1
    omega
theorem mul_back {n : Nat} {x : Wd} (hx : IsP n x) : mulW x (backW x) = iota n := by
  apply List.ext_getElem?
  intro i
  unfold mulW
  rw [List.getElem?_map]
  by_cases h : i < n
  · rw [iota_get h]
    have hg := (hx.get (i := (i : Int)) (by omega) (by omega))
    simp only [Int.toNat_natCast] at hg
    rw [hg.1]
    show some ((backW x).getD (x.getD i 0).toNat 0) = some (i : Int)
    congr 1
    have hl : (x.getD i 0).toNat < x.length := by rw [hx.len]; omega
    have e1 : (backW x)[(x.getD i 0).toNat]? = some ((x.idxOf (((x.getD i 0).toNat : Nat) : Int) : Nat) : Int) := by
      unfold backW
      rw [List.getElem?_map, List.getElem?_range hl]; rfl
    rw [getD_of e1]
    have e2 : (((x.getD i 0).toNat : Nat) : Int) = x.getD i 0 := by omega
    rw [e2]
    have e3 := idxOf_get (x := x) (v := x.getD i 0) (List.mem_of_getElem? hg.1)
    have := nodup_get hx.nd e3 hg.1
    omega
  · rw [List.getElem?_eq_none (by rw [hx.len]; omega), List.getElem?_eq_none (by rw [length_iota]; omega)]; rfl
theorem back_mul {n : Nat} {x : Wd} (hx : IsP n x) : mulW (backW x) x = iota n := by
  unfold mulW backW
  rw [List.map_map, hx.len]
  unfold iota
  apply List.map_congr_left
  intro p hp
  have hp := List.mem_range.mp hp
  show x.getD ((x.idxOf (p : Int) : Nat) : Int).toNat 0 = (p : Int)
  rw [Int.toNat_natCast, getD_of (idxOf_get (hx.has (i := (p : Int)) (by omega) (by omega)))]
theorem back_unique {n : Nat} {x y : Wd} (hx : IsP n x) (hy : IsP n y) (h : mulW x y = iota n) : y = backW x := by
  have := mul_assoc (z := y) hx.back hx
  rw [h, back_mul hx, one_mul hy, mul_one hx.back] at this
  exact this
theorem mul_inj {n : Nat} {x y z : Wd} (hx : IsP n x) (hy : IsP n y) (hz : IsP n z) (h : mulW x y = mulW x z) : y = z := by
  have h1 := mul_assoc (z := y) hx.back hx
  have h2 := mul_assoc (z := z) hx.back hx
  rw [back_mul hx, one_mul hy] at h1
  rw [back_mul hx, one_mul hz] at h2
  rw [h1, h2, h]
/-- what is reached from nothing -/
inductive Reach (n : Nat) (gs : List Wd) : Wd → Prop
  | one : Reach n gs (iota n)
  | mul {x g : Wd} : Reach n gs x → g ∈ gs → Reach n gs (mulW x g)
section
variable {n : Nat} {gs : List Wd}
theorem Reach.isP (hg : ∀ g ∈ gs, IsP n g) {x : Wd} (h : Reach n gs x) : IsP n x := by
  induction h with
  | one => exact .iota
  | mul _ hm ih => exact ih.mul (hg _ hm)
theorem Reach.prod (hg : ∀ g ∈ gs, IsP n g) {x y : Wd} (hx : Reach n gs x) (hy : Reach n gs y) : Reach n gs (mulW x y) := by
  induction hy with
  | one => rw [mul_one (hx.isP hg)]; exact hx
  | mul h hm ih =>
    rw [← mul_assoc (hx.isP hg) (h.isP hg)]
    exact .mul ih hm
structure IsReach (n : Nat) (gs : List Wd) (R : List Wd) : Prop where
  nd : R.Nodup
  iff : ∀ x, x ∈ R ↔ Reach n gs x
theorem IsReach.back (hg : ∀ g ∈ gs, IsP n g) {R : List Wd} (h : IsReach n gs R) {x : Wd} (hx : x ∈ R) : backW x ∈ R := by
  have rx := (h.iff x).mp hx
  have px := rx.isP hg
  have : ∀ a ∈ R, a ∈ R.map (mulW x) := by
    refine pigeon (l := R.map (mulW x)) (nodup_map h.nd fun a ha b hb e => mul_inj px (((h.iff a).mp ha).isP hg) (((h.iff b).mp hb).isP hg) e) (fun a ha => ?_) (by simp)
    obtain ⟨y, hy, rfl⟩ := List.mem_map.mp ha
    exact (h.iff _).mpr (rx.prod hg ((h.iff y).mp hy))
  obtain ⟨y, hy, e⟩ := List.mem_map.mp (this (iota n) ((h.iff _).mpr .one))
  rw [← back_unique px (((h.iff y).mp hy).isP hg) e]
  exact hy
theorem IsReach.perm {R S : List Wd} (h : IsReach n gs R) (h' : IsReach n gs S) : R.Perm S :=
  (List.perm_ext_iff_of_nodup h.nd h'.nd).mpr fun a => (h.iff a).trans (h'.iff a).symm
theorem IsReach.sort {R S : List Wd} (h : IsReach n gs R) (h' : IsReach n gs S) : sortT R = sortT S :=
  sortT_unique ((List.mergeSort_perm R lexLe).trans (h.perm h')) (sortT_sorted R)
end
/-- all words of places -/
def allW (n : Nat) : Nat → List Wd
  | 0 => [[]]
  | m + 1 => (allW n m).flatMap fun w => (iota n).map fun i => i :: w
theorem allW_len (n : Nat) : ∀ m, (allW n m).length = n ^ m
  | 0 => rfl
  | m + 1 => by
    have : ∀ l : List Wd, (l.flatMap fun w => (iota n).map fun i => i :: w).length = l.length * n := by
      intro l
      induction l with
      | nil => simp
      | cons a l ih => rw [List.flatMap_cons, List.length_append, ih, List.length_map, length_iota, List.length_cons, Nat.succ_mul, Nat.add_comm]
    show ((allW n m).flatMap _).length = _
    rw [this, allW_len n m, Nat.pow_succ]
theorem allW_mem {n : Nat} : ∀ {x : Wd}, (∀ i ∈ x, 0 ≤ i ∧ i < n) → x ∈ allW n x.length
  | [], _ => by simp [allW]
  | i :: x, h => by
    show i :: x ∈ (allW n x.length).flatMap _
    rw [List.mem_flatMap]
    exact ⟨x, allW_mem fun j hj => h j (List.mem_cons_of_mem _ hj), List.mem_map.mpr ⟨i, mem_iota.mpr (h i List.mem_cons_self), rfl⟩⟩
theorem few {n : Nat} {R : List Wd} (h : R.Nodup) (hp : ∀ x ∈ R, IsP n x) : R.length ≤ n ^ n := by
  rw [← allW_len n n]
  refine nodup_le h fun x hx => ?_
  have := allW_mem (n := n) (x := x) (hp x hx).bd
  rw [(hp x hx).len] at this
  exact this
end TL
namespace TL
open PySem PySem.Spec PyProof.Rows L2
/-- a motion as a list or a tuple -/
abbrev gD (p : Bool × Wd) : D := .seq p.1 (p.2.map .int)
def keyW (w : Wd) : List Key := w.map Sum.inl
theorem keyT_tup (w : Wd) : (tupD w).keyT = some (keyW w) := by
  show (w.map D.int).mapM D.keyI = _
  induction w with
  | nil => rfl
  | cons i w ih =>
    rw [List.map_cons, List.mapM_cons, ih]; rfl
theorem keyW_inj {a b : Wd} (h : keyW a = keyW b) : a = b := by
  induction a generalizing b with
  | nil => cases b with
    | nil => rfl
    | cons _ _ => cases h
  | cons x a ih =>
    cases b with
    | nil => cases h
    | cons y b =>
      simp only [keyW, List.map_cons, List.cons.injEq, Sum.inl.injEq] at h
      rw [h.1, ih h.2]
theorem hasK_W (S : List Wd) (w : Wd) : hasK (keyW w) (S.map keyW) = decide (w ∈ S) := by
  unfold hasK
  induction S with
  | nil => simp
  | cons x S ih =>
    rw [List.map_cons, List.any_cons, ih]
    by_cases h : w = x
    · subst h; simp
    · have : ¬ keyW x = keyW w := fun e => h (keyW_inj e).symm
      simp [h, this]
theorem in_seen (S : List Wd) (w : Wd) (vs : List D) : inD (tupD w) (.dt (S.map keyW) vs) = some (decide (w ∈ S)) := by
  show (tupD w).keyT.map _ = _
  rw [keyT_tup, Option.map_some, hasK_W]
theorem put_seen {S : List Wd} {w : Wd} (h : w ∉ S) : dputI (.dt (S.map keyW) (S.map fun _ => D.bl true)) (tupD w) (.bl true) = some (.dt ((S ++ [w]).map keyW) ((S ++ [w]).map fun _ => .bl true)) := by
  have hk : hasK (keyW w) (S.map keyW) = false := by rw [hasK_W]; simpa using h
  show (tupD w).keyT.map _ = _
  rw [keyT_tup, Option.map_some]
  congr 2
  · unfold dputK; rw [hk]; simp
  · unfold dputV; rw [hk]; simp
theorem keyD_W (w : Wd) : (keyW w).map keyD = w.map .int := by
  unfold keyW
  rw [List.map_map]; rfl
theorem keys_seen (S : List Wd) (vs : List D) : (D.dt (S.map keyW) vs).items = some (S.map tupD) := by
  show some _ = some _
  rw [List.map_map]
  congr 1
  apply List.map_congr_left
  intro w _
  show D.seq true ((keyW w).map keyD) = _
  rw [keyD_W]
theorem good_of {n : Nat} {b : Bool} {g : Wd} (h : IsP n g) : isMotOf (n : Nat) (.seq b (g.map .int)) = true := by
  have e : D.ints (g.map .int) = some g := ints_map g
  have hp := h.perm
  have hs : g.mergeSort (· ≤ ·) = iota g.length := by
    refine sorted_unique ((List.mergeSort_perm g _).trans (by rw [h.len]; exact hp)) ?_ ?_
    · have := List.pairwise_mergeSort (le := fun (a b : Int) => decide (a ≤ b)) (fun a b c h h' => by simp only [decide_eq_true_eq] at *; omega) (fun a b => by simp only [Bool.or_eq_true, decide_eq_true_eq]; omega) g
      exact this.imp fun h => of_decide_eq_true h
    · unfold iota
      rw [List.pairwise_map]
      refine List.pairwise_lt_range.imp fun h => ?_
      exact Int.ofNat_le.mpr (Nat.le_of_lt h)
  have hn : (g.map D.int).all isNum = true := by
    rw [List.all_map, List.all_eq_true]
    intro i hi
    show decide (0 ≤ i) = true
    simpa using (h.bd i hi).1
  simp [isMotOf, isSeq, lenD, itemsD, isMotL, e, hn, hs, h.len]
theorem wrong_none {n : Nat} (hn : 1 ≤ n) {b : Bool} {gs : List (Bool × Wd)} (h0 : gs ≠ []) (h : ∀ p ∈ gs, IsP n p.2) : wrongM (.seq b (gs.map gD)) = none := by
  cases gs with
  | nil => exact absurd rfl h0
  | cons p gs =>
    show (List.findIdx? (fun m => !goodM (gD p) m) (gD p :: gs.map gD)) = none
    rw [List.findIdx?_eq_none_iff]
    intro m hm
    have hm : m ∈ (p :: gs).map gD := hm
    obtain ⟨q, hq, rfl⟩ := List.mem_map.mp hm
    have hq' := h q hq
    have hp' := h p List.mem_cons_self
    have e1 : lenD (gD q) = n := by show (q.2.map D.int).length = n; rw [List.length_map, hq'.len]
    have e2 : lenD (gD p) = n := by show (p.2.map D.int).length = n; rw [List.length_map, hp'.len]
    unfold goodM
    rw [e1, e2, good_of hq']
    simp; omega
theorem ok_ints (b : Bool) {w : Wd} (h : w.length ≤ sizeLine) : (D.seq b (w.map .int)).ok = true := by
  rw [ok_seq]
  refine ⟨by simpa using h, fun x hx => ?_⟩
  obtain ⟨i, _, rfl⟩ := List.mem_map.mp hx
  rfl
theorem ok_gens {n : Nat} (hn : n ≤ 7) {b : Bool} {gs : List (Bool × Wd)} (hl : gs.length ≤ sizeLine) (h : ∀ p ∈ gs, IsP n p.2) : (D.seq b (gs.map gD)).ok = true := by
  rw [ok_seq]
  refine ⟨by simpa using hl, fun x hx => ?_⟩
  obtain ⟨p, hp, rfl⟩ := List.mem_map.mp hx
  exact ok_ints _ (by rw [(h p hp).len, sizeLine_eq]; omega)
def seenD (R : List Wd) : D := .dt (R.map keyW) (R.map fun _ => .bl true)
/-- generators -/
def Gens (d : D) (n : Nat) (gs : List Wd) : Prop := ∃ (b : Bool) (ps : List (Bool × Wd)), d = .seq b (ps.map gD) ∧ ps.map (·.2) = gs ∧ ps ≠ [] ∧ (1 ≤ n ∧ n ≤ 7) ∧ ps.length ≤ sizeLine ∧ ∀ p ∈ ps, IsP n p.2
def F_all_reached (C C2 : Addr) : Fn
  | [d], Kc => (d.ok = true ∧ ∃ i, wrongM d = some i ∧ Kc (.exc C2 ["index"] [.int (i : Nat)])) ∨ (∃ n gs, Gens d n gs ∧ ∀ R, IsReach n gs R → Kc (.ret (.seq false ((sortT R).map inL))))
  | _, _ => False
def F_law_all_reached : Fn
  | [d], Kc => ∃ n gs, Gens d n gs ∧ ∀ R, IsReach n gs R → Kc (.ret (seenD R))
  | _, _ => False
def F_law_then : Fn
  | [a, b], Kc => ∃ (n : Nat) (x y : Wd), a = inL x ∧ b = inL y ∧ IsP n x ∧ IsP n y ∧ n ≤ sizeLine ∧ Kc (.ret (inL (mulW x y)))
  | _, _ => False
def F_law_back : Fn
  | [a], Kc => ∃ (n : Nat) (x : Wd), a = inL x ∧ IsP n x ∧ n ≤ sizeLine ∧ Kc (.ret (inL (backW x)))
  | _, _ => False
/-- while the places are gone through -/
structure Seen (n : Nat) (gs S L : List Wd) (x : Option Wd) (m : Nat) : Prop where
  nd : S.Nodup
  re : ∀ y ∈ S, Reach n gs y
  one : iota n ∈ S
  sub : ∀ y ∈ L, y ∈ S
  le : L.length ≤ S.length
  cl : ∀ y ∈ S, y ∈ L ∨ some y = x ∨ ∀ g ∈ gs, mulW y g ∈ S
  ms : 2 * (n ^ n - S.length) + L.length ≤ m
theorem Seen.fin {n : Nat} {gs S : List Wd} {m : Nat} (h : Seen n gs S [] none m) : IsReach n gs S := by
  refine ⟨h.nd, fun y => ⟨h.re y, fun hy => ?_⟩⟩
  induction hy with
  | one => exact h.one
  | mul hx hg ih =>
    rcases h.cl _ ih with z | z | z
    · cases z
    · cases z
    · exact z _ hg
theorem pow_le {n : Nat} (h : n ≤ 7) : n ^ n < sizeLine := by
  rw [sizeLine_eq]
  match n, h with
  | 0, _ | 1, _ | 2, _ | 3, _ | 4, _ | 5, _ | 6, _ | 7, _ => decide
theorem Seen.start {n : Nat} {gs : List Wd} : Seen n gs [iota n] [iota n] none (2 * n ^ n + 1) :=
  ⟨by simp, fun y hy => by rw [List.mem_singleton.mp hy]; exact .one, by simp, fun y hy => hy, Nat.le_refl _, fun y hy => .inl hy, by simp; omega⟩
theorem Seen.pop {n : Nat} {gs S L : List Wd} {x : Wd} {m : Nat} (h : Seen n gs S (L ++ [x]) none m) : x ∈ S ∧ 1 ≤ m ∧ Seen n gs S L (some x) (m - 1) := by
  have h1 := h.ms
  have h2 := h.le
  simp at h1 h2
  refine ⟨h.sub x (by simp), by omega, h.nd, h.re, h.one, fun y hy => h.sub y (by simp [hy]), by omega, fun y hy => ?_, by omega⟩
  rcases h.cl y hy with z | z | z
  · rcases List.mem_append.mp z with z | z
    · exact .inl z
    · exact .inr (.inl (by rw [List.mem_singleton.mp z]))
  · cases z
  · exact .inr (.inr z)
theorem Seen.add {n : Nat} {gs S L : List Wd} {x g : Wd} {m : Nat} (hg : ∀ g ∈ gs, IsP n g) (h : Seen n gs S L (some x) m) (hx : x ∈ S) (hm : g ∈ gs) (hn : mulW x g ∉ S) : Seen n gs (S ++ [mulW x g]) (L ++ [mulW x g]) (some x) m := by
  have re : ∀ y ∈ S ++ [mulW x g], Reach n gs y := fun y hy => by
    rcases List.mem_append.mp hy with z | z
    · exact h.re y z
    · rw [List.mem_singleton.mp z]; exact .mul (h.re x hx) hm
  have nd : (S ++ [mulW x g]).Nodup := by
    rw [List.nodup_append]
    refine ⟨h.nd, by simp, fun a ha b hb e => ?_⟩
    rw [List.mem_singleton.mp hb] at e
    exact hn (e ▸ ha)
  have hf := few nd fun y hy => (re y hy).isP hg
  have h1 := h.ms
  have h2 := h.le
  simp at hf
  refine ⟨nd, re, by simp [h.one], fun y hy => ?_, by simp; omega, fun y hy => ?_, by simp; omega⟩
  · rcases List.mem_append.mp hy with z | z
    · simp [h.sub y z]
    · simp [List.mem_singleton.mp z]
  · rcases List.mem_append.mp hy with z | z
    · rcases h.cl y z with w | w | w
      · exact .inl (by simp [w])
      · exact .inr (.inl w)
      · exact .inr (.inr fun g' hg' => by simp [w g' hg'])
    · exact .inl (by simp [List.mem_singleton.mp z])
theorem Seen.next {n : Nat} {gs S L : List Wd} {x : Wd} {m : Nat} (h : Seen n gs S L (some x) m) (ha : ∀ g ∈ gs, mulW x g ∈ S) : Seen n gs S L none m :=
  ⟨h.nd, h.re, h.one, h.sub, h.le, fun y hy => by
    rcases h.cl y hy with w | w | w
    · exact .inl w
    · cases w; exact .inr (.inr ha)
    · exact .inr (.inr w), h.ms⟩
theorem Seen.room {n : Nat} {gs S L : List Wd} {x : Option Wd} {m : Nat} (hn : n ≤ 7) (hg : ∀ g ∈ gs, IsP n g) (h : Seen n gs S L x m) : S.length < sizeLine ∧ L.length < sizeLine := by
  have := few h.nd fun y hy => (h.re y hy).isP hg
  have h1 := h.le
  have := pow_le hn
  omega
theorem tup_mul {n : Nat} {x g : Wd} : tupD (mulW x g) = .seq true (x.map fun i => .int (g.getD i.toNat 0)) := by
  show D.seq true ((x.map fun i => g.getD i.toNat 0).map D.int) = _
  rw [List.map_map]; rfl
theorem len2 {α : Type} {l : List α} (h : l.length = 2) : ∃ a b, l = [a, b] := by
  cases l with
  | nil => cases h
  | cons a l => cases l with
    | nil => cases h
    | cons b l => cases l with
      | nil => exact ⟨a, b, rfl⟩
      | cons c l => simp at h
theorem len3 {α : Type} {l : List α} (h : l.length = 3) : ∃ a b c, l = [a, b, c] := by
  cases l with
  | nil => cases h
  | cons a l =>
    obtain ⟨b, c, rfl⟩ := len2 (l := l) (by simpa using h)
    exact ⟨a, b, c, rfl⟩
end TL
namespace TL
open PySem PySem.Spec PyProof.Rows L2
local macro_rules | `(tactic| walk_at "sx") => `(tactic| simp only [tgN, tdYes, tdC2, tdNm, tdEx, tdV, tdC, tdRet, tdLc, tdSeqI, tdSeq, tdIfS, tdNext, tdRetN, tdDrop, tdAsg, tdPar, tdTest, tdAnd, tdOr, tdNot, tdAndV, tdOrV, tdNotV, tdIf, tdCons, tdNil, tfNil, tfCons, tdLst, tdTup, tdI0, tdI, tdOp1, tdOp2, tdEqD, tdIsN, tdIn, tdInD, tdB, tdL, tdT, tdL2, tdCallP, tdCallPD, tdCallA, tdCallD, tdCallDA, tdUnp, tgT, tdRng1, tdRng2, tdFor, tdApp, tdSetL, tdDPut, tdPop, tdPopAt, tdExt, tdAug, tdDictK, tdDictT, tdDict, tdDictA, tdDisp1T, tdListA, tdEnumI, tdZipI, tdRaise, tdIsi, tdIndex, tdLstRg1, tdLstRg2, tdTupRg1, tdSlice, tdNoP, tdSoP, tdNeg, tdForK, tdLcK, tdBreak, tdCont, setsR,
  nos, List.replicate, List.map_cons, List.map_nil, List.length_cons, List.length_nil, List.cons_append, List.nil_append, List.set_cons_zero, List.set_cons_succ, List.getElem?_cons_zero, List.getElem?_cons_succ, List.getD_cons_zero, List.getD_cons_succ, wR, List.foldr_cons, List.foldr_nil, dats, cdats, opd_dat, opd_cview, it_sl, it_tm, view_fz, view_ow, view_dp, cview_fz, cview_ow, val_fz, val_ow, val_dp, val_st, D.seq.injEq, D.int.injEq, D.str.injEq, Option.map_some, Option.some.injEq, Prod.mk.injEq, List.cons.injEq, and_true, true_and, exists_eq_left', exists_and_left, exists_eq_left, exists_eq_right, rtP, rtA, rtD, outK, outA, excK, excA, Nat.reduceAdd, Nat.reduceSub, Nat.zero_add, Bool.and_true, Bool.true_and, Bool.false_or, Bool.true_or, Bool.or_true, Bool.or_false, Bool.false_and, Bool.and_false, exists_const, and_self, exists_prop, and_assoc, TL.It.fz.injEq, TL.It.ow.injEq, TL.It.st.injEq, Function.comp_apply, D.bl.injEq, exists_eq', eq_self, reduceCtorEq, false_implies, true_implies, implies_true, forall_const, Bool.not_true, Bool.not_false, Bool.true_eq_false, Bool.false_eq_true, if_false, if_true, Bool.not_eq_true', Bool.not_eq_false', ite_false, ite_true, Bool.not_not, forall_eq, forall_eq'])
/-- all_reached: ['motions', 'first', 'seen', 'left', 'motion', 'other', 'more'] -/
def t_all_reached (C_BadMany C_BadMotions : Addr) (Xc : XC) : TDS :=
  (tdSeq (tdDrop (tdCallP (F_need_motions C_BadMany C_BadMotions) Xc (tdCons (tdNm 0) tdNil)))
      (tdSeq (tdAsg (tdTupRg1 (tdEx (tdB CLen (tdCons (tdEx (tdC2 CIx (tdNm 0) (tdEx (tdC (.int 0))))) tdNil)))) 1)
      (tdSeq (tdAsg (tdDisp1T (tdV 1) (tdC (.bl true))) 2)
      (tdSeq (tdAsg (tdLst (tfCons (tdV 1) tfNil)) 3)
      (tdSeq (tdWhile (tdTest (tdEqD true (tdNm 3) (tdEx (tdLst tfNil))))
      (tdSeq (tdAsg (tdPop 3) 4)
      (tdFor (tdSeqI (tdV 0)) (tgN 5)
      (tdSeq (tdAsg (tdT CList (tdCons (tdEx (tdCallP F_composed Xc (tdCons (tdNm 4) (tdCons (tdNm 5) tdNil)))) tdNil)) 6)
      (tdIfS (tdTest (tdIn true (tdNm 6) (tdNm 2))) (tdSeq (tdDPut 2 (tdC (.bl true)) (tdNm 6))
      (tdApp 3 (tdV 6))) tdNext)))))
      (tdRet (tdLc (tdSeqI (tdSortedA (tdCons (tdEx (tdListA (tdCons (tdNm 2) tdNil))) tdNil))) (tgN 4) tdYes (tdListA (tdCons (tdNm 4) tdNil)) [4])))))))
/-- _law_then: ['motion', 'other', 'place'] -/
def t_law_then (Xc : XC) : TDS :=
  (tdRet (tdLc (tdSeqI (tdV 0)) (tgN 2) tdYes (tdC2 CIx (tdNm 1) (tdNm 2)) [2]))
/-- _law_back: ['motion', 'place'] -/
def t_law_back (Xc : XC) : TDS :=
  (tdRet (tdLc (tdRng1 (tdCons (tdEx (tdB CLen (tdCons (tdNm 0) tdNil))) tdNil)) (tgN 1) tdYes (tdIndex (tdNm 0) (tdNm 1)) [1]))
/-- _law_all_reached: ['motions', 'first', 'seen', 'left', 'here', 'motion', 'more', 'place'] -/
def t_law_all_reached (Xc : XC) : TDS :=
  (tdSeq (tdAsg (tdTupRg1 (tdEx (tdB CLen (tdCons (tdEx (tdC2 CIx (tdNm 0) (tdEx (tdC (.int 0))))) tdNil)))) 1)
      (tdSeq (tdPar (tdDisp1T (tdV 1) (tdC (.bl true))) (tdLst (tfCons (tdV 1) tfNil)) 2 3)
      (tdSeq (tdWhile (tdTest (tdEqD true (tdNm 3) (tdEx (tdLst tfNil))))
      (tdSeq (tdAsg (tdPop 3) 4)
      (tdFor (tdSeqI (tdV 0)) (tgN 5)
      (tdSeq (tdAsg (tdT CList (tdCons (tdEx (tdLc (tdSeqI (tdV 4)) (tgN 7) tdYes (tdC2 CIx (tdNm 5) (tdNm 7)) [7])) tdNil)) 6)
      (tdIfS (tdTest (tdIn true (tdNm 6) (tdNm 2))) (tdSeq (tdDPut 2 (tdC (.bl true)) (tdNm 6))
      (tdApp 3 (tdV 6))) tdNext)))))
      (tdRet (tdV 2)))))
theorem vc_composed : ∀ ds Kc, F_composed ds Kc → t_composed (excK Kc) (rtP Kc) (ds.map (.fz false) ++ nos (3 - ds.length)) := by
  intro ds Kc h
  match ds, h with
  | [_, _], ⟨s, t, ms, os, rfl, rfl, h1, h2, h3, h4⟩ =>
    unfold t_composed
    walk_at "sx"
    refine lc_ds (g := isFlat) (fun d => match d with | .int m => os.getD m.toNat .non | _ => .non) true (by simpa using h1) (fun x hx Q k => ?_) (fun h a => h _ a) (fun h a => h _ _ a) (fun p => ?_)
    · obtain ⟨m, hm, rfl⟩ := List.mem_map.mp hx
      obtain ⟨m0, m1⟩ := h2 m hm
      have hl : m.toNat < os.length := by omega
      have e : os[m.toNat]? = some (os.getD m.toNat .non) := by rw [List.getD_eq_getElem?_getD, List.getElem?_eq_getElem hl]; rfl
      walk_at "sx"
      refine ⟨_, ?_, k _ _ (fun _ => ?_) ?_⟩
      · have := cix_nat (b := t) e
        rwa [show ((m.toNat : Nat) : Int) = m by omega] at this
      · have := h3 _ (List.mem_of_getElem? e)
        exact this
      · walk_at "sx"
    · walk_at "sx"
      rw [List.map_map]
      exact h4
theorem cix_int {b : Bool} {w : Wd} {n : Nat} (h : IsP n w) {i : Int} (h0 : 0 ≤ i) (h1 : i < n) : CIx (.seq b (w.map .int)) (.int i) (.int (w.getD i.toNat 0)) := by
  have e := (h.get h0 h1).1
  have := cix_nat (b := b) (xs := w.map .int) (i := i.toNat) (d := .int (w.getD i.toNat 0)) (by rw [List.getElem?_map, e]; rfl)
  rwa [show ((i.toNat : Nat) : Int) = i by omega] at this
theorem vc_law_then : ∀ ds Kc, F_law_then ds Kc → t_law_then (excK Kc) (rtP Kc) (ds.map (.fz false) ++ nos (3 - ds.length)) := by
  intro ds Kc h
  match ds, h with
  | [_, _], ⟨n, x, y, rfl, rfl, hx, hy, hn, h4⟩ =>
    unfold t_law_then
    walk_at "sx"
    refine lc_ds (g := isFlat) (fun d => match d with | .int m => .int (y.getD m.toNat 0) | _ => .non) true (by simpa [hx.len] using hn) (fun z hz Q k => ?_) (fun h a => h _ a) (fun h a => h _ _ a) (fun p => ?_)
    · obtain ⟨m, hm, rfl⟩ := List.mem_map.mp hz
      obtain ⟨m0, m1⟩ := hx.bd m hm
      walk_at "sx"
      refine ⟨_, cix_int hy m0 m1, k _ _ (fun _ => ?_) ?_⟩
      · simp [isFlat, D.flat]
      · walk_at "sx"
    · walk_at "sx"
      rw [List.map_map]
      have : inL (mulW x y) = .seq false (x.map ((fun d => match d with | .int m => .int (y.getD m.toNat 0) | _ => D.non) ∘ D.int)) := by
        show D.seq false ((x.map fun i => y.getD i.toNat 0).map D.int) = _
        rw [List.map_map]; rfl
      rw [this] at h4
      exact h4
theorem vc_law_back : ∀ ds Kc, F_law_back ds Kc → t_law_back (excK Kc) (rtP Kc) (ds.map (.fz false) ++ nos (2 - ds.length)) := by
  intro ds Kc h
  match ds, h with
  | [_], ⟨n, x, rfl, hx, hn, h4⟩ =>
    unfold t_law_back
    walk_at "sx"
    refine ⟨_, rfl, _, rfl, by omega, by rw [List.length_map, hx.len]; rw [sizeLine_eq] at hn; omega, ?_⟩
    have e0 : ((x.map D.int).length : Int).toNat = n := by rw [List.length_map, hx.len]; simp
    rw [e0]
    have e1 : (List.range n).map (fun i => TL.It.fz true (.int ((i : Nat) : Int))) = (List.range n).map fun i => TL.It.fz true (.int (0 + ((i : Nat) : Int))) := by simp
    rw [e1]
    refine lc_ns 0 (fun i => .int ((x.idxOf (i : Int) : Nat) : Int)) true (by exact hn) (fun i hi Q k => ?_) (fun h a => h _ a) (fun h a => h _ _ a) (fun p => ?_)
    · walk_at "sx"
      have hm := hx.has (i := (i : Int)) (by omega) (by omega)
      have hl := List.idxOf_lt_length_of_mem hm
      rw [show (0 : Int) + (i : Int) = (i : Int) by omega]
      refine ⟨rfl, ?_, x.idxOf (i : Int), ?_, k _ _ (fun _ => rfl) ?_⟩
      · rw [List.all_map, List.all_eq_true]; intro _ _; rfl
      · unfold idxF
        rw [List.findIdx?_eq_some_iff_getElem]
        refine ⟨by simpa using hl, ?_, fun j hj => ?_⟩
        · have := List.getElem_idxOf hl
          simp [eqF, D.flat, eqV, this]
        · have := List.not_of_lt_findIdx (p := fun z => z == (i : Int)) (xs := x) (i := j) hj
          simpa [eqF, D.flat, eqV] using this
      · walk_at "sx"
    · walk_at "sx"
      have : inL (backW x) = .seq false ((List.range n).map fun i : Nat => D.int ((x.idxOf (i : Int) : Nat) : Int)) := by
        show D.seq false ((backW x).map D.int) = _
        unfold backW
        rw [List.map_map, hx.len]; rfl
      rw [this] at h4
      exact h4
def laI (n : Nat) (gs : List Wd) (m : Nat) (d : D) (f : D) (p p' : Addr) (x : Wd) (c : Nat) (k : Nat) (r : Rho) : Prop := ∃ S L tl, r = .fz false d :: .fz true f :: .ow p true (seenD S) :: .ow p' true (.seq false (L.map tupD)) :: .fz true (tupD x) :: tl ∧ tl.length = c ∧
  x ∈ S ∧ Seen n gs S L (some x) (m - 1) ∧ ∀ j g, j < k → gs[j]? = some g → mulW x g ∈ S
theorem laI_step {n : Nat} {gs : List Wd} {m : Nat} {d f : D} {p p' : Addr} {x : Wd} {c k : Nat} (hn : n ≤ 7) (hg : ∀ g ∈ gs, IsP n g) {S L : List Wd} {g : Wd} (hgk : gs[k]? = some g) (hx : x ∈ S) (inv : Seen n gs S L (some x) (m - 1)) (hdone : ∀ j g, j < k → gs[j]? = some g → mulW x g ∈ S) :
    (mulW x g ∈ S → ∀ tl : List TL.It, tl.length = c → laI n gs m d f p p' x c (k + 1) (.fz false d :: .fz true f :: .ow p true (seenD S) :: .ow p' true (.seq false (L.map tupD)) :: .fz true (tupD x) :: tl)) ∧
    (mulW x g ∉ S → (S.length < sizeLine ∧ L.length < sizeLine) ∧ ∀ tl : List TL.It, tl.length = c → laI n gs m d f p p' x c (k + 1) (.fz false d :: .fz true f :: .ow p true (seenD (S ++ [mulW x g])) :: .ow p' true (.seq false ((L ++ [mulW x g]).map tupD)) :: .fz true (tupD x) :: tl)) := by
  have hm := List.mem_of_getElem? hgk
  refine ⟨fun h tl hl => ⟨S, L, tl, rfl, hl, hx, inv, fun j g' hj hg' => ?_⟩, fun h => ⟨inv.room hn hg, fun tl hl => ⟨S ++ [mulW x g], L ++ [mulW x g], tl, rfl, hl, by simp [hx], inv.add hg hx hm h, fun j g' hj hg' => ?_⟩⟩⟩
  · by_cases e : j = k
    · subst e; rw [hgk] at hg'; cases hg'; exact h
    · exact hdone j g' (by omega) hg'
  · by_cases e : j = k
    · subst e; rw [hgk] at hg'; cases hg'; simp
    · simp [hdone j g' (by omega) hg']
theorem vc_law_all_reached : ∀ ds Kc, F_law_all_reached ds Kc → t_law_all_reached (excK Kc) (rtP Kc) (ds.map (.fz false) ++ nos (8 - ds.length)) := by
  intro ds Kc h
  match ds, h with
  | [d], h =>
    obtain ⟨n, gs, ⟨b, ps, rfl, rfl, h0, ⟨hn1, hn7⟩, hz, hp⟩, hk⟩ := h
    unfold t_law_all_reached
    walk_at "sx"
    cases ps with
    | nil => exact absurd rfl h0
    | cons p0 ps0 =>
    have hps : p0 :: ps0 ≠ [] := h0
    refine ⟨gD p0, cix_nat (i := 0) rfl, _, rfl, ?_⟩
    have hp0 := hp p0 List.mem_cons_self
    have hg : ∀ g ∈ (p0 :: ps0).map (·.2), IsP n g := fun g hg => by
      obtain ⟨q, hq, rfl⟩ := List.mem_map.mp hg
      exact hp q hq
    have hlen : (p0.2.map D.int).length = n := by rw [List.length_map, hp0.len]
    rw [hlen]
    have hn2 : n ≤ sizeLine := by rw [sizeLine_eq]; omega
    refine ⟨_, rfl, rgOk_nat hn2, keyW (iota n), by rw [rgD_iota]; exact keyT_tup _, fun p => ⟨by rw [sizeLine_eq]; omega, fun p' => ?_⟩⟩
    rw [rgD_iota]
    generalize hps : p0 :: ps0 = ps at *
    clear hps
    generalize hgs : ps.map (·.2) = gs at *
    refine ⟨fun m r => ∃ S L y4 y5 y6 y7, r = [.fz false (.seq b (ps.map gD)), .fz true (tupD (iota n)), .ow p true (seenD S), .ow p' true (.seq false (L.map tupD)), y4, y5, y6, y7] ∧ Seen n gs S L none m, ⟨_, [iota n], [iota n], _, _, _, _, rfl, .start⟩, ?_⟩
    rintro m _ ⟨S, L, y4, y5, y6, y7, rfl, inv⟩
    walk_at "sx"
    refine ⟨Nat.zero_le _, eqOk_intss _ _ _, eqOk_nil _, ?_⟩
    rw [deq_nil]
    refine ⟨fun hb => ?_, fun hb => ?_⟩
    · rcases List.eq_nil_or_concat L with rfl | ⟨L, x, rfl⟩
      · cases hb
      rw [List.concat_eq_append] at inv ⊢
      obtain ⟨hx, hm1, inv⟩ := inv.pop
      have px := (inv.re x hx).isP hg
      refine ⟨tupD x, by simp, ?_⟩
      have e : ((L ++ [x]).map tupD).dropLast = L.map tupD := by simp
      rw [e]
      refine ⟨laI n gs m _ _ p p' x 3, ⟨S, L, [_, _, _], rfl, rfl, hx, inv, fun j g hj => by omega⟩, ?_, ?_⟩
      · rintro k it _ hit ⟨S, L, tl, rfl, htl, hx, inv, hdone⟩
        obtain ⟨y5, y6, y7, rfl⟩ := len3 htl
        rw [List.map_map, List.getElem?_map] at hit
        cases hq : ps[k]? with
        | none => rw [hq] at hit; cases hit
        | some q =>
        rw [hq] at hit
        cases hit
        have hgk : gs[k]? = some q.2 := by rw [← hgs, List.getElem?_map, hq]; rfl
        have pq := hp q (List.mem_of_getElem? hq)
        obtain ⟨st1, st2⟩ := laI_step (d := .seq b (ps.map gD)) (f := tupD (iota n)) (p := p) (p' := p') (c := 3) (m := m) hn7 hg hgk hx inv hdone
        generalize laI n gs m (D.seq b (ps.map gD)) (tupD (iota n)) p p' x 3 (k + 1) = N at *
        walk_at "sx"
        refine lc_ds (g := fun _ => true) (fun d => match d with | .int i => .int (q.2.getD i.toNat 0) | _ => .non) true (by simpa [px.len] using hn2) (fun z hz Q kq => ?_) (fun h a => h _ a) (fun h a => h _ _ a) (fun p => ?_)
        · obtain ⟨i, hi, rfl⟩ := List.mem_map.mp hz
          obtain ⟨i0, i1⟩ := px.bd i hi
          walk_at "sx"
          refine ⟨_, cix_int pq i0 i1, kq _ _ (fun _ => ?_) ?_⟩
          · simp [isFlat, D.flat]
          · walk_at "sx"
        · walk_at "sx"
          rw [List.map_map]
          have em : D.seq true (x.map ((fun d => match d with | .int i => .int (q.2.getD i.toNat 0) | _ => D.non) ∘ D.int)) = tupD (mulW x q.2) := (tup_mul (n := n)).symm
          refine ⟨_, ⟨false, rfl⟩, ?_⟩
          rw [em]
          refine ⟨_, in_seen S _ _, fun hd => ?_, fun hd => ?_⟩
          · have hni : mulW x q.2 ∉ S := of_decide_eq_false hd
            obtain ⟨⟨z1, z2⟩, fin⟩ := st2 hni
            refine ⟨by simpa [seenD, dlen] using z1, _, put_seen hni, by simpa using z2, ?_⟩
            rw [List.map_append] at fin
            exact fin [_, _, _] rfl
          · exact st1 (of_decide_eq_true hd) [_, _, _] rfl
      · rintro _ ⟨S, L, tl, rfl, htl, hx, inv, hdone⟩
        obtain ⟨y5, y6, y7, rfl⟩ := len3 htl
        refine ⟨m - 1, by omega, S, L, _, _, _, _, rfl, inv.next fun g hg => ?_⟩
        obtain ⟨j, hj⟩ := List.getElem?_of_mem hg
        refine hdone j g ?_ hj
        have := (List.getElem?_eq_some_iff.mp hj).1
        rw [← hgs] at this
        simpa using this
    · have hL : L = [] := by simpa using hb
      subst hL
      exact hk S inv.fin
theorem vc_all_reached (C C2 : Addr) : ∀ ds Kc, F_all_reached C C2 ds Kc → t_all_reached C C2 (excK Kc) (rtP Kc) (ds.map (.fz false) ++ nos (7 - ds.length)) := by
  intro ds Kc h
  match ds, h with
  | [d], h =>
    unfold t_all_reached
    rcases h with ⟨hok, i, hw, hk⟩ | ⟨n, gs, ⟨b, ps, rfl, rfl, h0, ⟨hn1, hn7⟩, hz, hp⟩, hk⟩
    · walk_at "sx"
      simp only [F_need_motions]
      exact ⟨hok, fun j hj => by rw [hw] at hj; cases hj; exact ⟨rfl, hk⟩, fun hn => by rw [hw] at hn; cases hn⟩
    walk_at "sx"
    simp only [F_need_motions]
    refine ⟨?_, ?_, fun _ => ?_⟩
    · exact ok_gens hn7 hz hp
    · intro i hi
      rw [wrong_none hn1 h0 hp] at hi
      cases hi
    walk_at "sx"
    cases ps with
    | nil => exact absurd rfl h0
    | cons p0 ps0 =>
    refine ⟨gD p0, cix_nat (i := 0) rfl, _, rfl, ?_⟩
    have hp0 := hp p0 List.mem_cons_self
    have hg : ∀ g ∈ (p0 :: ps0).map (·.2), IsP n g := fun g hg => by
      obtain ⟨q, hq, rfl⟩ := List.mem_map.mp hg
      exact hp q hq
    have hlen : (p0.2.map D.int).length = n := by rw [List.length_map, hp0.len]
    rw [hlen]
    have hn2 : n ≤ sizeLine := by rw [sizeLine_eq]; omega
    refine ⟨_, rfl, rgOk_nat hn2, keyW (iota n), by rw [rgD_iota]; exact keyT_tup _, fun p => ⟨by rw [sizeLine_eq]; omega, fun p' => ?_⟩⟩
    rw [rgD_iota]
    generalize hps : p0 :: ps0 = ps at *
    clear hps
    generalize hgs : ps.map (·.2) = gs at *
    refine ⟨fun m r => ∃ S L y4 y5 y6, r = [.fz false (.seq b (ps.map gD)), .fz true (tupD (iota n)), .ow p true (seenD S), .ow p' true (.seq false (L.map tupD)), y4, y5, y6] ∧ Seen n gs S L none m, ⟨_, [iota n], [iota n], _, _, _, rfl, .start⟩, ?_⟩
    rintro m _ ⟨S, L, y4, y5, y6, rfl, inv⟩
    walk_at "sx"
    refine ⟨Nat.zero_le _, eqOk_intss _ _ _, eqOk_nil _, ?_⟩
    rw [deq_nil]
    refine ⟨fun hb => ?_, fun hb => ?_⟩
    · rcases List.eq_nil_or_concat L with rfl | ⟨L, x, rfl⟩
      · cases hb
      rw [List.concat_eq_append] at inv ⊢
      obtain ⟨hx, hm1, inv⟩ := inv.pop
      have px := (inv.re x hx).isP hg
      refine ⟨tupD x, by simp, ?_⟩
      have e : ((L ++ [x]).map tupD).dropLast = L.map tupD := by simp
      rw [e]
      refine ⟨laI n gs m _ _ p p' x 2, ⟨S, L, [_, _], rfl, rfl, hx, inv, fun j g hj => by omega⟩, ?_, ?_⟩
      · rintro k it _ hit ⟨S, L, tl, rfl, htl, hx, inv, hdone⟩
        obtain ⟨y5, y6, rfl⟩ := len2 htl
        rw [List.map_map, List.getElem?_map] at hit
        cases hq : ps[k]? with
        | none => rw [hq] at hit; cases hit
        | some q =>
        rw [hq] at hit
        cases hit
        have hgk : gs[k]? = some q.2 := by rw [← hgs, List.getElem?_map, hq]; rfl
        have pq := hp q (List.mem_of_getElem? hq)
        obtain ⟨st1, st2⟩ := laI_step (d := .seq b (ps.map gD)) (f := tupD (iota n)) (p := p) (p' := p') (c := 2) (m := m) hn7 hg hgk hx inv hdone
        generalize laI n gs m (D.seq b (ps.map gD)) (tupD (iota n)) p p' x 2 (k + 1) = N at *
        walk_at "sx"
        simp only [F_composed, outK]
        refine ⟨true, q.1, x, q.2.map .int, rfl, rfl, by rw [px.len]; exact hn2, fun i hi => by rw [List.length_map, pq.len]; exact px.bd i hi, fun o ho => ?_, ?_⟩
        · obtain ⟨i, _, rfl⟩ := List.mem_map.mp ho
          rfl
        · skip
          have em : D.seq true (x.map fun m => (q.2.map D.int).getD m.toNat .non) = tupD (mulW x q.2) := by
            rw [tup_mul (n := n)]
            congr 1
            apply List.map_congr_left
            intro i hi
            obtain ⟨i0, i1⟩ := px.bd i hi
            have e := (pq.get i0 i1).1
            rw [List.getD_eq_getElem?_getD, List.getElem?_map, e]; rfl
          refine ⟨_, ⟨false, rfl⟩, ?_⟩
          rw [em]
          refine ⟨_, in_seen S _ _, fun hd => ?_, fun hd => ?_⟩
          · have hni : mulW x q.2 ∉ S := of_decide_eq_false hd
            obtain ⟨⟨z1, z2⟩, fin⟩ := st2 hni
            refine ⟨by simpa [seenD, dlen] using z1, _, put_seen hni, by simpa using z2, ?_⟩
            rw [List.map_append] at fin
            exact fin [_, _] rfl
          · exact st1 (of_decide_eq_true hd) [_, _] rfl
      · rintro _ ⟨S, L, tl, rfl, htl, hx, inv, hdone⟩
        obtain ⟨y5, y6, rfl⟩ := len2 htl
        refine ⟨m - 1, by omega, S, L, _, _, _, rfl, inv.next fun g hg => ?_⟩
        obtain ⟨j, hj⟩ := List.getElem?_of_mem hg
        refine hdone j g ?_ hj
        have := (List.getElem?_eq_some_iff.mp hj).1
        rw [← hgs] at this
        simpa using this
    · have hL : L = [] := by simpa using hb
      subst hL
      have hr := inv.fin
      walk_at "sx"
      refine .inr ?_
      walk_at "sx"
      refine ⟨S.map tupD, keys_seen S _, S, rfl, fun k hk' => ?_, ?_⟩
      · have := ((inv.re k hk').isP hg).len
        intro e
        rw [e] at this
        simp at this
        omega
      have few := (inv.room hn7 hg).1
      have pm : (sortT S).Perm S := List.mergeSort_perm S lexLe
      refine lc_ds (g := fun _ => true) (fun d => match d with | .seq _ xs => .seq false xs | _ => .non) true (by rw [List.length_map, pm.length_eq]; omega) (fun z hz Q kq => ?_) (fun h a => h _ a) (fun h a => h _ _ a) (fun p => ?_)
      · obtain ⟨w, hw, rfl⟩ := List.mem_map.mp hz
        walk_at "sx"
        refine ⟨_, rfl, kq _ _ (fun _ => rfl) ?_⟩
        walk_at "sx"
      · walk_at "sx"
        rw [List.map_map]
        exact hk S hr
end TL
namespace TL
open PySem PySem.Spec PyProof.Rows L2
def stF (g : PS) : Int → Option Int
  | 1 => some g.b
  | 2 => some g.c
  | 3 => some g.e
  | _ => none
def stS (g : PS) (v : Int) : Int → Option PS
  | 1 => some { g with b := v }
  | 2 => some { g with c := v }
  | 3 => some { g with e := v }
  | _ => none
section
variable {G0 : Bs} {te : TE} {t : TDE} {K : PySem.W.Frag}
theorem st_at {G H : Hp} {vs : List (Option V)} {ka : List TL.It} {sg : L2.St} {r : Rho} {i : Nat} {a q : Addr} {g : PS} (E : EnvG G0 G H (vs ++ sg) (ka ++ r)) (hl : vs.length = ka.length) (hi : r[i]? = some (.st a q g)) : sg[i]? = some (some (.ref a)) ∧ StOk H a q g := by
  obtain ⟨v, hv⟩ := slot_val E hl hi rfl
  have ok := E.ok (ka.length + i) _ (by rw [get_app]; exact hi)
  rw [getD_app hl, List.getD_eq_getElem?_getD, hv] at ok
  have e := ok.1
  exact ⟨by rw [hv]; exact congrArg some e, ok.2⟩
/-- the state changes in its own two lists -/
theorem st_put {G H H' : Hp} {vs : List (Option V)} {ka : List TL.It} {sg : L2.St} {r : Rho} {i : Nat} {a q : Addr} {g g' : PS} (E : EnvG G0 G H (vs ++ sg) (ka ++ r)) (hl : vs.length = ka.length) (hi : r[i]? = some (.st a q g))
    (k : ∀ b o, b ≠ a → b ≠ q → H b = some o → H' b = some o) (k2 : ∀ b o, b ≠ a → b ≠ q → H' b = some o → H b = some o) (so : StOk H' a q g') : EnvG G0 G H' (vs ++ sg) (ka ++ r.set i (.st a q g')) := by
  obtain ⟨hs, _⟩ := st_at E hl hi
  have hit : (ka ++ r)[ka.length + i]? = some (.st a q g) := by rw [get_app]; exact hi
  have oa := E.out _ _ a hit (by simp [It.reg])
  have oq := E.out _ _ q hit (by simp [It.reg])
  have := E.put (y := .st a q g') (G' := G) (H' := H') hit (Le.refl _) (fun b o e => k b o (fun z => by rw [z, oa.1] at e; cases e) (fun z => by rw [z, oq.1] at e; cases e) (E.le _ _ e)) (fun b xs e => ?_) (fun b o h1 h2 => ?_) (fun b h1 h2 => by rw [h1] at h2; cases h2) ⟨by rw [getD_app hl, List.getD_eq_getElem?_getD, hs]; rfl, so⟩ fun b h1 => ?_
  · rw [set_app] at this; exact this
  · by_cases h1 : b = a
    · rw [h1, so.2.1] at e; cases e
    · by_cases h2 : b = q
      · rw [h2, so.2.2] at e; cases e
      · exact E.tp _ _ (k2 b _ h1 h2 e)
  · have : b ≠ a ∧ b ≠ q := by simpa [It.reg] using h1
    exact k _ _ this.1 this.2 h2
  · refine ⟨.inr (by simpa [It.reg] using h1), ?_⟩
    have h1 : b = a ∨ b = q := by simpa [It.reg] using h1
    rcases h1 with rfl | rfl
    · exact ⟨oa.1, by rw [so.2.1]; rfl⟩
    · exact ⟨oq.1, by rw [so.2.2]; rfl⟩
def tdStIx (i : Nat) (k : Int) : TDE := fun r P => ∃ a q g v, r[i]? = some (.st a q g) ∧ stF g k = some v ∧ P (.fz true (.int v)) r
theorem stF_at {g : PS} {k v : Int} {q : Addr} (h : stF g k = some v) : atI [V.ref q, .int g.b, .int g.c, .int g.e] k = some (.int v) := by
  unfold stF at h
  split at h
  · cases h; rfl
  · cases h; rfl
  · cases h; rfl
  · cases h
theorem snd_stIx {i : Nat} {k : Int} : SndE G0 (tOp (rIxA K) (tVar i) (tC (.int k))) (tdStIx i k) := by
  intro vs ka sg H r P Q hl E hp kk
  obtain ⟨a, q, g, v, hi, hv, hp⟩ := hp
  obtain ⟨G, E⟩ := E
  obtain ⟨hs, so⟩ := st_at E hl hi
  exact ⟨_, hs, .inl (.inl ⟨a, _, k, _, rfl, rfl, SqL.of so.2.1, stF_at hv, kk _ H _ r rfl ⟨G, E.pushFlat rfl⟩ hp⟩)⟩
def tdStNe (i : Nat) : TDE := fun r P => ∃ a q g, r[i]? = some (.st a q g) ∧ P (.fz true (.bl (!g.cells.isEmpty))) r
theorem pys_len (xs : List Int) : PyData.eqv (.list (D.pys (xs.map .int))) (.list []) = xs.isEmpty := by cases xs <;> rfl
theorem snd_stNe {i : Nat} : SndE G0 (tOp (rNeD K) (tOp (rIxA K) (tVar i) (tC (.int 0))) (tLst tNil)) (tdStNe i) := by
  intro vs ka sg H r P Q hl E hp kk
  obtain ⟨a, q, g, hi, hp⟩ := hp
  obtain ⟨G, E⟩ := E
  obtain ⟨hs, so⟩ := st_at E hl hi
  refine ⟨_, hs, .inl (.inl ⟨a, _, 0, _, rfl, rfl, SqL.of so.2.1, rfl, ?_⟩)⟩
  refine ⟨Nat.zero_le _, fun p hp' => ?_⟩
  have E1 := E.pushOw (nw := true) (d := .seq false []) (o := .lst []) hp' rfl ⟨[], upd_same, .nil⟩
  have hq : upd H p (.lst []) q = some (.lst (g.cells.map V.int)) := by
    rw [upd_ne (fun z => by have := so.2.2; rw [z, hp'] at this; cases this)]; exact so.2.2
  have rq : Rep (fun _ => True) (upd H p (.lst [])) (.ref q) (inL g.cells) := .lst hq trivial (RepL.ints _)
  have rp : Rep (fun _ => True) (upd H p (.lst [])) (.ref p) (.seq false []) := .lst upd_same trivial .nil
  have e1 := Bool.and_eq_true_iff.mp (eqOk_ints false g.cells)
  have e2 := Bool.and_eq_true_iff.mp (eqOk_nil false)
  refine ⟨_, _, rq.dp e1.1, rp.dp e2.1, e1.2, e2.2, ?_⟩
  have := kk (.bl (!g.cells.isEmpty)) _ (.fz true (.bl (!g.cells.isEmpty))) r rfl ⟨_, E1.tail.pushFlat rfl⟩ hp
  have e3 : PyData.eqv (D.py (inL g.cells)) (D.py (.seq false [])) = g.cells.isEmpty := pys_len _
  rw [e3]
  exact this
def tdStPop (i : Nat) : TDE := fun r P => ∃ a q g c cs, r[i]? = some (.st a q g) ∧ g.cells = c :: cs ∧ P (.fz true (.int c)) (r.set i (.st a q { g with cells := cs }))
theorem snd_stPop {i : Nat} : SndE G0 (tBM K "list" rPopAt (tOp (rIxA K) (tVar i) (tC (.int 0))) (tCons (tC (.int 0)) tNil)) (tdStPop i) := by
  intro vs ka sg H r P Q hl E hp kk
  obtain ⟨a, q, g, c, cs, hi, hc, hp⟩ := hp
  obtain ⟨G, E⟩ := E
  obtain ⟨hs, so⟩ := st_at E hl hi
  refine ⟨_, hs, .inl (.inl ⟨a, _, 0, _, rfl, rfl, SqL.of so.2.1, rfl, ?_⟩)⟩
  refine ⟨.inl ⟨rfl, _, SqL.of so.2.2⟩, ?_⟩
  have hq : H q = some (.lst (V.int c :: cs.map V.int)) := by have := so.2.2; rw [hc] at this; exact this
  refine ⟨q, _, 0, 0, .int c, rfl, rfl, hq, by decide, by decide, ?_, rfl, ?_⟩
  · unfold seqIndex?
    simp
  · have so' : StOk (upd H q (.lst (cs.map V.int))) a q { g with cells := cs } := ⟨so.1, by rw [upd_ne so.1]; exact so.2.1, upd_same⟩
    have E1 := st_put (H' := upd H q (.lst (cs.map V.int))) E hl hi (fun b o h1 h2 e => by rw [upd_ne h2]; exact e) (fun b o h1 h2 e => by rw [upd_ne h2] at e; exact e) so'
    exact kk _ _ _ _ (by simp) ⟨G, E1.pushFlat rfl⟩ hp
def tdStSet (i : Nat) (k : Int) (t : TDE) : TDS := fun P r => t r fun y r1 => ∃ n v a q g g', y.view = some (n, .int v) ∧ r1[i]? = some (.st a q g) ∧ stS g v k = some g' ∧ P.nx (r1.set i (.st a q g'))
theorem sns_stSet {i : Nat} {k : Int} (h : SndE G0 te t) : SndS G0 (tAsg te (gSub (tVar i) (tC (.int k)) rSetL)) (tdStSet i k t) := by
  intro vs ka sg H r P Dn hl E hp kk
  refine h vs ka sg H r _ _ hl E hp fun y H1 x r1 l1 E1 h' => ?_
  obtain ⟨n, v, a, q, g, g', hy, hi, hg, h3⟩ := h'
  obtain ⟨G, E1⟩ := E1
  have X := E1.itx (i := 0) (x := x) rfl
  have ry : y = .int v := (X.rep E1.l0 E1.le hy).flat rfl
  subst ry
  have E2 := E1.tail
  obtain ⟨hs, so⟩ := st_at E2 hl hi
  refine ⟨_, hs, a, [V.ref q, .int g.b, .int g.c, .int g.e], k, ?_⟩
  have fin : ∀ (j : Nat) (b c e : Int), [V.ref q, .int g.b, .int g.c, .int g.e].set j (.int v) = [V.ref q, .int b, .int c, .int e] → g' = { cells := g.cells, b := b, c := c, e := e } → ixN 4 k = some j → ∃ j, V.ref a = .ref a ∧ V.int k = .int k ∧ H1 a = some (.lst [V.ref q, .int g.b, .int g.c, .int g.e]) ∧ ixN 4 k = some j ∧ Dn.nx sg (upd H1 a (.lst ([V.ref q, .int g.b, .int g.c, .int g.e].set j (.int v)))) := fun j b c e e1 e2 e3 => by
    refine ⟨j, rfl, rfl, so.2.1, e3, ?_⟩
    rw [e1]
    have so' : StOk (upd H1 a (.lst [V.ref q, .int b, .int c, .int e])) a q g' := by
      subst e2
      exact ⟨so.1, upd_same, by rw [upd_ne (Ne.symm so.1)]; exact so.2.2⟩
    have E3 := st_put (H' := upd H1 a (.lst [V.ref q, .int b, .int c, .int e])) E2 hl hi (fun b o h1 h2 e => by rw [upd_ne h1]; exact e) (fun b o h1 h2 e => by rw [upd_ne h1] at e; exact e) so'
    exact kk.nx sg _ _ ⟨G, E3⟩ h3
  unfold stS at hg
  split at hg
  · cases hg; exact fin 1 v g.c g.e rfl rfl rfl
  · cases hg; exact fin 2 g.b v g.e rfl rfl rfl
  · cases hg; exact fin 3 g.b g.c v rfl rfl rfl
  · cases hg
end
end TL
namespace TL
open PySem PySem.Spec PyProof.Rows L2
local macro_rules | `(tactic| walk_at "sx") => `(tactic| simp only [tgN, tdYes, tdC2, tdNm, tdEx, tdV, tdC, tdRet, tdLc, tdSeqI, tdSeq, tdIfS, tdNext, tdRetN, tdDrop, tdAsg, tdPar, tdTest, tdAnd, tdOr, tdNot, tdAndV, tdOrV, tdNotV, tdIf, tdCons, tdNil, tfNil, tfCons, tdLst, tdTup, tdI0, tdI, tdOp1, tdOp2, tdEqD, tdIsN, tdIn, tdInD, tdB, tdL, tdT, tdL2, tdCallP, tdCallPD, tdCallA, tdCallD, tdCallDA, tdUnp, tgT, tdRng1, tdRng2, tdFor, tdApp, tdSetL, tdDPut, tdPop, tdPopAt, tdExt, tdAug, tdDictK, tdDictT, tdDict, tdDictA, tdDisp1T, tdListA, tdEnumI, tdZipI, tdRaise, tdIsi, tdIndex, tdLstRg1, tdLstRg2, tdTupRg1, tdSlice, tdNoP, tdSoP, tdNeg, tdForK, tdLcK, tdBreak, tdCont, setsR, tdStIx, tdStNe, tdStPop, tdStSet, stF, stS,
  nos, List.replicate, List.map_cons, List.map_nil, List.length_cons, List.length_nil, List.cons_append, List.nil_append, List.set_cons_zero, List.set_cons_succ, List.getElem?_cons_zero, List.getElem?_cons_succ, List.getD_cons_zero, List.getD_cons_succ, wR, List.foldr_cons, List.foldr_nil, dats, cdats, opd_dat, opd_cview, it_sl, it_tm, view_fz, view_ow, view_dp, cview_fz, cview_ow, val_fz, val_ow, val_dp, val_st, D.seq.injEq, D.int.injEq, D.str.injEq, Option.map_some, Option.some.injEq, Prod.mk.injEq, List.cons.injEq, and_true, true_and, exists_eq_left', exists_and_left, exists_eq_left, exists_eq_right, rtP, rtA, rtD, outK, outA, excK, excA, Nat.reduceAdd, Nat.reduceSub, Nat.zero_add, Bool.and_true, Bool.true_and, Bool.false_or, Bool.true_or, Bool.or_true, Bool.or_false, Bool.false_and, Bool.and_false, exists_const, and_self, exists_prop, and_assoc, TL.It.fz.injEq, TL.It.ow.injEq, TL.It.st.injEq, Function.comp_apply, D.bl.injEq, exists_eq', eq_self, reduceCtorEq, false_implies, true_implies, implies_true, forall_const, Bool.not_true, Bool.not_false, Bool.true_eq_false, Bool.false_eq_true, if_false, if_true, Bool.not_eq_true', Bool.not_eq_false', ite_false, ite_true, Bool.not_not, forall_eq, forall_eq'])
/-- the draws' state is in bounds, n draws at most are behind -/
structure St (n : Nat) (g : PS) : Prop where
  b0 : 0 ≤ g.b
  c0 : 0 ≤ g.c
  c1 : g.c ≤ n
  e0 : 0 ≤ g.e
  e1 : g.e < 2147483647
theorem St.up {n m : Nat} {g : PS} (h : St n g) (l : n ≤ m) : St m g := ⟨h.b0, h.c0, by have := h.c1; omega, h.e0, h.e1⟩
def F_law_pick : FnS
  | g, [d], Kc => ∃ (n : Nat) (m : Int), d = .int m ∧ (1 ≤ m ∧ m < 1073741824) ∧ n < 2 ^ 40 ∧ St n g ∧ ∀ g' v, St (n + 1) g' → 0 ≤ v → v < m → Kc g' (.ret (.int v))
  | _, _, _ => False
/-- _law_pick: ['state', 'many', 'cell', 'digit', 'mixed'] -/
def t_law_pick : TDS :=
  (tdSeq (tdStSet 0 2 (tdI0 (fun i j => .int (i + j)) (tdEx (tdStIx 0 2)) (tdEx (tdC (.int 1)))))
      (tdSeq (tdWhile (tdAnd (tdTest (tdOp2 fEq (tdEx (tdStIx 0 1)) (tdEx (tdC (.int 0))))) (tdTest (tdStNe 0)))
      (tdSeq (tdAsg (tdB CAbs (tdCons (tdEx (tdStPop 0)) tdNil)) 2)
      (tdSeq (tdStSet 0 3 (tdI (fun _ j => 0 < j) (fun i j => .int (i % j)) (tdEx (tdB CInt (tdCons (tdEx (tdI0 (fun i j => .int (i + j)) (tdEx (tdI0 (fun i j => .int (i + j)) (tdEx (tdI CMul (fun i j => .int (i * j)) (tdEx (tdStIx 0 3)) (tdEx (tdC (.int 6151))))) (tdNm 2))) (tdEx (tdC (.int 5))))) tdNil))) (tdEx (tdC (.int 2147483647)))))
      (tdStSet 0 1 (tdIf (tdTest (tdI0 (fun i j => .bl (decide (j ≤ i))) (tdNm 2) (tdEx (tdI CPow (fun i j => .int (i ^ j.toNat)) (tdEx (tdC (.int 10))) (tdEx (tdC (.int 18))))))) (tdV 2) (tdC (.int 0)))))))
      (tdSeq (tdIfS (tdTest (tdI0 (fun i j => .bl (decide (j < i))) (tdEx (tdStIx 0 1)) (tdEx (tdC (.int 0))))) (tdSeq (tdAsg (tdI (fun _ j => 0 < j) (fun i j => .int (i % j)) (tdEx (tdB CInt (tdCons (tdEx (tdStIx 0 1)) tdNil))) (tdNm 1)) 3)
      (tdSeq (tdStSet 0 1 (tdI CDiv (fun i j => .int (i / j)) (tdEx (tdStIx 0 1)) (tdNm 1)))
      (tdRet (tdV 3)))) tdNext)
      (tdSeq (tdAsg (tdI (fun _ j => 0 < j) (fun i j => .int (i % j)) (tdEx (tdB CInt (tdCons (tdEx (tdI CPow (fun i j => .int (i ^ j.toNat)) (tdEx (tdI0 (fun i j => .int (i + j)) (tdEx (tdI0 (fun i j => .int (i + j)) (tdEx (tdStIx 0 3)) (tdEx (tdI CMul (fun i j => .int (i * j)) (tdEx (tdC (.int 7907))) (tdEx (tdStIx 0 2)))))) (tdEx (tdC (.int 104723))))) (tdEx (tdC (.int 5))))) tdNil))) (tdEx (tdC (.int 2147483629)))) 4)
      (tdRet (tdI (fun _ j => 0 < j) (fun i j => .int (i % j)) (tdEx (tdI (fun _ j => 0 < j) (fun i j => .int (i % j)) (tdEx (tdB CInt (tdCons (tdEx (tdI CPow (fun i j => .int (i ^ j.toNat)) (tdEx (tdI0 (fun i j => .int (i + j)) (tdEx (tdI0 (fun i j => .int (i + j)) (tdEx (tdI CMul (fun i j => .int (i * j)) (tdNm 4) (tdEx (tdC (.int 48271))))) (tdEx (tdI CMul (fun i j => .int (i * j)) (tdEx (tdC (.int 30011))) (tdEx (tdStIx 0 2)))))) (tdEx (tdC (.int 31))))) (tdEx (tdC (.int 3))))) tdNil))) (tdEx (tdC (.int 1000000007))))) (tdNm 1)))))))
theorem vc_law_pick : ∀ a q g ds Kc, F_law_pick g ds Kc → t_law_pick (rtD a q Kc) (.st a q g :: (ds.map (.fz false) ++ nos (5 - (ds.length + 1)))) := by
  intro a q g ds Kc h
  match ds, h with
  | [_], ⟨n, m, rfl, ⟨m1, m2⟩, hn, hst, hk⟩ =>
    unfold t_law_pick
    walk_at "sx"
    have h1 := hst.b0
    have h2 := hst.c0
    have h3 := hst.c1
    have h4 := hst.e0
    have h5 := hst.e1
    refine ⟨fun k r => ∃ g' y, r = [.st a q g', .fz false (.int m), y, .no, .no] ∧ St (n + 1) g' ∧ g'.cells.length = k, ⟨_, _, _, rfl, ⟨h1, by show 0 ≤ g.c + 1; omega, by show g.c + 1 ≤ _; omega, h4, h5⟩, rfl⟩, ?_⟩
    rintro k _ ⟨g, y, rfl, hst, rfl⟩
    have h1 := hst.b0
    have h2 := hst.c0
    have h3 := hst.c1
    have h4 := hst.e0
    have h5 := hst.e1
    obtain ⟨cs, b, c, e⟩ := g
    walk_at "sx"
    have fA : decide (0 < b) = true → ∃ x, CInt [D.int b] x ∧ ∃ i, x = D.int i ∧ 0 < m ∧ CDiv b m ∧ Kc { cells := cs, b := b / m, c := c, e := e } (Out.ret (D.int (i % m))) := fun hb => by
      have hb := of_decide_eq_true hb
      refine ⟨_, .inl ⟨b, rfl, rfl⟩, b, rfl, by omega, ⟨by omega, m2⟩, hk _ _ ⟨?_, h2, h3, h4, h5⟩ (Int.emod_nonneg _ (by omega)) (Int.emod_lt_of_pos _ (by omega))⟩
      exact Int.ediv_nonneg h1 (by omega)
    have fB : decide (0 < b) = false → CMul 7907 c ∧ CPow (e + 7907 * c + 104723) 5 ∧ ∃ x, CInt [D.int ((e + 7907 * c + 104723) ^ Int.toNat 5)] x ∧ ∃ i, x = D.int i ∧ (0 : Int) < 2147483629 ∧ CMul (i % 2147483629) 48271 ∧ CMul 30011 c ∧
        CPow (i % 2147483629 * 48271 + 30011 * c + 31) 3 ∧ ∃ x, CInt [D.int ((i % 2147483629 * 48271 + 30011 * c + 31) ^ Int.toNat 3)] x ∧ ∃ i, x = D.int i ∧ (0 : Int) < 1000000007 ∧ 0 < m ∧ Kc { cells := cs, b := b, c := c, e := e } (Out.ret (D.int (i % 1000000007 % m))) := fun hb => by
      simp only at h1 h2 h3 h4 h5
      refine ⟨.inl (by omega), ⟨by omega, by omega, by omega⟩, _, .inl ⟨_, rfl, rfl⟩, _, rfl, by omega, .inr (by omega), .inl (by omega), ?_⟩
      generalize (e + 7907 * c + 104723) ^ Int.toNat 5 = z
      have z0 := Int.emod_nonneg z (b := 2147483629) (by omega)
      have z1 := Int.emod_lt_of_pos z (b := 2147483629) (by omega)
      refine ⟨⟨by omega, by omega, by omega⟩, _, .inl ⟨_, rfl, rfl⟩, _, rfl, by omega, by omega, hk _ _ hst (Int.emod_nonneg _ (by omega)) (Int.emod_lt_of_pos _ (by omega))⟩
    refine ⟨_, fEq_int _ _, _, rfl, fun hb0 => ⟨fun hc => ?_, fun hc => ⟨fA, fB⟩⟩, fun hb0 => ⟨fA, fB⟩⟩
    cases cs with
    | nil => cases hc
    | cons i cs =>
      have a0 : 0 ≤ (if i < 0 then -i else i) := by split <;> omega
      refine ⟨i, cs, rfl, _, ⟨i, rfl, rfl⟩, .inr (by omega), _, rfl, _, .inl ⟨_, rfl, rfl⟩, _, rfl, by omega, ⟨by omega, by omega, by decide⟩, _, rfl, fun _ => ⟨_, rfl, cs.length, by simp, ⟨a0, h2, h3, ?_, ?_⟩, rfl⟩, fun _ => ⟨cs.length, by simp, ⟨Int.le_refl _, h2, h3, ?_, ?_⟩, rfl⟩⟩
      · exact Int.emod_nonneg _ (by omega)
      · exact Int.emod_lt_of_pos _ (by omega)
      · exact Int.emod_nonneg _ (by omega)
      · exact Int.emod_lt_of_pos _ (by omega)
end TL
namespace TL
open PySem PySem.Spec PyProof.Rows L2
section
variable {P : Program} {w : World} {K : PySem.W.Frag} {mg : Str → Option Value} {base : Heap} {x qual : Str} {params : Arguments} {body : List Stmt} {scope : Scope} {f : Addr} {fd : FuncData} {N ps : List Str} {k : Nat}
def rtDA (a q : Addr) (Kc : PS → Out → Prop) : TEnds := { nx := fun r => ∃ g', r[0]? = some (.st a q g') ∧ Kc g' (.ret .non), rt := fun x r => ∃ n d g', x.view = some (n, d) ∧ r[0]? = some (.st a q g') ∧ Kc g' (.ret d) }
theorem okDA {Fs : FnS} (F : FunD K x qual params body scope [] [] f fd) (S : FnScope N ps scope) (hn : ∀ g ds Kc, Fs g ds Kc → ds.length + 1 = ps.length)
    (hbody : ∀ (cdv : Value) (A : Around) (outer : List PySem.Env) (s : Shared) (H : Hp) (G0 : Bs) (E : XK), Room k (A.deeper (envOfC qual scope s.heap.objs.size f cdv)) →
      ∃ (ts : TS) (t : TDS), PSs (cxOf (L2.CX P w) P w K mg base N qual scope f cdv A outer s H E) body ts ∧ SndS G0 ts t ∧
        ∀ a q g ds Kc, Fs g ds Kc → t (rtDA a q Kc) (.st a q g :: (ds.map (.fz false) ++ nos (N.length - (ds.length + 1))))) :
    FnOk P w K mg base (L2.CX P w) (k + 1) f fd ps (spDA Fs) := by
  refine F.ok S (fun vs H Q E ⟨a, q, g, ws, ds, Kc, G, e, _, _, _, _, _, r, h, _⟩ => by rw [e, List.length_cons, r.length]; exact hn g ds Kc h) fun cdv A outer s H vs Q E hr ⟨a, q, g, ws, ds, Kc, G, e, so, le, ga, gq, tp, r, h, kq⟩ => ?_
  subst e
  let B : Bs := ⟨G, fun b => ((H b).isSome && (G b).isNone) && (b != a && b != q), H⟩
  have sOf : ∀ b u, H b = some u → G b = none → b ≠ a → b ≠ q → B.S b = true := fun b u h1 h2 h3 h4 => by
    show (((H b).isSome && (G b).isNone) && (b != a && b != q)) = true
    rw [h1, h2]; simp [h3, h4]
  have sOn : ∀ b, B.S b = true → G b = none ∧ (H b).isSome = true ∧ b ≠ a ∧ b ≠ q := fun b h => by
    have h : (((H b).isSome && (G b).isNone) && (b != a && b != q)) = true := h
    simp only [Bool.and_eq_true, Option.isNone_iff_eq_none, bne_iff_ne, ne_eq] at h
    exact ⟨h.1.2, h.1.1, h.2.1, h.2.2⟩
  obtain ⟨ts, t, d1, d2, d3⟩ := hbody cdv A outer s H B E hr
  refine ⟨ts, d1, ?_⟩
  rw [start_eq (ds := .non :: ds) (by simp [r.length])]
  have E0 := env_fzs (G0 := B) (Le.refl G) le tp (fun b h => ⟨(sOn b h).1, rfl, (sOn b h).2.1⟩) (N.length - (ds.length + 1)) r
  have noreg : ∀ (i : Nat) (y : TL.It) (b : Addr), (ds.map (TL.It.fz false) ++ nos (N.length - (ds.length + 1)))[i]? = some y → y.reg b = true → False := fun i y b h r1 => by
    have : y ∈ ds.map (TL.It.fz false) ++ nos (N.length - (ds.length + 1)) := List.mem_of_getElem? h
    rcases List.mem_append.mp this with h | h
    · obtain ⟨d, _, rfl⟩ := List.mem_map.mp h; simp [It.reg] at r1
    · have : y = .no := by have := List.eq_of_mem_replicate h; exact this
      subst this; simp [It.reg] at r1
  have rg : ∀ b, (TL.It.st a q g).reg b = true → b = a ∨ b = q := fun b h => by simpa [It.reg] using h
  have E1 : EnvG B G H (some (.ref a) :: (ws.map some ++ List.replicate (N.length - (ds.length + 1)) none)) (.st a q g :: (ds.map (.fz false) ++ nos (N.length - (ds.length + 1)))) := ⟨by simpa using E0.len, E0.l0, E0.le, E0.tp, fun i y hy => by
      cases i with
      | zero => simp at hy; subst hy; exact ⟨rfl, so⟩
      | succ i => have := E0.ok i y (by simpa using hy); simpa using this, fun i j y z b hy hz ry rz => by
      cases i with
      | zero =>
        cases j with
        | zero => rfl
        | succ j => exact (noreg j z b (by simpa using hz) rz).elim
      | succ i => exact (noreg i y b (by simpa using hy) ry).elim, fun i y b hy ry => by
      cases i with
      | zero =>
        simp at hy; subst hy
        rcases rg b ry with rfl | rfl
        · exact ⟨ga, by rw [so.2.1]; rfl⟩
        · exact ⟨gq, by rw [so.2.2]; rfl⟩
      | succ i => exact (noreg i y b (by simpa using hy) ry).elim, E0.fr, fun i y b hy ry => by
      cases i with
      | zero =>
        simp at hy; subst hy
        cases z : B.S b with
        | false => rfl
        | true =>
          have := sOn b z
          rcases rg b ry with e | e
          · exact (this.2.2.1 e).elim
          · exact (this.2.2.2 e).elim
      | succ i => exact (noreg i y b (by simpa using hy) ry).elim⟩
  have endG : ∀ {n : List (Option V)} {m : List TL.It} {sg : L2.St} {r' : Rho} {H' G' : Hp} {g' : PS}, EnvG B G' H' (n ++ sg) (m ++ r') → n.length = m.length → r'[0]? = some (.st a q g') →
      (∀ x o, x ≠ a → x ≠ q → H x = some o → H' x = some o) ∧ StOk H' a q g' ∧ ∀ b, G b = none → (G' b).isSome = true → H b = none := fun {n m sg r' H' G' g'} E' hl hr => by
    have hst : (m ++ r')[m.length + 0]? = some (.st a q g') := by rw [get_app]; exact hr
    have ok := E'.ok _ _ hst
    have oa := E'.out _ _ a hst (by simp [It.reg])
    have oq := E'.out _ _ q hst (by simp [It.reg])
    refine ⟨fun x o h1 h2 h3 => ?_, ok.2, fun b h1 h2 => ?_⟩
    · cases z : G x with
      | some u => have := le x u z; rw [h3] at this; cases this; exact E'.le _ _ (E'.l0 _ _ z)
      | none => rw [(E'.fr x (sOf x o h3 z h1 h2)).2.1]; exact h3
    · cases z : H b with
      | none => rfl
      | some u =>
        by_cases e1 : b = a
        · subst e1; rw [oa.1] at h2; cases h2
        · by_cases e2 : b = q
          · subst e2; rw [oq.1] at h2; cases h2
          · rw [(E'.fr b (sOf b u z h1 e1 e2)).1] at h2; cases h2
  refine d2 [] [] _ H _ _ _ rfl ⟨_, E1⟩ (d3 a q g ds Kc h) ⟨fun sg H' r' E' h' => ?_, fun v sg H' x r' E' h' => ?_, fun _ _ _ _ h => h.elim, fun _ _ _ _ h => h.elim⟩
  · obtain ⟨g', h1, h2⟩ := h'
    obtain ⟨G', E'⟩ := E'
    obtain ⟨k1, k2, k3⟩ := endG (n := []) (m := []) E' rfl h1
    exact kq g' _ _ H' G' h2 k1 k2 E'.l0 E'.le E'.tp k3 .non
  · obtain ⟨n, d, g', hv, h1, h2⟩ := h'
    obtain ⟨G', E'⟩ := E'.freeze0 hv
    obtain ⟨k1, k2, k3⟩ := endG (n := [some v]) (m := [.fz n d]) E' rfl h1
    exact kq g' d v H' G' h2 k1 k2 E'.l0 E'.le E'.tp k3 ((fz_val E').imp fun _ _ => trivial)
end
def F_law_between : FnS
  | g, [lo, hi], Kc => ∃ (n : Nat) (l h : Int), lo = .int l ∧ hi = .int h ∧ (-(2 ^ 28) < l ∧ l < 2 ^ 28 ∧ -(2 ^ 28) < h ∧ h < 2 ^ 28) ∧ n < 2 ^ 40 ∧ St n g ∧ ∀ g' v, St (n + 1) g' → l ≤ v → (v ≤ h ∨ v = l) → Kc g' (.ret (.int v))
  | _, _, _ => False
def F_law_one : FnS
  | g, [d], Kc => ∃ (n : Nat) (b : Bool) (xs : List D), d = .seq b xs ∧ xs ≠ [] ∧ xs.length ≤ sizeLine ∧ n < 2 ^ 40 ∧ St n g ∧ ∀ g' x, St (n + 1) g' → x ∈ xs → Kc g' (.ret x)
  | _, _, _ => False
def F_law_mixed : FnS
  | g, [d], Kc => ∃ (n : Nat) (b : Bool) (xs : List D), d = .seq b xs ∧ (∀ x ∈ xs, isFlat x = true) ∧ xs.length ≤ sizeLine ∧ n + xs.length < 2 ^ 40 ∧ St n g ∧ ∀ g' ys, St (n + xs.length) g' → ys.Perm xs → Kc g' (.ret (.seq false ys))
  | _, _, _ => False
def F_law_ring : Fn
  | [many, ring], Kc => ∃ (n : Nat) (rg : Wd), many = .int (n : Nat) ∧ ring = inL rg ∧ rg.Nodup ∧ (∀ i ∈ rg, 0 ≤ i ∧ i < n) ∧ n ≤ sizeLine ∧ ∀ w, IsP n w → Kc (.ret (inL w))
  | _, _ => False
/-- the motion of one ring, place by place -/
def RingOf (n : Nat) (rg w : Wd) : Prop := ∀ i : Nat, i < n → (∃ j, j < rg.length ∧ rg[j]? = some (i : Int) ∧ w[i]? = rg[(j + 1) % rg.length]?) ∨ ((∀ j, j < rg.length → rg[j]? ≠ some (i : Int)) ∧ w[i]? = some (i : Int))
def F_law_ring2 : Fn
  | [many, ring], Kc => ∃ (n : Nat) (rg : Wd), many = .int (n : Nat) ∧ ring = inL rg ∧ rg.Nodup ∧ (∀ i ∈ rg, 0 ≤ i ∧ i < n) ∧ n ≤ sizeLine ∧ ∀ w, IsP n w → RingOf n rg w → Kc (.ret (inL w))
  | _, _ => False
theorem ring_12 : ∀ {ds : List D} {Kc : Out → Prop}, F_law_ring ds Kc → F_law_ring2 ds Kc
  | [_, _], _, ⟨n, rg, h1, h2, h3, h4, h5, h6⟩ => ⟨n, rg, h1, h2, h3, h4, h5, fun w hw _ => h6 w hw⟩
def F_law_draw_motion : FnS
  | g, [many], Kc => ∃ (n m : Nat), many = .int (m : Nat) ∧ (1 ≤ m ∧ m ≤ 1000) ∧ n < 2 ^ 39 ∧ St n g ∧ ∀ g' w, St (n + m + 2) g' → IsP m w → Kc g' (.ret (inL w))
  | _, _, _ => False
def F_law_draw_motions : FnS
  | g, [least, most, gens], Kc => ∃ (n l m k : Nat), least = .int (l : Nat) ∧ most = .int (m : Nat) ∧ gens = .int (k : Nat) ∧ (1 ≤ l ∧ l ≤ m ∧ m ≤ 1000) ∧ (1 ≤ k ∧ k ≤ 1000) ∧ n < 2 ^ 38 ∧ St n g ∧
      ∀ g' (c : Nat) (gs : List Wd), St (n + 3 + k * (m + 2)) g' → l ≤ c → c ≤ m → gs ≠ [] → gs.length ≤ k + 1 → (∀ w ∈ gs, IsP c w) → Kc g' (.ret (.seq false (gs.map inL)))
  | _, _, _ => False
theorem forB_rng {tg : TDG} {tb : TDS} {P : TEnds} {n : Nat} {r : Rho} (I : Nat → Rho → Prop) (h0 : I 0 r) (hs : ∀ k r', k < n → I k r' → tg (.fz true (.int (k : Nat))) r' fun r2 => tb { P with nx := I (k + 1), ct := I (k + 1), bk := P.nx } r2)
    (he : ∀ r', I n r' → P.nx r') : forB tg tb P ((List.range n).map fun i => .fz true (.int (i : Nat))) r := by
  refine ⟨I, h0, fun k x r' hx hI => ?_, fun r' hI => he r' (by simpa using hI)⟩
  rw [List.getElem?_map] at hx
  by_cases hk : k < n
  · rw [List.getElem?_range hk] at hx
    cases hx
    exact hs k r' hk hI
  · rw [List.getElem?_eq_none (by simpa using hk)] at hx; cases hx
theorem seqIx {n : Nat} {v : Int} (h0 : 0 ≤ v) (h1 : v < n) : seqIndex? v n = some v.toNat := by
  unfold seqIndex?
  simp only [Int.not_lt.mpr h0, if_false]
  first
    | (rw [if_pos (by omega)])
    | (rw [if_neg (by omega)])
    | (simp; omega)
theorem ixN_of {n : Nat} {v : Int} (h0 : 0 ≤ v) (h1 : v < n) : ixN n v = some v.toNat := by
  unfold ixN
  rw [if_pos h0, if_pos h1]
theorem erase_perm {α : Type} : ∀ {l : List α} {i : Nat} (h : i < l.length), (l[i] :: l.eraseIdx i).Perm l
  | x :: l, 0, _ => List.Perm.refl _
  | x :: l, i + 1, h => by
    have h' : i < l.length := by simpa using h
    show (l[i] :: x :: l.eraseIdx i).Perm (x :: l)
    exact (List.Perm.swap x l[i] _).trans (List.Perm.cons x (erase_perm h'))
theorem cut_sub (w : Wd) (lo hi : Option Int) : ∃ u : Wd, cutD (w.map .int) lo hi = u.map .int ∧ u.Sublist w :=
  ⟨_, by unfold cutD; rw [← List.map_drop, ← List.map_take], (List.take_sublist _ _).trans (List.drop_sublist _ _)⟩
def rgW (a b : Nat) : Wd := (List.range (b - a)).map fun i => (a : Int) + (i : Nat)
theorem rgD_W (a b : Nat) : rgD (a : Nat) (b : Nat) = (rgW a b).map .int := by
  unfold rgD rgW
  rw [List.map_map]
  have : ((b : Int) - (a : Int)).toNat = b - a := by omega
  rw [this]; rfl
theorem iota_split {h c : Nat} (l : h ≤ c) : iota c = iota h ++ rgW h c := by
  unfold iota rgW
  have e : c = h + (c - h) := by omega
  conv => lhs; rw [e, List.range_add, List.map_append, List.map_map]
  congr 1
theorem isP_app {h c : Nat} {w : Wd} (l : h ≤ c) (p : IsP h w) : IsP c (w ++ rgW h c) := by
  refine .of_perm ?_
  rw [iota_split l]
  exact p.perm.append_right _
theorem isP_swap {h c : Nat} (l : h + h ≤ c) : IsP c ((rgW h (h + h) ++ iota h) ++ rgW (h + h) c) := by
  refine .of_perm ?_
  rw [iota_split l, iota_split (h := h) (c := h + h) (by omega)]
  exact List.perm_append_comm.append_right _
theorem length_rgW {a b : Nat} : (rgW a b).length = b - a := by simp [rgW]
end TL
namespace TL
open PySem PySem.Spec PyProof.Rows L2
local macro_rules | `(tactic| walk_at "sx") => `(tactic| simp only [tgN, tdYes, tdC2, tdNm, tdEx, tdV, tdC, tdRet, tdLc, tdSeqI, tdSeq, tdIfS, tdNext, tdRetN, tdDrop, tdAsg, tdPar, tdTest, tdAnd, tdOr, tdNot, tdAndV, tdOrV, tdNotV, tdIf, tdCons, tdNil, tfNil, tfCons, tdLst, tdTup, tdI0, tdI, tdOp1, tdOp2, tdEqD, tdIsN, tdIn, tdInD, tdB, tdL, tdT, tdL2, tdCallP, tdCallPD, tdCallA, tdCallD, tdCallDA, tdUnp, tgT, tdRng1, tdRng2, tdFor, tdApp, tdSetL, tdDPut, tdPop, tdPopAt, tdExt, tdAug, tdDictK, tdDictT, tdDict, tdDictA, tdDisp1T, tdListA, tdEnumI, tdZipI, tdRaise, tdIsi, tdIndex, tdLstRg1, tdLstRg2, tdTupRg1, tdSlice, tdNoP, tdSoP, tdNeg, tdForK, tdLcK, tdBreak, tdCont, setsR, tdStIx, tdStNe, tdStPop, tdStSet, stF, stS,
  nos, List.replicate, List.map_cons, List.map_nil, List.length_cons, List.length_nil, List.cons_append, List.nil_append, List.set_cons_zero, List.set_cons_succ, List.getElem?_cons_zero, List.getElem?_cons_succ, List.getD_cons_zero, List.getD_cons_succ, wR, List.foldr_cons, List.foldr_nil, dats, cdats, opd_dat, opd_cview, it_sl, it_tm, view_fz, view_ow, view_dp, cview_fz, cview_ow, val_fz, val_ow, val_dp, val_st, D.seq.injEq, D.int.injEq, D.str.injEq, Option.map_some, Option.some.injEq, Prod.mk.injEq, List.cons.injEq, and_true, true_and, exists_eq_left', exists_and_left, exists_eq_left, exists_eq_right, rtP, rtA, rtD, rtDA, outK, outA, excK, excA, Nat.reduceAdd, Nat.reduceSub, Nat.zero_add, Bool.and_true, Bool.true_and, Bool.false_or, Bool.true_or, Bool.or_true, Bool.or_false, Bool.false_and, Bool.and_false, exists_const, and_self, exists_prop, and_assoc, TL.It.fz.injEq, TL.It.ow.injEq, TL.It.st.injEq, Function.comp_apply, D.bl.injEq, exists_eq', eq_self, reduceCtorEq, false_implies, true_implies, implies_true, forall_const, Bool.not_true, Bool.not_false, Bool.true_eq_false, Bool.false_eq_true, if_false, if_true, Bool.not_eq_true', Bool.not_eq_false', ite_false, ite_true, Bool.not_not, forall_eq, forall_eq'])
/-- _law_between: ['state', 'low', 'high'] -/
def t_law_between : TDS :=
  (tdRet (tdI0 (fun i j => .int (i + j)) (tdNm 1) (tdEx (tdCallD 0 F_law_pick (tdCons (tdEx (tdI0 (fun i j => .int (i + j)) (tdEx (tdB CMax2 (tdCons (tdEx (tdI0 (fun i j => .int (i - j)) (tdNm 2) (tdNm 1))) (tdCons (tdEx (tdC (.int 0))) tdNil)))) (tdEx (tdC (.int 1))))) tdNil)))))
/-- _law_one: ['state', 'things'] -/
def t_law_one : TDS :=
  (tdRet (tdC2 CIx (tdNm 1) (tdEx (tdCallD 0 F_law_pick (tdCons (tdEx (tdB CLen (tdCons (tdNm 1) tdNil))) tdNil)))))
/-- _law_mixed: ['state', 'things', 'left', 'found', 'k'] -/
def t_law_mixed : TDS :=
  (tdSeq (tdPar (tdListA (tdCons (tdNm 1) tdNil)) (tdLst tfNil) 2 3)
      (tdSeq (tdFor (tdRng1 (tdCons (tdEx (tdB CLen (tdCons (tdNm 2) tdNil))) tdNil)) (tgN 4)
      (tdApp 3 (tdPopAt 2 (tdEx (tdCallD 0 F_law_pick (tdCons (tdEx (tdB CLen (tdCons (tdNm 2) tdNil))) tdNil))))))
      (tdRet (tdV 3))))
/-- _law_ring: ['many', 'ring', 'motion', 'k'] -/
def t_law_ring (Xc : XC) : TDS :=
  (tdSeq (tdAsg (tdLstRg1 (tdNm 0)) 2)
      (tdSeq (tdFor (tdRng1 (tdCons (tdEx (tdB CLen (tdCons (tdNm 1) tdNil))) tdNil)) (tgN 3)
      (tdSetL 2 (tdC2 CIx (tdNm 1) (tdEx (tdI (fun _ j => 0 < j) (fun i j => .int (i % j)) (tdEx (tdI0 (fun i j => .int (i + j)) (tdNm 3) (tdEx (tdC (.int 1))))) (tdEx (tdB CLen (tdCons (tdNm 1) tdNil)))))) (tdEx (tdC2 CIx (tdNm 1) (tdNm 3)))))
      (tdRet (tdV 2))))
/-- _law_draw_motion: ['state', 'many', 'kind', 'places', 'size'] -/
def t_law_draw_motion : TDS :=
  (tdSeq (tdAsg (tdCallD 0 F_law_pick (tdCons (tdEx (tdC (.int 8))) tdNil)) 2)
      (tdSeq (tdAsg (tdCallD 0 F_law_mixed (tdCons (tdEx (tdLstRg1 (tdNm 1))) tdNil)) 3)
      (tdSeq (tdIfS (tdTest (tdI0 (fun i j => .bl (decide (i < j))) (tdNm 2) (tdEx (tdC (.int 2))))) (tdRet (tdV 3)) tdNext)
      (tdSeq (tdIfS (tdAnd (tdTest (tdOp2 fEq (tdNm 2) (tdEx (tdC (.int 2))))) (tdTest (tdI0 (fun i j => .bl (decide (j < i))) (tdNm 1) (tdEx (tdC (.int 3)))))) (tdRet (tdCallP F_law_then (fun _ _ _ _ => False) (tdCons (tdEx (tdCallP F_law_ring (fun _ _ _ _ => False) (tdCons (tdNm 1) (tdCons (tdEx (tdSlice (tdNm 3) tdNoP (tdSoP (tdEx (tdC (.int 2)))))) tdNil)))) (tdCons (tdEx (tdCallP F_law_ring (fun _ _ _ _ => False) (tdCons (tdNm 1) (tdCons (tdEx (tdSlice (tdNm 3) (tdSoP (tdEx (tdC (.int 2)))) (tdSoP (tdEx (tdC (.int 4)))))) tdNil)))) tdNil)))) tdNext)
      (tdSeq (tdAsg (tdC2 CIx (tdEx (tdLst (tfCons (tdC (.int 2)) (tfCons (tdC (.int 3)) (tfCons (tdC (.int 3)) (tfCons (tdC (.int 4)) (tfCons (tdV 1) (tfCons (tdC (.int 0)) tfNil)))))))) (tdEx (tdCallD 0 F_law_pick (tdCons (tdEx (tdC (.int 6))) tdNil)))) 4)
      (tdRet (tdIf (tdAnd (tdTest (tdI0 (fun i j => .bl (decide (j < i))) (tdNm 4) (tdEx (tdC (.int 1))))) (tdTest (tdI0 (fun i j => .bl (decide (j < i))) (tdNm 1) (tdEx (tdC (.int 1)))))) (tdCallP F_law_ring (fun _ _ _ _ => False) (tdCons (tdNm 1) (tdCons (tdEx (tdSlice (tdNm 3) tdNoP (tdSoP (tdEx (tdB CMin2 (tdCons (tdNm 4) (tdCons (tdNm 1) tdNil))))))) tdNil))) (tdLstRg1 (tdNm 1)))))))))
/-- _law_draw_motions: ['state', 'least', 'most', 'gens', 'many', 'found', 'k', 'half'] -/
def t_law_draw_motions : TDS :=
  (tdSeq (tdAsg (tdCallD 0 F_law_between (tdCons (tdNm 1) (tdCons (tdNm 2) tdNil))) 4)
      (tdSeq (tdAsg (tdLc (tdRng1 (tdCons (tdEx (tdI0 (fun i j => .int (i + j)) (tdEx (tdC (.int 1))) (tdEx (tdCallD 0 F_law_pick (tdCons (tdNm 3) tdNil))))) tdNil)) (tgN 6) tdYes (tdCallD 0 F_law_draw_motion (tdCons (tdNm 4) tdNil)) [6]) 5)
      (tdSeq (tdIfS (tdAnd (tdTest (tdI0 (fun i j => .bl (decide (j < i))) (tdNm 4) (tdEx (tdC (.int 3))))) (tdTest (tdOp2 fEq (tdEx (tdCallD 0 F_law_pick (tdCons (tdEx (tdC (.int 5))) tdNil))) (tdEx (tdC (.int 0)))))) (tdSeq (tdAsg (tdIf (tdTest (tdI0 (fun i j => .bl (decide (i < j))) (tdNm 4) (tdEx (tdC (.int 6))))) (tdC (.int 2)) (tdC (.int 3))) 7)
      (tdAsg (tdLst (tfCons (tdL2 CCat (tdEx (tdCallP F_law_ring (fun _ _ _ _ => False) (tdCons (tdNm 7) (tdCons (tdEx (tdLstRg1 (tdNm 7))) tdNil)))) (tdEx (tdLstRg2 (tdNm 7) (tdNm 4)))) (tfCons (tdL2 CCat (tdEx (tdL2 CCat (tdEx (tdLstRg2 (tdNm 7) (tdEx (tdI CMul (fun i j => .int (i * j)) (tdNm 7) (tdEx (tdC (.int 2))))))) (tdEx (tdLstRg1 (tdNm 7))))) (tdEx (tdLstRg2 (tdEx (tdI CMul (fun i j => .int (i * j)) (tdNm 7) (tdEx (tdC (.int 2))))) (tdNm 4)))) tfNil))) 5)) tdNext)
      (tdRet (tdV 5)))))
theorem vc_law_between : ∀ a q g ds Kc, F_law_between g ds Kc → t_law_between (rtD a q Kc) (.st a q g :: (ds.map (.fz false) ++ nos (3 - (ds.length + 1)))) := by
  intro a q g ds Kc h
  match ds, h with
  | [_, _], ⟨n, l, h, rfl, rfl, hb, hn, hst, hk⟩ =>
    unfold t_law_between
    walk_at "sx"
    simp only [F_law_pick, outK]
    have hm : (if 0 > h - l then (0 : Int) else h - l) = if 0 > h - l then 0 else h - l := rfl
    refine ⟨_, ⟨h - l, 0, rfl, rfl⟩, _, rfl, by simp, n, _, rfl, ?_, hn, hst, fun g' v s1 v0 v1 => ⟨v, rfl, hk g' _ s1 (by omega) ?_⟩⟩
    · split <;> omega
    · split at v1 <;> omega
theorem vc_law_one : ∀ a q g ds Kc, F_law_one g ds Kc → t_law_one (rtDA a q Kc) (.st a q g :: (ds.map (.fz false) ++ nos (2 - (ds.length + 1)))) := by
  intro a q g ds Kc h
  match ds, h with
  | [_], ⟨n, b, xs, rfl, h0, hz, hn, hst, hk⟩ =>
    unfold t_law_one
    walk_at "sx"
    simp only [F_law_pick, outK]
    have hp : 0 < xs.length := List.length_pos_iff.mpr h0
    rw [sizeLine_eq] at hz
    refine ⟨_, rfl, by simp, n, _, rfl, by omega, hn, hst, fun g' v s1 v0 v1 => ?_⟩
    have hl : v.toNat < xs.length := by omega
    have e : xs[v.toNat]? = some xs[v.toNat] := List.getElem?_eq_getElem hl
    have := cix_nat (b := b) e
    rw [show ((v.toNat : Nat) : Int) = v by omega] at this
    refine ⟨_, this, ?_⟩
    first | exact hk g' _ s1 (List.getElem_mem hl) | exact ⟨_, rfl, hk g' _ s1 (List.getElem_mem hl)⟩ | exact ⟨_, _, _, rfl, rfl, hk g' _ s1 (List.getElem_mem hl)⟩
theorem vc_law_mixed : ∀ a q g ds Kc, F_law_mixed g ds Kc → t_law_mixed (rtD a q Kc) (.st a q g :: (ds.map (.fz false) ++ nos (5 - (ds.length + 1)))) := by
  intro a q g ds Kc h
  match ds, h with
  | [_], ⟨n, b, xs, rfl, hf, hz, hn, hst, hk⟩ =>
    unfold t_law_mixed
    walk_at "sx"
    rw [sizeLine_eq] at hz
    refine ⟨xs, rfl, fun p => ⟨Nat.zero_le _, fun p1 => ⟨_, rfl, _, rfl, by omega, by omega, ?_⟩⟩⟩
    rw [Int.toNat_natCast]
    refine forB_rng (fun k r => ∃ g' L F y, r = [.st a q g', .fz false (.seq b xs), .ow p false (.seq false L), .ow p1 true (.seq false F), y] ∧ St (n + k) g' ∧ (F ++ L).Perm xs ∧ F.length = k) ⟨g, xs, [], _, rfl, hst, List.Perm.refl _, rfl⟩ ?_ ?_
    · rintro k _ hk' ⟨g', L, F, y, rfl, s1, pm, hl⟩
      have hL : F.length + L.length = xs.length := by rw [← List.length_append]; exact pm.length_eq
      walk_at "sx"
      simp only [F_law_pick, outK]
      refine ⟨_, rfl, by simp, n + k, _, rfl, by omega, by omega, s1, fun g2 v s2 v0 v1 => ?_⟩
      have hv : v.toNat < L.length := by omega
      have e : L[v.toNat]? = some L[v.toNat] := List.getElem?_eq_getElem hv
      have hm : L[v.toNat] ∈ xs := pm.mem_iff.mp (List.mem_append_right _ (List.getElem_mem hv))
      refine ⟨v, rfl, by omega, by omega, v.toNat, seqIx v0 v1, _, e, by rw [sizeLine_eq]; omega, hf _ hm, s2.up (by omega), ?_, by simp [hl]⟩
      refine List.Perm.trans ?_ pm
      rw [List.append_assoc]
      exact List.Perm.append_left F (erase_perm hv)
    · rintro _ ⟨g', L, F, y, rfl, s1, pm, hl⟩
      have hL : F.length + L.length = xs.length := by rw [← List.length_append]; exact pm.length_eq
      have : L = [] := List.length_eq_zero_iff.mp (by omega)
      subst this
      walk_at "sx"
      exact hk g' F s1 (by simpa using pm)
theorem vc_law_ring2 : ∀ ds Kc, F_law_ring2 ds Kc → t_law_ring (excK Kc) (rtP Kc) (ds.map (.fz false) ++ nos (4 - ds.length)) := by
  intro ds Kc h
  match ds, h with
  | [_, _], ⟨n, rg, rfl, rfl, hnd, hbd, hz, hk⟩ =>
    unfold t_law_ring
    walk_at "sx"
    have hlen : rg.length ≤ n := by
      have := nodup_le hnd (m := iota n) fun i hi => mem_iota.mpr (hbd i hi)
      rwa [length_iota] at this
    have hz2 := hz
    rw [sizeLine_eq] at hz2
    refine ⟨rgOk_nat hz, fun p => ⟨_, rfl, _, rfl, by rw [List.length_map]; omega, by rw [List.length_map]; omega, ?_⟩⟩
    rw [rgD_iota, List.length_map, Int.toNat_natCast]
    -- behind k turns
    refine forB_rng (fun k r => ∃ w y, r = [.fz false (.int (n : Nat)), .fz false (inL rg), .ow p true (inL w), y] ∧ w.length = n ∧ ∀ i : Nat, i < n → (∃ j, j < k ∧ rg[j]? = some (i : Int) ∧ w[i]? = rg[(j + 1) % rg.length]?) ∨ ((∀ j, j < k → rg[j]? ≠ some (i : Int)) ∧ w[i]? = some (i : Int))) ⟨iota n, _, rfl, length_iota, fun i hi => .inr ⟨fun j hj => by omega, iota_get hi⟩⟩ ?_ ?_
    · rintro k _ hk' ⟨w, y, rfl, hw, hI⟩
      walk_at "sx"
      have hL : 0 < rg.length := by omega
      have hm2 : (k + 1) % rg.length < rg.length := Nat.mod_lt _ hL
      have eb : rg[(k + 1) % rg.length]? = some rg[(k + 1) % rg.length] := List.getElem?_eq_getElem hm2
      have ek : rg[k]? = some rg[k] := List.getElem?_eq_getElem hk'
      obtain ⟨k0, k1⟩ := hbd _ (List.getElem_mem hk')
      have e1 : (((k : Int) + 1) % (rg.length : Int)) = (((k + 1) % rg.length : Nat) : Int) := by
        rw [Int.natCast_emod]; rfl
      have hlen' : ((rg.map D.int).length : Int) = (rg.length : Int) := by rw [List.length_map]
      refine ⟨_, rfl, _, rfl, by rw [hlen']; omega, .int rg[(k + 1) % rg.length], ?_, .int rg[k], cix_nat (by rw [List.getElem?_map, ek]; rfl), _, rfl, rg[k].toNat, ixN_of k0 (by rw [List.length_map, hw]; exact k1), rfl, w.set rg[k].toNat rg[(k + 1) % rg.length], ?_, by simp [hw], fun i hi => ?_⟩
      · rw [hlen', e1]
        exact cix_nat (by rw [List.getElem?_map, eb]; rfl)
      · rw [List.map_set]
      · by_cases hik : i = rg[k].toNat
        · subst hik
          left
          refine ⟨k, by omega, by rw [ek]; congr 1; omega, ?_⟩
          rw [List.getElem?_set_self (by rw [hw]; exact hi), eb]
        · rw [List.getElem?_set_ne (Ne.symm hik)]
          rcases hI i hi with ⟨j, hj, h1, h2⟩ | ⟨h1, h2⟩
          · exact .inl ⟨j, by omega, h1, h2⟩
          · refine .inr ⟨fun j hj he => ?_, h2⟩
            by_cases hjk : j = k
            · subst hjk
              rw [ek] at he
              have := Option.some.inj he
              omega
            · exact h1 j (by omega) he
    · rintro _ ⟨w, y, rfl, hw, hI⟩
      walk_at "sx"
      refine hk w ⟨hw, fun v hv => ?_, ?_⟩ hI
      · obtain ⟨i, hi⟩ := List.getElem?_of_mem hv
        have hin : i < n := by rw [← hw]; exact (List.getElem?_eq_some_iff.mp hi).1
        rcases hI i hin with ⟨j, hj, h1, h2⟩ | ⟨h1, h2⟩
        · rw [hi] at h2
          exact hbd v (List.mem_of_getElem? h2.symm)
        · rw [hi] at h2
          have := Option.some.inj h2
          omega
      · refine List.pairwise_iff_getElem.mpr fun i i' hi hi' hii he => ?_
        have hin : i < n := by rw [← hw]; exact hi
        have hin' : i' < n := by rw [← hw]; exact hi'
        have ei : w[i]? = some w[i] := List.getElem?_eq_getElem hi
        have ei' : w[i']? = some w[i'] := List.getElem?_eq_getElem hi'
        have md : ∀ j, j < rg.length → (j + 1) % rg.length < rg.length := fun j hj => Nat.mod_lt _ (by omega)
        have md2 : ∀ j, j < rg.length → (j + 1) % rg.length = if j + 1 = rg.length then 0 else j + 1 := fun j hj => by
          split
          · rename_i h; rw [h, Nat.mod_self]
          · exact Nat.mod_eq_of_lt (by omega)
        rcases hI i hin with ⟨j, hj, h1, h2⟩ | ⟨h1, h2⟩ <;> rcases hI i' hin' with ⟨j', hj', h1', h2'⟩ | ⟨h1', h2'⟩
        · rw [ei] at h2
          rw [ei', ← he] at h2'
          have e := nodup_get hnd h2.symm h2'.symm
          rw [md2 j hj, md2 j' hj'] at e
          have : j = j' := by split at e <;> split at e <;> omega
          subst this
          rw [h1] at h1'
          have := Option.some.inj h1'
          omega
        · rw [ei', ← he] at h2'
          rw [ei, h2'] at h2
          exact h1' _ (md j hj) h2.symm
        · rw [ei] at h2
          rw [ei', ← he, h2] at h2'
          exact h1 _ (md j' hj') h2'.symm
        · rw [ei] at h2
          rw [ei', ← he, h2] at h2'
          have := Option.some.inj h2'
          omega
theorem vc_law_ring : ∀ ds Kc, F_law_ring ds Kc → t_law_ring (excK Kc) (rtP Kc) (ds.map (.fz false) ++ nos (4 - ds.length)) := fun ds Kc h => vc_law_ring2 ds Kc (ring_12 h)
end TL
namespace TL
open PySem PySem.Spec PyProof.Rows L2
local macro_rules | `(tactic| walk_at "sx") => `(tactic| simp only [tgN, tdYes, tdC2, tdNm, tdEx, tdV, tdC, tdRet, tdLc, tdSeqI, tdSeq, tdIfS, tdNext, tdRetN, tdDrop, tdAsg, tdPar, tdTest, tdAnd, tdOr, tdNot, tdAndV, tdOrV, tdNotV, tdIf, tdCons, tdNil, tfNil, tfCons, tdLst, tdTup, tdI0, tdI, tdOp1, tdOp2, tdEqD, tdIsN, tdIn, tdInD, tdB, tdL, tdT, tdL2, tdCallP, tdCallPD, tdCallA, tdCallD, tdCallDA, tdUnp, tgT, tdRng1, tdRng2, tdFor, tdApp, tdSetL, tdDPut, tdPop, tdPopAt, tdExt, tdAug, tdDictK, tdDictT, tdDict, tdDictA, tdDisp1T, tdListA, tdEnumI, tdZipI, tdRaise, tdIsi, tdIndex, tdLstRg1, tdLstRg2, tdTupRg1, tdSlice, tdNoP, tdSoP, tdNeg, tdForK, tdLcK, tdBreak, tdCont, setsR, tdStIx, tdStNe, tdStPop, tdStSet, stF, stS,
  nos, List.replicate, List.map_cons, List.map_nil, List.length_cons, List.length_nil, List.cons_append, List.nil_append, List.set_cons_zero, List.set_cons_succ, List.getElem?_cons_zero, List.getElem?_cons_succ, List.getD_cons_zero, List.getD_cons_succ, wR, List.foldr_cons, List.foldr_nil, dats, cdats, opd_dat, opd_cview, it_sl, it_tm, view_fz, view_ow, view_dp, cview_fz, cview_ow, val_fz, val_ow, val_dp, val_st, D.seq.injEq, D.int.injEq, D.str.injEq, Option.map_some, Option.some.injEq, Prod.mk.injEq, List.cons.injEq, and_true, true_and, exists_eq_left', exists_and_left, exists_eq_left, exists_eq_right, rtP, rtA, rtD, rtDA, outK, outA, excK, excA, Nat.reduceAdd, Nat.reduceSub, Nat.zero_add, Bool.and_true, Bool.true_and, Bool.false_or, Bool.true_or, Bool.or_true, Bool.or_false, Bool.false_and, Bool.and_false, exists_const, and_self, exists_prop, and_assoc, TL.It.fz.injEq, TL.It.ow.injEq, TL.It.st.injEq, Function.comp_apply, D.bl.injEq, exists_eq', eq_self, reduceCtorEq, false_implies, true_implies, implies_true, forall_const, Bool.not_true, Bool.not_false, Bool.true_eq_false, Bool.false_eq_true, if_false, if_true, Bool.not_eq_true', Bool.not_eq_false', ite_false, ite_true, Bool.not_not, forall_eq, forall_eq'])
theorem vc_law_draw_motion : ∀ a q g ds Kc, F_law_draw_motion g ds Kc → t_law_draw_motion (rtD a q Kc) (.st a q g :: (ds.map (.fz false) ++ nos (5 - (ds.length + 1)))) := by
  intro a q g ds Kc h
  match ds, h with
  | [_], ⟨n, m, rfl, ⟨m1, m2⟩, hn, hst, hk⟩ =>
    unfold t_law_draw_motion
    walk_at "sx"
    simp only [F_law_pick, F_law_mixed, F_law_then, F_law_ring, outK]
    refine ⟨by simp, n, 8, rfl, by omega, by omega, hst, fun g1 v s1 v0 v1 => ?_⟩
    refine ⟨rgOk_nat (by rw [sizeLine_eq]; omega), fun p => ?_⟩
    rw [rgD_iota]
    refine ⟨by simp, n + 1, false, (iota m).map .int, rfl, fun x hx => ?_, ?_, ?_, s1, fun g2 ys s2 pm => ?_⟩
    · obtain ⟨i, _, rfl⟩ := List.mem_map.mp hx; rfl
    · rw [List.length_map, length_iota, sizeLine_eq]; omega
    · rw [List.length_map, length_iota]; omega
    rw [List.length_map, length_iota] at s2
    -- the places, mixed
    obtain ⟨w, rfl⟩ : ∃ w : Wd, ys = w.map .int := ⟨ys.filterMap fun d => match d with | .int i => some i | _ => none, by
      have : ∀ l : List D, (∀ x ∈ l, ∃ i, x = D.int i) → l = (l.filterMap fun d => match d with | .int i => some i | _ => none).map D.int := by
        intro l
        induction l with
        | nil => intro _; rfl
        | cons x l ih =>
          intro h
          obtain ⟨i, rfl⟩ := h x List.mem_cons_self
          rw [List.filterMap_cons]
          show _ = (i :: _).map D.int
          rw [List.map_cons, ← ih fun y hy => h y (List.mem_cons_of_mem _ hy)]
      exact this ys fun x hx => by
        obtain ⟨i, _, rfl⟩ := List.mem_map.mp (pm.mem_iff.mp hx)
        exact ⟨i, rfl⟩⟩
    have hw : IsP m w := .of_perm (by
      have := pm.filterMap fun d => match d with | .int i => some i | _ => none
      simpa [List.filterMap_map, Function.comp_def] using this)
    walk_at "sx"
    have hz : m ≤ sizeLine := by rw [sizeLine_eq]; omega
    have idP : RgOk 0 (m : Nat) ∧ ∀ g', St (n + 1 + m + 1) g' → Kc g' (Out.ret (D.seq false ((iota m).map D.int))) := ⟨rgOk_nat hz, fun g' s' => hk g' _ (s'.up (by omega)) .iota⟩
    have tail : 6 ≤ sizeLine ∧ (∀ (o : Opd), o ∈ [Opd.tm (It.fz true (D.int 6))] → ∀ (j : Nat), o = Opd.sl j → j ≠ 0) ∧ (1 : Int) ≤ 6 ∧ (6 : Int) < 1073741824 ∧ ∃ x, x < 2 ^ 40 ∧ St x g2 ∧ ∀ (g' : PS) (v : Int), St (x + 1) g' → 0 ≤ v → v < 6 →
        ∃ x, CIx (D.seq false [D.int 2, D.int 3, D.int 3, D.int 4, D.int (m : Nat), D.int 0]) (D.int v) x ∧ ∃ i, x = D.int i ∧
          (decide (1 < i) = true → (decide (1 < (m : Int)) = true → ∃ x_2, CMin2 [x, D.int (m : Nat)] x_2 ∧ ∃ i, x_2 = D.int i ∧ ∃ n : Nat, (m : Int) = (n : Int) ∧ ∃ x, cutD (List.map D.int w) none (some i) = List.map D.int x ∧ List.Nodup x ∧ (∀ (i : Int), i ∈ x → 0 ≤ i ∧ i < (n : Nat)) ∧ n ≤ sizeLine ∧ ∀ (w : Wd), IsP n w → Kc g' (Out.ret (inL w))) ∧
            (decide (1 < (m : Int)) = false → RgOk 0 (m : Nat) ∧ Kc g' (Out.ret (D.seq false (List.map D.int (iota m)))))) ∧
          (decide (1 < i) = false → RgOk 0 (m : Nat) ∧ Kc g' (Out.ret (D.seq false (List.map D.int (iota m))))) := by
      refine ⟨by rw [sizeLine_eq]; omega, by simp, by omega, by omega, n + 1 + m, by omega, s2, fun g' v s3 v0 v1 => ?_⟩
      have hk' : ∀ w, IsP m w → Kc g' (.ret (inL w)) := fun w h => hk g' w (s3.up (by omega)) h
      obtain ⟨i, hi⟩ : ∃ i, CIx (D.seq false [D.int 2, D.int 3, D.int 3, D.int 4, D.int (m : Nat), D.int 0]) (D.int v) (.int i) := by
        have hv : v = 0 ∨ v = 1 ∨ v = 2 ∨ v = 3 ∨ v = 4 ∨ v = 5 := by omega
        rcases hv with rfl | rfl | rfl | rfl | rfl | rfl
        · exact ⟨_, cix_nat (i := 0) rfl⟩
        · exact ⟨_, cix_nat (i := 1) rfl⟩
        · exact ⟨_, cix_nat (i := 2) rfl⟩
        · exact ⟨_, cix_nat (i := 3) rfl⟩
        · exact ⟨_, cix_nat (i := 4) rfl⟩
        · exact ⟨_, cix_nat (i := 5) rfl⟩
      refine ⟨_, hi, i, rfl, fun hb => ⟨fun _ => ⟨_, ⟨i, m, rfl, rfl⟩, _, rfl, m, rfl, ?_⟩, fun _ => ⟨idP.1, hk' _ .iota⟩⟩, fun _ => ⟨idP.1, hk' _ .iota⟩⟩
      obtain ⟨u, hu, hs⟩ := cut_sub w none (some (if (m : Int) < i then (m : Int) else i))
      exact ⟨u, hu, hs.nodup hw.nd, fun j hj => hw.bd j (hs.subset hj), hz, fun w' h' => hk' w' h'⟩
    refine ⟨fun _ => hk g2 _ (s2.up (by omega)) hw, fun _ => ⟨_, fEq_int _ _, _, rfl, fun _ => ⟨fun _ => ⟨m, rfl, ?_⟩, fun _ => tail⟩, fun _ => tail⟩⟩
    obtain ⟨u, hu, hs⟩ := cut_sub w none (some 2)
    refine ⟨u, hu, hs.nodup hw.nd, fun j hj => hw.bd j (hs.subset hj), hz, fun w1 h1 => ⟨m, rfl, ?_⟩⟩
    obtain ⟨u2, hu2, hs2⟩ := cut_sub w (some 2) (some 4)
    exact ⟨u2, hu2, hs2.nodup hw.nd, fun j hj => hw.bd j (hs2.subset hj), hz, fun w2 h2 => ⟨m, w1, rfl, w2, rfl, h1, h2, hz, hk g2 _ (s2.up (by omega)) (h1.mul h2)⟩⟩
end TL
namespace TL
open PySem PySem.Spec PyProof.Rows L2
local macro_rules | `(tactic| walk_at "sx") => `(tactic| simp only [tgN, tdYes, tdC2, tdNm, tdEx, tdV, tdC, tdRet, tdLc, tdSeqI, tdSeq, tdIfS, tdNext, tdRetN, tdDrop, tdAsg, tdPar, tdTest, tdAnd, tdOr, tdNot, tdAndV, tdOrV, tdNotV, tdIf, tdCons, tdNil, tfNil, tfCons, tdLst, tdTup, tdI0, tdI, tdOp1, tdOp2, tdEqD, tdIsN, tdIn, tdInD, tdB, tdL, tdT, tdL2, tdCallP, tdCallPD, tdCallA, tdCallD, tdCallDA, tdUnp, tgT, tdRng1, tdRng2, tdFor, tdApp, tdSetL, tdDPut, tdPop, tdPopAt, tdExt, tdAug, tdDictK, tdDictT, tdDict, tdDictA, tdDisp1T, tdListA, tdEnumI, tdZipI, tdRaise, tdIsi, tdIndex, tdLstRg1, tdLstRg2, tdTupRg1, tdSlice, tdNoP, tdSoP, tdNeg, tdForK, tdLcK, tdBreak, tdCont, setsR, tdStIx, tdStNe, tdStPop, tdStSet, stF, stS,
  nos, List.replicate, List.map_cons, List.map_nil, List.length_cons, List.length_nil, List.cons_append, List.nil_append, List.set_cons_zero, List.set_cons_succ, List.getElem?_cons_zero, List.getElem?_cons_succ, List.getD_cons_zero, List.getD_cons_succ, wR, List.foldr_cons, List.foldr_nil, dats, cdats, opd_dat, opd_cview, it_sl, it_tm, view_fz, view_ow, view_dp, cview_fz, cview_ow, val_fz, val_ow, val_dp, val_st, D.seq.injEq, D.int.injEq, D.str.injEq, Option.map_some, Option.some.injEq, Prod.mk.injEq, List.cons.injEq, and_true, true_and, exists_eq_left', exists_and_left, exists_eq_left, exists_eq_right, rtP, rtA, rtD, rtDA, outK, outA, excK, excA, Nat.reduceAdd, Nat.reduceSub, Nat.zero_add, Bool.and_true, Bool.true_and, Bool.false_or, Bool.true_or, Bool.or_true, Bool.or_false, Bool.false_and, Bool.and_false, exists_const, and_self, exists_prop, and_assoc, TL.It.fz.injEq, TL.It.ow.injEq, TL.It.st.injEq, Function.comp_apply, D.bl.injEq, exists_eq', eq_self, reduceCtorEq, false_implies, true_implies, implies_true, forall_const, Bool.not_true, Bool.not_false, Bool.true_eq_false, Bool.false_eq_true, if_false, if_true, Bool.not_eq_true', Bool.not_eq_false', ite_false, ite_true, Bool.not_not, forall_eq, forall_eq'])
theorem vc_law_draw_motions : ∀ a q g ds Kc, F_law_draw_motions g ds Kc → t_law_draw_motions (rtD a q Kc) (.st a q g :: (ds.map (.fz false) ++ nos (8 - (ds.length + 1)))) := by
  intro a q g ds Kc h
  match ds, h with
  | [_, _, _], ⟨n, l, m, k, rfl, rfl, rfl, ⟨l1, l2, l3⟩, ⟨k1, k2⟩, hn, hst, hk⟩ =>
    unfold t_law_draw_motions
    walk_at "sx"
    simp only [F_law_pick, F_law_between, outK]
    refine ⟨by simp, n, l, m, rfl, rfl, by omega, by omega, hst, fun g1 c s1 c0 c1 => ?_⟩
    walk_at "sx"
    obtain ⟨c, rfl⟩ : ∃ d : Nat, c = (d : Int) := ⟨c.toNat, by omega⟩
    have cl : l ≤ c := by omega
    have cm : c ≤ m := by omega
    refine ⟨by simp, by omega, by omega, n + 1, by omega, s1, fun g2 v s2 v0 v1 => ⟨by omega, by omega, ?_⟩⟩
    obtain ⟨v, rfl⟩ : ∃ d : Nat, v = (d : Int) := ⟨v.toNat, by omega⟩
    have ev : (1 + (v : Int)).toNat = v + 1 := by omega
    rw [ev]
    have kv : (v + 1) * (m + 2) ≤ k * (m + 2) := Nat.mul_le_mul_right _ (by omega)
    have km : k * (m + 2) ≤ 1002000 := by
      calc k * (m + 2) ≤ 1000 * 1002 := Nat.mul_le_mul k2 (by omega)
        _ = 1002000 := rfl
    refine ⟨by rw [List.length_map, List.length_range, sizeLine_eq]; omega, true, fun j acc r => ∃ g' gs, r = [.st a q g', .fz false (.int (l : Nat)), .fz false (.int (m : Nat)), .fz false (.int (k : Nat)), .fz true (.int (c : Nat)), .no, .no, .no] ∧ St (n + 2 + j * (m + 2)) g' ∧ acc = gs.map inL ∧ gs.length = j ∧ ∀ w ∈ gs, IsP c w, ⟨g2, [], rfl, s2.up (by omega), rfl, rfl, fun _ h => by cases h⟩, ?_, ?_⟩
    · rintro j x acc _ hx hacc ⟨g', gs, rfl, s3, rfl, hl, hp⟩
      have hj : j < v + 1 := by
        have := (List.getElem?_eq_some_iff.mp hx).1
        simpa using this
      have jm : (j + 1) * (m + 2) ≤ (v + 1) * (m + 2) := Nat.mul_le_mul_right _ (by omega)
      have e1 : (j + 1) * (m + 2) = j * (m + 2) + (m + 2) := Nat.succ_mul j (m + 2)
      walk_at "sx"
      simp only [F_law_draw_motion, outK]
      refine ⟨by simp, n + 2 + j * (m + 2), c, rfl, by omega, by omega, s3, fun g3 w s4 hw => ?_⟩

      refine ⟨s4.up (by omega), gs ++ [w], by simp, by simp [hl], fun w' hw' => ?_⟩
      rcases List.mem_append.mp hw' with h | h
      · exact hp w' h
      · rw [List.mem_singleton.mp h]; exact hw
    · rintro acc _ hacc ⟨g', gs, rfl, s3, rfl, hl, hp⟩ p
      have hl : gs.length = v + 1 := by simpa using hl
      have s3 : St (n + 2 + (v + 1) * (m + 2)) g' := by simpa using s3
      have ne : gs ≠ [] := fun e => by rw [e] at hl; cases hl
      walk_at "sx"
      refine ⟨fun hb => ?_, fun _ => hk g' c gs (s3.up (by omega)) cl cm ne (by omega) hp⟩
      have c3 : 3 < c := by have := of_decide_eq_true hb; omega
      refine ⟨by simp, by omega, by omega, n + 2 + (v + 1) * (m + 2), by omega, s3, fun g3 u s4 u0 u1 => ?_⟩
      refine ⟨_, fEq_int _ _, _, rfl, fun _ => ?_, fun _ => hk g3 c gs (s4.up (by omega)) cl cm ne (by omega) hp⟩
      simp only [F_law_ring, outK]
      have half : ∀ h : Nat, 1 ≤ h → h + h ≤ c → (RgOk 0 (h : Int) ∧ ∃ n rg, D.int (h : Int) = D.int (n : Nat) ∧ D.seq false (rgD 0 (h : Int)) = inL rg ∧ List.Nodup rg ∧ (∀ (i : Int), i ∈ rg → 0 ≤ i ∧ i < (n : Nat)) ∧ n ≤ sizeLine ∧
          ∀ (w : Wd), IsP n w → RgOk (h : Int) (c : Nat) ∧ ∃ x, CCat (inL w) (D.seq false (rgD (h : Int) (c : Nat))) x ∧ CMul (h : Int) 2 ∧ RgOk (h : Int) ((h : Int) * 2) ∧ RgOk 0 (h : Int) ∧ ∃ x_1, CCat (D.seq false (rgD (h : Int) ((h : Int) * 2))) (D.seq false (rgD 0 (h : Int))) x_1 ∧ CMul (h : Int) 2 ∧
            RgOk ((h : Int) * 2) (c : Nat) ∧ ∃ x_2, CCat (D.seq false x_1) (D.seq false (rgD ((h : Int) * 2) (c : Nat))) x_2 ∧ 2 ≤ sizeLine ∧ Kc g3 (Out.ret (D.seq false [D.seq false x, D.seq false x_2]))) := fun h h1 h2 => by
        have hz : h ≤ sizeLine := by rw [sizeLine_eq]; omega
        have e2 : (h : Int) * 2 = ((h + h : Nat) : Int) := by omega
        refine ⟨rgOk_nat hz, h, iota h, rfl, by rw [rgD_iota], nodup_iota, fun i hi => mem_iota.mp hi, hz, fun w hw => ?_⟩
        rw [e2, rgD_W, rgD_W, rgD_W, rgD_iota]
        have ro : ∀ a b : Nat, a ≤ 1000 → b ≤ 1000 → RgOk (a : Nat) (b : Nat) := fun a b ha hb => by refine ⟨?_, ?_, ?_, ?_, ?_⟩ <;> omega
        refine ⟨ro _ _ (by omega) (by omega), _, ⟨_, _, rfl, rfl, rfl, ?_⟩, .inl (by omega), ro _ _ (by omega) (by omega), rgOk_nat hz, _, ⟨_, _, rfl, rfl, rfl, ?_⟩, .inl (by omega), ro _ _ (by omega) (by omega), _, ⟨_, _, rfl, rfl, rfl, ?_⟩, by rw [sizeLine_eq]; omega, ?_⟩
        · rw [List.length_map, List.length_map, hw.len, length_rgW, sizeLine_eq]; omega
        · rw [List.length_map, List.length_map, length_iota, length_rgW, sizeLine_eq]; omega
        · rw [List.length_append, List.length_map, List.length_map, List.length_map, length_iota, length_rgW, length_rgW, sizeLine_eq]; omega
        · rw [← List.map_append, ← List.map_append, ← List.map_append]
          refine hk g3 c [_, _] (s4.up (by omega)) cl cm (by simp) (by simp; omega) fun w' hw' => ?_
          rcases List.mem_cons.mp hw' with rfl | hw'
          · exact isP_app (by omega) hw
          · rw [List.mem_singleton.mp hw']; exact isP_swap h2
      refine ⟨fun _ => half 2 (by omega) (by omega), fun h6 => half 3 (by omega) ?_⟩
      have := of_decide_eq_false h6
      omega
end TL
namespace TL
open PySem PySem.Spec PyProof.Rows L2
local macro_rules | `(tactic| walk_at "sx") => `(tactic| simp only [tgN, tdYes, tdC2, tdNm, tdEx, tdV, tdC, tdRet, tdLc, tdSeqI, tdSeq, tdIfS, tdNext, tdRetN, tdDrop, tdAsg, tdPar, tdTest, tdAnd, tdOr, tdNot, tdAndV, tdOrV, tdNotV, tdIf, tdCons, tdNil, tfNil, tfCons, tdLst, tdTup, tdI0, tdI, tdOp1, tdOp2, tdEqD, tdIsN, tdIn, tdInD, tdB, tdL, tdT, tdL2, tdCallP, tdCallPD, tdCallA, tdCallD, tdCallDA, tdUnp, tgT, tdRng1, tdRng2, tdFor, tdApp, tdSetL, tdDPut, tdPop, tdPopAt, tdExt, tdAug, tdDictK, tdDictT, tdDict, tdDictA, tdDisp1T, tdListA, tdEnumI, tdZipI, tdRaise, tdIsi, tdIndex, tdLstRg1, tdLstRg2, tdTupRg1, tdSlice, tdNoP, tdSoP, tdNeg, tdForK, tdLcK, tdBreak, tdCont, setsR, tdStIx, tdStNe, tdStPop, tdStSet, stF, stS,
  nos, List.replicate, List.map_cons, List.map_nil, List.length_cons, List.length_nil, List.cons_append, List.nil_append, List.set_cons_zero, List.set_cons_succ, List.getElem?_cons_zero, List.getElem?_cons_succ, List.getD_cons_zero, List.getD_cons_succ, wR, List.foldr_cons, List.foldr_nil, dats, cdats, opd_dat, opd_cview, it_sl, it_tm, view_fz, view_ow, view_dp, cview_fz, cview_ow, val_fz, val_ow, val_dp, val_st, D.seq.injEq, D.int.injEq, D.str.injEq, Option.map_some, Option.some.injEq, Prod.mk.injEq, List.cons.injEq, and_true, true_and, exists_eq_left', exists_and_left, exists_eq_left, exists_eq_right, rtP, rtA, rtD, rtDA, outK, outA, excK, excA, Nat.reduceAdd, Nat.reduceSub, Nat.zero_add, Bool.and_true, Bool.true_and, Bool.false_or, Bool.true_or, Bool.or_true, Bool.or_false, Bool.false_and, Bool.and_false, exists_const, and_self, exists_prop, and_assoc, TL.It.fz.injEq, TL.It.ow.injEq, TL.It.st.injEq, Function.comp_apply, D.bl.injEq, exists_eq', eq_self, reduceCtorEq, false_implies, true_implies, implies_true, forall_const, Bool.not_true, Bool.not_false, Bool.true_eq_false, Bool.false_eq_true, if_false, if_true, Bool.not_eq_true', Bool.not_eq_false', ite_false, ite_true, Bool.not_not, forall_eq, forall_eq'])
def F_law_same (n : Nat) : Fn
  | [a, b], Kc => a.ok = true ∧ b.ok = true ∧ b.dpt < n ∧ ∀ r : Bool, (r = true ↔ a = b) → Kc (.ret (.bl r))
  | _, _ => False
def F_law_copy (n : Nat) : Fn
  | [a], Kc => a.ok = true ∧ a.dpt < n ∧ Kc (.ret a)
  | _, _ => False
theorem no_law_same : ∀ vs H Q E, ¬ spP (F_law_same 0) vs H Q E := by
  rintro vs H Q E ⟨ds, Kc, _, h, _⟩
  match ds, h with
  | [_, _], ⟨_, _, h, _⟩ => exact Nat.not_lt_zero _ h
theorem no_law_copy : ∀ vs H Q E, ¬ spP (F_law_copy 0) vs H Q E := by
  rintro vs H Q E ⟨ds, Kc, _, h, _⟩
  match ds, h with
  | [_], ⟨_, h, _⟩ => exact Nat.not_lt_zero _ h
/-- _law_same: ['found', 'due', 'mine', 'theirs', 'key'] -/
def t_law_same (Fr : Fn) (Xc : XC) : TDS :=
  (tdSeq (tdIfS (tdTest (tdIsi ["list", "tuple"] (tdNm 1))) (tdSeq (tdIfS (tdOr (tdTest (tdOp2 fNe (tdEx (tdIsi ["list"] (tdNm 0))) (tdEx (tdIsi ["list"] (tdNm 1))))) (tdTest (tdOp2 fNe (tdEx (tdIsi ["tuple"] (tdNm 0))) (tdEx (tdIsi ["tuple"] (tdNm 1)))))) (tdRet (tdC (.bl false))) tdNext)
      (tdRet (tdAndV (tdOp2 fEq (tdEx (tdB CLen (tdCons (tdNm 0) tdNil))) (tdEx (tdB CLen (tdCons (tdNm 1) tdNil)))) (tdB CAll (tdCons (tdEx (tdLc (tdZipI (tdV 0) (tdV 1)) (tgT [2, 3]) tdYes (tdCallP Fr (fun _ _ _ _ => False) (tdCons (tdNm 2) (tdCons (tdNm 3) tdNil))) [2, 3])) tdNil))))) tdNext)
      (tdSeq (tdIfS (tdTest (tdIsi ["dict"] (tdNm 1))) (tdSeq (tdIfS (tdOr (tdNot (tdTest (tdIsi ["dict"] (tdNm 0)))) (tdNot (tdTest (tdCallP Fr Xc (tdCons (tdEx (tdListA (tdCons (tdNm 0) tdNil))) (tdCons (tdEx (tdListA (tdCons (tdNm 1) tdNil))) tdNil)))))) (tdRet (tdC (.bl false))) tdNext)
      (tdRet (tdB CAll (tdCons (tdEx (tdLcK 1 (tgN 4) tdYes (tdCallP Fr (fun _ _ _ _ => False) (tdCons (tdEx (tdC2 CIx (tdNm 0) (tdNm 4))) (tdCons (tdEx (tdC2 CIx (tdNm 1) (tdNm 4))) tdNil))) [4])) tdNil)))) tdNext)
      (tdSeq (tdIfS (tdTest (tdIsN false (tdNm 1))) (tdRet (tdIsN false (tdNm 0))) tdNext)
      (tdSeq (tdIfS (tdTest (tdIsi ["bool"] (tdNm 1))) (tdRet (tdAndV (tdIsi ["bool"] (tdNm 0)) (tdEqD false (tdNm 0) (tdNm 1)))) tdNext)
      (tdSeq (tdIfS (tdTest (tdIsi ["int"] (tdNm 1))) (tdRet (tdAndV (tdIsi ["int"] (tdNm 0)) (tdAndV (tdNotV (tdIsi ["bool"] (tdNm 0))) (tdEqD false (tdNm 0) (tdNm 1))))) tdNext)
      (tdRet (tdAndV (tdIsi ["str"] (tdNm 0)) (tdEqD false (tdNm 0) (tdNm 1)))))))))
/-- _law_copy: ['thing', 'one', 'found', 'key'] -/
def t_law_copy (Fr : Fn) (Xc : XC) : TDS :=
  (tdSeq (tdIfS (tdTest (tdIsi ["list"] (tdNm 0))) (tdRet (tdLc (tdSeqI (tdV 0)) (tgN 1) tdYes (tdCallP Fr (fun _ _ _ _ => False) (tdCons (tdNm 1) tdNil)) [1])) tdNext)
      (tdSeq (tdIfS (tdTest (tdIsi ["tuple"] (tdNm 0))) (tdRet (tdT CList (tdCons (tdEx (tdLc (tdSeqI (tdV 0)) (tgN 1) tdYes (tdCallP Fr (fun _ _ _ _ => False) (tdCons (tdNm 1) tdNil)) [1])) tdNil))) tdNext)
      (tdSeq (tdIfS (tdTest (tdIsi ["dict"] (tdNm 0))) (tdSeq (tdAsg tdDictA 2)
      (tdSeq (tdForK 0 (tgN 3)
      (tdDPut 2 (tdCallP Fr (fun _ _ _ _ => False) (tdCons (tdEx (tdC2 CIx (tdNm 0) (tdNm 3))) tdNil)) (tdNm 3)))
      (tdRet (tdV 2)))) tdNext)
      (tdRet (tdV 0)))))
theorem fNe_bl (i j : Bool) : fNe (.bl i) (.bl j) = some (.bl (!decide (i = j))) := rfl
theorem isDict_iff {d : D} : isDict d = true ↔ ∃ ks vs, d = .dk ks vs := by cases d <;> simp [isDict]
theorem map_eq_of {α β : Type} {f : α → β} (inj : ∀ a b, f a = f b → a = b) : ∀ {xs ys : List α}, xs.map f = ys.map f → xs = ys
  | [], [], _ => rfl
  | [], _ :: _, h => by cases h
  | _ :: _, [], h => by cases h
  | x :: xs, y :: ys, h => by
    rw [List.map_cons, List.map_cons, List.cons.injEq] at h
    rw [inj _ _ h.1, map_eq_of inj h.2]
theorem keyD_inj (a b : Key) (h : keyD a = keyD b) : a = b := by
  cases a <;> cases b <;> simp [keyD] at h <;> rw [h]
theorem keyOk_D : ∀ k : Key, (keyD k).ok = keyOk k
  | .inl _ => rfl
  | .inr _ => rfl
theorem kok {ks : List Key} (h : ks.all keyOk = true) : ∀ k ∈ ks, (keyD k).ok = true := fun k hk => (keyOk_D k).trans (List.all_eq_true.mp h k hk)
theorem ixOf_nodup {ks : List Key} (h : ks.Nodup) : ∀ {j : Nat} {k : Key}, ks[j]? = some k → ixOf k ks = some j := by
  induction ks with
  | nil => intro j k hj; simp at hj
  | cons x ks ih =>
    intro j k hj
    have hn := List.nodup_cons.mp h
    cases j with
    | zero => simp at hj; subst hj; simp [ixOf]
    | succ j =>
      have hj : ks[j]? = some k := by simpa using hj
      have hx : ¬ x = k := fun e => hn.1 (e ▸ List.mem_of_getElem? hj)
      simp [ixOf, hx, ih hn.2 hj]
theorem cix_dk {ks : List Key} {vs : List D} (h : ks.Nodup) {j : Nat} {k : Key} {d : D} (hk : ks[j]? = some k) (hd : vs[j]? = some d) : CIx (.dk ks vs) (keyD k) d := by
  cases k <;> exact ⟨j, ixOf_nodup h hk, hd⟩
open Classical in
theorem zip_all (n m : Bool) : ∀ {xs ys : List D}, xs.length = ys.length →
    ((zipIt n m xs ys).map fun x => match x with | .fz _ (.seq true [u, v]) => D.bl (decide (u = v)) | _ => .non) = ((List.zip xs ys).map fun p => decide (p.1 = p.2)).map .bl ∧ (((List.zip xs ys).map fun p => decide (p.1 = p.2)).all id = true ↔ xs = ys)
  | [], [], _ => ⟨rfl, by simp⟩
  | [], _ :: _, h => by simp at h
  | _ :: _, [], h => by simp at h
  | x :: xs, y :: ys, h => by
    obtain ⟨h1, h2⟩ := zip_all n m (xs := xs) (ys := ys) (by simpa using h)
    refine ⟨?_, ?_⟩
    · rw [zipIt, List.map_cons, h1]; rfl
    · rw [List.zip_cons_cons, List.map_cons, List.all_cons, Bool.and_eq_true, h2, List.cons.injEq]
      simp
theorem zip_mem {n m : Bool} {x : TL.It} : ∀ {xs ys : List D}, x ∈ zipIt n m xs ys → ∃ w u v, x = .fz w (.seq true [u, v]) ∧ u ∈ xs ∧ v ∈ ys
  | x :: xs, y :: ys, h => by
    rw [zipIt] at h
    rcases List.mem_cons.mp h with rfl | h
    · exact ⟨_, _, _, rfl, List.mem_cons_self, List.mem_cons_self⟩
    · obtain ⟨w, u, v, e, h1, h2⟩ := zip_mem h
      exact ⟨w, u, v, e, List.mem_cons_of_mem _ h1, List.mem_cons_of_mem _ h2⟩
  | [], _, h => by simp [zipIt] at h
  | _ :: _, [], h => by simp [zipIt] at h
open Classical in
theorem vc_law_same (n : Nat) : ∀ ds Kc, F_law_same (n + 1) ds Kc → t_law_same (F_law_same n) (excK Kc) (rtP Kc) (ds.map (.fz false) ++ nos (5 - ds.length)) := by
  intro ds Kc h
  match ds, h with
  | [a, b], ⟨ha, hb, hd, hk⟩ =>
    unfold t_law_same
    obtain ⟨ta, ea⟩ := ok_tag ha
    obtain ⟨tb, eb⟩ := ok_tag hb
    walk_at "sx"
    simp only [ea, eb, Option.some.injEq, exists_eq_left', ia_int ea, ia_int eb, ia_bool ea, ia_bool eb, ia_str ea, ia_str eb, ia_list ea, ia_list eb, ia_tuple ea, ia_tuple eb, ia_dict ea, ia_dict eb, ia_seq ea, ia_seq eb]
    have kf : ¬ a = b → Kc (.ret (.bl false)) := fun h => hk false (by simp [h])
    have kt : a = b → Kc (.ret (.bl true)) := fun h => hk true (by simp [h])
    have flat : (∀ x : Bool, x = a.deq b → (x = true ↔ a = b) → Kc (.ret (.bl (a.deq b)))) := fun x e h => by rw [← e]; exact hk x h
    refine ⟨fun hs => ?_, fun hs => ⟨fun hdk => ⟨fun hdk' => ?_, fun hdk' => ?_⟩, fun hdk => ⟨fun hn => ?_, fun hn => ⟨fun hbb => ⟨fun hba => ?_, fun hba => ?_⟩, fun hbb => ⟨fun hib => ⟨fun hia => ⟨fun hba => ?_, fun hba => ?_⟩, fun hia => ?_⟩, fun hib => ⟨fun hsa => ?_, fun hsa => ?_⟩⟩⟩⟩⟩⟩
    · -- lists, tuples
      cases b with
      | seq c ys =>
        refine ⟨_, fNe_bl _ _, _, rfl, fun h1 => kf fun e => ?_, fun h1 => ⟨_, fNe_bl _ _, _, rfl, fun h2 => kf fun e => ?_, fun h2 => ?_⟩⟩
        · subst e; simp at h1
        · subst e; simp at h2
        · have hx : ∃ xs, a = .seq c xs := by
            cases c <;> cases a with
            | seq c' xs => cases c' <;> simp [isLst, isTup] at h1 h2 <;> exact ⟨xs, rfl⟩
            | _ => simp [isLst, isTup] at h1 h2
          obtain ⟨xs, rfl⟩ := hx
          obtain ⟨hz, hxs⟩ := ok_seq.mp ha
          obtain ⟨hz', hys⟩ := ok_seq.mp hb
          refine ⟨_, rfl, _, rfl, _, fEq_int _ _, _, rfl, fun hl => ⟨c, xs, rfl, ys, rfl, ?_⟩, fun hl => kf fun e => ?_⟩
          · have hl : xs.length = ys.length := by have := of_decide_eq_true hl; omega
            obtain ⟨z1, z2⟩ := zip_all false false hl
            refine lc_map (fun x => match x with | .fz _ (.seq true [u, v]) => D.bl (decide (u = v)) | _ => .non) true (by rw [zipIt_len]; omega) (fun x hx Q k => ?_) (fun h a => ?_) (fun h a => h _ _ a) (fun p => ?_)
            · obtain ⟨w, u, v, rfl, hu, hv⟩ := zip_mem hx
              walk_at "sx"
              simp only [F_law_same, outK]
              refine ⟨hxs u hu, hys v hv, ?_, fun r hr => ?_⟩
              · have := dpts_le v hv
                have e : (D.seq c ys).dpt = D.dpts ys + 1 := rfl
                omega
              · have : r = decide (u = v) := by
                  cases r with
                  | true => simp [hr.mp rfl]
                  | false =>
                    have : ¬ u = v := fun e => by have := hr.mpr e; cases this
                    simp [this]
                subst this
                refine k _ _ (fun _ => rfl) ?_
                walk_at "sx"
            · obtain ⟨nw, ds, e, l, h'⟩ := a
              exact ⟨nw, ds, e, l, h _ h'⟩
            · walk_at "sx"
              refine ⟨_, ⟨_, by rw [z1], rfl⟩, hk _ ?_⟩
              rw [z2]
              simp
          · cases e; simp at hl
      | _ => cases hs
    · -- dicts
      exact kf fun e => by subst e; rw [hdk] at hdk'; cases hdk'
    · obtain ⟨ks, vs, rfl⟩ := isDict_iff.mp hdk
      obtain ⟨ks', vs', rfl⟩ := isDict_iff.mp hdk'
      obtain ⟨⟨hz, hnd, hl, ko⟩, hvs⟩ := ok_dk.mp hb
      obtain ⟨⟨hz', hnd', hl', ko'⟩, hvs'⟩ := ok_dk.mp ha
      refine ⟨_, rfl, _, rfl, ?_⟩
      have e2 : (D.dk ks vs).dpt = max 1 (D.dpts vs) + 1 := rfl
      have okk : ∀ l : List Key, l.length ≤ sizeLine → (∀ k ∈ l, (keyD k).ok = true) → (D.seq false (l.map keyD)).ok = true := fun l h h2 => by
        rw [ok_seq]
        refine ⟨by simpa using h, fun x hx => ?_⟩
        obtain ⟨k, hk, rfl⟩ := List.mem_map.mp hx
        exact h2 k hk
      have dk1 : (D.seq false (ks.map keyD)).dpt ≤ 1 := Nat.succ_le_succ (dpts_of fun x hx => by
        obtain ⟨k, _, rfl⟩ := List.mem_map.mp hx
        cases k <;> exact Nat.le_refl _)
      simp only [F_law_same, outK]
      refine ⟨okk _ hz' (kok ko'), okk _ hz (kok ko), by omega, fun r hr => ⟨r, rfl, fun hf => kf fun e => ?_, fun ht => ⟨_, rfl, ?_⟩⟩⟩
      · cases e
        have := hr.mpr rfl
        rw [hf] at this; cases this
      · have ek : ks' = ks := by
          have := hr.mp ht
          have := (D.seq.injEq _ _ _ _).mp this
          exact map_eq_of keyD_inj this.2
        subst ek
        refine lc_map (fun x => match x with | .fz _ d => D.bl (decide (∀ (j : Nat) (k : Key), ks'[j]? = some k → keyD k = d → vs'[j]? = vs[j]?)) | _ => .non) true (by simpa using hz) (fun x hx Q k => ?_) (fun h a => h _ a) (fun h a => h _ _ a) (fun p => ?_)
        · obtain ⟨d, hdm, rfl⟩ := List.mem_map.mp hx
          obtain ⟨kk, hkk, rfl⟩ := List.mem_map.mp hdm
          obtain ⟨j, hj⟩ := List.getElem?_of_mem hkk
          have jl := (List.getElem?_eq_some_iff.mp hj).1
          have v1 : vs'[j]? = some vs'[j] := List.getElem?_eq_getElem (by omega)
          have v2 : vs[j]? = some vs[j] := List.getElem?_eq_getElem (by omega)
          walk_at "sx"
          simp only [F_law_same, outK]
          refine ⟨_, cix_dk hnd' hj v1, _, cix_dk hnd hj v2, hvs' _ (List.getElem_mem _), hvs _ (List.getElem_mem _), ?_, fun r hr => ?_⟩
          · have := dpts_le _ (List.getElem_mem (l := vs) (n := j) (by omega))
            omega
          · have : r = decide (∀ (j : Nat) (k : Key), ks'[j]? = some k → keyD k = keyD kk → vs'[j]? = vs[j]?) := by
              have iff : (∀ (j : Nat) (k : Key), ks'[j]? = some k → keyD k = keyD kk → vs'[j]? = vs[j]?) ↔ vs'[j] = vs[j] := by
                constructor
                · intro h
                  have := h j kk hj rfl
                  rw [v1, v2] at this
                  exact Option.some.inj this
                · intro h j' k' hj' e
                  have := keyD_inj _ _ e
                  subst this
                  have a1 := ixOf_nodup hnd hj
                  have a2 := ixOf_nodup hnd hj'
                  rw [a1] at a2
                  cases a2
                  rw [v1, v2, h]
              cases r with
              | true => simp only [iff]; simp [hr.mp rfl]
              | false =>
                have : ¬ vs'[j] = vs[j] := fun e => by have := hr.mpr e; cases this
                simp only [iff]; simp [this]
            subst this
            refine k _ _ (fun _ => rfl) ?_
            walk_at "sx"
        · walk_at "sx"
          refine ⟨rfl, rfl, _, ⟨ks'.map fun kk => decide (∀ (j : Nat) (k : Key), ks'[j]? = some k → keyD k = keyD kk → vs'[j]? = vs[j]?), by rw [List.map_map, List.map_map, List.map_map]; rfl, rfl⟩, hk _ ?_⟩
          rw [List.all_map, List.all_eq_true]
          constructor
          · intro h
            congr 1
            apply List.ext_getElem?
            intro j
            by_cases hj : j < ks'.length
            · have := h ks'[j] (List.getElem_mem hj)
              exact (of_decide_eq_true this) j ks'[j] (List.getElem?_eq_getElem hj) rfl
            · rw [List.getElem?_eq_none (by omega), List.getElem?_eq_none (by omega)]
          · intro e x hx
            cases e
            simp
    · exact hk a.isNon (by cases b <;> simp [D.isNon] at hn; cases a <;> simp [D.isNon])
    · cases b <;> simp [isBl] at hbb
      cases a <;> simp [isBl] at hba
      rename_i x y
      exact ⟨rfl, rfl, hk _ (by cases x <;> cases y <;> simp [D.deq, D.py, PyData.eqv])⟩
    · exact kf fun e => by subst e; rw [hbb] at hba; cases hba
    · cases b <;> simp [isInt, isBl] at hib hbb
      cases a <;> simp [isInt, isBl] at hia hba
      rename_i y x
      exact ⟨rfl, rfl, hk _ (by show (x == y) = true ↔ _; simp)⟩
    · exact kf fun e => by subst e; rw [hba] at hbb; cases hbb
    · exact kf fun e => by subst e; rw [hib] at hia; cases hia
    · cases a <;> simp [isStr] at hsa
      rename_i x
      cases b with
      | str y =>
        have o1 : PyData.strOk x = true := (Bool.and_eq_true_iff.mp ha).1
        have o2 : PyData.strOk y = true := (Bool.and_eq_true_iff.mp hb).1
        exact ⟨eqOk_of o1 (Nat.zero_le _), eqOk_of o2 (Nat.zero_le _), hk _ (by show (x == y) = true ↔ _; simp)⟩
      | non => simp [D.isNon] at hn
      | bl => simp [isBl] at hbb
      | int => simp [isInt] at hib
      | seq => simp [isSeq] at hs
      | dk => simp [isDict] at hdk
      | dt => cases eb
      | ins => cases eb
    · cases b with
      | str y => exact kf fun e => by subst e; simp [isStr] at hsa
      | non => simp [D.isNon] at hn
      | bl => simp [isBl] at hbb
      | int => simp [isInt] at hib
      | seq => simp [isSeq] at hs
      | dk => simp [isDict] at hdk
      | dt => cases eb
      | ins => cases eb
end TL
namespace TL
open PySem PySem.Spec PyProof.Rows L2
local macro_rules | `(tactic| walk_at "sx") => `(tactic| simp only [tgN, tdYes, tdC2, tdNm, tdEx, tdV, tdC, tdRet, tdLc, tdSeqI, tdSeq, tdIfS, tdNext, tdRetN, tdDrop, tdAsg, tdPar, tdTest, tdAnd, tdOr, tdNot, tdAndV, tdOrV, tdNotV, tdIf, tdCons, tdNil, tfNil, tfCons, tdLst, tdTup, tdI0, tdI, tdOp1, tdOp2, tdEqD, tdIsN, tdIn, tdInD, tdB, tdL, tdT, tdL2, tdCallP, tdCallPD, tdCallA, tdCallD, tdCallDA, tdUnp, tgT, tdRng1, tdRng2, tdFor, tdApp, tdSetL, tdDPut, tdPop, tdPopAt, tdExt, tdAug, tdDictK, tdDictT, tdDict, tdDictA, tdDisp1T, tdListA, tdEnumI, tdZipI, tdRaise, tdIsi, tdIndex, tdLstRg1, tdLstRg2, tdTupRg1, tdSlice, tdNoP, tdSoP, tdNeg, tdForK, tdLcK, tdBreak, tdCont, setsR, tdStIx, tdStNe, tdStPop, tdStSet, stF, stS,
  nos, List.replicate, List.map_cons, List.map_nil, List.length_cons, List.length_nil, List.cons_append, List.nil_append, List.set_cons_zero, List.set_cons_succ, List.getElem?_cons_zero, List.getElem?_cons_succ, List.getD_cons_zero, List.getD_cons_succ, wR, List.foldr_cons, List.foldr_nil, dats, cdats, opd_dat, opd_cview, it_sl, it_tm, view_fz, view_ow, view_dp, cview_fz, cview_ow, val_fz, val_ow, val_dp, val_st, D.seq.injEq, D.int.injEq, D.str.injEq, Option.map_some, Option.some.injEq, Prod.mk.injEq, List.cons.injEq, and_true, true_and, exists_eq_left', exists_and_left, exists_eq_left, exists_eq_right, rtP, rtA, rtD, rtDA, outK, outA, excK, excA, Nat.reduceAdd, Nat.reduceSub, Nat.zero_add, Bool.and_true, Bool.true_and, Bool.false_or, Bool.true_or, Bool.or_true, Bool.or_false, Bool.false_and, Bool.and_false, exists_const, and_self, exists_prop, and_assoc, TL.It.fz.injEq, TL.It.ow.injEq, TL.It.st.injEq, Function.comp_apply, D.bl.injEq, exists_eq', eq_self, reduceCtorEq, false_implies, true_implies, implies_true, forall_const, Bool.not_true, Bool.not_false, Bool.true_eq_false, Bool.false_eq_true, if_false, if_true, Bool.not_eq_true', Bool.not_eq_false', ite_false, ite_true, Bool.not_not, forall_eq, forall_eq'])
theorem ix_take {α : Type} {l : List α} {k : Nat} {x : α} (h : l[k]? = some x) : l.take (k + 1) = l.take k ++ [x] := by
  rw [List.take_add_one, h]; rfl
theorem key_I : ∀ k : Key, (keyD k).keyI = some k := fun k => by cases k <;> rfl
theorem hasK_iff {κ : Type} [DecidableEq κ] {k : κ} {ks : List κ} : hasK k ks = true ↔ k ∈ ks := by simp [hasK]
theorem hasK_take {ks : List Key} (h : ks.Nodup) {j : Nat} {k : Key} (hj : ks[j]? = some k) : hasK k (ks.take j) = false := by
  rw [Bool.eq_false_iff]
  intro c
  obtain ⟨i, hi⟩ := List.getElem?_of_mem (hasK_iff.mp c)
  rw [List.getElem?_take] at hi
  split at hi
  · rename_i lt
    have := ixOf_nodup h hi
    rw [ixOf_nodup h hj] at this
    cases this
    omega
  · cases hi
theorem np4 {a c : D} {p : Addr} {w n : Bool} {y : TL.It} (h : y.isPin = false) : noPin [.fz w a, .no, .ow p n c, y] = true := by
  rw [noPin, List.all_cons, List.all_cons, List.all_cons, List.all_cons, h]; rfl
theorem vc_law_copy (n : Nat) : ∀ ds Kc, F_law_copy (n + 1) ds Kc → t_law_copy (F_law_copy n) (excK Kc) (rtP Kc) (ds.map (.fz false) ++ nos (4 - ds.length)) := by
  intro ds Kc h
  match ds, h with
  | [a], ⟨ha, hd, hk⟩ =>
    unfold t_law_copy
    obtain ⟨ta, ea⟩ := ok_tag ha
    walk_at "sx"
    simp only [ea, Option.some.injEq, exists_eq_left', ia_list ea, ia_tuple ea, ia_dict ea]
    have one : ∀ b xs, (D.seq b xs).dpt < n + 1 → ∀ d ∈ xs, d.dpt < n := fun b xs h d hd => by
      have := dpts_le d hd
      have e : (D.seq b xs).dpt = D.dpts xs + 1 := rfl
      omega
    have step : ∀ b xs, a = .seq b xs → ∀ P r1, r1 = [.fz false (D.seq b xs), .no, .no, .no] → (∀ p, P (.ow p true (.seq false xs)) r1) → ∃ x x_1, D.seq b xs = D.seq x x_1 ∧
      lcB (tgN 1) tdYes (tdCallP (F_law_copy n) (fun _ _ _ _ => False) (tdCons (tdNm 1) tdNil)) [1] P (List.map (fun d => It.fz (isFlat d) d) x_1) r1 := fun b xs e P r1 er k => by
      subst e er
      obtain ⟨hz, hxs⟩ := ok_seq.mp ha
      refine ⟨b, xs, rfl, lc_ds id true hz (fun d hm Q k => ?_) (fun h a => h _ a) (fun h a => h _ _ a) (fun p => ?_)⟩
      · walk_at "sx"
        simp only [F_law_copy, outK]
        refine ⟨hxs d hm, one _ _ hd d hm, k _ _ (fun _ => rfl) ?_⟩
        walk_at "sx"
      · walk_at "sx"
        rw [List.map_id]
        exact k p
    refine ⟨fun hl => ?_, fun hl => ⟨fun ht => ?_, fun ht => ⟨fun hdk => ?_, fun hdk => ?_⟩⟩⟩
    · cases a with
      | seq b xs =>
        cases b with
        | true => simp [isLst] at hl
        | false => exact step _ _ rfl _ _ rfl fun p => ⟨_, _, rfl, rfl, hk⟩
      | _ => simp [isLst] at hl
    · cases a with
      | seq b xs =>
        cases b with
        | false => simp [isTup] at ht
        | true => 
          exact step _ _ rfl _ _ rfl fun p => ⟨true, [.seq false xs], rfl, xs, ⟨false, rfl⟩, rfl, hk⟩
      | _ => simp [isTup] at ht
    · obtain ⟨ks, vs, rfl⟩ := isDict_iff.mp hdk
      obtain ⟨⟨hz, hnd, hl, ko⟩, hvs⟩ := ok_dk.mp ha
      refine ⟨false, fun p => ⟨_, rfl, fun k r => ∃ y : TL.It, y.isPin = false ∧ r = [.fz false (.dk ks vs), .no, .ow p true (.dk (ks.take k) (vs.take k)), y], ⟨.no, rfl, by simp⟩, ?_, ?_⟩⟩
      · rintro k x r' hx ⟨y, hy, rfl⟩
        rw [List.getElem?_map, List.getElem?_map] at hx
        cases hj : ks[k]? with
        | none => rw [hj] at hx; cases hx
        | some kk =>
          rw [hj] at hx; cases hx
          have jl := (List.getElem?_eq_some_iff.mp hj).1
          have v2 : vs[k]? = some vs[k] := List.getElem?_eq_getElem (by omega)
          walk_at "sx"
          simp only [F_law_copy, outK]
          refine ⟨_, cix_dk hnd hj v2, hvs _ (List.getElem_mem _), ?_, ?_, ?_⟩
          · have := dpts_le _ (List.getElem_mem (l := vs) (n := k) (by omega))
            have e : (D.dk ks vs).dpt = max 1 (D.dpts vs) + 1 := rfl
            omega
          · show (ks.take k).length < _
            rw [List.length_take]; omega
          · refine ⟨.dk (dputK kk (ks.take k)) (dputV kk (ks.take k) (vs.take k) vs[k]), ?_, .fz true (keyD kk), rfl, ?_, rfl⟩
            · show ((keyD kk).keyI.map _) = _
              rw [key_I, Option.map_some]
            unfold dputK dputV
            rw [hasK_take hnd hj]
            simp only [Bool.false_eq_true, if_false]
            rw [ix_take hj, ix_take v2]
      · rintro r' ⟨y, hy, rfl⟩
        rw [List.length_map, List.length_map, List.take_of_length_le (Nat.le_refl _), List.take_of_length_le (by omega)]
        exact ⟨np4 hy, by walk_at "sx"; exact hk⟩
    · exact ⟨by cases a with
        | seq b xs => cases b <;> simp [isLst, isTup] at hl ht
        | dk => simp [isDict] at hdk
        | dt => cases ea
        | ins => cases ea
        | _ => rfl, hk⟩
end TL
namespace TL
open PySem PySem.Spec PyProof.Rows L2
local macro_rules | `(tactic| walk_at "sx") => `(tactic| simp only [tgN, tdYes, tdC2, tdNm, tdEx, tdV, tdC, tdRet, tdLc, tdSeqI, tdSeq, tdIfS, tdNext, tdRetN, tdDrop, tdAsg, tdPar, tdTest, tdAnd, tdOr, tdNot, tdAndV, tdOrV, tdNotV, tdIf, tdCons, tdNil, tfNil, tfCons, tdLst, tdTup, tdI0, tdI, tdOp1, tdOp2, tdEqD, tdIsN, tdIn, tdInD, tdB, tdL, tdT, tdL2, tdCallP, tdCallPD, tdCallA, tdCallD, tdCallDA, tdUnp, tgT, tdRng1, tdRng2, tdFor, tdApp, tdSetL, tdDPut, tdPop, tdPopAt, tdExt, tdAug, tdDictK, tdDictT, tdDict, tdDictA, tdDisp1T, tdListA, tdEnumI, tdZipI, tdRaise, tdIsi, tdIndex, tdLstRg1, tdLstRg2, tdTupRg1, tdSlice, tdNoP, tdSoP, tdNeg, tdForK, tdLcK, tdBreak, tdCont, setsR, tdStIx, tdStNe, tdStPop, tdStSet, stF, stS,
  nos, List.replicate, List.map_cons, List.map_nil, List.length_cons, List.length_nil, List.cons_append, List.nil_append, List.set_cons_zero, List.set_cons_succ, List.getElem?_cons_zero, List.getElem?_cons_succ, List.getD_cons_zero, List.getD_cons_succ, wR, List.foldr_cons, List.foldr_nil, dats, cdats, opd_dat, opd_cview, it_sl, it_tm, view_fz, view_ow, view_dp, cview_fz, cview_ow, val_fz, val_ow, val_dp, val_st, D.seq.injEq, D.int.injEq, D.str.injEq, Option.map_some, Option.some.injEq, Prod.mk.injEq, List.cons.injEq, and_true, true_and, exists_eq_left', exists_and_left, exists_eq_left, exists_eq_right, rtP, rtA, rtD, rtDA, outK, outA, excK, excA, Nat.reduceAdd, Nat.reduceSub, Nat.zero_add, Bool.and_true, Bool.true_and, Bool.false_or, Bool.true_or, Bool.or_true, Bool.or_false, Bool.false_and, Bool.and_false, exists_const, and_self, exists_prop, and_assoc, TL.It.fz.injEq, TL.It.ow.injEq, TL.It.st.injEq, Function.comp_apply, D.bl.injEq, exists_eq', eq_self, reduceCtorEq, false_implies, true_implies, implies_true, forall_const, Bool.not_true, Bool.not_false, Bool.true_eq_false, Bool.false_eq_true, if_false, if_true, Bool.not_eq_true', Bool.not_eq_false', ite_false, ite_true, Bool.not_not, forall_eq, forall_eq'])
mutual
/-- lists and tuples taken for lists -/
def D.nrm : D → D
  | .seq _ xs => .seq false (D.nrms xs)
  | d => d
def D.nrms : List D → List D
  | [] => []
  | x :: xs => x.nrm :: D.nrms xs
end
mutual
/-- how many lists and tuples -/
def D.nds : D → Nat
  | .seq _ xs => 1 + D.ndss xs
  | _ => 0
def D.ndss : List D → Nat
  | [] => 0
  | x :: xs => x.nds + D.ndss xs
end
mutual
/-- lists and tuples of flat things, all through -/
def D.sq : D → Bool
  | .non | .bl _ | .int _ => true
  | .str x => PyData.strOk x && decide (x.length ≤ sizeLine)
  | .seq _ xs => decide (xs.length ≤ sizeLine) && D.sqs xs
  | _ => false
def D.sqs : List D → Bool
  | [] => true
  | x :: xs => x.sq && D.sqs xs
end
theorem nrms_eq : ∀ xs : List D, D.nrms xs = xs.map D.nrm
  | [] => rfl
  | x :: xs => by rw [D.nrms, List.map_cons, nrms_eq xs]
theorem sqs_iff : ∀ (xs : List D), D.sqs xs = xs.all D.sq
  | [] => rfl
  | x :: xs => by rw [D.sqs, List.all_cons, sqs_iff xs]
theorem sq_seq {b : Bool} {xs : List D} : (D.seq b xs).sq = true ↔ xs.length ≤ sizeLine ∧ ∀ x ∈ xs, x.sq = true := by
  show (decide (xs.length ≤ sizeLine) && D.sqs xs) = true ↔ _
  rw [sqs_iff, Bool.and_eq_true, decide_eq_true_eq, List.all_eq_true]
mutual
theorem sq_ok : ∀ d : D, d.sq = true → d.ok = true
  | .non, _ => rfl
  | .bl _, _ => rfl
  | .int _, _ => rfl
  | .str _, h => h
  | .seq _ xs, h => by
    have h : (decide (xs.length ≤ sizeLine) && D.sqs xs) = true := h
    show (decide (xs.length ≤ sizeLine) && D.oks xs) = true
    rw [Bool.and_eq_true] at h ⊢
    exact ⟨h.1, sqs_oks xs h.2⟩
theorem sqs_oks : ∀ xs : List D, D.sqs xs = true → D.oks xs = true
  | [], _ => rfl
  | x :: xs, h => by
    have h : (x.sq && D.sqs xs) = true := h
    show (x.ok && D.oks xs) = true
    rw [Bool.and_eq_true] at h ⊢
    exact ⟨sq_ok x h.1, sqs_oks xs h.2⟩
end
theorem ndss_app : ∀ xs ys : List D, D.ndss (xs ++ ys) = D.ndss xs + D.ndss ys
  | [], ys => by show D.ndss ys = 0 + D.ndss ys; omega
  | x :: xs, ys => by show x.nds + D.ndss (xs ++ ys) = x.nds + D.ndss xs + D.ndss ys; rw [ndss_app xs ys]; omega
def F_law_loose (n : Nat) : FnS
  | g, [d], Kc => ∃ m : Nat, d.sq = true ∧ d.dpt < n ∧ m + d.nds < 2 ^ 40 ∧ St m g ∧ ∀ g' e, St (m + d.nds) g' → e.nrm = d.nrm → e.sq = true → Kc g' (.ret e)
  | _, _, _ => False
/-- _law_loose: ['state', 'thing', 'some', 'one', 'found', 'key'] -/
def t_law_loose (Fr : FnS) : TDS :=
  (tdSeq (tdIfS (tdTest (tdIsi ["list", "tuple"] (tdNm 1))) (tdSeq (tdAsg (tdLc (tdSeqI (tdV 1)) (tgN 3) tdYes (tdCallD 0 Fr (tdCons (tdNm 3) tdNil)) [3]) 2)
      (tdRet (tdIf (tdTest (tdOp2 fEq (tdEx (tdCallD 0 F_law_pick (tdCons (tdEx (tdC (.int 2))) tdNil))) (tdEx (tdC (.int 0))))) (tdV 2) (tdT CList (tdCons (tdNm 2) tdNil))))) tdNext)
      (tdSeq (tdIfS (tdTest (tdIsi ["dict"] (tdNm 1))) (tdSeq (tdAsg tdDictA 4)
      (tdSeq (tdFor (tdSeqI (tdCallD 0 F_law_mixed (tdCons (tdEx (tdListA (tdCons (tdNm 1) tdNil))) tdNil))) (tgN 5)
      (tdDPut 4 (tdCallD 0 Fr (tdCons (tdEx (tdC2 CIx (tdNm 1) (tdNm 5))) tdNil)) (tdNm 5)))
      (tdRet (tdV 4)))) tdNext)
      (tdRet (tdV 1))))
theorem vc_law_loose (n : Nat) : ∀ a q g ds Kc, F_law_loose (n + 1) g ds Kc → t_law_loose (F_law_loose n) (rtD a q Kc) (.st a q g :: (ds.map (.fz false) ++ nos (6 - (ds.length + 1)))) := by
  intro a q g ds Kc h
  match ds, h with
  | [d], ⟨m, hd, hn, hm, hs, hk⟩ =>
    unfold t_law_loose
    obtain ⟨td, ed⟩ := ok_tag (sq_ok d hd)
    walk_at "sx"
    simp only [ed, Option.some.injEq, exists_eq_left', ia_seq ed, ia_dict ed]
    refine ⟨fun hq => ?_, fun hq => ⟨fun hdk => ?_, fun hdk => ?_⟩⟩
    · cases d with
      | seq b xs =>
        obtain ⟨hz, hxs⟩ := sq_seq.mp hd
        refine ⟨b, xs, rfl, by simpa using hz, true, fun j acc r => ∃ g', r = [.st a q g', .fz false (.seq b xs), .no, .no, .no, .no] ∧ St (m + D.ndss (xs.take j)) g' ∧ acc.map D.nrm = (xs.take j).map D.nrm ∧ ∀ e ∈ acc, e.sq = true, ⟨g, rfl, hs, rfl, fun e h => by cases h⟩, ?_, ?_⟩
        · rintro k x acc r' hx ha ⟨g', rfl, hs', he, hsq⟩
          rw [List.getElem?_map] at hx
          cases hj : xs[k]? with
          | none => rw [hj] at hx; cases hx
          | some y =>
          rw [hj] at hx; cases hx
          walk_at "sx"
          have hy := List.mem_of_getElem? hj
          have e1 : D.ndss (xs.take (k + 1)) = D.ndss (xs.take k) + y.nds := by rw [ix_take hj, ndss_app]; rfl
          have e2 : D.ndss xs = D.ndss (xs.take (k + 1)) + D.ndss (xs.drop (k + 1)) := by rw [← ndss_app, List.take_append_drop]
          have e3 : (D.seq b xs).nds = 1 + D.ndss xs := rfl
          have e4 : (D.seq b xs).dpt = D.dpts xs + 1 := rfl
          have e5 := dpts_le y hy
          simp only [F_law_loose, outK]
          refine ⟨by simp, m + D.ndss (xs.take k), hxs y hy, by omega, by omega, hs', fun g2 e s2 k2 q2 => ⟨by rw [e1, ← Nat.add_assoc]; exact s2, by rw [ix_take hj, List.map_append, List.map_append, he, List.map_cons, List.map_cons, k2], fun e' he' => ?_⟩⟩
          rcases List.mem_append.mp he' with h | h
          · exact hsq e' h
          · rw [List.mem_singleton.mp h]; exact q2
        · rintro acc r' ha ⟨g', rfl, hs', he, hsq⟩ p
          walk_at "sx"
          rw [List.length_map, List.take_of_length_le (Nat.le_refl _)] at hs' he
          have hl : acc.length = xs.length := by have := congrArg List.length he; simpa using this
          have e3 : (D.seq b xs).nds = 1 + D.ndss xs := rfl
          have nn : ∀ c, (D.seq c acc).nrm = (D.seq b xs).nrm := fun c => by
            show D.seq false (D.nrms acc) = D.seq false (D.nrms xs)
            rw [nrms_eq, nrms_eq, he]
          have so : ∀ c, (D.seq c acc).sq = true := fun c => sq_seq.mpr ⟨by omega, hsq⟩
          simp only [F_law_pick, outK]
          refine ⟨by simp, _, 2, rfl, by omega, by omega, hs', fun g2 v s2 v0 v1 => ?_⟩
          have s2 : St (m + (D.seq b xs).nds) g2 := s2.up (by omega)
          exact ⟨_, fEq_int _ _, _, rfl, fun _ => hk g2 _ s2 (nn _) (so _), fun _ => ⟨acc, ⟨false, rfl⟩, hk g2 _ s2 (nn _) (so _)⟩⟩
      | _ => cases hq
    · cases d <;> simp [isDict] at hdk
      cases hd
    · exact ⟨(by cases d <;> first | rfl | cases hd | cases hq), hk g d (hs.up (by omega)) rfl hd⟩
end TL
namespace TL
open PySem PySem.Spec PyProof.Rows L2
local macro_rules | `(tactic| walk_at "sx") => `(tactic| simp only [tgN, tdYes, tdC2, tdNm, tdEx, tdV, tdC, tdRet, tdLc, tdSeqI, tdSeq, tdIfS, tdNext, tdRetN, tdDrop, tdAsg, tdPar, tdTest, tdAnd, tdOr, tdNot, tdAndV, tdOrV, tdNotV, tdIf, tdCons, tdNil, tfNil, tfCons, tdLst, tdTup, tdI0, tdI, tdOp1, tdOp2, tdEqD, tdIsN, tdIn, tdInD, tdB, tdL, tdT, tdL2, tdCallP, tdCallPD, tdCallA, tdCallD, tdCallDA, tdUnp, tgT, tdRng1, tdRng2, tdFor, tdApp, tdSetL, tdDPut, tdPop, tdPopAt, tdExt, tdAug, tdDictK, tdDictT, tdDict, tdDictA, tdDisp1T, tdListA, tdEnumI, tdZipI, tdRaise, tdIsi, tdIndex, tdLstRg1, tdLstRg2, tdTupRg1, tdSlice, tdNoP, tdSoP, tdNeg, tdForK, tdLcK, tdBreak, tdCont, setsR, tdStIx, tdStNe, tdStPop, tdStSet, stF, stS,
  nos, List.replicate, List.map_cons, List.map_nil, List.length_cons, List.length_nil, List.cons_append, List.nil_append, List.set_cons_zero, List.set_cons_succ, List.getElem?_cons_zero, List.getElem?_cons_succ, List.getD_cons_zero, List.getD_cons_succ, wR, List.foldr_cons, List.foldr_nil, dats, cdats, opd_dat, opd_cview, it_sl, it_tm, view_fz, view_ow, view_dp, cview_fz, cview_ow, val_fz, val_ow, val_dp, val_st, D.seq.injEq, D.int.injEq, D.str.injEq, Option.map_some, Option.some.injEq, Prod.mk.injEq, List.cons.injEq, and_true, true_and, exists_eq_left', exists_and_left, exists_eq_left, exists_eq_right, rtP, rtA, rtD, rtDA, outK, outA, excK, excA, Nat.reduceAdd, Nat.reduceSub, Nat.zero_add, Bool.and_true, Bool.true_and, Bool.false_or, Bool.true_or, Bool.or_true, Bool.or_false, Bool.false_and, Bool.and_false, exists_const, and_self, exists_prop, and_assoc, TL.It.fz.injEq, TL.It.ow.injEq, TL.It.st.injEq, Function.comp_apply, D.bl.injEq, exists_eq', eq_self, reduceCtorEq, false_implies, true_implies, implies_true, forall_const, Bool.not_true, Bool.not_false, Bool.true_eq_false, Bool.false_eq_true, if_false, if_true, Bool.not_eq_true', Bool.not_eq_false', ite_false, ite_true, Bool.not_not, forall_eq, forall_eq'])
def oddOk (p : D × Nat) : Prop := p.1.ok = true ∧ p.1.dpt ≤ 2 ∧ wrongM p.1 = some p.2
def oddD (p : D × Nat) : D := .seq true [p.1, .int (p.2 : Nat)]
def F_law_odd_motions : Fn
  | [d], Kc => ∃ (n : Nat) (b : Bool) (w : Wd) (xs : List D), d = .seq b (inL w :: xs) ∧ IsP n w ∧ (1 ≤ n ∧ n ≤ 1000) ∧ ∀ os : List (D × Nat), (∀ p ∈ os, oddOk p) → os.length ≤ 20 → Kc (.ret (.seq false (os.map oddD)))
  | _, _ => False
/-- _law_odd_motions: ['motions', 'many', 'first', 'found', 'wrong', 'odd'] -/
def t_law_odd_motions (Xc : XC) : TDS :=
  (tdSeq (tdUnp (tdTup (tfCons (tdB CLen (tdCons (tdEx (tdC2 CIx (tdNm 0) (tdEx (tdC (.int 0))))) tdNil)) (tfCons (tdListA (tdCons (tdEx (tdC2 CIx (tdNm 0) (tdEx (tdC (.int 0))))) tdNil)) tfNil))) (tgT [1, 2]))
      (tdSeq (tdAsg (tdLst (tfCons (tdTup (tfCons (tdC .non) (tfCons (tdC (.int 0)) tfNil))) (tfCons (tdTup (tfCons (tdC (.int 5)) (tfCons (tdC (.int 0)) tfNil))) (tfCons (tdTup (tfCons (tdLst tfNil) (tfCons (tdC (.int 0)) tfNil))) (tfCons (tdTup (tfCons (tdC (.str "motions")) (tfCons (tdC (.int 0)) tfNil))) (tfCons (tdTup (tfCons tdDictA (tfCons (tdC (.int 0)) tfNil))) (tfCons (tdTup (tfCons (tdV 2) (tfCons (tdC (.int 0)) tfNil))) (tfCons (tdTup (tfCons (tdLst (tfCons (tdC .non) tfNil)) (tfCons (tdC (.int 0)) tfNil))) (tfCons (tdTup (tfCons (tdLst (tfCons (tdLst tfNil) tfNil)) (tfCons (tdC (.int 0)) tfNil))) (tfCons (tdTup (tfCons (tdLst (tfCons (tdC (.int 5)) tfNil)) (tfCons (tdC (.int 0)) tfNil))) (tfCons (tdTup (tfCons (tdC (.bl true)) (tfCons (tdC (.int 0)) tfNil))) tfNil))))))))))) 3)
      (tdSeq (tdAsg (tdLst (tfCons (tdC .non) (tfCons (tdSlice (tdNm 2) tdNoP (tdSoP (tdEx (tdNeg (tdEx (tdC (.int 1))))))) (tfCons (tdL2 CCat (tdNm 2) (tdEx (tdLst (tfCons (tdV 1) tfNil)))) (tfCons (tdL2 CCat (tdEx (tdSlice (tdNm 2) tdNoP (tdSoP (tdEx (tdNeg (tdEx (tdC (.int 1)))))))) (tdEx (tdLst (tfCons (tdV 1) tfNil)))) (tfCons (tdL2 CCat (tdEx (tdLst (tfCons (tdNeg (tdEx (tdC (.int 1)))) tfNil))) (tdEx (tdSlice (tdNm 2) (tdSoP (tdEx (tdC (.int 1)))) tdNoP))) (tfCons (tdL2 CRep (tdEx (tdLst (tfCons (tdC (.bl true)) tfNil))) (tdNm 1)) (tfCons (tdOp2 fRepS (tdEx (tdC (.str "0"))) (tdNm 1)) (tfCons (tdL2 CCat (tdEx (tdSlice (tdNm 2) tdNoP (tdSoP (tdEx (tdNeg (tdEx (tdC (.int 1)))))))) (tdEx (tdLst (tfCons (tdC .non) tfNil)))) tfNil))))))))) 4)
      (tdSeq (tdIfS (tdTest (tdI0 (fun i j => .bl (decide (j < i))) (tdNm 1) (tdEx (tdC (.int 1))))) (tdExt 4 (tdLst (tfCons (tdL2 CCat (tdEx (tdSlice (tdNm 2) (tdSoP (tdEx (tdC (.int 1)))) tdNoP)) (tdEx (tdLst (tfCons (tdC2 CIx (tdNm 2) (tdEx (tdC (.int 1)))) tfNil)))) (tfCons (tdL2 CRep (tdEx (tdLst (tfCons (tdC (.int 0)) tfNil))) (tdNm 1)) tfNil)))) tdNext)
      (tdRet (tdL2 CCat (tdNm 3) (tdEx (tdLc (tdSeqI (tdV 4)) (tgN 5) tdYes (tdTup (tfCons (tdLst (tfCons (tdV 2) (tfCons (tdLstRg1 (tdNm 1)) (tfCons (tdV 5) tfNil)))) (tfCons (tdC (.int 2)) tfNil))) [5]))))))))
def s4_law_odd_motions (Xc : XC) : TDS := (tdRet (tdL2 CCat (tdNm 3) (tdEx (tdLc (tdSeqI (tdV 4)) (tgN 5) tdYes (tdTup (tfCons (tdLst (tfCons (tdV 2) (tfCons (tdLstRg1 (tdNm 1)) (tfCons (tdV 5) tfNil)))) (tfCons (tdC (.int 2)) tfNil))) [5]))))
def s3_law_odd_motions (Xc : XC) : TDS := tdSeq (tdIfS (tdTest (tdI0 (fun i j => .bl (decide (j < i))) (tdNm 1) (tdEx (tdC (.int 1))))) (tdExt 4 (tdLst (tfCons (tdL2 CCat (tdEx (tdSlice (tdNm 2) (tdSoP (tdEx (tdC (.int 1)))) tdNoP)) (tdEx (tdLst (tfCons (tdC2 CIx (tdNm 2) (tdEx (tdC (.int 1)))) tfNil)))) (tfCons (tdL2 CRep (tdEx (tdLst (tfCons (tdC (.int 0)) tfNil))) (tdNm 1)) tfNil)))) tdNext) (s4_law_odd_motions Xc)
def s2_law_odd_motions (Xc : XC) : TDS := tdSeq (tdAsg (tdLst (tfCons (tdC .non) (tfCons (tdSlice (tdNm 2) tdNoP (tdSoP (tdEx (tdNeg (tdEx (tdC (.int 1))))))) (tfCons (tdL2 CCat (tdNm 2) (tdEx (tdLst (tfCons (tdV 1) tfNil)))) (tfCons (tdL2 CCat (tdEx (tdSlice (tdNm 2) tdNoP (tdSoP (tdEx (tdNeg (tdEx (tdC (.int 1)))))))) (tdEx (tdLst (tfCons (tdV 1) tfNil)))) (tfCons (tdL2 CCat (tdEx (tdLst (tfCons (tdNeg (tdEx (tdC (.int 1)))) tfNil))) (tdEx (tdSlice (tdNm 2) (tdSoP (tdEx (tdC (.int 1)))) tdNoP))) (tfCons (tdL2 CRep (tdEx (tdLst (tfCons (tdC (.bl true)) tfNil))) (tdNm 1)) (tfCons (tdOp2 fRepS (tdEx (tdC (.str "0"))) (tdNm 1)) (tfCons (tdL2 CCat (tdEx (tdSlice (tdNm 2) tdNoP (tdSoP (tdEx (tdNeg (tdEx (tdC (.int 1)))))))) (tdEx (tdLst (tfCons (tdC .non) tfNil)))) tfNil))))))))) 4) (s3_law_odd_motions Xc)
def s1_law_odd_motions (Xc : XC) : TDS := tdSeq (tdAsg (tdLst (tfCons (tdTup (tfCons (tdC .non) (tfCons (tdC (.int 0)) tfNil))) (tfCons (tdTup (tfCons (tdC (.int 5)) (tfCons (tdC (.int 0)) tfNil))) (tfCons (tdTup (tfCons (tdLst tfNil) (tfCons (tdC (.int 0)) tfNil))) (tfCons (tdTup (tfCons (tdC (.str "motions")) (tfCons (tdC (.int 0)) tfNil))) (tfCons (tdTup (tfCons tdDictA (tfCons (tdC (.int 0)) tfNil))) (tfCons (tdTup (tfCons (tdV 2) (tfCons (tdC (.int 0)) tfNil))) (tfCons (tdTup (tfCons (tdLst (tfCons (tdC .non) tfNil)) (tfCons (tdC (.int 0)) tfNil))) (tfCons (tdTup (tfCons (tdLst (tfCons (tdLst tfNil) tfNil)) (tfCons (tdC (.int 0)) tfNil))) (tfCons (tdTup (tfCons (tdLst (tfCons (tdC (.int 5)) tfNil)) (tfCons (tdC (.int 0)) tfNil))) (tfCons (tdTup (tfCons (tdC (.bl true)) (tfCons (tdC (.int 0)) tfNil))) tfNil))))))))))) 3) (s2_law_odd_motions Xc)
def s0_law_odd_motions (Xc : XC) : TDS := tdSeq (tdUnp (tdTup (tfCons (tdB CLen (tdCons (tdEx (tdC2 CIx (tdNm 0) (tdEx (tdC (.int 0))))) tdNil)) (tfCons (tdListA (tdCons (tdEx (tdC2 CIx (tdNm 0) (tdEx (tdC (.int 0))))) tdNil)) tfNil))) (tgT [1, 2])) (s1_law_odd_motions Xc)
theorem t_law_odd_motions_eq (Xc : XC) : t_law_odd_motions Xc = s0_law_odd_motions Xc := rfl
theorem mot_inv {xs : List D} (h : isMotL xs = true) : ∃ ks : List Int, xs = ks.map .int ∧ ks.Nodup ∧ ∀ i ∈ ks, 0 ≤ i ∧ i < ks.length := by
  unfold isMotL at h
  cases e : D.ints xs with
  | none => rw [e] at h; cases h
  | some ks =>
    rw [e] at h
    have h2 := of_decide_eq_true (Bool.and_eq_true_iff.mp h).2
    have hp : (iota ks.length).Perm ks := h2 ▸ List.mergeSort_perm ks _
    exact ⟨ks, ints_eq e, hp.nodup_iff.mp nodup_iota, fun i hi => mem_iota.mp (hp.mem_iff.mpr hi)⟩
theorem good_inv {h : D} {b : Bool} {xs : List D} (g : goodM h (.seq b xs) = true) : lenD h = xs.length ∧ ∃ ks : List Int, xs = ks.map .int ∧ ks.Nodup ∧ ∀ i ∈ ks, 0 ≤ i ∧ i < xs.length := by
  unfold goodM at g
  obtain ⟨g1, g2⟩ := Bool.and_eq_true_iff.mp g
  obtain ⟨g1, _⟩ := Bool.and_eq_true_iff.mp g1
  obtain ⟨ks, e, h1, h2⟩ := mot_inv (Bool.and_eq_true_iff.mp (Bool.and_eq_true_iff.mp g1).2).2
  have e : xs = ks.map .int := e
  refine ⟨(of_decide_eq_true g2).symm, ks, e, h1, fun i hi => ?_⟩
  rw [e, List.length_map]; exact h2 i hi
theorem good_P {n : Nat} (hn : 1 ≤ n) {w v : Wd} (hw : IsP n w) (hv : IsP n v) : goodM (inL w) (inL v) = true := by
  have e1 : lenD (inL v) = n := by show (v.map D.int).length = n; rw [List.length_map, hv.len]
  have e2 : lenD (inL w) = n := by show (w.map D.int).length = n; rw [List.length_map, hw.len]
  unfold goodM
  rw [e1, e2]
  rw [show isMotOf (n : Nat) (inL v) = true from good_of hv]
  simp; omega
theorem not_seq {h : D} {x : D} (e : isSeq x = false) : goodM h x = false := by
  unfold goodM isMotOf; rw [e]; rfl
theorem odd_two {n : Nat} (hn : 1 ≤ n) {w : Wd} (hw : IsP n w) {x : D} (h : goodM (inL w) x = false) : wrongM (.seq false [inL w, inL (iota n), x]) = some 2 := by
  show List.findIdx? (fun m => !goodM (inL w) m) [inL w, inL (iota n), x] = some 2
  rw [List.findIdx?_cons, List.findIdx?_cons, List.findIdx?_cons, good_P hn hw hw, good_P hn hw IsP.iota, h]
  rfl
theorem sIx_m1 (n : Nat) : HT.sIx n n (some (-1)) = n - 1 := by
  unfold HT.sIx
  simp only []
  rw [if_pos (by decide)]; omega
theorem cut_last (w : Wd) : cutD (w.map .int) none (some (-1)) = (w.take (w.length - 1)).map .int := by
  have e : HT.sIx (w.map D.int).length (w.map D.int).length (some (-1)) = w.length - 1 := by
    rw [List.length_map, sIx_m1]
  unfold cutD
  rw [e, HT.sIx_none, List.map_take]
  rfl
theorem cut_tail (w : Wd) : cutD (w.map .int) (some 1) none = (w.drop 1).map .int := by
  have e : HT.sIx (w.map D.int).length 0 (some ((1 : Nat) : Int)) = min 1 w.length := by rw [HT.sIx_nat, List.length_map]
  unfold cutD
  rw [show (some 1 : Option Int) = some ((1 : Nat) : Int) from rfl, e, HT.sIx_none, List.length_map, List.take_of_length_le (by rw [List.length_drop, List.length_map]; exact Nat.le_refl _), List.map_drop]
  cases w <;> rfl
theorem dpt_flat {b : Bool} {xs : List D} (h : ∀ x ∈ xs, isFlat x = true) : (D.seq b xs).dpt ≤ 1 := Nat.succ_le_succ (dpts_of fun x hx => by
  have := h x hx
  cases x <;> first | exact Nat.le_refl _ | cases this)
/-- a thing that is no motion beside w -/
structure OddX (w : Wd) (x : D) : Prop where
  ok : x.ok = true
  dp : x.dpt ≤ 1
  bad : goodM (inL w) x = false
theorem OddX.of {n : Nat} {w : Wd} (hw : IsP n w) (hn : n ≤ 1000) {us : List D} (h1 : us.length ≤ 2000) (h2 : ∀ x ∈ us, isFlat x = true) (h3 : ∀ x ∈ us, x.ok = true)
    (h : ∀ ks : List Int, us = ks.map .int → us.length = n → ks.Nodup → (∀ i ∈ ks, 0 ≤ i ∧ i < n) → False) : OddX w (.seq false us) := by
  refine ⟨ok_seq.mpr ⟨by rw [sizeLine_eq]; omega, h3⟩, dpt_flat h2, ?_⟩
  rw [Bool.eq_false_iff]
  intro g
  obtain ⟨e, ks, e1, e2, e3⟩ := good_inv g
  have e : (w.map D.int).length = us.length := e
  rw [List.length_map, hw.len] at e
  exact h ks e1 e.symm e2 fun i hi => by have := e3 i hi; omega
theorem flat_ints {w : Wd} : ∀ x ∈ w.map D.int, isFlat x = true := fun x h => by obtain ⟨i, _, rfl⟩ := List.mem_map.mp h; rfl
theorem ok_int {w : Wd} : ∀ x ∈ w.map D.int, x.ok = true := fun x h => by obtain ⟨i, _, rfl⟩ := List.mem_map.mp h; rfl
theorem OddX.ints {n : Nat} {w : Wd} (hw : IsP n w) (hn : n ≤ 1000) {v : Wd} (h1 : v.length ≤ 2000)
    (h : v.length = n → v.Nodup → (∀ i ∈ v, 0 ≤ i ∧ i < n) → False) : OddX w (.seq false (v.map .int)) :=
  OddX.of hw hn (by simpa using h1) flat_ints ok_int fun ks e l d b => by
    have : v = ks := map_eq_of (fun _ _ e => by cases e; rfl) e
    subst this
    exact h (by simpa using l) d b
theorem foldl_rep_list (a : Array Nat) : ∀ (n : Nat) (b : Array Nat), ((List.replicate n a).foldl (· ++ ·) b).toList = b.toList ++ (List.replicate n a.toList).flatten
  | 0, b => by simp
  | n + 1, b => by rw [List.replicate_succ, List.foldl_cons, foldl_rep_list a n]; simp [List.replicate_succ]
theorem strRep_toList (i : Str) (n : Nat) : (strRep i n).cps.toList = (List.replicate n i.cps.toList).flatten := by
  show ((List.replicate n i.cps).foldl (· ++ ·) #[]).toList = _
  rw [foldl_rep_list]; rfl
theorem ok_rep0 {n : Nat} (h : n ≤ sizeLine) : (D.str (strRep (Str.ofString "0") n)).ok = true := by
  have e := strRep_toList (Str.ofString "0") n
  have e0 : (Str.ofString "0").cps.toList = [48] := by decide +kernel
  rw [e0] at e
  have e1 : (List.replicate n [48]).flatten = List.replicate n 48 := by
    induction n with
    | zero => rfl
    | succ n ih => simp [List.replicate_succ]
  rw [e1] at e
  have e2 : (strRep (Str.ofString "0") n).cps = (List.replicate n 48).toArray := by rw [← e]
  show (PyData.strOk _ && decide (_ ≤ sizeLine)) = true
  unfold PyData.strOk PySem.Str.length
  rw [e2, List.all_toArray, Bool.and_eq_true, List.all_eq_true]
  refine ⟨fun x hx => by rw [List.eq_of_mem_replicate hx]; rfl, ?_⟩
  simp [h]
theorem fRepS_nat {i : Str} {n : Nat} (h : i.length * n ≤ sizeLine) (h2 : n < 2 ^ 63) : fRepS (.str i) (.int (n : Nat)) = some (.str (strRep i n)) := by
  simp only [fRepS]
  rw [if_pos ⟨⟨by omega, by omega⟩, by rw [Int.toNat_natCast]; exact h⟩, Int.toNat_natCast]
theorem len_0 : (Str.ofString "0").length = 1 := by decide +kernel
theorem cl_last (w : Wd) : (cutD (w.map .int) none (some (-1))).length = w.length - 1 := by rw [cut_last]; simp
theorem cl_tail (w : Wd) : (cutD (w.map .int) (some 1) none).length = w.length - 1 := by rw [cut_tail]; simp
theorem rep_one {x : D} (n : Nat) : (List.replicate n [x]).flatten = List.replicate n x := by
  induction n with
  | zero => rfl
  | succ n ih => simp [List.replicate_succ]
theorem vc_law_odd_motions : ∀ ds Kc, F_law_odd_motions ds Kc → t_law_odd_motions (excA Kc) (rtA Kc) (ds.map (.fz false) ++ nos (6 - ds.length)) := by
  intro ds Kc h
  match ds, h with
  | [_], ⟨n, b, w, xs, rfl, hw, hn, hk⟩ =>
    rw [t_law_odd_motions_eq]
    unfold s0_law_odd_motions
    walk_at "sx"
    have hl : w.length = n := hw.len
    have z : ∀ k : Nat, k ≤ 10000 → (k ≤ sizeLine) := fun k h => by rw [sizeLine_eq]; omega
    have i0 : CIx (D.seq b (inL w :: xs)) (D.int 0) (inL w) := cix_nat (i := 0) rfl
    refine ⟨inL w, i0, .int (w.length : Nat), by show D.int _ = D.int _; rw [List.length_map], inL w, i0, w.map .int, rfl, z 2 (by omega), ?_⟩
    rw [hl]
    show s1_law_odd_motions _ _ [.fz false _, .fz true (.int (n : Nat)), .fz false (inL w), .no, .no, .no]
    unfold s1_law_odd_motions
    walk_at "sx"
    simp only [z 0 (by omega), z 1 (by omega), z 2 (by omega), z 10 (by omega), true_and]
    refine ⟨false, fun p => ?_⟩
    rw [if_neg (by simp)]
    generalize e1 : [D.seq true [D.non, D.int 0], D.seq true [D.int 5, D.int 0], D.seq true [D.seq false [], D.int 0], D.seq true [D.str (Str.ofString "motions"), D.int 0], D.seq true [D.dk [] [], D.int 0],
      D.seq true [inL w, D.int 0], D.seq true [D.seq false [D.non], D.int 0], D.seq true [D.seq false [D.seq false []], D.int 0], D.seq true [D.seq false [D.int 5], D.int 0], D.seq true [D.bl true, D.int 0]] = L1
    unfold s2_law_odd_motions
    walk_at "sx"
    simp only [z 0 (by omega), z 1 (by omega), z 8 (by omega), true_and]
    refine ⟨w.map .int ++ [.int (n : Nat)], ⟨_, _, rfl, rfl, rfl, by rw [List.length_map, List.length_singleton]; exact z _ (by omega)⟩, _, ⟨_, _, rfl, rfl, rfl, ?_⟩, _, ⟨_, _, rfl, rfl, rfl, ?_⟩, List.replicate n (.bl true), ⟨[.bl true], n, rfl, rfl, ?_, ⟨by omega, by omega⟩, by show 1 * _ ≤ _; rw [Int.toNat_natCast]; exact z _ (by omega)⟩, .str (strRep (Str.ofString "0") n), ?_, _, ⟨_, _, rfl, rfl, rfl, ?_⟩, fun p2 => ?_⟩
    · rw [cl_last, List.length_singleton]; exact z _ (by omega)
    · rw [cl_tail, List.length_singleton]; exact z _ (by omega)
    · rw [Int.toNat_natCast, rep_one]
    · exact fRepS_nat (by rw [len_0, Nat.one_mul]; exact z n (by omega)) (by omega)
    · rw [cl_last, List.length_singleton]; exact z _ (by omega)
    have tail : ∀ L : List D, L.length ≤ 10 → (∀ x ∈ L, OddX w x) → s4_law_odd_motions (excA Kc)
        { nx := fun x => Kc (Out.ret D.non), rt := fun x x_1 => ∃ nw d, x.view = some (nw, d) ∧ Kc (Out.ret d) }
        [It.fz false (D.seq b (inL w :: xs)), It.fz true (D.int n), It.fz false (inL w), It.ow p false (D.seq false L1), It.ow p2 false (D.seq false L), It.no] := by
      intro L hL hx
      unfold s4_law_odd_motions
      walk_at "sx"
      refine lc_ds (fun x => oddD (.seq false [inL w, inL (iota n), x], 2)) false (by have := z 10 (by omega); omega) (fun d hm Q k => ?_) (fun h a => h _ a) (fun h a => h _ _ a) (fun q => ?_)
      · walk_at "sx"
        refine ⟨rgOk_nat (z n (by omega)), z 3 (by omega), z 2 (by omega), ?_⟩
        rw [rgD_iota]
        refine k _ _ (fun h => by cases h) ?_
        walk_at "sx"
      · walk_at "sx"
        have ho : ∃ os : List (D × Nat), (∀ p ∈ os, oddOk p) ∧ os.length = 10 ∧ L1 = os.map oddD := by
          refine ⟨[(.non, 0), (.int 5, 0), (.seq false [], 0), (.str (Str.ofString "motions"), 0), (.dk [] [], 0), (inL w, 0), (.seq false [.non], 0), (.seq false [.seq false []], 0), (.seq false [.int 5], 0), (.bl true, 0)], ?_, rfl, e1.symm⟩
          intro q hq
          simp only [List.mem_cons, List.not_mem_nil, or_false] at hq
          rcases hq with rfl | rfl | rfl | rfl | rfl | rfl | rfl | rfl | rfl | rfl
          all_goals first | exact ⟨by decide +kernel, by decide +kernel, by decide +kernel⟩ | skip
          refine ⟨ok_ints false (by rw [hl]; exact z n (by omega)), Nat.le_trans (dpt_flat flat_ints) (by decide), ?_⟩
          obtain ⟨x0, w', rfl⟩ : ∃ x0 w', w = x0 :: w' := by
            cases w with
            | nil => simp at hl; omega
            | cons a t => exact ⟨a, t, rfl⟩
          show List.findIdx? (fun m => !goodM (.int x0) m) (.int x0 :: w'.map D.int) = some 0
          rw [List.findIdx?_cons, not_seq (h := .int x0) (x := .int x0) rfl]; rfl
        obtain ⟨os, h1, h2, h3⟩ := ho
        refine ⟨(os ++ L.map fun x => (D.seq false [inL w, inL (iota n), x], 2)).map oddD, ⟨_, _, rfl, rfl, by rw [List.map_append, List.map_map, h3]; rfl, ?_⟩, hk _ (fun q hq => ?_) ?_⟩
        · rw [h3, List.length_map, List.length_map, h2]; exact z _ (by omega)
        · rcases List.mem_append.mp hq with h | h
          · exact h1 q h
          · obtain ⟨x, hxm, rfl⟩ := List.mem_map.mp h
            have o := hx x hxm
            have ow : (inL w).ok = true := ok_ints false (by rw [hl]; exact z n (by omega))
            have oi : (inL (iota n)).ok = true := ok_ints false (by rw [length_iota]; exact z n (by omega))
            refine ⟨(ok_seq (b := false) (xs := [inL w, inL (iota n), x])).mpr ⟨z 3 (by omega), fun y hy => ?_⟩, Nat.succ_le_succ (dpts_of fun y hy => ?_), odd_two hn.1 hw o.bad⟩
            · simp only [List.mem_cons, List.not_mem_nil, or_false] at hy
              rcases hy with rfl | rfl | rfl
              · exact ow
              · exact oi
              · exact o.ok
            · simp only [List.mem_cons, List.not_mem_nil, or_false] at hy
              rcases hy with rfl | rfl | rfl
              · exact dpt_flat flat_ints
              · exact dpt_flat flat_ints
              · exact o.dp
        · rw [List.length_append, List.length_map, h2]; omega
    generalize e2 : [D.non, D.seq false (cutD (List.map D.int w) none (some (-1))),
                                                  D.seq false (w.map .int ++ [.int (n : Nat)]), D.seq false _, D.seq false _, D.seq false _, D.str _,
                                                  D.seq false _] = L2
    unfold s3_law_odd_motions
    walk_at "sx"
    have hx : ∀ x ∈ L2, OddX w x := by
      intro x hm
      rw [← e2] at hm
      simp only [List.mem_cons, List.not_mem_nil, or_false] at hm
      rcases hm with rfl | rfl | rfl | rfl | rfl | rfl | rfl | rfl
      · exact ⟨rfl, by decide, not_seq rfl⟩
      · rw [cut_last]
        exact OddX.ints hw hn.2 (by simp; omega) fun h _ _ => by rw [List.length_take] at h; omega
      · have := OddX.ints (v := w ++ [(n : Int)]) hw hn.2 (by simp; omega) fun h _ _ => by rw [List.length_append, List.length_singleton] at h; omega
        simpa using this
      · rw [cut_last]
        have := OddX.ints (v := w.take (w.length - 1) ++ [(n : Int)]) hw hn.2 (by simp; omega) fun _ _ b => by have := b n (by simp); omega
        simpa using this
      · rw [cut_tail]
        have := OddX.ints (v := (-1) :: w.drop 1) hw hn.2 (by simp; omega) fun _ _ b => by have := b (-1) (by simp); omega
        simpa using this
      · refine OddX.of hw hn.2 (by simp; omega) (fun y hy => by rw [List.eq_of_mem_replicate hy]; rfl) (fun y hy => by rw [List.eq_of_mem_replicate hy]; rfl) fun ks e l _ _ => ?_
        obtain ⟨m, rfl⟩ : ∃ m, n = m + 1 := ⟨n - 1, by omega⟩
        cases ks with
        | nil => simp at e
        | cons k ks => simp [List.replicate_succ] at e
      · exact ⟨ok_rep0 (z n (by omega)), Nat.zero_le _, not_seq rfl⟩
      · rw [cut_last]
        refine OddX.of hw hn.2 (by simp; omega) (fun y hy => ?_) (fun y hy => ?_) fun ks e _ _ _ => ?_
        · rcases List.mem_append.mp hy with h | h
          · exact flat_ints _ h
          · rw [List.mem_singleton.mp h]; rfl
        · rcases List.mem_append.mp hy with h | h
          · exact ok_int _ h
          · rw [List.mem_singleton.mp h]; rfl
        · have : D.non ∈ ks.map D.int := by rw [← e]; simp
          obtain ⟨_, _, h⟩ := List.mem_map.mp this
          cases h
    have l2 : L2.length = 8 := by rw [← e2]; rfl
    refine ⟨fun h => ?_, fun _ => tail L2 (by omega) hx⟩
    have h : 1 < n := by have := of_decide_eq_true h; omega
    have w1 : w[1]? = some w[1] := List.getElem?_eq_getElem (by omega)
    refine ⟨.int w[1], cix_nat (i := 1) (by rw [List.getElem?_map, w1]; rfl), z 1 (by omega), _, ⟨_, _, rfl, rfl, rfl, ?_⟩, z 1 (by omega), _, ⟨[.int 0], n, rfl, rfl, rfl, ⟨by omega, by omega⟩, by show 1 * _ ≤ _; rw [Int.toNat_natCast]; exact z _ (by omega)⟩, z 2 (by omega), by rw [l2]; exact z _ (by omega), tail _ (by rw [List.length_append, l2]; exact Nat.le_refl _) fun x hm => ?_⟩
    · rw [cl_tail, List.length_singleton]; exact z _ (by omega)
    rcases List.mem_append.mp hm with hm | hm
    · exact hx x hm
    simp only [List.mem_cons, List.not_mem_nil, or_false] at hm
    rcases hm with rfl | rfl
    · rw [cut_tail]
      refine OddX.ints (v := w.drop 1 ++ [w[1]]) hw hn.2 (by simp; omega) (fun _ hd _ => ?_) |> fun o => by simpa using o
      have : w[1] ∈ w.drop 1 := by
        rw [List.mem_iff_getElem?]
        exact ⟨0, by rw [List.getElem?_drop]; exact w1⟩
      exact (List.nodup_append.mp hd).2.2 _ this _ (by simp) rfl
    · rw [Int.toNat_natCast, rep_one]
      refine OddX.ints (v := List.replicate n 0) hw hn.2 (by simp; omega) (fun _ hd _ => ?_) |> fun o => by simpa using o
      obtain ⟨m, rfl⟩ : ∃ m, n = m + 2 := ⟨n - 2, by omega⟩
      simp [List.replicate_succ] at hd
end TL
namespace TL
open PySem PySem.Spec PyProof.Rows L2
def FlV (v : V) : Prop := ∃ d : D, d.flat = some v
mutual
inductive SpR (S : Addr → Bool) (H : Hp) (m : Nat) : V → D → Prop
  | flat {v : V} {d : D} : FlV v → SpR S H m v d
  | lst {a : Addr} {vs us : List V} {ds : List D} : S a = true → H a = some (.lst (vs ++ us)) → SpRL S H m vs ds → (∀ u ∈ us, FlV u) → us.length ≤ m → SpR S H m (.ref a) (.seq false ds)
  | tup {a : Addr} {vs : List V} {ds : List D} : H a = some (.tup vs) → SpRL S H m vs ds → SpR S H m (.ref a) (.seq true ds)
inductive SpRL (S : Addr → Bool) (H : Hp) (m : Nat) : List V → List D → Prop
  | nil : SpRL S H m [] []
  | cons {v : V} {vs : List V} {d : D} {ds : List D} : SpR S H m v d → SpRL S H m vs ds → SpRL S H m (v :: vs) (d :: ds)
end
mutual
def D.cnt : D → Nat
  | .seq _ xs => D.cnts xs + 1
  | _ => 0
def D.cnts : List D → Nat
  | [] => 0
  | x :: xs => x.cnt + D.cnts xs
end
mutual
def D.wid : D → Nat
  | .seq _ xs => max xs.length (D.wids xs)
  | _ => 0
def D.wids : List D → Nat
  | [] => 0
  | x :: xs => max x.wid (D.wids xs)
end
theorem cnts_app : ∀ (xs ys : List D), D.cnts (xs ++ ys) = D.cnts xs + D.cnts ys
  | [], ys => by simp [D.cnts]
  | x :: xs, ys => by rw [List.cons_append, D.cnts, D.cnts, cnts_app xs ys]; omega
theorem cnts_non : ∀ n : Nat, D.cnts (List.replicate n .non) = 0
  | 0 => rfl
  | n + 1 => by rw [List.replicate_succ, D.cnts, cnts_non n]; rfl
theorem cnts_take {xs : List D} {i : Nat} {d : D} (h : xs[i]? = some d) : D.cnts (xs.take (i + 1)) = D.cnts (xs.take i) + d.cnt := by
  rw [List.take_succ, h, cnts_app]; simp [D.cnts]
theorem cnts_le (xs : List D) (i : Nat) : D.cnts (xs.take i) ≤ D.cnts xs := by
  conv => rhs; rw [← List.take_append_drop i xs, cnts_app]
  omega
theorem wids_le {xs : List D} : ∀ x ∈ xs, x.wid ≤ D.wids xs := by
  induction xs with
  | nil => intro x h; cases h
  | cons y xs ih =>
    intro x h
    rcases List.mem_cons.mp h with rfl | h
    · exact Nat.le_max_left _ _
    · exact Nat.le_trans (ih x h) (Nat.le_max_right _ _)
/-- what stood stands, but that lists of S grew by flat things -/
def Ext (S : Addr → Bool) (c : Nat) (H H' : Hp) : Prop := ∀ a o, H a = some o → H' a = some o ∨ (S a = true ∧ ∃ vs us, o = .lst vs ∧ H' a = some (.lst (vs ++ us)) ∧ (∀ u ∈ us, FlV u) ∧ us.length ≤ c)
theorem Ext.le {S : Addr → Bool} {c : Nat} {H H' : Hp} (h : Le H H') : Ext S c H H' := fun a o e => .inl (h a o e)
theorem Ext.mono {S S' : Addr → Bool} {c c' : Nat} {H H' : Hp} (h : Ext S c H H') (s : ∀ a, S a = true → S' a = true) (l : c ≤ c') : Ext S' c' H H' := fun a o e => by
  rcases h a o e with h | ⟨h0, vs, us, h1, h2, h3, h4⟩
  · exact .inl h
  · exact .inr ⟨s a h0, vs, us, h1, h2, h3, by omega⟩
theorem Ext.trans {S : Addr → Bool} {c c' : Nat} {H H1 H2 : Hp} (h : Ext S c H H1) (h' : Ext S c' H1 H2) : Ext S (c + c') H H2 := fun a o e => by
  rcases h a o e with h | ⟨h0, vs, us, rfl, h2, h3, h4⟩
  · rcases h' a o h with h | ⟨h0, vs, us, h1, h2, h3, h4⟩
    · exact .inl h
    · exact .inr ⟨h0, vs, us, h1, h2, h3, by omega⟩
  · rcases h' a _ h2 with h | ⟨_, vs', us', e1, h2', h3', h4'⟩
    · exact .inr ⟨h0, vs, us, rfl, h, h3, by omega⟩
    · cases e1
      refine .inr ⟨h0, vs, us ++ us', rfl, by rw [h2', List.append_assoc], fun u hu => ?_, by rw [List.length_append]; omega⟩
      rcases List.mem_append.mp hu with h | h
      · exact h3 u h
      · exact h3' u h
mutual
theorem SpR.ext {S : Addr → Bool} {c m : Nat} {H H' : Hp} (e : Ext S c H H') : ∀ {v : V} {d : D}, SpR S H m v d → SpR S H' (m + c) v d
  | _, _, .flat h => .flat h
  | _, _, .lst (vs := vs) (us := us) s h r f l => by
    rcases e _ _ h with h | ⟨_, ws, us', e1, h2, h3, h4⟩
    · exact .lst s h (SpRL.ext e r) f (by omega)
    · cases e1
      refine .lst s (by rw [h2, List.append_assoc]) (SpRL.ext e r) (fun u hu => ?_) (by rw [List.length_append]; omega)
      rcases List.mem_append.mp hu with h | h
      · exact f u h
      · exact h3 u h
  | _, _, .tup h r => by
    rcases e _ _ h with h | ⟨_, ws, us', e1, _⟩
    · exact .tup h (SpRL.ext e r)
    · cases e1
theorem SpRL.ext {S : Addr → Bool} {c m : Nat} {H H' : Hp} (e : Ext S c H H') : ∀ {vs : List V} {ds : List D}, SpRL S H m vs ds → SpRL S H' (m + c) vs ds
  | _, _, .nil => .nil
  | _, _, .cons h t => .cons (SpR.ext e h) (SpRL.ext e t)
end
mutual
theorem SpR.res {S S' : Addr → Bool} {m : Nat} {H : Hp} (e : ∀ a, S a = true → (H a).isSome = true → S' a = true) : ∀ {v : V} {d : D}, SpR S H m v d → SpR S' H m v d
  | _, _, .flat h => .flat h
  | _, _, .lst s h r f l => .lst (e _ s (by rw [h]; rfl)) h (SpRL.res e r) f l
  | _, _, .tup h r => .tup h (SpRL.res e r)
theorem SpRL.res {S S' : Addr → Bool} {m : Nat} {H : Hp} (e : ∀ a, S a = true → (H a).isSome = true → S' a = true) : ∀ {vs : List V} {ds : List D}, SpRL S H m vs ds → SpRL S' H m vs ds
  | _, _, .nil => .nil
  | _, _, .cons h t => .cons (SpR.res e h) (SpRL.res e t)
end
theorem SpRL.len {S : Addr → Bool} {m : Nat} {H : Hp} : ∀ {vs : List V} {ds : List D}, SpRL S H m vs ds → vs.length = ds.length
  | _, _, .nil => rfl
  | _, _, .cons _ t => congrArg (· + 1) t.len
theorem SpRL.flats {S : Addr → Bool} {m : Nat} {H : Hp} : ∀ {us : List V}, (∀ u ∈ us, FlV u) → SpRL S H m us (List.replicate us.length .non)
  | [], _ => .nil
  | u :: us, h => .cons (.flat (h u List.mem_cons_self)) (SpRL.flats fun w hw => h w (List.mem_cons_of_mem _ hw))
theorem SpRL.app {S : Addr → Bool} {m : Nat} {H : Hp} : ∀ {vs us : List V} {ds es : List D}, SpRL S H m vs ds → SpRL S H m us es → SpRL S H m (vs ++ us) (ds ++ es)
  | _, _, _, _, .nil, s => s
  | _, _, _, _, .cons r t, s => .cons r (t.app s)
theorem SpRL.get {S : Addr → Bool} {m : Nat} {H : Hp} : ∀ {vs : List V} {ds : List D}, SpRL S H m vs ds → ∀ {i : Nat} {v : V}, vs[i]? = some v → ∃ d, ds[i]? = some d ∧ SpR S H m v d
  | _, _, .nil, _, _, h => by simp at h
  | _, _, .cons r t, 0, _, h => by simp at h; subst h; exact ⟨_, rfl, r⟩
  | _, _, .cons r t, i + 1, _, h => by
    obtain ⟨d, h1, h2⟩ := t.get (i := i) (by simpa using h)
    exact ⟨d, by simpa using h1, h2⟩
mutual
def seqOnly : D → Bool
  | .dk _ _ => false
  | .dt _ _ => false
  | .ins _ _ _ => false
  | .seq _ xs => seqOnlys xs
  | _ => true
def seqOnlys : List D → Bool
  | [] => true
  | x :: xs => seqOnly x && seqOnlys xs
end
theorem seqOnlys_iff : ∀ (xs : List D), seqOnlys xs = xs.all seqOnly
  | [] => rfl
  | x :: xs => by rw [seqOnlys, List.all_cons, seqOnlys_iff xs]
theorem seqOnly_seq {b : Bool} {xs : List D} : seqOnly (.seq b xs) = true ↔ ∀ x ∈ xs, seqOnly x = true := by
  rw [seqOnly, seqOnlys_iff, List.all_eq_true]
mutual
theorem Rep.spR {S : Addr → Bool} {G H : Hp} (hm : ∀ a u, mrg S H G a = some u → H a = some u) : ∀ {v : V} {d : D}, seqOnly d = true → Rep (fun a => S a = true) (mrg S H G) v d → SpR S H 0 v d
  | _, _, _, .non => .flat ⟨.non, rfl⟩
  | _, _, _, .bl b => .flat ⟨.bl b, rfl⟩
  | _, _, _, .int i => .flat ⟨.int i, rfl⟩
  | _, _, _, .str x => .flat ⟨.str x, rfl⟩
  | _, _, q, .lst h p r => .lst (us := []) p (by rw [List.append_nil]; exact hm _ _ h) (RepL.spR hm (seqOnly_seq.mp q) r) (fun u hu => by cases hu) (Nat.zero_le _)
  | _, _, q, .tup h r => .tup (hm _ _ h) (RepL.spR hm (seqOnly_seq.mp q) r)
  | _, _, q, .dk _ _ _ _ => by simp [seqOnly] at q
  | _, _, q, .dt _ _ _ _ => by simp [seqOnly] at q
  | _, _, q, .ins _ _ _ _ => by simp [seqOnly] at q
theorem RepL.spR {S : Addr → Bool} {G H : Hp} (hm : ∀ a u, mrg S H G a = some u → H a = some u) : ∀ {vs : List V} {ds : List D}, (∀ x ∈ ds, seqOnly x = true) → RepL (fun a => S a = true) (mrg S H G) vs ds → SpRL S H 0 vs ds
  | _, _, _, .nil => .nil
  | _, _, q, .cons h t => .cons (Rep.spR hm (q _ List.mem_cons_self) h) (RepL.spR hm (fun x hx => q x (List.mem_cons_of_mem _ hx)) t)
end
def spSpoil (n : Nat) : Sp := fun vs H Q _ => ∃ (v : V) (S : Addr → Bool) (m : Nat) (d : D), vs = [v] ∧ SpR S H m v d ∧ d.dpt < n ∧ m + d.cnt + d.wid ≤ sizeLine ∧ ∀ u H', Ext S d.cnt H H' → Q u H'
section
variable {K : PySem.W.Frag}
theorem isi_run {sg : L2.St} {H : Hp} {v : V} {t b : String} {Q : Bool → Hp → Prop} (hv : sg[0]? = some (some v)) (ht : TyX K H v (.type t)) (hin : t ∈ tagsA) (hb : b ∈ tagsB) (q : Q (isIn t b) H) : L2.tB (tCB (rIsi K) (tCons (tVar 0) (tCons (tC (.ty b)) tNil))) sg H Q :=
  ⟨v, hv, v, .ty b, .type t, .type b, isIn t b, rfl, .ty b, ht, kit_at hin hb, _, rfl, q⟩
theorem isiT_run {sg : L2.St} {H : Hp} {v : V} {t : String} {bs : List String} {Q : Bool → Hp → Prop} (hv : sg[0]? = some (some v)) (ht : ∀ H', Le H H' → TyX K H' v (.type t)) (hin : t ∈ tagsA) (hb : ∀ b ∈ bs, b ∈ tagsB) (hz : bs.length ≤ sizeLine)
    (q : ∀ p, H p = none → Q (isAny t bs) (upd H p (.tup (bs.map V.ty)))) : L2.tB (tCB (rIsiT K) (tCons (tVar 0) (tCons (tTup (tyTA bs)) tNil))) sg H Q := by
  refine ⟨v, hv, ?_⟩
  show tyTA bs sg H fun ys H2 => _
  refine tyTA_run ⟨by simpa using hz, fun p hp => ?_⟩
  exact ⟨v, p, bs.map V.ty, .type t, bs.map Value.type, isAny t bs, rfl, upd_same, cls_all bs, ht _ (Le.nw hp), kit_any hin hb, _, rfl, q p hp⟩
theorem fl_tag {v : V} (h : FlV v) : ∃ t, t ∈ ["NoneType", "bool", "int", "str"] ∧ ∀ H, TyX K H v (.type t) := by
  obtain ⟨d, h⟩ := h
  cases d with
  | non => cases h; exact ⟨_, by decide, fun H => .base .non⟩
  | bl b => cases h; exact ⟨_, by decide, fun H => .base (.bl b)⟩
  | int i => cases h; exact ⟨_, by decide, fun H => .base (.int i)⟩
  | str x => cases h; exact ⟨_, by decide, fun H => .base (.str x)⟩
  | _ => cases h
def tSpoil1 (K : PySem.W.Frag) (n : Nat) (tdct : TS) : TS :=
  tSeq (tIfS (L2.tB (tCB (rIsiT K) (tCons (tVar 0) (tCons (tTup (tCons (tC (.ty "list")) (tCons (tC (.ty "tuple")) tNil))) tNil)))) (tFor (iSeq K (tCB (rListA K) (tCons (tVar 0) tNil))) (gName 1) (tDrop (tCall (spSpoil n) [] E0 (tCons (tVar 1) tNil)))) tNext)
    (tSeq (tIfS (L2.tB (tCB (rIsi K) (tCons (tVar 0) (tCons (tC (.ty "list")) tNil)))) (tDrop (tBM K "list" rAppend (tVar 0) (tCons (tC (.str "spoilt")) tNil))) tNext)
      (tSeq (tIfS (L2.tB (tCB (rIsi K) (tCons (tVar 0) (tCons (tC (.ty "dict")) tNil)))) tdct tNext) (tRet (tVar 0))))
/-- the rest behind the walk -/
theorem spoil_end {tdct : TS} {sg : L2.St} {H : Hp} {v : V} {t : String} {Q : VK} {P : L2.St → Hp → Prop} (hv : sg[0]? = some (some v)) (ht : TyX K H v (.type t)) (hin : t ∈ tagsA) (hnl : isIn t "list" = false) (hnd : isIn t "dict" = false) (q : Q v H) :
    (tSeq (tIfS (L2.tB (tCB (rIsi K) (tCons (tVar 0) (tCons (tC (.ty "list")) tNil)))) (tDrop (tBM K "list" rAppend (tVar 0) (tCons (tC (.str "spoilt")) tNil))) tNext)
      (tSeq (tIfS (L2.tB (tCB (rIsi K) (tCons (tVar 0) (tCons (tC (.ty "dict")) tNil)))) tdct tNext) (tRet (tVar 0)))) { nx := P, rt := Q } sg H := by
  refine isi_run hv ht hin (by decide) ?_
  rw [hnl]
  show tNext _ _ _
  refine isi_run hv ht hin (by decide) ?_
  rw [hnd]
  exact ⟨v, hv, q⟩
theorem spoil_loop {n : Nat} {a : Addr} {ys : List V} {dss : List D} {S : Addr → Bool} {m : Nat} {H1 : Hp} (hsq : SqL K H1 a ys ∨ SqT K H1 a ys) (r : SpRL S H1 m ys dss) (hdp : ∀ d ∈ dss, d.dpt < n) (hz : m + D.cnts dss + D.wids dss ≤ sizeLine)
    {sg : L2.St} (hv : sg[0]? = some (some (.ref a))) (hl : sg.length = 3) {Dn : Ends} (q : ∀ sg' H', sg'[0]? = some (some (.ref a)) → Ext S (D.cnts dss) H1 H' → Dn.nx sg' H') :
    tFor (iSeq K (tCB (rListA K) (tCons (tVar 0) tNil))) (gName 1) (tDrop (tCall (spSpoil n) [] E0 (tCons (tVar 1) tNil))) Dn sg H1 := by
  refine ⟨.ref a, hv, .inl ⟨a, ys, rfl, hsq, fun l hl0 => ⟨l, rfl, .inl ⟨⟨ys, .inl (.inl upd_same)⟩, ?_⟩⟩⟩⟩
  let S' : Addr → Bool := fun b => S b && (H1 b).isSome
  have s1 : ∀ b, S' b = true → S b = true := fun b h => (Bool.and_eq_true_iff.mp h).1
  have s2 : S' l = false := by show (S l && (H1 l).isSome) = false; rw [hl0]; simp
  have r0 : SpRL S' H1 m ys dss := r.res fun b h1 h2 => Bool.and_eq_true_iff.mpr ⟨h1, h2⟩
  have e1 : Ext S' 0 H1 (upd H1 l (.lst ys)) := Ext.le (Le.nw hl0)
  refine ⟨fun i mm sg H => mm = ys.length - i ∧ i ≤ ys.length ∧ sg[0]? = some (some (.ref a)) ∧ sg.length = 3 ∧ H l = some (.lst ys) ∧ Ext S' (D.cnts (dss.take i)) H1 H, ⟨_, rfl, Nat.zero_le _, hv, hl, upd_same, e1⟩, ?_⟩
  rintro i mm sg2 H2 ⟨rfl, hi, hv2, hl2, hl3, ex⟩
  by_cases hlt : i < ys.length
  · have hx : ys[i]? = some ys[i] := List.getElem?_eq_getElem hlt
    obtain ⟨d, hd, rd⟩ := r0.get hx
    refine .inr ⟨⟨ys, _, .inl (.inl hl3), hx⟩, fun sg' H' => True ∧ i + 1 ≤ ys.length ∧ sg'[0]? = some (some (.ref a)) ∧ sg'.length = 3 ∧ H' l = some (.lst ys) ∧ Ext S' (D.cnts (dss.take (i + 1))) H1 H', fun sg' H' h => ⟨ys.length - (i + 1), by omega, rfl, h.2.1, h.2.2⟩, ?_⟩
    rintro x H' ⟨rfl, hy⟩
    have := hy ys (.inl (.inl hl3))
    rw [hx] at this
    cases this
    refine ⟨ys[i], by rw [List.getElem?_set_self (by omega)], ys[i], S', m + D.cnts (dss.take i), d, rfl, rd.ext ex, hdp d (List.mem_of_getElem? hd), ?_, fun u H3 e3 => ?_⟩
    · have a1 := cnts_take hd
      have a2 := cnts_le dss (i + 1)
      have a3 := wids_le d (List.mem_of_getElem? hd)
      omega
    · refine ⟨trivial, hlt, by rw [List.getElem?_set_ne (by decide)]; exact hv2, by simpa using hl2, ?_, ?_⟩
      · rcases e3 l _ hl3 with h | ⟨h, _⟩
        · exact h
        · rw [s2] at h; cases h
      · rw [cnts_take hd]; exact ex.trans e3
  · have e : i = ys.length := by omega
    subst e
    refine .inl ⟨⟨ys, .inl (.inl hl3), Nat.le_refl _⟩, q _ _ hv2 ?_⟩
    have : dss.take ys.length = dss := by rw [r0.len]; exact List.take_length
    rw [this] at ex
    exact ex.mono s1 (Nat.le_refl _)
theorem spoil_walk {n : Nat} {tdct : TS} {vs : List V} {H : Hp} {Q : VK} {E : XK} (h : spSpoil (n + 1) vs H Q E) : tSpoil1 K n tdct { nx := fun _ H' => Q .non H', rt := Q } (start ["thing", "one", "key"] vs) H := by
  obtain ⟨v, S, m, d, rfl, r, hd, hz, k⟩ := h
  have e0 : (start ["thing", "one", "key"] [v])[0]? = some (some v) := rfl
  show L2.tB (tCB (rIsiT K) (tCons (tVar 0) (tCons (tTup (tyTA ["list", "tuple"])) tNil))) _ _ _
  cases r with
  | flat hf =>
    obtain ⟨t, ht, hty⟩ := fl_tag (K := K) hf
    have hin : t ∈ tagsA := by simp at ht; rcases ht with rfl | rfl | rfl | rfl <;> decide
    refine isiT_run e0 (fun H' _ => hty H') hin (by decide) (by rw [sizeLine_eq]; decide) fun p hp => ?_
    have e1 : isAny t ["list", "tuple"] = false := by simp at ht; rcases ht with rfl | rfl | rfl | rfl <;> decide
    have e2 : isIn t "list" = false := by simp at ht; rcases ht with rfl | rfl | rfl | rfl <;> decide
    have e3 : isIn t "dict" = false := by simp at ht; rcases ht with rfl | rfl | rfl | rfl <;> decide
    rw [e1]
    exact spoil_end e0 (hty _) hin e2 e3 (k _ _ (Ext.le (Le.nw hp)))
  | lst hs ha rl hf hm =>
    rename_i a vs us ds
    have hd' : ∀ x ∈ ds, x.dpt < n := fun x hx => Nat.lt_of_le_of_lt (dpts_le x hx) (Nat.lt_of_succ_lt_succ hd)
    have hd0 : D.dpts ds < n := Nat.lt_of_succ_lt_succ hd
    have hc : (D.seq false ds).cnt = D.cnts ds + 1 := rfl
    have hw : (D.seq false ds).wid = max ds.length (D.wids ds) := rfl
    have hmx : D.wids ds ≤ max ds.length (D.wids ds) := Nat.le_max_right _ _
    have hmx2 : ds.length ≤ max ds.length (D.wids ds) := Nat.le_max_left _ _
    refine isiT_run (t := "list") e0 (fun H' le => .base (.lst (le _ _ ha))) (by decide) (by decide) (by rw [sizeLine_eq]; decide) fun p hp => ?_
    rw [show isAny "list" ["list", "tuple"] = true by decide]
    have ha1 : (upd H p (.tup (["list", "tuple"].map V.ty))) a = some (.lst (vs ++ us)) := Le.nw hp _ _ ha
    have ex0 : Ext S 0 H (upd H p (.tup (["list", "tuple"].map V.ty))) := Ext.le (Le.nw hp)
    generalize upd H p (.tup (["list", "tuple"].map V.ty)) = H1 at *
    have rl1 := (rl.ext ex0).app (SpRL.flats (S := S) (H := H1) (m := m + 0) hf)
    have hcn : D.cnts (ds ++ List.replicate us.length .non) = D.cnts ds := by rw [cnts_app, cnts_non]; omega
    have hwn : D.wids (ds ++ List.replicate us.length .non) ≤ D.wids ds := by
      have : ∀ (xs : List D) (k : Nat), D.wids (xs ++ List.replicate k .non) ≤ D.wids xs := by
        intro xs k
        induction xs with
        | nil =>
          induction k with
          | zero => exact Nat.le_refl _
          | succ k ih => exact Nat.max_le.mpr ⟨Nat.le_refl _, ih⟩
        | cons x xs ih => exact Nat.max_le.mpr ⟨Nat.le_max_left _ _, Nat.le_trans ih (Nat.le_max_right _ _)⟩
      exact this _ _
    refine spoil_loop (S := S) (m := m + 0) (dss := ds ++ List.replicate us.length .non) (.inl (.inl (.inl ha1))) rl1 (fun x hx => ?_) (by rw [hcn]; omega) rfl rfl fun sg' H' hv' ex => ?_
    · rcases List.mem_append.mp hx with h | h
      · exact hd' x h
      · rw [List.eq_of_mem_replicate h]; exact Nat.lt_of_le_of_lt (Nat.zero_le _) hd0
    rw [hcn] at ex
    have ex1 := ex0.trans ex
    -- the list itself
    have hl : ∃ us', H' a = some (.lst (vs ++ us')) ∧ (∀ u ∈ us', FlV u) ∧ us'.length ≤ m + D.cnts ds := by
      rcases ex _ _ ha1 with h | ⟨_, ws, us', e1, h2, h3, h4⟩
      · exact ⟨us, h, hf, by omega⟩
      · cases e1
        refine ⟨us ++ us', by rw [h2, List.append_assoc], fun u hu => ?_, by rw [List.length_append]; omega⟩
        rcases List.mem_append.mp hu with h | h
        · exact hf u h
        · exact h3 u h
    obtain ⟨us', h1, h2, h3⟩ := hl
    refine isi_run (t := "list") hv' (.base (.lst h1)) (by decide) (by decide) ?_
    rw [show isIn "list" "list" = true by decide]
    refine ⟨.ref a, hv', ?_, a, vs ++ us', .str "spoilt", rfl, rfl, h1, ?_, ?_⟩
    · exact .inl ⟨rfl, _, .inl (.inl h1)⟩
    · have := rl.len; rw [List.length_append]; omega
    have ex2 : Ext S 1 H' (upd H' a (.lst ((vs ++ us') ++ [.str "spoilt"]))) := fun b o e => by
      by_cases hb : b = a
      · subst hb
        rw [h1] at e; cases e
        exact .inr ⟨hs, _, [.str "spoilt"], rfl, upd_same, fun u hu => by rw [List.mem_singleton.mp hu]; exact ⟨.str "spoilt", rfl⟩, Nat.le_refl _⟩
      · exact .inl (by rw [upd_ne hb]; exact e)
    refine isi_run (t := "list") hv' (.base (.lst upd_same)) (by decide) (by decide) ?_
    rw [show isIn "list" "dict" = false by decide]
    refine ⟨.ref a, hv', k _ _ ?_⟩
    rw [hc]
    exact (ex1.trans ex2).mono (fun _ h => h) (by omega)
  | tup ha rl =>
    rename_i a vs ds
    have hd' : ∀ x ∈ ds, x.dpt < n := fun x hx => Nat.lt_of_le_of_lt (dpts_le x hx) (Nat.lt_of_succ_lt_succ hd)
    have hc : (D.seq true ds).cnt = D.cnts ds + 1 := rfl
    have hw : (D.seq true ds).wid = max ds.length (D.wids ds) := rfl
    have hmx : D.wids ds ≤ max ds.length (D.wids ds) := Nat.le_max_right _ _
    refine isiT_run (t := "tuple") e0 (fun H' le => .base (.tup (le _ _ ha))) (by decide) (by decide) (by rw [sizeLine_eq]; decide) fun p hp => ?_
    rw [show isAny "tuple" ["list", "tuple"] = true by decide]
    have ha1 : (upd H p (.tup (["list", "tuple"].map V.ty))) a = some (.tup vs) := Le.nw hp _ _ ha
    have ex0 : Ext S 0 H (upd H p (.tup (["list", "tuple"].map V.ty))) := Ext.le (Le.nw hp)
    generalize upd H p (.tup (["list", "tuple"].map V.ty)) = H1 at *
    refine spoil_loop (S := S) (m := m + 0) (dss := ds) (.inr (.inl (.inl ha1))) (rl.ext ex0) hd' (by omega) rfl rfl fun sg' H' hv' ex => ?_
    have h1 : H' a = some (.tup vs) := by
      rcases ex _ _ ha1 with h | ⟨_, ws, us', e1, _⟩
      · exact h
      · cases e1
    refine spoil_end hv' (.base (.tup h1)) (by decide) (by decide) (by decide) (k _ _ ?_)
    rw [hc]
    exact (ex0.trans ex).mono (fun _ h => h) (by omega)
theorem no_law_spoil : ∀ vs H Q E, ¬ spSpoil 0 vs H Q E := by
  rintro vs H Q E ⟨_, _, _, _, _, _, h, _⟩
  exact Nat.not_lt_zero _ h
def tdSpoil (n i : Nat) : TDS := fun P r => ∃ S d, r[i]? = some (.dp S d) ∧ seqOnly d = true ∧ d.dpt < n ∧ d.cnt + d.wid ≤ sizeLine ∧ P.nx (r.set i .no)
theorem sns_spoil {G0 : Bs} {n i : Nat} {E : XK} : SndS G0 (tDrop (tCall (spSpoil n) [] E (tCons (tVar i) tNil))) (tdSpoil n i) := by
  intro vs ka sg H r P Dn hl En hp k
  obtain ⟨S, d, hi, hs, hd, hz, hp⟩ := hp
  obtain ⟨G, En⟩ := En
  obtain ⟨v, hv⟩ := slot_val En hl hi rfl
  have hik : (ka ++ r)[ka.length + i]? = some (.dp S d) := by rw [get_app]; exact hi
  have X := En.itx hik
  rw [getD_app hl] at X
  have e : sg.getD i none = some v := by rw [List.getD_eq_getElem?_getD, hv]; rfl
  rw [e] at X
  obtain ⟨⟨w, e1, rp⟩, out⟩ := X
  cases e1
  have rs : SpR S H 0 v d := rp.spR (fun a u q => by
    unfold mrg at q
    by_cases h : S a = true
    · rw [if_pos h] at q; exact q
    · rw [if_neg h] at q; exact En.le _ _ q) hs
  refine ⟨v, hv, v, S, 0, d, rfl, rs, hd, by omega, fun u H' ex => ?_⟩
  have nS : ∀ a o, G a = some o → S a = false := fun a o h => by
    cases q : S a with
    | false => rfl
    | true => have := (out a q).1; rw [h] at this; cases this
  have kp : ∀ a o, S a = false → H a = some o → H' a = some o := fun a o h1 h2 => by
    rcases ex a o h2 with h | ⟨h, _⟩
    · exact h
    · rw [h1] at h; cases h
  refine k.nx _ _ _ ⟨newG H H' G, ?_⟩ hp
  have := En.put (y := .no) (G' := newG H H' G) (H' := H') hik (newG_le En.le) (fun a o h => ?_) (fun a xs h => ?_) (fun a o h1 h2 => kp a o h1 h2) (fun a h1 h2 => ?_) trivial fun a h1 => by simp [It.reg] at h1
  · rw [show (ka ++ r).set (ka.length + i) .no = ka ++ r.set i .no from set_app] at this
    exact this
  · unfold newG at h
    cases q : H a with
    | none => rw [q] at h; exact h
    | some u => rw [q] at h; exact kp a o (nS a o h) (En.le _ _ h)
  · unfold newG
    cases q : H a with
    | none => exact h
    | some u =>
      rcases ex a u q with h' | ⟨_, _, _, e1, h', _⟩
      · rw [h'] at h; cases h
        exact En.tp _ _ q
      · rw [h'] at h; cases h
  · unfold newG at h2
    cases q : H a with
    | none => exact .inl rfl
    | some u => rw [q, h1] at h2; cases h2
end
end TL
namespace TL
open PySem PySem.Spec PyProof.Rows L2 LamX
theorem SqL.le {K : PySem.W.Frag} {G H : Hp} {a : Addr} {xs : List V} (le : Le G H) (h : SqL K G a xs) : SqL K H a xs := by
  rcases h with h | h
  · exact .inl (le.rd h)
  · exact .inr h
def spStart (K : PySem.W.Frag) : Sp := fun vs H Q _ => ∃ (a : Addr) (ns : List Int), vs = [.ref a] ∧ SqL K H a (ns.map V.int) ∧ ∀ q p, H q = none → upd H q (.lst (ns.map V.int)) p = none → Q (.ref p) (upd (upd H q (.lst (ns.map V.int))) p (.lst [.ref q, .int 0, .int 0, .int 29]))
theorem start_walk {K : PySem.W.Frag} {vs : List V} {H : Hp} {Q : VK} {E : XK} (h : spStart K vs H Q E) :
    tRet (tLst (tCons (tCB (rListA K) (tCons (tVar 0) tNil)) (tCons (tC (.int 0)) (tCons (tC (.int 0)) (tCons (tC (.int 29)) tNil))))) { nx := fun _ H' => Q .non H', rt := Q } (L2.start ["script"] vs) H := by
  obtain ⟨a, ns, rfl, hs, hq⟩ := h
  refine ⟨.ref a, rfl, .inl ⟨a, _, rfl, .inl hs, fun l hl => ⟨by rw [sizeLine_eq]; exact (by decide : 4 ≤ 16777216), fun p hp => ?_⟩⟩⟩
  exact hq l p hl hp
def tdStart (K : PySem.W.Frag) (i j : Nat) : TDS := fun P r => ∃ ns, r[i]? = some (.scr K ns) ∧ ∀ p q, P.nx (r.set j (.st p q ⟨ns, 0, 0, 29⟩))
theorem sns_start {K : PySem.W.Frag} {G0 : Bs} {i j : Nat} {E : XK} : SndS G0 (tAsg (tCall (spStart K) [] E (tCons (tVar i) tNil)) (gName j)) (tdStart K i j) := by
  intro vs ka sg H r P Dn hl En hp k
  obtain ⟨ns, hi, hp⟩ := hp
  obtain ⟨G, En⟩ := En
  obtain ⟨v, hv⟩ := slot_val En hl hi rfl
  have X := En.ok (ka.length + i) _ (by rw [get_app]; exact hi)
  rw [getD_app hl] at X
  have e : sg.getD i none = some v := by rw [List.getD_eq_getElem?_getD, hv]; rfl
  rw [e] at X
  obtain ⟨a, e1, hs⟩ := X
  cases e1
  refine ⟨.ref a, hv, a, ns, rfl, SqL.le En.le hs, fun q p hq hp' => ?_⟩
  have npq : p ≠ q := fun z => by rw [z, upd_same] at hp'; cases hp'
  have hpn : H p = none := by rw [upd_ne npq] at hp'; exact hp'
  have le : Le H (upd (upd H q (.lst (ns.map V.int))) p (.lst [.ref q, .int 0, .int 0, .int 29])) := (Le.nw hq).trans (Le.nw hp')
  have E1 := En.push (v := some (.ref p)) (x := .st p q ⟨ns, 0, 0, 29⟩) (G' := G) (H' := upd (upd H q (.lst (ns.map V.int))) p (.lst [.ref q, .int 0, .int 0, .int 29])) (Le.refl _) (En.le.trans le) (fun b xs h => ?_) le (fun b h1 h2 => by rw [h1] at h2; cases h2)
    ⟨rfl, npq, upd_same, by rw [upd_ne npq.symm, upd_same]⟩ fun b h => ?_
  · have := Env.assign ⟨G, E1⟩ hl j
    exact k.nx _ _ _ this (hp p q)
  · by_cases h1 : b = p
    · rw [h1, upd_same] at h; cases h
    · rw [upd_ne h1] at h
      by_cases h2 : b = q
      · rw [h2, upd_same] at h; cases h
      · rw [upd_ne h2] at h; exact En.tp _ _ h
  · have h : b = p ∨ b = q := by simpa [It.reg] using h
    rcases h with rfl | rfl
    · exact ⟨hpn, En.le.nn hpn, by rw [upd_same]; rfl⟩
    · exact ⟨hq, En.le.nn hq, by rw [upd_ne npq.symm, upd_same]; rfl⟩
def spLaw (K : PySem.W.Frag) (PT : Addr) : Sp := fun vs H Q _ => ∃ (a : Addr) (ns : List Int), vs = [.ref a] ∧ SqL K H a (ns.map V.int) ∧ H PT = some (.tbl #[]) ∧ ns.length ≤ 63 ∧ ∀ H', Q (.bl true) H'
def rtLaw : TEnds := { nx := fun _ => False, rt := fun x _ => ∃ nw, x.view = some (nw, .bl true) }
theorem EnvG.nos_ {G0 : Bs} {G H : Hp} {vs : List (Option V)} {its : List TL.It} (E : EnvG G0 G H vs its) : ∀ n, EnvG G0 G H (List.replicate n none ++ vs) (nos n ++ its)
  | 0 => E
  | n + 1 => (E.nos_ n).pushNo none
theorem law_env {K : PySem.W.Frag} {H : Hp} {a PT : Addr} {q : Str} {ns : List Int} (hs : SqL K H a (ns.map V.int)) (hP : H PT = some (.tbl #[])) (n : Nat) :
    ∃ G0, Env G0 H (some (.ref a) :: List.replicate (n + 1) none) (.scr K ns :: (nos n ++ [.tb PT q])) := by
  let G : Hp := fun b => if b = PT then none else H b
  have gP : G PT = none := if_pos rfl
  have gn : ∀ b, b ≠ PT → G b = H b := fun b h => if_neg h
  have le : Le G H := fun b o h => by
    by_cases e : b = PT
    · rw [e, gP] at h; cases h
    · rw [gn b e] at h; exact h
  refine ⟨⟨G, fun _ => false, H⟩, G, ?_⟩
  have tpG : ∀ b xs, H b = some (.tup xs) → G b = some (.tup xs) := fun b xs h => by
    by_cases e : b = PT
    · rw [e, hP] at h; cases h
    · rw [gn b e]; exact h
  have E0 : EnvG ⟨G, fun _ => false, H⟩ G G [] [] := ⟨rfl, Le.refl _, Le.refl _, fun _ _ h => h, fun i x h => (by simp at h), fun i j x y a h => (by simp at h), fun i x a h => (by simp at h), fun a h => (by cases h), fun i x a h => (by simp at h)⟩
  have T := TabS.nil (q := q) hP
  have E1 := E0.push (v := none) (x := .tb PT q) (G' := G) (H' := H) (Le.refl _) le tpG le (fun b h1 h2 => by rw [h1] at h2; cases h2) ⟨#[], hP, True.intro, fun pos cv hc => by
    obtain ⟨ps, h1, h2, h3⟩ := T
    rw [hP] at h1; cases h1
    obtain ⟨c, e1, e2⟩ := h3 pos cv hc
    refine ⟨c, e1, ?_⟩
    rw [gn c (fun z => by rw [z, hP] at e2; exact codeO_ne _ (Option.some.inj e2).symm)]; exact e2⟩ fun b h => by
      have : b = PT := by simpa [It.reg] using h
      subst this
      exact ⟨gP, gP, by rw [hP]; rfl⟩
  have E2 := E1.nos_ n
  have hsG : SqL K G a (ns.map V.int) := by
    rcases hs with hs | hs
    · left
      have na : a ≠ PT := fun z => by
        rw [z] at hs
        rcases hs with hs | ⟨o, hs⟩ <;> (rw [hP] at hs; cases hs)
      rcases hs with hs | ⟨o, hs⟩
      · exact .inl (by rw [gn a na]; exact hs)
      · exact .inr ⟨o, by rw [gn a na]; exact hs⟩
    · exact .inr hs
  have E3 := E2.push (v := some (.ref a)) (x := .scr K ns) (Le.refl _) E2.le E2.tp (Le.refl _) (fun b h1 h2 => by rw [h1] at h2; cases h2) ⟨a, rfl, hsG⟩ fun b h => by simp [It.reg] at h
  rw [show List.replicate (n + 1) (none : Option V) = List.replicate n none ++ [none] from List.replicate_succ']
  exact E3
section
variable {P : Program} {w : World} {K : PySem.W.Frag} {mg : Str → Option Value} {base : Heap} {x : Str} {params : Arguments} {body : List Stmt} {scope : Scope} {f : Addr} {fd : FuncData} {N : List Str} {k n : Nat} {p : Str × Option Str} {PT : Addr} {q : Str}
theorem okLaw (F : FunD K x x params body scope [] [] f fd) (hf : f = He.fAd K p) (S : FnScope N ["script"] scope) (hN : N.length = n + 2)
    (hbody : ∀ (A : Around) (outer : List PySem.Env) (s : Shared) (H : Hp) (E : XK), Room k (A.deeper (envOfC x scope s.heap.objs.size f (.ref (He.codeOf K p)))) →
      ∃ (ts : TS) (t : TDS), PSs (cxOf (L2.CX P w) P w K mg base N x scope f (.ref (He.codeOf K p)) A outer s H E) body ts ∧ (∀ G0, SndS G0 ts t) ∧ ∀ ns : List Int, ns.length ≤ 63 → t rtLaw (.scr K ns :: (nos n ++ [.tb PT q]))) :
    FnOk P w K mg base (L2.CX P w) (k + 1) f fd ["script"] (spLaw K PT) := by
  obtain ⟨oc, od, dV, kV, doc, pm, an, cdv, ct, osl, rfl, lk, hcd, _, _⟩ := F.ex
  obtain ⟨c', rfl⟩ := He.codeIn_ref hcd
  have ec : He.codeOf K p = c' := He.codeOf_eq (by rw [← hf]; exact lk) rfl
  refine fn_of lk hcd S (fun vs H Q E ⟨a, ns, e, _⟩ => by rw [e]; rfl) fun A outer s H vs Q E hr ⟨a, ns, e, hs, hP, hl, hq⟩ => ?_
  rw [ec] at hbody
  obtain ⟨ts, t, d1, d2, d3⟩ := hbody A outer s H E hr
  refine ⟨ts, d1, ?_⟩
  subst e
  obtain ⟨G0, E0⟩ := law_env (q := q) hs hP n
  have est : L2.start N [V.ref a] = some (.ref a) :: List.replicate (n + 1) none := by
    unfold L2.start
    rw [hN]; rfl
  rw [est]
  refine d2 G0 [] [] _ H _ _ _ rfl E0 (d3 ns hl) ⟨fun sg H' r' E' h' => h'.elim, fun v sg H' x r' E' h' => ?_, fun _ _ _ _ h => h.elim, fun _ _ _ _ h => h.elim⟩
  obtain ⟨nw, hv⟩ := h'
  obtain ⟨G', E'⟩ := E'
  have X := E'.itx (i := 0) (x := x) (by simp)
  have r := ItX.rep E'.l0 E'.le (by simpa using X) hv
  rw [r.flat rfl]
  exact hq H'
end
theorem walk_ofTE {l : PySem.W.OpenLaw} {n k : Nat} {q : Program} {loose : List Str} {XP : (Str → Option Value) → Heap → Prop} {YP : World → Heap → Prop} {d : DefRec} {CX : World → CXT} {x : Str}
    (hn : l.most = some n) (hn2 : n ≤ sizeLine) (hdf : d.params.defaults = []) (hr : Room k callerA)
    (F : ∀ (w : World) (mg : Str → Option Value) (fa : Addr) (h : Heap), YP w h → h.Ns mainGlobals mg → mg d.name = some (.ref fa) → ∃ K : PySem.W.Frag, K.In h ∧ LawAtS l w K (CX w) k n x mg fa h)
    (hCX : ∀ (w : World) (H : Hp) (s : Shared) (e : Value) (s' : Shared), CX w [] H s (fun _ _ _ => False) e s' → False) :
    PySem.W.WalkO q loose XP YP l.row.toRowW d [] (fun f vs => PySem.call f vs) := by
  refine Att.attach_callB hn hdf fun w s₀ s₁ mg mb fa o pm cd doc a vs ns G Y ho hd hcd hmg hobj hints hlen hbits hg => ?_
  obtain ⟨K, KX, fd, cs, sp, hT, nT, C, hb, hsp, hF⟩ := F w mg fa _ Y G.T.g hmg
  exact law_callTs KX G.T.g G.T.b G.T.builtins G.T.nolimit hg hT nT C G.T.bmain hobj hints (Nat.le_trans hlen hn2) hr hF hb (fun H hH hS => hsp H a ns hlen hbits hH hS) fun H e s' => hCX w H s₁ e s'
theorem cx_none {P : Program} {w : World} {H : Hp} {s : Shared} {e : Value} {s' : Shared} (z : L2.CX P w [] H s (fun _ _ _ => False) e s') : False := by
  obtain ⟨_, _, _, _, _, _, _, _, _, _, _, _, z⟩ := z
  exact z
end TL
namespace TL
open PySem PySem.Spec PyProof.Rows L2
local macro_rules | `(tactic| walk_at "sx") => `(tactic| simp only [tgN, tdYes, tdC2, tdNm, tdEx, tdV, tdC, tdRet, tdLc, tdSeqI, tdSeq, tdIfS, tdNext, tdRetN, tdDrop, tdAsg, tdPar, tdTest, tdAnd, tdOr, tdNot, tdAndV, tdOrV, tdNotV, tdIf, tdCons, tdNil, tfNil, tfCons, tdLst, tdTup, tdI0, tdI, tdOp1, tdOp2, tdEqD, tdIsN, tdIn, tdInD, tdB, tdL, tdT, tdL2, tdCallP, tdCallPD, tdCallA, tdCallD, tdCallDA, tdUnp, tgT, tdRng1, tdRng2, tdFor, tdApp, tdSetL, tdDPut, tdPop, tdPopAt, tdExt, tdAug, tdDictK, tdDictT, tdDict, tdDictA, tdDisp1T, tdListA, tdEnumI, tdZipI, tdRaise, tdIsi, tdIndex, tdLstRg1, tdLstRg2, tdTupRg1, tdSlice, tdNoP, tdSoP, tdNeg, tdForK, tdLcK, tdBreak, tdCont, tdTold, frzR, frz1, capIt, tdSpoil, tdStart, XcTell, tdSortedA, setsR, tdStIx, tdStNe, tdStPop, tdStSet, stF, stS,
  nos, List.replicate, List.map_cons, List.map_nil, List.length_cons, List.length_nil, List.cons_append, List.nil_append, List.set_cons_zero, List.set_cons_succ, List.getElem?_cons_zero, List.getElem?_cons_succ, List.getD_cons_zero, List.getD_cons_succ, wR, List.foldr_cons, List.foldr_nil, dats, cdats, opd_dat, opd_cview, it_sl, it_tm, view_fz, view_ow, view_dp, cview_fz, cview_ow, val_fz, val_ow, val_dp, val_st, D.seq.injEq, D.int.injEq, D.str.injEq, Option.map_some, Option.some.injEq, Prod.mk.injEq, List.cons.injEq, and_true, true_and, exists_eq_left', exists_and_left, exists_eq_left, exists_eq_right, rtP, rtA, rtD, rtDA, outK, outA, excK, excA, Nat.reduceAdd, Nat.reduceSub, Nat.zero_add, Bool.and_true, Bool.true_and, Bool.false_or, Bool.true_or, Bool.or_true, Bool.or_false, Bool.false_and, Bool.and_false, exists_const, and_self, exists_prop, and_assoc, TL.It.fz.injEq, TL.It.ow.injEq, TL.It.st.injEq, Function.comp_apply, D.bl.injEq, exists_eq', eq_self, reduceCtorEq, false_implies, true_implies, implies_true, forall_const, Bool.not_true, Bool.not_false, Bool.true_eq_false, Bool.false_eq_true, if_false, if_true, Bool.not_eq_true', Bool.not_eq_false', ite_false, ite_true, Bool.not_not, forall_eq, forall_eq'])
theorem zle {k : Nat} (h : k ≤ 10000) : k ≤ sizeLine := by rw [sizeLine_eq]; omega
theorem nrms_ints : ∀ {xs : List D} {w : Wd}, xs.map D.nrm = w.map .int → xs = w.map .int
  | [], [], _ => rfl
  | [], _ :: _, h => by cases h
  | _ :: _, [], h => by cases h
  | x :: xs, i :: w, h => by
    rw [List.map_cons, List.map_cons] at h
    have h1 := (List.cons.inj h).1
    rw [List.map_cons, nrms_ints (List.cons.inj h).2]
    cases x with
    | int j => cases h1; rfl
    | _ => cases h1
theorem nrm_ints {e : D} {w : Wd} (h : e.nrm = inL w) : ∃ b, e = gD (b, w) := by
  cases e with
  | seq b xs =>
    have h := (D.seq.inj (show D.seq false (D.nrms xs) = .seq false (w.map .int) from h)).2
    rw [nrms_eq] at h
    exact ⟨b, by rw [nrms_ints h]⟩
  | _ => cases h
theorem nrms_gens : ∀ {xs : List D} {gs : List Wd}, xs.map D.nrm = gs.map inL → ∃ ps : List (Bool × Wd), xs = ps.map gD ∧ ps.map (·.2) = gs
  | [], [], _ => ⟨[], rfl, rfl⟩
  | [], _ :: _, h => by cases h
  | _ :: _, [], h => by cases h
  | x :: xs, w :: gs, h => by
    rw [List.map_cons, List.map_cons] at h
    obtain ⟨c, rfl⟩ := nrm_ints (List.cons.inj h).1
    obtain ⟨ps, e1, e2⟩ := nrms_gens (List.cons.inj h).2
    exact ⟨(c, w) :: ps, by rw [List.map_cons, e1], by rw [List.map_cons, e2]⟩
theorem nrm_gens {e : D} {gs : List Wd} (h : e.nrm = .seq false (gs.map inL)) : ∃ (b : Bool) (ps : List (Bool × Wd)), e = .seq b (ps.map gD) ∧ ps.map (·.2) = gs := by
  cases e with
  | seq b xs =>
    have h := (D.seq.inj (show D.seq false (D.nrms xs) = .seq false (gs.map inL) from h)).2
    rw [nrms_eq] at h
    obtain ⟨ps, e1, e2⟩ := nrms_gens h
    exact ⟨b, ps, by rw [e1], e2⟩
  | _ => cases h
theorem nrm_inL (w : Wd) : (inL w).nrm = inL w := by
  show D.seq false (D.nrms _) = _
  rw [nrms_eq, List.map_map]; rfl
theorem nrm_inLs (gs : List Wd) : (D.seq false (gs.map inL)).nrm = .seq false (gs.map inL) := by
  show D.seq false (D.nrms _) = _
  rw [nrms_eq, List.map_map]
  congr 1
  exact List.map_congr_left fun w _ => nrm_inL w
theorem sq_ints {b : Bool} {w : Wd} (h : w.length ≤ sizeLine) : (D.seq b (w.map .int)).sq = true := sq_seq.mpr ⟨by simpa using h, fun x hx => by obtain ⟨i, _, rfl⟩ := List.mem_map.mp hx; rfl⟩
theorem sq_intss {b : Bool} {gs : List Wd} (h : gs.length ≤ sizeLine) (hw : ∀ w ∈ gs, w.length ≤ sizeLine) : (D.seq b (gs.map inL)).sq = true := sq_seq.mpr ⟨by simpa using h, fun x hx => by obtain ⟨w, hm, rfl⟩ := List.mem_map.mp hx; exact sq_ints (hw w hm)⟩
theorem dpt_intss {b : Bool} {gs : List Wd} : (D.seq b (gs.map inL)).dpt ≤ 2 := Nat.succ_le_succ (dpts_of fun x hx => by obtain ⟨w, _, rfl⟩ := List.mem_map.mp hx; exact dpt_flat flat_ints)
theorem dpt_gens {b : Bool} {ps : List (Bool × Wd)} : (D.seq b (ps.map gD)).dpt ≤ 2 := Nat.succ_le_succ (dpts_of fun x hx => by obtain ⟨w, _, rfl⟩ := List.mem_map.mp hx; exact dpt_flat flat_ints)
theorem nds_ints {b : Bool} {w : Wd} : (D.seq b (w.map .int)).nds = 1 := by
  show 1 + D.ndss _ = 1
  have : D.ndss (w.map D.int) = 0 := by
    induction w with
    | nil => rfl
    | cons i w ih => show 0 + D.ndss _ = 0; rw [ih]
  rw [this]
theorem nds_intss {b : Bool} {gs : List Wd} : (D.seq b (gs.map inL)).nds = 1 + gs.length := by
  show 1 + D.ndss _ = _
  have : D.ndss (gs.map inL) = gs.length := by
    induction gs with
    | nil => rfl
    | cons w gs ih => show (inL w).nds + D.ndss _ = _; rw [ih, nds_ints, List.length_cons]; omega
  rw [this]
theorem cnt_intss {b : Bool} {gs : List Wd} : (D.seq b (gs.map inL)).cnt = gs.length + 1 := by
  have h1 : ∀ w : Wd, (inL w).cnt = 1 := fun w => by
    show D.cnts _ + 1 = 1
    have : D.cnts (w.map D.int) = 0 := by
      induction w with
      | nil => rfl
      | cons i w ih => show 0 + D.cnts _ = 0; rw [ih]
    rw [this]
  show D.cnts _ + 1 = _
  have : D.cnts (gs.map inL) = gs.length := by
    induction gs with
    | nil => rfl
    | cons w gs ih => show (inL w).cnt + D.cnts _ = _; rw [ih, h1, List.length_cons]; omega
  rw [this]
theorem wid_intss {b : Bool} {gs : List Wd} {m : Nat} (hw : ∀ w ∈ gs, w.length ≤ m) : (D.seq b (gs.map inL)).wid ≤ gs.length + m := by
  have h1 : ∀ w : Wd, (inL w).wid ≤ w.length := fun w => by
    refine Nat.max_le.mpr ⟨by simp, ?_⟩
    have : D.wids (w.map D.int) = 0 := by
      induction w with
      | nil => rfl
      | cons i w ih => show max 0 (D.wids _) = 0; rw [ih]; rfl
    rw [this]; exact Nat.zero_le _
  refine Nat.max_le.mpr ⟨by simp, ?_⟩
  have : D.wids (gs.map inL) ≤ m := by
    induction gs with
    | nil => exact Nat.zero_le _
    | cons w gs ih => exact Nat.max_le.mpr ⟨Nat.le_trans (h1 w) (hw w List.mem_cons_self), ih fun v hv => hw v (List.mem_cons_of_mem _ hv)⟩
  omega
theorem seqOnly_ints {b : Bool} {w : Wd} : seqOnly (.seq b (w.map .int)) = true := seqOnly_seq.mpr fun x hx => by obtain ⟨i, _, rfl⟩ := List.mem_map.mp hx; rfl
end TL
namespace TL
open PySem PySem.Spec PyProof.Rows L2 LamX
def oexB (K : PySem.W.Frag) (C : Addr) : Bool := (match K.lookup C with
  | some ⟨.type t, _, .cls cd, sl⟩ => decide (t = "type") && (match cd.mro, sl.toList with
    | .ref C' :: bm, [_, _, _, _, some (.builtin n), _] => (C' == C && n == "ValueError.__new__") && ((!cd.hasDel && cd.hasDict) && PySem.HandSPX.refsVE bm)
    | _, _ => false)
  | _ => false) && (He.eqO (PySem.W.findIn K (.ref C) "__setattr__") (some (some (.builtin "object.__setattr__"))) && (decide (PySem.W.subIn K (.ref C) (.type "BaseException") = some true) && (decide (PySem.W.typeIn K (.ref C) = some (.type "type")) && PySem.W.keepIn K (.ref C))))
theorem oexB_ok {K : PySem.W.Frag} {C : Addr} (h : oexB K C = true) : OexC K C := by
  obtain ⟨h1, h⟩ := Bool.and_eq_true_iff.mp h
  obtain ⟨h2, h⟩ := Bool.and_eq_true_iff.mp h
  obtain ⟨h3, h⟩ := Bool.and_eq_true_iff.mp h
  obtain ⟨h4, h5⟩ := Bool.and_eq_true_iff.mp h
  refine ⟨?_, He.eqO_ok h2, of_decide_eq_true h3, of_decide_eq_true h4, h5⟩
  split at h1
  · rename_i t dd cd sl ho
    obtain ⟨ht, h1⟩ := Bool.and_eq_true_iff.mp h1
    have ht := of_decide_eq_true ht
    subst ht
    split at h1
    · rename_i C' bm k0 k1 k2 k3 n k5 hm hs
      simp only [Bool.and_eq_true, beq_iff_eq, Bool.not_eq_true'] at h1
      obtain ⟨_, ⟨rfl, rfl⟩, ⟨hdel, hdict⟩, hb⟩ := h1
      obtain ⟨nm, bs, mro, ns, qn, hd, sn, sub, ab, col, del⟩ := cd
      dsimp only at hm hdel hdict
      subst hm; subst hdel; subst hdict
      have hsl : sl = #[k0, k1, k2, k3, some (.builtin "ValueError.__new__"), k5] := by
        obtain ⟨l⟩ := sl
        simp only at hs
        rw [hs]
      subst hsl
      exact ⟨nm, qn, ns, bs, bm, sn, sub, ab, col, dd, k0, k1, k2, k3, k5, ho, hb⟩
    · cases h1
  · cases h1
/-- own exceptions raised (oex), caught and read (xf) -/
def exB (oex xf : List Str) (K : PySem.W.Frag) : Bool := (oex.all fun x => oexB K (He.ga K x)) && (xf.all fun x => xfB K (He.ga K x))
theorem exB_oex {oex xf : List Str} {K : PySem.W.Frag} (h : exB oex xf K = true) (i : Nat) {x : Str} (hx : oex[i]? = some x) : OexC K (He.ga K x) := oexB_ok (List.all_eq_true.mp (Bool.and_eq_true_iff.mp h).1 x (List.mem_of_getElem? hx))
theorem exB_xf {oex xf : List Str} {K : PySem.W.Frag} (h : exB oex xf K = true) (i : Nat) {x : Str} (hx : xf[i]? = some x) : XfC K (He.ga K x) := xfB_ok (List.all_eq_true.mp (Bool.and_eq_true_iff.mp h).2 x (List.mem_of_getElem? hx))
section
variable {fa : List He.Fa} {fn : List He.DefD} {K : PySem.W.Frag} {h : Heap} {mg : Str → Option Value}
def dD (x : Str) (st : Stmt) : He.DefD := ⟨(x, none), x, x, defArgs st, defBody st, defScope st, [], []⟩
def mD (x m q : Str) (st : Stmt) : He.DefD := ⟨(x, some m), m, q, defArgs st, defBody st, defScope st, [], []⟩
theorem defAt_of (X : K.In h) (G : h.Ns mainGlobals mg) (c : He.SaysD fa fn K) (i j : Nat) {x : Str} {st : Stmt} (hd : fn[i]? = some (dD x st)) (hg : fa[j]? = some (.glo x)) : DefAt K mg x st := by
  obtain ⟨fd, F⟩ := c.def_ i hd
  exact ⟨_, fd, F, He.glo_ok X G (c.fact j hg)⟩
theorem freeAt_of (X : K.In h) (G : h.Ns mainGlobals mg) (c : He.SaysD fa fn K) (j : Nat) {x : Str} (hg : fa[j]? = some (.free x)) : mg x = none := He.free_ok X G (c.fact j hg)
theorem glo_of (X : K.In h) (G : h.Ns mainGlobals mg) (c : He.SaysD fa fn K) (j : Nat) {x : Str} (hg : fa[j]? = some (.glo x)) : mg x = some (.ref (He.ga K x)) := He.glo_ok X G (c.fact j hg)
theorem noat_of (c : He.SaysD fa fn K) (j : Nat) {x f : Str} (hg : fa[j]? = some (.noat x f)) : PySem.W.findIn K (.ref (He.ga K x)) f = some none := He.noat_ok (c.fact j hg)
theorem exm_of (c : He.SaysD fa fn K) (j : Nat) {x y : Str} {b : Bool} (hg : fa[j]? = some (.exm x y b)) : PySem.W.exmOne K (.ref (He.ga K x)) (.ref (He.ga K y)) = some b := He.exm_ok (c.fact j hg)
def hdsOf (st : Stmt) : List ExceptHandler := match defBody st with
  | [.Try _ hs _ _ _] => hs
  | _ => []
theorem no_law_loose : ∀ vs H Q E, ¬ spD (F_law_loose 0) vs H Q E := by
  rintro vs H Q E ⟨a, q, g, ws, ds, Kc, _, _, _, h, _⟩
  match ds, h with
  | [_], ⟨_, _, h, _⟩ => exact Nat.not_lt_zero _ h
theorem excF_of {P : Program} {w : World} {base : Heap} (X : K.In h) (G : h.Ns mainGlobals mg) (c : He.SaysD fa fn K) {oex xf : List Str} (e : exB oex xf K = true) (i j k l m : Nat) {x q self p f : Str} {st : Stmt} {p1 p2 p3 p4 : Pos} (hx : oex[i]? = some x) (hd : fn[j]? = some (mD x "__init__" q st)) (hg : fa[k]? = some (.glo x)) (hm : fa[l]? = some (.meth x "__init__")) (hn : fa[m]? = some (.noat x f))
    (hb : defBody st = [.Assign [.Attribute (.Name self p1) f p2] (.Name p p3) p4]) (S : FnScope [self, p] [self, p] (defScope st)) (hp : p ≠ self) (hs : (self == ("__debug__" : Str)) = false) (hs2 : (self == ("__classdict__" : Str)) = false) (h3 : (p == ("__debug__" : Str)) = false) (h4 : (p == ("__classdict__" : Str)) = false)
    (hsw : ∀ env, swapsWith (.Name p p3) (some (.Attribute (.Name self p1) f p2)) p4.line env = pure false)
    (hbind : ∀ (kV doc pm : Value) (an : Option Addr) (cdv ct : Value) (us : List Value), us.length = 2 → bindArgs (PySem.W.fnOf "__init__" q (defArgs st) (defBody st) (defScope st) .none kV doc pm an cdv ct) ⟨us, []⟩ = pure ([self, p].zip us)) :
    ExcF P w K mg base x (He.ga K x) f := by
  obtain ⟨fd, F⟩ := c.def_ j hd
  obtain ⟨m1, m2, m3⟩ := He.meth_ok (c.fact l hm)
  have hbd := F.bindsN (ps := [self, p]) hbind
  have F2 : FunD K "__init__" q (defArgs st) (defBody st) (defScope st) [] [] (He.ma K (He.ga K x) "__init__") fd := F
  rw [hb] at F2
  refine ⟨exB_oex e i hx, ⟨_, fd, [self, p], m1, ?_, ok_init hp F2 S hs hs2 h3 h4 hsw, hbd⟩, noat_of c m hn, glo_of X G c k hg⟩
  have : (PySem.W.typeIn K (.ref (He.ma K (He.ga K x) "__init__")) == some (.type "function")) = true := m2
  exact eq_of_beq this
end
theorem pe_lamQ {X : Cx} {e : Expr} {PT : Addr} {l q : Str} {TT : (XK → Hp → VK → Prop) → Hp → VK → Prop} {t : XK → TE} (hq : X.env.qual ++ l = q) (h : L2.PE X e (tLam1 PT (X.env.qual ++ l) TT t)) : L2.PE X e (tLam1 PT q TT t) := by
  subst hq
  exact h
theorem qual_lam {CX : CXT} {P : Program} {w : World} {K : PySem.W.Frag} {mg : Str → Option Value} {base : Heap} {N : List Str} {qual : Str} {scope : Scope} {f : Addr} {cd : Value} {A : Around} {outer : List PySem.Env} {s : Shared} {H : Hp} {E : XK} {l : Str} :
    (cxOf CX P w K mg base N qual scope f cd A outer s H E).env.qual ++ l = (qual ++ ".<locals>.") ++ l := rfl
end TL
namespace TL
open PySem PySem.Spec PyProof.Rows L2 SrtO
section
variable {G0 : Bs} {te ta tb tc : TE} {t u : TDE} {toa tob : TDO} {al : TA} {tal : TDA} {K : PySem.W.Frag} {ts : TS} {ds : TDS} {tt : TT} {s : TDT}
def tdDisp1K (t u : TDE) : TDE := fun r P => t r fun x r1 => ∃ n kd, x.view = some (n, kd) ∧ u r1 fun y r2 => ∃ m d k, y.view = some (m, d) ∧ kd.keyI = some k ∧ ∀ p, P (.ow p m (.dk [k] [d])) r2
def tdLcO (i : Nat) (tg : TDG) (s : TDT) (t : TDE) (own : List Nat) : TDE := fun r P => ∃ p nw ds, r[i]? = some (.ow p nw (.seq false ds)) ∧ lcB tg s t own (fun x r' => P x (r'.set i (.ow p nw (.seq false ds)))) (ds.map fun d => .fz (nw || isFlat d) d) (r.set i .no)
/-- a name's value handed on; what is flat is as good as new -/
def tdVF (i : Nat) : TDE := fun r P => ∃ x nw d, r[i]? = some x ∧ x.view = some (nw, d) ∧ P (.fz (nw || isFlat d) d) (r.set i (.fz (nw || isFlat d) d))
theorem EnvG.flatUp {G H : Hp} {vs : List (Option V)} {its : List TL.It} (E : EnvG G0 G H vs its) {i : Nat} {nw : Bool} {d : D} (hi : its[i]? = some (.fz nw d)) : EnvG G0 G H vs (its.set i (.fz (nw || isFlat d) d)) := by
  obtain ⟨v, hv, rv⟩ := E.ok i _ hi
  exact E.put hi (Le.refl _) E.le E.tp (fun a o _ h => h) (fun a h1 h2 => by rw [h1] at h2; cases h2) ⟨v, hv, rv.nwFlat⟩ fun a h => by simp [It.reg] at h
theorem snd_vF {i : Nat} : SndE G0 (tVar i) (tdVF i) := by
  intro vs ka sg H r P Q hl E h k
  obtain ⟨x, nw, d, h1, h2, h3⟩ := h
  obtain ⟨G, E⟩ := E
  obtain ⟨v, hv⟩ := slot_val E hl h1 (by cases x <;> first | rfl | cases h2)
  have hlt := (List.getElem?_eq_some_iff.mp h1).1
  obtain ⟨G', E'⟩ := E.freeze (i := ka.length + i) (by rw [get_app]; exact h1) h2
  rw [set_app] at E'
  have E2 := E'.flatUp (i := ka.length + i) (by rw [get_app]; exact List.getElem?_set_self hlt)
  rw [set_app, List.set_set] at E2
  have X := E2.itx (i := ka.length + i) (x := .fz (nw || isFlat d) d) (by rw [get_app]; exact List.getElem?_set_self hlt)
  rw [getD_app hl] at X
  have e : sg.getD i none = some v := by rw [List.getD_eq_getElem?_getD, hv]; rfl
  rw [e] at X
  obtain ⟨⟨w, e1, rp⟩, _⟩ := X
  cases e1
  exact ⟨v, hv, k v H _ _ (by simp) ⟨G', E2.pushFz rp⟩ h3⟩
theorem isFl_int {i : Int} : isFlat (.int i) = true := rfl
theorem isFl_bl {i : Bool} : isFlat (.bl i) = true := rfl
theorem isFl_str {i : Str} : isFlat (.str i) = true := rfl
theorem isFl_non : isFlat .non = true := rfl
theorem isFl_seq {b : Bool} {xs : List D} : isFlat (.seq b xs) = false := rfl
theorem isFl_dk {ks : List Key} {xs : List D} : isFlat (.dk ks xs) = false := rfl
theorem isFl_dt {ks : List (List Key)} {xs : List D} : isFlat (.dt ks xs) = false := rfl
end
def spN (F : Fn) : Sp := fun vs H Q E => ∃ G ds Kc, Le G H ∧ (∀ a xs, H a = some (.tup xs) → G a = some (.tup xs)) ∧ RepL (fun _ => True) G vs ds ∧ F ds Kc ∧
  (∀ d v H', Kc (.ret d) → Le H H' → Rep (fun a => H a = none) H' v d → Q v H') ∧ XOk ⟨G, fun a => (H a).isSome && (G a).isNone, H⟩ E (excA Kc)
section
variable {P : Program} {w : World} {K : PySem.W.Frag} {mg : Str → Option Value} {base : Heap} {x qual : Str} {params : Arguments} {body : List Stmt} {scope : Scope} {f : Addr} {fd : FuncData} {N ps : List Str} {k : Nat}
theorem okN {Fs : Fn} (F : FunD K x qual params body scope [] [] f fd) (S : FnScope N ps scope) (hn : ∀ ds Kc, Fs ds Kc → ds.length = ps.length)
    (hbody : ∀ (cdv : Value) (A : Around) (outer : List PySem.Env) (s : Shared) (H : Hp) (B : Bs) (E : XK), Room k (A.deeper (envOfC qual scope s.heap.objs.size f cdv)) →
      ∃ (ts : TS) (t : XC → TDS), PSs (cxOf (L2.CX P w) P w K mg base N qual scope f cdv A outer s H E) body ts ∧ (∀ Xc, XOk B E Xc → SndS B ts (t Xc)) ∧
        ∀ ds Kc, Fs ds Kc → t (excA Kc) (rtP Kc) (ds.map (.fz false) ++ nos (N.length - ds.length))) :
    FnOk P w K mg base (L2.CX P w) (k + 1) f fd ps (spN Fs) := by
  refine F.ok S (fun vs H Q E ⟨G, ds, Kc, _, _, r, h, _⟩ => r.length.trans (hn ds Kc h)) fun cdv A outer s H vs Q E hr ⟨G, ds, Kc, le, tp, r, h, q, hx⟩ => ?_
  obtain ⟨ts, t, d1, d2, d3⟩ := hbody cdv A outer s H ⟨G, fun a => (H a).isSome && (G a).isNone, H⟩ E hr
  refine ⟨ts, d1, ?_⟩
  rw [start_eq r.length]
  have sOf : ∀ a u, G a = none → H a = some u → ((H a).isSome && (G a).isNone) = true := fun a u h1 h2 => by rw [h1, h2]; rfl
  have E0 := env_fzs (G0 := ⟨G, fun a => (H a).isSome && (G a).isNone, H⟩) (Le.refl G) le tp (fun a h => by
    have h : ((H a).isSome && (G a).isNone) = true := h
    rw [Bool.and_eq_true] at h
    exact ⟨by simpa using h.2, rfl, h.1⟩) (N.length - ds.length) r
  have keep : ∀ {H' G' : Hp} {n : List (Option V)} {m : List TL.It}, EnvG ⟨G, fun a => (H a).isSome && (G a).isNone, H⟩ G' H' n m → Le H H' ∧ ∀ a, G a = none → (G' a).isSome = true → H a = none := fun {H' G' n m} E' => by
    refine ⟨fun a u h => ?_, fun a h1 h2 => ?_⟩
    · cases z : G a with
      | some u' =>
        have := le a u' z
        rw [h] at this; cases this
        exact E'.le _ _ (E'.l0 _ _ z)
      | none => rw [(E'.fr a (sOf a u z h)).2.1]; exact h
    · cases z : H a with
      | none => rfl
      | some u =>
        have := (E'.fr a (sOf a u h1 z)).1
        rw [this] at h2; cases h2
  refine d2 _ hx [] [] _ H _ _ _ rfl ⟨G, E0⟩ (d3 ds Kc h) ⟨fun sg H' r' E' h' => ?_, fun v sg H' x r' E' h' => ?_, fun _ _ _ _ h => h.elim, fun _ _ _ _ h => h.elim⟩
  · obtain ⟨G', E'⟩ := E'
    obtain ⟨k1, k2⟩ := keep E'
    exact q _ _ H' h' k1 .non
  · obtain ⟨nw, d, hv, hn, h'⟩ := h'
    obtain ⟨G', E'⟩ := E'.freeze0 hv
    obtain ⟨k1, k2⟩ := keep E'
    exact q d v H' h' k1 ((fz_val E').nwFlat.car (Car.le E'.le fun a h1 h2 => k2 a (h1 hn) h2))
end
section
variable {G0 : Bs} {te ta tb tc : TE} {t u : TDE} {toa tob : TDO} {al : TA} {tal : TDA} {K : PySem.W.Frag} {ts : TS} {ds : TDS} {tt : TT} {s : TDT} {E : XK} {Xc : XC}
/-- what a call has made stands apart -/
theorem EnvG.apart {G H' H2 : Hp} {vs : List (Option V)} {its : List TL.It} (E' : EnvG G0 G H' vs its) (e : Le H' H2) {v : V} {d : D} (rd : Rep (fun a => H' a = none) H2 v d) : ∃ G2 S, EnvG G0 G2 H2 (some v :: vs) (.dp S d :: its) := by
  let S : Addr → Bool := fun a => (H' a).isNone && nonTupO (H2 a)
  let G2 : Hp := fun a => if (H' a).isNone = true ∧ nonTupO (H2 a) = false then H2 a else G a
  have g1 : ∀ a o, G a = some o → G2 a = some o := fun a o q => by
    show (if _ then _ else _) = _
    rw [if_neg (by rw [E'.le _ _ q]; simp)]
    exact q
  have g2 : Le G2 H2 := fun a o q => by
    have q : (if (H' a).isNone = true ∧ nonTupO (H2 a) = false then H2 a else G a) = some o := q
    split at q
    · exact q
    · exact e _ _ (E'.le _ _ q)
  have g3 : ∀ a xs, H2 a = some (.tup xs) → G2 a = some (.tup xs) := fun a xs q => by
    show (if _ then _ else _) = _
    cases z : H' a with
    | none => rw [if_pos ⟨rfl, by rw [q]; rfl⟩]; exact q
    | some o =>
      rw [if_neg (by simp)]
      have := e _ _ z
      rw [q] at this
      cases this
      exact E'.tp _ _ z
  have at_ : ∀ a, S a = true → mrg S H2 G2 a = H2 a := fun a h => by unfold mrg; rw [if_pos h]
  have sOf : ∀ a u, H' a = none → H2 a = some u → nonTup u = true → S a = true := fun a u h q n => by
    show ((H' a).isNone && nonTupO (H2 a)) = true
    rw [h, q]
    exact n
  have rd' : ∀ a u, H' a = none → nonTup u = true → Rd H2 a u → Rd (mrg S H2 G2) a u ∧ S a = true := fun a u h n q => by
    have hs : S a = true := by
      rcases q with q | ⟨o, q⟩
      · exact sOf a u h q n
      · exact sOf a _ h q rfl
    refine ⟨?_, hs⟩
    unfold Rd; rw [at_ a hs]; exact q
  have tp' : ∀ a xs, H2 a = some (.tup xs) → mrg S H2 G2 a = some (.tup xs) := fun a xs q => by
    unfold mrg
    split
    · exact q
    · exact g3 a xs q
  have rep : Rep (fun a => S a = true) (mrg S H2 G2) v d := rd.car ⟨fun a vs h q => by rw [at_ a (sOf a _ h q rfl)]; exact q, fun a vs h q => (rd' a _ h rfl q).1, fun a vs h q => (rd' a _ h rfl q).1, fun a vs q => tp' a vs q, fun a C dx fs h q => by rw [at_ a (sOf a _ h q rfl)]; exact q, fun a h n => by
    show ((H' a).isNone && nonTupO (H2 a)) = true
    rw [h, n]; rfl⟩
  refine ⟨G2, S, E'.push g1 g2 g3 e (fun a h1 h2 => ?_) ⟨v, rfl, rep⟩ fun a hs => ?_⟩
  · have h2 : (if (H' a).isNone = true ∧ nonTupO (H2 a) = false then H2 a else G a).isSome = true := h2
    split at h2
    · rename_i hh; simpa using hh.1
    · rw [h1] at h2; cases h2
  · have hs : ((H' a).isNone && nonTupO (H2 a)) = true := hs
    rw [Bool.and_eq_true] at hs
    have n1 : H' a = none := by simpa using hs.1
    refine ⟨n1, ?_, ?_⟩
    · show (if _ then _ else _) = _
      rw [if_neg (by rw [hs.2]; simp)]
      exact E'.le.nn n1
    · cases q : H2 a with
      | none => rw [q] at hs; simp [nonTupO] at hs
      | some o => rfl
def tdCallN (F : Fn) (Xc : XC) (f : TDF) : TDE := fun r P => f r fun nw ds r1 => F ds (outA (fun d => P (.fz true d) r1) Xc)
theorem snd_callN {F : Fn} {f : TDF} (hE : XOk G0 E Xc) (ha : SndF G0 al f) : SndE G0 (tCall (spN F) [] E al) (tdCallN F Xc f) := by
  intro vs ka sg H r P Q hl En hp k
  refine ha vs ka sg H r _ _ hl En hp fun ws H' nw ds r' G l E' p h' => ?_
  rw [List.append_nil]
  refine ⟨G, ds, _, E'.le, E'.tp, p.imp fun _ _ => trivial, h', fun d v H2 kd e rd => ?_, hE.callA E'⟩
  exact k v H2 _ r' l ⟨_, (E'.called e).pushFz (new_rep E' e rd)⟩ kd
def tdCallND (F : Fn) (Xc : XC) (f : TDF) : TDE := fun r P => f r fun nw ds r1 => F ds (outA (fun d => ∀ S, P (.dp S d) r1) Xc)
theorem snd_callND {F : Fn} {f : TDF} (hE : XOk G0 E Xc) (ha : SndF G0 al f) : SndE G0 (tCall (spN F) [] E al) (tdCallND F Xc f) := by
  intro vs ka sg H r P Q hl En hp k
  refine ha vs ka sg H r _ _ hl En hp fun ws H' nw ds r' G l E' p h' => ?_
  rw [List.append_nil]
  refine ⟨G, ds, _, E'.le, E'.tp, p.imp fun _ _ => trivial, h', fun d v H2 kd e rd => ?_, hE.callA E'⟩
  obtain ⟨G2, S, E2⟩ := E'.apart e rd
  exact k v H2 _ r' l ⟨G2, E2⟩ (kd S)
end
end TL
namespace TL
open PySem PySem.Spec PyProof.Rows L2
abbrev Orb := List (Int × Wd)
def oImg (m : Wd) (g : Int) : Int := m.getD g.toNat 0
def oStep (g : Int) (w : Wd) (F : Orb) (m : Wd) : Orb := if oImg m g ∈ F.map (·.1) then F else F ++ [(oImg m g, mulW w m)]
inductive ORun (gs : List Wd) : Nat → Orb → Orb → Prop
  | done {i : Nat} {F : Orb} : i = F.length → ORun gs i F F
  | step {i : Nat} {F R : Orb} {g : Int} {w : Wd} : F[i]? = some (g, w) → ORun gs (i + 1) (gs.foldl (oStep g w) F) R → ORun gs i F R
theorem ORun.uniq {gs : List Wd} {i : Nat} {F R : Orb} (h : ORun gs i F R) : ∀ {R'}, ORun gs i F R' → R = R' := by
  induction h with
  | done hi =>
    intro R' h'
    cases h' with
    | done => rfl
    | step e _ => rw [List.getElem?_eq_none (by omega)] at e; cases e
  | step e _ ih =>
    intro R' h'
    cases h' with
    | done hi => rw [List.getElem?_eq_none (by omega)] at e; cases e
    | step e' h' => rw [e] at e'; cases e'; exact ih h'
def IsOrb (n : Nat) (gs : List Wd) (p : Int) (R : Orb) : Prop := ORun gs 0 [(p, iota n)] R
structure OInv (n : Nat) (gs : List Wd) (p : Int) (F : Orb) : Prop where
  nd : (F.map (·.1)).Nodup
  el : ∀ x ∈ F, (0 ≤ x.1 ∧ x.1 < n) ∧ Reach n gs x.2 ∧ oImg x.2 p = x.1
  hd : F[0]? = some (p, iota n)
section
variable {n : Nat} {gs : List Wd} {p : Int}
theorem OInv.len {F : Orb} (h : OInv n gs p F) : F.length ≤ n := by
  have := nodup_le (m := iota n) h.nd fun x hx => by
    obtain ⟨y, hy, rfl⟩ := List.mem_map.mp hx
    exact mem_iota.mpr (h.el y hy).1
  rw [List.length_map, length_iota] at this
  exact this
theorem OInv.start (h0 : 0 ≤ p) (h1 : p < n) : OInv n gs p [(p, iota n)] := by
  refine ⟨by simp, fun x hx => ?_, rfl⟩
  rw [List.mem_singleton.mp hx]
  exact ⟨⟨h0, h1⟩, .one, iota_getD h0 h1⟩
theorem img_mul {x m : Wd} {p : Int} (hx : IsP n x) (h0 : 0 ≤ p) (h1 : p < n) : oImg (mulW x m) p = oImg m (oImg x p) := by
  unfold oImg mulW
  have e := (hx.get h0 h1).1
  have : (x.map fun i => m.getD i.toNat 0)[p.toNat]? = some (m.getD (x.getD p.toNat 0).toNat 0) := by rw [List.getElem?_map, e]; rfl
  exact getD_of this
theorem OInv.step1 (hg : ∀ g ∈ gs, IsP n g) (h0 : 0 ≤ p) (h1 : p < n) {F : Orb} (h : OInv n gs p F) {g : Int} {w m : Wd} (hm : m ∈ gs) (hw : (0 ≤ g ∧ g < n) ∧ Reach n gs w ∧ oImg w p = g) : OInv n gs p (oStep g w F m) := by
  unfold oStep
  by_cases hi : oImg m g ∈ F.map (·.1)
  · rw [if_pos hi]; exact h
  · rw [if_neg hi]
    refine ⟨?_, fun x hx => ?_, ?_⟩
    · rw [List.map_append, List.nodup_append]
      refine ⟨h.nd, by simp, fun a ha b hb e => ?_⟩
      rw [List.map_singleton, List.mem_singleton] at hb
      subst hb; subst e
      exact hi ha
    · rcases List.mem_append.mp hx with hx | hx
      · exact h.el x hx
      · rw [List.mem_singleton.mp hx]
        have := (hg m hm).get hw.1.1 hw.1.2
        refine ⟨⟨this.2.1, this.2.2⟩, .mul hw.2.1 hm, ?_⟩
        show oImg (mulW w m) p = oImg m g
        rw [img_mul (hw.2.1.isP hg) h0 h1, hw.2.2]
    · rw [List.getElem?_append_left]
      · exact h.hd
      · exact (List.getElem?_eq_some_iff.mp h.hd).1
theorem oStep_sub {g : Int} {w : Wd} {F : Orb} {m : Wd} : F <+: oStep g w F m := by
  unfold oStep
  split
  · exact List.prefix_refl _
  · exact List.prefix_append _ _
theorem foldl_sub {g : Int} {w : Wd} : ∀ (ms : List Wd) (F : Orb), F <+: ms.foldl (oStep g w) F
  | [], F => List.prefix_refl _
  | m :: ms, F => oStep_sub.trans (foldl_sub ms (oStep g w F m))
theorem oStep_has {g : Int} {w : Wd} {F : Orb} {m : Wd} : oImg m g ∈ (oStep g w F m).map (·.1) := by
  unfold oStep
  by_cases h : oImg m g ∈ F.map (·.1)
  · rw [if_pos h]; exact h
  · rw [if_neg h]; simp
theorem prefix_mem {F F' : Orb} (h : F <+: F') {x : Int} (hx : x ∈ F.map (·.1)) : x ∈ F'.map (·.1) := by
  obtain ⟨t, rfl⟩ := h
  rw [List.map_append]; exact List.mem_append_left _ hx
theorem foldl_has {g : Int} {w : Wd} : ∀ (ms : List Wd) (F : Orb), ∀ m ∈ ms, oImg m g ∈ (ms.foldl (oStep g w) F).map (·.1)
  | [], _, m, h => by cases h
  | m' :: ms, F, m, h => by
    rcases List.mem_cons.mp h with rfl | h
    · exact prefix_mem (foldl_sub ms _) oStep_has
    · exact foldl_has ms _ m h
theorem foldl_inv (hg : ∀ g ∈ gs, IsP n g) (h0 : 0 ≤ p) (h1 : p < n) {g : Int} {w : Wd} (hw : (0 ≤ g ∧ g < n) ∧ Reach n gs w ∧ oImg w p = g) : ∀ (ms : List Wd) (F : Orb), (∀ m ∈ ms, m ∈ gs) → OInv n gs p F → OInv n gs p (ms.foldl (oStep g w) F)
  | [], _, _, h => h
  | m :: ms, F, s, h => foldl_inv hg h0 h1 hw ms _ (fun x hx => s x (List.mem_cons_of_mem _ hx)) (h.step1 hg h0 h1 (s m List.mem_cons_self) hw)
/-- closed up to i -/
def OCl (gs : List Wd) (i : Nat) (F : Orb) : Prop := ∀ j x, j < i → F[j]? = some x → ∀ m ∈ gs, oImg m x.1 ∈ F.map (·.1)
theorem OCl.next {i : Nat} {F : Orb} {g : Int} {w : Wd} (h : OCl gs i F) (hi : F[i]? = some (g, w)) : OCl gs (i + 1) (gs.foldl (oStep g w) F) := by
  intro j x hj hx m hm
  have sub := foldl_sub (g := g) (w := w) gs F
  have hlt := (List.getElem?_eq_some_iff.mp hi).1
  have hx : F[j]? = some x := by
    obtain ⟨t, e⟩ := sub
    rw [← e, List.getElem?_append_left (by omega)] at hx
    exact hx
  by_cases e : j = i
  · subst e
    rw [hi] at hx; cases hx
    exact foldl_has gs F m hm
  · exact prefix_mem sub (h j x (by omega) hx m hm)
theorem ORun.inv (hg : ∀ g ∈ gs, IsP n g) (h0 : 0 ≤ p) (h1 : p < n) {i : Nat} {F R : Orb} (h : ORun gs i F R) : OInv n gs p F → OCl gs i F → OInv n gs p R ∧ OCl gs R.length R := by
  induction h with
  | done hi => exact fun a b => ⟨a, hi ▸ b⟩
  | step e _ ih =>
    intro a b
    exact ih (foldl_inv hg h0 h1 (a.el _ (List.mem_of_getElem? e)) gs _ (fun _ h => h) a) (b.next e)
theorem IsOrb.inv (hg : ∀ g ∈ gs, IsP n g) (h0 : 0 ≤ p) (h1 : p < n) {R : Orb} (h : IsOrb n gs p R) : OInv n gs p R ∧ ∀ x ∈ R, ∀ m ∈ gs, oImg m x.1 ∈ R.map (·.1) := by
  obtain ⟨a, b⟩ := ORun.inv hg h0 h1 h (.start h0 h1) fun j _ hj => absurd hj (Nat.not_lt_zero _)
  refine ⟨a, fun x hx m hm => ?_⟩
  obtain ⟨j, hj⟩ := List.getElem?_of_mem hx
  exact b j x (List.getElem?_eq_some_iff.mp hj).1 hj m hm
/-- the goals are all places to which p is taken -/
theorem IsOrb.all (hg : ∀ g ∈ gs, IsP n g) (h0 : 0 ≤ p) (h1 : p < n) {R : Orb} (h : IsOrb n gs p R) {y : Wd} (hy : Reach n gs y) : oImg y p ∈ R.map (·.1) := by
  obtain ⟨a, b⟩ := h.inv hg h0 h1
  induction hy with
  | one =>
    rw [show oImg (iota n) p = p from iota_getD h0 h1]
    exact List.mem_map.mpr ⟨_, List.mem_of_getElem? a.hd, rfl⟩
  | mul hx hm ih =>
    rw [img_mul (hx.isP hg) h0 h1]
    obtain ⟨z, hz, e⟩ := List.mem_map.mp ih
    have e : z.1 = _ := e
    rw [← e]
    exact b z hz _ hm
end
end TL
namespace TL
open PySem PySem.Spec PyProof.Rows L2
local macro_rules | `(tactic| walk_at "sx") => `(tactic| simp only [tgN, tdYes, tdC2, tdNm, tdEx, tdV, tdC, tdRet, tdLc, tdSeqI, tdSeq, tdIfS, tdNext, tdRetN, tdDrop, tdAsg, tdPar, tdTest, tdAnd, tdOr, tdNot, tdAndV, tdOrV, tdNotV, tdIf, tdCons, tdNil, tfNil, tfCons, tdLst, tdTup, tdI0, tdI, tdOp1, tdOp2, tdEqD, tdIsN, tdIn, tdInD, tdB, tdL, tdT, tdL2, tdCallP, tdCallPD, tdCallA, tdCallD, tdCallDA, tdUnp, tgT, tdRng1, tdRng2, tdFor, tdApp, tdSetL, tdDPut, tdPop, tdPopAt, tdExt, tdAug, tdDictK, tdDictT, tdDict, tdDictA, tdDisp1T, tdListA, tdEnumI, tdZipI, tdRaise, tdIsi, tdIndex, tdLstRg1, tdLstRg2, tdTupRg1, tdSlice, tdNoP, tdSoP, tdNeg, tdForK, tdLcK, tdBreak, tdCont, tdTold, frzR, frz1, capIt, tdSpoil, tdStart, XcTell, tdSortedA, tdVF, tdLcO, tdCallN, tdCallND, tdDisp1K, isFl_int, isFl_bl, isFl_str, isFl_non, isFl_seq, isFl_dk, isFl_dt, setsR, tdStIx, tdStNe, tdStPop, tdStSet, stF, stS,
  nos, List.replicate, List.map_cons, List.map_nil, List.length_cons, List.length_nil, List.cons_append, List.nil_append, List.set_cons_zero, List.set_cons_succ, List.getElem?_cons_zero, List.getElem?_cons_succ, List.getD_cons_zero, List.getD_cons_succ, wR, List.foldr_cons, List.foldr_nil, dats, cdats, opd_dat, opd_cview, it_sl, it_tm, view_fz, view_ow, view_dp, cview_fz, cview_ow, val_fz, val_ow, val_dp, val_st, D.seq.injEq, D.int.injEq, D.str.injEq, Option.map_some, Option.some.injEq, Prod.mk.injEq, List.cons.injEq, and_true, true_and, exists_eq_left', exists_and_left, exists_eq_left, exists_eq_right, rtP, rtA, rtD, rtDA, outK, outA, excK, excA, Nat.reduceAdd, Nat.reduceSub, Nat.zero_add, Bool.and_true, Bool.true_and, Bool.false_or, Bool.true_or, Bool.or_true, Bool.or_false, Bool.false_and, Bool.and_false, exists_const, and_self, exists_prop, and_assoc, TL.It.fz.injEq, TL.It.ow.injEq, TL.It.st.injEq, Function.comp_apply, D.bl.injEq, exists_eq', eq_self, reduceCtorEq, false_implies, true_implies, implies_true, forall_const, Bool.not_true, Bool.not_false, Bool.true_eq_false, Bool.false_eq_true, if_false, if_true, Bool.not_eq_true', Bool.not_eq_false', ite_false, ite_true, Bool.not_not, forall_eq, forall_eq'])
/-- a list of motions, perhaps none -/
def GensE (d : D) (n : Nat) (gs : List Wd) : Prop := ∃ (b : Bool) (ps : List (Bool × Wd)), d = .seq b (ps.map gD) ∧ ps.map (·.2) = gs ∧ n ≤ 1000 ∧ ps.length ≤ sizeLine ∧ ∀ p ∈ ps, IsP n p.2
theorem Gens.e {d : D} {n : Nat} {gs : List Wd} (h : Gens d n gs) : GensE d n gs := by
  obtain ⟨b, ps, h1, h2, h3, h4, h5, h6⟩ := h
  exact ⟨b, ps, h1, h2, by omega, h5, h6⟩
theorem comp_mul {n : Nat} {x g : Wd} (hx : IsP n x) (hg : IsP n g) : (x.map fun m => (g.map D.int).getD m.toNat .non) = (mulW x g).map .int := by
  unfold mulW
  rw [List.map_map]
  apply List.map_congr_left
  intro i hi
  obtain ⟨i0, i1⟩ := hx.bd i hi
  have e := (hg.get i0 i1).1
  rw [List.getD_eq_getElem?_getD, List.getElem?_map, e]; rfl
theorem Gens.len {d : D} {n : Nat} {gs : List Wd} (h : Gens d n gs) : ∃ b x xs, d = .seq b (x :: xs) ∧ lenD x = n ∧ ∃ c w, x = .seq c (w.map .int) ∧ IsP n w := by
  obtain ⟨b, ps, rfl, _, h0, _, _, hp⟩ := h
  cases ps with
  | nil => exact absurd rfl h0
  | cons p ps => exact ⟨b, gD p, ps.map gD, rfl, by show (p.2.map D.int).length = n; rw [List.length_map, (hp p List.mem_cons_self).len], p.1, p.2, rfl, hp p List.mem_cons_self⟩
end TL
namespace TL
open PySem PySem.Spec PyProof.Rows L2
theorem mono_tgT {is : List Nat} {x : TL.It} {r : Rho} {A B : Rho → Prop} (h : ∀ r, A r → B r) : tgT is x r A → tgT is x r B := fun ⟨a, b, c, d, e⟩ => ⟨a, b, c, d, h _ e⟩
theorem mono_tgN {i : Nat} {x : TL.It} {r : Rho} {A B : Rho → Prop} (h : ∀ r, A r → B r) : tgN i x r A → tgN i x r B := h _
theorem mono_yes {r : Rho} {A B : Bool → Rho → Prop} (h : ∀ b r, A b r → B b r) : tdYes r A → tdYes r B := h _ _
/-- .. with a test -/
theorem lc_dsF {tg : TDG} {s : TDT} {t : TDE} {own : List Nat} {P : TL.It → Rho → Prop} {ds : List D} {g : D → Bool} {r1 : Rho} (J : Rho → Prop) (c : D → Bool) (f : D → D) (nw : Bool) (hz : ds.length ≤ sizeLine) (h0 : J (wR own r1))
    (h : ∀ d ∈ ds, ∀ r, J r → ∀ (Q : Bool → D → Rho → Prop) (R : Rho → Prop), (∀ n r4, (nw = true → n = true) → J (wR own r4) → Q n (f d) r4) → (∀ r4, J (wR own r4) → R r4) → tg (.fz (g d) d) (wR own r) fun r2 => s r2 fun b r3 => b = c d ∧ (b = true → t r3 fun y r4 => ∃ n d, y.view = some (n, d) ∧ Q n d r4) ∧ (b = false → R r3))
    (mono : ∀ {x : TL.It} {r : Rho} {A B : Rho → Prop}, (∀ r, A r → B r) → tg x r A → tg x r B) (smono : ∀ {r : Rho} {A B : Bool → Rho → Prop}, (∀ b r, A b r → B b r) → s r A → s r B)
    (k : ∀ p r, J r → P (.ow p nw (.seq false ((ds.filter c).map f))) (wR own r)) : lcB tg s t own P (ds.map fun d => .fz (g d) d) r1 := by
  refine ⟨by simpa using hz, nw, fun i acc r => acc = ((ds.take i).filter c).map f ∧ J r, ⟨rfl, h0⟩, ?_, ?_⟩
  · rintro i x acc r' hx ha ⟨rfl, hr⟩
    rw [List.getElem?_map] at hx
    cases hd : ds[i]? with
    | none => rw [hd] at hx; cases hx
    | some d =>
    rw [hd] at hx
    cases hx
    have e1 : ds.take (i + 1) = ds.take i ++ [d] := by rw [List.take_succ, hd]; rfl
    refine mono (fun r2 h2 => smono (fun b r3 h3 => ?_) h2) (h d (List.mem_of_getElem? hd) r' hr (fun n e r4 => (nw = true → n = true) ∧ (c d = true → ((ds.take i).filter c).map f ++ [e] = ((ds.take (i + 1)).filter c).map f) ∧ J (wR own r4)) (fun r4 => c d = false → ((ds.take i).filter c).map f = ((ds.take (i + 1)).filter c).map f ∧ J (wR own r4)) (fun n r4 h1 h2 => ⟨h1, fun hc => ?_, h2⟩) fun r4 h2 hc => ⟨?_, h2⟩)
    · obtain ⟨hb, h3, h4⟩ := h3
      subst hb
      have mono_t : c d = true → t r3 fun y r4 => ∃ n e, y.view = some (n, e) ∧ (nw = true → n = true) ∧ (c d = true → ((ds.take i).filter c).map f ++ [e] = ((ds.take (i + 1)).filter c).map f) ∧ J (wR own r4) := h3
      refine ⟨fun hc => ?_, fun hc => ?_⟩
      · have h5 := h3 hc
        simpa [hc] using h5
      · exact h4 hc hc
    · rw [e1, List.filter_append, List.filter_cons, if_pos hc, List.map_append]; rfl
    · rw [e1, List.filter_append, List.filter_cons, if_neg (by rw [hc]; simp)]; simp
  · rintro acc r' _ ⟨rfl, hr⟩ p
    rw [List.length_map, List.take_length]
    exact k p r' hr
theorem pg_tupK {X : Cx} {K' : PySem.W.Frag} {es : List Expr} {k : Nat} {pos : Pos} {t : TGs} {n : Nat} (hK : X.K = K') (hc : X.calm = true) (h : PGs X es t)
    (hn : (assignEach es X.env).length = n := by rfl) (hst : (assignEach es X.env).findIdx? (·.1) = none := by rfl) : PG X (.Tuple es k pos) (gTup K' n t) := by
  subst hK
  exact pg_tup hc h hn hst
abbrev rTupOf (K : PySem.W.Frag) : List V → Hp → VK → Prop := fun xs H Q => ∃ p ys, xs = [.ref p] ∧ ((SqL K H p ys ∧ ∀ l, H l = none → Q (.ref l) (upd H l (.tup ys))) ∨ (SqT K H p ys ∧ Q (.ref p) H))
end TL
namespace TL
open PySem PySem.Spec PyProof.Rows L2
local macro_rules | `(tactic| walk_at "sx") => `(tactic| simp only [tgN, tdYes, tdC2, tdNm, tdEx, tdV, tdC, tdRet, tdLc, tdSeqI, tdSeq, tdIfS, tdNext, tdRetN, tdDrop, tdAsg, tdPar, tdTest, tdAnd, tdOr, tdNot, tdAndV, tdOrV, tdNotV, tdIf, tdCons, tdNil, tfNil, tfCons, tdLst, tdTup, tdI0, tdI, tdOp1, tdOp2, tdEqD, tdIsN, tdIn, tdInD, tdB, tdL, tdT, tdL2, tdCallP, tdCallPD, tdCallA, tdCallD, tdCallDA, tdUnp, tgT, tdRng1, tdRng2, tdFor, tdApp, tdSetL, tdDPut, tdPop, tdPopAt, tdExt, tdAug, tdDictK, tdDictT, tdDict, tdDictA, tdDisp1T, tdListA, tdEnumI, tdZipI, tdRaise, tdIsi, tdIndex, tdLstRg1, tdLstRg2, tdTupRg1, tdSlice, tdNoP, tdSoP, tdNeg, tdForK, tdLcK, tdBreak, tdCont, tdTold, frzR, frz1, capIt, tdSpoil, tdStart, XcTell, tdSortedA, tdVF, tdLcO, tdCallN, tdCallND, tdDisp1K, isFl_int, isFl_bl, isFl_str, isFl_non, isFl_seq, isFl_dk, isFl_dt, setsR, tdStIx, tdStNe, tdStPop, tdStSet, stF, stS,
  nos, List.replicate, List.map_cons, List.map_nil, List.length_cons, List.length_nil, List.cons_append, List.nil_append, List.set_cons_zero, List.set_cons_succ, List.getElem?_cons_zero, List.getElem?_cons_succ, List.getD_cons_zero, List.getD_cons_succ, wR, List.foldr_cons, List.foldr_nil, dats, cdats, opd_dat, opd_cview, it_sl, it_tm, view_fz, view_ow, view_dp, cview_fz, cview_ow, val_fz, val_ow, val_dp, val_st, D.seq.injEq, D.int.injEq, D.str.injEq, Option.map_some, Option.some.injEq, Prod.mk.injEq, List.cons.injEq, and_true, true_and, exists_eq_left', exists_and_left, exists_eq_left, exists_eq_right, rtP, rtA, rtD, rtDA, outK, outA, excK, excA, Nat.reduceAdd, Nat.reduceSub, Nat.zero_add, Bool.and_true, Bool.true_and, Bool.false_or, Bool.true_or, Bool.or_true, Bool.or_false, Bool.false_and, Bool.and_false, exists_const, and_self, exists_prop, and_assoc, TL.It.fz.injEq, TL.It.ow.injEq, TL.It.st.injEq, Function.comp_apply, D.bl.injEq, exists_eq', eq_self, reduceCtorEq, false_implies, true_implies, implies_true, forall_const, Bool.not_true, Bool.not_false, Bool.true_eq_false, Bool.false_eq_true, if_false, if_true, Bool.not_eq_true', Bool.not_eq_false', ite_false, ite_true, Bool.not_not, forall_eq, forall_eq'])
theorem cnts_bd {xs : List D} {c : Nat} (h : ∀ x ∈ xs, x.cnt ≤ c) : D.cnts xs ≤ xs.length * c := by
  induction xs with
  | nil => exact Nat.zero_le _
  | cons x xs ih =>
    have := h x List.mem_cons_self
    have := ih fun y hy => h y (List.mem_cons_of_mem _ hy)
    rw [D.cnts, List.length_cons, Nat.succ_mul]; omega
theorem wids_bd {xs : List D} {c : Nat} (h : ∀ x ∈ xs, x.wid ≤ c) : D.wids xs ≤ c := by
  induction xs with
  | nil => exact Nat.zero_le _
  | cons x xs ih => exact Nat.max_le.mpr ⟨h x List.mem_cons_self, ih fun y hy => h y (List.mem_cons_of_mem _ hy)⟩
theorem cnt_ints (b : Bool) (w : Wd) : (D.seq b (w.map .int)).cnt = 1 := by
  show D.cnts _ + 1 = 1
  have : D.cnts (w.map D.int) = 0 := by
    induction w with
    | nil => rfl
    | cons i w ih => show 0 + D.cnts _ = 0; rw [ih]
  rw [this]
theorem wid_ints (b : Bool) (w : Wd) : (D.seq b (w.map .int)).wid ≤ w.length := by
  refine Nat.max_le.mpr ⟨by simp, ?_⟩
  have : D.wids (w.map D.int) = 0 := by
    induction w with
    | nil => rfl
    | cons i w ih => show max 0 (D.wids _) = 0; rw [ih]; rfl
  rw [this]; exact Nat.zero_le _
/-- generators, loosely handed -/
structure KG (n : Nat) (gs : List Wd) (e : D) : Prop where
  n1 : 1 ≤ n ∧ n ≤ 7
  l1 : gs.length ≤ 100
  p : ∀ x ∈ gs, IsP n x
  ne : gs ≠ []
  g : ∃ (b : Bool) (ps : List (Bool × Wd)), e = .seq b (ps.map gD) ∧ ps.map (·.2) = gs
theorem KG.gens {n : Nat} {gs : List Wd} {e : D} (k : KG n gs e) : Gens e n gs := by
  obtain ⟨b, ps, e1, e2⟩ := k.g
  refine ⟨b, ps, e1, e2, fun z => k.ne (by rw [← e2, z]; rfl), k.n1, ?_, fun p hp => k.p _ (by rw [← e2]; exact List.mem_map.mpr ⟨p, hp, rfl⟩)⟩
  have : ps.length = gs.length := by rw [← e2, List.length_map]
  have := k.l1
  rw [sizeLine_eq]; omega
theorem KG.okE {n : Nat} {gs : List Wd} {e : D} (k : KG n gs e) : e.ok = true ∧ e.dpt ≤ 2 := by
  obtain ⟨b, ps, rfl, h2, h3, h4, h5, h6⟩ := k.gens
  exact ⟨ok_gens h4.2 h5 h6, dpt_gens⟩
theorem KG.self {n : Nat} {gs : List Wd} (n1 : 1 ≤ n ∧ n ≤ 7) (l1 : gs.length ≤ 100) (p : ∀ x ∈ gs, IsP n x) (ne : gs ≠ []) : KG n gs (.seq false (gs.map inL)) :=
  ⟨n1, l1, p, ne, false, gs.map fun w => (false, w), by rw [List.map_map]; rfl, by rw [List.map_map]; simp [Function.comp_def]⟩
/-- the loosely handed ones of a drawn state -/
theorem loose_gens {n m : Nat} {gs : List Wd} {g : PS} (n1 : 1 ≤ n ∧ n ≤ 7) (l1 : gs.length ≤ 100) (p : ∀ x ∈ gs, IsP n x) (ne : gs ≠ []) (hm : m < 2 ^ 39) (st : St m g) {Kc : PS → Out → Prop} (hk : ∀ g' e, St (m + 101) g' → KG n gs e → Kc g' (.ret e)) :
    F_law_loose 8 g [.seq false (gs.map inL)] Kc := by
  have nd : (D.seq false (gs.map inL)).nds ≤ 101 := by rw [nds_intss]; omega
  refine ⟨m, sq_intss (by rw [sizeLine_eq]; omega) fun w hw => by rw [(p w hw).len]; exact zle (by omega), Nat.lt_of_le_of_lt dpt_intss (by decide), by omega, st, fun g2 e s2 hn hsq => ?_⟩
  rw [nrm_inLs] at hn
  exact hk g2 e (s2.up (by omega)) ⟨n1, l1, p, ne, nrm_gens hn⟩
section
variable {C C2 C3 a q : Addr} {g : PS}
theorem all_yes {α : Type} (xs : List α) : CAll [.seq false (xs.map fun _ => D.bl true)] (.bl true) := ⟨xs.map fun _ => true, by rw [List.map_map]; rfl, by
  have : (xs.map fun _ => true).all id = true := by rw [List.all_map, List.all_eq_true]; intro _ _; rfl
  rw [this]⟩
theorem eqOk_int (i : Int) : (D.int i).eqOk = true := eqOk_of rfl (Nat.zero_le _)
end
end TL
namespace TL
open PySem PySem.Spec PyProof.Rows L2
def pairsD : List Key → List D → List D
  | k :: ks, e :: es => .seq true [keyD k, e] :: pairsD ks es
  | _, _ => []
section
variable {G0 : Bs} {al : TA} {tal : TDA} {K : PySem.W.Frag}
def tdDictP (tal : TDA) : TDE := fun r P => tal r fun os r1 => ∃ nw ks es, cdats r1 os = some (nw, [.seq false (pairsD ks es)]) ∧ ks.length = es.length ∧ ks.Nodup ∧ ∀ p, P (.ow p nw (.dk ks es)) r1
/-- list(x) of flat things: all new -/
theorem flats_any {phi psi : Addr → Prop} {G : Hp} : ∀ {vs : List V} {ds : List D}, Paired (Rep phi G) vs ds → ds.all isFlat = true → RepL psi G vs ds
  | _, _, .nil, _ => .nil
  | _, _, .cons r t, h => by
    rw [List.all_cons, Bool.and_eq_true] at h
    obtain ⟨w, hw⟩ := Option.isSome_iff_exists.mp h.1
    have e := r.flat hw
    subst e
    exact .cons (rep_flat hw) (flats_any t h.2)
def tdListF (tal : TDA) : TDE := fun r P => tal r fun os r1 => ∃ nw b es, cdats r1 os = some (nw, [.seq b es]) ∧ es.all isFlat = true ∧ ∀ p, P (.ow p true (.seq false es)) r1
theorem snd_listF (ha : SndA G0 al tal) : SndE G0 (tCB (rListA K) al) (tdListF tal) := by
  intro vs ka sg H r P Q hl E hp k
  refine ha vs ka sg H r _ _ hl E hp fun ws H' os r' G l E' p _ h' => ?_
  obtain ⟨nw, b, es, e1, e2, h3⟩ := h'
  have sh := cdats_sh E' p e1
  cases sh with
  | cons z t =>
    cases t
    left
    cases b with
    | false => obtain ⟨a, us, rfl, h1, h2⟩ := z; exact ⟨a, us, rfl, .inl (SqL.of h1), fun l' hl' => k _ _ _ r' l ⟨G, E'.pushOw (nw := true) (d := .seq false es) hl' rfl ⟨us, upd_same, flats_any h2 e2⟩⟩ (h3 l')⟩
    | true => obtain ⟨a, us, rfl, h1, h2⟩ := z; exact ⟨a, us, rfl, .inr (SqT.of h1), fun l' hl' => k _ _ _ r' l ⟨G, E'.pushOw (nw := true) (d := .seq false es) hl' rfl ⟨us, upd_same, flats_any h2 e2⟩⟩ (h3 l')⟩
/-- x, y, z = e1, e2, e3 -/
def tdPar3 (t u w : TDE) (i j l : Nat) : TDS := fun P r => t r fun x r1 => u r1 fun y r2 => w r2 fun z r3 => P.nx (((r3.set i x).set j y).set l z)
end
end TL
namespace TL
open PySem PySem.Spec PyProof.Rows L2
local macro_rules | `(tactic| walk_at "sx") => `(tactic| simp only [tgN, tdYes, tdC2, tdNm, tdEx, tdV, tdC, tdRet, tdLc, tdSeqI, tdSeq, tdIfS, tdNext, tdRetN, tdDrop, tdAsg, tdPar, tdTest, tdAnd, tdOr, tdNot, tdAndV, tdOrV, tdNotV, tdIf, tdCons, tdNil, tfNil, tfCons, tdLst, tdTup, tdI0, tdI, tdOp1, tdOp2, tdEqD, tdIsN, tdIn, tdInD, tdB, tdL, tdT, tdL2, tdCallP, tdCallPD, tdCallA, tdCallD, tdCallDA, tdUnp, tgT, tdRng1, tdRng2, tdFor, tdApp, tdSetL, tdDPut, tdPop, tdPopAt, tdExt, tdAug, tdDictK, tdDictT, tdDict, tdDictA, tdDisp1T, tdListA, tdEnumI, tdZipI, tdRaise, tdIsi, tdIndex, tdLstRg1, tdLstRg2, tdTupRg1, tdSlice, tdNoP, tdSoP, tdNeg, tdForK, tdLcK, tdBreak, tdCont, tdTold, frzR, frz1, capIt, tdSpoil, tdStart, XcTell, tdSortedA, tdVF, tdLcO, tdCallN, tdCallND, tdDisp1K, isFl_int, isFl_bl, isFl_str, isFl_non, isFl_seq, isFl_dk, isFl_dt, setsR, tdStIx, tdStNe, tdStPop, tdStSet, stF, stS,
  nos, List.replicate, List.map_cons, List.map_nil, List.length_cons, List.length_nil, List.cons_append, List.nil_append, List.set_cons_zero, List.set_cons_succ, List.getElem?_cons_zero, List.getElem?_cons_succ, List.getD_cons_zero, List.getD_cons_succ, wR, List.foldr_cons, List.foldr_nil, dats, cdats, opd_dat, opd_cview, it_sl, it_tm, view_fz, view_ow, view_dp, cview_fz, cview_ow, val_fz, val_ow, val_dp, val_st, D.seq.injEq, D.int.injEq, D.str.injEq, Option.map_some, Option.some.injEq, Prod.mk.injEq, List.cons.injEq, and_true, true_and, exists_eq_left', exists_and_left, exists_eq_left, exists_eq_right, rtP, rtA, rtD, rtDA, outK, outA, excK, excA, Nat.reduceAdd, Nat.reduceSub, Nat.zero_add, Bool.and_true, Bool.true_and, Bool.false_or, Bool.true_or, Bool.or_true, Bool.or_false, Bool.false_and, Bool.and_false, exists_const, and_self, exists_prop, and_assoc, TL.It.fz.injEq, TL.It.ow.injEq, TL.It.st.injEq, Function.comp_apply, D.bl.injEq, exists_eq', eq_self, reduceCtorEq, false_implies, true_implies, implies_true, forall_const, Bool.not_true, Bool.not_false, Bool.true_eq_false, Bool.false_eq_true, if_false, if_true, Bool.not_eq_true', Bool.not_eq_false', ite_false, ite_true, Bool.not_not, forall_eq, forall_eq'])
def F_undone : Fn
  | [a], Kc => ∃ (n : Nat) (b : Bool) (x : Wd), a = .seq b (x.map .int) ∧ IsP n x ∧ n ≤ 1000 ∧ Kc (.ret (inL (backW x)))
  | _, _ => False
/-- undone: ['motion', 'found', 'place', 'goal'] -/
def t_undone (Xc : XC) : TDS :=
  (tdSeq (tdAsg (tdListF (tdCons (tdNm 0) tdNil)) 1)
      (tdSeq (tdFor (tdEnumI (tdVF 0)) (tgT [2, 3])
      (tdSetL 1 (tdVF 2) (tdNm 3)))
      (tdRet (tdVF 1))))
local macro_rules | `(tactic| walk_at "sy") => `(tactic| simp only [tdListF, tdDictP])
theorem back_of {n : Nat} {x ws : Wd} (hx : IsP n x) (hl : ws.length = n) (h : ∀ j, j < n → ws[(x.getD j 0).toNat]? = some (j : Int)) : ws = backW x := by
  apply List.ext_getElem?
  intro i
  by_cases hi : i < n
  · have hm := hx.has (i := (i : Int)) (by omega) (by omega)
    have h1 := idxOf_get hm
    have hlt := List.idxOf_lt_length_of_mem hm
    have h2 := h (x.idxOf (i : Int)) (by rw [← hx.len]; exact hlt)
    rw [getD_of h1] at h2
    have e : ((i : Int)).toNat = i := by omega
    rw [e] at h2
    rw [h2]
    unfold backW
    rw [List.getElem?_map, List.getElem?_range (by rw [hx.len]; exact hi)]
    rfl
  · rw [List.getElem?_eq_none (by omega), List.getElem?_eq_none (by unfold backW; rw [List.length_map, List.length_range, hx.len]; omega)]
theorem flat_all {x : Wd} : (x.map D.int).all isFlat = true := by rw [List.all_map, List.all_eq_true]; intro _ _; rfl
theorem vc_undone : ∀ ds Kc, F_undone ds Kc → t_undone (excK Kc) (rtP Kc) (ds.map (.fz false) ++ nos (4 - ds.length)) := by
  intro ds Kc h
  match ds, h with
  | [_], ⟨n, b, x, rfl, hx, hn, hk⟩ =>
    unfold t_undone
    walk_at "sx"
    simp only [tdListF]
    walk_at "sx"
    refine ⟨flat_all, fun p => ?_⟩
    refine ⟨fun k r => ∃ (ws : Wd) (y2 y3 : TL.It), r = [.fz false (.seq b (x.map .int)), .ow p true (.seq false (ws.map .int)), y2, y3] ∧ ws.length = n ∧ ∀ j, j < k → ws[(x.getD j 0).toNat]? = some (j : Int), ⟨x, _, _, rfl, hx.len, fun j hj => absurd hj (Nat.not_lt_zero _)⟩, ?_, ?_⟩
    · rintro k y _ hy ⟨ws, y2, y3, rfl, hl, hj⟩
      rw [List.getElem?_mapIdx, List.getElem?_map] at hy
      cases hq : x[k]? with
      | none => rw [hq] at hy; cases hy
      | some i =>
      rw [hq] at hy
      cases hy
      have hi := hx.bd i (List.mem_of_getElem? hq)
      have hil : i.toNat < ws.length := by omega
      walk_at "sx"
      refine ⟨i.toNat, by unfold ixN; rw [if_pos (by omega)]; simp; omega, ?_⟩
      refine ⟨ws.set i.toNat (k : Int), by rw [List.map_set], by rw [List.length_set, hl], fun j hj' => ?_⟩
      by_cases e : j = k
      · subst e
        rw [getD_of hq, List.getElem?_set_self hil]
      · have hjk : j < k := by omega
        have hjx : x[j]? = some (x.getD j 0) := by
          have : j < x.length := Nat.lt_trans hjk (List.getElem?_eq_some_iff.mp hq).1
          rw [List.getD_eq_getElem?_getD, List.getElem?_eq_getElem this]; rfl
        have hb := hx.bd _ (List.mem_of_getElem? hjx)
        rw [List.getElem?_set_ne, hj j hjk]
        intro e2
        have : i = x.getD j 0 := by omega
        rw [← this] at hjx
        exact e (nodup_get hx.nd hjx hq)
    · rintro _ ⟨ws, y2, y3, rfl, hl, hj⟩
      walk_at "sx"
      rw [back_of hx hl fun j h => hj j (by rw [List.length_mapIdx, List.length_map, hx.len]; exact h)]
      exact hk
theorem comp_mulW {n : Nat} {b c : Bool} {x y : Wd} {Kc : Out → Prop} (hx : IsP n x) (hy : IsP n y) (hn : n ≤ 1000) (h : Kc (.ret (inL (mulW x y)))) : F_composed [.seq b (x.map .int), .seq c (y.map .int)] Kc := by
  refine ⟨b, c, x, y.map .int, rfl, rfl, by rw [hx.len, sizeLine_eq]; omega, fun m hm => ?_, fun o ho => ?_, ?_⟩
  · rw [List.length_map, hy.len]; exact hx.bd m hm
  · obtain ⟨i, _, rfl⟩ := List.mem_map.mp ho; rfl
  · rw [comp_mul hx hy]; exact h
theorem deq_ij (i j : Int) : (D.int i).deq (.int j) = decide (i = j) := by
  show (i == j) = _
  by_cases h : i = j
  · subst h; simp
  · simp [h]
end TL
namespace TL
open PySem PySem.Spec PyProof.Rows L2
def CIxT : D → D → D → Prop
  | .dt ks vs, .seq true ds, d => ∃ k j, ds.mapM D.keyI = some k ∧ ixOf k ks = some j ∧ vs[j]? = some d
  | _, _, _ => False
theorem keys_vs {R : V → D → Prop} (hf : ∀ d w, d.flat = some w → ∀ v, R v d ↔ v = w) : ∀ {vs : List V} {ds : List D} {ks : List Key}, Paired R vs ds → ds.mapM D.keyI = some ks → vs = ks.map kV
  | _, _, ks, .nil, h => by simp at h; subst h; rfl
  | _, d :: ds, ks, .cons r t, h => by
    rw [List.mapM_cons] at h
    cases q1 : d.keyI with
    | none => rw [q1] at h; simp at h
    | some k =>
      cases q2 : ds.mapM D.keyI with
      | none => rw [q1, q2] at h; simp at h
      | some k2 =>
        rw [q1, q2] at h
        simp at h
        subst h
        have e : d.flat = some (kV k) := by
          cases d <;> simp [D.keyI] at q1
          · subst q1; rfl
          · subst q1; rfl
        rw [(hf d _ e _).mp r, keys_vs hf t q2]; rfl
theorem op_ixT {K : PySem.W.Frag} : Op2C (rIxA K) CIxT := by
  intro R H x y dx dy d Q hf sx sy c k
  match dx, dy, c with
  | .dt ks ws, .seq true ds, ⟨kk, j, c0, c1, c2⟩ =>
    obtain ⟨a, kvs, rfl, h, e, p⟩ := sx
    obtain ⟨b, us, rfl, hb, pb⟩ := sy
    have e2 := keys_vs hf pb c0
    subst e2; subst e
    obtain ⟨v, h1, h2⟩ := paired_getV p c2
    refine .inr ⟨a, v, rfl, .inr ⟨kvs, kk, b, h, rfl, hb, ?_⟩, k v h2⟩
    rw [valV_idx, c1]; exact h1.symm
theorem snd_ixT {G0 : Bs} {ta tb : TE} {toa tob : TDO} {K : PySem.W.Frag} (ha : SndO G0 ta toa) (hb : SndO G0 tb tob) : SndE G0 (tOp (rIxA K) ta tb) (tdC2 CIxT toa tob) := snd_C2 op_ixT ha hb
/-- tuple(x) of flat things: all new -/
def tdTupF (tal : TDA) : TDE := fun r P => tal r fun os r1 => ∃ nw b es, cdats r1 os = some (nw, [.seq b es]) ∧ es.all isFlat = true ∧ P (.fz true (.seq true es)) r1
theorem snd_tupF {G0 : Bs} {al : TA} {tal : TDA} {K : PySem.W.Frag} (ha : SndA G0 al tal) : SndE G0 (tCB (rTupOf K) al) (tdTupF tal) := by
  intro vs ka sg H r P Q hl E hp k
  refine ha vs ka sg H r _ _ hl E hp fun ws H' os r' G l E' p _ h' => ?_
  obtain ⟨nw, b, es, e1, e2, h3⟩ := h'
  have sh := cdats_sh E' p e1
  cases sh with
  | cons z t =>
    cases t
    cases b with
    | false =>
      obtain ⟨a, us, rfl, h1, h2⟩ := z
      exact ⟨a, us, rfl, .inl ⟨SqL.of h1, fun l' hl' => k _ _ _ r' l ⟨_, E'.pushTup hl' (flats_any h2 e2)⟩ h3⟩⟩
    | true =>
      obtain ⟨a, us, rfl, h1, h2⟩ := z
      exact ⟨a, us, rfl, .inr ⟨SqT.of h1, k _ _ _ r' l ⟨_, E'.pushFz (.tup (E'.tp _ _ h1) (flats_any h2 e2))⟩ h3⟩⟩
/-- len of a dict whose keys are tuples -/
def rLenTR : RA := fun xs H Q => ∃ (p : Addr) (kvs : List (List Key × V)), xs = [.ref p] ∧ Rd H p (.dT kvs) ∧ Q (.int ((kvs.length : Nat) : Int)) H
theorem call_lenTR {X : Cx} : CallR X (.builtin "len") rLenTR := by
  intro pins s σ H x us Q I r h
  obtain ⟨p, kvs, rfl, hp, q⟩ := h
  rw [Vals.ref1 r]
  obtain ⟨z, hd, ys, rel, dd⟩ := dt_rd I.hok hp
  have hl : kvs.length = ys.length := Paired.length rel
  refine call_len_dictH hd dd (by rw [← hl]; rw [sizeLine_eq] at z; omega) ?_
  rw [← hl]
  exact ⟨.int ((kvs.length : Nat) : Int), H, I.tok _, ⟨_, rfl⟩, q⟩
def CLenT : List D → D → Prop := fun ds d => match ds with
  | [.dt ks _] => d = .int ks.length
  | _ => False
theorem opa_lenT : OpA rLenTR CLenT := by
  intro H ws ds d Q r c k
  match ds, r, c with
  | [.dt ks vs], r, c =>
    obtain ⟨w, rfl, rw'⟩ := rep1 r
    subst c
    cases rw' with
    | @dt a kvs _ _ h p e q =>
      refine ⟨a, kvs, rfl, h, ?_⟩
      have : kvs.length = ks.length := by rw [← e]; simp
      rw [this]
      exact k _ rfl
end TL
namespace TL
open PySem PySem.Spec PyProof.Rows L2
def conjW (x g : Wd) : Wd := mulW (mulW (backW g) x) g
inductive CReach (gs : List Wd) (m : Wd) : Wd → Prop
  | base : CReach gs m m
  | step {y g : Wd} : CReach gs m y → g ∈ gs → CReach gs m (conjW y g)
structure IsClass (gs : List Wd) (m : Wd) (S : List Wd) : Prop where
  nd : S.Nodup
  iff : ∀ y, y ∈ S ↔ CReach gs m y
section
variable {n : Nat} {gs : List Wd} {m x y g h : Wd}
theorem conj_isP (hx : IsP n x) (hg : IsP n g) : IsP n (conjW x g) := (hg.back.mul hx).mul hg
theorem back_one : backW (iota n) = iota n := (back_unique (n := n) .iota .iota (mul_one .iota)).symm
theorem conj_one (hx : IsP n x) : conjW x (iota n) = x := by
  unfold conjW
  rw [back_one, one_mul hx, mul_one hx]
theorem back_mulW (hg : IsP n g) (hh : IsP n h) : backW (mulW g h) = mulW (backW h) (backW g) := by
  refine (back_unique (n := n) (hg.mul hh) (hh.back.mul hg.back) ?_).symm
  rw [mul_assoc hg hh, ← mul_assoc hh hh.back, mul_back hh, one_mul hg.back, mul_back hg]
theorem conj_mul (hx : IsP n x) (hg : IsP n g) (hh : IsP n h) : conjW x (mulW g h) = conjW (conjW x g) h := by
  unfold conjW
  rw [back_mulW hg hh, mul_assoc hh.back hg.back, mul_assoc hh.back (hg.back.mul hx), mul_assoc hh.back ((hg.back.mul hx).mul hg), mul_assoc (hg.back.mul hx) hg]
theorem conj_fix (hx : IsP n x) (hg : IsP n g) : conjW x g = x ↔ mulW x g = mulW g x := by
  constructor
  · intro e
    have : mulW g (conjW x g) = mulW x g := by
      unfold conjW
      rw [mul_assoc hg.back hx, ← mul_assoc hg hg.back, mul_back hg, one_mul (hx.mul hg)]
    rw [e] at this
    exact this.symm
  · intro e
    unfold conjW
    rw [mul_assoc hg.back hx, e, ← mul_assoc hg.back hg, back_mul hg, one_mul hx]
theorem creach_isP (hg : ∀ g ∈ gs, IsP n g) (hm : IsP n m) {y : Wd} (h : CReach gs m y) : IsP n y := by
  induction h with
  | base => exact hm
  | step _ h2 ih => exact conj_isP ih (hg _ h2)
theorem creach_iff (hg : ∀ g ∈ gs, IsP n g) (hm : IsP n m) {y : Wd} : CReach gs m y ↔ ∃ h, Reach n gs h ∧ y = conjW m h := by
  constructor
  · intro h
    induction h with
    | base => exact ⟨iota n, .one, (conj_one hm).symm⟩
    | step _ h2 ih =>
      obtain ⟨h, hr, e⟩ := ih
      exact ⟨_, .mul hr h2, by rw [e, conj_mul hm (hr.isP hg) (hg _ h2)]⟩
  · rintro ⟨h, hr, rfl⟩
    induction hr with
    | one => rw [conj_one hm]; exact .base
    | mul hr h2 ih => rw [conj_mul hm (hr.isP hg) (hg _ h2)]; exact .step ih h2
theorem count_map {α : Type} [DecidableEq α] (f : Wd → α) : ∀ (S : List α) (R : List Wd), S.Nodup → (∀ x ∈ R, f x ∈ S) → R.length = (S.map fun y => (R.filter fun x => decide (f x = y)).length).sum
  | S, [], _, _ => by
    have : ∀ S : List α, (S.map fun y => (([] : List Wd).filter fun x => decide (f x = y)).length).sum = 0 := by
      intro S
      induction S with
      | nil => rfl
      | cons a S ih => simpa using ih
    rw [this S]; rfl
  | S, r :: R, hS, hR => by
    have ih := count_map f S R hS fun x hx => hR x (List.mem_cons_of_mem _ hx)
    have hr := hR r List.mem_cons_self
    rw [List.length_cons, ih]
    clear ih hR
    have aux : ∀ S : List α, S.Nodup → (S.map fun y => ((r :: R).filter fun x => decide (f x = y)).length).sum = (S.map fun y => (R.filter fun x => decide (f x = y)).length).sum + if f r ∈ S then 1 else 0 := by
      intro S hS
      induction S with
      | nil => simp
      | cons a S ih =>
        rw [List.nodup_cons] at hS
        have ih := ih hS.2
        rw [List.map_cons, List.map_cons, List.sum_cons, List.sum_cons, ih]
        by_cases e : f r = a
        · subst e
          rw [List.filter_cons_of_pos (by simp), List.length_cons, if_neg hS.1, if_pos List.mem_cons_self]; omega
        · rw [List.filter_cons_of_neg (by simpa using e)]
          have : (f r ∈ a :: S) ↔ f r ∈ S := by simp [e]
          simp only [this]; omega
    rw [aux S hS, if_pos hr]
theorem sum_same {α : Type} (f : α → Nat) (c : Nat) : ∀ S : List α, (∀ y ∈ S, f y = c) → (S.map f).sum = c * S.length
  | [], _ => by simp
  | a :: S, h => by
    rw [List.map_cons, List.sum_cons, sum_same f c S fun y hy => h y (List.mem_cons_of_mem _ hy), h a List.mem_cons_self, List.length_cons, Nat.mul_succ, Nat.add_comm]
def comW (m x : Wd) : Bool := decide (mulW x m = mulW m x)
/-- keepers times the class is all -/
theorem keep_class (hg : ∀ g ∈ gs, IsP n g) (hm : IsP n m) {R S : List Wd} (hR : IsReach n gs R) (hS : IsClass gs m S) : (R.filter (comW m)).length * S.length = R.length := by
  have e := count_map (conjW m) S R hS.nd fun x hx => (hS.iff _).mpr ((creach_iff hg hm).mpr ⟨x, (hR.iff _).mp hx, rfl⟩)
  rw [e, sum_same _ (R.filter (comW m)).length S]
  intro y hy
  obtain ⟨h0, hr, rfl⟩ := (creach_iff hg hm).mp ((hS.iff _).mp hy)
  have p0 := hr.isP hg
  have eq : ((R.filter (comW m)).map fun c => mulW c h0).Perm (R.filter fun x => decide (conjW m x = conjW m h0)) := by
    refine (List.perm_ext_iff_of_nodup ?_ (hR.nd.filter _)).mpr fun z => ?_
    · refine nodup_map (hR.nd.filter _) fun a ha b hb e => ?_
      have pa := ((hR.iff _).mp (List.mem_filter.mp ha).1).isP hg
      have pb := ((hR.iff _).mp (List.mem_filter.mp hb).1).isP hg
      have : mulW (mulW a h0) (backW h0) = mulW (mulW b h0) (backW h0) := by rw [e]
      rwa [mul_assoc pa p0, mul_assoc pb p0, mul_back p0, mul_one pa, mul_one pb] at this
    · rw [List.mem_map, List.mem_filter]
      constructor
      · rintro ⟨c, hc, rfl⟩
        obtain ⟨h1, h2⟩ := List.mem_filter.mp hc
        have rc := (hR.iff _).mp h1
        have pc := rc.isP hg
        refine ⟨(hR.iff _).mpr (Reach.prod hg rc hr), decide_eq_true ?_⟩
        rw [conj_mul hm pc p0, (conj_fix hm pc).mpr (of_decide_eq_true h2).symm]
      · rintro ⟨h1, h2⟩
        have h2 := of_decide_eq_true h2
        have rz := (hR.iff _).mp h1
        have pz := rz.isP hg
        have rb : Reach n gs (backW h0) := (hR.iff _).mp (hR.back hg ((hR.iff _).mpr hr))
        have pc := pz.mul p0.back
        refine ⟨mulW z (backW h0), List.mem_filter.mpr ⟨(hR.iff _).mpr (Reach.prod hg rz rb), decide_eq_true ?_⟩, ?_⟩
        · refine ((conj_fix hm pc).mp ?_).symm
          rw [conj_mul hm pz p0.back, h2, ← conj_mul hm p0 p0.back, mul_back p0, conj_one hm]
        · rw [mul_assoc pz p0.back, back_mul p0, mul_one pz]
  rw [← eq.length_eq, List.length_map]
end
end TL
namespace TL
open PySem PySem.Spec PyProof.Rows L2
local macro_rules | `(tactic| walk_at "sx") => `(tactic| simp only [tgN, tdYes, tdC2, tdNm, tdEx, tdV, tdC, tdRet, tdLc, tdSeqI, tdSeq, tdIfS, tdNext, tdRetN, tdDrop, tdAsg, tdPar, tdTest, tdAnd, tdOr, tdNot, tdAndV, tdOrV, tdNotV, tdIf, tdCons, tdNil, tfNil, tfCons, tdLst, tdTup, tdI0, tdI, tdOp1, tdOp2, tdEqD, tdIsN, tdIn, tdInD, tdB, tdL, tdT, tdL2, tdCallP, tdCallPD, tdCallA, tdCallD, tdCallDA, tdUnp, tgT, tdRng1, tdRng2, tdFor, tdApp, tdSetL, tdDPut, tdPop, tdPopAt, tdExt, tdAug, tdDictK, tdDictT, tdDict, tdDictA, tdDisp1T, tdListA, tdEnumI, tdZipI, tdRaise, tdIsi, tdIndex, tdLstRg1, tdLstRg2, tdTupRg1, tdSlice, tdNoP, tdSoP, tdNeg, tdForK, tdLcK, tdBreak, tdCont, tdTold, frzR, frz1, capIt, tdSpoil, tdStart, XcTell, tdSortedA, tdVF, tdLcO, tdCallN, tdCallND, tdDisp1K, isFl_int, isFl_bl, isFl_str, isFl_non, isFl_seq, isFl_dk, isFl_dt, setsR, tdStIx, tdStNe, tdStPop, tdStSet, stF, stS,
  nos, List.replicate, List.map_cons, List.map_nil, List.length_cons, List.length_nil, List.cons_append, List.nil_append, List.set_cons_zero, List.set_cons_succ, List.getElem?_cons_zero, List.getElem?_cons_succ, List.getD_cons_zero, List.getD_cons_succ, wR, List.foldr_cons, List.foldr_nil, dats, cdats, opd_dat, opd_cview, it_sl, it_tm, view_fz, view_ow, view_dp, cview_fz, cview_ow, val_fz, val_ow, val_dp, val_st, D.seq.injEq, D.int.injEq, D.str.injEq, Option.map_some, Option.some.injEq, Prod.mk.injEq, List.cons.injEq, and_true, true_and, exists_eq_left', exists_and_left, exists_eq_left, exists_eq_right, rtP, rtA, rtD, rtDA, outK, outA, excK, excA, Nat.reduceAdd, Nat.reduceSub, Nat.zero_add, Bool.and_true, Bool.true_and, Bool.false_or, Bool.true_or, Bool.or_true, Bool.or_false, Bool.false_and, Bool.and_false, exists_const, and_self, exists_prop, and_assoc, TL.It.fz.injEq, TL.It.ow.injEq, TL.It.st.injEq, Function.comp_apply, D.bl.injEq, exists_eq', eq_self, reduceCtorEq, false_implies, true_implies, implies_true, forall_const, Bool.not_true, Bool.not_false, Bool.true_eq_false, Bool.false_eq_true, if_false, if_true, Bool.not_eq_true', Bool.not_eq_false', ite_false, ite_true, Bool.not_not, forall_eq, forall_eq'])
def classD (S : List Wd) (ls : List D) : D := .dt (S.map keyW) ls
def F_check_motion (C3 C : Addr) : Fn
  | [d, x], Kc => ∃ n gs, Gens d n gs ∧ x.ok = true ∧ ((isMotOf (n : Nat) x = false ∧ Kc (.exc C3 ["motion"] [x])) ∨ ∃ b w, x = .seq b (w.map .int) ∧ IsP n w ∧ Kc (.ret .non))
  | _, _ => False
def F_taken_along : Fn
  | [a, g], Kc => ∃ (n : Nat) (b c : Bool) (x y : Wd), a = .seq b (x.map .int) ∧ g = .seq c (y.map .int) ∧ IsP n x ∧ IsP n y ∧ n ≤ 1000 ∧ Kc (.ret (inL (conjW x y)))
  | _, _ => False
def F_spread_class : Fn
  | [d, m], Kc => ∃ (n : Nat) (gs : List Wd) (b : Bool) (w : Wd), Gens d n gs ∧ m = .seq b (w.map .int) ∧ IsP n w ∧ ∀ S ls, IsClass gs w S → Kc (.ret (classD S ls))
  | _, _ => False
def F_ascending : Fn
  | [d], Kc => ∃ (n : Nat) (S : List Wd) (ls : List D), d = classD S ls ∧ (1 ≤ n ∧ n ≤ 1000) ∧ S.length ≤ sizeLine ∧ (∀ x ∈ S, IsP n x) ∧ Kc (.ret (.seq false ((sortT S).map inL)))
  | _, _ => False
/-- what is asked of generators and a motion -/
def askM (C2 C3 : Addr) (d x : D) (Kc : Out → Prop) (good : Nat → List Wd → Wd → Prop) : Prop := (d.ok = true ∧ ∃ i, wrongM d = some i ∧ Kc (.exc C2 ["index"] [.int (i : Nat)])) ∨ ∃ n gs, Gens d n gs ∧ x.ok = true ∧ ((isMotOf (n : Nat) x = false ∧ Kc (.exc C3 ["motion"] [x])) ∨ ∃ b w, x = .seq b (w.map .int) ∧ IsP n w ∧ good n gs w)
def F_class_of (C C2 C3 : Addr) : Fn
  | [d, x], Kc => askM C2 C3 d x Kc fun _ gs w => ∀ S, IsClass gs w S → Kc (.ret (.seq false ((sortT S).map inL)))
  | _, _ => False
/-- check_motion: ['motions', 'motion'] -/
def t_check_motion (C_BadMany C_BadMotion : Addr) (Xc : XC) : TDS :=
  (tdIfS (tdNot (tdTest (tdCallP (F_is_motion C_BadMany) Xc (tdCons (tdEx (tdB CLen (tdCons (tdEx (tdC2 CIx (tdNm 0) (tdEx (tdC (.int 0))))) tdNil))) (tdCons (tdNm 1) tdNil))))) (tdRaise C_BadMotion "motion" Xc (tfCons (tdVF 1) tfNil)) tdNext)
/-- taken_along: ['motion', 'other'] -/
def t_taken_along (Xc : XC) : TDS :=
  (tdRet (tdCallP F_composed Xc (tdCons (tdEx (tdCallP F_composed Xc (tdCons (tdEx (tdCallP F_undone Xc (tdCons (tdNm 1) tdNil))) (tdCons (tdNm 0) tdNil)))) (tdCons (tdNm 1) tdNil))))
/-- spread_class: ['motions', 'motion', 'first', 'lists', 'left', 'here', 'index', 'other', 'more'] -/
def t_spread_class (Xc : XC) : TDS :=
  (tdSeq (tdAsg (tdTupF (tdCons (tdNm 1) tdNil)) 2)
      (tdSeq (tdAsg (tdDisp1T (tdVF 2) (tdLst tfNil)) 3)
      (tdSeq (tdAsg (tdLst (tfCons (tdVF 2) tfNil)) 4)
      (tdSeq (tdWhile (tdTest (tdEqD true (tdNm 4) (tdEx (tdLst tfNil))))
      (tdSeq (tdAsg (tdPopAt 4 (tdEx (tdC (.int 0)))) 5)
      (tdFor (tdEnumI (tdVF 0)) (tgT [6, 7])
      (tdSeq (tdAsg (tdT CList (tdCons (tdEx (tdCallP F_taken_along Xc (tdCons (tdNm 5) (tdCons (tdNm 7) tdNil)))) tdNil)) 8)
      (tdIfS (tdTest (tdIn true (tdNm 8) (tdNm 3))) (tdSeq (tdDPut 3 (tdL2 CCat (tdEx (tdC2 CIxT (tdNm 3) (tdNm 5))) (tdEx (tdLst (tfCons (tdVF 6) tfNil)))) (tdNm 8))
      (tdApp 4 (tdVF 8))) tdNext)))))
      (tdRet (tdVF 3))))))
/-- ascending: ['keys', 'key'] -/
def t_ascending (Xc : XC) : TDS :=
  (tdRet (tdLc (tdSeqI (tdSortedA (tdCons (tdEx (tdListA (tdCons (tdNm 0) tdNil))) tdNil))) (tgN 1) tdYes (tdListF (tdCons (tdNm 1) tdNil)) [1]))
/-- class_of: ['motions', 'motion'] -/
def t_class_of (C_BadMany C_BadMotions C_BadMotion : Addr) (Xc : XC) : TDS :=
  (tdSeq (tdDrop (tdCallP (F_need_motions C_BadMany C_BadMotions) Xc (tdCons (tdNm 0) tdNil)))
      (tdSeq (tdDrop (tdCallN (F_check_motion C_BadMotion C_BadMany) Xc (tfCons (tdVF 0) (tfCons (tdVF 1) tfNil))))
      (tdRet (tdCallP F_ascending Xc (tdCons (tdEx (tdCallP F_spread_class Xc (tdCons (tdNm 0) (tdCons (tdNm 1) tdNil)))) tdNil)))))
theorem Gens.g {d : D} {n : Nat} {gs : List Wd} (h : Gens d n gs) : ∀ g ∈ gs, IsP n g := by
  obtain ⟨b, ps, _, e, _, _, _, hp⟩ := h
  intro g hg
  rw [← e] at hg
  obtain ⟨q, hq, rfl⟩ := List.mem_map.mp hg
  exact hp q hq
theorem vc_check_motion (C3 C : Addr) : ∀ ds Kc, F_check_motion C3 C ds Kc → t_check_motion C C3 (excA Kc) (rtP Kc) (ds.map (.fz false) ++ nos (2 - ds.length)) := by
  intro ds Kc h
  match ds, h with
  | [d, x], ⟨n, gs, hG, hx, h⟩ =>
    have hG' := hG
    obtain ⟨_, _, _, _, _, ⟨hn1, hn7⟩, _, _⟩ := hG'
    obtain ⟨b, y, ys, rfl, hl, c, w, rfl, hw⟩ := hG.len
    unfold t_check_motion
    walk_at "sx"
    refine ⟨_, cix_nat (i := 0) rfl, _, rfl, ?_⟩
    have e : ((w.map D.int).length : Int) = (n : Nat) := by rw [List.length_map, hw.len]
    rw [e]
    refine ⟨n, rfl, ⟨by omega, by omega⟩, hx, ?_⟩
    rcases h with ⟨he, hk⟩ | ⟨b', w', rfl, hw', hk⟩
    · exact ⟨_, rfl, fun _ => hk, fun ht => by rw [he] at ht; cases ht⟩
    · have e2 := good_of (b := b') hw'
      exact ⟨_, rfl, (fun hf => by rw [e2] at hf; cases hf), fun _ => hk⟩
theorem vc_taken_along : ∀ ds Kc, F_taken_along ds Kc → t_taken_along (excK Kc) (rtP Kc) (ds.map (.fz false) ++ nos (2 - ds.length)) := by
  intro ds Kc h
  match ds, h with
  | [_, _], ⟨n, b, c, x, y, rfl, rfl, hx, hy, hn, hk⟩ =>
    unfold t_taken_along
    walk_at "sx"
    refine ⟨n, c, y, rfl, hy, hn, ?_⟩
    simp only [outK]
    refine comp_mulW hy.back hx hn ?_
    simp only [outK]
    exact comp_mulW (hy.back.mul hx) hy hn hk
/-- while the class is gone through -/
structure CSeen (n : Nat) (gs : List Wd) (w : Wd) (S L : List Wd) (x : Option Wd) (m : Nat) : Prop where
  nd : S.Nodup
  re : ∀ y ∈ S, CReach gs w y
  one : w ∈ S
  sub : ∀ y ∈ L, y ∈ S
  le : L.length ≤ S.length
  cl : ∀ y ∈ S, y ∈ L ∨ some y = x ∨ ∀ g ∈ gs, conjW y g ∈ S
  ms : 2 * (n ^ n - S.length) + L.length ≤ m
section
variable {n : Nat} {gs S L : List Wd} {w : Wd} {m : Nat}
theorem CSeen.fin (h : CSeen n gs w S [] none m) : IsClass gs w S := by
  refine ⟨h.nd, fun y => ⟨h.re y, fun hy => ?_⟩⟩
  induction hy with
  | base => exact h.one
  | step hx hg ih =>
    rcases h.cl _ ih with z | z | z
    · cases z
    · cases z
    · exact z _ hg
theorem CSeen.start : CSeen n gs w [w] [w] none (2 * n ^ n + 1) :=
  ⟨by simp, fun y hy => by rw [List.mem_singleton.mp hy]; exact .base, by simp, fun y hy => hy, Nat.le_refl _, fun y hy => .inl hy, by simp; omega⟩
theorem CSeen.pop {x : Wd} (h : CSeen n gs w S (x :: L) none m) : x ∈ S ∧ 1 ≤ m ∧ CSeen n gs w S L (some x) (m - 1) := by
  have h1 := h.ms
  have h2 := h.le
  simp at h1 h2
  refine ⟨h.sub x (by simp), by omega, h.nd, h.re, h.one, fun y hy => h.sub y (by simp [hy]), by omega, fun y hy => ?_, by omega⟩
  rcases h.cl y hy with z | z | z
  · rcases List.mem_cons.mp z with z | z
    · exact .inr (.inl (by rw [z]))
    · exact .inl z
  · cases z
  · exact .inr (.inr z)
theorem CSeen.add {x g : Wd} (hg : ∀ g ∈ gs, IsP n g) (hw : IsP n w) (h : CSeen n gs w S L (some x) m) (hx : x ∈ S) (hm : g ∈ gs) (hn : conjW x g ∉ S) : CSeen n gs w (S ++ [conjW x g]) (L ++ [conjW x g]) (some x) m := by
  have re : ∀ y ∈ S ++ [conjW x g], CReach gs w y := fun y hy => by
    rcases List.mem_append.mp hy with z | z
    · exact h.re y z
    · rw [List.mem_singleton.mp z]; exact .step (h.re x hx) hm
  have nd : (S ++ [conjW x g]).Nodup := by
    rw [List.nodup_append]
    refine ⟨h.nd, by simp, fun a ha b hb e => ?_⟩
    rw [List.mem_singleton.mp hb] at e
    exact hn (e ▸ ha)
  have hf := few nd fun y hy => creach_isP hg hw (re y hy)
  have h1 := h.ms
  have h2 := h.le
  simp at hf
  refine ⟨nd, re, by simp [h.one], fun y hy => ?_, by simp; omega, fun y hy => ?_, by simp; omega⟩
  · rcases List.mem_append.mp hy with z | z
    · simp [h.sub y z]
    · simp [List.mem_singleton.mp z]
  · rcases List.mem_append.mp hy with z | z
    · rcases h.cl y z with w | w | w
      · exact .inl (by simp [w])
      · exact .inr (.inl w)
      · exact .inr (.inr fun g' hg' => by simp [w g' hg'])
    · exact .inl (by simp [List.mem_singleton.mp z])
theorem CSeen.next {x : Wd} (h : CSeen n gs w S L (some x) m) (ha : ∀ g ∈ gs, conjW x g ∈ S) : CSeen n gs w S L none m :=
  ⟨h.nd, h.re, h.one, h.sub, h.le, fun y hy => by
    rcases h.cl y hy with w | w | w
    · exact .inl w
    · cases w; exact .inr (.inr ha)
    · exact .inr (.inr w), h.ms⟩
theorem CSeen.room {x : Option Wd} (hn : n ≤ 7) (hg : ∀ g ∈ gs, IsP n g) (hw : IsP n w) (h : CSeen n gs w S L x m) : S.length < sizeLine ∧ L.length < sizeLine := by
  have := few h.nd fun y hy => creach_isP hg hw (h.re y hy)
  have h1 := h.le
  have := pow_le hn
  omega
end
/-- the lists beside the keys: lists, of few things -/
def VOk (S : List Wd) (ls : List D) : Prop := ls.length = S.length ∧ ∀ i d, ls[i]? = some d → ∃ l : List D, d = .seq false l ∧ l.length ≤ i
theorem ixOf_has {κ : Type} [DecidableEq κ] {k : κ} : ∀ {ks : List κ}, k ∈ ks → ∃ j, ixOf k ks = some j ∧ j < ks.length
  | x :: xs, h => by
    by_cases e : x = k
    · exact ⟨0, by simp [ixOf, e], by simp⟩
    · have h : k ∈ xs := by
        rcases List.mem_cons.mp h with h | h
        · exact absurd h.symm e
        · exact h
      obtain ⟨j, h1, h2⟩ := ixOf_has h
      exact ⟨j + 1, by simp [ixOf, e, h1], by simpa using h2⟩
theorem put_class {S : List Wd} {ls : List D} {w : Wd} {v : D} (h : w ∉ S) : dputI (classD S ls) (tupD w) v = some (classD (S ++ [w]) (ls ++ [v])) := by
  have hk : hasK (keyW w) (S.map keyW) = false := by rw [hasK_W]; simpa using h
  show (tupD w).keyT.map _ = _
  rw [keyT_tup, Option.map_some]
  congr 2
  · unfold dputK; rw [hk]; simp
  · unfold dputV; rw [hk]; simp
theorem get_class {S : List Wd} {ls : List D} {w : Wd} (hv : VOk S ls) (h : w ∈ S) : ∃ l : List D, CIxT (classD S ls) (tupD w) (.seq false l) ∧ l.length < S.length := by
  obtain ⟨j, h1, h2⟩ := ixOf_has (k := keyW w) (ks := S.map keyW) (List.mem_map.mpr ⟨w, h, rfl⟩)
  rw [List.length_map] at h2
  have hjl : j < ls.length := by rw [hv.1]; exact h2
  have hl : ls[j]? = some ls[j] := List.getElem?_eq_getElem hjl
  obtain ⟨l, e, hl2⟩ := hv.2 j _ hl
  exact ⟨l, ⟨keyW w, j, keyT_tup w, h1, by rw [hl, e]⟩, by omega⟩
theorem VOk.add {S : List Wd} {ls : List D} {w : Wd} {l : List D} (hv : VOk S ls) (h : l.length ≤ S.length) : VOk (S ++ [w]) (ls ++ [.seq false l]) := by
  refine ⟨by simp [hv.1], fun i d hi => ?_⟩
  by_cases e : i < ls.length
  · rw [List.getElem?_append_left e] at hi
    exact hv.2 i d hi
  · rw [List.getElem?_append_right (by omega)] at hi
    have : i = ls.length := by
      by_cases e2 : i - ls.length = 0
      · omega
      · rw [List.getElem?_eq_none (by simp; omega)] at hi; cases hi
    subst this
    simp at hi
    subst hi
    exact ⟨l, rfl, by rw [hv.1]; exact h⟩
theorem vc_spread_class : ∀ ds Kc, F_spread_class ds Kc → t_spread_class (excK Kc) (rtP Kc) (ds.map (.fz false) ++ nos (9 - ds.length)) := by
  intro ds Kc h
  match ds, h with
  | [_, _], ⟨n, gs, b, w, hG, rfl, hw, hk⟩ =>
    have hg := hG.g
    obtain ⟨bg, ps, rfl, hgs, h0, ⟨hn1, hn7⟩, hz, hp⟩ := hG
    unfold t_spread_class
    walk_at "sx"
    simp only [tdTupF]
    walk_at "sx"
    refine ⟨flat_all, ?_⟩
    refine ⟨zle (by decide), keyW w, keyT_tup w, fun p3 => ⟨zle (by decide), fun p4 => ?_⟩⟩
    refine ⟨fun m r => ∃ S L ls y5 y6 y7 y8, r = [.fz false (.seq bg (ps.map gD)), .fz false (.seq b (w.map .int)), .fz true (tupD w), .ow p3 true (classD S ls), .ow p4 true (.seq false (L.map tupD)), y5, y6, y7, y8] ∧ CSeen n gs w S L none m ∧ VOk S ls,
      ⟨_, [w], [w], [.seq false []], _, _, _, _, rfl, .start, rfl, fun i d hi => ?_⟩, ?_⟩
    · have : i = 0 := by
        by_cases e : i = 0
        · exact e
        · rw [List.getElem?_eq_none (by simp; omega)] at hi; cases hi
      subst this
      simp at hi
      exact ⟨[], hi.symm, Nat.le_refl _⟩
    rintro m _ ⟨S, L, ls, y5, y6, y7, y8, rfl, inv, hv⟩
    walk_at "sx"
    refine ⟨zle (by decide), eqOk_intss _ _ _, eqOk_nil _, ?_⟩
    rw [deq_nil]
    refine ⟨fun hb => ?_, fun hb => ?_⟩
    · cases L with
      | nil => cases hb
      | cons x L =>
      obtain ⟨hx, hm1, inv⟩ := inv.pop
      have px := creach_isP hg hw (inv.re x hx)
      refine ⟨by decide, by decide, 0, by simp [seqIndex?], tupD x, rfl, ?_⟩
      have e1 : ((x :: L).map tupD).eraseIdx 0 = L.map tupD := rfl
      rw [e1]
      refine ⟨fun k r => ∃ S ls L y6 y7 y8, r = [.fz false (.seq bg (ps.map gD)), .fz false (.seq b (w.map .int)), .fz true (tupD w), .ow p3 true (classD S ls), .ow p4 true (.seq false (L.map tupD)), .fz true (tupD x), y6, y7, y8] ∧ CSeen n gs w S L (some x) (m - 1) ∧ x ∈ S ∧ VOk S ls ∧ ∀ j g, j < k → gs[j]? = some g → conjW x g ∈ S,
        ⟨_, _, _, _, _, _, rfl, inv, hx, hv, fun j g hj => absurd hj (Nat.not_lt_zero _)⟩, ?_, ?_⟩
      · rintro k it _ hit ⟨S, ls, L, y6, y7, y8, rfl, inv, hx, hv, hdone⟩
        rw [List.getElem?_mapIdx, List.getElem?_map] at hit
        cases hq : ps[k]? with
        | none => rw [hq] at hit; cases hit
        | some q =>
        rw [hq] at hit
        cases hit
        have hgk : gs[k]? = some q.2 := by rw [← hgs, List.getElem?_map, hq]; rfl
        have hmem := List.mem_of_getElem? hgk
        have pq := hg q.2 hmem
        have room := inv.room hn7 hg hw
        walk_at "sx"
        refine ⟨n, true, q.1, x, q.2, rfl, rfl, px, pq, by omega, ?_⟩
        simp only [outK]
        refine ⟨_, ⟨false, rfl⟩, _, in_seen S (conjW x q.2) _, fun hd => ?_, fun hd => ?_⟩
        · have hni : conjW x q.2 ∉ S := of_decide_eq_false hd
          obtain ⟨l, hl1, hl2⟩ := get_class hv hx
          have hni' := hni
          refine ⟨_, hl1, zle (by decide), _, ⟨_, _, rfl, rfl, rfl, by have := room.1; rw [List.length_singleton]; omega⟩, by show (S.map keyW).length < sizeLine; rw [List.length_map]; exact room.1, _, put_class hni, by rw [List.length_map]; exact room.2, _, _, rfl, L ++ [conjW x q.2], by rw [List.map_append]; rfl, inv.add hg hw hx hmem hni, by simp [hx], hv.add (by rw [List.length_append, List.length_singleton]; omega), fun j g hj hg' => ?_⟩
          by_cases e : j = k
          · subst e; rw [hgk] at hg'; cases hg'; simp
          · simp [hdone j g (by omega) hg']
        · have hin := of_decide_eq_true hd
          refine ⟨S, ls, rfl, L, rfl, inv, hx, hv, fun j g hj hg' => ?_⟩
          by_cases e : j = k
          · subst e; rw [hgk] at hg'; cases hg'; exact hin
          · exact hdone j g (by omega) hg'
      · rintro _ ⟨S, ls, L, y6, y7, y8, rfl, inv, hx, hv, hdone⟩
        refine ⟨m - 1, by omega, S, L, ls, _, _, _, _, rfl, inv.next fun g hg => ?_, hv⟩
        obtain ⟨j, hj⟩ := List.getElem?_of_mem hg
        refine hdone j g ?_ hj
        have := (List.getElem?_eq_some_iff.mp hj).1
        rw [← hgs] at this
        simpa using this
    · have hL : L = [] := by simpa using hb
      subst hL
      exact hk S ls inv.fin
theorem sort_len (S : List Wd) : (sortT S).length = S.length := (List.mergeSort_perm S lexLe).length_eq
theorem sort_mem {S : List Wd} {x : Wd} : x ∈ sortT S ↔ x ∈ S := (List.mergeSort_perm S lexLe).mem_iff
def unT : D → D
  | .seq _ xs => .seq false xs
  | _ => .non
theorem unT_map (S : List Wd) : (S.map tupD).map unT = S.map inL := by rw [List.map_map]; rfl
theorem vc_ascending : ∀ ds Kc, F_ascending ds Kc → t_ascending (excK Kc) (rtP Kc) (ds.map (.fz false) ++ nos (2 - ds.length)) := by
  intro ds Kc h
  match ds, h with
  | [_], ⟨n, S, ls, rfl, hn, hz, hp, hk⟩ =>
    unfold t_ascending
    walk_at "sx"
    refine .inr ?_
    refine ⟨S.map tupD, keys_seen S _, S, rfl, fun k hk' => ?_, ?_⟩
    · have := (hp k hk').len
      intro e
      rw [e] at this
      simp at this
      omega
    refine lc_ds (g := isFlat) unT true (by rw [List.length_map, sort_len]; exact hz) (fun z hz' Q kq => ?_) mono_tgN mono_yes (fun p => ?_)
    · obtain ⟨w, hw, rfl⟩ := List.mem_map.mp hz'
      walk_at "sx"
      simp only [tdListF]
      walk_at "sx"
      exact ⟨flat_all, kq _ _ (fun _ => rfl) rfl⟩
    · rw [unT_map]
      exact ⟨_, _, rfl, rfl, hk⟩
theorem ask_ok {d : D} {n : Nat} {gs : List Wd} (h : Gens d n gs) : d.ok = true ∧ wrongM d = none ∧ (1 ≤ n ∧ n ≤ 7) := by
  obtain ⟨b, ps, rfl, rfl, h0, hn, hz, hp⟩ := h
  exact ⟨ok_gens hn.2 hz hp, wrong_none hn.1 h0 hp, hn⟩
theorem need_ok {C C2 : Addr} {d : D} {n : Nat} {gs : List Wd} {P : Out → Prop} (h : Gens d n gs) (hk : P (.ret .non)) : F_need_motions C C2 [d] P := by
  obtain ⟨h1, h2, _⟩ := ask_ok h
  exact ⟨h1, fun i hi => (by rw [h2] at hi; cases hi), fun _ => hk⟩
theorem vc_class_of (C C2 C3 : Addr) : ∀ ds Kc, F_class_of C C2 C3 ds Kc → t_class_of C C2 C3 (excA Kc) (rtP Kc) (ds.map (.fz false) ++ nos (2 - ds.length)) := by
  intro ds Kc h
  match ds, h with
  | [d, x], h =>
    unfold t_class_of
    walk_at "sx"
    rcases h with ⟨hok, i, hw, hk⟩ | ⟨n, gs, hG, hx, h⟩
    · exact ⟨hok, fun j hj => by rw [hw] at hj; cases hj; exact hk, fun hn => by rw [hw] at hn; cases hn⟩
    refine need_ok hG ?_
    simp only [outK]
    refine ⟨n, gs, hG, hx, ?_⟩
    rcases h with ⟨he, hk⟩ | ⟨b, w, rfl, pw, hk⟩
    · exact .inl ⟨he, hk⟩
    refine .inr ⟨b, w, rfl, pw, ?_⟩
    simp only [outA]
    obtain ⟨_, _, n1, n7⟩ := ask_ok hG
    refine ⟨n, gs, b, w, hG, rfl, pw, fun S ls hS => ?_⟩
    simp only [outK]
    have hp : ∀ x ∈ S, IsP n x := fun x hx => creach_isP hG.g pw ((hS.iff x).mp hx)
    refine ⟨n, S, ls, rfl, ⟨n1, by omega⟩, ?_, hp, ?_⟩
    · have := few hS.nd hp; have := pow_le n7; omega
    simp only [outK]
    exact hk S hS
def mapW (f : Wd → D) : D → D
  | .seq _ xs => match D.ints xs with
    | some w => f w
    | none => .non
  | _ => .non
theorem mapW_seq (f : Wd → D) (b : Bool) (w : Wd) : mapW f (.seq b (w.map .int)) = f w := by
  show (match D.ints (w.map .int) with | some w => f w | none => .non) = _
  rw [ints_map]
end TL
namespace TL
open PySem PySem.Spec PyProof.Rows L2
local macro_rules | `(tactic| walk_at "sx") => `(tactic| simp only [tgN, tdYes, tdC2, tdNm, tdEx, tdV, tdC, tdRet, tdLc, tdSeqI, tdSeq, tdIfS, tdNext, tdRetN, tdDrop, tdAsg, tdPar, tdTest, tdAnd, tdOr, tdNot, tdAndV, tdOrV, tdNotV, tdIf, tdCons, tdNil, tfNil, tfCons, tdLst, tdTup, tdI0, tdI, tdOp1, tdOp2, tdEqD, tdIsN, tdIn, tdInD, tdB, tdL, tdT, tdL2, tdCallP, tdCallPD, tdCallA, tdCallD, tdCallDA, tdUnp, tgT, tdRng1, tdRng2, tdFor, tdApp, tdSetL, tdDPut, tdPop, tdPopAt, tdExt, tdAug, tdDictK, tdDictT, tdDict, tdDictA, tdDisp1T, tdListA, tdEnumI, tdZipI, tdRaise, tdIsi, tdIndex, tdLstRg1, tdLstRg2, tdTupRg1, tdSlice, tdNoP, tdSoP, tdNeg, tdForK, tdLcK, tdBreak, tdCont, tdTold, frzR, frz1, capIt, tdSpoil, tdStart, XcTell, tdSortedA, tdVF, tdLcO, tdCallN, tdCallND, tdDisp1K, isFl_int, isFl_bl, isFl_str, isFl_non, isFl_seq, isFl_dk, isFl_dt, setsR, tdStIx, tdStNe, tdStPop, tdStSet, stF, stS,
  nos, List.replicate, List.map_cons, List.map_nil, List.length_cons, List.length_nil, List.cons_append, List.nil_append, List.set_cons_zero, List.set_cons_succ, List.getElem?_cons_zero, List.getElem?_cons_succ, List.getD_cons_zero, List.getD_cons_succ, wR, List.foldr_cons, List.foldr_nil, dats, cdats, opd_dat, opd_cview, it_sl, it_tm, view_fz, view_ow, view_dp, cview_fz, cview_ow, val_fz, val_ow, val_dp, val_st, D.seq.injEq, D.int.injEq, D.str.injEq, Option.map_some, Option.some.injEq, Prod.mk.injEq, List.cons.injEq, and_true, true_and, exists_eq_left', exists_and_left, exists_eq_left, exists_eq_right, rtP, rtA, rtD, rtDA, outK, outA, excK, excA, Nat.reduceAdd, Nat.reduceSub, Nat.zero_add, Bool.and_true, Bool.true_and, Bool.false_or, Bool.true_or, Bool.or_true, Bool.or_false, Bool.false_and, Bool.and_false, exists_const, and_self, exists_prop, and_assoc, TL.It.fz.injEq, TL.It.ow.injEq, TL.It.st.injEq, Function.comp_apply, D.bl.injEq, exists_eq', eq_self, reduceCtorEq, false_implies, true_implies, implies_true, forall_const, Bool.not_true, Bool.not_false, Bool.true_eq_false, Bool.false_eq_true, if_false, if_true, Bool.not_eq_true', Bool.not_eq_false', ite_false, ite_true, Bool.not_not, forall_eq, forall_eq'])
def oddMot (n : Nat) (x : D) : Prop := x.ok = true ∧ x.dpt ≤ 2 ∧ isMotOf (n : Nat) x = false
def F_law_odd_motion : Fn
  | [d], Kc => ∃ (n : Nat) (w : Wd) (xs : List D), d = .seq false (inL w :: xs) ∧ IsP n w ∧ (1 ≤ n ∧ n ≤ 1000) ∧ ∀ os : List D, (∀ x ∈ os, oddMot n x) → os.length ≤ 20 → Kc (.ret (.seq false os))
  | _, _ => False
/-- _law_odd_motion: ['motions', 'many', 'first', 'found'] -/
def q1_law_odd_motion (Xc : XC) : TDS := (tdRet (tdL2 CCat (tdNm 3) (tdEx (tdIf (tdTest (tdI0 (fun i j => .bl (decide (j < i))) (tdNm 1) (tdEx (tdC (.int 1))))) (tdLst (tfCons (tdL2 CRep (tdEx (tdLst (tfCons (tdC (.int 0)) tfNil))) (tdNm 1)) (tfCons (tdL2 CCat (tdEx (tdSlice (tdNm 2) (tdSoP (tdEx (tdC (.int 1)))) tdNoP)) (tdEx (tdLst (tfCons (tdC2 CIx (tdNm 2) (tdEx (tdC (.int 1)))) tfNil)))) tfNil))) (tdLst (tfCons (tdLst (tfCons (tdC (.bl true)) tfNil)) (tfCons (tdLst (tfCons (tdC (.bl false)) tfNil)) tfNil)))))))
def q2_law_odd_motion (Xc : XC) : TDS := (tdSeq (tdAsg (tdLst (tfCons (tdC .non) (tfCons (tdC (.int 5)) (tfCons (tdC (.str "motion")) (tfCons (tdLst tfNil) (tfCons (tdSlice (tdNm 2) tdNoP (tdSoP (tdEx (tdNeg (tdEx (tdC (.int 1))))))) (tfCons (tdL2 CCat (tdNm 2) (tdEx (tdLst (tfCons (tdVF 1) tfNil)))) (tfCons (tdL2 CCat (tdEx (tdSlice (tdNm 2) tdNoP (tdSoP (tdEx (tdNeg (tdEx (tdC (.int 1)))))))) (tdEx (tdLst (tfCons (tdVF 1) tfNil)))) (tfCons (tdL2 CCat (tdEx (tdLst (tfCons (tdNeg (tdEx (tdC (.int 1)))) tfNil))) (tdEx (tdSlice (tdNm 2) (tdSoP (tdEx (tdC (.int 1)))) tdNoP))) (tfCons (tdL2 CCat (tdEx (tdSlice (tdNm 2) tdNoP (tdSoP (tdEx (tdNeg (tdEx (tdC (.int 1)))))))) (tdEx (tdLst (tfCons (tdC .non) tfNil)))) (tfCons tdDictA (tfCons (tdC (.bl true)) tfNil)))))))))))) 3)
      (q1_law_odd_motion Xc))
def q3_law_odd_motion (Xc : XC) : TDS := (tdSeq (tdPar (tdB CLen (tdCons (tdEx (tdC2 CIx (tdNm 0) (tdEx (tdC (.int 0))))) tdNil)) (tdListF (tdCons (tdEx (tdC2 CIx (tdNm 0) (tdEx (tdC (.int 0))))) tdNil)) 1 2)
      (q2_law_odd_motion Xc))
def t_law_odd_motion (Xc : XC) : TDS :=
  (q3_law_odd_motion Xc)
theorem t_law_odd_motion_eq (Xc : XC) : t_law_odd_motion Xc =
  (tdSeq (tdPar (tdB CLen (tdCons (tdEx (tdC2 CIx (tdNm 0) (tdEx (tdC (.int 0))))) tdNil)) (tdListF (tdCons (tdEx (tdC2 CIx (tdNm 0) (tdEx (tdC (.int 0))))) tdNil)) 1 2)
      (tdSeq (tdAsg (tdLst (tfCons (tdC .non) (tfCons (tdC (.int 5)) (tfCons (tdC (.str "motion")) (tfCons (tdLst tfNil) (tfCons (tdSlice (tdNm 2) tdNoP (tdSoP (tdEx (tdNeg (tdEx (tdC (.int 1))))))) (tfCons (tdL2 CCat (tdNm 2) (tdEx (tdLst (tfCons (tdVF 1) tfNil)))) (tfCons (tdL2 CCat (tdEx (tdSlice (tdNm 2) tdNoP (tdSoP (tdEx (tdNeg (tdEx (tdC (.int 1)))))))) (tdEx (tdLst (tfCons (tdVF 1) tfNil)))) (tfCons (tdL2 CCat (tdEx (tdLst (tfCons (tdNeg (tdEx (tdC (.int 1)))) tfNil))) (tdEx (tdSlice (tdNm 2) (tdSoP (tdEx (tdC (.int 1)))) tdNoP))) (tfCons (tdL2 CCat (tdEx (tdSlice (tdNm 2) tdNoP (tdSoP (tdEx (tdNeg (tdEx (tdC (.int 1)))))))) (tdEx (tdLst (tfCons (tdC .non) tfNil)))) (tfCons tdDictA (tfCons (tdC (.bl true)) tfNil)))))))))))) 3)
      (tdRet (tdL2 CCat (tdNm 3) (tdEx (tdIf (tdTest (tdI0 (fun i j => .bl (decide (j < i))) (tdNm 1) (tdEx (tdC (.int 1))))) (tdLst (tfCons (tdL2 CRep (tdEx (tdLst (tfCons (tdC (.int 0)) tfNil))) (tdNm 1)) (tfCons (tdL2 CCat (tdEx (tdSlice (tdNm 2) (tdSoP (tdEx (tdC (.int 1)))) tdNoP)) (tdEx (tdLst (tfCons (tdC2 CIx (tdNm 2) (tdEx (tdC (.int 1)))) tfNil)))) tfNil))) (tdLst (tfCons (tdLst (tfCons (tdC (.bl true)) tfNil)) (tfCons (tdLst (tfCons (tdC (.bl false)) tfNil)) tfNil))))))))) := rfl
theorem OddX.mot {n : Nat} (hn : 1 ≤ n) {w : Wd} (hw : IsP n w) {x : D} (o : OddX w x) : oddMot n x := by
  refine ⟨o.ok, Nat.le_trans o.dp (by decide), ?_⟩
  rw [Bool.eq_false_iff]
  intro h
  have b := o.bad
  have h' := h
  unfold isMotOf at h'
  have h1 := (Bool.and_eq_true_iff.mp h').2
  have h2 := of_decide_eq_true (Bool.and_eq_true_iff.mp h1).1
  have e : lenD (inL w) = n := by show (w.map D.int).length = n; rw [List.length_map, hw.len]
  unfold goodM at b
  rw [h2, h, e] at b
  simp at b
  omega
theorem vc_law_odd_motion : ∀ ds Kc, F_law_odd_motion ds Kc → t_law_odd_motion (excK Kc) (rtP Kc) (ds.map (.fz false) ++ nos (4 - ds.length)) := by
  intro ds Kc h
  match ds, h with
  | [_], ⟨n, w, xs, rfl, hw, hn, hk⟩ =>
    have hl : w.length = n := hw.len
    have z : ∀ k : Nat, k ≤ 10000 → (k ≤ sizeLine) := fun k h => by rw [sizeLine_eq]; omega
    unfold t_law_odd_motion q3_law_odd_motion
    walk_at "sx"
    have i0 : CIx (D.seq false (inL w :: xs)) (D.int 0) (inL w) := cix_nat (i := 0) rfl
    refine ⟨inL w, i0, .int (w.length : Nat), by show D.int _ = D.int _; rw [List.length_map], ?_⟩
    simp only [tdListF]
    walk_at "sx"
    refine ⟨inL w, i0, _, _, rfl, flat_all, fun p2 => ?_⟩
    rw [hl]
    unfold q2_law_odd_motion
    walk_at "sx"
    simp only [z 0 (by omega), z 1 (by omega), z 11 (by omega), true_and]
    refine ⟨w.map .int ++ [.int (n : Nat)], ⟨_, _, rfl, rfl, rfl, by rw [List.length_map, List.length_singleton]; exact z _ (by omega)⟩, _, ⟨_, _, rfl, rfl, rfl, by rw [cl_last, List.length_singleton]; exact z _ (by omega)⟩, _, ⟨_, _, rfl, rfl, rfl, by rw [cl_tail, List.length_singleton]; exact z _ (by omega)⟩, _, ⟨_, _, rfl, rfl, rfl, by rw [cl_last, List.length_singleton]; exact z _ (by omega)⟩, false, fun p3 => ?_⟩
    rw [if_neg (by simp)]
    generalize e1 : [D.non, D.int 5, D.str (Str.ofString "motion"), D.seq false [], D.seq false (cutD (List.map D.int w) none (some (-1))), D.seq false (w.map .int ++ [.int (n : Nat)]), D.seq false _, D.seq false _, D.seq false _, D.dk [] [], D.bl true] = L1
    have hx : ∀ x ∈ L1, oddMot n x := by
      intro x hm
      rw [← e1] at hm
      simp only [List.mem_cons, List.not_mem_nil, or_false] at hm
      have fl : ∀ {x : D}, x.ok = true → x.dpt ≤ 2 → isSeq x = false → oddMot n x := fun h1 h2 h3 => ⟨h1, h2, by unfold isMotOf; rw [h3]; rfl⟩
      rcases hm with rfl | rfl | rfl | rfl | rfl | rfl | rfl | rfl | rfl | rfl | rfl
      · exact fl rfl (by decide) rfl
      · exact fl rfl (by decide) rfl
      · exact fl (by decide +kernel) (by decide +kernel) rfl
      · have := OddX.ints (v := []) hw hn.2 (by simp) fun h _ _ => by rw [List.length_nil] at h; omega
        exact this.mot hn.1 hw
      · rw [cut_last]
        exact (OddX.ints hw hn.2 (by simp; omega) fun h _ _ => by rw [List.length_take] at h; omega).mot hn.1 hw
      · have := OddX.ints (v := w ++ [(n : Int)]) hw hn.2 (by simp; omega) fun h _ _ => by rw [List.length_append, List.length_singleton] at h; omega
        have := this.mot hn.1 hw
        simpa using this
      · rw [cut_last]
        have := OddX.ints (v := w.take (w.length - 1) ++ [(n : Int)]) hw hn.2 (by simp; omega) fun _ _ b => by have := b n (by simp); omega
        have := this.mot hn.1 hw
        simpa using this
      · rw [cut_tail]
        have := OddX.ints (v := (-1) :: w.drop 1) hw hn.2 (by simp; omega) fun _ _ b => by have := b (-1) (by simp); omega
        have := this.mot hn.1 hw
        simpa using this
      · rw [cut_last]
        refine (OddX.of hw hn.2 (by simp; omega) (fun y hy => ?_) (fun y hy => ?_) fun ks e _ _ _ => ?_).mot hn.1 hw
        · rcases List.mem_append.mp hy with h | h
          · exact flat_ints _ h
          · rw [List.mem_singleton.mp h]; rfl
        · rcases List.mem_append.mp hy with h | h
          · exact ok_int _ h
          · rw [List.mem_singleton.mp h]; rfl
        · have : D.non ∈ ks.map D.int := by rw [← e]; simp
          obtain ⟨_, _, h⟩ := List.mem_map.mp this
          cases h
      · exact fl (by decide +kernel) (by decide +kernel) rfl
      · exact fl rfl (by decide) rfl
    have l1 : L1.length = 11 := by rw [← e1]; rfl
    clear e1
    unfold q1_law_odd_motion
    walk_at "sx"
    refine ⟨fun h => ?_, fun h => ?_⟩
    · have h : 1 < n := by have := of_decide_eq_true h; omega
      have w1 : w[1]? = some w[1] := List.getElem?_eq_getElem (by omega)
      refine ⟨z 1 (by omega), _, ⟨[.int 0], n, rfl, rfl, rfl, ⟨by omega, by omega⟩, by show 1 * _ ≤ _; rw [Int.toNat_natCast]; exact z _ (by omega)⟩, .int w[1], cix_nat (i := 1) (by rw [List.getElem?_map, w1]; rfl), z 1 (by omega), _, ⟨_, _, rfl, rfl, rfl, by rw [cl_tail, List.length_singleton]; exact z _ (by omega)⟩, z 2 (by omega), _, ⟨_, _, rfl, rfl, rfl, by rw [l1]; exact z _ (by simp)⟩, hk _ (fun x hm => ?_) (by rw [List.length_append, l1]; exact (by decide : 13 ≤ 20))⟩
      rcases List.mem_append.mp hm with hm | hm
      · exact hx x hm
      simp only [List.mem_cons, List.not_mem_nil, or_false] at hm
      rcases hm with rfl | rfl
      · rw [Int.toNat_natCast, rep_one]
        have := (OddX.ints (v := List.replicate n 0) hw hn.2 (by simp; omega) (fun _ hd _ => by
          obtain ⟨m, rfl⟩ : ∃ m, n = m + 2 := ⟨n - 2, by omega⟩
          simp [List.replicate_succ] at hd)).mot hn.1 hw
        simpa using this
      · rw [cut_tail]
        have := (OddX.ints (v := w.drop 1 ++ [w[1]]) hw hn.2 (by simp; omega) (fun _ hd _ => by
          have : w[1] ∈ w.drop 1 := by
            rw [List.mem_iff_getElem?]
            exact ⟨0, by rw [List.getElem?_drop]; exact w1⟩
          exact (List.nodup_append.mp hd).2.2 _ this _ (by simp) rfl)).mot hn.1 hw
        simpa using this
    · refine ⟨z 1 (by omega), z 1 (by omega), z 2 (by omega), _, ⟨_, _, rfl, rfl, rfl, by rw [l1]; exact z _ (by simp)⟩, hk _ (fun x hm => ?_) (by rw [List.length_append, l1]; exact (by decide : 13 ≤ 20))⟩
      rcases List.mem_append.mp hm with hm | hm
      · exact hx x hm
      simp only [List.mem_cons, List.not_mem_nil, or_false] at hm
      have bd : ∀ c : Bool, oddMot n (.seq false [.bl c]) := fun c => by
        refine (OddX.of hw hn.2 (us := [.bl c]) (by simp) (fun y hy => by rw [List.mem_singleton.mp hy]; rfl) (fun y hy => by rw [List.mem_singleton.mp hy]; rfl) fun ks e _ _ _ => ?_).mot hn.1 hw
        cases ks with
        | nil => cases e
        | cons k ks => cases e
      rcases hm with rfl | rfl
      · exact bd true
      · exact bd false
theorem yes8 {d : D} {P : Out → Prop} (h1 : d.ok = true) (h2 : d.dpt < 8) (h3 : P (.ret (.bl true))) : F_law_same 8 [d, d] P := ⟨h1, h1, h2, fun r hr => by rw [hr.mpr rfl]; exact h3⟩
theorem loose_word {n m : Nat} {w : Wd} {g : PS} (hn : n ≤ 1000) (hw : IsP n w) (hm : m < 2 ^ 39) (st : St m g) {Kc : PS → Out → Prop} (hk : ∀ g' b, St (m + 1) g' → Kc g' (.ret (.seq b (w.map .int)))) :
    F_law_loose 8 g [inL w] Kc := by
  refine ⟨m, sq_ints (by rw [hw.len, sizeLine_eq]; omega), Nat.lt_of_le_of_lt (dpt_flat flat_ints) (by decide), by rw [show (inL w).nds = 1 from nds_ints]; omega, st, fun g2 e s2 hn hsq => ?_⟩
  rw [nrm_inL] at hn
  obtain ⟨b, rfl⟩ := nrm_ints hn
  rw [show (inL w).nds = 1 from nds_ints] at s2
  exact hk g2 b s2
theorem list_ok {n : Nat} {L : List Wd} (hn : n ≤ 7) (hp : ∀ x ∈ L, IsP n x) (hz : L.length ≤ 7 ^ 7) : (D.seq false (L.map inL)).ok = true ∧ (D.seq false (L.map inL)).dpt ≤ 2 ∧ seqOnly (D.seq false (L.map inL)) = true ∧ (D.seq false (L.map inL)).cnt + (D.seq false (L.map inL)).wid ≤ sizeLine := by
  refine ⟨sq_ok _ (sq_intss (by rw [sizeLine_eq]; omega) fun w hw => by rw [(hp w hw).len, sizeLine_eq]; omega), dpt_intss, seqOnly_seq.mpr fun y hy => ?_, ?_⟩
  · obtain ⟨x, _, rfl⟩ := List.mem_map.mp hy
    exact seqOnly_ints
  · have c1 : (D.seq false (L.map inL)).cnt ≤ L.length * 1 + 1 := by
      refine Nat.succ_le_succ (Nat.le_trans (cnts_bd (c := 1) fun y hy => ?_) (by rw [List.length_map]; exact Nat.le_refl _))
      obtain ⟨x, _, rfl⟩ := List.mem_map.mp hy
      exact Nat.le_of_eq (cnt_ints false x)
    have c2 : (D.seq false (L.map inL)).wid ≤ 7 ^ 7 + 7 := by
      refine Nat.max_le.mpr ⟨by rw [List.length_map]; omega, wids_bd fun y hy => ?_⟩
      obtain ⟨x, hx, rfl⟩ := List.mem_map.mp hy
      refine Nat.le_trans (wid_ints _ _) ?_
      rw [(hp x hx).len]; omega
    rw [sizeLine_eq]; omega
theorem reach_few {n : Nat} {gs R : List Wd} (hn : n ≤ 7) (hg : ∀ g ∈ gs, IsP n g) (hR : IsReach n gs R) : (∀ x ∈ R, IsP n x) ∧ R.length ≤ 7 ^ 7 := by
  have hp : ∀ x ∈ R, IsP n x := fun x hx => ((hR.iff x).mp hx).isP hg
  refine ⟨hp, Nat.le_trans (few hR.nd hp) ?_⟩
  match n, hn with
  | 0, _ | 1, _ | 2, _ | 3, _ | 4, _ | 5, _ | 6, _ | 7, _ => decide
end TL
namespace TL
open PySem PySem.Spec PyProof.Rows L2
def iterW (m : Wd) : Nat → Int → Int
  | 0, i => i
  | k + 1, i => oImg m (iterW m k i)
theorem iter_add (m : Wd) (a b : Nat) (i : Int) : iterW m (a + b) i = iterW m a (iterW m b i) := by
  induction a with
  | zero => rw [Nat.zero_add]; rfl
  | succ a ih => rw [Nat.succ_add]; show oImg m _ = oImg m _; rw [ih]
structure IsRing (m : Wd) (r : List Int) : Prop where
  ne : 1 ≤ r.length
  nd : r.Nodup
  at_ : ∃ p, (∀ k, k < r.length → r[k]? = some (iterW m k p)) ∧ iterW m r.length p = p
def perB (m : Wd) (L : Nat) (i : Int) : Bool := decide (iterW m L i = i) && (List.range L).all fun k => decide (k = 0) || !decide (iterW m k i = i)
theorem perB_iff {m : Wd} {L : Nat} {i : Int} : perB m L i = true ↔ iterW m L i = i ∧ ∀ k, 1 ≤ k → k < L → iterW m k i ≠ i := by
  unfold perB
  rw [Bool.and_eq_true, List.all_eq_true]
  constructor
  · rintro ⟨h1, h2⟩
    refine ⟨of_decide_eq_true h1, fun k h0 hk e => ?_⟩
    have := h2 k (List.mem_range.mpr hk)
    rw [decide_eq_false (by omega), decide_eq_true e] at this
    cases this
  · rintro ⟨h1, h2⟩
    refine ⟨decide_eq_true h1, fun k hk => ?_⟩
    by_cases h0 : k = 0
    · simp [h0]
    · simp [h0, h2 k (by omega) (List.mem_range.mp hk)]
theorem per_uniq {m : Wd} {L L' : Nat} {i : Int} (h : perB m L i = true) (h' : perB m L' i = true) (h0 : 1 ≤ L) (h0' : 1 ≤ L') : L = L' := by
  obtain ⟨a, b⟩ := perB_iff.mp h
  obtain ⟨a', b'⟩ := perB_iff.mp h'
  rcases Nat.lt_trichotomy L L' with z | z | z
  · exact absurd a (b' L h0 z)
  · exact z
  · exact absurd a' (b L' h0' z)
theorem iter_mul {m : Wd} {L : Nat} {p : Int} (h : iterW m L p = p) : ∀ q, iterW m (L * q) p = p
  | 0 => rfl
  | q + 1 => by rw [Nat.mul_succ, iter_add, h, iter_mul h q]
theorem iter_mod {m : Wd} {L : Nat} {p : Int} (h : iterW m L p = p) (k : Nat) : iterW m k p = iterW m (k % L) p := by
  conv => lhs; rw [← Nat.mod_add_div k L]
  rw [iter_add, iter_mul h]
theorem IsRing.per {m : Wd} {r : List Int} (h : IsRing m r) : ∀ i ∈ r, perB m r.length i = true := by
  intro i hi
  obtain ⟨p, hp, hl⟩ := h.at_
  obtain ⟨a, ha⟩ := List.getElem?_of_mem hi
  have hal := (List.getElem?_eq_some_iff.mp ha).1
  rw [hp a hal] at ha
  cases ha
  refine perB_iff.mpr ⟨by rw [← iter_add, Nat.add_comm, iter_add, hl], fun k h1 h2 e => ?_⟩
  rw [← iter_add, iter_mod hl] at e
  have hm : (k + a) % r.length < r.length := Nat.mod_lt _ (by omega)
  have e1 := hp _ hm
  have e2 := hp a hal
  rw [e] at e1
  have := nodup_get h.nd e1 e2
  by_cases z : k + a < r.length
  · rw [Nat.mod_eq_of_lt z] at this; omega
  · rw [Nat.mod_eq_sub_mod (by omega), Nat.mod_eq_of_lt (by omega)] at this; omega
structure Rings (n : Nat) (m : Wd) (R : List (List Int)) : Prop where
  nd : R.flatten.Nodup
  mem : ∀ i, i ∈ R.flatten ↔ (0 ≤ i ∧ i < n) ∧ oImg m i ≠ i
  ring : ∀ r ∈ R, IsRing m r
theorem flat_count {m : Wd} {L : Nat} (h0 : 1 ≤ L) : ∀ R : List (List Int), (∀ r ∈ R, IsRing m r) → (R.flatten.filter (perB m L)).length = (R.map List.length).count L * L
  | [], _ => by simp
  | r :: R, h => by
    have ih := flat_count h0 R fun r hr => h r (List.mem_cons_of_mem _ hr)
    have hr := h r List.mem_cons_self
    rw [List.flatten_cons, List.filter_append, List.length_append, ih, List.map_cons, List.count_cons]
    by_cases e : r.length = L
    · subst e
      rw [List.filter_eq_self.mpr (hr.per), if_pos (by simp), Nat.succ_mul]; omega
    · have : r.filter (perB m L) = [] := List.filter_eq_nil_iff.mpr fun i hi hp => e (per_uniq (hr.per i hi) hp hr.ne h0)
      rw [this, if_neg (by simpa using e)]; simp
theorem ring_count {n : Nat} {m : Wd} {R : List (List Int)} (h : Rings n m R) {L : Nat} (h2 : 2 ≤ L) : (R.map List.length).count L * L = ((iota n).filter (perB m L)).length := by
  rw [← flat_count (by omega) R h.ring]
  refine List.Perm.length_eq ((List.perm_ext_iff_of_nodup (h.nd.filter _) (nodup_iota.filter _)).mpr fun i => ?_)
  rw [List.mem_filter, List.mem_filter, h.mem, mem_iota]
  constructor
  · rintro ⟨⟨a, _⟩, c⟩; exact ⟨a, c⟩
  · rintro ⟨a, c⟩
    exact ⟨⟨a, (perB_iff.mp c).2 1 (Nat.le_refl 1) (by omega)⟩, c⟩
theorem ring_two {n : Nat} {m : Wd} {R : List (List Int)} (h : Rings n m R) : ∀ r ∈ R, 2 ≤ r.length := by
  intro r hr
  have hg := h.ring r hr
  have h1 := hg.ne
  by_cases e : r.length = 1
  · exfalso
    obtain ⟨p, hp, hl⟩ := hg.at_
    have h0 := hp 0 (by omega)
    have hm : iterW m 0 p ∈ R.flatten := List.mem_flatten.mpr ⟨r, hr, List.mem_of_getElem? h0⟩
    rw [e] at hl
    exact ((h.mem _).mp hm).2 hl
  · omega
section
variable {n : Nat} {m h : Wd}
theorem oImg_in (hm : IsP n m) {i : Int} (h0 : 0 ≤ i) (h1 : i < n) : 0 ≤ oImg m i ∧ oImg m i < n := (hm.get h0 h1).2
theorem oImg_inj (hm : IsP n m) {i j : Int} (h0 : 0 ≤ i) (h1 : i < n) (h2 : 0 ≤ j) (h3 : j < n) (e : oImg m i = oImg m j) : i = j := by
  have a := (hm.get h0 h1).1
  have b := (hm.get h2 h3).1
  have e : m.getD i.toNat 0 = m.getD j.toNat 0 := e
  have := nodup_get hm.nd (by rw [a]) (by rw [b, e])
  omega
theorem conj_img (hm : IsP n m) (hh : IsP n h) {i : Int} (h0 : 0 ≤ i) (h1 : i < n) : oImg (conjW m h) (oImg h i) = oImg h (oImg m i) := by
  have hi := oImg_in hh h0 h1
  unfold conjW
  rw [img_mul (hh.back.mul hm) hi.1 hi.2, img_mul hh.back hi.1 hi.2, ← img_mul hh h0 h1, mul_back hh, show oImg (iota n) i = i from iota_getD h0 h1]
theorem iter_in (hm : IsP n m) {i : Int} (h0 : 0 ≤ i) (h1 : i < n) : ∀ k, 0 ≤ iterW m k i ∧ iterW m k i < n
  | 0 => ⟨h0, h1⟩
  | k + 1 => oImg_in hm (iter_in hm h0 h1 k).1 (iter_in hm h0 h1 k).2
theorem conj_iter (hm : IsP n m) (hh : IsP n h) {i : Int} (h0 : 0 ≤ i) (h1 : i < n) : ∀ k, iterW (conjW m h) k (oImg h i) = oImg h (iterW m k i)
  | 0 => rfl
  | k + 1 => by
    show oImg _ (iterW _ k _) = _
    rw [conj_iter hm hh h0 h1 k, conj_img hm hh (iter_in hm h0 h1 k).1 (iter_in hm h0 h1 k).2]
    rfl
theorem conj_per (hm : IsP n m) (hh : IsP n h) {i : Int} (h0 : 0 ≤ i) (h1 : i < n) (L : Nat) : perB (conjW m h) L (oImg h i) = perB m L i := by
  have eq : ∀ k, iterW (conjW m h) k (oImg h i) = oImg h i ↔ iterW m k i = i := fun k => by
    rw [conj_iter hm hh h0 h1]
    exact ⟨fun e => oImg_inj hh (iter_in hm h0 h1 k).1 (iter_in hm h0 h1 k).2 h0 h1 e, fun e => by rw [e]⟩
  apply Bool.eq_iff_iff.mpr
  rw [perB_iff, perB_iff, eq]
  exact ⟨fun ⟨a, b⟩ => ⟨a, fun k h1 h2 e => b k h1 h2 ((eq k).mpr e)⟩, fun ⟨a, b⟩ => ⟨a, fun k h1 h2 e => b k h1 h2 ((eq k).mp e)⟩⟩
theorem conj_count (hm : IsP n m) (hh : IsP n h) (L : Nat) : ((iota n).filter (perB (conjW m h) L)).length = ((iota n).filter (perB m L)).length := by
  have e : h = (iota n).map (oImg h) := by
    apply List.ext_getElem?
    intro i
    by_cases hi : i < n
    · rw [List.getElem?_map, iota_get hi]
      have := (hh.get (i := (i : Int)) (by omega) (by omega)).1
      have ei : ((i : Int)).toNat = i := by omega
      rw [ei] at this
      rw [this]
      show _ = some (h.getD ((i : Int)).toNat 0)
      rw [ei]
    · rw [List.getElem?_eq_none (by rw [hh.len]; omega), List.getElem?_eq_none (by rw [List.length_map, length_iota]; omega)]
  have p := hh.perm
  rw [← (p.filter (perB (conjW m h) L)).length_eq]
  conv => lhs; rw [e]
  rw [List.filter_map, List.length_map]
  congr 1
  apply List.filter_congr
  intro i hi
  obtain ⟨h0, h1⟩ := mem_iota.mp hi
  conv => rhs; rw [← conj_per hm hh h0 h1 L]
  rw [← e]; rfl
end
end TL
namespace TL
open PySem PySem.Spec PyProof.Rows L2
theorem RepL.app {phi : Addr → Prop} {H : Hp} : ∀ {vs : List V} {ds : List D} {us : List V} {es : List D}, RepL phi H vs ds → RepL phi H us es → RepL phi H (vs ++ us) (ds ++ es)
  | _, _, _, _, .nil, s => s
  | _, _, _, _, .cons r t, s => .cons r (RepL.app t s)
theorem RepL.rev {phi : Addr → Prop} {H : Hp} : ∀ {vs : List V} {ds : List D}, RepL phi H vs ds → RepL phi H vs.reverse ds.reverse
  | _, _, .nil => .nil
  | _, _, .cons r t => by rw [List.reverse_cons, List.reverse_cons]; exact (RepL.rev t).app (.cons r .nil)
section
variable {G0 : Bs} {te ta tb : TE} {t : TDE} {toa tob : TDO} {K : PySem.W.Frag}
def tdRevL (toa : TDO) : TDE := fun r P => toa r fun x r1 => ∃ nw ds, x.cview r1 = some (nw, .seq false ds) ∧ ∀ p, P (.ow p nw (.seq false ds.reverse)) r1
theorem snd_revL (ha : SndO G0 ta toa) : SndE G0 (tRevL K ta) (tdRevL toa) := by
  intro vs ka sg H r P Q hl E hp k
  refine ha vs ka sg H r _ _ hl E hp fun v H1 o r1 l1 E1 a1 h1 => ?_
  obtain ⟨nw, ds, hv, h1⟩ := h1
  obtain ⟨G, E1⟩ := E1
  have ix := opd_itx (us := []) (kb := []) E1 rfl hl a1
  obtain ⟨a, us, rfl, h, p⟩ := ix.sh E1.le hv
  refine ⟨a, us, rfl, SqL.of h, fun q hq => ?_⟩
  exact k _ _ _ r1 l1 ⟨G, E1.tail.pushOw (nw := nw) (d := .seq false ds.reverse) hq rfl ⟨_, upd_same, (RepL.of p).rev⟩⟩ (h1 q)
/-- x.count(k), numbers -/
def tdCntI (toa tob : TDO) : TDE := fun r P => toa r fun x r1 => (∃ xs, x.dat r1 = some (.seq false xs)) ∧ tob r1 fun y r2 => ∃ (ns : List Int) (k : Int), x.dat r2 = some (.seq false (ns.map .int)) ∧ y.dat r2 = some (.int k) ∧ P (.fz true (.int (ns.count k : Nat))) r2
/-- x.remove(k), numbers -/
def tdRemI (i : Nat) (toa : TDO) : TDE := fun r P => (∃ p nw ds, r[i]? = some (.ow p nw (.seq false ds))) ∧ toa r fun o r1 => ∃ (p : Addr) (nw : Bool) (ns : List Int) (k : Int) (j : Nat), r1[i]? = some (.ow p nw (.seq false (ns.map .int))) ∧ o.dat r1 = some (.int k) ∧ ns[j]? = some k ∧ (∀ m : Nat, m < j → ns[m]? ≠ some k) ∧
  P (.fz true .non) (r1.set i (.ow p nw (.seq false ((ns.eraseIdx j).map .int))))
end
end TL
namespace TL
open PySem PySem.Spec PyProof.Rows L2
def movedW (n : Nat) (w : Wd) : List Int := (iota n).filter fun i => !decide (oImg w i = i)
theorem mem_moved {n : Nat} {w : Wd} {i : Int} : i ∈ movedW n w ↔ (0 ≤ i ∧ i < n) ∧ oImg w i ≠ i := by
  unfold movedW
  rw [List.mem_filter, mem_iota]
  simp
theorem ring_back {n : Nat} {w : Wd} {r : List Int} (hw : IsP n w) (h : IsRing w r) (hb : ∀ x ∈ r, 0 ≤ x ∧ x < n) {i : Int} (h0 : 0 ≤ i) (h1 : i < n) (hi : oImg w i ∈ r) : i ∈ r := by
  obtain ⟨p, hp, hl⟩ := h.at_
  have hn := h.ne
  obtain ⟨a, ha⟩ := List.getElem?_of_mem hi
  have hal := (List.getElem?_eq_some_iff.mp ha).1
  rw [hp a hal] at ha
  have e : iterW w a p = oImg w i := Option.some.inj ha
  have get : ∀ k, k < r.length → iterW w k p ∈ r := fun k hk => List.mem_of_getElem? (hp k hk)
  cases a with
  | zero =>
    have e2 : oImg w (iterW w (r.length - 1) p) = oImg w i := by
      have : iterW w (r.length - 1 + 1) p = oImg w i := by
        rw [show r.length - 1 + 1 = r.length by omega, hl]; exact e
      exact this
    have m := get (r.length - 1) (by omega)
    have b := hb _ m
    rw [← oImg_inj hw b.1 b.2 h0 h1 e2]
    exact m
  | succ a =>
    have e2 : oImg w (iterW w a p) = oImg w i := e
    have m := get a (by omega)
    have b := hb _ m
    rw [← oImg_inj hw b.1 b.2 h0 h1 e2]
    exact m
/-- the rings so far -/
structure RInv (n : Nat) (w : Wd) (R : List (List Int)) (k : Nat) : Prop where
  nd : R.flatten.Nodup
  ring : ∀ r ∈ R, IsRing w r
  el : ∀ i ∈ R.flatten, (0 ≤ i ∧ i < n) ∧ oImg w i ≠ i
  done : ∀ j i, j < k → (movedW n w)[j]? = some i → i ∈ R.flatten
theorem RInv.start {n : Nat} {w : Wd} : RInv n w [] 0 := ⟨by simp, (fun r h => by cases h), (fun i h => by simp at h), fun j i h => absurd h (Nat.not_lt_zero _)⟩
theorem RInv.fin {n : Nat} {w : Wd} {R : List (List Int)} (h : RInv n w R (movedW n w).length) : Rings n w R := by
  refine ⟨h.nd, fun i => ⟨h.el i, fun hi => ?_⟩, h.ring⟩
  obtain ⟨j, hj⟩ := List.getElem?_of_mem (mem_moved.mpr hi)
  exact h.done j i (List.getElem?_eq_some_iff.mp hj).1 hj
theorem RInv.skip {n : Nat} {w : Wd} {R : List (List Int)} {k : Nat} {i : Int} (h : RInv n w R k) (hk : (movedW n w)[k]? = some i) (hi : i ∈ R.flatten) : RInv n w R (k + 1) := by
  refine ⟨h.nd, h.ring, h.el, fun j x hj hx => ?_⟩
  by_cases e : j = k
  · subst e; rw [hk] at hx; cases hx; exact hi
  · exact h.done j x (by omega) hx
/-- a ring that is gone along -/
structure Go (n : Nat) (w : Wd) (p : Int) (r : List Int) : Prop where
  ne : 1 ≤ r.length
  at_ : ∀ k, k < r.length → r[k]? = some (iterW w k p)
  no : ∀ k, 1 ≤ k → k < r.length → iterW w k p ≠ p
section
variable {n : Nat} {w : Wd} {p : Int} {r : List Int}
theorem Go.start : Go n w p [p] := by
  refine ⟨Nat.le_refl _, fun k hk => ?_, fun k h1 h2 => ?_⟩
  · have : k = 0 := by simpa using hk
    subst this; rfl
  · simp at h2; omega
theorem iter_cancel (hw : IsP n w) (h0 : 0 ≤ p) (h1 : p < n) : ∀ a b : Nat, iterW w (a + b) p = iterW w a p → iterW w b p = p
  | 0, b, e => by rw [Nat.zero_add] at e; exact e
  | a + 1, b, e => by
    rw [Nat.succ_add] at e
    have e : oImg w (iterW w (a + b) p) = oImg w (iterW w a p) := e
    have i1 := iter_in hw h0 h1 (a + b)
    have i2 := iter_in hw h0 h1 a
    exact iter_cancel hw h0 h1 a b (oImg_inj hw i1.1 i1.2 i2.1 i2.2 e)
theorem Go.nodup (hw : IsP n w) (h0 : 0 ≤ p) (h1 : p < n) (h : Go n w p r) : r.Nodup := by
  rw [List.Nodup, List.pairwise_iff_getElem]
  intro i j hi hj hij e
  have ei := h.at_ i hi
  have ej := h.at_ j hj
  rw [List.getElem?_eq_getElem hi] at ei
  rw [List.getElem?_eq_getElem hj] at ej
  have e : iterW w i p = iterW w j p := by rw [← Option.some.inj ei, ← Option.some.inj ej]; exact e
  have := iter_cancel hw h0 h1 i (j - i) (by rw [show i + (j - i) = j by omega]; exact e.symm)
  exact h.no (j - i) (by omega) (by omega) this
theorem Go.mem (h : Go n w p r) {x : Int} (hx : x ∈ r) : ∃ k, k < r.length ∧ x = iterW w k p := by
  obtain ⟨k, hk⟩ := List.getElem?_of_mem hx
  have hl := (List.getElem?_eq_some_iff.mp hk).1
  rw [h.at_ k hl] at hk
  exact ⟨k, hl, (Option.some.inj hk).symm⟩
theorem Go.len (hw : IsP n w) (h0 : 0 ≤ p) (h1 : p < n) (h : Go n w p r) : r.length ≤ n := by
  have := nodup_le (m := iota n) (h.nodup hw h0 h1) fun x hx => by
    obtain ⟨k, _, rfl⟩ := h.mem hx
    exact mem_iota.mpr (iter_in hw h0 h1 k)
  rwa [length_iota] at this
theorem Go.last (h : Go n w p r) : r[r.length - 1]? = some (iterW w (r.length - 1) p) := h.at_ _ (by have := h.ne; omega)
theorem Go.next (h : Go n w p r) (hne : oImg w (iterW w (r.length - 1) p) ≠ p) : Go n w p (r ++ [oImg w (iterW w (r.length - 1) p)]) := by
  have hn := h.ne
  have e : iterW w r.length p = oImg w (iterW w (r.length - 1) p) := by
    conv => lhs; rw [show r.length = r.length - 1 + 1 by omega]
    rfl
  refine ⟨by simp, fun k hk => ?_, fun k h1 h2 => ?_⟩
  · rw [List.length_append, List.length_singleton] at hk
    by_cases z : k < r.length
    · rw [List.getElem?_append_left z]; exact h.at_ k z
    · have : k = r.length := by omega
      subst this
      rw [List.getElem?_append_right (Nat.le_refl _), Nat.sub_self, e]; rfl
  · rw [List.length_append, List.length_singleton] at h2
    by_cases z : k < r.length
    · exact h.no k h1 z
    · have : k = r.length := by omega
      subst this
      rw [e]; exact hne
theorem Go.ring (hw : IsP n w) (h0 : 0 ≤ p) (h1 : p < n) (h : Go n w p r) (he : oImg w (iterW w (r.length - 1) p) = p) : IsRing w r := by
  have hn := h.ne
  refine ⟨hn, h.nodup hw h0 h1, p, h.at_, ?_⟩
  conv => lhs; rw [show r.length = r.length - 1 + 1 by omega]
  exact he
theorem RInv.add {R : List (List Int)} {k : Nat} (hw : IsP n w) (h : RInv n w R k) (hk : (movedW n w)[k]? = some p) (hp : p ∉ R.flatten) (g : Go n w p r) (he : oImg w (iterW w (r.length - 1) p) = p) : RInv n w (R ++ [r]) (k + 1) := by
  obtain ⟨⟨h0, h1⟩, hm⟩ := mem_moved.mp (List.mem_of_getElem? hk)
  have hr := g.ring hw h0 h1 he
  have out : ∀ a, iterW w a p ∉ R.flatten := by
    intro a
    induction a with
    | zero => exact hp
    | succ a ih =>
      intro hc
      obtain ⟨r', hr', hx⟩ := List.mem_flatten.mp hc
      have b := iter_in hw h0 h1 a
      exact ih (List.mem_flatten.mpr ⟨r', hr', ring_back hw (h.ring r' hr') (fun x hx => (h.el x (List.mem_flatten.mpr ⟨r', hr', hx⟩)).1) b.1 b.2 hx⟩)
  have mv : ∀ a, oImg w (iterW w a p) ≠ iterW w a p := by
    intro a
    induction a with
    | zero => exact hm
    | succ a ih =>
      intro e
      have b := iter_in hw h0 h1 a
      have b' := iter_in hw h0 h1 (a + 1)
      exact ih (oImg_inj hw b'.1 b'.2 b.1 b.2 e)
  have fl : (R ++ [r]).flatten = R.flatten ++ r := by simp
  refine ⟨?_, fun x hx => ?_, fun i hi => ?_, fun j x hj hx => ?_⟩
  · rw [fl, List.nodup_append]
    refine ⟨h.nd, hr.nd, fun a ha b hb e => ?_⟩
    subst e
    obtain ⟨c, _, rfl⟩ := g.mem hb
    exact out c ha
  · rcases List.mem_append.mp hx with hx | hx
    · exact h.ring x hx
    · rw [List.mem_singleton.mp hx]; exact hr
  · rw [fl] at hi
    rcases List.mem_append.mp hi with hi | hi
    · exact h.el i hi
    · obtain ⟨c, _, rfl⟩ := g.mem hi
      exact ⟨iter_in hw h0 h1 c, mv c⟩
  · rw [fl]
    by_cases e : j = k
    · subst e
      rw [hk] at hx; cases hx
      exact List.mem_append_right _ (List.mem_of_getElem? (g.at_ 0 (by have := g.ne; omega)))
    · exact List.mem_append_left _ (h.done j x (by omega) hx)
theorem flat_len {R : List (List Int)} (h : ∀ r ∈ R, 1 ≤ r.length) : R.length ≤ R.flatten.length := by
  induction R with
  | nil => exact Nat.le_refl _
  | cons r R ih =>
    have := h r List.mem_cons_self
    have := ih fun x hx => h x (List.mem_cons_of_mem _ hx)
    rw [List.flatten_cons, List.length_append, List.length_cons]; omega
theorem RInv.len {R : List (List Int)} {k : Nat} (h : RInv n w R k) : R.flatten.length ≤ n ∧ R.length ≤ n := by
  have a := nodup_le (m := iota n) h.nd fun x hx => mem_iota.mpr (h.el x hx).1
  rw [length_iota] at a
  have := flat_len fun r hr => (h.ring r hr).ne
  omega
end
end TL
namespace TL
open PySem PySem.Spec PyProof.Rows L2
local macro_rules | `(tactic| walk_at "sx") => `(tactic| simp only [tgN, tdYes, tdC2, tdNm, tdEx, tdV, tdC, tdRet, tdLc, tdSeqI, tdSeq, tdIfS, tdNext, tdRetN, tdDrop, tdAsg, tdPar, tdTest, tdAnd, tdOr, tdNot, tdAndV, tdOrV, tdNotV, tdIf, tdCons, tdNil, tfNil, tfCons, tdLst, tdTup, tdI0, tdI, tdOp1, tdOp2, tdEqD, tdIsN, tdIn, tdInD, tdB, tdL, tdT, tdL2, tdCallP, tdCallPD, tdCallA, tdCallD, tdCallDA, tdUnp, tgT, tdRng1, tdRng2, tdFor, tdApp, tdSetL, tdDPut, tdPop, tdPopAt, tdExt, tdAug, tdDictK, tdDictT, tdDict, tdDictA, tdDisp1T, tdListA, tdEnumI, tdZipI, tdRaise, tdIsi, tdIndex, tdLstRg1, tdLstRg2, tdTupRg1, tdSlice, tdNoP, tdSoP, tdNeg, tdForK, tdLcK, tdBreak, tdCont, tdTold, frzR, frz1, capIt, tdSpoil, tdStart, XcTell, tdSortedA, tdVF, tdLcO, tdCallN, tdCallND, tdDisp1K, isFl_int, isFl_bl, isFl_str, isFl_non, isFl_seq, isFl_dk, isFl_dt, setsR, tdStIx, tdStNe, tdStPop, tdStSet, stF, stS,
  nos, List.replicate, List.map_cons, List.map_nil, List.length_cons, List.length_nil, List.cons_append, List.nil_append, List.set_cons_zero, List.set_cons_succ, List.getElem?_cons_zero, List.getElem?_cons_succ, List.getD_cons_zero, List.getD_cons_succ, wR, List.foldr_cons, List.foldr_nil, dats, cdats, opd_dat, opd_cview, it_sl, it_tm, view_fz, view_ow, view_dp, cview_fz, cview_ow, val_fz, val_ow, val_dp, val_st, D.seq.injEq, D.int.injEq, D.str.injEq, Option.map_some, Option.some.injEq, Prod.mk.injEq, List.cons.injEq, and_true, true_and, exists_eq_left', exists_and_left, exists_eq_left, exists_eq_right, rtP, rtA, rtD, rtDA, outK, outA, excK, excA, Nat.reduceAdd, Nat.reduceSub, Nat.zero_add, Bool.and_true, Bool.true_and, Bool.false_or, Bool.true_or, Bool.or_true, Bool.or_false, Bool.false_and, Bool.and_false, exists_const, and_self, exists_prop, and_assoc, TL.It.fz.injEq, TL.It.ow.injEq, TL.It.st.injEq, Function.comp_apply, D.bl.injEq, exists_eq', eq_self, reduceCtorEq, false_implies, true_implies, implies_true, forall_const, Bool.not_true, Bool.not_false, Bool.true_eq_false, Bool.false_eq_true, if_false, if_true, Bool.not_eq_true', Bool.not_eq_false', ite_false, ite_true, Bool.not_not, forall_eq, forall_eq'])
def badMot (d : D) : Bool := !isSeq d || (decide ((lenD d : Int) = 0) || !isMotOf (lenD d : Nat) d)
def askR (C3 : Addr) (d : D) (Kc : Out → Prop) (good : Nat → Wd → Prop) : Prop := (d.ok = true ∧ badMot d = true ∧ Kc (.exc C3 ["motion"] [d])) ∨ ∃ (n : Nat) (b : Bool) (w : Wd), d = .seq b (w.map .int) ∧ IsP n w ∧ (1 ≤ n ∧ n ≤ 1000) ∧ good n w
def F_need_motion (C3 : Addr) : Fn
  | [d], Kc => askR C3 d Kc fun _ w => Kc (.ret (inL w))
  | _, _ => False
def F_moved_places : Fn
  | [d], Kc => ∃ (n : Nat) (b : Bool) (w : Wd), d = .seq b (w.map .int) ∧ IsP n w ∧ n ≤ 1000 ∧ Kc (.ret (inL (movedW n w)))
  | _, _ => False
def F_all_rings : Fn
  | [d], Kc => ∃ (n : Nat) (b : Bool) (w : Wd), d = .seq b (w.map .int) ∧ IsP n w ∧ n ≤ 1000 ∧ ∀ R, Rings n w R → Kc (.ret (.seq false (R.map inL)))
  | _, _ => False
def F_rings_of (C3 : Addr) : Fn
  | [d], Kc => askR C3 d Kc fun n w => ∀ R, Rings n w R → Kc (.ret (.seq false (R.map inL)))
  | _, _ => False
def sizesW (R : List (List Int)) : List Int := R.map fun (r : List Int) => ((r.length : Nat) : Int)
def shapeW (n : Nat) (R : List (List Int)) : List Int := ((sizesW R ++ List.replicate (n - R.flatten.length) (1 : Int)).mergeSort (· ≤ ·)).reverse
def F_shape (C3 : Addr) : Fn
  | [d], Kc => askR C3 d Kc fun n w => ∀ R, Rings n w R → Kc (.ret (inL (shapeW n R)))
  | _, _ => False
/-- need_motion: ['motion'] -/
def t_need_motion (C_BadMotion : Addr) (Xc : XC) : TDS :=
  (tdSeq (tdIfS (tdOr (tdNot (tdTest (tdCallP F_is_list Xc (tdCons (tdNm 0) tdNil)))) (tdOr (tdTest (tdOp2 fEq (tdEx (tdB CLen (tdCons (tdNm 0) tdNil))) (tdEx (tdC (.int 0))))) (tdNot (tdTest (tdCallP F_is_motion_of Xc (tdCons (tdEx (tdB CLen (tdCons (tdNm 0) tdNil))) (tdCons (tdNm 0) tdNil))))))) (tdRaise C_BadMotion "motion" Xc (tfCons (tdVF 0) tfNil)) tdNext)
      (tdRet (tdListF (tdCons (tdNm 0) tdNil))))
/-- moved_places: ['motion', 'place', 'goal'] -/
def t_moved_places (Xc : XC) : TDS :=
  (tdRet (tdLc (tdEnumI (tdVF 0)) (tgT [1, 2]) (tdTest (tdEqD true (tdNm 1) (tdNm 2))) (tdVF 1) [1, 2]))
/-- all_rings: ['motion', 'found', 'seen', 'place', 'ring', 'one'] -/
def t_all_rings (Xc : XC) : TDS :=
  (tdSeq (tdPar (tdLst tfNil) tdDictA 1 2)
      (tdSeq (tdFor (tdSeqI (tdCallP F_moved_places Xc (tdCons (tdNm 0) tdNil))) (tgN 3)
      (tdIfS (tdTest (tdIn true (tdNm 3) (tdNm 2))) (tdSeq (tdAsg (tdLst (tfCons (tdVF 3) tfNil)) 4)
      (tdSeq (tdWhile (tdTest (tdEqD true (tdEx (tdC2 CIx (tdNm 0) (tdEx (tdC2 CIx (tdNm 4) (tdEx (tdNeg (tdEx (tdC (.int 1))))))))) (tdNm 3)))
      (tdApp 4 (tdC2 CIx (tdNm 0) (tdEx (tdC2 CIx (tdNm 4) (tdEx (tdNeg (tdEx (tdC (.int 1))))))))))
      (tdSeq (tdFor (tdSeqI (tdVF 4)) (tgN 5)
      (tdDPut 2 (tdC (.bl true)) (tdNm 5)))
      (tdApp 1 (tdVF 4))))) tdNext))
      (tdRet (tdVF 1))))
/-- rings_of: ['motion'] -/
def t_rings_of (C_BadMotion : Addr) (Xc : XC) : TDS :=
  (tdRet (tdCallP F_all_rings Xc (tdCons (tdEx (tdCallN (F_need_motion C_BadMotion) Xc (tfCons (tdVF 0) tfNil))) tdNil)))
/-- shape: ['motion', 'rings', 'found', 'ring', 'place'] -/
def t_shape (C_BadMotion : Addr) (Xc : XC) : TDS :=
  (tdSeq (tdAsg (tdCallN (F_rings_of C_BadMotion) Xc (tfCons (tdVF 0) tfNil)) 1)
      (tdSeq (tdAsg (tdLc (tdSeqI (tdVF 1)) (tgN 3) tdYes (tdB CLen (tdCons (tdNm 3) tdNil)) [3]) 2)
      (tdSeq (tdExt 2 (tdLc (tdRng1 (tdCons (tdEx (tdI0 (fun i j => .int (i - j)) (tdEx (tdB CLen (tdCons (tdNm 0) tdNil))) (tdEx (tdB CSum (tdCons (tdNm 2) tdNil))))) tdNil)) (tgN 4) tdYes (tdC (.int 1)) [4]))
      (tdRet (tdRevL (tdEx (tdSortedA (tdCons (tdNm 2) tdNil))))))))
theorem vc_need_motion (C3 : Addr) : ∀ ds Kc, F_need_motion C3 ds Kc → t_need_motion C3 (excA Kc) (rtP Kc) (ds.map (.fz false) ++ nos (1 - ds.length)) := by
  intro ds Kc h
  match ds, h with
  | [d], h =>
    unfold t_need_motion
    walk_at "sx"
    simp only [tdListF]
    walk_at "sx"
    rcases h with ⟨hok, hb, hk⟩ | ⟨n, b, w, rfl, hw, hn, hk⟩
    · simp only [F_is_list, outK]
      refine ⟨hok, _, rfl, fun _ => hk, fun hs => ?_⟩
      cases d with
      | seq b xs =>
        refine ⟨_, rfl, _, fEq_int _ _, _, rfl, fun _ => hk, fun he => ?_⟩
        have hl : xs.length ≤ sizeLine := (ok_seq.mp hok).1
        refine ⟨_, rfl, _, rfl, ⟨by omega, by rw [sizeLine_eq] at hl; omega⟩, hok, ?_⟩
        have hb' : isMotOf (xs.length : Nat) (.seq b xs) = false := by
          have he : decide (((xs.length : Nat) : Int) = 0) = false := he
          have hb : (!true || (decide (((xs.length : Nat) : Int) = 0) || !isMotOf (xs.length : Nat) (.seq b xs))) = true := hb
          rw [he] at hb
          simpa using hb
        simp only [outK]
        exact ⟨_, rfl, fun _ => hk, fun ht => by rw [hb'] at ht; cases ht⟩
      | _ => cases hs
    · have ow : (D.seq b (w.map .int)).ok = true := ok_ints b (by rw [hw.len, sizeLine_eq]; omega)
      have hl : (w.map D.int).length = n := by rw [List.length_map, hw.len]
      simp only [F_is_list, outK]
      refine ⟨ow, _, rfl, (fun hs => by cases hs), fun _ => ⟨_, rfl, _, fEq_int _ _, _, rfl, fun he => ?_, fun _ => ⟨_, rfl, _, rfl, ⟨by omega, by omega⟩, ow, ?_⟩⟩⟩
      · have := of_decide_eq_true he; omega
      · simp only [outK]
        rw [hl, good_of hw]
        exact ⟨_, rfl, (fun h => by cases h), fun _ => ⟨_, _, rfl, flat_all, hk⟩⟩
theorem vc_moved_places : ∀ ds Kc, F_moved_places ds Kc → t_moved_places (excK Kc) (rtP Kc) (ds.map (.fz false) ++ nos (3 - ds.length)) := by
  intro ds Kc h
  match ds, h with
  | [_], ⟨n, b, w, rfl, hw, hn, hk⟩ =>
    unfold t_moved_places
    walk_at "sx"
    have e0 : (List.mapIdx (fun i d => TL.It.fz (isFlat d) (D.seq true [.int ((i : Nat) : Int), d])) (w.map D.int)) = ((iota n).map fun i => D.seq true [.int i, .int (oImg w i)]).map fun d => .fz true d := by
      apply List.ext_getElem?
      intro i
      rw [List.getElem?_mapIdx, List.getElem?_map, List.getElem?_map, List.getElem?_map]
      by_cases hi : i < n
      · rw [iota_get hi]
        have := (hw.get (i := (i : Int)) (by omega) (by omega)).1
        have ei : ((i : Int)).toNat = i := by omega
        rw [ei] at this
        rw [this]
        show some (TL.It.fz true (D.seq true [.int i, .int (w.getD i 0)])) = some (.fz true (D.seq true [.int i, .int (w.getD ((i : Int)).toNat 0)]))
        rw [ei]
      · rw [List.getElem?_eq_none (by rw [hw.len]; omega), List.getElem?_eq_none (by rw [length_iota]; omega)]; rfl
    rw [e0]
    refine lc_dsF (g := fun _ => true) (fun r => ∃ y0 y1 y2, r = [y0, y1, y2]) (fun d => match d with | .seq _ [.int i, .int j] => !decide (j = i) | _ => false) (fun d => match d with | .seq _ (x :: _) => x | _ => .non) true (by rw [List.length_map, length_iota, sizeLine_eq]; omega) ⟨_, _, _, rfl⟩ (fun z hz' r hJ Q Rr kq kr => ?_) mono_tgT (fun h a => ?_) (fun p r hJ => ?_)
    · obtain ⟨i, hi, rfl⟩ := List.mem_map.mp hz'
      obtain ⟨y0, y1, y2, rfl⟩ := hJ
      walk_at "sx"
      refine ⟨eqOk_int _, eqOk_int _, ?_, fun _ => kq _ _ (fun _ => rfl) ⟨_, _, _, rfl⟩, fun _ => kr _ ⟨_, _, _, rfl⟩⟩
      rw [deq_ij, show decide (i = oImg w i) = decide (oImg w i = i) from decide_eq_decide.mpr eq_comm]
    · simp only [tdTest, tdEqD, tdNm] at a ⊢
      obtain ⟨h1, h2, dx, dy, e1, e2, o1, o2, nw, b, e3, z⟩ := a
      exact ⟨h1, h2, dx, dy, e1, e2, o1, o2, nw, b, e3, h _ _ z⟩
    · obtain ⟨y0, y1, y2, rfl⟩ := hJ
      rw [List.filter_map, List.map_map]
      exact ⟨_, _, rfl, rfl, hk⟩
/-- the next of a ring's last -/
theorem last_ix {r : List Int} {x : Int} (h : r[r.length - 1]? = some x) (hr : 1 ≤ r.length) (hz : r.length ≤ 1000) {b : Bool} : CIx (.seq b (r.map .int)) (.int (-1)) (.int x) := by
  show atI (r.map D.int) (-1) = some (.int x)
  unfold atI ixN
  rw [List.length_map]
  rw [if_neg (by decide), if_pos (by omega)]
  show (r.map D.int)[((-1 : Int) + (r.length : Int)).toNat]? = _
  rw [show ((-1 : Int) + (r.length : Int)).toNat = r.length - 1 by omega, List.getElem?_map, h]; rfl
def seenI (L : List Int) : D := .dk (L.map Sum.inl) (L.map fun _ => .bl true)
theorem hasK_I (L : List Int) (x : Int) : hasK (.inl x : Key) (L.map Sum.inl) = decide (x ∈ L) := by
  unfold hasK
  induction L with
  | nil => simp
  | cons y L ih =>
    rw [List.map_cons, List.any_cons, ih]
    by_cases h : x = y
    · subst h; simp
    · have : ¬ (Sum.inl y : Key) = .inl x := fun e => h (Sum.inl.inj e).symm
      simp [h, this]
theorem in_seenI (L : List Int) (x : Int) : inD (.int x) (seenI L) = some (decide (x ∈ L)) := by
  show some (hasK (.inl x : Key) (L.map Sum.inl)) = _
  rw [hasK_I]
theorem put_seenI {L : List Int} {x : Int} (h : x ∉ L) : dputI (seenI L) (.int x) (.bl true) = some (seenI (L ++ [x])) := by
  have hk : hasK (.inl x : Key) (L.map Sum.inl) = false := by rw [hasK_I]; simpa using h
  show some (D.dk _ _) = _
  congr 2
  · unfold dputK; rw [hk]; simp
  · unfold dputV; rw [hk]; simp
theorem vc_all_rings : ∀ ds Kc, F_all_rings ds Kc → t_all_rings (excK Kc) (rtP Kc) (ds.map (.fz false) ++ nos (6 - ds.length)) := by
  intro ds Kc h
  match ds, h with
  | [_], ⟨n, b, w, rfl, hw, hn, hk⟩ =>
    have zn : n ≤ sizeLine := by rw [sizeLine_eq]; omega
    unfold t_all_rings
    walk_at "sx"
    refine ⟨zle (by decide), fun p1 => ⟨false, fun p2 => ?_⟩⟩
    rw [if_neg (by simp)]
    refine ⟨n, b, w, rfl, hw, hn, ?_⟩
    simp only [outK]
    refine ⟨_, _, rfl, fun k r => ∃ R y3 y4 y5, r = [.fz false (.seq b (w.map .int)), .ow p1 true (.seq false (R.map inL)), .ow p2 true (seenI R.flatten), y3, y4, y5] ∧ RInv n w R k, ⟨[], _, _, _, rfl, .start⟩, ?_, ?_⟩
    · rintro k x _ hk' ⟨R, y3, y4, y5, rfl, inv⟩
      rw [List.getElem?_map, List.getElem?_map] at hk'
      cases hq : (movedW n w)[k]? with
      | none => rw [hq] at hk'; cases hk'
      | some p =>
      rw [hq] at hk'
      cases hk'
      obtain ⟨⟨h0, h1⟩, hm⟩ := mem_moved.mp (List.mem_of_getElem? hq)
      walk_at "sx"
      refine ⟨_, in_seenI _ _, fun hb => ?_, fun hb => ?_⟩
      · have hp : p ∉ R.flatten := of_decide_eq_false hb
        refine ⟨zle (by decide), fun p4 => ?_⟩
        refine ⟨fun m r => ∃ rg : List Int, r = [.fz false (.seq b (w.map .int)), .ow p1 true (.seq false (R.map inL)), .ow p2 true (seenI R.flatten), .fz true (.int p), .ow p4 true (.seq false (rg.map .int)), y5] ∧ Go n w p rg ∧ m = n + 1 - rg.length, ⟨_, [p], rfl, .start, rfl⟩, ?_⟩
        rintro m _ ⟨rg, rfl, g, rfl⟩
        have gl := g.len hw h0 h1
        have li := iter_in hw h0 h1 (rg.length - 1)
        have il : CIx (.seq false (rg.map .int)) (.int (-1)) (.int (iterW w (rg.length - 1) p)) := last_ix g.last g.ne (by omega)
        walk_at "sx"
        refine ⟨_, il, _, cix_int hw li.1 li.2, eqOk_int _, eqOk_int _, fun hb => ?_, fun hb => ?_⟩
        · rw [deq_ij] at hb
          have hne : oImg w (iterW w (rg.length - 1) p) ≠ p := of_decide_eq_false hb
          have g2 := g.next hne
          have gl2 := g2.len hw h0 h1
          rw [List.length_append, List.length_singleton] at gl2
          exact ⟨_, il, _, cix_int hw li.1 li.2, by rw [List.length_map, sizeLine_eq]; omega, _, by rw [List.length_append, List.length_singleton]; omega, rfl, _, by rw [List.map_append]; rfl, g2, rfl⟩
        · rw [deq_ij] at hb
          have he : oImg w (iterW w (rg.length - 1) p) = p := of_decide_eq_true hb
          have inv2 := inv.add hw hq hp g he
          have fl : (R ++ [rg]).flatten = R.flatten ++ rg := by simp
          refine ⟨fun j r => ∃ y5, r = [.fz false (.seq b (w.map .int)), .ow p1 true (.seq false (R.map inL)), .ow p2 true (seenI (R.flatten ++ rg.take j)), .fz true (.int p), .fz true (.seq false (rg.map .int)), y5], ⟨_, by rw [List.take_zero, List.append_nil]⟩, ?_, ?_⟩
          · rintro j x _ hj ⟨y5, rfl⟩
            rw [List.getElem?_map, List.getElem?_map] at hj
            cases hr : rg[j]? with
            | none => rw [hr] at hj; cases hj
            | some i =>
            rw [hr] at hj
            cases hj
            have e1 : rg.take (j + 1) = rg.take j ++ [i] := by rw [List.take_succ, hr]; rfl
            have hni : i ∉ R.flatten ++ rg.take j := by
              intro hc
              have nd := inv2.nd
              rw [fl, ← List.take_append_drop (j + 1) rg, e1, ← List.append_assoc, ← List.append_assoc] at nd
              have nd := (List.nodup_append.mp nd).1
              exact (List.nodup_append.mp nd).2.2 i hc i (by simp) rfl
            walk_at "sx"
            refine ⟨?_, by rw [put_seenI hni, e1, List.append_assoc]⟩
            show ((R.flatten ++ rg.take j).map Sum.inl).length < sizeLine
            rw [List.length_map, List.length_append, List.length_take, sizeLine_eq]
            have := inv.len.1
            omega
          · rintro _ ⟨y5, rfl⟩
            walk_at "sx"
            refine ⟨by rw [List.length_map, sizeLine_eq]; have := inv.len.2; omega, R ++ [rg], by rw [List.map_append]; rfl, ?_, inv2⟩
            rw [fl, List.length_map, List.length_map, List.take_length]
      · have hp : p ∈ R.flatten := of_decide_eq_true hb
        exact ⟨R, rfl, rfl, inv.skip hq hp⟩
    · rintro _ ⟨R, y3, y4, y5, rfl, inv⟩
      rw [List.length_map, List.length_map] at inv
      walk_at "sx"
      exact hk R inv.fin
theorem vc_rings_of (C3 : Addr) : ∀ ds Kc, F_rings_of C3 ds Kc → t_rings_of C3 (excA Kc) (rtP Kc) (ds.map (.fz false) ++ nos (1 - ds.length)) := by
  intro ds Kc h
  match ds, h with
  | [d], h =>
    unfold t_rings_of
    walk_at "sx"
    rcases h with h | ⟨n, b, w, rfl, hw, hn, hk⟩
    · exact .inl h
    · refine .inr ⟨n, b, w, rfl, hw, hn, ?_⟩
      simp only [outA]
      refine ⟨n, false, w, rfl, hw, hn.2, fun R hR => ?_⟩
      simp only [outK]
      exact hk R hR
theorem vc_shape (C3 : Addr) : ∀ ds Kc, F_shape C3 ds Kc → t_shape C3 (excA Kc) (rtP Kc) (ds.map (.fz false) ++ nos (5 - ds.length)) := by
  intro ds Kc h
  match ds, h with
  | [d], h =>
    unfold t_shape
    walk_at "sx"
    rcases h with h | ⟨n, b, w, rfl, hw, hn, hk⟩
    · exact .inl h
    · refine .inr ⟨n, b, w, rfl, hw, hn, fun R hR => ?_⟩
      simp only [outA]
      refine ⟨_, _, rfl, ?_⟩
      have inv : R.flatten.length ≤ n ∧ R.length ≤ n := by
        have a := nodup_le (m := iota n) hR.nd fun x hx => mem_iota.mpr ((hR.mem x).mp hx).1
        rw [length_iota] at a
        have := flat_len fun r hr => (hR.ring r hr).ne
        omega
      refine lc_ds (g := fun _ => true) (fun d => .int (lenD d : Nat)) true (by rw [List.length_map, sizeLine_eq]; omega) (fun z hz Q kq => ?_) mono_tgN mono_yes (fun p2 => ?_)
      · obtain ⟨r, hr, rfl⟩ := List.mem_map.mp hz
        walk_at "sx"
        exact ⟨_, rfl, kq _ _ (fun _ => rfl) (by walk_at "sx")⟩
      walk_at "sx"
      have e : (R.map inL).map (fun d => D.int (lenD d : Nat)) = (sizesW R).map .int := by
        unfold sizesW
        rw [List.map_map, List.map_map]
        apply List.map_congr_left
        intro r _
        show D.int (((r.map D.int).length : Nat) : Int) = D.int ((r.length : Nat) : Int)
        rw [List.length_map]
      have es : (sizesW R).sum = ((R.flatten.length : Nat) : Int) := by
        unfold sizesW
        clear e hk hR inv
        induction R with
        | nil => rfl
        | cons r R ih => rw [List.map_cons, List.sum_cons, ih, List.flatten_cons, List.length_append]; omega
      rw [e]
      refine ⟨_, rfl, _, ⟨_, rfl, rfl⟩, _, rfl, _, rfl, ?_⟩
      rw [es, List.length_map, hw.len]
      have ez : (((n : Nat) : Int) - ((R.flatten.length : Nat) : Int)).toNat = n - R.flatten.length := by omega
      rw [ez]
      refine ⟨by omega, by omega, ?_⟩
      have e1 : ((List.range (n - R.flatten.length)).map fun i => TL.It.fz true (.int ((i : Nat) : Int))) = ((List.range (n - R.flatten.length)).map fun i => D.int ((i : Nat) : Int)).map fun d => .fz true d := by rw [List.map_map]; rfl
      rw [e1]
      refine lc_ds (g := fun _ => true) (fun _ => .int 1) true (by rw [List.length_map, List.length_range, sizeLine_eq]; omega) (fun z hz Q kq => ?_) mono_tgN mono_yes (fun p3 => ?_)
      · obtain ⟨r, hr, rfl⟩ := List.mem_map.mp hz
        walk_at "sx"
        exact kq _ _ (fun _ => rfl) (by walk_at "sx")
      have e2 : ((List.range (n - R.flatten.length)).map fun i => D.int ((i : Nat) : Int)).map (fun _ => D.int 1) = (List.replicate (n - R.flatten.length) (1 : Int)).map .int := by
        rw [List.map_map, List.map_replicate]
        exact List.map_const' .. |>.trans (by rw [List.length_range])
      rw [e2]
      walk_at "sx"
      refine ⟨?_, ?_⟩
      · rw [List.length_map, List.length_map, List.length_replicate, sizeLine_eq]
        have : (sizesW R).length = R.length := by unfold sizesW; rw [List.length_map]
        omega
      simp only [tdRevL]
      walk_at "sx"
      refine .inl ⟨_, ⟨false, sizesW R ++ List.replicate (n - R.flatten.length) (1 : Int), by rw [List.map_append], rfl⟩, ?_⟩
      have := hk R hR
      unfold shapeW inL at this
      rw [List.map_reverse] at this
      exact this
theorem srt (l : List Int) : (l.mergeSort (· ≤ ·)).Pairwise (· ≤ ·) := by
  have := List.pairwise_mergeSort (le := fun (a b : Int) => decide (a ≤ b)) (fun a b c h h' => by simp only [decide_eq_true_eq] at *; omega) (fun a b => by simp only [Bool.or_eq_true, decide_eq_true_eq]; omega) l
  exact this.imp fun h => of_decide_eq_true h
end TL
namespace TL
open PySem PySem.Spec PyProof.Rows L2
local macro_rules | `(tactic| walk_at "sx") => `(tactic| simp only [tgN, tdYes, tdC2, tdNm, tdEx, tdV, tdC, tdRet, tdLc, tdSeqI, tdSeq, tdIfS, tdNext, tdRetN, tdDrop, tdAsg, tdPar, tdTest, tdAnd, tdOr, tdNot, tdAndV, tdOrV, tdNotV, tdIf, tdCons, tdNil, tfNil, tfCons, tdLst, tdTup, tdI0, tdI, tdOp1, tdOp2, tdEqD, tdIsN, tdIn, tdInD, tdB, tdL, tdT, tdL2, tdCallP, tdCallPD, tdCallA, tdCallD, tdCallDA, tdUnp, tgT, tdRng1, tdRng2, tdFor, tdApp, tdSetL, tdDPut, tdPop, tdPopAt, tdExt, tdAug, tdDictK, tdDictT, tdDict, tdDictA, tdDisp1T, tdListA, tdEnumI, tdZipI, tdRaise, tdIsi, tdIndex, tdLstRg1, tdLstRg2, tdTupRg1, tdSlice, tdNoP, tdSoP, tdNeg, tdForK, tdLcK, tdBreak, tdCont, tdTold, frzR, frz1, capIt, tdSpoil, tdStart, XcTell, tdSortedA, tdVF, tdLcO, tdCallN, tdCallND, tdDisp1K, isFl_int, isFl_bl, isFl_str, isFl_non, isFl_seq, isFl_dk, isFl_dt, setsR, tdStIx, tdStNe, tdStPop, tdStSet, stF, stS,
  nos, List.replicate, List.map_cons, List.map_nil, List.length_cons, List.length_nil, List.cons_append, List.nil_append, List.set_cons_zero, List.set_cons_succ, List.getElem?_cons_zero, List.getElem?_cons_succ, List.getD_cons_zero, List.getD_cons_succ, wR, List.foldr_cons, List.foldr_nil, dats, cdats, opd_dat, opd_cview, it_sl, it_tm, view_fz, view_ow, view_dp, cview_fz, cview_ow, val_fz, val_ow, val_dp, val_st, D.seq.injEq, D.int.injEq, D.str.injEq, Option.map_some, Option.some.injEq, Prod.mk.injEq, List.cons.injEq, and_true, true_and, exists_eq_left', exists_and_left, exists_eq_left, exists_eq_right, rtP, rtA, rtD, rtDA, outK, outA, excK, excA, Nat.reduceAdd, Nat.reduceSub, Nat.zero_add, Bool.and_true, Bool.true_and, Bool.false_or, Bool.true_or, Bool.or_true, Bool.or_false, Bool.false_and, Bool.and_false, exists_const, and_self, exists_prop, and_assoc, TL.It.fz.injEq, TL.It.ow.injEq, TL.It.st.injEq, Function.comp_apply, D.bl.injEq, exists_eq', eq_self, reduceCtorEq, false_implies, true_implies, implies_true, forall_const, Bool.not_true, Bool.not_false, Bool.true_eq_false, Bool.false_eq_true, if_false, if_true, Bool.not_eq_true', Bool.not_eq_false', ite_false, ite_true, Bool.not_not, forall_eq, forall_eq'])
def prodW' (ns : List Int) : Int := ns.foldl (· * ·) 1
end TL
namespace TL
open PySem PySem.Spec PyProof.Rows L2
structure AllR (n : Nat) (w : Wd) (A : List (List Int)) : Prop where
  nd : A.flatten.Nodup
  mem : ∀ i, i ∈ A.flatten ↔ 0 ≤ i ∧ i < n
  ring : ∀ r ∈ A, IsRing w r
theorem split_len {α : Type} (p : α → Bool) : ∀ l : List α, (l.filter p).length + (l.filter fun x => !p x).length = l.length
  | [] => rfl
  | x :: l => by
    have := split_len p l
    by_cases h : p x = true
    · rw [List.filter_cons_of_pos h, List.filter_cons_of_neg (by simp [h])]; simp; omega
    · rw [List.filter_cons_of_neg h, List.filter_cons_of_pos (by simpa using h)]; simp; omega
/-- the places that stay -/
theorem fixed_count {n : Nat} {w : Wd} {R : List (List Int)} (h : Rings n w R) : ((iota n).filter (perB w 1)).length = n - R.flatten.length := by
  have e1 : R.flatten.length = ((iota n).filter fun i => !perB w 1 i).length := by
    refine List.Perm.length_eq ((List.perm_ext_iff_of_nodup h.nd (nodup_iota.filter _)).mpr fun i => ?_)
    rw [List.mem_filter, h.mem, mem_iota]
    have : (!perB w 1 i) = true ↔ oImg w i ≠ i := by
      rw [Bool.not_eq_true', Bool.eq_false_iff]
      refine not_congr ?_
      rw [perB_iff]
      exact ⟨fun z => z.1, fun z => ⟨z, fun k h1 h2 => by omega⟩⟩
    rw [this]
  have := split_len (perB w 1) (iota n)
  rw [length_iota] at this
  omega
end TL
namespace TL
open PySem PySem.Spec PyProof.Rows L2
structure LInv (n : Nat) (w : Wd) (A : List (List Int)) (left : List Int) : Prop where
  nd : A.flatten.Nodup
  ring : ∀ r ∈ A, IsRing w r
  el : ∀ i ∈ A.flatten, 0 ≤ i ∧ i < n
  ln : left.Nodup
  mem : ∀ i, i ∈ left ↔ (0 ≤ i ∧ i < n) ∧ i ∉ A.flatten
theorem LInv.start {n : Nat} {w : Wd} : LInv n w [] (iota n) := ⟨by simp, (fun r h => by cases h), (fun i h => by simp at h), nodup_iota, fun i => by rw [mem_iota]; simp⟩
theorem LInv.fin {n : Nat} {w : Wd} {A : List (List Int)} (h : LInv n w A []) : AllR n w A := by
  refine ⟨h.nd, fun i => ⟨h.el i, fun hi => ?_⟩, h.ring⟩
  by_cases z : i ∈ A.flatten
  · exact z
  · have := (h.mem i).mpr ⟨hi, z⟩; cases this
/-- along a ring: rg behind, left' before -/
structure GInv (n : Nat) (w : Wd) (p : Int) (left rg left' : List Int) : Prop where
  at_ : ∀ k, k < rg.length → rg[k]? = some (iterW w k p)
  no : ∀ k, 1 ≤ k → k < rg.length → iterW w k p ≠ p
  ln : left'.Nodup
  mem : ∀ i, i ∈ left' ↔ i ∈ left ∧ i ∉ rg
theorem GInv.start {n : Nat} {w : Wd} {p : Int} {left : List Int} (h : left.Nodup) : GInv n w p left [] left := ⟨(fun k hk => by simp at hk), (fun k _ hk => by simp at hk), h, fun i => by simp⟩
theorem erase_mem {l : List Int} (h : l.Nodup) {j : Nat} {x : Int} (hj : l[j]? = some x) (i : Int) : i ∈ l.eraseIdx j ↔ i ∈ l ∧ i ≠ x := by
  have hl := (List.getElem?_eq_some_iff.mp hj).1
  have e : l = l.take j ++ x :: l.drop (j + 1) := by
    have := (List.getElem?_eq_some_iff.mp hj).2
    rw [← this]; simp
  have e2 : l.eraseIdx j = l.take j ++ l.drop (j + 1) := List.eraseIdx_eq_take_drop_succ ..
  have nd := h
  rw [e, List.nodup_append] at nd
  have nx : x ∉ l.take j := fun hc => nd.2.2 x hc x (by simp) rfl
  have nx2 : x ∉ l.drop (j + 1) := (List.nodup_cons.mp nd.2.1).1
  rw [e2, List.mem_append]
  constructor
  · rintro (z | z)
    · exact ⟨List.mem_of_mem_take z, fun e => nx (e ▸ z)⟩
    · exact ⟨List.mem_of_mem_drop z, fun e => nx2 (e ▸ z)⟩
  · rintro ⟨z, hne⟩
    rw [e] at z
    rcases List.mem_append.mp z with z | z
    · exact .inl z
    · rcases List.mem_cons.mp z with z | z
      · exact absurd z hne
      · exact .inr z
theorem GInv.next {n : Nat} {w : Wd} {p : Int} {left rg left' : List Int} (h : GInv n w p left rg left') {j : Nat} (hj : left'[j]? = some (iterW w rg.length p)) (hp : rg ≠ [] → p ∈ rg) :
    GInv n w p left (rg ++ [iterW w rg.length p]) (left'.eraseIdx j) := by
  have hx : iterW w rg.length p ∈ left' := List.mem_of_getElem? hj
  have hnr := ((h.mem _).mp hx).2
  refine ⟨fun k hk => ?_, fun k h1 h2 => ?_, h.ln.sublist (List.eraseIdx_sublist _ _), fun i => ?_⟩
  · rw [List.length_append, List.length_singleton] at hk
    by_cases z : k < rg.length
    · rw [List.getElem?_append_left z]; exact h.at_ k z
    · have : k = rg.length := by omega
      subst this
      rw [List.getElem?_append_right (Nat.le_refl _), Nat.sub_self]; rfl
  · rw [List.length_append, List.length_singleton] at h2
    by_cases z : k < rg.length
    · exact h.no k h1 z
    · have : k = rg.length := by omega
      subst this
      intro e
      rw [e] at hnr
      exact hnr (hp fun z => by rw [z] at h1; simp at h1)
  · rw [erase_mem h.ln hj, h.mem]
    simp [and_assoc]
theorem LInv.add {n : Nat} {w : Wd} {p : Int} {A : List (List Int)} {left rg left' : List Int} (hw : IsP n w) (h : LInv n w A left) (g : GInv n w p left rg left') (hp : p ∈ left) (hne : rg ≠ []) (hout : iterW w rg.length p ∉ left') : LInv n w (A ++ [rg]) left' := by
  obtain ⟨⟨h0, h1⟩, hpA⟩ := (h.mem p).mp hp
  have hl : 1 ≤ rg.length := List.length_pos_iff.mpr hne
  have go : Go n w p rg := ⟨hl, g.at_, g.no⟩
  have out : ∀ a, iterW w a p ∉ A.flatten := by
    intro a
    induction a with
    | zero => exact hpA
    | succ a ih =>
      intro hc
      obtain ⟨r', hr', hx⟩ := List.mem_flatten.mp hc
      have b := iter_in hw h0 h1 a
      exact ih (List.mem_flatten.mpr ⟨r', hr', ring_back hw (h.ring r' hr') (fun x hx => h.el x (List.mem_flatten.mpr ⟨r', hr', hx⟩)) b.1 b.2 hx⟩)
  have hin : iterW w rg.length p ∈ left := (h.mem _).mpr ⟨iter_in hw h0 h1 _, out _⟩
  have hrg : iterW w rg.length p ∈ rg := by
    by_cases z : iterW w rg.length p ∈ rg
    · exact z
    · exact absurd ((g.mem _).mpr ⟨hin, z⟩) hout
  obtain ⟨a, ha, e⟩ := go.mem hrg
  have ec := iter_cancel hw h0 h1 a (rg.length - a) (by rw [show a + (rg.length - a) = rg.length by omega]; exact e)
  have a0 : a = 0 := by
    by_cases z : a = 0
    · exact z
    · exact absurd ec (g.no _ (by omega) (by omega))
  subst a0
  have hr : IsRing w rg := ⟨hl, go.nodup hw h0 h1, p, g.at_, e⟩
  have fl : (A ++ [rg]).flatten = A.flatten ++ rg := by simp
  refine ⟨?_, fun x hx => ?_, fun i hi => ?_, g.ln, fun i => ?_⟩
  · rw [fl, List.nodup_append]
    refine ⟨h.nd, hr.nd, fun a ha b hb e => ?_⟩
    subst e
    obtain ⟨c, _, rfl⟩ := go.mem hb
    exact out c ha
  · rcases List.mem_append.mp hx with hx | hx
    · exact h.ring x hx
    · rw [List.mem_singleton.mp hx]; exact hr
  · rw [fl] at hi
    rcases List.mem_append.mp hi with hi | hi
    · exact h.el i hi
    · obtain ⟨c, _, rfl⟩ := go.mem hi
      exact iter_in hw h0 h1 c
  · rw [g.mem, h.mem, fl]
    simp [and_assoc]
end TL
namespace TL
open PySem PySem.Spec PyProof.Rows L2
local macro_rules | `(tactic| walk_at "sx") => `(tactic| simp only [tgN, tdYes, tdC2, tdNm, tdEx, tdV, tdC, tdRet, tdLc, tdSeqI, tdSeq, tdIfS, tdNext, tdRetN, tdDrop, tdAsg, tdPar, tdTest, tdAnd, tdOr, tdNot, tdAndV, tdOrV, tdNotV, tdIf, tdCons, tdNil, tfNil, tfCons, tdLst, tdTup, tdI0, tdI, tdOp1, tdOp2, tdEqD, tdIsN, tdIn, tdInD, tdB, tdL, tdT, tdL2, tdCallP, tdCallPD, tdCallA, tdCallD, tdCallDA, tdUnp, tgT, tdRng1, tdRng2, tdFor, tdApp, tdSetL, tdDPut, tdPop, tdPopAt, tdExt, tdAug, tdDictK, tdDictT, tdDict, tdDictA, tdDisp1T, tdListA, tdEnumI, tdZipI, tdRaise, tdIsi, tdIndex, tdLstRg1, tdLstRg2, tdTupRg1, tdSlice, tdNoP, tdSoP, tdNeg, tdForK, tdLcK, tdBreak, tdCont, tdTold, frzR, frz1, capIt, tdSpoil, tdStart, XcTell, tdSortedA, tdVF, tdLcO, tdCallN, tdCallND, tdDisp1K, isFl_int, isFl_bl, isFl_str, isFl_non, isFl_seq, isFl_dk, isFl_dt, setsR, tdStIx, tdStNe, tdStPop, tdStSet, stF, stS,
  nos, List.replicate, List.map_cons, List.map_nil, List.length_cons, List.length_nil, List.cons_append, List.nil_append, List.set_cons_zero, List.set_cons_succ, List.getElem?_cons_zero, List.getElem?_cons_succ, List.getD_cons_zero, List.getD_cons_succ, wR, List.foldr_cons, List.foldr_nil, dats, cdats, opd_dat, opd_cview, it_sl, it_tm, view_fz, view_ow, view_dp, cview_fz, cview_ow, val_fz, val_ow, val_dp, val_st, D.seq.injEq, D.int.injEq, D.str.injEq, Option.map_some, Option.some.injEq, Prod.mk.injEq, List.cons.injEq, and_true, true_and, exists_eq_left', exists_and_left, exists_eq_left, exists_eq_right, rtP, rtA, rtD, rtDA, outK, outA, excK, excA, Nat.reduceAdd, Nat.reduceSub, Nat.zero_add, Bool.and_true, Bool.true_and, Bool.false_or, Bool.true_or, Bool.or_true, Bool.or_false, Bool.false_and, Bool.and_false, exists_const, and_self, exists_prop, and_assoc, TL.It.fz.injEq, TL.It.ow.injEq, TL.It.st.injEq, Function.comp_apply, D.bl.injEq, exists_eq', eq_self, reduceCtorEq, false_implies, true_implies, implies_true, forall_const, Bool.not_true, Bool.not_false, Bool.true_eq_false, Bool.false_eq_true, if_false, if_true, Bool.not_eq_true', Bool.not_eq_false', ite_false, ite_true, Bool.not_not, forall_eq, forall_eq'])
end TL
namespace TL
open PySem PySem.Spec PyProof.Rows L2
local macro_rules | `(tactic| walk_at "sx") => `(tactic| simp only [tgN, tdYes, tdC2, tdNm, tdEx, tdV, tdC, tdRet, tdLc, tdSeqI, tdSeq, tdIfS, tdNext, tdRetN, tdDrop, tdAsg, tdPar, tdTest, tdAnd, tdOr, tdNot, tdAndV, tdOrV, tdNotV, tdIf, tdCons, tdNil, tfNil, tfCons, tdLst, tdTup, tdI0, tdI, tdOp1, tdOp2, tdEqD, tdIsN, tdIn, tdInD, tdB, tdL, tdT, tdL2, tdCallP, tdCallPD, tdCallA, tdCallD, tdCallDA, tdUnp, tgT, tdRng1, tdRng2, tdFor, tdApp, tdSetL, tdDPut, tdPop, tdPopAt, tdExt, tdAug, tdDictK, tdDictT, tdDict, tdDictA, tdDisp1T, tdListA, tdEnumI, tdZipI, tdRaise, tdIsi, tdIndex, tdLstRg1, tdLstRg2, tdTupRg1, tdSlice, tdNoP, tdSoP, tdNeg, tdForK, tdLcK, tdBreak, tdCont, tdTold, frzR, frz1, capIt, tdSpoil, tdStart, XcTell, tdSortedA, tdVF, tdLcO, tdCallN, tdCallND, tdDisp1K, isFl_int, isFl_bl, isFl_str, isFl_non, isFl_seq, isFl_dk, isFl_dt, setsR, tdStIx, tdStNe, tdStPop, tdStSet, stF, stS,
  nos, List.replicate, List.map_cons, List.map_nil, List.length_cons, List.length_nil, List.cons_append, List.nil_append, List.set_cons_zero, List.set_cons_succ, List.getElem?_cons_zero, List.getElem?_cons_succ, List.getD_cons_zero, List.getD_cons_succ, wR, List.foldr_cons, List.foldr_nil, dats, cdats, opd_dat, opd_cview, it_sl, it_tm, view_fz, view_ow, view_dp, cview_fz, cview_ow, val_fz, val_ow, val_dp, val_st, D.seq.injEq, D.int.injEq, D.str.injEq, Option.map_some, Option.some.injEq, Prod.mk.injEq, List.cons.injEq, and_true, true_and, exists_eq_left', exists_and_left, exists_eq_left, exists_eq_right, rtP, rtA, rtD, rtDA, outK, outA, excK, excA, Nat.reduceAdd, Nat.reduceSub, Nat.zero_add, Bool.and_true, Bool.true_and, Bool.false_or, Bool.true_or, Bool.or_true, Bool.or_false, Bool.false_and, Bool.and_false, exists_const, and_self, exists_prop, and_assoc, TL.It.fz.injEq, TL.It.ow.injEq, TL.It.st.injEq, Function.comp_apply, D.bl.injEq, exists_eq', eq_self, reduceCtorEq, false_implies, true_implies, implies_true, forall_const, Bool.not_true, Bool.not_false, Bool.true_eq_false, Bool.false_eq_true, if_false, if_true, Bool.not_eq_true', Bool.not_eq_false', ite_false, ite_true, Bool.not_not, forall_eq, forall_eq'])
end TL
namespace TL
open PySem PySem.Spec PyProof.Rows L2
local macro_rules | `(tactic| walk_at "sx") => `(tactic| simp only [tgN, tdYes, tdC2, tdNm, tdEx, tdV, tdC, tdRet, tdLc, tdSeqI, tdSeq, tdIfS, tdNext, tdRetN, tdDrop, tdAsg, tdPar, tdTest, tdAnd, tdOr, tdNot, tdAndV, tdOrV, tdNotV, tdIf, tdCons, tdNil, tfNil, tfCons, tdLst, tdTup, tdI0, tdI, tdOp1, tdOp2, tdEqD, tdIsN, tdIn, tdInD, tdB, tdL, tdT, tdL2, tdCallP, tdCallPD, tdCallA, tdCallD, tdCallDA, tdUnp, tgT, tdRng1, tdRng2, tdFor, tdApp, tdSetL, tdDPut, tdPop, tdPopAt, tdExt, tdAug, tdDictK, tdDictT, tdDict, tdDictA, tdDisp1T, tdListA, tdEnumI, tdZipI, tdRaise, tdIsi, tdIndex, tdLstRg1, tdLstRg2, tdTupRg1, tdSlice, tdNoP, tdSoP, tdNeg, tdForK, tdLcK, tdBreak, tdCont, tdTold, frzR, frz1, capIt, tdSpoil, tdStart, XcTell, tdSortedA, tdVF, tdLcO, tdCallN, tdCallND, tdDisp1K, isFl_int, isFl_bl, isFl_str, isFl_non, isFl_seq, isFl_dk, isFl_dt, setsR, tdStIx, tdStNe, tdStPop, tdStSet, stF, stS,
  nos, List.replicate, List.map_cons, List.map_nil, List.length_cons, List.length_nil, List.cons_append, List.nil_append, List.set_cons_zero, List.set_cons_succ, List.getElem?_cons_zero, List.getElem?_cons_succ, List.getD_cons_zero, List.getD_cons_succ, wR, List.foldr_cons, List.foldr_nil, dats, cdats, opd_dat, opd_cview, it_sl, it_tm, view_fz, view_ow, view_dp, cview_fz, cview_ow, val_fz, val_ow, val_dp, val_st, D.seq.injEq, D.int.injEq, D.str.injEq, Option.map_some, Option.some.injEq, Prod.mk.injEq, List.cons.injEq, and_true, true_and, exists_eq_left', exists_and_left, exists_eq_left, exists_eq_right, rtP, rtA, rtD, rtDA, outK, outA, excK, excA, Nat.reduceAdd, Nat.reduceSub, Nat.zero_add, Bool.and_true, Bool.true_and, Bool.false_or, Bool.true_or, Bool.or_true, Bool.or_false, Bool.false_and, Bool.and_false, exists_const, and_self, exists_prop, and_assoc, TL.It.fz.injEq, TL.It.ow.injEq, TL.It.st.injEq, Function.comp_apply, D.bl.injEq, exists_eq', eq_self, reduceCtorEq, false_implies, true_implies, implies_true, forall_const, Bool.not_true, Bool.not_false, Bool.true_eq_false, Bool.false_eq_true, if_false, if_true, Bool.not_eq_true', Bool.not_eq_false', ite_false, ite_true, Bool.not_not, forall_eq, forall_eq'])
def posD : D → Bool
  | .int i => decide (1 ≤ i)
  | _ => false
def geD : D → D → Bool
  | .int i, .int j => decide (j ≤ i)
  | _, _ => false
def descD (xs : List D) : Bool := (List.range (xs.length - 1)).all fun k => geD (xs.getD k .non) (xs.getD (k + 1) .non)
/-- sizes as they should be -/
def isShp (d : D) : Bool := isSeq d && (!decide ((lenD d : Int) = 0) && ((itemsD d).all posD && descD (itemsD d)))
end TL
namespace TL
open PySem PySem.Spec PyProof.Rows L2
theorem putA {X : Cx} {pn : List (Addr × Obj)} {σ : L2.St} {Ha Hb : Hp} {s : Shared} {E : Value → Shared → Prop} {D : Addr} {y v : V} {u r : Value} {Q : Unit → Shared → Prop} (hu : X.A.units + 1 < cLine) (iv : Inv X pn σ Ha s) (g : DPut Ha D y v Hb) (ry : RelV y u) (rv : RelV v r)
    (fin : ∀ s', Inv X pn σ Hb s' → Q () s') : wpAny (model X.prog X.w) X.A (dictSet D u r) Q E s := by
  rcases g with ⟨kvs, k, e, rfl, l, rfl⟩ | ⟨kvs, k, b, e, rfl, eb, l, rfl⟩
  · exact d_dictSet iv e l ry rv fin
  · cases (show u = Value.ref b from ry)
    obtain ⟨z, hd, xs, rel, dd⟩ := dt_of iv.hok e
    refine wpAny_dictSet_heap (hsz := by rw [← Paired.length rel]; exact z) (show (tupleKind (mixKind X.prog X.w)).room X.A from (by show X.A.units < cLine; omega)) (key_of iv.hok eb) dd fun hh dh sb => fin _ ?_
    obtain ⟨q, es, ep, hq, h2, h3, h4, _, h5⟩ := dh
    have lp : (putK kvs k v).length ≤ sizeLine := Nat.le_trans (length_putK kvs k v) (by omega)
    refine d_write iv (by rw [e]; trivial) sb ⟨q, hq⟩ ⟨lp, hd, _, (rel.put k eb rv).keeps fun c ys ec => ?_, q, es, ep, hq, h2, h3, h4, h5⟩
    rw [upd_ne (ne_of ec e (fun z => nomatch z))]; exact ec
def e0 (tt : Bool) : HO := if tt = true then .dT [] else .dK []
section
variable {X : Cx}
/-- {k: v for target in iter if ..}: tt: the keys are tuples -/
def tDcA (wi : TI) (g : TG) (tt : TT) (tk tv : TE) (vs : List Nat) : TE := fun σ H Q => wi σ H fun J H1 => ∃ b : Bool, ∀ D, H1 D = none → ∃ W : Nat → Nat → Hp → Prop, (∃ m, W 0 m (upd H1 D (e0 b))) ∧ ∀ i m H, W i m H →
  (J.stop i H ∧ Q (.ref D) H) ∨ (J.go i H ∧ ∃ Nx : Hp → Prop, (∀ H', Nx H' → ∃ m', m' < m ∧ W (i + 1) m' H') ∧ ∀ x H', J.yld i H x H' → g x (wipe σ vs) H' fun σ2 H2 => wipe σ2 vs = wipe σ vs ∧ tt σ2 H2 fun c H3 =>
    if c = true then tk σ2 H3 fun y H4 => tv σ2 H4 fun z H5 => ∃ H6, DPut H5 D y z H6 ∧ Nx H6 else Nx H3)
theorem pe_dcA (hu : X.A.units + 1 < cLine) {kx vx tg iter : Expr} {ifs : List Expr} {scope : Scope} {own : List (Str × Nat)} {pos : Pos} {wi : TI} {g : TG} {tt : TT} {tk tv : TE} (hc : X.calm = true) (hN : X.N.Nodup) (hi : PI X tg iter wi) (ok : BlkOk X.N X.env.scope scope own)
    (hg : ∀ (s : Shared) (H : Hp) (C : Addr) (cl : List (Str × Addr)) (fp : List Addr), PG (X.blk s H scope (compEnvC scope cl C X.env) fp) tg g)
    (ht : ∀ (s : Shared) (H : Hp) (C : Addr) (cl : List (Str × Addr)) (fp : List Addr), PTs (X.blk s H scope (compEnvC scope cl C X.env) fp) ifs tt)
    (hk : ∀ (s : Shared) (H : Hp) (C : Addr) (cl : List (Str × Addr)) (fp : List Addr), PE (X.blk s H scope (compEnvC scope cl C X.env) fp) kx tk)
    (he : ∀ (s : Shared) (H : Hp) (C : Addr) (cl : List (Str × Addr)) (fp : List Addr), PE (X.blk s H scope (compEnvC scope cl C X.env) fp) vx tv) (hs : ∀ x, foldedSetIterable iter X.env x = pure x := by intro _; rfl) :
    PE X (.DictComp kx vx [⟨tg, iter, ifs, 0⟩] scope pos) (tDcA wi g tt tk tv (own.map (·.2))) := by
  refine ⟨fun pn s σ H Q I rd => ?_⟩
  rw [arm_eval_DictComp]
  have fr : ∀ y ∈ scope.names, y.2 = .free → ∃ c, X.env.cells.lookup y.1 = some c := fun y hy e => I.ok.has _ ((ok.free y hy e).elim .inl .inr)
  refine wpAny_comprehension_free (use := none) rfl hs (closure_ok fr) ok.kind (fun y hy e => by rw [ok.uniq y hy, e]) (thn (hi.run pn s σ H _ I rd) fun xv s1 hx => thn hx fun itv s2 w2 => ?_)
  obtain ⟨it, fp, tn, J, H2, rfl, I2, T, st2, f2, b, q⟩ := w2
  refine wpAny_newObj_type (newEnv_comp ?_)
  generalize eD : s2.heap.objs.size = D
  have nD : H2 D = none := I2.hok.fresh (Nat.le_of_eq eD)
  obtain ⟨W, ⟨m0, w0⟩, turn⟩ := q D nD
  generalize esd : ({ s2 with heap := s2.heap.push { cls := .type "dict", data := .dict #[] } } : Shared) = sd
  have Id : Inv X pn σ (upd H2 D (e0 b)) sd := by
    rw [← esd]; refine I2.laid (t' := s2.toks) (fun _ _ e => Heap.get?_push_of_some _ e) (Nat.le_of_eq eD) ?_
    rw [← eD]; unfold e0; cases b
    · exact dk_empty s2.heap I2.big
    · exact dt_empty s2.heap I2.big
  have ed : sd.heap = s2.heap.push { cls := .type "dict", data := .dict #[] } := by rw [← esd]
  have fpz : ∀ b ∈ fp, b < s2.heap.objs.size := fun b hb => let ⟨o, e, _⟩ := T.obj _ _ st2 b hb; Heap.lt_size e
  have fd : ∀ c ∈ fp, FpOk X pn (upd H2 D (e0 b)) c ∧ c < sd.heap.objs.size := fun c hb =>
    ⟨⟨by rw [upd_ne (by rw [← eD]; exact Nat.ne_of_lt (fpz c hb))]; exact (f2 c hb).1, (f2 c hb).2⟩, by rw [ed, Heap.size_push]; exact Nat.lt_succ_of_lt (fpz c hb)⟩
  have std : tn 0 sd.heap := T.keep _ _ _ st2 fun _ _ o e => by rw [ed]; exact Heap.get?_push_of_some _ e
  have Is := block_start Id ok hN fd
  let cl := cellsFrom (sd.heap.objs.size + 1) scope.names (cloFrom X.env.cells scope.names [])
  have pg := hg sd (upd H2 D (e0 b)) sd.heap.objs.size cl fp
  have pt := ht sd (upd H2 D (e0 b)) sd.heap.objs.size cl fp
  have pk := hk sd (upd H2 D (e0 b)) sd.heap.objs.size cl fp
  have pe := he sd (upd H2 D (e0 b)) sd.heap.objs.size cl fp
  show codeAny _ _ (.compStart (.DictComp kx vx [⟨tg, iter, ifs, 0⟩] scope pos) 0 (.ref it) (.ref D) (compEnvC scope cl sd.heap.objs.size X.env)) (compPost (model X.prog X.w) X.A X.xe none _ (.ref D) sd.heap.objs.size) { sd with heap := pushCells (sd.heap.push { cls := .type "dict", data := .dict #[] }) scope.names }
  have nfp : ∀ c ∈ fp, (upd H2 D (e0 b)) c = none := fun c hb => (fd c hb).1.1
  change Inv (X.blk sd (upd H2 D (e0 b)) scope (compEnvC scope cl sd.heap.objs.size X.env) fp) _ _ _ _ at Is
  generalize ece : compEnvC scope cl sd.heap.objs.size X.env = ce at Is pg pt pk pe ⊢
  have cL : ce.locals = sd.heap.objs.size := by subst ece; rfl
  generalize eHd : upd H2 D (e0 b) = Hd at Id Is pg pt pk pe w0 nfp fd
  generalize es4 : ({ sd with heap := pushCells (sd.heap.push { cls := .type "dict", data := .dict #[] }) scope.names } : Shared) = sc at Is ⊢
  have stc : tn 0 sc.heap := T.keep _ _ _ std fun _ _ o e => by rw [← es4]; exact pushCells_keeps _ _ _ _ (Heap.get?_push_of_some _ e)
  have stat : ∀ {σ' : L2.St} {H' : Hp} {s' : Shared}, Inv (X.blk sd Hd scope ce fp) [] σ' H' s' → (∀ c ∈ fp, H' c = none) → ∀ c ∈ fp, FpOk (X.blk sd Hd scope ce fp) [] H' c := fun {σ' H' s'} J' hn c hb =>
    ⟨hn c hb, (J'.ok.exf c hb).1, J'.ok.exfs c hb, .inl hb, fun x z e => (J'.ok.exf c hb).2 x z e, fun p hp => by simp at hp⟩
  refine (fun lp => codeAny_compStart_dict lp (T.self X.A 0 _ _ _ stc lp)) ?_
  · exact compLoop_anyD (fun n s' => ∃ i H', Inv (X.blk sd Hd scope ce fp) [] (wipe σ (own.map (·.2))) H' s' ∧ tn i s'.heap ∧ (∀ c ∈ fp, H' c = none) ∧ W i n H') (by
      rintro n s5 ⟨i, H5, I5, st5, n5, w5⟩
      rcases turn i n H5 w5 with ⟨stop, qq⟩ | ⟨go, Nx, hNx, step⟩
      · have td := T.done (X.blk sd Hd scope ce fp) rfl rfl rfl hc i [] s5 _ H5 (fun _ _ => False) I5 (stat I5 n5) st5 stop
        refine thnF td fun r s6 ⟨hr, I6⟩ => ?_
        subst hr
        have I7 : Inv X pn σ H5 s6 := Id.call' (ch := fp) I6.os I6.base I6.hok I6.bare fun c hb => let ⟨_, a1, a2, a3, a4, a5⟩ := (fd c hb).1; ⟨a3, a1, a4, a5⟩
        have nC : H5 sd.heap.objs.size = none := by have z : H5 ce.locals = none := I6.free; rwa [cL] at z
        obtain ⟨m, hn, _⟩ := I6.loc
        have hn : s6.heap.Ns ce.locals m := hn
        rw [cL] at hn
        obtain ⟨g0, g1, g2, g3, g4, g5⟩ := Id.fpOk (Nat.le_refl _) nC
        exact ⟨m, hn, fun h'' sb => ⟨.ref D, H5, I7.turned (t' := s6.toks) (fun c o hb e => (sb.2 c hb).trans e) nC g1 g3 g4 g5, rfl, qq⟩⟩
      · have ti := T.item (X.blk sd Hd scope ce fp) rfl rfl rfl hc i [] s5 _ H5 (fun _ _ => False) I5 (stat I5 n5) st5 go
        refine thnF ti fun r s6 ⟨u, hr, h6⟩ => ?_
        subst hr
        refine thnF h6 fun _ s7 ⟨x, H7, I7, r7, y7, st7, n7⟩ => ?_
        have Ip := I7.pinned (stat I7 n7) (T.obj _ _ st7)
        refine thnF (pg.run _ s7 _ H7 x u _ Ip r7 (step x H7 y7)) fun _ s8 ⟨σ8, H8, I8, hw8, q8⟩ => ?_
        refine thnF (pt.run _ s8 σ8 H8 _ I8 q8) fun c s9 ⟨H9, I9, q9⟩ => ?_
        have fin : ∀ {s' : Shared} {H' : Hp}, Inv (X.blk sd Hd scope ce fp) ([] ++ pinsAt fp s7.heap) σ8 H' s' → Nx H' → ∃ m, m < n ∧ ∃ i H', Inv (X.blk sd Hd scope ce fp) [] (wipe σ (own.map (·.2))) H' s' ∧ tn i s'.heap ∧ (∀ c ∈ fp, H' c = none) ∧ W i m H' := fun {s' H'} J' nx => by
          obtain ⟨m', hm, w'⟩ := hNx H' nx
          have pin : ∀ c ∈ fp, ∀ o, s7.heap.get? c = some o → s'.heap.get? c = some o ∧ H' c = none := fun c hb o e =>
            let z := J'.pin (c, o) (List.mem_append_right _ (List.mem_append_right _ (mem_pinsAt hb e))); ⟨z.1, z.2.1⟩
          refine ⟨m', hm, i + 1, H', (J'.unpinned (pins := [])).weak (by rw [← hw8, wipe_length]) (fun j v e => ?_), T.keep _ _ _ st7 fun c hb o e => (pin c hb o e).1, fun c hb => ?_, w'⟩
          · rw [← hw8] at e; exact (wipe_some e).1
          · obtain ⟨o, e, _⟩ := T.obj _ _ st7 c hb; exact (pin c hb o e).2
        cases c with
        | false => rw [if_neg Bool.false_ne_true] at q9; exact fin I9 q9
        | true =>
          rw [if_pos rfl] at q9 ⊢
          refine thnF (pk.run _ s9 σ8 H9 _ I9 q9) fun z s10 ⟨yk, H10, I10, r10, q10⟩ => ?_
          refine thnF (pe.run _ s10 σ8 H10 _ I10 q10) fun z2 s11 ⟨yv, H11, I11, r11, H12, gp, nx⟩ => ?_
          exact putA (X := X.blk sd Hd scope ce fp) hu I11 gp r10 r11 fun s12 I12 => fin I12 nx) m0 ⟨0, Hd, Is, stc, nfp, w0⟩
end
def dLen : D → Nat
  | .dk ks _ => ks.length
  | .dt ks _ => ks.length
  | _ => 0
def d0 (tt : Bool) : D := if tt = true then .dt [] [] else .dk [] []
def dcB (tg : TDG) (s : TDT) (tk tv : TDE) (own : List Nat) (P : TL.It → Rho → Prop) (ys : List TL.It) (r1 : Rho) : Prop := ys.length ≤ sizeLine ∧ ∃ (tup nw : Bool) (I : Nat → D → Rho → Prop), I 0 (d0 tup) (wR own r1) ∧
  (∀ k x dd r', ys[k]? = some x → dLen dd ≤ k → I k dd r' → tg x (wR own r') fun r2 => s r2 fun b r3 => (b = true → tk r3 fun y r4 => ∃ n kd, y.view = some (n, kd) ∧ tv r4 fun z r5 => ∃ m d, z.view = some (m, d) ∧ (nw = true → m = true) ∧ ∃ dd', dputI dd kd d = some dd' ∧ I (k + 1) dd' (wR own r5)) ∧ (b = false → I (k + 1) dd (wR own r3))) ∧
  ∀ dd r', dLen dd ≤ ys.length → I ys.length dd r' → ∀ p, P (.ow p nw dd) (wR own r')
def tdDcA (ti : TDI) (tg : TDG) (s : TDT) (tk tv : TDE) (own : List Nat) : TDE := fun r P => ti r (dcB tg s tk tv own P)
def isDct : D → Bool
  | .dk _ _ => true
  | .dt _ _ => true
  | _ => false
theorem dput_len {dd kd d dd' : D} (h : dputI dd kd d = some dd') : dLen dd' ≤ dLen dd + 1 ∧ isDct dd' = true := by
  cases dd with
  | dk ks ds =>
    simp only [dputI, Option.map_eq_some_iff] at h
    obtain ⟨k, _, rfl⟩ := h
    refine ⟨?_, rfl⟩
    show (dputK k ks).length ≤ ks.length + 1
    unfold dputK
    split
    · omega
    · simp
  | dt ks ds =>
    simp only [dputI, Option.map_eq_some_iff] at h
    obtain ⟨k, _, rfl⟩ := h
    refine ⟨?_, rfl⟩
    show (dputK k ks).length ≤ ks.length + 1
    unfold dputK
    split
    · omega
    · simp
  | _ => cases h
section
variable {G0 : Bs} {te ta tb tc : TE} {t u : TDE} {tt : TT} {s : TDT}
/-- a put into the dict on top -/
theorem EnvG.putD {G H : Hp} {vs : List (Option V)} {its : List TL.It} {i : Nat} {p : Addr} {nw : Bool} {dd kd d dd' : D} {y z : V} (E : EnvG G0 G H vs its) (hi : its[i]? = some (.ow p nw dd)) (rk : Rep (fun _ => True) H y kd) (rz : Rep (nwP G0 nw) G z d) (h : dputI dd kd d = some dd') (hl : dLen dd < sizeLine) :
    ∃ H', DPut H p y z H' ∧ EnvG G0 G H' vs (its.set i (.ow p nw dd')) := by
  obtain ⟨_, ow⟩ := E.ok i _ hi
  cases dd with
  | dk ks ds =>
    obtain ⟨kvs, q1, q2, q3⟩ := ow
    simp only [dputI, Option.map_eq_some_iff] at h
    obtain ⟨kk, qk, rfl⟩ := h
    subst q2
    refine ⟨_, by rw [keyI_rep rk qk]; exact DPut.k q1 (by simpa [dLen] using hl), ?_⟩
    exact EnvG.upd_ E hi rfl ⟨_, upd_same, put_keys kk z kvs, put_vals kk rz q3⟩
  | dt ks ds =>
    obtain ⟨kvs, q1, q2, q3⟩ := ow
    simp only [dputI, Option.map_eq_some_iff] at h
    obtain ⟨kk, qk, rfl⟩ := h
    subst q2
    cases kd with
    | seq b es =>
      cases b with
      | false => cases qk
      | true =>
        cases rk with
        | tup hx rr =>
          have e := keyT_rep rr qk
          subst e
          exact ⟨_, DPut.t q1 hx (by simpa [dLen] using hl), EnvG.upd_ E hi rfl ⟨_, upd_same, put_keys kk z kvs, put_vals kk rz q3⟩⟩
    | _ => cases qk
  | _ => cases h
theorem snd_dcA {wi : TI} {ti : TDI} {g : TG} {tg : TDG} {own : List Nat} (hi : SndI G0 wi ti) (hg : SndG G0 own g tg) (ht : SndT G0 tt s) (hk : SndE G0 ta t) (hv : SndE G0 tb u) : SndE G0 (tDcA wi g tt ta tb own) (tdDcA ti tg s t u own) := by
  intro vs0 ka0 sg H r P Q hl E hp k
  refine hi vs0 ka0 sg H r _ _ hl E hp fun vs' ka' J H1 ys r1 hl' lr E1 Y hp => ?_
  have hl2 : (vs' ++ vs0).length = (ka' ++ ka0).length := by simp [hl, hl']
  have k : ∀ Dl H2 x r2, r2.length = r1.length → Env G0 H2 (some (V.ref Dl) :: ((vs' ++ vs0) ++ sg)) (x :: ((ka' ++ ka0) ++ r2)) → P x r2 → Q (.ref Dl) H2 := fun Dl H2 x r2 l2 E2 h2 => k _ H2 x r2 (l2.trans lr) (Env.dropMid hl' E2) h2
  generalize hvs : vs' ++ vs0 = vs at *
  generalize hka : ka' ++ ka0 = ka at *
  obtain ⟨hz, tup, nw, I, i0, step, fin⟩ := hp
  refine ⟨tup, fun Dl hD => ?_⟩
  let W := fun (i : Nat) (H : Hp) => ∃ r dd, (dLen dd ≤ i ∧ isDct dd = true) ∧ r.length = r1.length ∧ Env G0 H (some (.ref Dl) :: (vs ++ sg)) (.ow Dl nw dd :: (ka ++ r)) ∧ wR own r = r ∧ I i dd r
  refine ⟨fun i m H => m = ys.length - i ∧ i ≤ ys.length ∧ W i H, ⟨_, rfl, Nat.zero_le _, wR own r1, d0 tup, by unfold d0; split <;> exact ⟨Nat.le_refl _, rfl⟩, wR_length _ _, ?_, wR_wR _ _, i0⟩, ?_⟩
  · obtain ⟨G, E1⟩ := E1
    have E2 := E1.weak own (sg' := sg) hl2 rfl (fun _ _ => rfl)
    refine ⟨G, E2.pushOw (nw := nw) (d := d0 tup) hD (by unfold e0; split <;> rfl) ?_⟩
    unfold d0 e0
    cases tup
    · exact ⟨[], upd_same, rfl, .nil⟩
    · exact ⟨[], upd_same, rfl, .nil⟩
  rintro i m H2 ⟨rfl, hi', r2, dd, ⟨ha, hdc⟩, l2, E2, hw, p2⟩
  obtain ⟨y1, y2⟩ := Y i [some (.ref Dl)] [.ow Dl nw dd] sg H2 r2 rfl E2
  by_cases hlt : i < ys.length
  · have hx : ys[i]? = some ys[i] := List.getElem?_eq_getElem hlt
    obtain ⟨go, yl⟩ := y1 _ hx
    refine .inr ⟨go, W (i + 1), fun H3 w3 => ⟨ys.length - (i + 1), by omega, rfl, hlt, w3⟩, fun v H3 yv => ?_⟩
    have hl4 : (some (V.ref Dl) :: vs).length = (TL.It.ow Dl nw dd :: ka).length := by simp [hl2]
    obtain ⟨G3, E3⟩ := yl v H3 yv
    have E3w := EnvG.weak (vs := some v :: some (V.ref Dl) :: vs) (ka := ys[i] :: .ow Dl nw dd :: ka) own (sg' := wipe sg own) E3 (by simp [hl2]) (wipe_length _ _) fun j hj => wipe_out hj
    refine hg (some (V.ref Dl) :: vs) (.ow Dl nw dd :: ka) (wipe sg own) H3 (wR own r2) v _ _ _ hl4 ⟨G3, E3w⟩ (step i _ dd r2 hx ha p2) fun sg' r3 l3 out3 ls3 E4 h4 => ?_
    have same : ∀ j, j ∉ own → sg'[j]? = sg[j]? := fun j hj => (out3 j hj).trans (wipe_out hj)
    have lsg : sg'.length = sg.length := ls3.trans (wipe_length _ _)
    refine ⟨wipe_eq lsg same, ?_⟩
    refine ht _ _ sg' H3 r3 _ _ hl4 E4 h4 fun b H4 r4 l4 E5 h5 => ?_
    have back : ∀ (H : Hp) (dd : D) (r : Rho), r.length = r4.length → Env G0 H (some (V.ref Dl) :: (vs ++ sg')) (.ow Dl nw dd :: (ka ++ r)) → dLen dd ≤ i + 1 ∧ isDct dd = true → I (i + 1) dd (wR own r) → W (i + 1) H := fun H dd r lr' E la hI => by
      obtain ⟨G, E⟩ := E
      have E' := EnvG.weak (vs := some (V.ref Dl) :: vs) (ka := .ow Dl nw dd :: ka) own (sg' := sg) E (by simp [hl2]) lsg.symm fun j hj => (same j hj).symm
      exact ⟨wR own r, dd, la, by rw [wR_length, lr', l4, l3, wR_length, l2], ⟨G, E'⟩, wR_wR _ _, hI⟩
    cases b with
    | false =>
      rw [if_neg Bool.false_ne_true]
      exact back H4 dd r4 rfl E5 ⟨by omega, hdc⟩ (h5.2 rfl)
    | true =>
      rw [if_pos rfl]
      refine hk _ _ sg' H4 r4 _ _ hl4 E5 (h5.1 rfl) fun y H5 x5 r5 l5 E6 h6 => ?_
      obtain ⟨n, kd, hvk, h6⟩ := h6
      have E6 := E6.freeze0 hvk
      refine hv (some y :: some (V.ref Dl) :: vs) (.fz n kd :: .ow Dl nw dd :: ka) sg' H5 r5 _ _ (by simp [hl2]) E6 h6 fun z H6 x6 r6 l6 E7 h7 => ?_
      obtain ⟨m, d, hvz, hn, dd', hput, hI⟩ := h7
      obtain ⟨G, E7⟩ := E7.freeze0 hvz
      have rz : Rep (nwP G0 nw) G z d := (fz_val E7).imp fun a f e => f (hn e)
      have rk : Rep (fun _ => True) H6 y kd := ((fz_val E7.tail).mono E7.le).imp fun _ _ => trivial
      have dl := dput_len hput
      obtain ⟨H7, g7, E8⟩ := EnvG.putD E7.tail.tail (i := 0) rfl rk rz hput (by omega)
      exact ⟨H7, g7, back H7 dd' r6 (by rw [l6, l5]) ⟨G, E8⟩ ⟨by omega, dl.2⟩ hI⟩
  · have e : i = ys.length := by omega
    subst e
    refine .inl ⟨y2 (Nat.le_refl _), ?_⟩
    exact k Dl H2 _ r2 l2 E2 (by rw [← hw]; exact fin dd r2 ha p2 Dl)
def tdKeysI (t : TDE) : TDI := fun r P => t r fun x r1 => ∃ nw d ks, x.view = some (nw, d) ∧ (nw = true ∨ ∃ p, x = .ow p nw d) ∧ d.keys = some ks ∧ P (ks.map (.fz true)) r1
end
theorem dc_ds {tg : TDG} {s : TDT} {tk tv : TDE} {own : List Nat} {P : TL.It → Rho → Prop} {ds : List D} {g : D → Bool} {r1 : Rho} (J : Rho → Prop) (tup nw : Bool) (Dk : Nat → D) (kf vf : D → D) (hz : ds.length ≤ sizeLine) (h0 : J (wR own r1)) (hd0 : Dk 0 = d0 tup)
    (hput : ∀ i d, ds[i]? = some d → dputI (Dk i) (kf d) (vf d) = some (Dk (i + 1)))
    (h : ∀ d ∈ ds, ∀ r, J r → ∀ Q : D → Bool → D → Rho → Prop, (∀ m r5, (nw = true → m = true) → J (wR own r5) → Q (kf d) m (vf d) r5) → tg (.fz (g d) d) (wR own r) fun r2 => s r2 fun b r3 => b = true ∧ tk r3 fun y r4 => ∃ n kd, y.view = some (n, kd) ∧ tv r4 fun z r5 => ∃ m d', z.view = some (m, d') ∧ Q kd m d' r5)
    (mono : ∀ {x : TL.It} {r : Rho} {A B : Rho → Prop}, (∀ r, A r → B r) → tg x r A → tg x r B) (smono : ∀ {r : Rho} {A B : Bool → Rho → Prop}, (∀ b r, A b r → B b r) → s r A → s r B)
    (k : ∀ p r, J r → P (.ow p nw (Dk ds.length)) (wR own r)) : dcB tg s tk tv own P (ds.map fun d => .fz (g d) d) r1 := by
  refine ⟨by simpa using hz, tup, nw, fun i dd r => dd = Dk i ∧ J r, ⟨hd0.symm, h0⟩, ?_, ?_⟩
  · rintro i x dd r' hx ha ⟨rfl, hr⟩
    rw [List.getElem?_map] at hx
    cases hd : ds[i]? with
    | none => rw [hd] at hx; cases hx
    | some d =>
    rw [hd] at hx
    cases hx
    refine mono (fun r2 h2 => smono (fun b r3 h3 => ?_) h2) (h d (List.mem_of_getElem? hd) r' hr (fun kd m d' r5 => (nw = true → m = true) ∧ ∃ dd', dputI (Dk i) kd d' = some dd' ∧ dd' = Dk (i + 1) ∧ J (wR own r5)) fun m r5 h1 h2 => ⟨h1, _, hput i d hd, rfl, h2⟩)
    obtain ⟨hb, h3⟩ := h3
    exact ⟨fun _ => h3, fun e => by rw [hb] at e; cases e⟩
  · rintro dd r' _ ⟨rfl, hr⟩ p
    rw [List.length_map]
    exact k p r' hr
end TL
namespace TL
open PySem PySem.Spec PyProof.Rows L2
def perN (n : Nat) (w : Wd) (L : Nat) : Nat := ((iota n).filter (perB w L)).length
def shapeN (n : Nat) (w : Wd) : List Nat := (List.range n).reverse.flatMap fun k => List.replicate (perN n w (k + 1) / (k + 1)) (k + 1)
def shapeP (n : Nat) (w : Wd) : List Int := (shapeN n w).map fun k : Nat => ((k : Nat) : Int)
theorem count_flat (f : Nat → Nat) (L : Nat) : ∀ ks : List Nat, ks.Nodup → (ks.flatMap fun k => List.replicate (f k) (k + 1)).count L = if 1 ≤ L ∧ L - 1 ∈ ks then f (L - 1) else 0
  | [], _ => by simp
  | k :: ks, h => by
    rw [List.nodup_cons] at h
    rw [List.flatMap_cons, List.count_append, count_flat f L ks h.2, List.count_replicate]
    by_cases e : k + 1 = L
    · subst e
      rw [if_neg (show ¬(1 ≤ k + 1 ∧ k + 1 - 1 ∈ ks) from fun z => h.1 z.2), if_pos (by simp), if_pos ⟨by omega, by simp⟩]
      simp
    · rw [if_neg (by simpa using e)]
      have : (1 ≤ L ∧ L - 1 ∈ k :: ks) ↔ (1 ≤ L ∧ L - 1 ∈ ks) := by
        rw [List.mem_cons]
        constructor
        · rintro ⟨h1, h2 | h2⟩
          · omega
          · exact ⟨h1, h2⟩
        · rintro ⟨h1, h2⟩; exact ⟨h1, .inr h2⟩
      simp only [this]; omega
theorem desc_flat (f : Nat → Nat) : ∀ ks : List Nat, ks.Pairwise (fun a b => b < a) → (ks.flatMap fun k => List.replicate (f k) (k + 1)).Pairwise (fun a b => b ≤ a)
  | [], _ => .nil
  | k :: ks, h => by
    rw [List.pairwise_cons] at h
    rw [List.flatMap_cons, List.pairwise_append]
    refine ⟨?_, desc_flat f ks h.2, fun a ha b hb => ?_⟩
    · rw [List.pairwise_replicate]; exact .inr (Nat.le_refl _)
    · obtain ⟨_, rfl⟩ := List.mem_replicate.mp ha
      obtain ⟨j, hj, hb⟩ := List.mem_flatMap.mp hb
      obtain ⟨_, rfl⟩ := List.mem_replicate.mp hb
      have := h.1 j hj; omega
theorem shape_P {n : Nat} {w : Wd} {R : List (List Int)} (hR : Rings n w R) : shapeW n R = shapeP n w := by
  have p : (R.map List.length ++ List.replicate (n - R.flatten.length) 1).Perm (shapeN n w) := by
    refine List.perm_iff_count.mpr fun L => ?_
    unfold shapeN
    rw [count_flat _ _ _ ((List.reverse_perm _).nodup_iff.mpr List.nodup_range), List.count_append, List.count_replicate]
    have key : ∀ L, 2 ≤ L → (R.map List.length).count L * L = perN n w L := fun L h => ring_count hR h
    have pn : ∀ L, perN n w L ≤ n := fun L => by unfold perN; exact Nat.le_trans (List.length_filter_le _ _) (by rw [length_iota]; exact Nat.le_refl _)
    match L with
    | 0 =>
      rw [if_neg (by simp), if_neg (by simp)]
      simp only [Nat.add_zero]
      refine List.count_eq_zero.mpr fun hc => ?_
      obtain ⟨r, hr, e⟩ := List.mem_map.mp hc
      have := (hR.ring r hr).ne; omega
    | 1 =>
      have b : (R.map List.length).count 1 = 0 := List.count_eq_zero.mpr fun hc => by
        obtain ⟨r, hr, e⟩ := List.mem_map.mp hc
        have := ring_two hR r hr; omega
      rw [b, if_pos (by simp)]
      have f := fixed_count hR
      by_cases h : n = 0
      · subst h; simp
      · rw [if_pos ⟨by omega, by simp; omega⟩]
        show 0 + (n - R.flatten.length) = perN n w (1 - 1 + 1) / (1 - 1 + 1)
        rw [← f]; simp [perN]
    | L + 2 =>
      have a := key (L + 2) (by omega)
      rw [if_neg (by simp)]
      by_cases h : L + 2 ≤ n
      · rw [if_pos ⟨by omega, by simp; omega⟩]
        show _ = perN n w (L + 1 + 1) / (L + 1 + 1)
        rw [← a, Nat.mul_div_cancel _ (by omega)]; rfl
      · rw [if_neg (by simp; omega)]
        have := pn (L + 2)
        rw [← a] at this
        cases q : (R.map List.length).count (L + 2) with
        | zero => rfl
        | succ m => rw [q, Nat.succ_mul] at this; omega
  have p2 := p.map (fun k : Nat => ((k : Nat) : Int))
  rw [List.map_append, List.map_map, List.map_replicate] at p2
  unfold shapeW shapeP
  have srt2 : ((shapeN n w).map fun k : Nat => ((k : Nat) : Int)).reverse.Pairwise (· ≤ ·) := by
    rw [List.pairwise_reverse, List.pairwise_map]
    refine (desc_flat _ _ ?_).imp fun h => Int.ofNat_le.mpr h
    rw [List.pairwise_reverse]
    exact List.pairwise_lt_range
  have := sorted_unique ((List.mergeSort_perm (sizesW R ++ List.replicate (n - R.flatten.length) (1 : Int)) (· ≤ ·)).trans (p2.trans (List.reverse_perm _).symm)) (srt _) srt2
  rw [this, List.reverse_reverse]
def ddp : List Wd → List Wd
  | [] => []
  | x :: xs => if xs.contains x then ddp xs else x :: ddp xs
theorem mem_ddp {x : Wd} : ∀ {l : List Wd}, x ∈ ddp l ↔ x ∈ l
  | [] => Iff.rfl
  | y :: l => by
    unfold ddp
    split
    · rename_i h
      have h : y ∈ l := by simpa using h
      rw [mem_ddp, List.mem_cons]
      exact ⟨.inr, fun z => z.elim (fun e => e ▸ h) id⟩
    · rw [List.mem_cons, List.mem_cons, mem_ddp]
theorem nd_ddp : ∀ {l : List Wd}, (ddp l).Nodup
  | [] => .nil
  | y :: l => by
    unfold ddp
    split
    · exact nd_ddp
    · rename_i h
      refine List.nodup_cons.mpr ⟨?_, nd_ddp⟩
      rw [mem_ddp]; simpa using h
theorem shape_carried {n : Nat} {w h : Wd} (hw : IsP n w) (hh : IsP n h) : shapeP n (conjW w h) = shapeP n w := by
  have : ∀ L, perN n (conjW w h) L = perN n w L := fun L => conj_count hw hh L
  unfold shapeP shapeN
  simp only [this]
end TL
namespace TL
open PySem PySem.Spec PyProof.Rows L2
local macro_rules | `(tactic| walk_at "sx") => `(tactic| simp only [tgN, tdYes, tdC2, tdNm, tdEx, tdV, tdC, tdRet, tdLc, tdSeqI, tdSeq, tdIfS, tdNext, tdRetN, tdDrop, tdAsg, tdPar, tdTest, tdAnd, tdOr, tdNot, tdAndV, tdOrV, tdNotV, tdIf, tdCons, tdNil, tfNil, tfCons, tdLst, tdTup, tdI0, tdI, tdOp1, tdOp2, tdEqD, tdIsN, tdIn, tdInD, tdB, tdL, tdT, tdL2, tdCallP, tdCallPD, tdCallA, tdCallD, tdCallDA, tdUnp, tgT, tdRng1, tdRng2, tdFor, tdApp, tdSetL, tdDPut, tdPop, tdPopAt, tdExt, tdAug, tdDictK, tdDictT, tdDict, tdDictA, tdDisp1T, tdListA, tdEnumI, tdZipI, tdRaise, tdIsi, tdIndex, tdLstRg1, tdLstRg2, tdTupRg1, tdSlice, tdNoP, tdSoP, tdNeg, tdForK, tdLcK, tdBreak, tdCont, tdTold, frzR, frz1, capIt, tdSpoil, tdStart, XcTell, tdSortedA, tdVF, tdLcO, tdCallN, tdCallND, tdDisp1K, tdCntI, tdRemI, tdRevL, tdKeysI, tdDcA, tdListF, tdPar3, tdTupF, tdDictP, isFl_int, isFl_bl, isFl_str, isFl_non, isFl_seq, isFl_dk, isFl_dt, setsR, tdStIx, tdStNe, tdStPop, tdStSet, stF, stS,
  nos, List.replicate, List.map_cons, List.map_nil, List.length_cons, List.length_nil, List.cons_append, List.nil_append, List.set_cons_zero, List.set_cons_succ, List.getElem?_cons_zero, List.getElem?_cons_succ, List.getD_cons_zero, List.getD_cons_succ, wR, List.foldr_cons, List.foldr_nil, dats, cdats, opd_dat, opd_cview, it_sl, it_tm, view_fz, view_ow, view_dp, cview_fz, cview_ow, val_fz, val_ow, val_dp, val_st, D.seq.injEq, D.int.injEq, D.str.injEq, Option.map_some, Option.some.injEq, Prod.mk.injEq, List.cons.injEq, and_true, true_and, exists_eq_left', exists_and_left, exists_eq_left, exists_eq_right, rtP, rtA, rtD, rtDA, outK, outA, excK, excA, Nat.reduceAdd, Nat.reduceSub, Nat.zero_add, Bool.and_true, Bool.true_and, Bool.false_or, Bool.true_or, Bool.or_true, Bool.or_false, Bool.false_and, Bool.and_false, exists_const, and_self, exists_prop, and_assoc, TL.It.fz.injEq, TL.It.ow.injEq, TL.It.st.injEq, Function.comp_apply, D.bl.injEq, exists_eq', eq_self, reduceCtorEq, false_implies, true_implies, implies_true, forall_const, Bool.not_true, Bool.not_false, Bool.true_eq_false, Bool.false_eq_true, if_false, if_true, Bool.not_eq_true', Bool.not_eq_false', ite_false, ite_true, Bool.not_not, forall_eq, forall_eq'])
structure SZ (ks : List Int) : Prop where
  ne : ks ≠ []
  bd : ∀ k ∈ ks, 1 ≤ k ∧ k ≤ 9
  sm : ks.sum ≤ 9
  ln : ks.length ≤ 9
  ds : ks.Pairwise (fun a b => b ≤ a)
theorem prod_small : ∀ {l : List Int} (h : ∀ k ∈ l, 0 ≤ k ∧ k ≤ 9), 0 ≤ prodW' l ∧ prodW' l ≤ 9 ^ l.length := by
  intro l
  have key : ∀ (l : List Int) (a : Int) (m : Nat), 0 ≤ a → a ≤ 9 ^ m → (∀ k ∈ l, 0 ≤ k ∧ k ≤ 9) → 0 ≤ l.foldl (· * ·) a ∧ l.foldl (· * ·) a ≤ 9 ^ (m + l.length) := by
    intro l
    induction l with
    | nil => intro a m h0 h1 _; exact ⟨h0, h1⟩
    | cons k l ih =>
      intro a m h0 h1 h
      obtain ⟨k0, k9⟩ := h k List.mem_cons_self
      have := ih (a * k) (m + 1) (Int.mul_nonneg h0 k0) (by rw [Int.pow_succ]; exact Int.mul_le_mul h1 k9 k0 (by exact Int.le_trans h0 h1)) fun x hx => h x (List.mem_cons_of_mem _ hx)
      rw [List.foldl_cons, List.length_cons, show m + (l.length + 1) = m + 1 + l.length by omega]
      exact this
  intro h
  have := key l 1 0 (by decide) (by decide) h
  rwa [Nat.zero_add] at this
theorem SZ.prod {ks : List Int} (z : SZ ks) : 0 ≤ prodW' ks ∧ prodW' ks < 2 ^ 62 := by
  obtain ⟨h1, h2⟩ := prod_small (l := ks) fun k hk => ⟨by have := z.bd k hk; omega, (z.bd k hk).2⟩
  refine ⟨h1, Int.lt_of_le_of_lt (Int.le_trans h2 (?_ : (9 : Int) ^ ks.length ≤ 9 ^ 9)) (by decide)⟩
  have := Nat.pow_le_pow_right (n := 9) (by decide) z.ln
  exact_mod_cast this
theorem SZ.ok {ks : List Int} (z : SZ ks) (b : Bool) : (D.seq b (ks.map .int)).ok = true ∧ isShp (.seq b (ks.map .int)) = true := by
  refine ⟨ok_ints b (by have := z.ln; rw [sizeLine_eq]; omega), ?_⟩
  have e : isShp (.seq b (ks.map .int)) = (!decide ((((ks.map D.int).length : Nat) : Int) = 0) && ((ks.map D.int).all posD && descD (ks.map D.int))) := rfl
  rw [e]
  have l0 : ks.length ≠ 0 := fun h => z.ne (List.length_eq_zero_iff.mp h)
  have h1 : (ks.map D.int).all posD = true := by
    rw [List.all_map, List.all_eq_true]
    intro k hk
    exact decide_eq_true (z.bd k hk).1
  have h2 : descD (ks.map D.int) = true := by
    unfold descD
    rw [List.all_eq_true]
    intro k hk
    rw [List.mem_range, List.length_map] at hk
    have a1 : (ks.map D.int).getD k .non = .int ks[k] := by rw [List.getD_eq_getElem?_getD, List.getElem?_map, List.getElem?_eq_getElem (by omega)]; rfl
    have a2 : (ks.map D.int).getD (k + 1) .non = .int ks[k + 1] := by rw [List.getD_eq_getElem?_getD, List.getElem?_map, List.getElem?_eq_getElem (by omega)]; rfl
    rw [a1, a2]
    exact decide_eq_true (List.pairwise_iff_getElem.mp z.ds k (k + 1) (by omega) (by omega) (by omega))
  rw [h1, h2, List.length_map]
  simp [l0]
end TL
namespace TL
open PySem PySem.Spec PyProof.Rows L2
section
variable {n : Nat} {w : Wd}
theorem go_ex (hw : IsP n w) {p : Int} (h0 : 0 ≤ p) (h1 : p < n) : ∀ (f : Nat) (r : List Int), Go n w p r → n + 1 ≤ r.length + f → ∃ r', Go n w p r' ∧ oImg w (iterW w (r'.length - 1) p) = p
  | 0, r, g, hf => absurd (g.len hw h0 h1) (by omega)
  | f + 1, r, g, hf => by
    by_cases he : oImg w (iterW w (r.length - 1) p) = p
    · exact ⟨r, g, he⟩
    · exact go_ex hw h0 h1 f _ (g.next he) (by simp; omega)
theorem rings_ex (hw : IsP n w) : ∃ R, Rings n w R := by
  have key : ∀ k, k ≤ (movedW n w).length → ∃ R, RInv n w R k := by
    intro k
    induction k with
    | zero => exact fun _ => ⟨[], .start⟩
    | succ k ih =>
      intro hk
      obtain ⟨R, inv⟩ := ih (by omega)
      have hp : (movedW n w)[k]? = some (movedW n w)[k] := List.getElem?_eq_getElem (by omega)
      generalize (movedW n w)[k] = p at hp
      by_cases hi : p ∈ R.flatten
      · exact ⟨R, inv.skip hp hi⟩
      · obtain ⟨⟨h0, h1⟩, _⟩ := mem_moved.mp (List.mem_of_getElem? hp)
        obtain ⟨r, g, he⟩ := go_ex hw h0 h1 n [p] .start (by simp; omega)
        exact ⟨_, inv.add hw hp hi g he⟩
  obtain ⟨R, inv⟩ := key _ (Nat.le_refl _)
  exact ⟨R, inv.fin⟩
end
end TL
namespace TL
open PySem PySem.Spec PyProof.Rows L2
theorem okW {x : Str} {d : D} (h : (D.str x).ok = true) (hd : d.ok = true) : (D.seq false [.str x, d]).ok = true := ok_seq.mpr ⟨zle (by simp), fun y hy => by
  simp only [List.mem_cons, List.not_mem_nil, or_false] at hy
  rcases hy with rfl | rfl
  · exact h
  · exact hd⟩
theorem dptW {x : Str} {d : D} {n : Nat} (hd : d.dpt ≤ n) : (D.seq false [.str x, d]).dpt ≤ n + 1 := Nat.succ_le_succ (dpts_of fun y hy => by
  simp only [List.mem_cons, List.not_mem_nil, or_false] at hy
  rcases hy with rfl | rfl
  · exact Nat.zero_le _
  · exact hd)
theorem sameOk {d : D} (h : d.ok = true) (l : List Unit) (hl : l.length ≤ 20 := by decide) : (D.seq false (l.map fun _ => d)).ok = true ∧ (D.seq false (l.map fun _ => d)).dpt ≤ d.dpt + 1 := by
  refine ⟨ok_seq.mpr ⟨by rw [List.length_map, sizeLine_eq]; omega, fun y hy => ?_⟩, Nat.succ_le_succ (dpts_of fun y hy => ?_)⟩
  · obtain ⟨_, _, rfl⟩ := List.mem_map.mp hy; exact h
  · obtain ⟨_, _, rfl⟩ := List.mem_map.mp hy; exact Nat.le_refl _
theorem permInts {ys : List D} {w : Wd} (h : ys.Perm (w.map D.int)) : ∃ v : Wd, ys = v.map .int ∧ v.Perm w := by
  let f : D → Int := fun d => match d with | .int i => i | _ => 0
  have e : (w.map D.int).map f = w := by rw [List.map_map]; exact List.map_id w
  refine ⟨ys.map f, ?_, by rw [← e]; exact h.map f⟩
  rw [List.map_map]
  have : ys.map (D.int ∘ f) = ys.map id := List.map_congr_left fun d hd => by
    obtain ⟨i, _, rfl⟩ := List.mem_map.mp (h.mem_iff.mp hd)
    rfl
  rw [this, List.map_id]
end TL
namespace TL
open PySem PySem.Spec PyProof.Rows L2
section
variable {n : Nat} {w : Wd} {C3 : Addr}
theorem fshape {b : Bool} (hw : IsP n w) (hn : 1 ≤ n ∧ n ≤ 1000) {Kc : Out → Prop} (h : Kc (.ret (inL (shapeP n w)))) : F_shape C3 [.seq b (w.map .int)] Kc := by
  refine .inr ⟨n, b, w, rfl, hw, hn, fun R hR => ?_⟩
  rw [shape_P hR]; exact h
theorem shapeP_len (hw : IsP n w) : (shapeP n w).length ≤ n := by
  obtain ⟨R, hR⟩ := rings_ex hw
  rw [← shape_P hR]
  unfold shapeW sizesW
  rw [List.length_reverse, List.length_mergeSort, List.length_append, List.length_map, List.length_replicate]
  have h1 := flat_len fun r hr => (hR.ring r hr).ne
  have h2 : R.flatten.length ≤ n := by
    have := nodup_le (m := iota n) hR.nd fun i hi => mem_iota.mpr ((hR.mem i).mp hi).1
    rwa [length_iota] at this
  omega
end
end TL
namespace TL
open PySem PySem.Spec PyProof.Rows L2
open Classical in
noncomputable def clsW (gs : List Wd) (m : Wd) : List Wd := if h : ∃ S, IsClass gs m S then sortT (choose h) else []
theorem clsW_of {gs : List Wd} {m : Wd} {S : List Wd} (h : IsClass gs m S) : sortT S = clsW gs m := by
  have hx : ∃ S, IsClass gs m S := ⟨S, h⟩
  unfold clsW
  rw [dif_pos hx]
  have h2 := Classical.choose_spec hx
  have p : S.Perm (Classical.choose hx) := (List.perm_ext_iff_of_nodup h.nd h2.nd).mpr fun y => by rw [h.iff, h2.iff]
  exact sortT_unique ((List.mergeSort_perm S lexLe).trans p) (sortT_sorted S)
section
variable {n : Nat} {gs R : List Wd}
/-- there is a class -/
theorem class_ex (hg : ∀ g ∈ gs, IsP n g) {m : Wd} (hm : IsP n m) (hR : IsReach n gs R) : ∃ S, IsClass gs m S := by
  refine ⟨ddp (R.map (conjW m)), nd_ddp, fun y => ?_⟩
  rw [mem_ddp, List.mem_map, creach_iff hg hm]
  constructor
  · rintro ⟨h, hr, rfl⟩; exact ⟨h, (hR.iff h).mp hr, rfl⟩
  · rintro ⟨h, hr, rfl⟩; exact ⟨h, (hR.iff h).mpr hr, rfl⟩
structure ClsW (n : Nat) (gs : List Wd) (m : Wd) (L : List Wd) : Prop where
  nd : L.Nodup
  iff : ∀ y, y ∈ L ↔ CReach gs m y
  srt : L.Pairwise fun x y => HT.lexLt y x = false
theorem clsW_ok (hg : ∀ g ∈ gs, IsP n g) {m : Wd} (hm : IsP n m) (hR : IsReach n gs R) : ClsW n gs m (clsW gs m) := by
  obtain ⟨S, hS⟩ := class_ex hg hm hR
  rw [← clsW_of hS]
  exact ⟨(List.mergeSort_perm S lexLe).nodup_iff.mpr hS.nd, fun y => by rw [sort_mem, hS.iff], sortT_sorted S⟩
theorem ClsW.len (hg : ∀ g ∈ gs, IsP n g) {m : Wd} (hm : IsP n m) (hR : IsReach n gs R) {L : List Wd} (h : ClsW n gs m L) : (R.filter (comW m)).length * L.length = R.length :=
  keep_class hg hm hR ⟨h.nd, h.iff⟩
theorem ClsW.reach (hg : ∀ g ∈ gs, IsP n g) {m : Wd} (hm : IsP n m) {L : List Wd} (h : ClsW n gs m L) {y : Wd} (hy : y ∈ L) : ∃ h, Reach n gs h ∧ y = conjW m h := (creach_iff hg hm).mp ((h.iff y).mp hy)
theorem creach_back (hg : ∀ g ∈ gs, IsP n g) {m x : Wd} (hm : IsP n m) (hR : IsReach n gs R) (h : CReach gs m x) {y : Wd} (hy : CReach gs x y) : CReach gs m y := by
  obtain ⟨a, ha, rfl⟩ := (creach_iff hg hm).mp h
  have pa := ha.isP hg
  obtain ⟨b, hb, rfl⟩ := (creach_iff hg (conj_isP hm pa)).mp hy
  exact (creach_iff hg hm).mpr ⟨mulW a b, Reach.prod hg ha hb, (conj_mul hm pa (hb.isP hg)).symm⟩
theorem creach_symm (hg : ∀ g ∈ gs, IsP n g) {m x : Wd} (hm : IsP n m) (hR : IsReach n gs R) (h : CReach gs m x) : CReach gs x m := by
  obtain ⟨a, ha, rfl⟩ := (creach_iff hg hm).mp h
  have pa := ha.isP hg
  refine (creach_iff hg (conj_isP hm pa)).mpr ⟨backW a, (hR.iff _).mp (hR.back hg ((hR.iff _).mpr ha)), ?_⟩
  rw [← conj_mul hm pa pa.back, mul_back pa, conj_one hm]
noncomputable def stepC (gs : List Wd) (F : List (List Wd)) (x : Wd) : List (List Wd) := if x ∈ F.flatten then F else F ++ [clsW gs x]
noncomputable def classesW (gs : List Wd) (ks : List Wd) : List (List Wd) := ks.foldl (stepC gs) []
theorem classes_take {gs ks : List Wd} {k : Nat} {x : Wd} (h : ks[k]? = some x) : classesW gs (ks.take (k + 1)) = stepC gs (classesW gs (ks.take k)) x := by
  unfold classesW
  rw [List.take_succ, h, List.foldl_append]; rfl
structure CInv (n : Nat) (gs : List Wd) (ks : List Wd) (F : List (List Wd)) : Prop where
  nd : F.flatten.Nodup
  el : ∀ L ∈ F, ∃ m, Reach n gs m ∧ ClsW n gs m L
  has : ∀ x ∈ ks, x ∈ F.flatten
theorem CInv.reach (hg : ∀ g ∈ gs, IsP n g) (hR : IsReach n gs R) {ks : List Wd} {F : List (List Wd)} (h : CInv n gs ks F) : ∀ x ∈ F.flatten, x ∈ R := fun x hx => by
  obtain ⟨L, hL, hx⟩ := List.mem_flatten.mp hx
  obtain ⟨m, hm, c⟩ := h.el L hL
  obtain ⟨a, ha, rfl⟩ := c.reach hg (hm.isP hg) hx
  refine (hR.iff _).mpr ?_
  have rb : Reach n gs (backW a) := (hR.iff _).mp (hR.back hg ((hR.iff _).mpr ha))
  exact Reach.prod hg (Reach.prod hg rb hm) ha
theorem CInv.step (hg : ∀ g ∈ gs, IsP n g) (hR : IsReach n gs R) {ks : List Wd} {F : List (List Wd)} (h : CInv n gs ks F) {x : Wd} (hx : x ∈ R) : CInv n gs (ks ++ [x]) (stepC gs F x) := by
  have px := ((hR.iff x).mp hx).isP hg
  have c := clsW_ok hg px hR
  unfold stepC
  split
  · rename_i hm
    exact ⟨h.nd, h.el, fun y hy => by
      rcases List.mem_append.mp hy with hy | hy
      · exact h.has y hy
      · rw [List.mem_singleton.mp hy]; exact hm⟩
  · rename_i hm
    refine ⟨?_, fun L hL => ?_, fun y hy => ?_⟩
    · rw [List.flatten_append, List.flatten_singleton, List.nodup_append]
      refine ⟨h.nd, c.nd, fun a ha b hb e => ?_⟩
      subst e
      obtain ⟨L, hL, haL⟩ := List.mem_flatten.mp ha
      obtain ⟨m, rm, cm⟩ := h.el L hL
      have pm := rm.isP hg
      have h1 := (cm.iff a).mp haL
      have h2 := creach_symm hg px hR ((c.iff a).mp hb)
      exact hm (List.mem_flatten.mpr ⟨L, hL, (cm.iff x).mpr (creach_back hg pm hR h1 h2)⟩)
    · rcases List.mem_append.mp hL with hL | hL
      · exact h.el L hL
      · rw [List.mem_singleton.mp hL]; exact ⟨x, (hR.iff x).mp hx, c⟩
    · rw [List.flatten_append, List.mem_append]
      rcases List.mem_append.mp hy with hy | hy
      · exact .inl (h.has y hy)
      · rw [List.mem_singleton.mp hy, List.flatten_singleton]
        exact .inr ((c.iff x).mpr .base)
theorem classes_inv (hg : ∀ g ∈ gs, IsP n g) (hR : IsReach n gs R) : ∀ ks : List Wd, (∀ x ∈ ks, x ∈ R) → CInv n gs ks (classesW gs ks) := by
  intro ks hk
  have key : ∀ (xs done : List Wd) (F : List (List Wd)), (∀ x ∈ xs, x ∈ R) → CInv n gs done F → CInv n gs (done ++ xs) (xs.foldl (stepC gs) F) := by
    intro xs
    induction xs with
    | nil => intro done F _ h; rw [List.append_nil]; exact h
    | cons x xs ih =>
      intro done F hx h
      have := ih (done ++ [x]) (stepC gs F x) (fun y hy => hx y (List.mem_cons_of_mem _ hy)) (h.step hg hR (hx x List.mem_cons_self))
      rwa [List.append_assoc] at this
  have := key ks [] [] hk ⟨.nil, (fun L h => by cases h), fun x h => by cases h⟩
  exact this
theorem classes_sum (hg : ∀ g ∈ gs, IsP n g) (hR : IsReach n gs R) : ((classesW gs (sortT R)).map List.length).sum = R.length := by
  have inv := classes_inv hg hR (sortT R) fun x hx => sort_mem.mp hx
  rw [← List.length_flatten]
  refine List.Perm.length_eq ((List.perm_ext_iff_of_nodup inv.nd hR.nd).mpr fun x => ⟨inv.reach hg hR x, fun hx => inv.has x (sort_mem.mpr hx)⟩)
end
def upF : Int → Nat → List Int
  | _, 0 => []
  | s, k + 1 => s :: upF (s + 1) k
theorem iota_up : ∀ n : Nat, iota n = upF 0 n := by
  have key : ∀ (k : Nat) (s : Nat), (List.range k).map (fun i => ((s + i : Nat) : Int)) = upF s k := by
    intro k
    induction k with
    | zero => intro s; rfl
    | succ k ih =>
      intro s
      rw [List.range_succ_eq_map, List.map_cons, List.map_map]
      show _ :: _ = (s : Int) :: upF (s + 1) k
      have := ih (s + 1)
      rw [show ((s + 1 : Nat) : Int) = (s : Int) + 1 by omega] at this
      rw [← this]
      congr 1
      refine List.map_congr_left fun i _ => ?_
      show ((s + (i + 1) : Nat) : Int) = ((s + 1 + i : Nat) : Int)
      omega
  intro n
  rw [show (0 : Int) = ((0 : Nat) : Int) from rfl, ← key n 0]
  unfold iota
  refine List.map_congr_left fun i _ => ?_
  show ((i : Nat) : Int) = _
  omega
theorem up_least : ∀ (w : List Int) (s : Int), w.Nodup → (∀ x ∈ w, s ≤ x) → HT.lexLt w (upF s w.length) = false
  | [], _, _, _ => rfl
  | x :: w, s, hnd, hb => by
    rw [List.nodup_cons] at hnd
    show HT.lexLt (x :: w) (s :: upF (s + 1) w.length) = false
    rw [HT.lexLt_cons]
    have h1 := hb x List.mem_cons_self
    split
    · rename_i e
      refine up_least w (s + 1) hnd.2 fun y hy => ?_
      have h2 := hb y (List.mem_cons_of_mem _ hy)
      have : y ≠ x := fun z => hnd.1 (z ▸ hy)
      omega
    · exact decide_eq_false (by omega)
theorem iota_least {n : Nat} {w : Wd} (h : IsP n w) : HT.lexLt w (iota n) = false := by
  rw [iota_up, ← h.len]
  exact up_least w 0 h.nd fun x hx => (h.bd x hx).1
theorem first_iota {n : Nat} {gs R : List Wd} (hg : ∀ g ∈ gs, IsP n g) (hR : IsReach n gs R) {v : Wd} (hv : (sortT R)[0]? = some v) : v = iota n := by
  have one : iota n ∈ sortT R := sort_mem.mpr ((hR.iff _).mpr .one)
  have pv := ((hR.iff v).mp (sort_mem.mp (List.mem_of_getElem? hv))).isP hg
  obtain ⟨j, hj⟩ := List.getElem?_of_mem one
  by_cases h0 : j = 0
  · subst h0; rw [hv] at hj; exact Option.some.inj hj
  · have hs := sortT_sorted R
    rw [List.pairwise_iff_getElem] at hs
    obtain ⟨l0, e0⟩ := List.getElem?_eq_some_iff.mp hv
    obtain ⟨lj, ej⟩ := List.getElem?_eq_some_iff.mp hj
    have := hs 0 j l0 lj (by omega)
    rw [e0, ej] at this
    exact lex_asymm_eq (iota_least pv) this
theorem cls_iota {n : Nat} {gs R : List Wd} (hg : ∀ g ∈ gs, IsP n g) (hR : IsReach n gs R) : (clsW gs (iota n)).length ≤ 1 := by
  have c := clsW_ok hg .iota hR
  have : ∀ y ∈ clsW gs (iota n), y = iota n := fun y hy => by
    obtain ⟨h, hr, rfl⟩ := c.reach hg .iota hy
    have ph := hr.isP hg
    unfold conjW
    rw [mul_one ph.back, back_mul ph]
  have := nodup_le (m := [iota n]) c.nd fun y hy => by rw [this y hy]; exact List.mem_singleton.mpr rfl
  simpa using this
end TL
namespace TL
open PySem PySem.Spec PyProof.Rows L2
theorem kt_app {H : Hp} : ∀ {a : List (List Key × V)} {b : List (List Key × Addr × Value)} {c : List (List Key × V)} {d : List (List Key × Addr × Value)}, KT H a b → KT H c d → KT H (a ++ c) (b ++ d)
  | _, _, _, _, .nil, k => k
  | _, _, _, _, .cons h t, k => .cons h (kt_app t k)
theorem kt_keys {H : Hp} : ∀ {a : List (List Key × V)} {b : List (List Key × Addr × Value)}, KT H a b → a.map (·.1) = b.map (·.1)
  | _, _, .nil => rfl
  | _, _, .cons h t => by rw [List.map_cons, List.map_cons, kt_keys t, h.1]
theorem kt_mem {H : Hp} : ∀ {a : List (List Key × V)} {b : List (List Key × Addr × Value)}, KT H a b → ∀ {y}, y ∈ b → ∃ k : List Key, H y.2.1 = some (.tup (k.map kV))
  | _, _, .nil, _, hy => by cases hy
  | _, _, .cons h t, y, hy => by
    rcases List.mem_cons.mp hy with rfl | hy
    · exact ⟨_, h.2.1⟩
    · exact kt_mem t hy
def rUpdT : V → List V → Hp → VK → Prop := fun x xs H Q => ∃ (a o : Addr) (kvs more : List (List L2.Key × V)), x = .ref a ∧ xs = [.ref o] ∧ H a = some (.dT kvs) ∧ Rd H o (.dT more) ∧ a ≠ o ∧ (kvs ≠ [] ∨ more.length ≤ 1) ∧ kvs.length + more.length ≤ sizeLine ∧ ((kvs ++ more).map (·.1)).Nodup ∧ Q .non (upd H a (.dT (kvs ++ more)))
theorem mt_updT {X : Cx} (hu : X.A.units + 1 < cLine) : MtR X "dict.update" rUpdT := by
  intro pins s σ H x xs v us Q I rx rxs h
  obtain ⟨a, o, kvs, more, rfl, rfl, ha, ho, hao, he, hz, hnd, q⟩ := h
  cases rx
  obtain ⟨u, rfl, ru⟩ := vals1 rxs
  cases ru
  obtain ⟨z1, hd, ys, rel, dd⟩ := dt_of I.hok ha
  obtain ⟨z2, hd2, zs, rel2, dd2⟩ := dt_rd I.hok ho
  have l1 : kvs.length = ys.length := Paired.length rel
  have l2 : more.length = zs.length := Paired.length rel2
  have hnd2 : ((ys ++ zs).map (·.1)).Nodup := by rw [← kt_keys (kt_app rel rel2)]; exact hnd
  refine call_update_dictH (tupleKind_room_in1 hu) hao hd2 dd dd2 ?_ (by omega) fun h' dh dho sb => ?_
  · rcases he with he | he
    · refine .inl fun e => he ?_
      rw [e] at l1
      exact List.length_eq_zero_iff.mp l1
    · refine .inr ⟨fun y hy => ?_, ?_⟩
      · have : ∃ k : List Key, H y.2.1 = some (.tup (k.map kV)) := by
          exact kt_mem rel2 hy
        obtain ⟨k, hk⟩ := this
        obtain ⟨its, rv, ht, _⟩ := I.tuple (SqT.of hk)
        obtain ⟨ob, e1, e2, _⟩ := ht
        exact ⟨ob, e1, e2⟩
      · have : zs.length ≤ 1 := by omega
        match zs, this with
        | [], _ => exact .nil
        | [y], _ => exact List.pairwise_singleton _ _
  · rw [storedAllH_append_of_fresh _ _ hnd2] at dh
    obtain ⟨ob, es, ep, hq, h2, h3, h4, _, h5⟩ := dh
    have I2 : Inv X pins σ (upd H a (.dT (kvs ++ more))) { s with heap := h', toks := s.toks } :=
      d_write I (by rw [ha]; trivial) sb ⟨ob, hq⟩ ⟨by rw [List.length_append]; exact hz, hd, _, (kt_app rel rel2).keeps fun c ys ec => (by rw [upd_ne (ne_of ec ha (fun z => nomatch z))]; exact ec), ob, es, ep, hq, h2, h3, h4, h5⟩
    exact ⟨.non, _, I2, rfl, q⟩
section
variable {G0 : Bs} {te : TE} {t : TDE} {K : PySem.W.Frag}
def tdUpdT (i : Nat) (t : TDE) : TDS := fun P r => (∃ p nw ks ds, r[i]? = some (.ow p nw (.dt ks ds))) ∧ t r fun x r1 => ∃ n ks ds p nw ks0 ds0, x.view = some (n, .dt ks ds) ∧ r1[i]? = some (.ow p nw (.dt ks0 ds0)) ∧ (ks0 ≠ [] ∨ ks.length ≤ 1) ∧ ks0.length + ks.length ≤ sizeLine ∧ (ks0 ++ ks).Nodup ∧
  P.nx (r1.set i (.ow p (nw && n) (.dt (ks0 ++ ks) (ds0 ++ ds))))
theorem sns_updT {i : Nat} (h : SndE G0 te t) : SndS G0 (tDrop (tBM K "dict" rUpdT (tVar i) (tCons te tNil))) (tdUpdT i t) := by
  intro vs ka sg H r P Dn hl E hp k
  obtain ⟨⟨p, nw, ks, ds, hi⟩, hp⟩ := hp
  obtain ⟨G, E0⟩ := id E
  obtain ⟨hv, kvs, h1, _⟩ := slot_ow E0 hl hi
  refine ⟨_, hv, .inr (.inr (.inl ⟨rfl, .inr ⟨_, h1⟩⟩)), ?_⟩
  refine h vs ka sg H r _ _ hl E hp fun y H1 x r1 l1 E1 h' => ?_
  obtain ⟨n, ks, ds, p', nw, ks0, ds0, hx, hi, he, hz, hnd, h'⟩ := h'
  obtain ⟨G, E1⟩ := E1.freeze0 hx
  have ry := fz_val E1
  have E2 := E1.tail
  obtain ⟨hv', kvs0, q1, q2, q3⟩ := slot_ow E2 hl hi
  rw [hv] at hv'
  cases hv'
  cases ry with
  | @dt a more _ _ a1 a2 a3 a4 =>
    skip
    subst a3 q2
    have hne : p ≠ a := by
      rintro rfl
      have o1 := (E2.out (ka.length + i) _ p (by rw [get_app]; exact hi) (by simp [It.reg])).1
      rcases a1 with a1 | ⟨_, a1⟩ <;> rw [o1] at a1 <;> cases a1
    have hrd : Rd H1 a (.dT more) := E2.le.rd a1
    refine ⟨p, a, kvs0, more, rfl, rfl, q1, hrd, hne, ?_, by simpa using hz, by simpa using hnd, ?_⟩
    · rcases he with he | he
      · exact .inl fun e => he (by rw [e]; rfl)
      · exact .inr (by simpa using he)
    · have E5 := EnvG.upd_ (its := ka ++ r1) (i := ka.length + i) (nw' := nw && n) (d' := .dt (kvs0.map (·.1) ++ more.map (·.1)) (ds0 ++ ds)) (o := .dT (kvs0 ++ more)) E2 (by rw [get_app]; exact hi) rfl
        ⟨_, upd_same, by rw [List.map_append], by rw [List.map_append]; exact q3.nwl.append (a4.imp fun a f e => f (Bool.and_eq_true_iff.mp e).2)⟩
      rw [set_app] at E5
      exact k.nx sg _ _ ⟨G, E5⟩ h'
end
end TL
namespace TL
open PySem PySem.Spec PyProof.Rows L2
local macro_rules | `(tactic| walk_at "sx") => `(tactic| simp only [tgN, tdYes, tdC2, tdNm, tdEx, tdV, tdC, tdRet, tdLc, tdSeqI, tdSeq, tdIfS, tdNext, tdRetN, tdDrop, tdAsg, tdPar, tdTest, tdAnd, tdOr, tdNot, tdAndV, tdOrV, tdNotV, tdIf, tdCons, tdNil, tfNil, tfCons, tdLst, tdTup, tdI0, tdI, tdOp1, tdOp2, tdEqD, tdIsN, tdIn, tdInD, tdB, tdL, tdT, tdL2, tdCallP, tdCallPD, tdCallA, tdCallD, tdCallDA, tdUnp, tgT, tdRng1, tdRng2, tdFor, tdApp, tdSetL, tdDPut, tdPop, tdPopAt, tdExt, tdAug, tdDictK, tdDictT, tdDict, tdDictA, tdDisp1T, tdListA, tdEnumI, tdZipI, tdRaise, tdIsi, tdIndex, tdLstRg1, tdLstRg2, tdTupRg1, tdSlice, tdNoP, tdSoP, tdNeg, tdForK, tdLcK, tdBreak, tdCont, tdTold, frzR, frz1, capIt, tdSpoil, tdStart, XcTell, tdSortedA, tdVF, tdLcO, tdCallN, tdCallND, tdDisp1K, tdCntI, tdRemI, tdRevL, tdKeysI, tdDcA, tdUpdT, tdListF, tdPar3, tdTupF, tdDictP, isFl_int, isFl_bl, isFl_str, isFl_non, isFl_seq, isFl_dk, isFl_dt, setsR, tdStIx, tdStNe, tdStPop, tdStSet, stF, stS,
  nos, List.replicate, List.map_cons, List.map_nil, List.length_cons, List.length_nil, List.cons_append, List.nil_append, List.set_cons_zero, List.set_cons_succ, List.getElem?_cons_zero, List.getElem?_cons_succ, List.getD_cons_zero, List.getD_cons_succ, wR, List.foldr_cons, List.foldr_nil, dats, cdats, opd_dat, opd_cview, it_sl, it_tm, view_fz, view_ow, view_dp, cview_fz, cview_ow, val_fz, val_ow, val_dp, val_st, D.seq.injEq, D.int.injEq, D.str.injEq, Option.map_some, Option.some.injEq, Prod.mk.injEq, List.cons.injEq, and_true, true_and, exists_eq_left', exists_and_left, exists_eq_left, exists_eq_right, rtP, rtA, rtD, rtDA, outK, outA, excK, excA, Nat.reduceAdd, Nat.reduceSub, Nat.zero_add, Bool.and_true, Bool.true_and, Bool.false_or, Bool.true_or, Bool.or_true, Bool.or_false, Bool.false_and, Bool.and_false, exists_const, and_self, exists_prop, and_assoc, TL.It.fz.injEq, TL.It.ow.injEq, TL.It.st.injEq, Function.comp_apply, D.bl.injEq, exists_eq', eq_self, reduceCtorEq, false_implies, true_implies, implies_true, forall_const, Bool.not_true, Bool.not_false, Bool.true_eq_false, Bool.false_eq_true, if_false, if_true, Bool.not_eq_true', Bool.not_eq_false', ite_false, ite_true, Bool.not_not, forall_eq, forall_eq'])
def clsD (F : List (List Wd)) : D := .seq false (F.map fun L => .seq false (L.map inL))
def F_classes (C C2 : Addr) : Fn
  | [d], Kc => (d.ok = true ∧ ∃ i, wrongM d = some i ∧ Kc (.exc C2 ["index"] [.int (i : Nat)])) ∨ ∃ n gs, Gens d n gs ∧ ∀ R, IsReach n gs R → Kc (.ret (clsD (classesW gs (sortT R))))
  | _, _ => False
def F_law_class : Fn
  | [rd, m], Kc => ∃ (n : Nat) (gs RR : List Wd) (w : Wd), rd = seenD RR ∧ (1 ≤ n ∧ n ≤ 7) ∧ (∀ g ∈ gs, IsP n g) ∧ IsReach n gs RR ∧ m = inL w ∧ IsP n w ∧ Kc (.ret (.seq false ((clsW gs w).map inL)))
  | _, _ => False
def F_law_class_right (C C2 C3 : Addr) : FnS
  | g, [ms, rd, m], Kc => ∃ (c n : Nat) (gs RR : List Wd) (w : Wd), ms = .seq false (gs.map inL) ∧ rd = seenD RR ∧ m = inL w ∧ (gs ≠ [] ∧ gs.length ≤ 100) ∧ (1 ≤ n ∧ n ≤ 7) ∧ (∀ g ∈ gs, IsP n g) ∧ IsReach n gs RR ∧ IsP n w ∧ c < 2 ^ 38 ∧ St c g ∧ ∀ g', St (c + 102) g' → Kc g' (.ret (.bl true))
  | _, _, _ => False
/-- classes: ['motions', 'found', 'seen', 'motion', 'some', 'one'] -/
def t_classes (C_BadMany C_BadMotions : Addr) (Xc : XC) : TDS :=
  (tdSeq (tdAsg (tdLst tfNil) 1)
      (tdSeq (tdAsg tdDictA 2)
      (tdSeq (tdFor (tdSeqI (tdCallP (F_all_reached C_BadMany C_BadMotions) Xc (tdCons (tdNm 0) tdNil))) (tgN 3)
      (tdIfS (tdTest (tdIn true (tdEx (tdTupF (tdCons (tdNm 3) tdNil))) (tdNm 2))) (tdSeq (tdAsg (tdCallP F_ascending Xc (tdCons (tdEx (tdCallP F_spread_class Xc (tdCons (tdNm 0) (tdCons (tdNm 3) tdNil)))) tdNil)) 4)
      (tdSeq (tdApp 1 (tdVF 4))
      (tdUpdT 2 (tdDcA (tdSeqI (tdVF 4)) (tgN 5) tdYes (tdTupF (tdCons (tdNm 5) tdNil)) (tdC (.bl true)) [5])))) tdNext))
      (tdRet (tdVF 1)))))
/-- _law_class: ['reached', 'motion', 'found', 'key'] -/
def t_law_class (Xc : XC) : TDS :=
  (tdSeq (tdAsg tdDictA 2)
      (tdSeq (tdForK 0 (tgN 3)
      (tdDPut 2 (tdC (.bl true)) (tdEx (tdTupF (tdCons (tdEx (tdCallP F_law_then (fun _ _ _ _ => False) (tdCons (tdEx (tdCallP F_law_then (fun _ _ _ _ => False) (tdCons (tdEx (tdCallP F_law_back (fun _ _ _ _ => False) (tdCons (tdEx (tdListF (tdCons (tdNm 3) tdNil))) tdNil))) (tdCons (tdNm 1) tdNil)))) (tdCons (tdEx (tdListF (tdCons (tdNm 3) tdNil))) tdNil)))) tdNil)))))
      (tdRet (tdLc (tdSeqI (tdSortedA (tdCons (tdEx (tdListA (tdCons (tdNm 2) tdNil))) tdNil))) (tgN 3) tdYes (tdListF (tdCons (tdNm 3) tdNil)) [3]))))
/-- _law_class_right: ['state', 'motions', 'reached', 'motion', 'due', 'handed', 'before', 'found', 'one'] -/
def q1_law_class_right (C_BadMany C_BadMotions C_BadMotion : Addr) : TDS := (tdRet (tdC (.bl false)))
def q2_law_class_right (C_BadMany C_BadMotions C_BadMotion : Addr) : TDS := (tdRet (tdC (.bl false)))
def q3_law_class_right (C_BadMany C_BadMotions C_BadMotion : Addr) : TDS := (tdRet (tdB CAll (tdCons (tdEx (tdLc (tdSeqI (tdSlice (tdNm 4) tdNoP (tdSoP (tdEx (tdC (.int 3)))))) (tgN 8) tdYes (tdCallP (F_law_same 8) (fun _ _ _ _ => False) (tdCons (tdEx (tdCallN (F_shape C_BadMotion) (fun _ _ _ _ => False) (tfCons (tdCallP (F_law_copy 8) (fun _ _ _ _ => False) (tdCons (tdNm 8) tdNil)) tfNil))) (tdCons (tdEx (tdCallN (F_shape C_BadMotion) (fun _ _ _ _ => False) (tfCons (tdCallP (F_law_copy 8) (fun _ _ _ _ => False) (tdCons (tdNm 3) tdNil)) tfNil))) tdNil))) [8])) tdNil)))
def q4_law_class_right (C_BadMany C_BadMotions C_BadMotion : Addr) : TDS := (tdSeq (tdIfS (tdNot (tdTest (tdCallP (F_law_same 8) (fun _ _ _ _ => False) (tdCons (tdEx (tdCallND (F_class_of C_BadMany C_BadMotions C_BadMotion) (fun _ _ _ _ => False) (tfCons (tdC2 CIx (tdNm 5) (tdEx (tdC (.int 0)))) (tfCons (tdC2 CIx (tdNm 5) (tdEx (tdC (.int 1)))) tfNil)))) (tdCons (tdNm 4) tdNil))))) (q2_law_class_right C_BadMany C_BadMotions C_BadMotion) tdNext)
      (q3_law_class_right C_BadMany C_BadMotions C_BadMotion))
def q5_law_class_right (C_BadMany C_BadMotions C_BadMotion : Addr) : TDS := (tdSeq (tdSpoil 8 7)
      (q4_law_class_right C_BadMany C_BadMotions C_BadMotion))
def q6_law_class_right (C_BadMany C_BadMotions C_BadMotion : Addr) : TDS := (tdSeq (tdIfS (tdOr (tdNot (tdTest (tdCallP (F_law_same 8) (fun _ _ _ _ => False) (tdCons (tdNm 7) (tdCons (tdNm 4) tdNil))))) (tdOr (tdNot (tdTest (tdCallP (F_law_same 8) (fun _ _ _ _ => False) (tdCons (tdNm 5) (tdCons (tdNm 6) tdNil))))) (tdTest (tdOp2 fNe (tdEx (tdI (fun _ j => 0 < j) (fun i j => .int (i % j)) (tdEx (tdB CLenT (tdCons (tdNm 2) tdNil))) (tdEx (tdB CLen (tdCons (tdNm 4) tdNil))))) (tdEx (tdC (.int 0))))))) (q1_law_class_right C_BadMany C_BadMotions C_BadMotion) tdNext)
      (q5_law_class_right C_BadMany C_BadMotions C_BadMotion))
def q7_law_class_right (C_BadMany C_BadMotions C_BadMotion : Addr) : TDS := (tdSeq (tdAsg (tdCallND (F_class_of C_BadMany C_BadMotions C_BadMotion) (fun _ _ _ _ => False) (tfCons (tdC2 CIx (tdNm 5) (tdEx (tdC (.int 0)))) (tfCons (tdC2 CIx (tdNm 5) (tdEx (tdC (.int 1)))) tfNil))) 7)
      (q6_law_class_right C_BadMany C_BadMotions C_BadMotion))
def q8_law_class_right (C_BadMany C_BadMotions C_BadMotion : Addr) : TDS := (tdSeq (tdAsg (tdCallP (F_law_copy 8) (fun _ _ _ _ => False) (tdCons (tdNm 5) tdNil)) 6)
      (q7_law_class_right C_BadMany C_BadMotions C_BadMotion))
def q9_law_class_right (C_BadMany C_BadMotions C_BadMotion : Addr) : TDS := (tdSeq (tdPar (tdCallP F_law_class (fun _ _ _ _ => False) (tdCons (tdNm 2) (tdCons (tdNm 3) tdNil))) (tdLst (tfCons (tdCallD 0 (F_law_loose 8) (tdCons (tdNm 1) tdNil)) (tfCons (tdCallD 0 (F_law_loose 8) (tdCons (tdNm 3) tdNil)) tfNil))) 4 5)
      (q8_law_class_right C_BadMany C_BadMotions C_BadMotion))
def t_law_class_right (C_BadMany C_BadMotions C_BadMotion : Addr) : TDS :=
  (q9_law_class_right C_BadMany C_BadMotions C_BadMotion)
theorem t_law_class_right_eq (C_BadMany C_BadMotions C_BadMotion : Addr) : t_law_class_right C_BadMany C_BadMotions C_BadMotion =
  (tdSeq (tdPar (tdCallP F_law_class (fun _ _ _ _ => False) (tdCons (tdNm 2) (tdCons (tdNm 3) tdNil))) (tdLst (tfCons (tdCallD 0 (F_law_loose 8) (tdCons (tdNm 1) tdNil)) (tfCons (tdCallD 0 (F_law_loose 8) (tdCons (tdNm 3) tdNil)) tfNil))) 4 5)
      (tdSeq (tdAsg (tdCallP (F_law_copy 8) (fun _ _ _ _ => False) (tdCons (tdNm 5) tdNil)) 6)
      (tdSeq (tdAsg (tdCallND (F_class_of C_BadMany C_BadMotions C_BadMotion) (fun _ _ _ _ => False) (tfCons (tdC2 CIx (tdNm 5) (tdEx (tdC (.int 0)))) (tfCons (tdC2 CIx (tdNm 5) (tdEx (tdC (.int 1)))) tfNil))) 7)
      (tdSeq (tdIfS (tdOr (tdNot (tdTest (tdCallP (F_law_same 8) (fun _ _ _ _ => False) (tdCons (tdNm 7) (tdCons (tdNm 4) tdNil))))) (tdOr (tdNot (tdTest (tdCallP (F_law_same 8) (fun _ _ _ _ => False) (tdCons (tdNm 5) (tdCons (tdNm 6) tdNil))))) (tdTest (tdOp2 fNe (tdEx (tdI (fun _ j => 0 < j) (fun i j => .int (i % j)) (tdEx (tdB CLenT (tdCons (tdNm 2) tdNil))) (tdEx (tdB CLen (tdCons (tdNm 4) tdNil))))) (tdEx (tdC (.int 0))))))) (tdRet (tdC (.bl false))) tdNext)
      (tdSeq (tdSpoil 8 7)
      (tdSeq (tdIfS (tdNot (tdTest (tdCallP (F_law_same 8) (fun _ _ _ _ => False) (tdCons (tdEx (tdCallND (F_class_of C_BadMany C_BadMotions C_BadMotion) (fun _ _ _ _ => False) (tfCons (tdC2 CIx (tdNm 5) (tdEx (tdC (.int 0)))) (tfCons (tdC2 CIx (tdNm 5) (tdEx (tdC (.int 1)))) tfNil)))) (tdCons (tdNm 4) tdNil))))) (tdRet (tdC (.bl false))) tdNext)
      (tdRet (tdB CAll (tdCons (tdEx (tdLc (tdSeqI (tdSlice (tdNm 4) tdNoP (tdSoP (tdEx (tdC (.int 3)))))) (tgN 8) tdYes (tdCallP (F_law_same 8) (fun _ _ _ _ => False) (tdCons (tdEx (tdCallN (F_shape C_BadMotion) (fun _ _ _ _ => False) (tfCons (tdCallP (F_law_copy 8) (fun _ _ _ _ => False) (tdCons (tdNm 8) tdNil)) tfNil))) (tdCons (tdEx (tdCallN (F_shape C_BadMotion) (fun _ _ _ _ => False) (tfCons (tdCallP (F_law_copy 8) (fun _ _ _ _ => False) (tdCons (tdNm 3) tdNil)) tfNil))) tdNil))) [8])) tdNil))))))))) := rfl
theorem seen_put {L : List Wd} (hnd : L.Nodup) {k : Nat} {x : Wd} (h : L[k]? = some x) : dputI (.dt ((L.take k).map keyW) ((L.take k).map fun _ => D.bl true)) (tupD x) (.bl true) = some (.dt ((L.take (k + 1)).map keyW) ((L.take (k + 1)).map fun _ => .bl true)) := by
  have hx : x ∉ L.take k := fun hc => by
    obtain ⟨j, hj⟩ := List.getElem?_of_mem hc
    have hjk : j < k := by
      have := (List.getElem?_eq_some_iff.mp hj).1
      rw [List.length_take] at this; omega
    rw [List.getElem?_take_of_lt hjk] at hj
    have := (List.getElem?_inj (List.getElem?_eq_some_iff.mp hj).1 hnd).mp (hj.trans h.symm)
    omega
  have e : L.take (k + 1) = L.take k ++ [x] := by rw [List.take_succ, h]; rfl
  rw [e]
  exact put_seen hx
theorem few_flat {n : Nat} {gs R : List Wd} (hn : n ≤ 7) (hg : ∀ g ∈ gs, IsP n g) (hR : IsReach n gs R) {ks : List Wd} {F : List (List Wd)} (h : CInv n gs ks F) : F.flatten.length ≤ 7 ^ 7 :=
  Nat.le_trans (nodup_le h.nd (h.reach hg hR)) (reach_few hn hg hR).2
theorem few_cls {n : Nat} {gs R : List Wd} (hg : ∀ g ∈ gs, IsP n g) (hR : IsReach n gs R) {ks : List Wd} {F : List (List Wd)} (h : CInv n gs ks F) : F.length ≤ F.flatten.length := by
  have key : ∀ F : List (List Wd), (∀ L ∈ F, 1 ≤ L.length) → F.length ≤ F.flatten.length := by
    intro F
    induction F with
    | nil => intro _; exact Nat.le_refl _
    | cons L F ih =>
      intro hL
      have := ih fun L h => hL L (List.mem_cons_of_mem _ h)
      have := hL L List.mem_cons_self
      rw [List.length_cons, List.flatten_cons, List.length_append]; omega
  refine key F fun L hL => ?_
  obtain ⟨m, rm, c⟩ := h.el L hL
  exact List.length_pos_iff.mpr (List.ne_nil_of_mem ((c.iff m).mpr .base))
theorem vc_classes (C C2 : Addr) : ∀ ds Kc, F_classes C C2 ds Kc → t_classes C C2 (excK Kc) (rtP Kc) (ds.map (.fz false) ++ nos (6 - ds.length)) := by
  intro ds Kc h
  match ds, h with
  | [_], .inl ⟨hok, i, hi, hk⟩ =>
    unfold t_classes
    walk_at "sx"
    exact ⟨zle (by decide), fun p => ⟨true, fun p2 => .inl ⟨hok, i, hi, by simpa [outK, excK] using hk⟩⟩⟩
  | [_], .inr ⟨n, gs, hG, hk⟩ =>
    have hg := hG.g
    have hG0 := hG
    obtain ⟨bg, ps, rfl, hgs, h0, ⟨hn1, hn7⟩, hz, hp⟩ := hG
    unfold t_classes
    walk_at "sx"
    refine ⟨zle (by decide), fun p1 => ⟨true, fun p2 => .inr ⟨n, gs, hG0, fun R hR => ?_⟩⟩⟩
    have hk := hk R hR
    obtain ⟨hpR, hzz⟩ := reach_few hn7 hg hR
    simp only [outK]
    refine ⟨_, _, rfl, ?_⟩
    refine ⟨fun k r => ∃ y3 y4 y5, r = [.fz false (.seq bg (ps.map gD)), .ow p1 true (clsD (classesW gs ((sortT R).take k))), .ow p2 true (seenD (classesW gs ((sortT R).take k)).flatten), y3, y4, y5], ⟨_, _, _, rfl⟩, ?_, ?_⟩
    · rintro k x _ hx ⟨y3, y4, y5, rfl⟩
      rw [List.getElem?_map, List.getElem?_map] at hx
      cases hq : (sortT R)[k]? with
      | none => rw [hq] at hx; cases hx
      | some v =>
      rw [hq] at hx
      cases hx
      have hv := sort_mem.mp (List.mem_of_getElem? hq)
      have pv := hpR v hv
      have inv := classes_inv hg hR ((sortT R).take k) fun x hx => sort_mem.mp (List.mem_of_mem_take hx)
      have inv2 := classes_inv hg hR ((sortT R).take (k + 1)) fun x hx => sort_mem.mp (List.mem_of_mem_take hx)
      have fl := few_flat hn7 hg hR inv
      have fl2 := few_flat hn7 hg hR inv2
      have fc := few_cls hg hR inv
      rw [classes_take hq] at inv2 fl2
      have c := clsW_ok hg pv hR
      walk_at "sx"
      simp only [classes_take hq]
      generalize hF : classesW gs ((sortT R).take k) = F at *
      refine ⟨flat_all, _, in_seen F.flatten v _, fun hb => ?_, fun hb => ?_⟩
      · have hni := of_decide_eq_false hb
        have es : stepC gs F v = F ++ [clsW gs v] := by unfold stepC; rw [if_neg hni]
        rw [es] at inv2 fl2
        simp only [es]
        refine ⟨n, gs, false, v, hG0, rfl, pv, fun S ls hS => ?_⟩
        simp only [outK]
        have sS := clsW_of hS
        have lS : S.length ≤ 7 ^ 7 := by
          have := c.len hg pv hR
          have e : S.length = (clsW gs v).length := by rw [← sS, sort_len]
          rw [List.flatten_append, List.flatten_singleton, List.length_append] at fl2
          omega
        refine ⟨n, S, ls, rfl, ⟨hn1, by omega⟩, by rw [sizeLine_eq]; omega, fun x hx => creach_isP hg pv ((hS.iff x).mp hx), ?_⟩
        rw [sS]
        simp only [outK]
        generalize hL : clsW gs v = L at *
        have lL : L.length = S.length := by rw [← sS, sort_len]
        refine ⟨⟨_, rfl⟩, _, rfl, by rw [List.length_map, sizeLine_eq]; omega, ⟨_, _, rfl⟩, _, _, rfl, ?_⟩
        refine dc_ds (g := fun _ => true) (fun r => ∃ y5, r = [.fz false (.seq bg (ps.map gD)), .ow p1 true (clsD (F ++ [L])), .ow p2 true (seenD F.flatten), .fz true (inL v), .fz true (.seq false (L.map inL)), y5]) true true (fun k => .dt ((L.take k).map keyW) ((L.take k).map fun _ => D.bl true)) (mapW tupD) (fun _ => .bl true) (by rw [List.length_map, sizeLine_eq]; omega) ⟨_, by unfold clsD; rw [List.map_append]; rfl⟩ rfl (fun i d hd => ?_) (fun d hd r hJ Q kq => ?_) mono_tgN mono_yes (fun p r hJ => ?_)
        · rw [List.getElem?_map] at hd
          cases hq2 : L[i]? with
          | none => rw [hq2] at hd; cases hd
          | some x =>
            rw [hq2] at hd; cases hd
            rw [show mapW tupD (inL x) = tupD x from mapW_seq _ false x]
            exact seen_put c.nd hq2
        · obtain ⟨x, hx, rfl⟩ := List.mem_map.mp hd
          obtain ⟨y5, rfl⟩ := hJ
          walk_at "sx"
          rw [show mapW tupD (inL x) = tupD x from mapW_seq _ false x] at kq
          exact ⟨flat_all, kq _ _ (fun _ => rfl) ⟨_, rfl⟩⟩
        · obtain ⟨y5, rfl⟩ := hJ
          rw [List.length_map, List.take_length]
          walk_at "sx"
          refine ⟨_, _, rfl, _, _, rfl, ?_, ?_, ?_, ?_⟩
          · by_cases hk0 : k = 0
            · subst hk0
              refine .inr ?_
              rw [List.length_map, ← hL, first_iota hg hR hq]
              exact cls_iota hg hR
            · refine .inl fun e => ?_
              have e2 : F.flatten = [] := by simpa using e
              have lq : 0 < (sortT R).length := by have := (List.getElem?_eq_some_iff.mp hq).1; omega
              have h0' : (sortT R)[0]? = some (sortT R)[0] := List.getElem?_eq_getElem lq
              have : (sortT R)[0] ∈ F.flatten := inv.has _ (List.mem_of_getElem? (i := 0) (by rw [List.getElem?_take_of_lt (by omega)]; exact h0'))
              rw [e2] at this
              cases this
          · have : L.length = S.length := by rw [← sS, sort_len]
            rw [List.length_map, List.length_map, sizeLine_eq]; omega
          · rw [← List.map_append]
            have nd := inv2.nd
            rw [List.flatten_append, List.flatten_singleton] at nd
            exact nodup_map nd fun a _ b _ e => keyW_inj e
          · unfold seenD
            rw [List.flatten_append, List.flatten_singleton, List.map_append, List.map_append]
      · have hin := of_decide_eq_true hb
        have es : stepC gs F v = F := by unfold stepC; rw [if_pos hin]
        simp only [es]
        exact ⟨trivial, trivial⟩
    · rintro _ ⟨y3, y4, y5, rfl⟩
      rw [List.length_map, List.length_map, List.take_length]
      walk_at "sx"
      exact hk
theorem put_seenA (S : List Wd) (w : Wd) : dputI (seenD S) (tupD w) (.bl true) = some (seenD (if w ∈ S then S else S ++ [w])) := by
  by_cases h : w ∈ S
  · rw [if_pos h]
    have hk : hasK (keyW w) (S.map keyW) = true := by rw [hasK_W]; simpa using h
    show (tupD w).keyT.map _ = _
    rw [keyT_tup, Option.map_some]
    unfold dputK dputV seenD
    rw [if_pos hk, if_pos hk]
    congr 2
    clear h hk
    induction S with
    | nil => rfl
    | cons y S ih =>
      rw [List.map_cons, List.map_cons, List.zipWith_cons_cons, ih]
      congr 1
      split <;> rfl
  · rw [if_neg h]; exact put_seen h
theorem vc_law_class : ∀ ds Kc, F_law_class ds Kc → t_law_class (excK Kc) (rtP Kc) (ds.map (.fz false) ++ nos (4 - ds.length)) := by
  intro ds Kc h
  match ds, h with
  | [_, _], ⟨n, gs, RR, w, rfl, ⟨hn1, hn7⟩, hg, hR, rfl, hw, hk⟩ =>
    obtain ⟨hp, hz⟩ := reach_few hn7 hg hR
    have zn : n ≤ sizeLine := by rw [sizeLine_eq]; omega
    unfold t_law_class
    walk_at "sx"
    refine ⟨true, fun p2 => ⟨RR.map tupD, ?_, ?_⟩⟩
    · exact keys_seen RR (RR.map fun _ => .bl true)
    refine ⟨fun k r => noPin r = true ∧ ∃ S y3, r = [.fz false (seenD RR), .fz false (inL w), .ow p2 true (seenD S), y3] ∧ S.Nodup ∧ (∀ y, y ∈ S ↔ ∃ h ∈ RR.take k, y = conjW w h) ∧ S.length ≤ k, ⟨rfl, [], _, rfl, .nil, (fun y => by simp), Nat.le_refl _⟩, ?_, ?_⟩
    · rintro k x _ hx ⟨np, S, y3, rfl, nd, hS, lS⟩
      rw [List.getElem?_map, List.getElem?_map] at hx
      cases hq : RR[k]? with
      | none => rw [hq] at hx; cases hx
      | some h =>
      rw [hq] at hx
      cases hx
      have ph := hp h (List.mem_of_getElem? hq)
      walk_at "sx"
      refine ⟨flat_all, n, h, rfl, ph, zn, ?_⟩
      simp only [outK]
      refine ⟨n, backW h, w, rfl, rfl, ph.back, hw, zn, ?_⟩
      simp only [outK]
      refine ⟨flat_all, n, mulW (backW h) w, h, rfl, rfl, ph.back.mul hw, ph, zn, ?_⟩
      simp only [outK]
      have lk := (List.getElem?_eq_some_iff.mp hq).1
      refine ⟨_, _, rfl, flat_all, by show (S.map keyW).length < _; rw [List.length_map, sizeLine_eq]; omega, _, put_seenA S (conjW w h), by simpa [noPin, TL.It.isPin] using np, _, rfl, ?_, fun y => ?_, ?_⟩
      · split
        · exact nd
        · rename_i hni
          exact List.nodup_append.mpr ⟨nd, List.pairwise_singleton _ _, fun a ha b hb e => hni (by rw [List.mem_singleton.mp hb] at e; rw [← e]; exact ha)⟩
      · have e : (∃ g, g ∈ RR.take (k + 1) ∧ y = conjW w g) ↔ y ∈ S ∨ y = conjW w h := by
          rw [hS, List.take_succ, hq]
          constructor
          · rintro ⟨g, hg', rfl⟩
            rcases List.mem_append.mp hg' with hg' | hg'
            · exact .inl ⟨g, hg', rfl⟩
            · rw [show g = h by simpa using hg']; exact .inr rfl
          · rintro (⟨g, hg', rfl⟩ | rfl)
            · exact ⟨g, List.mem_append_left _ hg', rfl⟩
            · exact ⟨h, List.mem_append_right _ (by simp), rfl⟩
        rw [e]
        split
        · rename_i hin
          exact ⟨.inl, fun z => z.elim id fun e => e ▸ hin⟩
        · rw [List.mem_append, List.mem_singleton]
      · split
        · omega
        · rw [List.length_append, List.length_singleton]; omega
    · rintro _ ⟨np, S, y3, rfl, nd, hS, lS⟩
      rw [List.length_map, List.length_map] at lS
      rw [List.length_map, List.length_map, List.take_length] at hS
      have cS : IsClass gs w S := ⟨nd, fun y => by
        rw [hS, creach_iff hg hw]
        exact ⟨fun ⟨h, h1, h2⟩ => ⟨h, (hR.iff h).mp h1, h2⟩, fun ⟨h, h1, h2⟩ => ⟨h, (hR.iff h).mpr h1, h2⟩⟩⟩
      have pS : ∀ x ∈ S, IsP n x := fun x hx => creach_isP hg hw ((cS.iff x).mp hx)
      refine ⟨np, ?_⟩
      walk_at "sx"
      refine .inr ⟨S.map tupD, keys_seen S (S.map fun _ => .bl true), S, rfl, fun k' hk' => ?_, ?_⟩
      · have := (pS k' hk').len
        intro e
        rw [e] at this
        simp at this
        omega
      refine lc_ds (g := fun _ => true) unT true (by rw [List.length_map, sort_len, sizeLine_eq]; omega) (fun z hzm Q kq => ?_) mono_tgN mono_yes (fun p2 => ?_)
      · obtain ⟨u, hu, rfl⟩ := List.mem_map.mp hzm
        walk_at "sx"
        exact ⟨flat_all, kq _ _ (fun _ => rfl) (by walk_at "sx")⟩
      · walk_at "sx"
        rw [unT_map, clsW_of cS]
        exact hk
section
variable {C C2 C3 : Addr}
theorem q8_cr {P : TEnds} {n : Nat} {gs RR : List Wd} {w : Wd} {h0 h1 : D} {b : Bool} (hn : 1 ≤ n ∧ n ≤ 7) (hg : ∀ g ∈ gs, IsP n g) (hR : IsReach n gs RR) (hw : IsP n w) (k0 : KG n gs (.seq false (gs.map inL))) (k : KG n gs h0) (e1 : h1 = .seq b (w.map .int)) {p5 : Addr} {b1 b2 b3 b4 : Bool} {y0 y6 y7 y8 : TL.It} {n5 : Bool}
    (hx : ∀ r' : Rho, r'[0]? = some y0 → P.rt (.fz true (.bl true)) r') :
    q8_law_class_right C C2 C3 P [y0, .fz b1 (.seq false (gs.map inL)), .fz b2 (seenD RR), .fz b3 (inL w), .fz b4 (.seq false ((clsW gs w).map inL)), .ow p5 n5 (.seq false [h0, h1]), y6, y7, y8] := by
  subst e1
  unfold q8_law_class_right
  walk_at "sx"
  obtain ⟨hp, hz⟩ := reach_few hn.2 hg hR
  have c := clsW_ok hg hw hR
  have hL : ∀ x ∈ clsW gs w, IsP n x := fun x hx => creach_isP hg hw ((c.iff x).mp hx)
  have ml := c.len hg hw hR
  have hne : clsW gs w ≠ [] := List.ne_nil_of_mem ((c.iff w).mpr .base)
  have hl1 : 1 ≤ (clsW gs w).length := List.length_pos_iff.mpr hne
  have hLz : (clsW gs w).length ≤ 7 ^ 7 := Nat.le_trans (few c.nd hL) (by
    obtain ⟨_, n7⟩ := hn
    match n, n7 with
    | 0, _ | 1, _ | 2, _ | 3, _ | 4, _ | 5, _ | 6, _ | 7, _ => decide)
  obtain ⟨l1, l2, l3, l4⟩ := list_ok hn.2 hL hLz
  generalize hLL : clsW gs w = LL at *
  have ow : (D.seq b (w.map .int)).ok = true := ok_ints b (by rw [hw.len, sizeLine_eq]; omega)
  have dw : (D.seq b (w.map .int)).dpt ≤ 1 := dpt_flat flat_ints
  have oh : (D.seq false [h0, D.seq b (w.map .int)]).ok = true := ok_seq.mpr ⟨zle (by simp), fun y hy => by
    simp only [List.mem_cons, List.not_mem_nil, or_false] at hy
    rcases hy with rfl | rfl
    · exact k.okE.1
    · exact ow⟩
  have dh : (D.seq false [h0, D.seq b (w.map .int)]).dpt ≤ 3 := Nat.succ_le_succ (dpts_of fun y hy => by
    simp only [List.mem_cons, List.not_mem_nil, or_false] at hy
    rcases hy with rfl | rfl
    · exact k.okE.2
    · omega)
  have hF : ∀ {Kc' : Out → Prop}, Kc' (.ret (.seq false (LL.map inL))) → F_class_of C C2 C3 [h0, .seq b (w.map .int)] Kc' := fun h => .inr ⟨n, gs, k.gens, ow, .inr ⟨b, w, rfl, hw, fun S hS => by rw [clsW_of hS, hLL]; exact h⟩⟩
  refine ⟨oh, Nat.lt_of_le_of_lt dh (by decide), ?_⟩
  simp only [outK]
  unfold q7_law_class_right
  walk_at "sx"
  have i0 : CIx (D.seq false [h0, D.seq b (w.map .int)]) (.int 0) h0 := cix_nat (i := 0) rfl
  have i1 : CIx (D.seq false [h0, D.seq b (w.map .int)]) (.int 1) (D.seq b (w.map .int)) := cix_nat (i := 1) rfl
  refine ⟨_, i0, _, i1, ?_⟩
  refine hF ?_
  simp only [outA]
  intro S
  unfold q6_law_class_right q1_law_class_right
  walk_at "sx"
  refine yes8 l1 (Nat.lt_of_le_of_lt l2 (by decide)) ⟨true, rfl, (fun h => by cases h), fun _ => ?_⟩
  refine yes8 oh (Nat.lt_of_le_of_lt dh (by decide)) ⟨true, rfl, (fun h => by cases h), fun _ => ?_⟩
  have hdiv : ((RR.map keyW).length : Int) % (((LL.map inL).length : Nat) : Int) = 0 := by
    rw [List.length_map, List.length_map, ← ml, Int.natCast_mul]
    exact Int.mul_emod_left _ _
  refine ⟨_, rfl, _, rfl, _, rfl, _, rfl, by rw [List.length_map]; omega, _, fNe_int _ _, _, rfl, fun hb => ?_, fun _ => ?_⟩
  · rw [hdiv] at hb; cases hb
  unfold q5_law_class_right
  walk_at "sx"
  refine ⟨S, _, rfl, l3, Nat.lt_of_le_of_lt l2 (by decide), l4, ?_⟩
  unfold q4_law_class_right q2_law_class_right
  walk_at "sx"
  refine ⟨_, i0, _, i1, hF ?_⟩
  simp only [outA]
  refine yes8 l1 (Nat.lt_of_le_of_lt l2 (by decide)) ⟨true, rfl, (fun h => by cases h), fun _ => ?_⟩
  unfold q3_law_class_right
  walk_at "sx"
  obtain ⟨m, em⟩ : ∃ m, cutD (LL.map inL) none (some 3) = (LL.take m).map inL := ⟨_, by
    unfold cutD
    rw [List.map_take]
    rfl⟩
  rw [em]
  refine lc_ds (g := fun d => b4 || isFlat d) (fun _ => .bl true) true (by rw [List.length_map, List.length_take, sizeLine_eq]; omega) (fun z hzm Q kq => ?_) mono_tgN mono_yes (fun p2 => ?_)
  · obtain ⟨u, hu, rfl⟩ := List.mem_map.mp hzm
    have hu := List.mem_of_mem_take hu
    have pu := hL u hu
    have ou : (inL u).ok = true := ok_ints false (by rw [pu.len, sizeLine_eq]; omega)
    have ow2 : (inL w).ok = true := ok_ints false (by rw [hw.len, sizeLine_eq]; omega)
    walk_at "sx"
    refine ⟨ou, Nat.lt_of_le_of_lt (dpt_flat flat_ints) (by decide), ?_⟩
    simp only [outK]
    refine fshape pu ⟨hn.1, by omega⟩ ?_
    simp only [outA]
    refine ⟨ow2, Nat.lt_of_le_of_lt (dpt_flat flat_ints) (by decide), ?_⟩
    simp only [outK]
    refine fshape hw ⟨hn.1, by omega⟩ ?_
    simp only [outA]
    obtain ⟨g, hg1, rfl⟩ := c.reach hg hw hu
    rw [shape_carried hw (hg1.isP hg)]
    have sl := shapeP_len hw
    exact yes8 (ok_ints false (by rw [sizeLine_eq]; omega)) (Nat.lt_of_le_of_lt (dpt_flat flat_ints) (by decide)) (kq _ _ (fun _ => rfl) (by walk_at "sx"))
  · walk_at "sx"
    exact ⟨_, all_yes _, hx _ rfl⟩
theorem vc_law_class_right (C C2 C3 : Addr) : ∀ a q g ds Kc, F_law_class_right C C2 C3 g ds Kc → t_law_class_right C C2 C3 (rtD a q Kc) (.st a q g :: (ds.map (.fz false) ++ nos (9 - (ds.length + 1)))) := by
  intro a q g ds Kc h
  match ds, h with
  | [_, _, _], ⟨c, n, gs, RR, w, rfl, rfl, rfl, ⟨h0, hl⟩, hn, hg, hR, hw, hm, st, hk⟩ =>
    have k0 : KG n gs (.seq false (gs.map inL)) := .self hn hl hg h0
    unfold t_law_class_right q9_law_class_right
    walk_at "sx"
    refine ⟨n, gs, RR, w, rfl, hn, hg, hR, rfl, hw, ?_⟩
    simp only [outK]
    refine ⟨by simp, loose_gens hn hl hg h0 (by omega) st fun g1 e1 s1 k1 => ?_⟩
    simp only [outK]
    refine ⟨by simp, loose_word (by omega) hw (by omega) s1 fun g2 b s2 => ?_⟩
    simp only [outK]
    refine ⟨zle (by decide), fun p6 => ?_⟩
    exact q8_cr hn hg hR hw k0 k1 rfl fun r' hr => ⟨_, _, rfl, rfl, _, hr, hk g2 (s2.up (by omega))⟩
end
end TL
namespace TL
open PySem PySem.Spec PyProof.Rows L2
local macro_rules | `(tactic| walk_at "sx") => `(tactic| simp only [tgN, tdYes, tdC2, tdNm, tdEx, tdV, tdC, tdRet, tdLc, tdSeqI, tdSeq, tdIfS, tdNext, tdRetN, tdDrop, tdAsg, tdPar, tdTest, tdAnd, tdOr, tdNot, tdAndV, tdOrV, tdNotV, tdIf, tdCons, tdNil, tfNil, tfCons, tdLst, tdTup, tdI0, tdI, tdOp1, tdOp2, tdEqD, tdIsN, tdIn, tdInD, tdB, tdL, tdT, tdL2, tdCallP, tdCallPD, tdCallA, tdCallD, tdCallDA, tdUnp, tgT, tdRng1, tdRng2, tdFor, tdApp, tdSetL, tdDPut, tdPop, tdPopAt, tdExt, tdAug, tdDictK, tdDictT, tdDict, tdDictA, tdDisp1T, tdListA, tdEnumI, tdZipI, tdRaise, tdIsi, tdIndex, tdLstRg1, tdLstRg2, tdTupRg1, tdSlice, tdNoP, tdSoP, tdNeg, tdForK, tdLcK, tdBreak, tdCont, tdTold, frzR, frz1, capIt, tdSpoil, tdStart, XcTell, tdSortedA, tdVF, tdLcO, tdCallN, tdCallND, tdDisp1K, tdCntI, tdRemI, tdRevL, tdKeysI, tdDcA, tdUpdT, tdListF, tdPar3, tdTupF, tdDictP, isFl_int, isFl_bl, isFl_str, isFl_non, isFl_seq, isFl_dk, isFl_dt, setsR, tdStIx, tdStNe, tdStPop, tdStSet, stF, stS,
  nos, List.replicate, List.map_cons, List.map_nil, List.length_cons, List.length_nil, List.cons_append, List.nil_append, List.set_cons_zero, List.set_cons_succ, List.getElem?_cons_zero, List.getElem?_cons_succ, List.getD_cons_zero, List.getD_cons_succ, wR, List.foldr_cons, List.foldr_nil, dats, cdats, opd_dat, opd_cview, it_sl, it_tm, view_fz, view_ow, view_dp, cview_fz, cview_ow, val_fz, val_ow, val_dp, val_st, D.seq.injEq, D.int.injEq, D.str.injEq, Option.map_some, Option.some.injEq, Prod.mk.injEq, List.cons.injEq, and_true, true_and, exists_eq_left', exists_and_left, exists_eq_left, exists_eq_right, rtP, rtA, rtD, rtDA, outK, outA, excK, excA, Nat.reduceAdd, Nat.reduceSub, Nat.zero_add, Bool.and_true, Bool.true_and, Bool.false_or, Bool.true_or, Bool.or_true, Bool.or_false, Bool.false_and, Bool.and_false, exists_const, and_self, exists_prop, and_assoc, TL.It.fz.injEq, TL.It.ow.injEq, TL.It.st.injEq, Function.comp_apply, D.bl.injEq, exists_eq', eq_self, reduceCtorEq, false_implies, true_implies, implies_true, forall_const, Bool.not_true, Bool.not_false, Bool.true_eq_false, Bool.false_eq_true, if_false, if_true, Bool.not_eq_true', Bool.not_eq_false', ite_false, ite_true, Bool.not_not, forall_eq, forall_eq'])
/-- law: ['script', 'state', 'turn', 'motions', 'many', 'reached', 'motion', 'due', 'seen', 'key', 'one', 'found', 'some', 'odd', 'index', '*t'] -/
def q1_law (C_BadMany C_BadMotions C_BadMotion : Addr) (hs_law_told : List (Addr × Str × Str)) (PT : Addr) (qT : Str) (K : PySem.W.Frag) : TDS := (tdRet (tdC (.bl false)))
def q2_law (C_BadMany C_BadMotions C_BadMotion : Addr) (hs_law_told : List (Addr × Str × Str)) (PT : Addr) (qT : Str) (K : PySem.W.Frag) : TDS := (tdIfS (tdNot (tdTest (tdCallD 1 (F_law_class_right C_BadMany C_BadMotions C_BadMotion) (tdCons (tdNm 3) (tdCons (tdNm 5) (tdCons (tdNm 6) tdNil)))))) (q1_law C_BadMany C_BadMotions C_BadMotion hs_law_told PT qT K) tdNext)
def q3_law (C_BadMany C_BadMotions C_BadMotion : Addr) (hs_law_told : List (Addr × Str × Str)) (PT : Addr) (qT : Str) (K : PySem.W.Frag) : TDS := (tdDPut 8 (tdC (.bl true)) (tdEx (tdT CList (tdCons (tdNm 10) tdNil))))
def q4_law (C_BadMany C_BadMotions C_BadMotion : Addr) (hs_law_told : List (Addr × Str × Str)) (PT : Addr) (qT : Str) (K : PySem.W.Frag) : TDS := (tdFor (tdSeqI (tdC2 CIx (tdNm 7) (tdEx (tdNeg (tdEx (tdC (.int 1))))))) (tgN 10)
      (q3_law C_BadMany C_BadMotions C_BadMotion hs_law_told PT qT K))
def q5_law (C_BadMany C_BadMotions C_BadMotion : Addr) (hs_law_told : List (Addr × Str × Str)) (PT : Addr) (qT : Str) (K : PySem.W.Frag) : TDS := (tdSeq (tdApp 7 (tdCallP F_law_class (fun _ _ _ _ => False) (tdCons (tdNm 5) (tdCons (tdEx (tdListA (tdCons (tdNm 9) tdNil))) tdNil))))
      (q4_law C_BadMany C_BadMotions C_BadMotion hs_law_told PT qT K))
def q6_law (C_BadMany C_BadMotions C_BadMotion : Addr) (hs_law_told : List (Addr × Str × Str)) (PT : Addr) (qT : Str) (K : PySem.W.Frag) : TDS := (tdIfS (tdTest (tdIn true (tdNm 9) (tdNm 8))) (q5_law C_BadMany C_BadMotions C_BadMotion hs_law_told PT qT K) tdNext)
def q7_law (C_BadMany C_BadMotions C_BadMotion : Addr) (hs_law_told : List (Addr × Str × Str)) (PT : Addr) (qT : Str) (K : PySem.W.Frag) : TDS := (tdRet (tdC (.bl false)))
def q8_law (C_BadMany C_BadMotions C_BadMotion : Addr) (hs_law_told : List (Addr × Str × Str)) (PT : Addr) (qT : Str) (K : PySem.W.Frag) : TDS := (tdRet (tdC (.bl false)))
def q9_law (C_BadMany C_BadMotions C_BadMotion : Addr) (hs_law_told : List (Addr × Str × Str)) (PT : Addr) (qT : Str) (K : PySem.W.Frag) : TDS := (tdIfS (tdNot (tdTest (tdCallP (F_law_same 8) (fun _ _ _ _ => False) (tdCons (tdEx (tdCallP (F_classes C_BadMany C_BadMotions) (fun _ _ _ _ => False) (tdCons (tdEx (tdCallP (F_law_copy 8) (fun _ _ _ _ => False) (tdCons (tdNm 3) tdNil))) tdNil))) (tdCons (tdNm 7) tdNil))))) (q8_law C_BadMany C_BadMotions C_BadMotion hs_law_told PT qT K) tdNext)
def q10_law (C_BadMany C_BadMotions C_BadMotion : Addr) (hs_law_told : List (Addr × Str × Str)) (PT : Addr) (qT : Str) (K : PySem.W.Frag) : TDS := (tdSeq (tdSpoil 8 11)
      (q9_law C_BadMany C_BadMotions C_BadMotion hs_law_told PT qT K))
def q11_law (C_BadMany C_BadMotions C_BadMotion : Addr) (hs_law_told : List (Addr × Str × Str)) (PT : Addr) (qT : Str) (K : PySem.W.Frag) : TDS := (tdSeq (tdIfS (tdOr (tdNot (tdTest (tdCallP (F_law_same 8) (fun _ _ _ _ => False) (tdCons (tdNm 11) (tdCons (tdNm 7) tdNil))))) (tdTest (tdOp2 fNe (tdEx (tdB CSum (tdCons (tdEx (tdLc (tdSeqI (tdVF 7)) (tgN 12) tdYes (tdB CLen (tdCons (tdNm 12) tdNil)) [12])) tdNil))) (tdEx (tdB CLenT (tdCons (tdNm 5) tdNil)))))) (q7_law C_BadMany C_BadMotions C_BadMotion hs_law_told PT qT K) tdNext)
      (q10_law C_BadMany C_BadMotions C_BadMotion hs_law_told PT qT K))
def q12_law (C_BadMany C_BadMotions C_BadMotion : Addr) (hs_law_told : List (Addr × Str × Str)) (PT : Addr) (qT : Str) (K : PySem.W.Frag) : TDS := (tdSeq (tdAsg (tdCallPD (F_classes C_BadMany C_BadMotions) (fun _ _ _ _ => False) (tdCons (tdEx (tdCallD 1 (F_law_loose 8) (tdCons (tdNm 3) tdNil))) tdNil)) 11)
      (q11_law C_BadMany C_BadMotions C_BadMotion hs_law_told PT qT K))
def q13_law (C_BadMany C_BadMotions C_BadMotion : Addr) (hs_law_told : List (Addr × Str × Str)) (PT : Addr) (qT : Str) (K : PySem.W.Frag) : TDS := (tdSeq (tdFor (tdSeqI (tdSortedA (tdCons (tdEx (tdListA (tdCons (tdNm 5) tdNil))) tdNil))) (tgN 9)
      (q6_law C_BadMany C_BadMotions C_BadMotion hs_law_told PT qT K))
      (q12_law C_BadMany C_BadMotions C_BadMotion hs_law_told PT qT K))
def q14_law (C_BadMany C_BadMotions C_BadMotion : Addr) (hs_law_told : List (Addr × Str × Str)) (PT : Addr) (qT : Str) (K : PySem.W.Frag) : TDS := (tdSeq (tdPar (tdLst tfNil) tdDictA 7 8)
      (q13_law C_BadMany C_BadMotions C_BadMotion hs_law_told PT qT K))
def q15_law (C_BadMany C_BadMotions C_BadMotion : Addr) (hs_law_told : List (Addr × Str × Str)) (PT : Addr) (qT : Str) (K : PySem.W.Frag) : TDS := (tdRet (tdC (.bl false)))
def q16_law (C_BadMany C_BadMotions C_BadMotion : Addr) (hs_law_told : List (Addr × Str × Str)) (PT : Addr) (qT : Str) (K : PySem.W.Frag) : TDS := (tdIfS (tdNot (tdTest (tdCallP (F_law_same 8) (fun _ _ _ _ => False) (tdCons (tdEx (tdTold 15 [3, 13] PT qT K "told" hs_law_told fun Xc => (tdCallN (F_class_of C_BadMany C_BadMotions C_BadMotion) Xc (tfCons (tdCallP (F_law_copy 8) Xc (tdCons (tdNm 3) tdNil)) (tfCons (tdCallP (F_law_copy 8) Xc (tdCons (tdNm 13) tdNil)) tfNil))))) (tdCons (tdEx (tdLst (tfCons (tdC (.str "motion")) (tfCons (tdVF 13) tfNil)))) tdNil))))) (q15_law C_BadMany C_BadMotions C_BadMotion hs_law_told PT qT K) tdNext)
def q17_law (C_BadMany C_BadMotions C_BadMotion : Addr) (hs_law_told : List (Addr × Str × Str)) (PT : Addr) (qT : Str) (K : PySem.W.Frag) : TDS := (tdRet (tdC (.bl false)))
def q18_law (C_BadMany C_BadMotions C_BadMotion : Addr) (hs_law_told : List (Addr × Str × Str)) (PT : Addr) (qT : Str) (K : PySem.W.Frag) : TDS := (tdIfS (tdNot (tdTest (tdCallP (F_law_same 8) (fun _ _ _ _ => False) (tdCons (tdNm 11) (tdCons (tdEx (tdL2 CRep (tdEx (tdLst (tfCons (tdLst (tfCons (tdC (.str "motions")) (tfCons (tdVF 14) tfNil))) tfNil))) (tdEx (tdC (.int 2))))) tdNil))))) (q17_law C_BadMany C_BadMotions C_BadMotion hs_law_told PT qT K) tdNext)
def q19_law (C_BadMany C_BadMotions C_BadMotion : Addr) (hs_law_told : List (Addr × Str × Str)) (PT : Addr) (qT : Str) (K : PySem.W.Frag) : TDS := (tdSeq (tdApp 11 (tdTold 15 [13] PT qT K "told" hs_law_told fun Xc => (tdCallP (F_classes C_BadMany C_BadMotions) Xc (tdCons (tdEx (tdCallP (F_law_copy 8) Xc (tdCons (tdNm 13) tdNil))) tdNil))))
      (q18_law C_BadMany C_BadMotions C_BadMotion hs_law_told PT qT K))
def q20_law (C_BadMany C_BadMotions C_BadMotion : Addr) (hs_law_told : List (Addr × Str × Str)) (PT : Addr) (qT : Str) (K : PySem.W.Frag) : TDS := (tdSeq (tdAsg (tdLst (tfCons (tdTold 15 [13] PT qT K "told" hs_law_told fun Xc => (tdCallN (F_class_of C_BadMany C_BadMotions C_BadMotion) Xc (tfCons (tdCallP (F_law_copy 8) Xc (tdCons (tdNm 13) tdNil)) (tfCons (tdC .non) tfNil)))) tfNil)) 11)
      (q19_law C_BadMany C_BadMotions C_BadMotion hs_law_told PT qT K))
def q21_law (C_BadMany C_BadMotions C_BadMotion : Addr) (hs_law_told : List (Addr × Str × Str)) (PT : Addr) (qT : Str) (K : PySem.W.Frag) : TDS := (tdFor (tdSeqI (tdCallA F_law_odd_motions (fun _ _ _ _ => False) (tfCons (tdVF 3) tfNil))) (tgT [13, 14])
      (q20_law C_BadMany C_BadMotions C_BadMotion hs_law_told PT qT K))
def q22_law (C_BadMany C_BadMotions C_BadMotion : Addr) (hs_law_told : List (Addr × Str × Str)) (PT : Addr) (qT : Str) (K : PySem.W.Frag) : TDS := (tdSeq (tdFor (tdSeqI (tdCallP F_law_odd_motion (fun _ _ _ _ => False) (tdCons (tdNm 3) tdNil))) (tgN 13)
      (q16_law C_BadMany C_BadMotions C_BadMotion hs_law_told PT qT K))
      (q21_law C_BadMany C_BadMotions C_BadMotion hs_law_told PT qT K))
def q23_law (C_BadMany C_BadMotions C_BadMotion : Addr) (hs_law_told : List (Addr × Str × Str)) (PT : Addr) (qT : Str) (K : PySem.W.Frag) : TDS := (tdSeq (tdIfS (tdTest (tdI0 (fun i j => .bl (decide (i < j))) (tdEx (tdB CLenT (tdCons (tdNm 5) tdNil))) (tdEx (tdC (.int 130))))) (q14_law C_BadMany C_BadMotions C_BadMotion hs_law_told PT qT K) tdNext)
      (q22_law C_BadMany C_BadMotions C_BadMotion hs_law_told PT qT K))
def q24_law (C_BadMany C_BadMotions C_BadMotion : Addr) (hs_law_told : List (Addr × Str × Str)) (PT : Addr) (qT : Str) (K : PySem.W.Frag) : TDS := (tdSeq (tdFor (tdSeqI (tdTup (tfCons (tdCallD 1 F_law_mixed (tdCons (tdEx (tdLstRg1 (tdNm 4))) tdNil)) (tfCons (tdListA (tdCons (tdEx (tdCallDA 1 F_law_one (tfCons (tdSortedA (tdCons (tdEx (tdListA (tdCons (tdNm 5) tdNil))) tdNil)) tfNil))) tdNil)) (tfCons (tdLstRg1 (tdNm 4)) (tfCons (tdListA (tdCons (tdEx (tdC2 CIx (tdNm 3) (tdEx (tdC (.int 0))))) tdNil)) tfNil)))))) (tgN 6)
      (q2_law C_BadMany C_BadMotions C_BadMotion hs_law_told PT qT K))
      (q23_law C_BadMany C_BadMotions C_BadMotion hs_law_told PT qT K))
def q25_law (C_BadMany C_BadMotions C_BadMotion : Addr) (hs_law_told : List (Addr × Str × Str)) (PT : Addr) (qT : Str) (K : PySem.W.Frag) : TDS := (tdSeq (tdPar (tdB CLen (tdCons (tdEx (tdC2 CIx (tdNm 3) (tdEx (tdC (.int 0))))) tdNil)) (tdCallP F_law_all_reached (fun _ _ _ _ => False) (tdCons (tdNm 3) tdNil)) 4 5)
      (q24_law C_BadMany C_BadMotions C_BadMotion hs_law_told PT qT K))
def q26_law (C_BadMany C_BadMotions C_BadMotion : Addr) (hs_law_told : List (Addr × Str × Str)) (PT : Addr) (qT : Str) (K : PySem.W.Frag) : TDS := (tdSeq (tdAsg (tdCallD 1 F_law_draw_motions (tdCons (tdEx (tdC (.int 1))) (tdCons (tdEx (tdIf (tdTest (tdOp2 fEq (tdEx (tdCallD 1 F_law_pick (tdCons (tdEx (tdC (.int 5))) tdNil))) (tdEx (tdC (.int 0))))) (tdC (.int 6)) (tdC (.int 5)))) (tdCons (tdEx (tdC (.int 2))) tdNil)))) 3)
      (q25_law C_BadMany C_BadMotions C_BadMotion hs_law_told PT qT K))
def q27_law (C_BadMany C_BadMotions C_BadMotion : Addr) (hs_law_told : List (Addr × Str × Str)) (PT : Addr) (qT : Str) (K : PySem.W.Frag) : TDS := (tdRet (tdC (.bl true)))
def q28_law (C_BadMany C_BadMotions C_BadMotion : Addr) (hs_law_told : List (Addr × Str × Str)) (PT : Addr) (qT : Str) (K : PySem.W.Frag) : TDS := (tdSeq (tdFor (tdRng1 (tdCons (tdEx (tdC (.int 2))) tdNil)) (tgN 2)
      (q26_law C_BadMany C_BadMotions C_BadMotion hs_law_told PT qT K))
      (q27_law C_BadMany C_BadMotions C_BadMotion hs_law_told PT qT K))
def q29_law (C_BadMany C_BadMotions C_BadMotion : Addr) (hs_law_told : List (Addr × Str × Str)) (PT : Addr) (qT : Str) (K : PySem.W.Frag) : TDS := (tdSeq (tdStart K 0 1)
      (q28_law C_BadMany C_BadMotions C_BadMotion hs_law_told PT qT K))
def t_law (C_BadMany C_BadMotions C_BadMotion : Addr) (hs_law_told : List (Addr × Str × Str)) (PT : Addr) (qT : Str) (K : PySem.W.Frag) : TDS :=
  (q29_law C_BadMany C_BadMotions C_BadMotion hs_law_told PT qT K)
theorem t_law_eq (C_BadMany C_BadMotions C_BadMotion : Addr) (hs_law_told : List (Addr × Str × Str)) (PT : Addr) (qT : Str) (K : PySem.W.Frag) : t_law C_BadMany C_BadMotions C_BadMotion hs_law_told PT qT K =
  (tdSeq (tdStart K 0 1)
      (tdSeq (tdFor (tdRng1 (tdCons (tdEx (tdC (.int 2))) tdNil)) (tgN 2)
      (tdSeq (tdAsg (tdCallD 1 F_law_draw_motions (tdCons (tdEx (tdC (.int 1))) (tdCons (tdEx (tdIf (tdTest (tdOp2 fEq (tdEx (tdCallD 1 F_law_pick (tdCons (tdEx (tdC (.int 5))) tdNil))) (tdEx (tdC (.int 0))))) (tdC (.int 6)) (tdC (.int 5)))) (tdCons (tdEx (tdC (.int 2))) tdNil)))) 3)
      (tdSeq (tdPar (tdB CLen (tdCons (tdEx (tdC2 CIx (tdNm 3) (tdEx (tdC (.int 0))))) tdNil)) (tdCallP F_law_all_reached (fun _ _ _ _ => False) (tdCons (tdNm 3) tdNil)) 4 5)
      (tdSeq (tdFor (tdSeqI (tdTup (tfCons (tdCallD 1 F_law_mixed (tdCons (tdEx (tdLstRg1 (tdNm 4))) tdNil)) (tfCons (tdListA (tdCons (tdEx (tdCallDA 1 F_law_one (tfCons (tdSortedA (tdCons (tdEx (tdListA (tdCons (tdNm 5) tdNil))) tdNil)) tfNil))) tdNil)) (tfCons (tdLstRg1 (tdNm 4)) (tfCons (tdListA (tdCons (tdEx (tdC2 CIx (tdNm 3) (tdEx (tdC (.int 0))))) tdNil)) tfNil)))))) (tgN 6)
      (tdIfS (tdNot (tdTest (tdCallD 1 (F_law_class_right C_BadMany C_BadMotions C_BadMotion) (tdCons (tdNm 3) (tdCons (tdNm 5) (tdCons (tdNm 6) tdNil)))))) (tdRet (tdC (.bl false))) tdNext))
      (tdSeq (tdIfS (tdTest (tdI0 (fun i j => .bl (decide (i < j))) (tdEx (tdB CLenT (tdCons (tdNm 5) tdNil))) (tdEx (tdC (.int 130))))) (tdSeq (tdPar (tdLst tfNil) tdDictA 7 8)
      (tdSeq (tdFor (tdSeqI (tdSortedA (tdCons (tdEx (tdListA (tdCons (tdNm 5) tdNil))) tdNil))) (tgN 9)
      (tdIfS (tdTest (tdIn true (tdNm 9) (tdNm 8))) (tdSeq (tdApp 7 (tdCallP F_law_class (fun _ _ _ _ => False) (tdCons (tdNm 5) (tdCons (tdEx (tdListA (tdCons (tdNm 9) tdNil))) tdNil))))
      (tdFor (tdSeqI (tdC2 CIx (tdNm 7) (tdEx (tdNeg (tdEx (tdC (.int 1))))))) (tgN 10)
      (tdDPut 8 (tdC (.bl true)) (tdEx (tdT CList (tdCons (tdNm 10) tdNil)))))) tdNext))
      (tdSeq (tdAsg (tdCallPD (F_classes C_BadMany C_BadMotions) (fun _ _ _ _ => False) (tdCons (tdEx (tdCallD 1 (F_law_loose 8) (tdCons (tdNm 3) tdNil))) tdNil)) 11)
      (tdSeq (tdIfS (tdOr (tdNot (tdTest (tdCallP (F_law_same 8) (fun _ _ _ _ => False) (tdCons (tdNm 11) (tdCons (tdNm 7) tdNil))))) (tdTest (tdOp2 fNe (tdEx (tdB CSum (tdCons (tdEx (tdLc (tdSeqI (tdVF 7)) (tgN 12) tdYes (tdB CLen (tdCons (tdNm 12) tdNil)) [12])) tdNil))) (tdEx (tdB CLenT (tdCons (tdNm 5) tdNil)))))) (tdRet (tdC (.bl false))) tdNext)
      (tdSeq (tdSpoil 8 11)
      (tdIfS (tdNot (tdTest (tdCallP (F_law_same 8) (fun _ _ _ _ => False) (tdCons (tdEx (tdCallP (F_classes C_BadMany C_BadMotions) (fun _ _ _ _ => False) (tdCons (tdEx (tdCallP (F_law_copy 8) (fun _ _ _ _ => False) (tdCons (tdNm 3) tdNil))) tdNil))) (tdCons (tdNm 7) tdNil))))) (tdRet (tdC (.bl false))) tdNext)))))) tdNext)
      (tdSeq (tdFor (tdSeqI (tdCallP F_law_odd_motion (fun _ _ _ _ => False) (tdCons (tdNm 3) tdNil))) (tgN 13)
      (tdIfS (tdNot (tdTest (tdCallP (F_law_same 8) (fun _ _ _ _ => False) (tdCons (tdEx (tdTold 15 [3, 13] PT qT K "told" hs_law_told fun Xc => (tdCallN (F_class_of C_BadMany C_BadMotions C_BadMotion) Xc (tfCons (tdCallP (F_law_copy 8) Xc (tdCons (tdNm 3) tdNil)) (tfCons (tdCallP (F_law_copy 8) Xc (tdCons (tdNm 13) tdNil)) tfNil))))) (tdCons (tdEx (tdLst (tfCons (tdC (.str "motion")) (tfCons (tdVF 13) tfNil)))) tdNil))))) (tdRet (tdC (.bl false))) tdNext))
      (tdFor (tdSeqI (tdCallA F_law_odd_motions (fun _ _ _ _ => False) (tfCons (tdVF 3) tfNil))) (tgT [13, 14])
      (tdSeq (tdAsg (tdLst (tfCons (tdTold 15 [13] PT qT K "told" hs_law_told fun Xc => (tdCallN (F_class_of C_BadMany C_BadMotions C_BadMotion) Xc (tfCons (tdCallP (F_law_copy 8) Xc (tdCons (tdNm 13) tdNil)) (tfCons (tdC .non) tfNil)))) tfNil)) 11)
      (tdSeq (tdApp 11 (tdTold 15 [13] PT qT K "told" hs_law_told fun Xc => (tdCallP (F_classes C_BadMany C_BadMotions) Xc (tdCons (tdEx (tdCallP (F_law_copy 8) Xc (tdCons (tdNm 13) tdNil))) tdNil))))
      (tdIfS (tdNot (tdTest (tdCallP (F_law_same 8) (fun _ _ _ _ => False) (tdCons (tdNm 11) (tdCons (tdEx (tdL2 CRep (tdEx (tdLst (tfCons (tdLst (tfCons (tdC (.str "motions")) (tfCons (tdVF 14) tfNil))) tfNil))) (tdEx (tdC (.int 2))))) tdNil))))) (tdRet (tdC (.bl false))) tdNext))))))))))
      (tdRet (tdC (.bl true))))) := rfl
section
variable {K : PySem.W.Frag} {C C2 C3 PT : Addr} {hs : List (Addr × Str × Str)} {qT : Str}
theorem q16_33 (hm : tellsX K hs C3 "motion" "motion") {P : TEnds} {n : Nat} {gs : List Wd} {x : D} {b nw : Bool} {y0 y1 y2 y4 y5 y6 y7 y8 y9 y10 y11 y12 y14 : TL.It} (k : KG n gs (.seq false (gs.map inL))) (ho : oddMot n x)
    (hn : ∀ b', P.nx [y0, y1, y2, .fz nw (.seq false (gs.map inL)), y4, y5, y6, y7, y8, y9, y10, y11, y12, .fz b' x, y14, .tb PT qT]) :
    q16_law C C2 C3 hs PT qT K P [y0, y1, y2, .fz nw (.seq false (gs.map inL)), y4, y5, y6, y7, y8, y9, y10, y11, y12, .fz b x, y14, .tb PT qT] := by
  obtain ⟨o1, o2, o3⟩ := ho
  unfold q16_law q15_law
  walk_at "sx"
  refine ⟨k.okE.1, Nat.lt_of_le_of_lt k.okE.2 (by decide), ?_⟩
  simp only [outK]
  refine ⟨o1, Nat.lt_of_le_of_lt o2 (by decide), ?_⟩
  simp only [outK]
  refine .inr ⟨n, gs, k.gens, o1, .inl ⟨o3, ?_⟩⟩
  simp only [outA]
  refine ⟨_, _, _, hm, rfl, rfl, ?_⟩
  show _ ∧ _
  refine ⟨zle (by decide), _, rfl, ?_⟩
  exact yes8 (okW (by decide +kernel) o1) (Nat.lt_of_le_of_lt (dptW o2) (by decide)) ⟨true, rfl, (fun h => by cases h), fun _ => hn _⟩
theorem q20_33 (hw : tellsX K hs C2 "motions" "index") {P : TEnds} {x : D} {k : Nat} {b : Bool} {y0 y1 y2 y3 y4 y5 y6 y7 y8 y9 y10 y11 y12 : TL.It} (ho : oddOk (x, k))
    (hn : ∀ y11, P.nx [y0, y1, y2, y3, y4, y5, y6, y7, y8, y9, y10, y11, y12, .fz b x, .fz true (.int (k : Nat)), .tb PT qT]) :
    q20_law C C2 C3 hs PT qT K P [y0, y1, y2, y3, y4, y5, y6, y7, y8, y9, y10, y11, y12, .fz b x, .fz true (.int (k : Nat)), .tb PT qT] := by
  obtain ⟨h1, h2, h3⟩ := ho
  unfold q20_law
  walk_at "sx"
  refine ⟨h1, Nat.lt_of_le_of_lt h2 (by decide), ?_⟩
  simp only [outK]
  refine .inl ⟨h1, k, h3, ?_⟩
  simp only [outA]
  refine ⟨_, _, _, hw, rfl, rfl, _, _, rfl, zle (by decide), fun p10 => ?_⟩
  unfold q19_law
  walk_at "sx"
  refine ⟨h1, Nat.lt_of_le_of_lt h2 (by decide), ?_⟩
  simp only [outK]
  refine .inl ⟨h1, k, h3, ?_⟩
  simp only [outK]
  refine ⟨_, _, _, hw, rfl, rfl, _, _, rfl, by rw [sizeLine_eq]; decide, ?_⟩
  unfold q18_law q17_law
  walk_at "sx"
  have ow := okW (x := "motions") (d := .int (k : Nat)) (by decide +kernel) rfl
  have dw : (D.seq false [.str "motions", .int (k : Nat)]).dpt ≤ 1 := dptW (Nat.le_refl 0)
  refine ⟨zle (by decide), zle (by decide), _, ⟨_, 2, rfl, rfl, rfl, ⟨by decide, by decide⟩, zle (show 1 * 2 ≤ 10000 by decide)⟩, ?_⟩
  refine yes8 (d := .seq false [.seq false [.str "motions", .int (k : Nat)], .seq false [.str "motions", .int (k : Nat)]]) (sameOk ow [(), ()]).1 (Nat.lt_of_le_of_lt (sameOk ow [(), ()]).2 (by omega)) ?_
  exact ⟨true, rfl, (fun h => by cases h), fun _ => hn _⟩
theorem q21_33 (hw : tellsX K hs C2 "motions" "index") {P : TEnds} {n : Nat} {w : Wd} {xs : List D} {nw : Bool} {y0 y1 y2 y4 y5 y6 y7 y8 y9 y10 y11 y12 y13 y14 : TL.It} (hp : IsP n w) (hn : 1 ≤ n ∧ n ≤ 1000)
    (hx : ∀ y11 y13 y14, P.nx [y0, y1, y2, .fz nw (.seq false (inL w :: xs)), y4, y5, y6, y7, y8, y9, y10, y11, y12, y13, y14, .tb PT qT]) :
    q21_law C C2 C3 hs PT qT K P [y0, y1, y2, .fz nw (.seq false (inL w :: xs)), y4, y5, y6, y7, y8, y9, y10, y11, y12, y13, y14, .tb PT qT] := by
  unfold q21_law
  walk_at "sx"
  refine ⟨n, false, w, xs, rfl, hp, hn, fun os ho _ => ?_⟩
  simp only [outA]
  refine ⟨_, _, rfl, fun k r => ∃ y11 y13 y14, r = [y0, y1, y2, .fz nw (.seq false (inL w :: xs)), y4, y5, y6, y7, y8, y9, y10, y11, y12, y13, y14, .tb PT qT], ⟨_, _, _, rfl⟩, ?_, (fun r ⟨y11, y13, y14, e⟩ => by rw [e]; exact hx _ _ _)⟩
  rintro k x _ hk ⟨y11, y13, y14, rfl⟩
  rw [List.getElem?_map, List.getElem?_map] at hk
  cases hq : os[k]? with
  | none => rw [hq] at hk; cases hk
  | some o =>
  rw [hq] at hk
  cases hk
  obtain ⟨x, i⟩ := o
  walk_at "sx"
  refine ⟨_, rfl, rfl, ?_⟩
  show q20_law C C2 C3 hs PT qT K _ [y0, y1, y2, .fz nw (.seq false (inL w :: xs)), y4, y5, y6, y7, y8, y9, y10, y11, y12, .fz (isFlat x) x, .fz true (.int (i : Nat)), .tb PT qT]
  refine q20_33 hw (ho _ (List.mem_of_getElem? hq)) fun y11 => ?_
  exact ⟨_, _, _, rfl⟩
theorem q22_33 (hw : tellsX K hs C2 "motions" "index") (hm : tellsX K hs C3 "motion" "motion") {P : TEnds} {n : Nat} {gs : List Wd} {nw : Bool} {y0 y1 y2 y4 y5 y6 y7 y8 y9 y10 y11 y12 y13 y14 : TL.It} (k : KG n gs (.seq false (gs.map inL)))
    (hx : ∀ y11 y13 y14, P.nx [y0, y1, y2, .fz nw (.seq false (gs.map inL)), y4, y5, y6, y7, y8, y9, y10, y11, y12, y13, y14, .tb PT qT]) :
    q22_law C C2 C3 hs PT qT K P [y0, y1, y2, .fz nw (.seq false (gs.map inL)), y4, y5, y6, y7, y8, y9, y10, y11, y12, y13, y14, .tb PT qT] := by
  obtain ⟨w, gs', e0⟩ : ∃ w gs', gs = w :: gs' := by
    cases gs with
    | nil => exact absurd rfl k.ne
    | cons w gs' => exact ⟨w, gs', rfl⟩
  have pw := k.p w (by rw [e0]; exact List.mem_cons_self)
  obtain ⟨n1, n7⟩ := k.n1
  unfold q22_law
  walk_at "sx"
  refine ⟨n, w, gs'.map inL, by rw [e0]; rfl, pw, ⟨n1, by omega⟩, fun os ho _ => ?_⟩
  simp only [outK]
  refine ⟨_, _, rfl, fun j r => ∃ y13, r = [y0, y1, y2, .fz nw (.seq false (gs.map inL)), y4, y5, y6, y7, y8, y9, y10, y11, y12, y13, y14, .tb PT qT], ⟨_, rfl⟩, ?_, ?_⟩
  · rintro j x _ hj ⟨y13, rfl⟩
    rw [List.getElem?_map] at hj
    cases hq : os[j]? with
    | none => rw [hq] at hj; cases hj
    | some o =>
    rw [hq] at hj
    cases hj
    walk_at "sx"
    refine q16_33 hm k (ho o (List.mem_of_getElem? hq)) fun b' => ?_
    exact ⟨_, rfl⟩
  · rintro _ ⟨y13, rfl⟩
    subst e0
    exact q21_33 (xs := gs'.map inL) hw pw ⟨n1, by omega⟩ hx
theorem cls_ok {n : Nat} {F : List (List Wd)} (hn : n ≤ 7) (hF : F.length ≤ 130) (hL : ∀ L ∈ F, L.length ≤ 130) (hp : ∀ L ∈ F, ∀ x ∈ L, IsP n x) : (clsD F).ok = true ∧ (clsD F).dpt ≤ 3 ∧ seqOnly (clsD F) = true ∧ (clsD F).cnt + (clsD F).wid ≤ sizeLine := by
  have lo : ∀ L ∈ F, _ := fun L h => list_ok hn (hp L h) (Nat.le_trans (hL L h) (by decide))
  refine ⟨ok_seq.mpr ⟨by rw [List.length_map, sizeLine_eq]; omega, fun y hy => ?_⟩, Nat.succ_le_succ (dpts_of fun y hy => ?_), seqOnly_seq.mpr fun y hy => ?_, ?_⟩
  · obtain ⟨L, h, rfl⟩ := List.mem_map.mp hy; exact (lo L h).1
  · obtain ⟨L, h, rfl⟩ := List.mem_map.mp hy; exact (lo L h).2.1
  · obtain ⟨L, h, rfl⟩ := List.mem_map.mp hy; exact (lo L h).2.2.1
  · have c1 : (clsD F).cnt ≤ F.length * 131 + 1 := by
      refine Nat.succ_le_succ (Nat.le_trans (cnts_bd (c := 131) fun y hy => ?_) (by rw [List.length_map]; exact Nat.le_refl _))
      obtain ⟨L, h, rfl⟩ := List.mem_map.mp hy
      rw [cnt_intss]
      have := hL L h; omega
    have c2 : (clsD F).wid ≤ 137 := by
      refine Nat.max_le.mpr ⟨by rw [List.length_map]; omega, wids_bd fun y hy => ?_⟩
      obtain ⟨L, h, rfl⟩ := List.mem_map.mp hy
      exact Nat.le_trans (wid_intss (m := 7) fun w hw => by rw [(hp L h w hw).len]; exact hn) (by have := hL L h; omega)
    have : F.length * 131 ≤ 130 * 131 := Nat.mul_le_mul_right _ hF
    rw [sizeLine_eq]; omega
def lenI : D → D
  | .seq _ xs => .int (xs.length : Nat)
  | _ => .non
theorem q12_33 {P : TEnds} {n : Nat} {gs RR : List Wd} {c : Nat} {g : PS} {a q : Addr} {nw : Bool} (k : KG n gs (.seq false (gs.map inL))) (hR : IsReach n gs RR) (h130 : RR.length < 130) (hc : c < 2 ^ 37) (st : St c g) {y0 y2 y4 y6 y8 y9 y10 y11 y12 y13 y14 : TL.It} {p7 : Addr}
    (hx : ∀ g' y7 y11 y12, St (c + 101) g' → P.nx [y0, .st a q g', y2, .fz nw (.seq false (gs.map inL)), y4, .fz true (seenD RR), y6, y7, y8, y9, y10, y11, y12, y13, y14, .tb PT qT]) :
    q12_law C C2 C3 hs PT qT K P [y0, .st a q g, y2, .fz nw (.seq false (gs.map inL)), y4, .fz true (seenD RR), y6, .ow p7 true (clsD (classesW gs (sortT RR))), y8, y9, y10, y11, y12, y13, y14, .tb PT qT] := by
  unfold q12_law
  walk_at "sx"
  obtain ⟨n1, n7⟩ := k.n1
  have inv := classes_inv k.p hR (sortT RR) fun x hx => sort_mem.mp hx
  have fl : (classesW gs (sortT RR)).flatten.length ≤ 130 := Nat.le_trans (nodup_le inv.nd (inv.reach k.p hR)) (by omega)
  have fc := few_cls k.p hR inv
  have fL : ∀ L ∈ classesW gs (sortT RR), L.length ≤ 130 := fun L hL => by
    obtain ⟨m, rm, c⟩ := inv.el L hL
    have := nodup_le c.nd fun y hy => inv.reach k.p hR y (List.mem_flatten.mpr ⟨L, hL, hy⟩)
    omega
  have fp : ∀ L ∈ classesW gs (sortT RR), ∀ x ∈ L, IsP n x := fun L hL x hx => ((hR.iff x).mp (inv.reach k.p hR x (List.mem_flatten.mpr ⟨L, hL, hx⟩))).isP k.p
  obtain ⟨l1, l2, l3, l4⟩ := cls_ok n7 (Nat.le_trans fc fl) fL fp
  have hsum := classes_sum k.p hR
  have hF : ∀ {e : D} {Kc' : Out → Prop}, KG n gs e → Kc' (.ret (clsD (classesW gs (sortT RR)))) → F_classes C C2 [e] Kc' := fun ke h => .inr ⟨n, gs, ke.gens, fun R' hR' => by rw [hR'.sort hR]; exact h⟩
  generalize hFF : classesW gs (sortT RR) = FF at *
  refine ⟨by simp, loose_gens ⟨n1, n7⟩ k.l1 k.p k.ne (by omega) st fun g1 e1 s1 k1 => ?_⟩
  simp only [outK]
  refine hF k1 ?_
  simp only [outK]
  intro S
  unfold q11_law q7_law
  walk_at "sx"
  refine yes8 l1 (Nat.lt_of_le_of_lt l2 (by decide)) ⟨true, rfl, (fun h => by cases h), fun _ => ?_⟩
  refine ⟨_, _, rfl, ?_⟩
  refine lc_ds (g := fun _ => true) lenI true (by rw [List.length_map, sizeLine_eq]; omega) (fun z hzm Q kq => ?_) mono_tgN mono_yes (fun p2 => ?_)
  · obtain ⟨L, hL, rfl⟩ := List.mem_map.mp hzm
    walk_at "sx"
    exact ⟨_, rfl, kq _ _ (fun _ => rfl) (by walk_at "sx")⟩
  · walk_at "sx"
    have e : (FF.map fun L => D.seq false (L.map inL)).map lenI = (FF.map fun L => ((L.length : Nat) : Int)).map .int := by
      rw [List.map_map, List.map_map]
      refine List.map_congr_left fun L _ => ?_
      show D.int (((L.map inL).length : Nat) : Int) = .int ((L.length : Nat) : Int)
      rw [List.length_map]
    have e2 : (FF.map fun L => ((L.length : Nat) : Int)).sum = (RR.length : Nat) := by
      rw [← hsum]
      generalize FF = FF
      induction FF with
      | nil => rfl
      | cons L FF ih => rw [List.map_cons, List.sum_cons, ih, List.map_cons, List.sum_cons]; omega
    refine ⟨_, ⟨_, by rw [e], rfl⟩, _, rfl, _, fNe_int _ _, _, rfl, fun hb => ?_, fun _ => ?_⟩
    · rw [e2, List.length_map] at hb
      simp at hb
    unfold q10_law
    walk_at "sx"
    refine ⟨S, _, rfl, l3, Nat.lt_of_le_of_lt l2 (by decide), l4, ?_⟩
    unfold q9_law q8_law
    walk_at "sx"
    refine ⟨k.okE.1, Nat.lt_of_le_of_lt k.okE.2 (by decide), ?_⟩
    simp only [outK]
    refine hF k ?_
    simp only [outK]
    exact yes8 l1 (Nat.lt_of_le_of_lt l2 (by decide)) ⟨true, rfl, (fun h => by cases h), fun _ => hx _ _ _ _ s1⟩
theorem last_ixD {b : Bool} {xs : List D} {d : D} : CIx (.seq b (xs ++ [d])) (.int (-1)) d := by
  show atI (xs ++ [d]) (-1) = some d
  unfold atI ixN
  rw [List.length_append, List.length_singleton, if_neg (by decide), if_pos (by omega)]
  show (xs ++ [d])[((-1 : Int) + ((xs.length + 1 : Nat) : Int)).toNat]? = _
  rw [show ((-1 : Int) + ((xs.length + 1 : Nat) : Int)).toNat = xs.length by omega, List.getElem?_append_right (Nat.le_refl _), Nat.sub_self]; rfl
theorem q13_33 {P : TEnds} {n : Nat} {gs RR : List Wd} {c : Nat} {g : PS} {a q : Addr} {nw : Bool} (k : KG n gs (.seq false (gs.map inL))) (hR : IsReach n gs RR) (h130 : RR.length < 130) (hc : c < 2 ^ 37) (st : St c g) {y0 y2 y4 y6 y7 y8 y9 y10 y11 y12 y13 y14 : TL.It}
    (hx : ∀ g' y7 y8 y9 y10 y11 y12, St (c + 101) g' → P.nx [y0, .st a q g', y2, .fz nw (.seq false (gs.map inL)), y4, .fz true (seenD RR), y6, y7, y8, y9, y10, y11, y12, y13, y14, .tb PT qT]) :
    q14_law C C2 C3 hs PT qT K P [y0, .st a q g, y2, .fz nw (.seq false (gs.map inL)), y4, .fz true (seenD RR), y6, y7, y8, y9, y10, y11, y12, y13, y14, .tb PT qT] := by
  obtain ⟨n1, n7⟩ := k.n1
  obtain ⟨hp, hz⟩ := reach_few n7 k.p hR
  unfold q14_law
  walk_at "sx"
  refine ⟨zle (by decide), fun p7 => ⟨true, fun p8 => ?_⟩⟩
  unfold q13_law
  walk_at "sx"
  refine .inr ⟨RR.map tupD, keys_seen RR (RR.map fun _ => .bl true), RR, rfl, fun k' hk' => ?_, ?_⟩
  · have := (hp k' hk').len
    intro e
    rw [e] at this
    simp at this
    omega
  refine ⟨fun j r => ∃ y9 y10, r = [y0, .st a q g, y2, .fz nw (.seq false (gs.map inL)), y4, .fz true (seenD RR), y6, .ow p7 true (clsD (classesW gs ((sortT RR).take j))), .ow p8 true (seenD (classesW gs ((sortT RR).take j)).flatten), y9, y10, y11, y12, y13, y14, .tb PT qT], ⟨_, _, rfl⟩, ?_, ?_⟩
  · rintro j x _ hx' ⟨y9, y10, rfl⟩
    rw [List.getElem?_map, List.getElem?_map] at hx'
    cases hq : (sortT RR)[j]? with
    | none => rw [hq] at hx'; cases hx'
    | some v =>
    rw [hq] at hx'
    cases hx'
    have hv := sort_mem.mp (List.mem_of_getElem? hq)
    have pv := hp v hv
    walk_at "sx"
    unfold q6_law
    walk_at "sx"
    simp only [classes_take hq]
    have inv := classes_inv k.p hR ((sortT RR).take j) fun x hx => sort_mem.mp (List.mem_of_mem_take hx)
    have inv2 := classes_inv k.p hR ((sortT RR).take (j + 1)) fun x hx => sort_mem.mp (List.mem_of_mem_take hx)
    rw [classes_take hq] at inv2
    have fl2 := few_flat n7 k.p hR inv2
    have fl := few_flat n7 k.p hR inv
    have fc := few_cls k.p hR inv
    have c := clsW_ok k.p pv hR
    generalize hF : classesW gs ((sortT RR).take j) = F at *
    refine ⟨_, in_seen F.flatten v (F.flatten.map fun _ => .bl true), fun hb => ?_, fun hb => ?_⟩
    · have hni := of_decide_eq_false hb
      have es : stepC gs F v = F ++ [clsW gs v] := by unfold stepC; rw [if_neg hni]
      rw [es] at inv2 fl2
      unfold q5_law
      walk_at "sx"
      refine ⟨⟨_, rfl⟩, _, rfl, ?_⟩
      refine ⟨n, gs, RR, v, rfl, k.n1, k.p, hR, rfl, pv, ?_⟩
      simp only [outK]
      rw [List.flatten_append, List.flatten_singleton, List.length_append] at fl2
      generalize hL : clsW gs v = L at *
      refine ⟨_, rfl, by rw [List.length_map, sizeLine_eq]; omega, ?_⟩
      unfold q4_law
      walk_at "sx"
      refine ⟨_, last_ixD, ?_⟩
      walk_at "sx"
      have ecl : D.seq false ((F.map fun L => D.seq false (L.map inL)) ++ [.seq false (L.map inL)]) = clsD (F ++ [L]) := by
        unfold clsD; rw [List.map_append]; rfl
      rw [ecl]
      refine ⟨fun i r => ∃ y10, r = [y0, .st a q g, y2, .fz nw (.seq false (gs.map inL)), y4, .fz true (seenD RR), y6, .ow p7 true (clsD (F ++ [L])), .ow p8 true (seenD (F.flatten ++ L.take i)), .fz true (tupD v), y10, y11, y12, y13, y14, .tb PT qT], ⟨_, by rw [List.take_zero, List.append_nil]⟩, ?_, ?_⟩
      · rintro i x _ hi ⟨y10, rfl⟩
        rw [List.getElem?_map, List.getElem?_map] at hi
        cases hq2 : L[i]? with
        | none => rw [hq2] at hi; cases hi
        | some u =>
        rw [hq2] at hi
        cases hi
        walk_at "sx"
        unfold q3_law
        walk_at "sx"
        have li := (List.getElem?_eq_some_iff.mp hq2).1
        have nd2 := inv2.nd
        rw [List.flatten_append, List.flatten_singleton] at nd2
        have hni2 : u ∉ F.flatten ++ L.take i := fun hc => by
          rw [List.nodup_append] at nd2
          rcases List.mem_append.mp hc with hc | hc
          · exact nd2.2.2 u hc u (List.mem_of_getElem? hq2) rfl
          · obtain ⟨m, hm⟩ := List.getElem?_of_mem hc
            have hmi : m < i := by
              have := (List.getElem?_eq_some_iff.mp hm).1
              rw [List.length_take] at this; omega
            rw [List.getElem?_take_of_lt hmi] at hm
            have := (List.getElem?_inj (List.getElem?_eq_some_iff.mp hm).1 nd2.2.1).mp (hm.trans hq2.symm)
            omega
        refine ⟨_, ⟨false, rfl⟩, ?_, ?_⟩
        · show ((F.flatten ++ L.take i).map keyW).length < _
          rw [List.length_map, List.length_append, List.length_take, sizeLine_eq]; omega
        · have e : L.take (i + 1) = L.take i ++ [u] := by rw [List.take_succ, hq2]; rfl
          rw [e, ← List.append_assoc]
          exact put_seen hni2
      · rintro _ ⟨y10, rfl⟩
        rw [List.length_map, List.length_map, List.take_length]
        rw [es, List.flatten_append, List.flatten_singleton]
        exact ⟨_, _, rfl⟩
    · have hin := of_decide_eq_true hb
      have es : stepC gs F v = F := by unfold stepC; rw [if_pos hin]
      rw [es]
      exact ⟨rfl, rfl⟩
  · rintro _ ⟨y9, y10, rfl⟩
    rw [List.length_map, List.length_map, List.take_length]
    exact q12_33 k hR h130 hc st fun g' y7 y11 y12 s' => hx _ _ _ _ _ _ _ s'
theorem q24_33 (hw : tellsX K hs C2 "motions" "index") (hm : tellsX K hs C3 "motion" "motion") {P : TEnds} {n : Nat} {gs RR : List Wd} {c : Nat} {g : PS} {a q : Addr} {nw : Bool} (k : KG n gs (.seq false (gs.map inL))) (hR : IsReach n gs RR) (hc : c < 2 ^ 36) (st : St c g) {y0 y2 y6 y7 y8 y9 y10 y11 y12 y13 y14 : TL.It}
    (hx : ∀ g' tl, tl.length = 13 → St (c + 1000) g' → P.nx (y0 :: .st a q g' :: (tl ++ [.tb PT qT]))) :
    q24_law C C2 C3 hs PT qT K P [y0, .st a q g, y2, .fz nw (.seq false (gs.map inL)), .fz true (.int (n : Nat)), .fz true (seenD RR), y6, y7, y8, y9, y10, y11, y12, y13, y14, .tb PT qT] := by
  obtain ⟨n1, n7⟩ := k.n1
  obtain ⟨hp, hz⟩ := reach_few n7 k.p hR
  have zn : n ≤ sizeLine := by rw [sizeLine_eq]; omega
  obtain ⟨w0, gs0, e0⟩ : ∃ w gs', gs = w :: gs' := by
    cases gs with
    | nil => exact absurd rfl k.ne
    | cons w gs' => exact ⟨w, gs', rfl⟩
  have one : iota n ∈ sortT RR := sort_mem.mpr ((hR.iff _).mpr .one)
  unfold q24_law
  walk_at "sx"
  rw [rgD_iota]
  refine ⟨rgOk_nat zn, fun p => ⟨by simp, ?_⟩⟩
  refine ⟨c, false, _, rfl, flat_ints, by rw [List.length_map, length_iota]; exact zn, by rw [List.length_map, length_iota]; omega, st, fun g1 ys s1 hperm => ?_⟩
  rw [List.length_map, length_iota] at s1
  obtain ⟨w, rfl, hw'⟩ := permInts hperm
  have pw := IsP.of_perm hw'
  simp only [outK]
  refine .inr ⟨RR.map tupD, keys_seen RR (RR.map fun _ => .bl true), RR, rfl, fun k' hk' => ?_, ?_⟩
  · have := (hp k' hk').len
    intro e
    rw [e] at this
    simp at this
    omega
  refine ⟨c + n, false, _, rfl, List.ne_nil_of_mem (List.mem_map.mpr ⟨_, one, rfl⟩), by rw [List.length_map, sort_len, sizeLine_eq]; omega, by omega, s1, fun g2 x2 s2 hx2 => ?_⟩
  obtain ⟨u, hu, rfl⟩ := List.mem_map.mp hx2
  have pu := hp u (sort_mem.mp hu)
  simp only [outK]
  refine ⟨_, rfl, rgOk_nat zn, inL w0, by rw [e0]; exact cix_nat (i := 0) rfl, _, rfl, zle (by decide), ?_⟩
  have p0 := k.p w0 (by rw [e0]; exact List.mem_cons_self)
  generalize hb0 : (isFlat (tupD u) && (nw || isFlat (inL w0))) = b0
  generalize hb1 : (b0 || isFlat (D.seq false (w.map .int))) = b1
  have hall : ∀ (j : Nat) (x : TL.It), [TL.It.fz b1 (D.seq false (w.map .int)), .fz b0 (D.seq false (u.map .int)), .fz b0 (D.seq false ((iota n).map .int)), .fz b0 (D.seq false (w0.map .int))][j]? = some x → ∃ b v, x = .fz b (inL v) ∧ IsP n v := by
    intro j x hj
    match j, hj with
    | 0, hj => cases hj; exact ⟨_, w, rfl, pw⟩
    | 1, hj => cases hj; exact ⟨_, u, rfl, pu⟩
    | 2, hj => cases hj; exact ⟨_, iota n, rfl, .iota⟩
    | 3, hj => cases hj; exact ⟨_, w0, rfl, p0⟩
  refine ⟨fun j r => ∃ g' y6 n3, r = [y0, .st a q g', y2, .fz n3 (.seq false (gs.map inL)), .fz true (.int (n : Nat)), .fz true (seenD RR), y6, y7, y8, y9, y10, y11, y12, y13, y14, .tb PT qT] ∧ St (c + n + 1 + 102 * j) g', ⟨_, _, _, rfl, s2⟩, ?_, ?_⟩
  · rintro j x _ hj ⟨g', y6, n3, rfl, st'⟩
    have hj3 : j < 4 := (List.getElem?_eq_some_iff.mp hj).1
    obtain ⟨b, v, rfl, pv⟩ := hall j x hj
    walk_at "sx"
    unfold q2_law q1_law
    walk_at "sx"
    refine ⟨by simp, c + n + 1 + 102 * j, n, gs, RR, v, rfl, rfl, rfl, ⟨k.ne, k.l1⟩, ⟨n1, n7⟩, k.p, hR, pv, by omega, st', fun g3 s3 => ?_⟩
    simp only [outK]
    exact ⟨true, rfl, (fun h => by cases h), fun _ => s3.up (by omega)⟩
  · rintro _ ⟨g', y6, n3, rfl, st'⟩
    have st' : St (c + n + 1 + 102 * 4) g' := st'
    unfold q23_law
    walk_at "sx"
    refine ⟨_, rfl, _, rfl, fun hb => ?_, fun hb => ?_⟩
    · have hb := of_decide_eq_true hb
      rw [List.length_map] at hb
      refine q13_33 k hR (by omega) (c := c + n + 409) (by omega) (st'.up (by omega)) fun g2 y7 y8 y9 y10 y11 y12 s2 => ?_
      refine q22_33 hw hm k fun y11 y13 y14 => ?_
      exact hx _ [_, _, _, _, _, _, _, _, _, _, _, _, _] rfl (s2.up (by omega))
    · refine q22_33 hw hm k fun y11 y13 y14 => ?_
      exact hx _ [_, _, _, _, _, _, _, _, _, _, _, _, _] rfl (st'.up (by omega))
theorem q25_33 (hw : tellsX K hs C2 "motions" "index") (hm : tellsX K hs C3 "motion" "motion") {P : TEnds} {n : Nat} {gs : List Wd} {c : Nat} {g : PS} {a q : Addr} {nw : Bool} (k : KG n gs (.seq false (gs.map inL))) (hc : c < 2 ^ 36) (st : St c g) {y0 y2 y4 y5 y6 y7 y8 y9 y10 y11 y12 y13 y14 : TL.It}
    (hx : ∀ g' tl, tl.length = 13 → St (c + 1000) g' → P.nx (y0 :: .st a q g' :: (tl ++ [.tb PT qT]))) :
    q25_law C C2 C3 hs PT qT K P [y0, .st a q g, y2, .fz nw (.seq false (gs.map inL)), y4, y5, y6, y7, y8, y9, y10, y11, y12, y13, y14, .tb PT qT] := by
  obtain ⟨n1, n7⟩ := k.n1
  unfold q25_law
  walk_at "sx"
  obtain ⟨w0, gs0, e0⟩ : ∃ w gs', gs = w :: gs' := by
    cases gs with
    | nil => exact absurd rfl k.ne
    | cons w gs' => exact ⟨w, gs', rfl⟩
  refine ⟨inL w0, by rw [e0]; exact cix_nat (i := 0) rfl, .int (n : Nat), ?_, ?_⟩
  · show D.int _ = D.int _
    rw [List.length_map, (k.p w0 (by rw [e0]; exact List.mem_cons_self)).len]
  refine ⟨n, gs, k.gens, fun RR hR => ?_⟩
  simp only [outK]
  exact q24_33 hw hm k hR hc st hx
theorem q26_33 (hw : tellsX K hs C2 "motions" "index") (hm : tellsX K hs C3 "motion" "motion") {P : TEnds} {c : Nat} {g : PS} {a q : Addr} (hc : c < 2 ^ 34) (st : St c g) {y0 y2 y3 y4 y5 y6 y7 y8 y9 y10 y11 y12 y13 y14 : TL.It}
    (hx : ∀ g' tl, tl.length = 13 → St (c + 2000) g' → P.nx (y0 :: .st a q g' :: (tl ++ [.tb PT qT]))) :
    q26_law C C2 C3 hs PT qT K P [y0, .st a q g, y2, y3, y4, y5, y6, y7, y8, y9, y10, y11, y12, y13, y14, .tb PT qT] := by
  unfold q26_law
  walk_at "sx"
  refine ⟨by simp, c, 5, rfl, ⟨by decide, by decide⟩, by omega, st, fun g1 v s1 hv0 hv4 => ?_⟩
  simp only [outK]
  refine ⟨_, fEq_int _ _, _, rfl, fun _ => ⟨by simp, c + 1, 1, 6, 2, rfl, rfl, rfl, ⟨by decide, by decide, by decide⟩, ⟨by decide, by decide⟩, by omega, s1, fun g2 n gs s2 n1 n7 h0 hl hg => ?_⟩, fun _ => ⟨by simp, c + 1, 1, 5, 2, rfl, rfl, rfl, ⟨by decide, by decide, by decide⟩, ⟨by decide, by decide⟩, by omega, s1, fun g2 n gs s2 n1 n7 h0 hl hg => ?_⟩⟩
  all_goals
    simp only [outK]
    have k : KG n gs (.seq false (gs.map inL)) := .self ⟨n1, by omega⟩ (by omega) hg h0
    exact q25_33 hw hm k (by omega) s2 fun g' tl h1 h2 => hx g' tl h1 (h2.up (by omega))
theorem len13 {α : Type} {l : List α} (h : l.length = 13) : ∃ a b c d e f g i j k m n o, l = [a, b, c, d, e, f, g, i, j, k, m, n, o] := by
  match l, h with
  | [a, b, c, d, e, f, g, i, j, k, m, n, o], _ => exact ⟨_, _, _, _, _, _, _, _, _, _, _, _, _, rfl⟩
theorem vc_law (hw : tellsX K hs C2 "motions" "index") (hm : tellsX K hs C3 "motion" "motion") (ns : List Int) : t_law C C2 C3 hs PT qT K rtLaw (.scr K ns :: (nos 14 ++ [.tb PT qT])) := by
  unfold t_law q29_law
  walk_at "sx"
  refine ⟨ns, rfl, fun p q => ?_⟩
  unfold q28_law
  walk_at "sx"
  refine ⟨by decide, by decide, ?_⟩
  refine forB_rng (n := 2) (fun k r => ∃ g tl, r = .scr K ns :: .st p q g :: (tl ++ [.tb PT qT]) ∧ tl.length = 13 ∧ St (2000 * k) g) ⟨_, [_, _, _, _, _, _, _, _, _, _, _, _, _], rfl, rfl, Int.le_refl 0, Int.le_refl 0, Int.le_refl 0, (by decide : (0 : Int) ≤ 29), (by decide : (29 : Int) < 2147483647)⟩ ?_ ?_
  · rintro k _ hk3 ⟨g, tl, rfl, hl, st⟩
    obtain ⟨a, b, c, d, e, f, g, i, j, k, m, n, o, rfl⟩ := len13 hl
    walk_at "sx"
    refine q26_33 hw hm (c := 2000 * _) (by omega) st fun g' tl h1 h3 => ?_
    exact ⟨g', tl, rfl, h1, h3.up (by omega)⟩
  · rintro _ ⟨g, tl, rfl, hl, st⟩
    unfold q27_law
    walk_at "sx"
    simp [rtLaw, TL.It.view]
end
end TL
namespace TL
open PySem PySem.Spec PyProof.Rows L2 LamX
def top (i : Nat) : Stmt := PySem.Challenge.pw_siftlevels_k33_whole_classes.main.body.getD i (.Pass ⟨0, 0, 0, 0⟩)
def mthd : Stmt → Stmt
  | .ClassDef _ _ _ b _ _ _ _ _ _ _ => b.getD 0 (.Pass ⟨0, 0, 0, 0⟩)
  | s => s
abbrev s_is_integer : Stmt := top 1
theorem sc_is_integer : FnScope ["thing"] ["thing"] (defScope s_is_integer) := ⟨rfl, rfl, rfl, by decide +kernel, rfl, by decide +kernel, by decide +kernel⟩
theorem d_is_integer {P : Program} {w : World} {K : PySem.W.Frag} {mg : Str → Option Value} {base : Heap} (B : Bl mg) (F0 : DefAt K mg "is_integer" s_is_integer) : Has P w K mg base "is_integer" 1 ["thing"] (spP F_is_integer) := by
  obtain ⟨f, fd, F, hm⟩ := F0
  exact ⟨f, fd, okP F sc_is_integer (fun ds Kc h => by match ds, h with | [_], _ => rfl) (fun cdv A outer s H E hr => ⟨_, t_is_integer  , (pss_one (ps_ret (pe_and (pe_callB call_isi (by rfl) B.isinstance (by decide +kernel) (pa_cons (pv 0) (pa_cons (pe_bltn (v := .ty "int") (by rfl) B.int (by decide +kernel) rfl) pa_nil))) (pe_one (pe_not (pe_callB call_isi (by rfl) B.isinstance (by decide +kernel) (pa_cons (pv 0) (pa_cons (pe_bltn (v := .ty "bool") (by rfl) B.bool (by decide +kernel) rfl) pa_nil)))))))),
      fun Xc _ => (sns_ret (snd_andV (snd_isi (b := "int") (by decide) sno_nm) (snd_notV (snd_isi (b := "bool") (by decide) sno_nm)))), vc_is_integer⟩), hm, F.kp, F.bindsN fun _ _ _ _ _ _ us hl => match us, hl with | [_], _ => rfl⟩
abbrev s_is_number : Stmt := top 2
theorem sc_is_number : FnScope ["thing"] ["thing"] (defScope s_is_number) := ⟨rfl, rfl, rfl, by decide +kernel, rfl, by decide +kernel, by decide +kernel⟩
theorem d_is_number {P : Program} {w : World} {K : PySem.W.Frag} {mg : Str → Option Value} {base : Heap} (F0 : DefAt K mg "is_number" s_is_number) (H_is_integer : Has P w K mg base "is_integer" 1 ["thing"] (spP F_is_integer)) : Has P w K mg base "is_number" 2 ["thing"] (spP F_is_number) := by
  obtain ⟨_, _, G_is_integer, m_is_integer, k_is_integer, b_is_integer⟩ := H_is_integer
  obtain ⟨f, fd, F, hm⟩ := F0
  exact ⟨f, fd, okP F sc_is_number (fun ds Kc h => by match ds, h with | [_], _ => rfl) (fun cdv A outer s H E hr => ⟨_, t_is_number  , (pss_one (ps_ret (pe_and (pe_call (E := E) G_is_integer (hr.mono (by decide)) (by rfl) m_is_integer k_is_integer b_is_integer .nil (passes_call (takes_of rfl rfl rfl rfl) (fun _ _ _ _ h => h)) (pa_cons (pv 0) pa_nil)) (pe_one (pe_cmpR op_ge (pv 0) pe_int (nomark _)))))),
      fun Xc hE => (sns_ret (snd_andV (snd_callP hE (sna_cons sno_nm sna_nil)) (snd_I0 (f := fun i j => .bl (decide (j ≤ i))) (fun _ _ => rfl) sno_nm (sno_ex snd_int)))), vc_is_number⟩), hm, F.kp, F.bindsN fun _ _ _ _ _ _ us hl => match us, hl with | [_], _ => rfl⟩
abbrev s_is_list : Stmt := top 3
theorem sc_is_list : FnScope ["thing"] ["thing"] (defScope s_is_list) := ⟨rfl, rfl, rfl, by decide +kernel, rfl, by decide +kernel, by decide +kernel⟩
theorem d_is_list {P : Program} {w : World} {K : PySem.W.Frag} {mg : Str → Option Value} {base : Heap} (B : Bl mg) (F0 : DefAt K mg "is_list" s_is_list) : Has P w K mg base "is_list" 1 ["thing"] (spP F_is_list) := by
  obtain ⟨f, fd, F, hm⟩ := F0
  exact ⟨f, fd, okP F sc_is_list (fun ds Kc h => by match ds, h with | [_], _ => rfl) (fun cdv A outer s H E hr => ⟨_, t_is_list  , (pss_one (ps_ret (pe_callB call_isiT (by rfl) B.isinstance (by decide +kernel) (pa_cons (pv 0) (pa_cons (pe_tup (pa_cons (pe_bltn (v := .ty "list") (by rfl) B.list (by decide +kernel) rfl) (pa_cons (pe_bltn (v := .ty "tuple") (by rfl) B.tuple (by decide +kernel) rfl) pa_nil))) pa_nil))))),
      fun Xc _ => (sns_ret (snd_isiT (bs := ["list", "tuple"]) (by decide) (by decide) sno_nm)), vc_is_list⟩), hm, F.kp, F.bindsN fun _ _ _ _ _ _ us hl => match us, hl with | [_], _ => rfl⟩
abbrev s_check_many : Stmt := top 25
theorem sc_check_many : FnScope ["many"] ["many"] (defScope s_check_many) := ⟨rfl, rfl, rfl, by decide +kernel, rfl, by decide +kernel, by decide +kernel⟩
theorem d_check_many {P : Program} {w : World} {K : PySem.W.Frag} {mg : Str → Option Value} {base : Heap} {C_BadMany : Addr} (F0 : DefAt K mg "check_many" s_check_many) (H_is_integer : Has P w K mg base "is_integer" 1 ["thing"] (spP F_is_integer)) (x_BadMany : ExcF P w K mg base "BadMany" C_BadMany "many") : Has P w K mg base "check_many" 3 ["many"] (spP (F_check_many C_BadMany)) := by
  obtain ⟨_, _, G_is_integer, m_is_integer, k_is_integer, b_is_integer⟩ := H_is_integer
  obtain ⟨f, fd, F, hm⟩ := F0
  exact ⟨f, fd, okP F sc_check_many (fun ds Kc h => by match ds, h with | [_], _ => rfl) (fun cdv A outer s H E hr => ⟨_, t_check_many C_BadMany , (pss_one (ps_if (PW.pt (pw_or (pt_not (pt_val (pe_call (E := E) G_is_integer (hr.mono (by decide)) (by rfl) m_is_integer k_is_integer b_is_integer .nil (passes_call (takes_of rfl rfl rfl rfl) (fun _ _ _ _ h => h)) (pa_cons (pv 0) pa_nil)))) (pw_or1 (pt_cmpR op_lt (pv 0) pe_int (nomark _))))) (pss_one (ps_raiseF x_BadMany (hr.mono (by decide)) rfl (takes_of rfl rfl rfl rfl) (by rfl) (pa_cons (pv 0) pa_nil))) pss_nil)),
      fun Xc hE => (sns_if (snt_or (snt_not (snt_B (snd_callP hE (sna_cons sno_nm sna_nil)))) (snt_test (snd_I0 (f := fun i j => .bl (decide (i < j))) (fun _ _ => rfl) sno_nm (sno_ex snd_int)))) (sns_raise hE x_BadMany.oex x_BadMany.noat (snf_cons snd_v snf_nil)) sns_next), vc_check_many C_BadMany⟩), hm, F.kp, F.bindsN fun _ _ _ _ _ _ us hl => match us, hl with | [_], _ => rfl⟩
abbrev s_is_motion_of : Stmt := top 26
theorem sc_is_motion_of : FnScope ["many", "thing", "goal"] ["many", "thing"] (defScope s_is_motion_of) := ⟨rfl, rfl, rfl, by decide +kernel, rfl, by decide +kernel, by decide +kernel⟩
theorem d_is_motion_of {P : Program} {w : World} {K : PySem.W.Frag} {mg : Str → Option Value} {base : Heap} (B : Bl mg) (F0 : DefAt K mg "is_motion_of" s_is_motion_of) (H_is_list : Has P w K mg base "is_list" 1 ["thing"] (spP F_is_list)) (H_is_number : Has P w K mg base "is_number" 2 ["thing"] (spP F_is_number)) : Has P w K mg base "is_motion_of" 3 ["many", "thing"] (spP F_is_motion_of) := by
  obtain ⟨_, _, G_is_list, m_is_list, k_is_list, b_is_list⟩ := H_is_list
  obtain ⟨_, _, G_is_number, m_is_number, k_is_number, b_is_number⟩ := H_is_number
  obtain ⟨f, fd, F, hm⟩ := F0
  exact ⟨f, fd, okP F sc_is_motion_of (fun ds Kc h => by match ds, h with | [_, _], _ => rfl) (fun cdv A outer s H E hr => ⟨_, t_is_motion_of  , (pss_cons (ps_if (PW.pt (pw_or (pt_not (pt_val (pe_call (E := E) G_is_list (hr.mono (by decide)) (by rfl) m_is_list k_is_list b_is_list .nil (passes_call (takes_of rfl rfl rfl rfl) (fun _ _ _ _ h => h)) (pa_cons (pv 1) pa_nil)))) (pw_or (pt_cmpR op_ne (pe_callB (r := rLenA K) call_lenA (by rfl) B.len (by decide +kernel) (pa_cons (pv 1) pa_nil)) (pv 0) (nomark _)) (pw_or1 (pt_not (pt_val (pe_callB (r := rAll K) (cr_all rfl) (by rfl) B.all (by decide +kernel) (pa_cons (pe_lc (own := [("goal", 2)]) rfl sc_is_motion_of.nd (pi_seq (pv 1)) (blkOk_by (own := [("goal", 2)]) (N := ["many", "thing", "goal"]) (sc := defScope s_is_motion_of) (by decide +kernel)) (fun _ _ _ _ _ => (pg_name (i := 2) sc_is_motion_of.nd rfl (Or.inl rfl))) (fun _ _ _ _ _ => pts_nil) (fun _ _ _ _ _ => (pe_call (E := E0) G_is_number (hr.mono (by decide)) (by rfl) m_is_number k_is_number b_is_number .nil passL (pa_cons (pv 2) pa_nil)))) pa_nil)))))))) (pss_one (ps_ret pe_bl)) pss_nil)
      (pss_one (ps_ret (pe_cmpR (op_eqD hr.units) (pe_callB cr_sortedA (by rfl) B.sorted (by decide +kernel) (pa_cons (pv 1) pa_nil)) (pe_listRg rfl (by rfl) B.list (prg_1 (by rfl) B.range (pv 0))) (nomark _))))),
      fun Xc hE => (sns_seq (sns_if (snt_or (snt_not (snt_B (snd_callP hE (sna_cons sno_nm sna_nil)))) (snt_or (snt_test (snd_op2 op2_ne (sno_ex (snd_B opa_len (sna_cons sno_nm sna_nil))) sno_nm)) (snt_not (snt_B (snd_B opa_all (sna_cons (sno_ex (snd_lc (own := [2]) (sni_seq snd_v) (sng_name (i := 2) (by decide)) snt_yes (snd_callP XOk.no (sna_cons sno_nm sna_nil)))) sna_nil)))))) (sns_ret snd_bl) sns_next)
      (sns_ret (snd_eqD (sno_ex (snd_sortedA (sna_cons sno_nm sna_nil))) (sno_ex (snd_lstRg1 sno_nm))))), vc_is_motion_of⟩), hm, F.kp, F.bindsN fun _ _ _ _ _ _ us hl => match us, hl with | [_, _], _ => rfl⟩
abbrev s_is_motion : Stmt := top 27
theorem sc_is_motion : FnScope ["many", "thing"] ["many", "thing"] (defScope s_is_motion) := ⟨rfl, rfl, rfl, by decide +kernel, rfl, by decide +kernel, by decide +kernel⟩
theorem d_is_motion {P : Program} {w : World} {K : PySem.W.Frag} {mg : Str → Option Value} {base : Heap} {C_BadMany : Addr} (F0 : DefAt K mg "is_motion" s_is_motion) (H_check_many : Has P w K mg base "check_many" 3 ["many"] (spP (F_check_many C_BadMany))) (H_is_motion_of : Has P w K mg base "is_motion_of" 3 ["many", "thing"] (spP F_is_motion_of)) : Has P w K mg base "is_motion" 4 ["many", "thing"] (spP (F_is_motion C_BadMany)) := by
  obtain ⟨_, _, G_check_many, m_check_many, k_check_many, b_check_many⟩ := H_check_many
  obtain ⟨_, _, G_is_motion_of, m_is_motion_of, k_is_motion_of, b_is_motion_of⟩ := H_is_motion_of
  obtain ⟨f, fd, F, hm⟩ := F0
  exact ⟨f, fd, okP F sc_is_motion (fun ds Kc h => by match ds, h with | [_, _], _ => rfl) (fun cdv A outer s H E hr => ⟨_, t_is_motion C_BadMany , (pss_cons (ps_expr (pe_call (E := E) G_check_many (hr.mono (by decide)) (by rfl) m_check_many k_check_many b_check_many .nil (passes_call (takes_of rfl rfl rfl rfl) (fun _ _ _ _ h => h)) (pa_cons (pv 0) pa_nil)))
      (pss_one (ps_ret (pe_call (E := E) G_is_motion_of (hr.mono (by decide)) (by rfl) m_is_motion_of k_is_motion_of b_is_motion_of .nil (passes_call (takes_of rfl rfl rfl rfl) (fun _ _ _ _ h => h)) (pa_cons (pv 0) (pa_cons (pv 1) pa_nil)))))),
      fun Xc hE => (sns_seq (sns_drop (snd_callP hE (sna_cons sno_nm sna_nil)))
      (sns_ret (snd_callP hE (sna_cons sno_nm (sna_cons sno_nm sna_nil))))), vc_is_motion C_BadMany⟩), hm, F.kp, F.bindsN fun _ _ _ _ _ _ us hl => match us, hl with | [_, _], _ => rfl⟩
abbrev s_need_motion : Stmt := top 28
theorem sc_need_motion : FnScope ["motion"] ["motion"] (defScope s_need_motion) := ⟨rfl, rfl, rfl, by decide +kernel, rfl, by decide +kernel, by decide +kernel⟩
theorem d_need_motion {P : Program} {w : World} {K : PySem.W.Frag} {mg : Str → Option Value} {base : Heap} {C_BadMotion : Addr} (B : Bl mg) (F0 : DefAt K mg "need_motion" s_need_motion) (H_is_list : Has P w K mg base "is_list" 1 ["thing"] (spP F_is_list)) (H_is_motion_of : Has P w K mg base "is_motion_of" 3 ["many", "thing"] (spP F_is_motion_of)) (x_BadMotion : ExcF P w K mg base "BadMotion" C_BadMotion "motion") : Has P w K mg base "need_motion" 4 ["motion"] (spN (F_need_motion C_BadMotion)) := by
  obtain ⟨_, _, G_is_list, m_is_list, k_is_list, b_is_list⟩ := H_is_list
  obtain ⟨_, _, G_is_motion_of, m_is_motion_of, k_is_motion_of, b_is_motion_of⟩ := H_is_motion_of
  obtain ⟨f, fd, F, hm⟩ := F0
  exact ⟨f, fd, okN F sc_need_motion (fun ds Kc h => by match ds, h with | [_], _ => rfl) (fun cdv A outer s H Bb E hr => ⟨_, t_need_motion C_BadMotion , (pss_cons (ps_if (PW.pt (pw_or (pt_not (pt_val (pe_call (E := E) G_is_list (hr.mono (by decide)) (by rfl) m_is_list k_is_list b_is_list .nil (passes_call (takes_of rfl rfl rfl rfl) (fun _ _ _ _ h => h)) (pa_cons (pv 0) pa_nil)))) (pw_or (pt_cmpR op_eq (pe_callB (r := rLenA K) call_lenA (by rfl) B.len (by decide +kernel) (pa_cons (pv 0) pa_nil)) pe_int (nomark _)) (pw_or1 (pt_not (pt_val (pe_call (E := E) G_is_motion_of (hr.mono (by decide)) (by rfl) m_is_motion_of k_is_motion_of b_is_motion_of .nil (passes_call (takes_of rfl rfl rfl rfl) (fun _ _ _ _ h => h)) (pa_cons (pe_callB (r := rLenA K) call_lenA (by rfl) B.len (by decide +kernel) (pa_cons (pv 0) pa_nil)) (pa_cons (pv 0) pa_nil))))))))) (pss_one (ps_raiseF x_BadMotion (hr.mono (by decide)) rfl (takes_of rfl rfl rfl rfl) (by rfl) (pa_cons (pv 0) pa_nil))) pss_nil)
      (pss_one (ps_ret (pe_callTy (T := "list") (r := rListA K) (call_listA rfl) (by rfl) B.list (by decide +kernel) (pa_cons (pv 0) pa_nil))))),
      fun Xc hE => (sns_seq (sns_if (snt_or (snt_not (snt_B (snd_callP hE (sna_cons sno_nm sna_nil)))) (snt_or (snt_test (snd_op2 op2_eq (sno_ex (snd_B opa_len (sna_cons sno_nm sna_nil))) (sno_ex snd_int))) (snt_not (snt_B (snd_callP hE (sna_cons (sno_ex (snd_B opa_len (sna_cons sno_nm sna_nil))) (sna_cons sno_nm sna_nil))))))) (sns_raise hE x_BadMotion.oex x_BadMotion.noat (snf_cons snd_vF snf_nil)) sns_next)
      (sns_ret (snd_listF (sna_cons sno_nm sna_nil)))), vc_need_motion C_BadMotion⟩), hm, F.kp, F.bindsN fun _ _ _ _ _ _ us hl => match us, hl with | [_], _ => rfl⟩
abbrev s_moved_places : Stmt := top 29
theorem sc_moved_places : FnScope ["motion", "place", "goal"] ["motion"] (defScope s_moved_places) := ⟨rfl, rfl, rfl, by decide +kernel, rfl, by decide +kernel, by decide +kernel⟩
theorem d_moved_places {P : Program} {w : World} {K : PySem.W.Frag} {mg : Str → Option Value} {base : Heap} (B : Bl mg) (F0 : DefAt K mg "moved_places" s_moved_places) : Has P w K mg base "moved_places" 1 ["motion"] (spP F_moved_places) := by
  obtain ⟨f, fd, F, hm⟩ := F0
  exact ⟨f, fd, okP F sc_moved_places (fun ds Kc h => by match ds, h with | [_], _ => rfl) (fun cdv A outer s H E hr => ⟨_, t_moved_places  , (pss_one (ps_ret (pe_lc (own := [("place", 1), ("goal", 2)]) rfl sc_moved_places.nd (pi_enumA (by rfl) B.enumerate (pa_cons (pv 0) pa_nil)) (blkOk_by (own := [("place", 1), ("goal", 2)]) (N := ["motion", "place", "goal"]) (sc := defScope s_moved_places) (by decide +kernel)) (fun _ _ _ _ _ => (pg_tupK (K' := K) (n := 2) rfl rfl (pgs_cons (pg_name (i := 1) sc_moved_places.nd rfl (Or.inl rfl)) (pgs_cons (pg_name (i := 2) sc_moved_places.nd rfl (Or.inl rfl)) pgs_nil)))) (fun _ _ _ _ _ => (pts_one (pt_cmpR (r := rNeD K) (op_neD hr.units) (pv 1) (pv 2) (nomark _)))) (fun _ _ _ _ _ => (pv 1))))),
      fun Xc _ => (sns_ret (snd_lc (own := [1, 2]) (sni_enum snd_vF) (sng_tup (is := [1, 2]) rfl (by decide)) (snt_test (snd_neD sno_nm sno_nm)) snd_vF)), vc_moved_places⟩), hm, F.kp, F.bindsN fun _ _ _ _ _ _ us hl => match us, hl with | [_], _ => rfl⟩
abbrev s_all_rings : Stmt := top 30
theorem sc_all_rings : FnScope ["motion", "found", "seen", "place", "ring", "one"] ["motion"] (defScope s_all_rings) := ⟨rfl, rfl, rfl, by decide +kernel, rfl, by decide +kernel, by decide +kernel⟩
theorem d_all_rings {P : Program} {w : World} {K : PySem.W.Frag} {mg : Str → Option Value} {base : Heap} (F0 : DefAt K mg "all_rings" s_all_rings) (H_moved_places : Has P w K mg base "moved_places" 1 ["motion"] (spP F_moved_places)) : Has P w K mg base "all_rings" 2 ["motion"] (spP F_all_rings) := by
  obtain ⟨_, _, G_moved_places, m_moved_places, k_moved_places, b_moved_places⟩ := H_moved_places
  obtain ⟨f, fd, F, hm⟩ := F0
  exact ⟨f, fd, okP F sc_all_rings (fun ds Kc h => by match ds, h with | [_], _ => rfl) (fun cdv A outer s H E hr => ⟨_, t_all_rings  , (pss_cons (ps_par (i := 1) (j := 2) (by rfl) sc_all_rings.nd rfl rfl (by decide) rfl rfl (pa_cons (pe_lst pa_nil) (pa_cons pe_dnewA pa_nil)) (by rfl))
      (pss_cons (ps_for (passes_of rfl) rfl (pi_seq (pe_call (E := E) G_moved_places (hr.mono (by decide)) (by rfl) m_moved_places k_moved_places b_moved_places .nil (passes_call (takes_of rfl rfl rfl rfl) (fun _ _ _ _ h => h)) (pa_cons (pv 0) pa_nil))) (pg_name (i := 3) sc_all_rings.nd rfl (Or.inl rfl))
      (pss_one (ps_if (pt_cmpR (op_notInA (hu_of hr)) (pv 3) (pv 2) (by rfl)) (pss_cons (ps_set (i := 4) sc_all_rings.nd rfl (Or.inl rfl) (pe_lst (pa_cons (pv 3) pa_nil)))
      (pss_cons (ps_while (passes_of rfl) (pt_cmpR (op_neD hr.units) (pe_ix (ix_any (hu_of hr)) (pv 0) (pe_ix (ix_any (hu_of hr)) (pv 4) (pe_un un_neg pe_int) (fun _ _ => rfl)) (fun _ _ => rfl)) (pv 3) (nomark _))
      (pss_one (ps_expr (pe_bm PySem.F.plainAttrs_list PySem.F.slot_list_append PySem.F.type_list_append mt_append (pv 4) (pa_cons (pe_ix (ix_any (hu_of hr)) (pv 0) (pe_ix (ix_any (hu_of hr)) (pv 4) (pe_un un_neg pe_int) (fun _ _ => rfl)) (fun _ _ => rfl)) pa_nil)))))
      (pss_cons (ps_for (passes_of rfl) rfl (pi_seq (pv 4)) (pg_name (i := 5) sc_all_rings.nd rfl (Or.inl rfl))
      (pss_one (ps_dput (hu_of hr) (pv 2) (pv 5) pe_bl rfl)))
      (pss_one (ps_expr (pe_bm PySem.F.plainAttrs_list PySem.F.slot_list_append PySem.F.type_list_append mt_append (pv 1) (pa_cons (pv 4) pa_nil))))))) pss_nil)))
      (pss_one (ps_ret (pv 1))))),
      fun Xc hE => (sns_seq (sns_par (snd_lst snf_nil) snd_dictA)
      (sns_seq (sns_for (own := [3]) (sni_seq (snd_callP hE (sna_cons sno_nm sna_nil))) (sng_name (i := 3) (by decide))
      (sns_if (snt_test (snd_in sno_nm sno_nm)) (sns_seq (sns_asg (snd_lst (snf_cons snd_vF snf_nil)))
      (sns_seq (sns_while (snt_test (snd_neD (sno_ex (snd_ix sno_nm (sno_ex (snd_ix sno_nm (sno_ex (snd_neg (sno_ex snd_int))))))) sno_nm))
      (sns_app (snd_ix sno_nm (sno_ex (snd_ix sno_nm (sno_ex (snd_neg (sno_ex snd_int))))))))
      (sns_seq (sns_for (own := [5]) (sni_seq snd_vF) (sng_name (i := 5) (by decide))
      (sns_dput snd_bl sno_nm))
      (sns_app snd_vF)))) sns_next))
      (sns_ret snd_vF))), vc_all_rings⟩), hm, F.kp, F.bindsN fun _ _ _ _ _ _ us hl => match us, hl with | [_], _ => rfl⟩
abbrev s_rings_of : Stmt := top 31
theorem sc_rings_of : FnScope ["motion"] ["motion"] (defScope s_rings_of) := ⟨rfl, rfl, rfl, by decide +kernel, rfl, by decide +kernel, by decide +kernel⟩
theorem d_rings_of {P : Program} {w : World} {K : PySem.W.Frag} {mg : Str → Option Value} {base : Heap} {C_BadMotion : Addr} (F0 : DefAt K mg "rings_of" s_rings_of) (H_all_rings : Has P w K mg base "all_rings" 2 ["motion"] (spP F_all_rings)) (H_need_motion : Has P w K mg base "need_motion" 4 ["motion"] (spN (F_need_motion C_BadMotion))) : Has P w K mg base "rings_of" 5 ["motion"] (spN (F_rings_of C_BadMotion)) := by
  obtain ⟨_, _, G_all_rings, m_all_rings, k_all_rings, b_all_rings⟩ := H_all_rings
  obtain ⟨_, _, G_need_motion, m_need_motion, k_need_motion, b_need_motion⟩ := H_need_motion
  obtain ⟨f, fd, F, hm⟩ := F0
  exact ⟨f, fd, okN F sc_rings_of (fun ds Kc h => by match ds, h with | [_], _ => rfl) (fun cdv A outer s H Bb E hr => ⟨_, t_rings_of C_BadMotion , (pss_one (ps_ret (pe_call (E := E) G_all_rings (hr.mono (by decide)) (by rfl) m_all_rings k_all_rings b_all_rings .nil (passes_call (takes_of rfl rfl rfl rfl) (fun _ _ _ _ h => h)) (pa_cons (pe_call (E := E) G_need_motion (hr.mono (by decide)) (by rfl) m_need_motion k_need_motion b_need_motion .nil (passes_call (takes_of rfl rfl rfl rfl) (fun _ _ _ _ h => h)) (pa_cons (pv 0) pa_nil)) pa_nil)))),
      fun Xc hE => (sns_ret (snd_callP hE (sna_cons (sno_ex (snd_callN hE (snf_cons snd_vF snf_nil))) sna_nil))), vc_rings_of C_BadMotion⟩), hm, F.kp, F.bindsN fun _ _ _ _ _ _ us hl => match us, hl with | [_], _ => rfl⟩
abbrev s_composed : Stmt := top 33
theorem sc_composed : FnScope ["motion", "other", "place"] ["motion", "other"] (defScope s_composed) := ⟨rfl, rfl, rfl, by decide +kernel, rfl, by decide +kernel, by decide +kernel⟩
theorem d_composed {P : Program} {w : World} {K : PySem.W.Frag} {mg : Str → Option Value} {base : Heap} (F0 : DefAt K mg "composed" s_composed) : Has P w K mg base "composed" 1 ["motion", "other"] (spP F_composed) := by
  obtain ⟨f, fd, F, hm⟩ := F0
  exact ⟨f, fd, okP F sc_composed (fun ds Kc h => by match ds, h with | [_, _], _ => rfl) (fun cdv A outer s H E hr => ⟨_, t_composed  , (pss_one (ps_ret (pe_lc (own := [("place", 2)]) rfl sc_composed.nd (pi_seq (pv 0)) (blkOk_by (own := [("place", 2)]) (N := ["motion", "other", "place"]) (sc := defScope s_composed) (by decide +kernel)) (fun _ _ _ _ _ => (pg_name (i := 2) sc_composed.nd rfl (Or.inl rfl))) (fun _ _ _ _ _ => pts_nil) (fun _ _ _ _ _ => (pe_ix (r := rIxA K) (ix_any (hu_of hr)) (pv 1) (pv 2) (fun _ _ => rfl)))))),
      fun Xc _ => (sns_ret (snd_lc (own := [2]) (sni_seq snd_v) (sng_name (i := 2) (by decide)) snt_yes (snd_ix sno_nm sno_nm))), vc_composed⟩), hm, F.kp, F.bindsN fun _ _ _ _ _ _ us hl => match us, hl with | [_, _], _ => rfl⟩
abbrev s_undone : Stmt := top 34
theorem sc_undone : FnScope ["motion", "found", "place", "goal"] ["motion"] (defScope s_undone) := ⟨rfl, rfl, rfl, by decide +kernel, rfl, by decide +kernel, by decide +kernel⟩
theorem d_undone {P : Program} {w : World} {K : PySem.W.Frag} {mg : Str → Option Value} {base : Heap} (B : Bl mg) (F0 : DefAt K mg "undone" s_undone) : Has P w K mg base "undone" 1 ["motion"] (spP F_undone) := by
  obtain ⟨f, fd, F, hm⟩ := F0
  exact ⟨f, fd, okP F sc_undone (fun ds Kc h => by match ds, h with | [_], _ => rfl) (fun cdv A outer s H E hr => ⟨_, t_undone  , (pss_cons (ps_set (i := 1) sc_undone.nd rfl (Or.inl rfl) (pe_callTy (T := "list") (r := rListA K) (call_listA rfl) (by rfl) B.list (by decide +kernel) (pa_cons (pv 0) pa_nil)))
      (pss_cons (ps_for (passes_of rfl) rfl (pi_enumA (by rfl) B.enumerate (pa_cons (pv 0) pa_nil)) (pg_tup rfl (pgs_cons (pg_name (i := 2) sc_undone.nd rfl (Or.inl rfl)) (pgs_cons (pg_name (i := 3) sc_undone.nd rfl (Or.inl rfl)) pgs_nil)))
      (pss_one (ps_asg (pv 2) (pg_sub (pv 1) (pv 3) set_list))))
      (pss_one (ps_ret (pv 1))))),
      fun Xc _ => (sns_seq (sns_asg (snd_listF (sna_cons sno_nm sna_nil)))
      (sns_seq (sns_for (own := [2, 3]) (sni_enum snd_vF) (sng_tup (is := [2, 3]) rfl (by decide))
      (sns_setL snd_vF sno_nm))
      (sns_ret snd_vF))), vc_undone⟩), hm, F.kp, F.bindsN fun _ _ _ _ _ _ us hl => match us, hl with | [_], _ => rfl⟩
abbrev s_wrong_motion : Stmt := top 35
theorem sc_wrong_motion : FnScope ["motions", "index", "motion"] ["motions"] (defScope s_wrong_motion) := ⟨rfl, rfl, rfl, by decide +kernel, rfl, by decide +kernel, by decide +kernel⟩
theorem d_wrong_motion {P : Program} {w : World} {K : PySem.W.Frag} {mg : Str → Option Value} {base : Heap} {C_BadMany : Addr} (B : Bl mg) (F0 : DefAt K mg "wrong_motion" s_wrong_motion) (H_is_list : Has P w K mg base "is_list" 1 ["thing"] (spP F_is_list)) (H_is_motion : Has P w K mg base "is_motion" 4 ["many", "thing"] (spP (F_is_motion C_BadMany))) : Has P w K mg base "wrong_motion" 5 ["motions"] (spP (F_wrong_motion C_BadMany)) := by
  obtain ⟨_, _, G_is_list, m_is_list, k_is_list, b_is_list⟩ := H_is_list
  obtain ⟨_, _, G_is_motion, m_is_motion, k_is_motion, b_is_motion⟩ := H_is_motion
  obtain ⟨f, fd, F, hm⟩ := F0
  exact ⟨f, fd, okP F sc_wrong_motion (fun ds Kc h => by match ds, h with | [_], _ => rfl) (fun cdv A outer s H E hr => ⟨_, t_wrong_motion C_BadMany , (pss_cons (ps_if (PW.pt (pw_or (pt_not (pt_val (pe_call (E := E) G_is_list (hr.mono (by decide)) (by rfl) m_is_list k_is_list b_is_list .nil (passes_call (takes_of rfl rfl rfl rfl) (fun _ _ _ _ h => h)) (pa_cons (pv 0) pa_nil)))) (pw_or1 (pt_cmpR op_eq (pe_callB (r := rLenA K) call_lenA (by rfl) B.len (by decide +kernel) (pa_cons (pv 0) pa_nil)) pe_int (nomark _))))) (pss_one (ps_ret pe_int)) pss_nil)
      (pss_cons (ps_for (passes_of rfl) rfl (pi_enumA (by rfl) B.enumerate (pa_cons (pv 0) pa_nil)) (pg_tup rfl (pgs_cons (pg_name (i := 1) sc_wrong_motion.nd rfl (Or.inl rfl)) (pgs_cons (pg_name (i := 2) sc_wrong_motion.nd rfl (Or.inl rfl)) pgs_nil)))
      (pss_cons (ps_if (PW.pt (pw_or (pt_not (pt_val (pe_call (E := E) G_is_list (hr.mono (by decide)) (by rfl) m_is_list k_is_list b_is_list .nil (passes_call (takes_of rfl rfl rfl rfl) (fun _ _ _ _ h => h)) (pa_cons (pv 2) pa_nil)))) (pw_or (pt_cmpR op_eq (pe_callB (r := rLenA K) call_lenA (by rfl) B.len (by decide +kernel) (pa_cons (pv 2) pa_nil)) pe_int (nomark _)) (pw_or1 (pt_not (pt_val (pe_call (E := E) G_is_motion (hr.mono (by decide)) (by rfl) m_is_motion k_is_motion b_is_motion .nil (passes_call (takes_of rfl rfl rfl rfl) (fun _ _ _ _ h => h)) (pa_cons (pe_callB (r := rLenA K) call_lenA (by rfl) B.len (by decide +kernel) (pa_cons (pv 2) pa_nil)) (pa_cons (pv 2) pa_nil))))))))) (pss_one (ps_ret (pv 1))) pss_nil)
      (pss_one (ps_if (pt_cmpR op_ne (pe_callB (r := rLenA K) call_lenA (by rfl) B.len (by decide +kernel) (pa_cons (pv 2) pa_nil)) (pe_callB (r := rLenA K) call_lenA (by rfl) B.len (by decide +kernel) (pa_cons (pe_ix (ix_any (hu_of hr)) (pv 0) pe_int (fun _ _ => rfl)) pa_nil)) (nomark _)) (pss_one (ps_ret (pv 1))) pss_nil))))
      (pss_one (ps_ret pe_non)))),
      fun Xc hE => (sns_seq (sns_if (snt_or (snt_not (snt_B (snd_callP hE (sna_cons sno_nm sna_nil)))) (snt_test (snd_op2 op2_eq (sno_ex (snd_B opa_len (sna_cons sno_nm sna_nil))) (sno_ex snd_int)))) (sns_ret snd_int) sns_next)
      (sns_seq (sns_for (own := [1, 2]) (sni_enum snd_v) (sng_tup (is := [1, 2]) rfl (by decide))
      (sns_seq (sns_if (snt_or (snt_not (snt_B (snd_callP hE (sna_cons sno_nm sna_nil)))) (snt_or (snt_test (snd_op2 op2_eq (sno_ex (snd_B opa_len (sna_cons sno_nm sna_nil))) (sno_ex snd_int))) (snt_not (snt_B (snd_callP hE (sna_cons (sno_ex (snd_B opa_len (sna_cons sno_nm sna_nil))) (sna_cons sno_nm sna_nil))))))) (sns_ret snd_v) sns_next)
      (sns_if (snt_test (snd_op2 op2_ne (sno_ex (snd_B opa_len (sna_cons sno_nm sna_nil))) (sno_ex (snd_B opa_len (sna_cons (sno_ex (snd_ix sno_nm (sno_ex snd_int))) sna_nil))))) (sns_ret snd_v) sns_next)))
      (sns_ret snd_non))), vc_wrong_motion C_BadMany⟩), hm, F.kp, F.bindsN fun _ _ _ _ _ _ us hl => match us, hl with | [_], _ => rfl⟩
abbrev s_need_motions : Stmt := top 36
theorem sc_need_motions : FnScope ["motions", "index"] ["motions"] (defScope s_need_motions) := ⟨rfl, rfl, rfl, by decide +kernel, rfl, by decide +kernel, by decide +kernel⟩
theorem d_need_motions {P : Program} {w : World} {K : PySem.W.Frag} {mg : Str → Option Value} {base : Heap} {C_BadMany : Addr} {C_BadMotions : Addr} (F0 : DefAt K mg "need_motions" s_need_motions) (H_wrong_motion : Has P w K mg base "wrong_motion" 5 ["motions"] (spP (F_wrong_motion C_BadMany))) (x_BadMotions : ExcF P w K mg base "BadMotions" C_BadMotions "index") : Has P w K mg base "need_motions" 6 ["motions"] (spP (F_need_motions C_BadMany C_BadMotions)) := by
  obtain ⟨_, _, G_wrong_motion, m_wrong_motion, k_wrong_motion, b_wrong_motion⟩ := H_wrong_motion
  obtain ⟨f, fd, F, hm⟩ := F0
  exact ⟨f, fd, okP F sc_need_motions (fun ds Kc h => by match ds, h with | [_], _ => rfl) (fun cdv A outer s H E hr => ⟨_, t_need_motions C_BadMany C_BadMotions , (pss_cons (ps_set (i := 1) sc_need_motions.nd rfl (Or.inl rfl) (pe_call (E := E) G_wrong_motion (hr.mono (by decide)) (by rfl) m_wrong_motion k_wrong_motion b_wrong_motion .nil (passes_call (takes_of rfl rfl rfl rfl) (fun _ _ _ _ h => h)) (pa_cons (pv 0) pa_nil)))
      (pss_one (ps_if (pt_cmpR op_notN (pv 1) pe_non (nomark _)) (pss_one (ps_raiseF x_BadMotions (hr.mono (by decide)) rfl (takes_of rfl rfl rfl rfl) (by rfl) (pa_cons (pv 1) pa_nil))) pss_nil))),
      fun Xc hE => (sns_seq (sns_asg (snd_callP hE (sna_cons sno_nm sna_nil)))
      (sns_if (snt_test (snd_notN sno_nm)) (sns_raise hE x_BadMotions.oex x_BadMotions.noat (snf_cons snd_v snf_nil)) sns_next)), vc_need_motions C_BadMany C_BadMotions⟩), hm, F.kp, F.bindsN fun _ _ _ _ _ _ us hl => match us, hl with | [_], _ => rfl⟩
abbrev s_check_motion : Stmt := top 38
theorem sc_check_motion : FnScope ["motions", "motion"] ["motions", "motion"] (defScope s_check_motion) := ⟨rfl, rfl, rfl, by decide +kernel, rfl, by decide +kernel, by decide +kernel⟩
theorem d_check_motion {P : Program} {w : World} {K : PySem.W.Frag} {mg : Str → Option Value} {base : Heap} {C_BadMotion : Addr} {C_BadMany : Addr} (B : Bl mg) (F0 : DefAt K mg "check_motion" s_check_motion) (H_is_motion : Has P w K mg base "is_motion" 4 ["many", "thing"] (spP (F_is_motion C_BadMany))) (x_BadMotion : ExcF P w K mg base "BadMotion" C_BadMotion "motion") : Has P w K mg base "check_motion" 5 ["motions", "motion"] (spN (F_check_motion C_BadMotion C_BadMany)) := by
  obtain ⟨_, _, G_is_motion, m_is_motion, k_is_motion, b_is_motion⟩ := H_is_motion
  obtain ⟨f, fd, F, hm⟩ := F0
  exact ⟨f, fd, okN F sc_check_motion (fun ds Kc h => by match ds, h with | [_, _], _ => rfl) (fun cdv A outer s H Bb E hr => ⟨_, t_check_motion C_BadMany C_BadMotion , (pss_one (ps_if (pt_not (pt_val (pe_call (E := E) G_is_motion (hr.mono (by decide)) (by rfl) m_is_motion k_is_motion b_is_motion .nil (passes_call (takes_of rfl rfl rfl rfl) (fun _ _ _ _ h => h)) (pa_cons (pe_callB (r := rLenA K) call_lenA (by rfl) B.len (by decide +kernel) (pa_cons (pe_ix (ix_any (hu_of hr)) (pv 0) pe_int (fun _ _ => rfl)) pa_nil)) (pa_cons (pv 1) pa_nil))))) (pss_one (ps_raiseF x_BadMotion (hr.mono (by decide)) rfl (takes_of rfl rfl rfl rfl) (by rfl) (pa_cons (pv 1) pa_nil))) pss_nil)),
      fun Xc hE => (sns_if (snt_not (snt_B (snd_callP hE (sna_cons (sno_ex (snd_B opa_len (sna_cons (sno_ex (snd_ix sno_nm (sno_ex snd_int))) sna_nil))) (sna_cons sno_nm sna_nil))))) (sns_raise hE x_BadMotion.oex x_BadMotion.noat (snf_cons snd_vF snf_nil)) sns_next), vc_check_motion C_BadMotion C_BadMany⟩), hm, F.kp, F.bindsN fun _ _ _ _ _ _ us hl => match us, hl with | [_, _], _ => rfl⟩
abbrev s_all_reached : Stmt := top 40
theorem sc_all_reached : FnScope ["motions", "first", "seen", "left", "motion", "other", "more"] ["motions"] (defScope s_all_reached) := ⟨rfl, rfl, rfl, by decide +kernel, rfl, by decide +kernel, by decide +kernel⟩
theorem d_all_reached {P : Program} {w : World} {K : PySem.W.Frag} {mg : Str → Option Value} {base : Heap} {C_BadMany : Addr} {C_BadMotions : Addr} (B : Bl mg) (F0 : DefAt K mg "all_reached" s_all_reached) (H_need_motions : Has P w K mg base "need_motions" 6 ["motions"] (spP (F_need_motions C_BadMany C_BadMotions))) (H_composed : Has P w K mg base "composed" 1 ["motion", "other"] (spP F_composed)) : Has P w K mg base "all_reached" 7 ["motions"] (spP (F_all_reached C_BadMany C_BadMotions)) := by
  obtain ⟨_, _, G_need_motions, m_need_motions, k_need_motions, b_need_motions⟩ := H_need_motions
  obtain ⟨_, _, G_composed, m_composed, k_composed, b_composed⟩ := H_composed
  obtain ⟨f, fd, F, hm⟩ := F0
  exact ⟨f, fd, okP F sc_all_reached (fun ds Kc h => by match ds, h with | [_], _ => rfl) (fun cdv A outer s H E hr => ⟨_, t_all_reached C_BadMany C_BadMotions , (pss_cons (ps_expr (pe_call (E := E) G_need_motions (hr.mono (by decide)) (by rfl) m_need_motions k_need_motions b_need_motions .nil (passes_call (takes_of rfl rfl rfl rfl) (fun _ _ _ _ h => h)) (pa_cons (pv 0) pa_nil)))
      (pss_cons (ps_set (i := 1) sc_all_reached.nd rfl (Or.inl rfl) (pe_tupRg rfl (by rfl) B.tuple (prg_1 (by rfl) B.range (pe_callB (r := rLenA K) call_lenA (by rfl) B.len (by decide +kernel) (pa_cons (pe_ix (ix_any (hu_of hr)) (pv 0) pe_int (fun _ _ => rfl)) pa_nil)))))
      (pss_cons (ps_set (i := 2) sc_all_reached.nd rfl (Or.inl rfl) (pe_disp1T (hu_of hr) (pv 1) pe_bl))
      (pss_cons (ps_set (i := 3) sc_all_reached.nd rfl (Or.inl rfl) (pe_lst (pa_cons (pv 1) pa_nil)))
      (pss_cons (ps_while (passes_of rfl) (pt_cmpR (op_neD hr.units) (pv 3) (pe_lst pa_nil) (nomark _))
      (pss_cons (ps_set (i := 4) sc_all_reached.nd rfl (Or.inl rfl) (pe_bm0 PySem.F.plainAttrs_list PySem.F.slot_list_pop PySem.F.type_list_pop mt_pop (pv 3)))
      (pss_one (ps_for (passes_of rfl) rfl (pi_seq (pv 0)) (pg_name (i := 5) sc_all_reached.nd rfl (Or.inl rfl))
      (pss_cons (ps_set (i := 6) sc_all_reached.nd rfl (Or.inl rfl) (pe_callTy (T := "tuple") (r := rTupOf K) call_tuple_of (by rfl) B.tuple (by decide +kernel) (pa_cons (pe_call (E := E) G_composed (hr.mono (by decide)) (by rfl) m_composed k_composed b_composed .nil (passes_call (takes_of rfl rfl rfl rfl) (fun _ _ _ _ h => h)) (pa_cons (pv 4) (pa_cons (pv 5) pa_nil))) pa_nil)))
      (pss_one (ps_if (pt_cmpR (op_notInA (hu_of hr)) (pv 6) (pv 2) (by rfl)) (pss_cons (ps_dput (hu_of hr) (pv 2) (pv 6) pe_bl rfl)
      (pss_one (ps_expr (pe_bm PySem.F.plainAttrs_list PySem.F.slot_list_append PySem.F.type_list_append mt_append (pv 3) (pa_cons (pv 6) pa_nil))))) pss_nil)))))))
      (pss_one (ps_ret (pe_lc (own := [("motion", 4)]) rfl sc_all_reached.nd (pi_seq (pe_callB cr_sortedA (by rfl) B.sorted (by decide +kernel) (pa_cons (pe_callTy (T := "list") (r := rListA K) (call_listA rfl) (by rfl) B.list (by decide +kernel) (pa_cons (pv 2) pa_nil)) pa_nil))) (blkOk_by (own := [("motion", 4)]) (N := ["motions", "first", "seen", "left", "motion", "other", "more"]) (sc := defScope s_all_reached) (by decide +kernel)) (fun _ _ _ _ _ => (pg_name (i := 4) sc_all_reached.nd rfl (Or.inl rfl))) (fun _ _ _ _ _ => pts_nil) (fun _ _ _ _ _ => (pe_callTy (T := "list") (r := rListA K) (call_listA rfl) (by rfl) B.list (by decide +kernel) (pa_cons (pv 4) pa_nil))))))))))),
      fun Xc hE => (sns_seq (sns_drop (snd_callP hE (sna_cons sno_nm sna_nil)))
      (sns_seq (sns_asg (snd_tupRg1 (sno_ex (snd_B opa_len (sna_cons (sno_ex (snd_ix sno_nm (sno_ex snd_int))) sna_nil)))))
      (sns_seq (sns_asg (snd_disp1T snd_v snd_bl))
      (sns_seq (sns_asg (snd_lst (snf_cons snd_v snf_nil)))
      (sns_seq (sns_while (snt_test (snd_neD sno_nm (sno_ex (snd_lst snf_nil))))
      (sns_seq (sns_asg snd_pop)
      (sns_for (own := [5]) (sni_seq snd_v) (sng_name (i := 5) (by decide))
      (sns_seq (sns_asg (snd_T (opt_tuple (K := K)) (sna_cons (sno_ex (snd_callP hE (sna_cons sno_nm (sna_cons sno_nm sna_nil)))) sna_nil)))
      (sns_if (snt_test (snd_in sno_nm sno_nm)) (sns_seq (sns_dput snd_bl sno_nm)
      (sns_app snd_v)) sns_next)))))
      (sns_ret (snd_lc (own := [4]) (sni_seq (snd_sortedA (sna_cons (sno_ex (snd_listA (sna_cons sno_nm sna_nil))) sna_nil))) (sng_name (i := 4) (by decide)) snt_yes (snd_listA (sna_cons sno_nm sna_nil))))))))), vc_all_reached C_BadMany C_BadMotions⟩), hm, F.kp, F.bindsN fun _ _ _ _ _ _ us hl => match us, hl with | [_], _ => rfl⟩
abbrev s_taken_along : Stmt := top 42
theorem sc_taken_along : FnScope ["motion", "other"] ["motion", "other"] (defScope s_taken_along) := ⟨rfl, rfl, rfl, by decide +kernel, rfl, by decide +kernel, by decide +kernel⟩
theorem d_taken_along {P : Program} {w : World} {K : PySem.W.Frag} {mg : Str → Option Value} {base : Heap} (F0 : DefAt K mg "taken_along" s_taken_along) (H_composed : Has P w K mg base "composed" 1 ["motion", "other"] (spP F_composed)) (H_undone : Has P w K mg base "undone" 1 ["motion"] (spP F_undone)) : Has P w K mg base "taken_along" 2 ["motion", "other"] (spP F_taken_along) := by
  obtain ⟨_, _, G_composed, m_composed, k_composed, b_composed⟩ := H_composed
  obtain ⟨_, _, G_undone, m_undone, k_undone, b_undone⟩ := H_undone
  obtain ⟨f, fd, F, hm⟩ := F0
  exact ⟨f, fd, okP F sc_taken_along (fun ds Kc h => by match ds, h with | [_, _], _ => rfl) (fun cdv A outer s H E hr => ⟨_, t_taken_along  , (pss_one (ps_ret (pe_call (E := E) G_composed (hr.mono (by decide)) (by rfl) m_composed k_composed b_composed .nil (passes_call (takes_of rfl rfl rfl rfl) (fun _ _ _ _ h => h)) (pa_cons (pe_call (E := E) G_composed (hr.mono (by decide)) (by rfl) m_composed k_composed b_composed .nil (passes_call (takes_of rfl rfl rfl rfl) (fun _ _ _ _ h => h)) (pa_cons (pe_call (E := E) G_undone (hr.mono (by decide)) (by rfl) m_undone k_undone b_undone .nil (passes_call (takes_of rfl rfl rfl rfl) (fun _ _ _ _ h => h)) (pa_cons (pv 1) pa_nil)) (pa_cons (pv 0) pa_nil))) (pa_cons (pv 1) pa_nil))))),
      fun Xc hE => (sns_ret (snd_callP hE (sna_cons (sno_ex (snd_callP hE (sna_cons (sno_ex (snd_callP hE (sna_cons sno_nm sna_nil))) (sna_cons sno_nm sna_nil)))) (sna_cons sno_nm sna_nil)))), vc_taken_along⟩), hm, F.kp, F.bindsN fun _ _ _ _ _ _ us hl => match us, hl with | [_, _], _ => rfl⟩
abbrev s_spread_class : Stmt := top 43
theorem sc_spread_class : FnScope ["motions", "motion", "first", "lists", "left", "here", "index", "other", "more"] ["motions", "motion"] (defScope s_spread_class) := ⟨rfl, rfl, rfl, by decide +kernel, rfl, by decide +kernel, by decide +kernel⟩
theorem d_spread_class {P : Program} {w : World} {K : PySem.W.Frag} {mg : Str → Option Value} {base : Heap} (B : Bl mg) (F0 : DefAt K mg "spread_class" s_spread_class) (H_taken_along : Has P w K mg base "taken_along" 2 ["motion", "other"] (spP F_taken_along)) : Has P w K mg base "spread_class" 3 ["motions", "motion"] (spP F_spread_class) := by
  obtain ⟨_, _, G_taken_along, m_taken_along, k_taken_along, b_taken_along⟩ := H_taken_along
  obtain ⟨f, fd, F, hm⟩ := F0
  exact ⟨f, fd, okP F sc_spread_class (fun ds Kc h => by match ds, h with | [_, _], _ => rfl) (fun cdv A outer s H E hr => ⟨_, t_spread_class  , (pss_cons (ps_set (i := 2) sc_spread_class.nd rfl (Or.inl rfl) (pe_callTy (T := "tuple") (r := rTupOf K) call_tuple_of (by rfl) B.tuple (by decide +kernel) (pa_cons (pv 1) pa_nil)))
      (pss_cons (ps_set (i := 3) sc_spread_class.nd rfl (Or.inl rfl) (pe_disp1T (hu_of hr) (pv 2) (pe_lst pa_nil)))
      (pss_cons (ps_set (i := 4) sc_spread_class.nd rfl (Or.inl rfl) (pe_lst (pa_cons (pv 2) pa_nil)))
      (pss_cons (ps_while (passes_of rfl) (pt_cmpR (op_neD hr.units) (pv 4) (pe_lst pa_nil) (nomark _))
      (pss_cons (ps_set (i := 5) sc_spread_class.nd rfl (Or.inl rfl) (pe_bm PySem.F.plainAttrs_list PySem.F.slot_list_pop PySem.F.type_list_pop mt_popAt (pv 4) (pa_cons pe_int pa_nil)))
      (pss_one (ps_for (passes_of rfl) rfl (pi_enumA (by rfl) B.enumerate (pa_cons (pv 0) pa_nil)) (pg_tup rfl (pgs_cons (pg_name (i := 6) sc_spread_class.nd rfl (Or.inl rfl)) (pgs_cons (pg_name (i := 7) sc_spread_class.nd rfl (Or.inl rfl)) pgs_nil)))
      (pss_cons (ps_set (i := 8) sc_spread_class.nd rfl (Or.inl rfl) (pe_callTy (T := "tuple") (r := rTupOf K) call_tuple_of (by rfl) B.tuple (by decide +kernel) (pa_cons (pe_call (E := E) G_taken_along (hr.mono (by decide)) (by rfl) m_taken_along k_taken_along b_taken_along .nil (passes_call (takes_of rfl rfl rfl rfl) (fun _ _ _ _ h => h)) (pa_cons (pv 5) (pa_cons (pv 7) pa_nil))) pa_nil)))
      (pss_one (ps_if (pt_cmpR (op_notInA (hu_of hr)) (pv 8) (pv 3) (by rfl)) (pss_cons (ps_dput (hu_of hr) (pv 3) (pv 8) (pe_op op_cat (pe_ix (ix_any (hu_of hr)) (pv 3) (pv 5) (fun _ _ => rfl)) (pe_lst (pa_cons (pv 6) pa_nil))) rfl)
      (pss_one (ps_expr (pe_bm PySem.F.plainAttrs_list PySem.F.slot_list_append PySem.F.type_list_append mt_append (pv 4) (pa_cons (pv 8) pa_nil))))) pss_nil)))))))
      (pss_one (ps_ret (pv 3))))))),
      fun Xc hE => (sns_seq (sns_asg (snd_tupF (sna_cons sno_nm sna_nil)))
      (sns_seq (sns_asg (snd_disp1T snd_vF (snd_lst snf_nil)))
      (sns_seq (sns_asg (snd_lst (snf_cons snd_vF snf_nil)))
      (sns_seq (sns_while (snt_test (snd_neD sno_nm (sno_ex (snd_lst snf_nil))))
      (sns_seq (sns_asg (snd_popAt (sno_ex snd_int)))
      (sns_for (own := [6, 7]) (sni_enum snd_vF) (sng_tup (is := [6, 7]) rfl (by decide))
      (sns_seq (sns_asg (snd_T (opt_tuple (K := K)) (sna_cons (sno_ex (snd_callP hE (sna_cons sno_nm (sna_cons sno_nm sna_nil)))) sna_nil)))
      (sns_if (snt_test (snd_in sno_nm sno_nm)) (sns_seq (sns_dput (snd_L2 op2l_cat (sno_ex (snd_ixT sno_nm sno_nm)) (sno_ex (snd_lst (snf_cons snd_vF snf_nil)))) sno_nm)
      (sns_app snd_vF)) sns_next)))))
      (sns_ret snd_vF))))), vc_spread_class⟩), hm, F.kp, F.bindsN fun _ _ _ _ _ _ us hl => match us, hl with | [_, _], _ => rfl⟩
abbrev s_ascending : Stmt := top 44
theorem sc_ascending : FnScope ["keys", "key"] ["keys"] (defScope s_ascending) := ⟨rfl, rfl, rfl, by decide +kernel, rfl, by decide +kernel, by decide +kernel⟩
theorem d_ascending {P : Program} {w : World} {K : PySem.W.Frag} {mg : Str → Option Value} {base : Heap} (B : Bl mg) (F0 : DefAt K mg "ascending" s_ascending) : Has P w K mg base "ascending" 1 ["keys"] (spP F_ascending) := by
  obtain ⟨f, fd, F, hm⟩ := F0
  exact ⟨f, fd, okP F sc_ascending (fun ds Kc h => by match ds, h with | [_], _ => rfl) (fun cdv A outer s H E hr => ⟨_, t_ascending  , (pss_one (ps_ret (pe_lc (own := [("key", 1)]) rfl sc_ascending.nd (pi_seq (pe_callB cr_sortedA (by rfl) B.sorted (by decide +kernel) (pa_cons (pe_callTy (T := "list") (r := rListA K) (call_listA rfl) (by rfl) B.list (by decide +kernel) (pa_cons (pv 0) pa_nil)) pa_nil))) (blkOk_by (own := [("key", 1)]) (N := ["keys", "key"]) (sc := defScope s_ascending) (by decide +kernel)) (fun _ _ _ _ _ => (pg_name (i := 1) sc_ascending.nd rfl (Or.inl rfl))) (fun _ _ _ _ _ => pts_nil) (fun _ _ _ _ _ => (pe_callTy (T := "list") (r := rListA K) (call_listA rfl) (by rfl) B.list (by decide +kernel) (pa_cons (pv 1) pa_nil)))))),
      fun Xc _ => (sns_ret (snd_lc (own := [1]) (sni_seq (snd_sortedA (sna_cons (sno_ex (snd_listA (sna_cons sno_nm sna_nil))) sna_nil))) (sng_name (i := 1) (by decide)) snt_yes (snd_listF (sna_cons sno_nm sna_nil)))), vc_ascending⟩), hm, F.kp, F.bindsN fun _ _ _ _ _ _ us hl => match us, hl with | [_], _ => rfl⟩
abbrev s_class_of : Stmt := top 45
theorem sc_class_of : FnScope ["motions", "motion"] ["motions", "motion"] (defScope s_class_of) := ⟨rfl, rfl, rfl, by decide +kernel, rfl, by decide +kernel, by decide +kernel⟩
theorem d_class_of {P : Program} {w : World} {K : PySem.W.Frag} {mg : Str → Option Value} {base : Heap} {C_BadMany : Addr} {C_BadMotions : Addr} {C_BadMotion : Addr} (F0 : DefAt K mg "class_of" s_class_of) (H_need_motions : Has P w K mg base "need_motions" 6 ["motions"] (spP (F_need_motions C_BadMany C_BadMotions))) (H_check_motion : Has P w K mg base "check_motion" 5 ["motions", "motion"] (spN (F_check_motion C_BadMotion C_BadMany))) (H_ascending : Has P w K mg base "ascending" 1 ["keys"] (spP F_ascending)) (H_spread_class : Has P w K mg base "spread_class" 3 ["motions", "motion"] (spP F_spread_class)) : Has P w K mg base "class_of" 7 ["motions", "motion"] (spN (F_class_of C_BadMany C_BadMotions C_BadMotion)) := by
  obtain ⟨_, _, G_need_motions, m_need_motions, k_need_motions, b_need_motions⟩ := H_need_motions
  obtain ⟨_, _, G_check_motion, m_check_motion, k_check_motion, b_check_motion⟩ := H_check_motion
  obtain ⟨_, _, G_ascending, m_ascending, k_ascending, b_ascending⟩ := H_ascending
  obtain ⟨_, _, G_spread_class, m_spread_class, k_spread_class, b_spread_class⟩ := H_spread_class
  obtain ⟨f, fd, F, hm⟩ := F0
  exact ⟨f, fd, okN F sc_class_of (fun ds Kc h => by match ds, h with | [_, _], _ => rfl) (fun cdv A outer s H Bb E hr => ⟨_, t_class_of C_BadMany C_BadMotions C_BadMotion , (pss_cons (ps_expr (pe_call (E := E) G_need_motions (hr.mono (by decide)) (by rfl) m_need_motions k_need_motions b_need_motions .nil (passes_call (takes_of rfl rfl rfl rfl) (fun _ _ _ _ h => h)) (pa_cons (pv 0) pa_nil)))
      (pss_cons (ps_expr (pe_call (E := E) G_check_motion (hr.mono (by decide)) (by rfl) m_check_motion k_check_motion b_check_motion .nil (passes_call (takes_of rfl rfl rfl rfl) (fun _ _ _ _ h => h)) (pa_cons (pv 0) (pa_cons (pv 1) pa_nil))))
      (pss_one (ps_ret (pe_call (E := E) G_ascending (hr.mono (by decide)) (by rfl) m_ascending k_ascending b_ascending .nil (passes_call (takes_of rfl rfl rfl rfl) (fun _ _ _ _ h => h)) (pa_cons (pe_call (E := E) G_spread_class (hr.mono (by decide)) (by rfl) m_spread_class k_spread_class b_spread_class .nil (passes_call (takes_of rfl rfl rfl rfl) (fun _ _ _ _ h => h)) (pa_cons (pv 0) (pa_cons (pv 1) pa_nil))) pa_nil)))))),
      fun Xc hE => (sns_seq (sns_drop (snd_callP hE (sna_cons sno_nm sna_nil)))
      (sns_seq (sns_drop (snd_callN hE (snf_cons snd_vF (snf_cons snd_vF snf_nil))))
      (sns_ret (snd_callP hE (sna_cons (sno_ex (snd_callP hE (sna_cons sno_nm (sna_cons sno_nm sna_nil)))) sna_nil))))), vc_class_of C_BadMany C_BadMotions C_BadMotion⟩), hm, F.kp, F.bindsN fun _ _ _ _ _ _ us hl => match us, hl with | [_, _], _ => rfl⟩
abbrev s_classes : Stmt := top 46
theorem sc_classes : FnScope ["motions", "found", "seen", "motion", "some", "one"] ["motions"] (defScope s_classes) := ⟨rfl, rfl, rfl, by decide +kernel, rfl, by decide +kernel, by decide +kernel⟩
theorem d_classes {P : Program} {w : World} {K : PySem.W.Frag} {mg : Str → Option Value} {base : Heap} {C_BadMany : Addr} {C_BadMotions : Addr} (B : Bl mg) (F0 : DefAt K mg "classes" s_classes) (H_all_reached : Has P w K mg base "all_reached" 7 ["motions"] (spP (F_all_reached C_BadMany C_BadMotions))) (H_ascending : Has P w K mg base "ascending" 1 ["keys"] (spP F_ascending)) (H_spread_class : Has P w K mg base "spread_class" 3 ["motions", "motion"] (spP F_spread_class)) : Has P w K mg base "classes" 8 ["motions"] (spP (F_classes C_BadMany C_BadMotions)) := by
  obtain ⟨_, _, G_all_reached, m_all_reached, k_all_reached, b_all_reached⟩ := H_all_reached
  obtain ⟨_, _, G_ascending, m_ascending, k_ascending, b_ascending⟩ := H_ascending
  obtain ⟨_, _, G_spread_class, m_spread_class, k_spread_class, b_spread_class⟩ := H_spread_class
  obtain ⟨f, fd, F, hm⟩ := F0
  exact ⟨f, fd, okP F sc_classes (fun ds Kc h => by match ds, h with | [_], _ => rfl) (fun cdv A outer s H E hr => ⟨_, t_classes C_BadMany C_BadMotions , (pss_cons (ps_set (i := 1) sc_classes.nd rfl (Or.inl rfl) (pe_lst pa_nil))
      (pss_cons (ps_set (i := 2) sc_classes.nd rfl (Or.inl rfl) pe_dnewA)
      (pss_cons (ps_for (passes_of rfl) rfl (pi_seq (pe_call (E := E) G_all_reached (hr.mono (by decide)) (by rfl) m_all_reached k_all_reached b_all_reached .nil (passes_call (takes_of rfl rfl rfl rfl) (fun _ _ _ _ h => h)) (pa_cons (pv 0) pa_nil))) (pg_name (i := 3) sc_classes.nd rfl (Or.inl rfl))
      (pss_one (ps_if (pt_cmpR (op_notInA (hu_of hr)) (pe_callTy (T := "tuple") (r := rTupOf K) call_tuple_of (by rfl) B.tuple (by decide +kernel) (pa_cons (pv 3) pa_nil)) (pv 2) (by rfl)) (pss_cons (ps_set (i := 4) sc_classes.nd rfl (Or.inl rfl) (pe_call (E := E) G_ascending (hr.mono (by decide)) (by rfl) m_ascending k_ascending b_ascending .nil (passes_call (takes_of rfl rfl rfl rfl) (fun _ _ _ _ h => h)) (pa_cons (pe_call (E := E) G_spread_class (hr.mono (by decide)) (by rfl) m_spread_class k_spread_class b_spread_class .nil (passes_call (takes_of rfl rfl rfl rfl) (fun _ _ _ _ h => h)) (pa_cons (pv 0) (pa_cons (pv 3) pa_nil))) pa_nil)))
      (pss_cons (ps_expr (pe_bm PySem.F.plainAttrs_list PySem.F.slot_list_append PySem.F.type_list_append mt_append (pv 1) (pa_cons (pv 4) pa_nil)))
      (pss_one (ps_expr (pe_bm PySem.F.plainAttrs_dict PySem.F.slot_dict_update PySem.F.type_dict_update (mt_updT (hu_of hr)) (pv 2) (pa_cons (pe_dcA (hu_of hr) (own := [("one", 5)]) rfl sc_classes.nd (pi_seq (pv 4)) (blkOk_by (own := [("one", 5)]) (N := ["motions", "found", "seen", "motion", "some", "one"]) (sc := defScope s_classes) (by decide +kernel)) (fun _ _ _ _ _ => (pg_name (i := 5) sc_classes.nd rfl (Or.inl rfl))) (fun _ _ _ _ _ => pts_nil) (fun _ _ _ _ _ => (pe_callTy (T := "tuple") (r := rTupOf K) call_tuple_of (by rfl) B.tuple (by decide +kernel) (pa_cons (pv 5) pa_nil))) (fun _ _ _ _ _ => pe_bl)) pa_nil)))))) pss_nil)))
      (pss_one (ps_ret (pv 1)))))),
      fun Xc hE => (sns_seq (sns_asg (snd_lst snf_nil))
      (sns_seq (sns_asg snd_dictA)
      (sns_seq (sns_for (own := [3]) (sni_seq (snd_callP hE (sna_cons sno_nm sna_nil))) (sng_name (i := 3) (by decide))
      (sns_if (snt_test (snd_in (sno_ex (snd_tupF (sna_cons sno_nm sna_nil))) sno_nm)) (sns_seq (sns_asg (snd_callP hE (sna_cons (sno_ex (snd_callP hE (sna_cons sno_nm (sna_cons sno_nm sna_nil)))) sna_nil)))
      (sns_seq (sns_app snd_vF)
      (sns_updT (snd_dcA (own := [5]) (sni_seq snd_vF) (sng_name (i := 5) (by decide)) snt_yes (snd_tupF (sna_cons sno_nm sna_nil)) snd_bl)))) sns_next))
      (sns_ret snd_vF)))), vc_classes C_BadMany C_BadMotions⟩), hm, F.kp, F.bindsN fun _ _ _ _ _ _ us hl => match us, hl with | [_], _ => rfl⟩
abbrev s_shape : Stmt := top 48
theorem sc_shape : FnScope ["motion", "rings", "found", "ring", "place"] ["motion"] (defScope s_shape) := ⟨rfl, rfl, rfl, by decide +kernel, rfl, by decide +kernel, by decide +kernel⟩
theorem d_shape {P : Program} {w : World} {K : PySem.W.Frag} {mg : Str → Option Value} {base : Heap} {C_BadMotion : Addr} (B : Bl mg) (F0 : DefAt K mg "shape" s_shape) (H_rings_of : Has P w K mg base "rings_of" 5 ["motion"] (spN (F_rings_of C_BadMotion))) : Has P w K mg base "shape" 6 ["motion"] (spN (F_shape C_BadMotion)) := by
  obtain ⟨_, _, G_rings_of, m_rings_of, k_rings_of, b_rings_of⟩ := H_rings_of
  obtain ⟨f, fd, F, hm⟩ := F0
  exact ⟨f, fd, okN F sc_shape (fun ds Kc h => by match ds, h with | [_], _ => rfl) (fun cdv A outer s H Bb E hr => ⟨_, t_shape C_BadMotion , (pss_cons (ps_set (i := 1) sc_shape.nd rfl (Or.inl rfl) (pe_call (E := E) G_rings_of (hr.mono (by decide)) (by rfl) m_rings_of k_rings_of b_rings_of .nil (passes_call (takes_of rfl rfl rfl rfl) (fun _ _ _ _ h => h)) (pa_cons (pv 0) pa_nil)))
      (pss_cons (ps_setLc (i := 2) (own := [("ring", 3)]) rfl sc_shape.nd rfl rfl (sw_true rfl rfl rfl (by decide +kernel)) (pi_seq (pv 1)) (blkOk_by (own := [("ring", 3)]) (N := ["motion", "rings", "found", "ring", "place"]) (sc := defScope s_shape) (by decide +kernel)) (fun _ _ _ _ _ => (pg_name (i := 3) sc_shape.nd rfl (Or.inl rfl))) (fun _ _ _ _ _ => pts_nil) (fun _ _ _ _ _ => (pe_callB (r := rLenA K) call_lenA (by rfl) B.len (by decide +kernel) (pa_cons (pv 3) pa_nil))))
      (pss_cons (ps_expr (pe_bm PySem.F.plainAttrs_list PySem.F.slot_list_extend PySem.F.type_list_extend mt_extend (pv 2) (pa_cons (pe_lc (own := [("place", 4)]) rfl sc_shape.nd (pi_range1 (by rfl) B.range (pa_cons (pe_op op_sub (pe_callB (r := rLenA K) call_lenA (by rfl) B.len (by decide +kernel) (pa_cons (pv 0) pa_nil)) (pe_callB (r := rSum K) (cr_sum rfl) (by rfl) B.sum (by decide +kernel) (pa_cons (pv 2) pa_nil))) pa_nil)) (blkOk_by (own := [("place", 4)]) (N := ["motion", "rings", "found", "ring", "place"]) (sc := defScope s_shape) (by decide +kernel)) (fun _ _ _ _ _ => (pg_name (i := 4) sc_shape.nd rfl (Or.inl rfl))) (fun _ _ _ _ _ => pts_nil) (fun _ _ _ _ _ => pe_int)) pa_nil)))
      (pss_one (ps_ret (pe_revL (pe_callB cr_sortedA (by rfl) B.sorted (by decide +kernel) (pa_cons (pv 2) pa_nil)))))))),
      fun Xc hE => (sns_seq (sns_asg (snd_callN hE (snf_cons snd_vF snf_nil)))
      (sns_seq (sns_asg (snd_lc (own := [3]) (sni_seq snd_vF) (sng_name (i := 3) (by decide)) snt_yes (snd_B opa_len (sna_cons sno_nm sna_nil))))
      (sns_seq (sns_ext (snd_lc (own := [4]) (sni_rng1 (sna_cons (sno_ex (snd_I0 (f := fun i j => .int (i - j)) (fun _ _ => rfl) (sno_ex (snd_B opa_len (sna_cons sno_nm sna_nil))) (sno_ex (snd_B opa_sum (sna_cons sno_nm sna_nil))))) sna_nil)) (sng_name (i := 4) (by decide)) snt_yes snd_int))
      (sns_ret (snd_revL (sno_ex (snd_sortedA (sna_cons sno_nm sna_nil)))))))), vc_shape C_BadMotion⟩), hm, F.kp, F.bindsN fun _ _ _ _ _ _ us hl => match us, hl with | [_], _ => rfl⟩
abbrev s_law_start : Stmt := top 50
theorem sc_law_start : FnScope ["script"] ["script"] (defScope s_law_start) := ⟨rfl, rfl, rfl, by decide +kernel, rfl, by decide +kernel, by decide +kernel⟩
theorem d_law_start {P : Program} {w : World} {K : PySem.W.Frag} {mg : Str → Option Value} {base : Heap} (B : Bl mg) (F0 : DefAt K mg "_law_start" s_law_start) : Has P w K mg base "_law_start" 1 ["script"] (spStart K) := by
  obtain ⟨f, fd, F, hm⟩ := F0
  exact ⟨f, fd, F.ok sc_law_start (fun vs H Q E ⟨a, ns, e, _⟩ => by rw [e]; rfl) (fun cdv A outer s H vs Q E hr h => ⟨_, (pss_one (ps_ret (pe_lst (pa_cons (pe_callTy (T := "list") (r := rListA K) (call_listA rfl) (by rfl) B.list (by decide +kernel) (pa_cons (pv 0) pa_nil)) (pa_cons pe_int (pa_cons pe_int (pa_cons pe_int pa_nil))))))), start_walk h⟩), hm, F.kp, F.bindsN fun _ _ _ _ _ _ us hl => match us, hl with | [_], _ => rfl⟩
abbrev s_law_pick : Stmt := top 51
theorem sc_law_pick : FnScope ["state", "many", "cell", "digit", "mixed"] ["state", "many"] (defScope s_law_pick) := ⟨rfl, rfl, rfl, by decide +kernel, rfl, by decide +kernel, by decide +kernel⟩
theorem d_law_pick {P : Program} {w : World} {K : PySem.W.Frag} {mg : Str → Option Value} {base : Heap} (B : Bl mg) (F0 : DefAt K mg "_law_pick" s_law_pick) : Has P w K mg base "_law_pick" 1 ["state", "many"] (spD F_law_pick) := by
  obtain ⟨f, fd, F, hm⟩ := F0
  exact ⟨f, fd, okD F sc_law_pick (fun g ds Kc h => by match ds, h with | [_], _ => rfl) (fun cdv A outer s H G0 E hr => ⟨_, t_law_pick  , (pss_cons (ps_asg (pe_op op_add (pe_ix (ix_any (hu_of hr)) (pv 0) pe_int (fun _ _ => rfl)) pe_int) (pg_sub (pv 0) pe_int set_list))
      (pss_cons (ps_while (passes_of rfl) (PW.pt (pw_and (pt_cmpR op_eq (pe_ix (ix_any (hu_of hr)) (pv 0) pe_int (fun _ _ => rfl)) pe_int (nomark _)) (pw_and1 (pt_cmpR (op_neD hr.units) (pe_ix (ix_any (hu_of hr)) (pv 0) pe_int (fun _ _ => rfl)) (pe_lst pa_nil) (nomark _)))))
      (pss_cons (ps_set (i := 2) sc_law_pick.nd rfl (Or.inl rfl) (pe_callB call_abs (by rfl) B.abs (by decide +kernel) (pa_cons (pe_bm PySem.F.plainAttrs_list PySem.F.slot_list_pop PySem.F.type_list_pop mt_popAt (pe_ix (ix_any (hu_of hr)) (pv 0) pe_int (fun _ _ => rfl)) (pa_cons pe_int pa_nil)) pa_nil)))
      (pss_cons (ps_asg (pe_op op_mod (pe_callTy (T := "int") call_int1 (by rfl) B.int (by decide +kernel) (pa_cons (pe_op op_add (pe_op op_add (pe_op op_mul (pe_ix (ix_any (hu_of hr)) (pv 0) pe_int (fun _ _ => rfl)) pe_int) (pv 2)) pe_int) pa_nil)) pe_int) (pg_sub (pv 0) pe_int set_list))
      (pss_one (ps_asg (pe_ifExp (pt_cmpR op_ge (pv 2) (pe_op op_pow pe_int pe_int) (nomark _)) (pv 2) pe_int) (pg_sub (pv 0) pe_int set_list))))))
      (pss_cons (ps_if (pt_cmpR op_gt (pe_ix (ix_any (hu_of hr)) (pv 0) pe_int (fun _ _ => rfl)) pe_int (nomark _)) (pss_cons (ps_set (i := 3) sc_law_pick.nd rfl (Or.inl rfl) (pe_op op_mod (pe_callTy (T := "int") call_int1 (by rfl) B.int (by decide +kernel) (pa_cons (pe_ix (ix_any (hu_of hr)) (pv 0) pe_int (fun _ _ => rfl)) pa_nil)) (pv 1)))
      (pss_cons (ps_asg (pe_op op_fdiv (pe_ix (ix_any (hu_of hr)) (pv 0) pe_int (fun _ _ => rfl)) (pv 1)) (pg_sub (pv 0) pe_int set_list))
      (pss_one (ps_ret (pv 3))))) pss_nil)
      (pss_cons (ps_set (i := 4) sc_law_pick.nd rfl (Or.inl rfl) (pe_op op_mod (pe_callTy (T := "int") call_int1 (by rfl) B.int (by decide +kernel) (pa_cons (pe_op op_pow (pe_op op_add (pe_op op_add (pe_ix (ix_any (hu_of hr)) (pv 0) pe_int (fun _ _ => rfl)) (pe_op op_mul pe_int (pe_ix (ix_any (hu_of hr)) (pv 0) pe_int (fun _ _ => rfl)))) pe_int) pe_int) pa_nil)) pe_int))
      (pss_one (ps_ret (pe_op op_mod (pe_op op_mod (pe_callTy (T := "int") call_int1 (by rfl) B.int (by decide +kernel) (pa_cons (pe_op op_pow (pe_op op_add (pe_op op_add (pe_op op_mul (pv 4) pe_int) (pe_op op_mul pe_int (pe_ix (ix_any (hu_of hr)) (pv 0) pe_int (fun _ _ => rfl)))) pe_int) pe_int) pa_nil)) pe_int) (pv 1)))))))),
      (sns_seq (sns_stSet (snd_I0 (f := fun i j => .int (i + j)) (fun _ _ => rfl) (sno_ex snd_stIx) (sno_ex snd_int)))
      (sns_seq (sns_while (snt_and (snt_test (snd_op2 op2_eq (sno_ex snd_stIx) (sno_ex snd_int))) (snt_test snd_stNe))
      (sns_seq (sns_asg (snd_B opa_abs (sna_cons (sno_ex snd_stPop) sna_nil)))
      (sns_seq (sns_stSet (snd_I (f := fun i j => .int (i % j)) (fun _ _ => rfl) (sno_ex (snd_B opa_int (sna_cons (sno_ex (snd_I0 (f := fun i j => .int (i + j)) (fun _ _ => rfl) (sno_ex (snd_I0 (f := fun i j => .int (i + j)) (fun _ _ => rfl) (sno_ex (snd_I (f := fun i j => .int (i * j)) (fun _ _ => rfl) (sno_ex snd_stIx) (sno_ex snd_int))) sno_nm)) (sno_ex snd_int))) sna_nil))) (sno_ex snd_int)))
      (sns_stSet (snd_if (snt_test (snd_I0 (f := fun i j => .bl (decide (j ≤ i))) (fun _ _ => rfl) sno_nm (sno_ex (snd_I (f := fun i j => .int (i ^ j.toNat)) (fun _ _ => rfl) (sno_ex snd_int) (sno_ex snd_int))))) snd_v snd_int)))))
      (sns_seq (sns_if (snt_test (snd_I0 (f := fun i j => .bl (decide (j < i))) (fun _ _ => rfl) (sno_ex snd_stIx) (sno_ex snd_int))) (sns_seq (sns_asg (snd_I (f := fun i j => .int (i % j)) (fun _ _ => rfl) (sno_ex (snd_B opa_int (sna_cons (sno_ex snd_stIx) sna_nil))) sno_nm))
      (sns_seq (sns_stSet (snd_I (f := fun i j => .int (i / j)) (fun _ _ => rfl) (sno_ex snd_stIx) sno_nm))
      (sns_ret snd_v))) sns_next)
      (sns_seq (sns_asg (snd_I (f := fun i j => .int (i % j)) (fun _ _ => rfl) (sno_ex (snd_B opa_int (sna_cons (sno_ex (snd_I (f := fun i j => .int (i ^ j.toNat)) (fun _ _ => rfl) (sno_ex (snd_I0 (f := fun i j => .int (i + j)) (fun _ _ => rfl) (sno_ex (snd_I0 (f := fun i j => .int (i + j)) (fun _ _ => rfl) (sno_ex snd_stIx) (sno_ex (snd_I (f := fun i j => .int (i * j)) (fun _ _ => rfl) (sno_ex snd_int) (sno_ex snd_stIx))))) (sno_ex snd_int))) (sno_ex snd_int))) sna_nil))) (sno_ex snd_int)))
      (sns_ret (snd_I (f := fun i j => .int (i % j)) (fun _ _ => rfl) (sno_ex (snd_I (f := fun i j => .int (i % j)) (fun _ _ => rfl) (sno_ex (snd_B opa_int (sna_cons (sno_ex (snd_I (f := fun i j => .int (i ^ j.toNat)) (fun _ _ => rfl) (sno_ex (snd_I0 (f := fun i j => .int (i + j)) (fun _ _ => rfl) (sno_ex (snd_I0 (f := fun i j => .int (i + j)) (fun _ _ => rfl) (sno_ex (snd_I (f := fun i j => .int (i * j)) (fun _ _ => rfl) sno_nm (sno_ex snd_int))) (sno_ex (snd_I (f := fun i j => .int (i * j)) (fun _ _ => rfl) (sno_ex snd_int) (sno_ex snd_stIx))))) (sno_ex snd_int))) (sno_ex snd_int))) sna_nil))) (sno_ex snd_int))) sno_nm)))))), vc_law_pick⟩), hm, F.kp, F.bindsN fun _ _ _ _ _ _ us hl => match us, hl with | [_, _], _ => rfl⟩
abbrev s_law_between : Stmt := top 52
theorem sc_law_between : FnScope ["state", "low", "high"] ["state", "low", "high"] (defScope s_law_between) := ⟨rfl, rfl, rfl, by decide +kernel, rfl, by decide +kernel, by decide +kernel⟩
theorem d_law_between {P : Program} {w : World} {K : PySem.W.Frag} {mg : Str → Option Value} {base : Heap} (B : Bl mg) (F0 : DefAt K mg "_law_between" s_law_between) (H_law_pick : Has P w K mg base "_law_pick" 1 ["state", "many"] (spD F_law_pick)) : Has P w K mg base "_law_between" 2 ["state", "low", "high"] (spD F_law_between) := by
  obtain ⟨_, _, G_law_pick, m_law_pick, k_law_pick, b_law_pick⟩ := H_law_pick
  obtain ⟨f, fd, F, hm⟩ := F0
  exact ⟨f, fd, okD F sc_law_between (fun g ds Kc h => by match ds, h with | [_, _], _ => rfl) (fun cdv A outer s H G0 E hr => ⟨_, t_law_between  , (pss_one (ps_ret (pe_op op_add (pv 1) (pe_call (E := E0) G_law_pick (hr.mono (by decide)) (by rfl) m_law_pick k_law_pick b_law_pick .nil passL (pa_cons (pv 0) (pa_cons (pe_op op_add (pe_callB (call_max2 rfl) (by rfl) B.max (by decide +kernel) (pa_cons (pe_op op_sub (pv 2) (pv 1)) (pa_cons pe_int pa_nil))) pe_int) pa_nil)))))),
      (sns_ret (snd_I0 (f := fun i j => .int (i + j)) (fun _ _ => rfl) sno_nm (sno_ex (snd_callD (sna_cons (sno_ex (snd_I0 (f := fun i j => .int (i + j)) (fun _ _ => rfl) (sno_ex (snd_B opa_max2 (sna_cons (sno_ex (snd_I0 (f := fun i j => .int (i - j)) (fun _ _ => rfl) sno_nm sno_nm)) (sna_cons (sno_ex snd_int) sna_nil)))) (sno_ex snd_int))) sna_nil))))), vc_law_between⟩), hm, F.kp, F.bindsN fun _ _ _ _ _ _ us hl => match us, hl with | [_, _, _], _ => rfl⟩
abbrev s_law_one : Stmt := top 53
theorem sc_law_one : FnScope ["state", "things"] ["state", "things"] (defScope s_law_one) := ⟨rfl, rfl, rfl, by decide +kernel, rfl, by decide +kernel, by decide +kernel⟩
theorem d_law_one {P : Program} {w : World} {K : PySem.W.Frag} {mg : Str → Option Value} {base : Heap} (B : Bl mg) (F0 : DefAt K mg "_law_one" s_law_one) (H_law_pick : Has P w K mg base "_law_pick" 1 ["state", "many"] (spD F_law_pick)) : Has P w K mg base "_law_one" 2 ["state", "things"] (spDA F_law_one) := by
  obtain ⟨_, _, G_law_pick, m_law_pick, k_law_pick, b_law_pick⟩ := H_law_pick
  obtain ⟨f, fd, F, hm⟩ := F0
  exact ⟨f, fd, okDA F sc_law_one (fun g ds Kc h => by match ds, h with | [_], _ => rfl) (fun cdv A outer s H G0 E hr => ⟨_, t_law_one  , (pss_one (ps_ret (pe_ix (ix_any (hu_of hr)) (pv 1) (pe_call (E := E0) G_law_pick (hr.mono (by decide)) (by rfl) m_law_pick k_law_pick b_law_pick .nil passL (pa_cons (pv 0) (pa_cons (pe_callB (r := rLenA K) call_lenA (by rfl) B.len (by decide +kernel) (pa_cons (pv 1) pa_nil)) pa_nil))) (fun _ _ => rfl)))),
      (sns_ret (snd_ix sno_nm (sno_ex (snd_callD (sna_cons (sno_ex (snd_B opa_len (sna_cons sno_nm sna_nil))) sna_nil))))), vc_law_one⟩), hm, F.kp, F.bindsN fun _ _ _ _ _ _ us hl => match us, hl with | [_, _], _ => rfl⟩
abbrev s_law_mixed : Stmt := top 54
theorem sc_law_mixed : FnScope ["state", "things", "left", "found", "k"] ["state", "things"] (defScope s_law_mixed) := ⟨rfl, rfl, rfl, by decide +kernel, rfl, by decide +kernel, by decide +kernel⟩
theorem d_law_mixed {P : Program} {w : World} {K : PySem.W.Frag} {mg : Str → Option Value} {base : Heap} (B : Bl mg) (F0 : DefAt K mg "_law_mixed" s_law_mixed) (H_law_pick : Has P w K mg base "_law_pick" 1 ["state", "many"] (spD F_law_pick)) : Has P w K mg base "_law_mixed" 2 ["state", "things"] (spD F_law_mixed) := by
  obtain ⟨_, _, G_law_pick, m_law_pick, k_law_pick, b_law_pick⟩ := H_law_pick
  obtain ⟨f, fd, F, hm⟩ := F0
  exact ⟨f, fd, okD F sc_law_mixed (fun g ds Kc h => by match ds, h with | [_], _ => rfl) (fun cdv A outer s H G0 E hr => ⟨_, t_law_mixed  , (pss_cons (ps_par (i := 2) (j := 3) (by rfl) sc_law_mixed.nd rfl rfl (by decide) rfl rfl (pa_cons (pe_callTy (T := "list") (r := rListA K) (call_listA rfl) (by rfl) B.list (by decide +kernel) (pa_cons (pv 1) pa_nil)) (pa_cons (pe_lst pa_nil) pa_nil)) (by rfl))
      (pss_cons (ps_for (passes_of rfl) rfl (pi_range1 (by rfl) B.range (pa_cons (pe_callB (r := rLenA K) call_lenA (by rfl) B.len (by decide +kernel) (pa_cons (pv 2) pa_nil)) pa_nil)) (pg_name (i := 4) sc_law_mixed.nd rfl (Or.inl rfl))
      (pss_one (ps_expr (pe_bm PySem.F.plainAttrs_list PySem.F.slot_list_append PySem.F.type_list_append mt_append (pv 3) (pa_cons (pe_bm PySem.F.plainAttrs_list PySem.F.slot_list_pop PySem.F.type_list_pop mt_popAt (pv 2) (pa_cons (pe_call (E := E0) G_law_pick (hr.mono (by decide)) (by rfl) m_law_pick k_law_pick b_law_pick .nil passL (pa_cons (pv 0) (pa_cons (pe_callB (r := rLenA K) call_lenA (by rfl) B.len (by decide +kernel) (pa_cons (pv 2) pa_nil)) pa_nil))) pa_nil)) pa_nil)))))
      (pss_one (ps_ret (pv 3))))),
      (sns_seq (sns_par (snd_listA (sna_cons sno_nm sna_nil)) (snd_lst snf_nil))
      (sns_seq (sns_for (own := [4]) (sni_rng1 (sna_cons (sno_ex (snd_B opa_len (sna_cons sno_nm sna_nil))) sna_nil)) (sng_name (i := 4) (by decide))
      (sns_app (snd_popAt (sno_ex (snd_callD (sna_cons (sno_ex (snd_B opa_len (sna_cons sno_nm sna_nil))) sna_nil))))))
      (sns_ret snd_v))), vc_law_mixed⟩), hm, F.kp, F.bindsN fun _ _ _ _ _ _ us hl => match us, hl with | [_, _], _ => rfl⟩
abbrev s_law_same : Stmt := top 55
theorem sc_law_same : FnScope ["found", "due", "mine", "theirs", "key"] ["found", "due"] (defScope s_law_same) := ⟨rfl, rfl, rfl, by decide +kernel, rfl, by decide +kernel, by decide +kernel⟩
theorem d_law_same {P : Program} {w : World} {K : PySem.W.Frag} {mg : Str → Option Value} {base : Heap} (B : Bl mg) (F0 : DefAt K mg "_law_same" s_law_same) : ∀ n : Nat, Has P w K mg base "_law_same" (n + 1) ["found", "due"] (spP (F_law_same n))
  | 0 => Has.none F0 (no_law_same) (fun f fd F => F.bindsN fun _ _ _ _ _ _ us hl => match us, hl with | [_, _], _ => rfl)
  | n + 1 => by
    obtain ⟨_, _, G_law_same, m_law_same, k_law_same, b_law_same⟩ := d_law_same B F0  n
    obtain ⟨f, fd, F, hm⟩ := F0
    exact ⟨f, fd, okP F sc_law_same (fun ds Kc h => by match ds, h with | [_, _], _ => rfl) (fun cdv A outer s H E hr => ⟨_, t_law_same  (F_law_same n), (pss_cons (ps_if (pt_val (pe_callB call_isiT (by rfl) B.isinstance (by decide +kernel) (pa_cons (pv 1) (pa_cons (pe_tup (pa_cons (pe_bltn (v := .ty "list") (by rfl) B.list (by decide +kernel) rfl) (pa_cons (pe_bltn (v := .ty "tuple") (by rfl) B.tuple (by decide +kernel) rfl) pa_nil))) pa_nil)))) (pss_cons (ps_if (PW.pt (pw_or (pt_cmpR op_ne (pe_callB call_isi (by rfl) B.isinstance (by decide +kernel) (pa_cons (pv 0) (pa_cons (pe_bltn (v := .ty "list") (by rfl) B.list (by decide +kernel) rfl) pa_nil))) (pe_callB call_isi (by rfl) B.isinstance (by decide +kernel) (pa_cons (pv 1) (pa_cons (pe_bltn (v := .ty "list") (by rfl) B.list (by decide +kernel) rfl) pa_nil))) (nomark _)) (pw_or1 (pt_cmpR op_ne (pe_callB call_isi (by rfl) B.isinstance (by decide +kernel) (pa_cons (pv 0) (pa_cons (pe_bltn (v := .ty "tuple") (by rfl) B.tuple (by decide +kernel) rfl) pa_nil))) (pe_callB call_isi (by rfl) B.isinstance (by decide +kernel) (pa_cons (pv 1) (pa_cons (pe_bltn (v := .ty "tuple") (by rfl) B.tuple (by decide +kernel) rfl) pa_nil))) (nomark _))))) (pss_one (ps_ret pe_bl)) pss_nil)
      (pss_one (ps_ret (pe_and (pe_cmpR op_eq (pe_callB (r := rLenA K) call_lenA (by rfl) B.len (by decide +kernel) (pa_cons (pv 0) pa_nil)) (pe_callB (r := rLenA K) call_lenA (by rfl) B.len (by decide +kernel) (pa_cons (pv 1) pa_nil)) (nomark _)) (pe_one (pe_callB (r := rAll K) (cr_all rfl) (by rfl) B.all (by decide +kernel) (pa_cons (pe_lc (own := [("mine", 2), ("theirs", 3)]) rfl sc_law_same.nd (RZ.pi_zipA (by rfl) B.zip (pa_cons (pv 0) (pa_cons (pv 1) pa_nil))) (blkOk_by (own := [("mine", 2), ("theirs", 3)]) (N := ["found", "due", "mine", "theirs", "key"]) (sc := defScope s_law_same) (by decide +kernel)) (fun _ _ _ _ _ => (pg_tupK (K' := K) (n := 2) rfl rfl (pgs_cons (pg_name (i := 2) sc_law_same.nd rfl (Or.inl rfl)) (pgs_cons (pg_name (i := 3) sc_law_same.nd rfl (Or.inl rfl)) pgs_nil)))) (fun _ _ _ _ _ => pts_nil) (fun _ _ _ _ _ => (pe_call (E := E0) G_law_same (hr.mono (by omega)) (by rfl) m_law_same k_law_same b_law_same .nil passL (pa_cons (pv 2) (pa_cons (pv 3) pa_nil))))) pa_nil))))))) pss_nil)
      (pss_cons (ps_if (pt_val (pe_callB call_isi (by rfl) B.isinstance (by decide +kernel) (pa_cons (pv 1) (pa_cons (pe_bltn (v := .ty "dict") (by rfl) B.dict (by decide +kernel) rfl) pa_nil)))) (pss_cons (ps_if (PW.pt (pw_or (pt_not (pt_val (pe_callB call_isi (by rfl) B.isinstance (by decide +kernel) (pa_cons (pv 0) (pa_cons (pe_bltn (v := .ty "dict") (by rfl) B.dict (by decide +kernel) rfl) pa_nil))))) (pw_or1 (pt_not (pt_val (pe_call (E := E) G_law_same (hr.mono (by omega)) (by rfl) m_law_same k_law_same b_law_same .nil (passes_call (takes_of rfl rfl rfl rfl) (fun _ _ _ _ h => h)) (pa_cons (pe_callTy (T := "list") (r := rListA K) (call_listA rfl) (by rfl) B.list (by decide +kernel) (pa_cons (pv 0) pa_nil)) (pa_cons (pe_callTy (T := "list") (r := rListA K) (call_listA rfl) (by rfl) B.list (by decide +kernel) (pa_cons (pv 1) pa_nil)) pa_nil)))))))) (pss_one (ps_ret pe_bl)) pss_nil)
      (pss_one (ps_ret (pe_callB (r := rAll K) (cr_all rfl) (by rfl) B.all (by decide +kernel) (pa_cons (pe_lcK (pe_lc (own := [("key", 4)]) rfl sc_law_same.nd (pi_keys (pv 1)) (blkOk_by (own := [("key", 4)]) (N := ["found", "due", "mine", "theirs", "key"]) (sc := defScope s_law_same) (by decide +kernel)) (fun _ _ _ _ _ => (pg_name (i := 4) sc_law_same.nd rfl (Or.inl rfl))) (fun _ _ _ _ _ => pts_nil) (fun _ _ _ _ _ => (pe_call (E := E0) G_law_same (hr.mono (by omega)) (by rfl) m_law_same k_law_same b_law_same .nil passL (pa_cons (pe_ix (r := rIxA K) (ix_any (hu_of hr)) (pv 0) (pv 4) (fun _ _ => rfl)) (pa_cons (pe_ix (r := rIxA K) (ix_any (hu_of hr)) (pv 1) (pv 4) (fun _ _ => rfl)) pa_nil)))))) pa_nil))))) pss_nil)
      (pss_cons (ps_if (pt_cmpR op_isN (pv 1) pe_non (nomark _)) (pss_one (ps_ret (pe_cmpR op_isN (pv 0) pe_non (nomark _)))) pss_nil)
      (pss_cons (ps_if (pt_val (pe_callB call_isi (by rfl) B.isinstance (by decide +kernel) (pa_cons (pv 1) (pa_cons (pe_bltn (v := .ty "bool") (by rfl) B.bool (by decide +kernel) rfl) pa_nil)))) (pss_one (ps_ret (pe_and (pe_callB call_isi (by rfl) B.isinstance (by decide +kernel) (pa_cons (pv 0) (pa_cons (pe_bltn (v := .ty "bool") (by rfl) B.bool (by decide +kernel) rfl) pa_nil))) (pe_one (pe_cmpR (op_eqD hr.units) (pv 0) (pv 1) (nomark _)))))) pss_nil)
      (pss_cons (ps_if (pt_val (pe_callB call_isi (by rfl) B.isinstance (by decide +kernel) (pa_cons (pv 1) (pa_cons (pe_bltn (v := .ty "int") (by rfl) B.int (by decide +kernel) rfl) pa_nil)))) (pss_one (ps_ret (pe_and (pe_callB call_isi (by rfl) B.isinstance (by decide +kernel) (pa_cons (pv 0) (pa_cons (pe_bltn (v := .ty "int") (by rfl) B.int (by decide +kernel) rfl) pa_nil))) (pe_and (pe_not (pe_callB call_isi (by rfl) B.isinstance (by decide +kernel) (pa_cons (pv 0) (pa_cons (pe_bltn (v := .ty "bool") (by rfl) B.bool (by decide +kernel) rfl) pa_nil)))) (pe_one (pe_cmpR (op_eqD hr.units) (pv 0) (pv 1) (nomark _))))))) pss_nil)
      (pss_one (ps_ret (pe_and (pe_callB call_isi (by rfl) B.isinstance (by decide +kernel) (pa_cons (pv 0) (pa_cons (pe_bltn (v := .ty "str") (by rfl) B.str (by decide +kernel) rfl) pa_nil))) (pe_one (pe_cmpR (op_eqD hr.units) (pv 0) (pv 1) (nomark _))))))))))),
      fun Xc hE => (sns_seq (sns_if (snt_B (snd_isiT (bs := ["list", "tuple"]) (by decide) (by decide) sno_nm)) (sns_seq (sns_if (snt_or (snt_test (snd_op2 op2_ne (sno_ex (snd_isi (b := "list") (by decide) sno_nm)) (sno_ex (snd_isi (b := "list") (by decide) sno_nm)))) (snt_test (snd_op2 op2_ne (sno_ex (snd_isi (b := "tuple") (by decide) sno_nm)) (sno_ex (snd_isi (b := "tuple") (by decide) sno_nm))))) (sns_ret snd_bl) sns_next)
      (sns_ret (snd_andV (snd_op2 op2_eq (sno_ex (snd_B opa_len (sna_cons sno_nm sna_nil))) (sno_ex (snd_B opa_len (sna_cons sno_nm sna_nil)))) (snd_B opa_all (sna_cons (sno_ex (snd_lc (own := [2, 3]) (sni_zip snd_v snd_v) (sng_tup (is := [2, 3]) rfl (by decide)) snt_yes (snd_callP XOk.no (sna_cons sno_nm (sna_cons sno_nm sna_nil))))) sna_nil))))) sns_next)
      (sns_seq (sns_if (snt_B (snd_isi (b := "dict") (by decide) sno_nm)) (sns_seq (sns_if (snt_or (snt_not (snt_B (snd_isi (b := "dict") (by decide) sno_nm))) (snt_not (snt_B (snd_callP hE (sna_cons (sno_ex (snd_listA (sna_cons sno_nm sna_nil))) (sna_cons (sno_ex (snd_listA (sna_cons sno_nm sna_nil))) sna_nil)))))) (sns_ret snd_bl) sns_next)
      (sns_ret (snd_B opa_all (sna_cons (sno_ex (snd_lcK (own := [4]) (fun _ => (sng_name (i := 4) (by decide))) (fun _ => snt_yes) (fun _ => (snd_callP XOk.no (sna_cons (sno_ex (snd_ix sno_nm sno_nm)) (sna_cons (sno_ex (snd_ix sno_nm sno_nm)) sna_nil)))))) sna_nil)))) sns_next)
      (sns_seq (sns_if (snt_test (snd_isN sno_nm)) (sns_ret (snd_isN sno_nm)) sns_next)
      (sns_seq (sns_if (snt_B (snd_isi (b := "bool") (by decide) sno_nm)) (sns_ret (snd_andV (snd_isi (b := "bool") (by decide) sno_nm) (snd_eqD sno_nm sno_nm))) sns_next)
      (sns_seq (sns_if (snt_B (snd_isi (b := "int") (by decide) sno_nm)) (sns_ret (snd_andV (snd_isi (b := "int") (by decide) sno_nm) (snd_andV (snd_notV (snd_isi (b := "bool") (by decide) sno_nm)) (snd_eqD sno_nm sno_nm)))) sns_next)
      (sns_ret (snd_andV (snd_isi (b := "str") (by decide) sno_nm) (snd_eqD sno_nm sno_nm)))))))), vc_law_same n⟩), hm, F.kp, F.bindsN fun _ _ _ _ _ _ us hl => match us, hl with | [_, _], _ => rfl⟩
abbrev s_law_copy : Stmt := top 56
theorem sc_law_copy : FnScope ["thing", "one", "found", "key"] ["thing"] (defScope s_law_copy) := ⟨rfl, rfl, rfl, by decide +kernel, rfl, by decide +kernel, by decide +kernel⟩
theorem d_law_copy {P : Program} {w : World} {K : PySem.W.Frag} {mg : Str → Option Value} {base : Heap} (B : Bl mg) (F0 : DefAt K mg "_law_copy" s_law_copy) : ∀ n : Nat, Has P w K mg base "_law_copy" (n + 1) ["thing"] (spP (F_law_copy n))
  | 0 => Has.none F0 (no_law_copy) (fun f fd F => F.bindsN fun _ _ _ _ _ _ us hl => match us, hl with | [_], _ => rfl)
  | n + 1 => by
    obtain ⟨_, _, G_law_copy, m_law_copy, k_law_copy, b_law_copy⟩ := d_law_copy B F0  n
    obtain ⟨f, fd, F, hm⟩ := F0
    exact ⟨f, fd, okP F sc_law_copy (fun ds Kc h => by match ds, h with | [_], _ => rfl) (fun cdv A outer s H E hr => ⟨_, t_law_copy  (F_law_copy n), (pss_cons (ps_if (pt_val (pe_callB call_isi (by rfl) B.isinstance (by decide +kernel) (pa_cons (pv 0) (pa_cons (pe_bltn (v := .ty "list") (by rfl) B.list (by decide +kernel) rfl) pa_nil)))) (pss_one (ps_ret (pe_lc (own := [("one", 1)]) rfl sc_law_copy.nd (pi_seq (pv 0)) (blkOk_by (own := [("one", 1)]) (N := ["thing", "one", "found", "key"]) (sc := defScope s_law_copy) (by decide +kernel)) (fun _ _ _ _ _ => (pg_name (i := 1) sc_law_copy.nd rfl (Or.inl rfl))) (fun _ _ _ _ _ => pts_nil) (fun _ _ _ _ _ => (pe_call (E := E0) G_law_copy (hr.mono (by omega)) (by rfl) m_law_copy k_law_copy b_law_copy .nil passL (pa_cons (pv 1) pa_nil)))))) pss_nil)
      (pss_cons (ps_if (pt_val (pe_callB call_isi (by rfl) B.isinstance (by decide +kernel) (pa_cons (pv 0) (pa_cons (pe_bltn (v := .ty "tuple") (by rfl) B.tuple (by decide +kernel) rfl) pa_nil)))) (pss_one (ps_ret (pe_callTy (T := "tuple") (r := rTupOf K) call_tuple_of (by rfl) B.tuple (by decide +kernel) (pa_cons (pe_lc (own := [("one", 1)]) rfl sc_law_copy.nd (pi_seq (pv 0)) (blkOk_by (own := [("one", 1)]) (N := ["thing", "one", "found", "key"]) (sc := defScope s_law_copy) (by decide +kernel)) (fun _ _ _ _ _ => (pg_name (i := 1) sc_law_copy.nd rfl (Or.inl rfl))) (fun _ _ _ _ _ => pts_nil) (fun _ _ _ _ _ => (pe_call (E := E0) G_law_copy (hr.mono (by omega)) (by rfl) m_law_copy k_law_copy b_law_copy .nil passL (pa_cons (pv 1) pa_nil)))) pa_nil)))) pss_nil)
      (pss_cons (ps_if (pt_val (pe_callB call_isi (by rfl) B.isinstance (by decide +kernel) (pa_cons (pv 0) (pa_cons (pe_bltn (v := .ty "dict") (by rfl) B.dict (by decide +kernel) rfl) pa_nil)))) (pss_cons (ps_set (i := 2) sc_law_copy.nd rfl (Or.inl rfl) pe_dnewA)
      (pss_cons (ps_forK (ps_for (passes_of rfl) rfl (pi_keys (pv 0)) (pg_name (i := 3) sc_law_copy.nd rfl (Or.inl rfl))
      (pss_one (ps_dput (hu_of hr) (pv 2) (pv 3) (pe_call (E := E0) G_law_copy (hr.mono (by omega)) (by rfl) m_law_copy k_law_copy b_law_copy .nil passL (pa_cons (pe_ix (ix_any (hu_of hr)) (pv 0) (pv 3) (fun _ _ => rfl)) pa_nil)) rfl))))
      (pss_one (ps_ret (pv 2))))) pss_nil)
      (pss_one (ps_ret (pv 0)))))),
      fun Xc _ => (sns_seq (sns_if (snt_B (snd_isi (b := "list") (by decide) sno_nm)) (sns_ret (snd_lc (own := [1]) (sni_seq snd_v) (sng_name (i := 1) (by decide)) snt_yes (snd_callP XOk.no (sna_cons sno_nm sna_nil)))) sns_next)
      (sns_seq (sns_if (snt_B (snd_isi (b := "tuple") (by decide) sno_nm)) (sns_ret (snd_T (opt_tuple (K := K)) (sna_cons (sno_ex (snd_lc (own := [1]) (sni_seq snd_v) (sng_name (i := 1) (by decide)) snt_yes (snd_callP XOk.no (sna_cons sno_nm sna_nil)))) sna_nil))) sns_next)
      (sns_seq (sns_if (snt_B (snd_isi (b := "dict") (by decide) sno_nm)) (sns_seq (sns_asg snd_dictA)
      (sns_seq (sns_forK (own := [3]) (fun _ => (sng_name (i := 3) (by decide))) (fun _ =>
      (sns_dput (snd_callP XOk.no (sna_cons (sno_ex (snd_ix sno_nm sno_nm)) sna_nil)) sno_nm)))
      (sns_ret snd_v))) sns_next)
      (sns_ret snd_v)))), vc_law_copy n⟩), hm, F.kp, F.bindsN fun _ _ _ _ _ _ us hl => match us, hl with | [_], _ => rfl⟩
abbrev s_law_loose : Stmt := top 57
theorem sc_law_loose : FnScope ["state", "thing", "some", "one", "found", "key"] ["state", "thing"] (defScope s_law_loose) := ⟨rfl, rfl, rfl, by decide +kernel, rfl, by decide +kernel, by decide +kernel⟩
theorem d_law_loose {P : Program} {w : World} {K : PySem.W.Frag} {mg : Str → Option Value} {base : Heap} (B : Bl mg) (F0 : DefAt K mg "_law_loose" s_law_loose) (H_law_pick : Has P w K mg base "_law_pick" 1 ["state", "many"] (spD F_law_pick)) (H_law_mixed : Has P w K mg base "_law_mixed" 2 ["state", "things"] (spD F_law_mixed)) : ∀ n : Nat, Has P w K mg base "_law_loose" (n + 3) ["state", "thing"] (spD (F_law_loose n))
  | 0 => Has.none F0 (no_law_loose) (fun f fd F => F.bindsN fun _ _ _ _ _ _ us hl => match us, hl with | [_, _], _ => rfl)
  | n + 1 => by
    obtain ⟨_, _, G_law_loose, m_law_loose, k_law_loose, b_law_loose⟩ := d_law_loose B F0 H_law_pick H_law_mixed n
    obtain ⟨_, _, G_law_pick, m_law_pick, k_law_pick, b_law_pick⟩ := H_law_pick
    obtain ⟨_, _, G_law_mixed, m_law_mixed, k_law_mixed, b_law_mixed⟩ := H_law_mixed
    obtain ⟨f, fd, F, hm⟩ := F0
    exact ⟨f, fd, okD F sc_law_loose (fun g ds Kc h => by match ds, h with | [_], _ => rfl) (fun cdv A outer s H G0 E hr => ⟨_, t_law_loose  (F_law_loose n), (pss_cons (ps_if (pt_val (pe_callB call_isiT (by rfl) B.isinstance (by decide +kernel) (pa_cons (pv 1) (pa_cons (pe_tup (pa_cons (pe_bltn (v := .ty "list") (by rfl) B.list (by decide +kernel) rfl) (pa_cons (pe_bltn (v := .ty "tuple") (by rfl) B.tuple (by decide +kernel) rfl) pa_nil))) pa_nil)))) (pss_cons (ps_setLc (i := 2) (own := [("one", 3)]) rfl sc_law_loose.nd rfl rfl (sw_true rfl rfl rfl (by decide +kernel)) (pi_seq (pv 1)) (blkOk_by (own := [("one", 3)]) (N := ["state", "thing", "some", "one", "found", "key"]) (sc := defScope s_law_loose) (by decide +kernel)) (fun _ _ _ _ _ => (pg_name (i := 3) sc_law_loose.nd rfl (Or.inl rfl))) (fun _ _ _ _ _ => pts_nil) (fun _ _ _ _ _ => (pe_call (E := E0) G_law_loose (hr.mono (by omega)) (by rfl) m_law_loose k_law_loose b_law_loose .nil passL (pa_cons (pv 0) (pa_cons (pv 3) pa_nil)))))
      (pss_one (ps_ret (pe_ifExp (pt_cmpR op_eq (pe_call (E := E0) G_law_pick (hr.mono (by omega)) (by rfl) m_law_pick k_law_pick b_law_pick .nil passL (pa_cons (pv 0) (pa_cons pe_int pa_nil))) pe_int (nomark _)) (pv 2) (pe_callTy (T := "tuple") (r := rTupOf K) call_tuple_of (by rfl) B.tuple (by decide +kernel) (pa_cons (pv 2) pa_nil)))))) pss_nil)
      (pss_cons (ps_if (pt_val (pe_callB call_isi (by rfl) B.isinstance (by decide +kernel) (pa_cons (pv 1) (pa_cons (pe_bltn (v := .ty "dict") (by rfl) B.dict (by decide +kernel) rfl) pa_nil)))) (pss_cons (ps_set (i := 4) sc_law_loose.nd rfl (Or.inl rfl) pe_dnewA)
      (pss_cons (ps_for (passes_of rfl) rfl (pi_seq (pe_call (E := E0) G_law_mixed (hr.mono (by omega)) (by rfl) m_law_mixed k_law_mixed b_law_mixed .nil passL (pa_cons (pv 0) (pa_cons (pe_callTy (T := "list") (r := rListA K) (call_listA rfl) (by rfl) B.list (by decide +kernel) (pa_cons (pv 1) pa_nil)) pa_nil)))) (pg_name (i := 5) sc_law_loose.nd rfl (Or.inl rfl))
      (pss_one (ps_dput (hu_of hr) (pv 4) (pv 5) (pe_call (E := E0) G_law_loose (hr.mono (by omega)) (by rfl) m_law_loose k_law_loose b_law_loose .nil passL (pa_cons (pv 0) (pa_cons (pe_ix (ix_any (hu_of hr)) (pv 1) (pv 5) (fun _ _ => rfl)) pa_nil))) rfl)))
      (pss_one (ps_ret (pv 4))))) pss_nil)
      (pss_one (ps_ret (pv 1))))),
      (sns_seq (sns_if (snt_B (snd_isiT (bs := ["list", "tuple"]) (by decide) (by decide) sno_nm)) (sns_seq (sns_asg (snd_lc (own := [3]) (sni_seq snd_v) (sng_name (i := 3) (by decide)) snt_yes (snd_callD (sna_cons sno_nm sna_nil))))
      (sns_ret (snd_if (snt_test (snd_op2 op2_eq (sno_ex (snd_callD (sna_cons (sno_ex snd_int) sna_nil))) (sno_ex snd_int))) snd_v (snd_T (opt_tuple (K := K)) (sna_cons sno_nm sna_nil))))) sns_next)
      (sns_seq (sns_if (snt_B (snd_isi (b := "dict") (by decide) sno_nm)) (sns_seq (sns_asg snd_dictA)
      (sns_seq (sns_for (own := [5]) (sni_seq (snd_callD (sna_cons (sno_ex (snd_listA (sna_cons sno_nm sna_nil))) sna_nil))) (sng_name (i := 5) (by decide))
      (sns_dput (snd_callD (sna_cons (sno_ex (snd_ix sno_nm sno_nm)) sna_nil)) sno_nm))
      (sns_ret snd_v))) sns_next)
      (sns_ret snd_v))), vc_law_loose n⟩), hm, F.kp, F.bindsN fun _ _ _ _ _ _ us hl => match us, hl with | [_, _], _ => rfl⟩
abbrev s_law_spoil : Stmt := top 58
theorem sc_law_spoil : FnScope ["thing", "one", "key"] ["thing"] (defScope s_law_spoil) := ⟨rfl, rfl, rfl, by decide +kernel, rfl, by decide +kernel, by decide +kernel⟩
theorem d_law_spoil {P : Program} {w : World} {K : PySem.W.Frag} {mg : Str → Option Value} {base : Heap} (B : Bl mg) (F0 : DefAt K mg "_law_spoil" s_law_spoil) : ∀ n : Nat, Has P w K mg base "_law_spoil" (n + 1) ["thing"] (spSpoil n)
  | 0 => Has.none F0 no_law_spoil (fun f fd F => F.bindsN fun _ _ _ _ _ _ us hl => match us, hl with | [_], _ => rfl)
  | n + 1 => by
    obtain ⟨_, _, G_law_spoil, m_law_spoil, k_law_spoil, b_law_spoil⟩ := d_law_spoil B F0 n
    obtain ⟨f, fd, F, hm⟩ := F0
    exact ⟨f, fd, F.ok sc_law_spoil (fun vs H Q E ⟨v, _, _, _, e, _⟩ => by rw [e]; rfl) (fun cdv A outer s H vs Q E hr h => ⟨tSpoil1 K n _, (pss_cons (ps_if (pt_val (pe_callB call_isiT (by rfl) B.isinstance (by decide +kernel) (pa_cons (pv 0) (pa_cons (pe_tup (pa_cons (pe_bltn (v := .ty "list") (by rfl) B.list (by decide +kernel) rfl) (pa_cons (pe_bltn (v := .ty "tuple") (by rfl) B.tuple (by decide +kernel) rfl) pa_nil))) pa_nil)))) (pss_one (ps_for (passes_of rfl) rfl (pi_seq (pe_callTy (T := "list") (r := rListA K) (call_listA rfl) (by rfl) B.list (by decide +kernel) (pa_cons (pv 0) pa_nil))) (pg_name (i := 1) sc_law_spoil.nd rfl (Or.inl rfl))
      (pss_one (ps_expr (pe_call (E := E0) G_law_spoil (hr.mono (by omega)) (by rfl) m_law_spoil k_law_spoil b_law_spoil .nil passL (pa_cons (pv 1) pa_nil)))))) pss_nil)
      (pss_cons (ps_if (pt_val (pe_callB call_isi (by rfl) B.isinstance (by decide +kernel) (pa_cons (pv 0) (pa_cons (pe_bltn (v := .ty "list") (by rfl) B.list (by decide +kernel) rfl) pa_nil)))) (pss_one (ps_expr (pe_bm PySem.F.plainAttrs_list PySem.F.slot_list_append PySem.F.type_list_append mt_append (pv 0) (pa_cons pe_str pa_nil)))) pss_nil)
      (pss_cons (ps_if (pt_val (pe_callB call_isi (by rfl) B.isinstance (by decide +kernel) (pa_cons (pv 0) (pa_cons (pe_bltn (v := .ty "dict") (by rfl) B.dict (by decide +kernel) rfl) pa_nil)))) (pss_cons (ps_for (passes_of rfl) rfl (pi_seq (pe_callTy (T := "list") (r := rListA K) (call_listA rfl) (by rfl) B.list (by decide +kernel) (pa_cons (pv 0) pa_nil))) (pg_name (i := 2) sc_law_spoil.nd rfl (Or.inl rfl))
      (pss_one (ps_expr (pe_call (E := E0) G_law_spoil (hr.mono (by omega)) (by rfl) m_law_spoil k_law_spoil b_law_spoil .nil passL (pa_cons (pe_ix (ix_any (hu_of hr)) (pv 0) (pv 2) (fun _ _ => rfl)) pa_nil)))))
      (pss_one (ps_asg (pe_un un_neg pe_int) (pg_sub (pv 0) pe_str set_list)))) pss_nil)
      (pss_one (ps_ret (pv 0)))))), spoil_walk h⟩), hm, F.kp, F.bindsN fun _ _ _ _ _ _ us hl => match us, hl with | [_], _ => rfl⟩
abbrev s_law_then : Stmt := top 59
theorem sc_law_then : FnScope ["motion", "other", "place"] ["motion", "other"] (defScope s_law_then) := ⟨rfl, rfl, rfl, by decide +kernel, rfl, by decide +kernel, by decide +kernel⟩
theorem d_law_then {P : Program} {w : World} {K : PySem.W.Frag} {mg : Str → Option Value} {base : Heap} (F0 : DefAt K mg "_law_then" s_law_then) : Has P w K mg base "_law_then" 1 ["motion", "other"] (spP F_law_then) := by
  obtain ⟨f, fd, F, hm⟩ := F0
  exact ⟨f, fd, okP F sc_law_then (fun ds Kc h => by match ds, h with | [_, _], _ => rfl) (fun cdv A outer s H E hr => ⟨_, t_law_then  , (pss_one (ps_ret (pe_lc (own := [("place", 2)]) rfl sc_law_then.nd (pi_seq (pv 0)) (blkOk_by (own := [("place", 2)]) (N := ["motion", "other", "place"]) (sc := defScope s_law_then) (by decide +kernel)) (fun _ _ _ _ _ => (pg_name (i := 2) sc_law_then.nd rfl (Or.inl rfl))) (fun _ _ _ _ _ => pts_nil) (fun _ _ _ _ _ => (pe_ix (r := rIxA K) (ix_any (hu_of hr)) (pv 1) (pv 2) (fun _ _ => rfl)))))),
      fun Xc _ => (sns_ret (snd_lc (own := [2]) (sni_seq snd_v) (sng_name (i := 2) (by decide)) snt_yes (snd_ix sno_nm sno_nm))), vc_law_then⟩), hm, F.kp, F.bindsN fun _ _ _ _ _ _ us hl => match us, hl with | [_, _], _ => rfl⟩
abbrev s_law_back : Stmt := top 60
theorem sc_law_back : FnScope ["motion", "place"] ["motion"] (defScope s_law_back) := ⟨rfl, rfl, rfl, by decide +kernel, rfl, by decide +kernel, by decide +kernel⟩
theorem d_law_back {P : Program} {w : World} {K : PySem.W.Frag} {mg : Str → Option Value} {base : Heap} (B : Bl mg) (F0 : DefAt K mg "_law_back" s_law_back) : Has P w K mg base "_law_back" 1 ["motion"] (spP F_law_back) := by
  obtain ⟨f, fd, F, hm⟩ := F0
  exact ⟨f, fd, okP F sc_law_back (fun ds Kc h => by match ds, h with | [_], _ => rfl) (fun cdv A outer s H E hr => ⟨_, t_law_back  , (pss_one (ps_ret (pe_lc (own := [("place", 1)]) rfl sc_law_back.nd (pi_range1 (by rfl) B.range (pa_cons (pe_callB (r := rLenA K) call_lenA (by rfl) B.len (by decide +kernel) (pa_cons (pv 0) pa_nil)) pa_nil)) (blkOk_by (own := [("place", 1)]) (N := ["motion", "place"]) (sc := defScope s_law_back) (by decide +kernel)) (fun _ _ _ _ _ => (pg_name (i := 1) sc_law_back.nd rfl (Or.inl rfl))) (fun _ _ _ _ _ => pts_nil) (fun _ _ _ _ _ => (pe_bm PySem.F.plainAttrs_list PySem.F.slot_list_index PySem.F.type_list_index mt_index (pv 0) (pa_cons (pv 1) pa_nil)))))),
      fun Xc _ => (sns_ret (snd_lc (own := [1]) (sni_rng1 (sna_cons (sno_ex (snd_B opa_len (sna_cons sno_nm sna_nil))) sna_nil)) (sng_name (i := 1) (by decide)) snt_yes (snd_index sno_nm sno_nm))), vc_law_back⟩), hm, F.kp, F.bindsN fun _ _ _ _ _ _ us hl => match us, hl with | [_], _ => rfl⟩
abbrev s_law_ring : Stmt := top 61
theorem sc_law_ring : FnScope ["many", "ring", "motion", "k"] ["many", "ring"] (defScope s_law_ring) := ⟨rfl, rfl, rfl, by decide +kernel, rfl, by decide +kernel, by decide +kernel⟩
theorem d_law_ring {P : Program} {w : World} {K : PySem.W.Frag} {mg : Str → Option Value} {base : Heap} (B : Bl mg) (F0 : DefAt K mg "_law_ring" s_law_ring) : Has P w K mg base "_law_ring" 1 ["many", "ring"] (spP F_law_ring) := by
  obtain ⟨f, fd, F, hm⟩ := F0
  exact ⟨f, fd, okP F sc_law_ring (fun ds Kc h => by match ds, h with | [_, _], _ => rfl) (fun cdv A outer s H E hr => ⟨_, t_law_ring  , (pss_cons (ps_set (i := 2) sc_law_ring.nd rfl (Or.inl rfl) (pe_listRg rfl (by rfl) B.list (prg_1 (by rfl) B.range (pv 0))))
      (pss_cons (ps_for (passes_of rfl) rfl (pi_range1 (by rfl) B.range (pa_cons (pe_callB (r := rLenA K) call_lenA (by rfl) B.len (by decide +kernel) (pa_cons (pv 1) pa_nil)) pa_nil)) (pg_name (i := 3) sc_law_ring.nd rfl (Or.inl rfl))
      (pss_one (ps_asg (pe_ix (ix_any (hu_of hr)) (pv 1) (pe_op op_mod (pe_op op_add (pv 3) pe_int) (pe_callB (r := rLenA K) call_lenA (by rfl) B.len (by decide +kernel) (pa_cons (pv 1) pa_nil))) (fun _ _ => rfl)) (pg_sub (pv 2) (pe_ix (ix_any (hu_of hr)) (pv 1) (pv 3) (fun _ _ => rfl)) set_list))))
      (pss_one (ps_ret (pv 2))))),
      fun Xc _ => (sns_seq (sns_asg (snd_lstRg1 sno_nm))
      (sns_seq (sns_for (own := [3]) (sni_rng1 (sna_cons (sno_ex (snd_B opa_len (sna_cons sno_nm sna_nil))) sna_nil)) (sng_name (i := 3) (by decide))
      (sns_setL (snd_ix sno_nm (sno_ex (snd_I (f := fun i j => .int (i % j)) (fun _ _ => rfl) (sno_ex (snd_I0 (f := fun i j => .int (i + j)) (fun _ _ => rfl) sno_nm (sno_ex snd_int))) (sno_ex (snd_B opa_len (sna_cons sno_nm sna_nil)))))) (sno_ex (snd_ix sno_nm sno_nm))))
      (sns_ret snd_v))), vc_law_ring⟩), hm, F.kp, F.bindsN fun _ _ _ _ _ _ us hl => match us, hl with | [_, _], _ => rfl⟩
abbrev s_law_draw_motion : Stmt := top 62
theorem sc_law_draw_motion : FnScope ["state", "many", "kind", "places", "size"] ["state", "many"] (defScope s_law_draw_motion) := ⟨rfl, rfl, rfl, by decide +kernel, rfl, by decide +kernel, by decide +kernel⟩
theorem d_law_draw_motion {P : Program} {w : World} {K : PySem.W.Frag} {mg : Str → Option Value} {base : Heap} (B : Bl mg) (F0 : DefAt K mg "_law_draw_motion" s_law_draw_motion) (H_law_pick : Has P w K mg base "_law_pick" 1 ["state", "many"] (spD F_law_pick)) (H_law_mixed : Has P w K mg base "_law_mixed" 2 ["state", "things"] (spD F_law_mixed)) (H_law_then : Has P w K mg base "_law_then" 1 ["motion", "other"] (spP F_law_then)) (H_law_ring : Has P w K mg base "_law_ring" 1 ["many", "ring"] (spP F_law_ring)) : Has P w K mg base "_law_draw_motion" 3 ["state", "many"] (spD F_law_draw_motion) := by
  obtain ⟨_, _, G_law_pick, m_law_pick, k_law_pick, b_law_pick⟩ := H_law_pick
  obtain ⟨_, _, G_law_mixed, m_law_mixed, k_law_mixed, b_law_mixed⟩ := H_law_mixed
  obtain ⟨_, _, G_law_then, m_law_then, k_law_then, b_law_then⟩ := H_law_then
  obtain ⟨_, _, G_law_ring, m_law_ring, k_law_ring, b_law_ring⟩ := H_law_ring
  obtain ⟨f, fd, F, hm⟩ := F0
  exact ⟨f, fd, okD F sc_law_draw_motion (fun g ds Kc h => by match ds, h with | [_], _ => rfl) (fun cdv A outer s H G0 E hr => ⟨_, t_law_draw_motion  , (pss_cons (ps_set (i := 2) sc_law_draw_motion.nd rfl (Or.inl rfl) (pe_call (E := E0) G_law_pick (hr.mono (by decide)) (by rfl) m_law_pick k_law_pick b_law_pick .nil passL (pa_cons (pv 0) (pa_cons pe_int pa_nil))))
      (pss_cons (ps_set (i := 3) sc_law_draw_motion.nd rfl (Or.inl rfl) (pe_call (E := E0) G_law_mixed (hr.mono (by decide)) (by rfl) m_law_mixed k_law_mixed b_law_mixed .nil passL (pa_cons (pv 0) (pa_cons (pe_listRg rfl (by rfl) B.list (prg_1 (by rfl) B.range (pv 1))) pa_nil))))
      (pss_cons (ps_if (pt_cmpR op_lt (pv 2) pe_int (nomark _)) (pss_one (ps_ret (pv 3))) pss_nil)
      (pss_cons (ps_if (PW.pt (pw_and (pt_cmpR op_eq (pv 2) pe_int (nomark _)) (pw_and1 (pt_cmpR op_gt (pv 1) pe_int (nomark _))))) (pss_one (ps_ret (pe_call (E := E0) G_law_then (hr.mono (by decide)) (by rfl) m_law_then k_law_then b_law_then .nil passL (pa_cons (pe_call (E := E0) G_law_ring (hr.mono (by decide)) (by rfl) m_law_ring k_law_ring b_law_ring .nil passL (pa_cons (pv 1) (pa_cons (pe_slice sl_list (pv 3) po_none (po_some pe_int)) pa_nil))) (pa_cons (pe_call (E := E0) G_law_ring (hr.mono (by decide)) (by rfl) m_law_ring k_law_ring b_law_ring .nil passL (pa_cons (pv 1) (pa_cons (pe_slice sl_list (pv 3) (po_some pe_int) (po_some pe_int)) pa_nil))) pa_nil))))) pss_nil)
      (pss_cons (ps_set (i := 4) sc_law_draw_motion.nd rfl (Or.inl rfl) (pe_ix (ix_any (hu_of hr)) (pe_lst (pa_cons pe_int (pa_cons pe_int (pa_cons pe_int (pa_cons pe_int (pa_cons (pv 1) (pa_cons pe_int pa_nil))))))) (pe_call (E := E0) G_law_pick (hr.mono (by decide)) (by rfl) m_law_pick k_law_pick b_law_pick .nil passL (pa_cons (pv 0) (pa_cons pe_int pa_nil))) (fun _ _ => rfl)))
      (pss_one (ps_ret (pe_ifExp (PW.pt (pw_and (pt_cmpR op_gt (pv 4) pe_int (nomark _)) (pw_and1 (pt_cmpR op_gt (pv 1) pe_int (nomark _))))) (pe_call (E := E0) G_law_ring (hr.mono (by decide)) (by rfl) m_law_ring k_law_ring b_law_ring .nil passL (pa_cons (pv 1) (pa_cons (pe_slice sl_list (pv 3) po_none (po_some (pe_callB (call_min2 rfl) (by rfl) B.min (by decide +kernel) (pa_cons (pv 4) (pa_cons (pv 1) pa_nil))))) pa_nil))) (pe_listRg rfl (by rfl) B.list (prg_1 (by rfl) B.range (pv 1))))))))))),
      (sns_seq (sns_asg (snd_callD (sna_cons (sno_ex snd_int) sna_nil)))
      (sns_seq (sns_asg (snd_callD (sna_cons (sno_ex (snd_lstRg1 sno_nm)) sna_nil)))
      (sns_seq (sns_if (snt_test (snd_I0 (f := fun i j => .bl (decide (i < j))) (fun _ _ => rfl) sno_nm (sno_ex snd_int))) (sns_ret snd_v) sns_next)
      (sns_seq (sns_if (snt_and (snt_test (snd_op2 op2_eq sno_nm (sno_ex snd_int))) (snt_test (snd_I0 (f := fun i j => .bl (decide (j < i))) (fun _ _ => rfl) sno_nm (sno_ex snd_int)))) (sns_ret (snd_callP XOk.no (sna_cons (sno_ex (snd_callP XOk.no (sna_cons sno_nm (sna_cons (sno_ex (snd_slice sno_nm snp_no (snp_so (sno_ex snd_int)))) sna_nil)))) (sna_cons (sno_ex (snd_callP XOk.no (sna_cons sno_nm (sna_cons (sno_ex (snd_slice sno_nm (snp_so (sno_ex snd_int)) (snp_so (sno_ex snd_int)))) sna_nil)))) sna_nil)))) sns_next)
      (sns_seq (sns_asg (snd_ix (sno_ex (snd_lst (snf_cons snd_int (snf_cons snd_int (snf_cons snd_int (snf_cons snd_int (snf_cons snd_v (snf_cons snd_int snf_nil)))))))) (sno_ex (snd_callD (sna_cons (sno_ex snd_int) sna_nil)))))
      (sns_ret (snd_if (snt_and (snt_test (snd_I0 (f := fun i j => .bl (decide (j < i))) (fun _ _ => rfl) sno_nm (sno_ex snd_int))) (snt_test (snd_I0 (f := fun i j => .bl (decide (j < i))) (fun _ _ => rfl) sno_nm (sno_ex snd_int)))) (snd_callP XOk.no (sna_cons sno_nm (sna_cons (sno_ex (snd_slice sno_nm snp_no (snp_so (sno_ex (snd_B opa_min2 (sna_cons sno_nm (sna_cons sno_nm sna_nil))))))) sna_nil))) (snd_lstRg1 sno_nm)))))))), vc_law_draw_motion⟩), hm, F.kp, F.bindsN fun _ _ _ _ _ _ us hl => match us, hl with | [_, _], _ => rfl⟩
abbrev s_law_draw_motions : Stmt := top 63
theorem sc_law_draw_motions : FnScope ["state", "least", "most", "gens", "many", "found", "k", "half"] ["state", "least", "most", "gens"] (defScope s_law_draw_motions) := ⟨rfl, rfl, rfl, by decide +kernel, rfl, by decide +kernel, by decide +kernel⟩
theorem d_law_draw_motions {P : Program} {w : World} {K : PySem.W.Frag} {mg : Str → Option Value} {base : Heap} (B : Bl mg) (F0 : DefAt K mg "_law_draw_motions" s_law_draw_motions) (H_law_between : Has P w K mg base "_law_between" 2 ["state", "low", "high"] (spD F_law_between)) (H_law_pick : Has P w K mg base "_law_pick" 1 ["state", "many"] (spD F_law_pick)) (H_law_draw_motion : Has P w K mg base "_law_draw_motion" 3 ["state", "many"] (spD F_law_draw_motion)) (H_law_ring : Has P w K mg base "_law_ring" 1 ["many", "ring"] (spP F_law_ring)) : Has P w K mg base "_law_draw_motions" 4 ["state", "least", "most", "gens"] (spD F_law_draw_motions) := by
  obtain ⟨_, _, G_law_between, m_law_between, k_law_between, b_law_between⟩ := H_law_between
  obtain ⟨_, _, G_law_pick, m_law_pick, k_law_pick, b_law_pick⟩ := H_law_pick
  obtain ⟨_, _, G_law_draw_motion, m_law_draw_motion, k_law_draw_motion, b_law_draw_motion⟩ := H_law_draw_motion
  obtain ⟨_, _, G_law_ring, m_law_ring, k_law_ring, b_law_ring⟩ := H_law_ring
  obtain ⟨f, fd, F, hm⟩ := F0
  exact ⟨f, fd, okD F sc_law_draw_motions (fun g ds Kc h => by match ds, h with | [_, _, _], _ => rfl) (fun cdv A outer s H G0 E hr => ⟨_, t_law_draw_motions  , (pss_cons (ps_set (i := 4) sc_law_draw_motions.nd rfl (Or.inr rfl) (pe_call (E := E0) G_law_between (hr.mono (by decide)) (by rfl) m_law_between k_law_between b_law_between .nil passL (pa_cons (pv 0) (pa_cons (pv 1) (pa_cons (pv 2) pa_nil)))))
      (pss_cons (ps_setLc (i := 5) (own := [("k", 6)]) rfl sc_law_draw_motions.nd rfl rfl (sw_true rfl rfl rfl (by decide +kernel)) (pi_range1 (by rfl) B.range (pa_cons (pe_op op_add pe_int (pe_call (E := E0) G_law_pick (hr.mono (by decide)) (by rfl) m_law_pick k_law_pick b_law_pick .nil passL (pa_cons (pv 0) (pa_cons (pv 3) pa_nil)))) pa_nil)) (blkOk_by (own := [("k", 6)]) (N := ["state", "least", "most", "gens", "many", "found", "k", "half"]) (sc := defScope s_law_draw_motions) (by decide +kernel)) (fun _ _ _ _ _ => (pg_name (i := 6) sc_law_draw_motions.nd rfl (Or.inl rfl))) (fun _ _ _ _ _ => pts_nil) (fun _ _ _ _ _ => (pe_call (E := E0) G_law_draw_motion (hr.mono (by decide)) (by rfl) m_law_draw_motion k_law_draw_motion b_law_draw_motion .nil passL (pa_cons (pv 0) (pa_cons (pv 4) pa_nil)))))
      (pss_cons (ps_if (PW.pt (pw_and (pt_cmpR op_gt (pv 4) pe_int (nomark _)) (pw_and1 (pt_cmpR op_eq (pe_call (E := E0) G_law_pick (hr.mono (by decide)) (by rfl) m_law_pick k_law_pick b_law_pick .nil passL (pa_cons (pv 0) (pa_cons pe_int pa_nil))) pe_int (nomark _))))) (pss_cons (ps_set (i := 7) sc_law_draw_motions.nd rfl (Or.inl rfl) (pe_ifExp (pt_cmpR op_lt (pv 4) pe_int (nomark _)) pe_int pe_int))
      (pss_one (ps_set (i := 5) sc_law_draw_motions.nd rfl (Or.inl rfl) (pe_lst (pa_cons (pe_op op_cat (pe_call (E := E0) G_law_ring (hr.mono (by decide)) (by rfl) m_law_ring k_law_ring b_law_ring .nil passL (pa_cons (pv 7) (pa_cons (pe_listRg rfl (by rfl) B.list (prg_1 (by rfl) B.range (pv 7))) pa_nil))) (pe_listRg rfl (by rfl) B.list (prg_2 (by rfl) B.range (pv 7) (pv 4)))) (pa_cons (pe_op op_cat (pe_op op_cat (pe_listRg rfl (by rfl) B.list (prg_2 (by rfl) B.range (pv 7) (pe_op op_mul (pv 7) pe_int))) (pe_listRg rfl (by rfl) B.list (prg_1 (by rfl) B.range (pv 7)))) (pe_listRg rfl (by rfl) B.list (prg_2 (by rfl) B.range (pe_op op_mul (pv 7) pe_int) (pv 4)))) pa_nil)))))) pss_nil)
      (pss_one (ps_ret (pv 5)))))),
      (sns_seq (sns_asg (snd_callD (sna_cons sno_nm (sna_cons sno_nm sna_nil))))
      (sns_seq (sns_asg (snd_lc (own := [6]) (sni_rng1 (sna_cons (sno_ex (snd_I0 (f := fun i j => .int (i + j)) (fun _ _ => rfl) (sno_ex snd_int) (sno_ex (snd_callD (sna_cons sno_nm sna_nil))))) sna_nil)) (sng_name (i := 6) (by decide)) snt_yes (snd_callD (sna_cons sno_nm sna_nil))))
      (sns_seq (sns_if (snt_and (snt_test (snd_I0 (f := fun i j => .bl (decide (j < i))) (fun _ _ => rfl) sno_nm (sno_ex snd_int))) (snt_test (snd_op2 op2_eq (sno_ex (snd_callD (sna_cons (sno_ex snd_int) sna_nil))) (sno_ex snd_int)))) (sns_seq (sns_asg (snd_if (snt_test (snd_I0 (f := fun i j => .bl (decide (i < j))) (fun _ _ => rfl) sno_nm (sno_ex snd_int))) snd_int snd_int))
      (sns_asg (snd_lst (snf_cons (snd_L2 op2l_cat (sno_ex (snd_callP XOk.no (sna_cons sno_nm (sna_cons (sno_ex (snd_lstRg1 sno_nm)) sna_nil)))) (sno_ex (snd_lstRg2 sno_nm sno_nm))) (snf_cons (snd_L2 op2l_cat (sno_ex (snd_L2 op2l_cat (sno_ex (snd_lstRg2 sno_nm (sno_ex (snd_I (f := fun i j => .int (i * j)) (fun _ _ => rfl) sno_nm (sno_ex snd_int))))) (sno_ex (snd_lstRg1 sno_nm)))) (sno_ex (snd_lstRg2 (sno_ex (snd_I (f := fun i j => .int (i * j)) (fun _ _ => rfl) sno_nm (sno_ex snd_int))) sno_nm))) snf_nil))))) sns_next)
      (sns_ret snd_v)))), vc_law_draw_motions⟩), hm, F.kp, F.bindsN fun _ _ _ _ _ _ us hl => match us, hl with | [_, _, _, _], _ => rfl⟩
abbrev s_law_all_reached : Stmt := top 64
theorem sc_law_all_reached : FnScope ["motions", "first", "seen", "left", "here", "motion", "more", "place"] ["motions"] (defScope s_law_all_reached) := ⟨rfl, rfl, rfl, by decide +kernel, rfl, by decide +kernel, by decide +kernel⟩
theorem d_law_all_reached {P : Program} {w : World} {K : PySem.W.Frag} {mg : Str → Option Value} {base : Heap} (B : Bl mg) (F0 : DefAt K mg "_law_all_reached" s_law_all_reached) : Has P w K mg base "_law_all_reached" 1 ["motions"] (spP F_law_all_reached) := by
  obtain ⟨f, fd, F, hm⟩ := F0
  exact ⟨f, fd, okP F sc_law_all_reached (fun ds Kc h => by match ds, h with | [_], _ => rfl) (fun cdv A outer s H E hr => ⟨_, t_law_all_reached  , (pss_cons (ps_set (i := 1) sc_law_all_reached.nd rfl (Or.inl rfl) (pe_tupRg rfl (by rfl) B.tuple (prg_1 (by rfl) B.range (pe_callB (r := rLenA K) call_lenA (by rfl) B.len (by decide +kernel) (pa_cons (pe_ix (ix_any (hu_of hr)) (pv 0) pe_int (fun _ _ => rfl)) pa_nil)))))
      (pss_cons (ps_par (i := 2) (j := 3) (by rfl) sc_law_all_reached.nd rfl rfl (by decide) rfl rfl (pa_cons (pe_disp1T (hu_of hr) (pv 1) pe_bl) (pa_cons (pe_lst (pa_cons (pv 1) pa_nil)) pa_nil)) (by rfl))
      (pss_cons (ps_while (passes_of rfl) (pt_cmpR (op_neD hr.units) (pv 3) (pe_lst pa_nil) (nomark _))
      (pss_cons (ps_set (i := 4) sc_law_all_reached.nd rfl (Or.inl rfl) (pe_bm0 PySem.F.plainAttrs_list PySem.F.slot_list_pop PySem.F.type_list_pop mt_pop (pv 3)))
      (pss_one (ps_for (passes_of rfl) rfl (pi_seq (pv 0)) (pg_name (i := 5) sc_law_all_reached.nd rfl (Or.inr rfl))
      (pss_cons (ps_set (i := 6) sc_law_all_reached.nd rfl (Or.inl rfl) (pe_callTy (T := "tuple") (r := rTupOf K) call_tuple_of (by rfl) B.tuple (by decide +kernel) (pa_cons (pe_lc (own := [("place", 7)]) rfl sc_law_all_reached.nd (pi_seq (pv 4)) (blkOk_by (own := [("place", 7)]) (N := ["motions", "first", "seen", "left", "here", "motion", "more", "place"]) (sc := defScope s_law_all_reached) (by decide +kernel)) (fun _ _ _ _ _ => (pg_name (i := 7) sc_law_all_reached.nd rfl (Or.inl rfl))) (fun _ _ _ _ _ => pts_nil) (fun _ _ _ _ _ => (pe_ix (r := rIxA K) (ix_any (hu_of hr)) (pv 5) (pv 7) (fun _ _ => rfl)))) pa_nil)))
      (pss_one (ps_if (pt_cmpR (op_notInA (hu_of hr)) (pv 6) (pv 2) (by rfl)) (pss_cons (ps_dput (hu_of hr) (pv 2) (pv 6) pe_bl rfl)
      (pss_one (ps_expr (pe_bm PySem.F.plainAttrs_list PySem.F.slot_list_append PySem.F.type_list_append mt_append (pv 3) (pa_cons (pv 6) pa_nil))))) pss_nil)))))))
      (pss_one (ps_ret (pv 2)))))),
      fun Xc _ => (sns_seq (sns_asg (snd_tupRg1 (sno_ex (snd_B opa_len (sna_cons (sno_ex (snd_ix sno_nm (sno_ex snd_int))) sna_nil)))))
      (sns_seq (sns_par (snd_disp1T snd_v snd_bl) (snd_lst (snf_cons snd_v snf_nil)))
      (sns_seq (sns_while (snt_test (snd_neD sno_nm (sno_ex (snd_lst snf_nil))))
      (sns_seq (sns_asg snd_pop)
      (sns_for (own := [5]) (sni_seq snd_v) (sng_name (i := 5) (by decide))
      (sns_seq (sns_asg (snd_T (opt_tuple (K := K)) (sna_cons (sno_ex (snd_lc (own := [7]) (sni_seq snd_v) (sng_name (i := 7) (by decide)) snt_yes (snd_ix sno_nm sno_nm))) sna_nil)))
      (sns_if (snt_test (snd_in sno_nm sno_nm)) (sns_seq (sns_dput snd_bl sno_nm)
      (sns_app snd_v)) sns_next)))))
      (sns_ret snd_v)))), vc_law_all_reached⟩), hm, F.kp, F.bindsN fun _ _ _ _ _ _ us hl => match us, hl with | [_], _ => rfl⟩
abbrev s_law_odd_motions : Stmt := top 66
theorem sc_law_odd_motions : FnScope ["motions", "many", "first", "found", "wrong", "odd"] ["motions"] (defScope s_law_odd_motions) := ⟨rfl, rfl, rfl, by decide +kernel, rfl, by decide +kernel, by decide +kernel⟩
theorem d_law_odd_motions {P : Program} {w : World} {K : PySem.W.Frag} {mg : Str → Option Value} {base : Heap} (B : Bl mg) (F0 : DefAt K mg "_law_odd_motions" s_law_odd_motions) : Has P w K mg base "_law_odd_motions" 1 ["motions"] (spA F_law_odd_motions) := by
  obtain ⟨f, fd, F, hm⟩ := F0
  exact ⟨f, fd, okA F sc_law_odd_motions (fun ds Kc h => by match ds, h with | [_], _ => rfl) (fun cdv A outer s H Bb E hr => ⟨_, t_law_odd_motions  , (pss_cons (ps_asg (pe_tup (pa_cons (pe_callB (r := rLenA K) call_lenA (by rfl) B.len (by decide +kernel) (pa_cons (pe_ix (ix_any (hu_of hr)) (pv 0) pe_int (fun _ _ => rfl)) pa_nil)) (pa_cons (pe_callTy (T := "list") (r := rListA K) (call_listA rfl) (by rfl) B.list (by decide +kernel) (pa_cons (pe_ix (ix_any (hu_of hr)) (pv 0) pe_int (fun _ _ => rfl)) pa_nil)) pa_nil))) (pg_tup rfl (pgs_cons (pg_name (i := 1) sc_law_odd_motions.nd rfl (Or.inr rfl)) (pgs_cons (pg_name (i := 2) sc_law_odd_motions.nd rfl (Or.inr rfl)) pgs_nil))))
      (pss_cons (ps_set (i := 3) sc_law_odd_motions.nd rfl (Or.inl rfl) (pe_lst (pa_cons (pe_tup (pa_cons pe_non (pa_cons pe_int pa_nil))) (pa_cons (pe_tup (pa_cons pe_int (pa_cons pe_int pa_nil))) (pa_cons (pe_tup (pa_cons (pe_lst pa_nil) (pa_cons pe_int pa_nil))) (pa_cons (pe_tup (pa_cons pe_str (pa_cons pe_int pa_nil))) (pa_cons (pe_tup (pa_cons pe_dnewA (pa_cons pe_int pa_nil))) (pa_cons (pe_tup (pa_cons (pv 2) (pa_cons pe_int pa_nil))) (pa_cons (pe_tup (pa_cons (pe_lst (pa_cons pe_non pa_nil)) (pa_cons pe_int pa_nil))) (pa_cons (pe_tup (pa_cons (pe_lst (pa_cons (pe_lst pa_nil) pa_nil)) (pa_cons pe_int pa_nil))) (pa_cons (pe_tup (pa_cons (pe_lst (pa_cons pe_int pa_nil)) (pa_cons pe_int pa_nil))) (pa_cons (pe_tup (pa_cons pe_bl (pa_cons pe_int pa_nil))) pa_nil))))))))))))
      (pss_cons (ps_set (i := 4) sc_law_odd_motions.nd rfl (Or.inl rfl) (pe_lst (pa_cons pe_non (pa_cons (pe_slice sl_list (pv 2) po_none (po_some (pe_un un_neg pe_int))) (pa_cons (pe_op op_cat (pv 2) (pe_lst (pa_cons (pv 1) pa_nil))) (pa_cons (pe_op op_cat (pe_slice sl_list (pv 2) po_none (po_some (pe_un un_neg pe_int))) (pe_lst (pa_cons (pv 1) pa_nil))) (pa_cons (pe_op op_cat (pe_lst (pa_cons (pe_un un_neg pe_int) pa_nil)) (pe_slice sl_list (pv 2) (po_some pe_int) po_none)) (pa_cons (pe_op op_rep (pe_lst (pa_cons pe_bl pa_nil)) (pv 1)) (pa_cons (pe_op op_repS pe_str (pv 1)) (pa_cons (pe_op op_cat (pe_slice sl_list (pv 2) po_none (po_some (pe_un un_neg pe_int))) (pe_lst (pa_cons pe_non pa_nil))) pa_nil))))))))))
      (pss_cons (ps_if (pt_cmpR op_gt (pv 1) pe_int (nomark _)) (pss_one (ps_expr (pe_bm PySem.F.plainAttrs_list PySem.F.slot_list_extend PySem.F.type_list_extend mt_extend (pv 4) (pa_cons (pe_lst (pa_cons (pe_op op_cat (pe_slice sl_list (pv 2) (po_some pe_int) po_none) (pe_lst (pa_cons (pe_ix (ix_any (hu_of hr)) (pv 2) pe_int (fun _ _ => rfl)) pa_nil))) (pa_cons (pe_op op_rep (pe_lst (pa_cons pe_int pa_nil)) (pv 1)) pa_nil))) pa_nil)))) pss_nil)
      (pss_one (ps_ret (pe_op op_cat (pv 3) (pe_lc (own := [("odd", 5)]) rfl sc_law_odd_motions.nd (pi_seq (pv 4)) (blkOk_by (own := [("odd", 5)]) (N := ["motions", "many", "first", "found", "wrong", "odd"]) (sc := defScope s_law_odd_motions) (by decide +kernel)) (fun _ _ _ _ _ => (pg_name (i := 5) sc_law_odd_motions.nd rfl (Or.inl rfl))) (fun _ _ _ _ _ => pts_nil) (fun _ _ _ _ _ => (pe_tup (pa_cons (pe_lst (pa_cons (pv 2) (pa_cons (pe_listRg rfl (by rfl) B.list (prg_1 (by rfl) B.range (pv 1))) (pa_cons (pv 5) pa_nil)))) (pa_cons pe_int pa_nil)))))))))))),
      fun Xc _ => (sns_seq (sns_unp (snd_tup (snf_cons (snd_B opa_len (sna_cons (sno_ex (snd_ix sno_nm (sno_ex snd_int))) sna_nil)) (snf_cons (snd_listA (sna_cons (sno_ex (snd_ix sno_nm (sno_ex snd_int))) sna_nil)) snf_nil))) (sng_tup (is := [1, 2]) rfl (own := [1, 2]) (by decide)))
      (sns_seq (sns_asg (snd_lst (snf_cons (snd_tup (snf_cons snd_non (snf_cons snd_int snf_nil))) (snf_cons (snd_tup (snf_cons snd_int (snf_cons snd_int snf_nil))) (snf_cons (snd_tup (snf_cons (snd_lst snf_nil) (snf_cons snd_int snf_nil))) (snf_cons (snd_tup (snf_cons snd_str (snf_cons snd_int snf_nil))) (snf_cons (snd_tup (snf_cons snd_dictA (snf_cons snd_int snf_nil))) (snf_cons (snd_tup (snf_cons snd_v (snf_cons snd_int snf_nil))) (snf_cons (snd_tup (snf_cons (snd_lst (snf_cons snd_non snf_nil)) (snf_cons snd_int snf_nil))) (snf_cons (snd_tup (snf_cons (snd_lst (snf_cons (snd_lst snf_nil) snf_nil)) (snf_cons snd_int snf_nil))) (snf_cons (snd_tup (snf_cons (snd_lst (snf_cons snd_int snf_nil)) (snf_cons snd_int snf_nil))) (snf_cons (snd_tup (snf_cons snd_bl (snf_cons snd_int snf_nil))) snf_nil))))))))))))
      (sns_seq (sns_asg (snd_lst (snf_cons snd_non (snf_cons (snd_slice sno_nm snp_no (snp_so (sno_ex (snd_neg (sno_ex snd_int))))) (snf_cons (snd_L2 op2l_cat sno_nm (sno_ex (snd_lst (snf_cons snd_v snf_nil)))) (snf_cons (snd_L2 op2l_cat (sno_ex (snd_slice sno_nm snp_no (snp_so (sno_ex (snd_neg (sno_ex snd_int)))))) (sno_ex (snd_lst (snf_cons snd_v snf_nil)))) (snf_cons (snd_L2 op2l_cat (sno_ex (snd_lst (snf_cons (snd_neg (sno_ex snd_int)) snf_nil))) (sno_ex (snd_slice sno_nm (snp_so (sno_ex snd_int)) snp_no))) (snf_cons (snd_L2 op2l_rep (sno_ex (snd_lst (snf_cons snd_bl snf_nil))) sno_nm) (snf_cons (snd_op2 op2_repS (sno_ex snd_str) sno_nm) (snf_cons (snd_L2 op2l_cat (sno_ex (snd_slice sno_nm snp_no (snp_so (sno_ex (snd_neg (sno_ex snd_int)))))) (sno_ex (snd_lst (snf_cons snd_non snf_nil)))) snf_nil))))))))))
      (sns_seq (sns_if (snt_test (snd_I0 (f := fun i j => .bl (decide (j < i))) (fun _ _ => rfl) sno_nm (sno_ex snd_int))) (sns_ext (snd_lst (snf_cons (snd_L2 op2l_cat (sno_ex (snd_slice sno_nm (snp_so (sno_ex snd_int)) snp_no)) (sno_ex (snd_lst (snf_cons (snd_ix sno_nm (sno_ex snd_int)) snf_nil)))) (snf_cons (snd_L2 op2l_rep (sno_ex (snd_lst (snf_cons snd_int snf_nil))) sno_nm) snf_nil)))) sns_next)
      (sns_ret (snd_L2 op2l_cat sno_nm (sno_ex (snd_lc (own := [5]) (sni_seq snd_v) (sng_name (i := 5) (by decide)) snt_yes (snd_tup (snf_cons (snd_lst (snf_cons snd_v (snf_cons (snd_lstRg1 sno_nm) (snf_cons snd_v snf_nil)))) (snf_cons snd_int snf_nil))))))))))), vc_law_odd_motions⟩), hm, F.kp, F.bindsN fun _ _ _ _ _ _ us hl => match us, hl with | [_], _ => rfl⟩
abbrev s_law_odd_motion : Stmt := top 67
theorem sc_law_odd_motion : FnScope ["motions", "many", "first", "found"] ["motions"] (defScope s_law_odd_motion) := ⟨rfl, rfl, rfl, by decide +kernel, rfl, by decide +kernel, by decide +kernel⟩
theorem d_law_odd_motion {P : Program} {w : World} {K : PySem.W.Frag} {mg : Str → Option Value} {base : Heap} (B : Bl mg) (F0 : DefAt K mg "_law_odd_motion" s_law_odd_motion) : Has P w K mg base "_law_odd_motion" 1 ["motions"] (spP F_law_odd_motion) := by
  obtain ⟨f, fd, F, hm⟩ := F0
  exact ⟨f, fd, okP F sc_law_odd_motion (fun ds Kc h => by match ds, h with | [_], _ => rfl) (fun cdv A outer s H E hr => ⟨_, t_law_odd_motion  , (pss_cons (ps_par (i := 1) (j := 2) (by rfl) sc_law_odd_motion.nd rfl rfl (by decide) rfl rfl (pa_cons (pe_callB (r := rLenA K) call_lenA (by rfl) B.len (by decide +kernel) (pa_cons (pe_ix (ix_any (hu_of hr)) (pv 0) pe_int (fun _ _ => rfl)) pa_nil)) (pa_cons (pe_callTy (T := "list") (r := rListA K) (call_listA rfl) (by rfl) B.list (by decide +kernel) (pa_cons (pe_ix (ix_any (hu_of hr)) (pv 0) pe_int (fun _ _ => rfl)) pa_nil)) pa_nil)) (by rfl))
      (pss_cons (ps_set (i := 3) sc_law_odd_motion.nd rfl (Or.inl rfl) (pe_lst (pa_cons pe_non (pa_cons pe_int (pa_cons pe_str (pa_cons (pe_lst pa_nil) (pa_cons (pe_slice sl_list (pv 2) po_none (po_some (pe_un un_neg pe_int))) (pa_cons (pe_op op_cat (pv 2) (pe_lst (pa_cons (pv 1) pa_nil))) (pa_cons (pe_op op_cat (pe_slice sl_list (pv 2) po_none (po_some (pe_un un_neg pe_int))) (pe_lst (pa_cons (pv 1) pa_nil))) (pa_cons (pe_op op_cat (pe_lst (pa_cons (pe_un un_neg pe_int) pa_nil)) (pe_slice sl_list (pv 2) (po_some pe_int) po_none)) (pa_cons (pe_op op_cat (pe_slice sl_list (pv 2) po_none (po_some (pe_un un_neg pe_int))) (pe_lst (pa_cons pe_non pa_nil))) (pa_cons pe_dnewA (pa_cons pe_bl pa_nil)))))))))))))
      (pss_one (ps_ret (pe_op op_cat (pv 3) (pe_ifExp (pt_cmpR op_gt (pv 1) pe_int (nomark _)) (pe_lst (pa_cons (pe_op op_rep (pe_lst (pa_cons pe_int pa_nil)) (pv 1)) (pa_cons (pe_op op_cat (pe_slice sl_list (pv 2) (po_some pe_int) po_none) (pe_lst (pa_cons (pe_ix (ix_any (hu_of hr)) (pv 2) pe_int (fun _ _ => rfl)) pa_nil))) pa_nil))) (pe_lst (pa_cons (pe_lst (pa_cons pe_bl pa_nil)) (pa_cons (pe_lst (pa_cons pe_bl pa_nil)) pa_nil))))))))),
      fun Xc _ => by rw [t_law_odd_motion_eq]; exact (sns_seq (sns_par (snd_B opa_len (sna_cons (sno_ex (snd_ix sno_nm (sno_ex snd_int))) sna_nil)) (snd_listF (sna_cons (sno_ex (snd_ix sno_nm (sno_ex snd_int))) sna_nil)))
      (sns_seq (sns_asg (snd_lst (snf_cons snd_non (snf_cons snd_int (snf_cons snd_str (snf_cons (snd_lst snf_nil) (snf_cons (snd_slice sno_nm snp_no (snp_so (sno_ex (snd_neg (sno_ex snd_int))))) (snf_cons (snd_L2 op2l_cat sno_nm (sno_ex (snd_lst (snf_cons snd_vF snf_nil)))) (snf_cons (snd_L2 op2l_cat (sno_ex (snd_slice sno_nm snp_no (snp_so (sno_ex (snd_neg (sno_ex snd_int)))))) (sno_ex (snd_lst (snf_cons snd_vF snf_nil)))) (snf_cons (snd_L2 op2l_cat (sno_ex (snd_lst (snf_cons (snd_neg (sno_ex snd_int)) snf_nil))) (sno_ex (snd_slice sno_nm (snp_so (sno_ex snd_int)) snp_no))) (snf_cons (snd_L2 op2l_cat (sno_ex (snd_slice sno_nm snp_no (snp_so (sno_ex (snd_neg (sno_ex snd_int)))))) (sno_ex (snd_lst (snf_cons snd_non snf_nil)))) (snf_cons snd_dictA (snf_cons snd_bl snf_nil)))))))))))))
      (sns_ret (snd_L2 op2l_cat sno_nm (sno_ex (snd_if (snt_test (snd_I0 (f := fun i j => .bl (decide (j < i))) (fun _ _ => rfl) sno_nm (sno_ex snd_int))) (snd_lst (snf_cons (snd_L2 op2l_rep (sno_ex (snd_lst (snf_cons snd_int snf_nil))) sno_nm) (snf_cons (snd_L2 op2l_cat (sno_ex (snd_slice sno_nm (snp_so (sno_ex snd_int)) snp_no)) (sno_ex (snd_lst (snf_cons (snd_ix sno_nm (sno_ex snd_int)) snf_nil)))) snf_nil))) (snd_lst (snf_cons (snd_lst (snf_cons snd_bl snf_nil)) (snf_cons (snd_lst (snf_cons snd_bl snf_nil)) snf_nil))))))))), vc_law_odd_motion⟩), hm, F.kp, F.bindsN fun _ _ _ _ _ _ us hl => match us, hl with | [_], _ => rfl⟩
abbrev s_law_class : Stmt := top 68
theorem sc_law_class : FnScope ["reached", "motion", "found", "key"] ["reached", "motion"] (defScope s_law_class) := ⟨rfl, rfl, rfl, by decide +kernel, rfl, by decide +kernel, by decide +kernel⟩
theorem d_law_class {P : Program} {w : World} {K : PySem.W.Frag} {mg : Str → Option Value} {base : Heap} (B : Bl mg) (F0 : DefAt K mg "_law_class" s_law_class) (H_law_then : Has P w K mg base "_law_then" 1 ["motion", "other"] (spP F_law_then)) (H_law_back : Has P w K mg base "_law_back" 1 ["motion"] (spP F_law_back)) : Has P w K mg base "_law_class" 2 ["reached", "motion"] (spP F_law_class) := by
  obtain ⟨_, _, G_law_then, m_law_then, k_law_then, b_law_then⟩ := H_law_then
  obtain ⟨_, _, G_law_back, m_law_back, k_law_back, b_law_back⟩ := H_law_back
  obtain ⟨f, fd, F, hm⟩ := F0
  exact ⟨f, fd, okP F sc_law_class (fun ds Kc h => by match ds, h with | [_, _], _ => rfl) (fun cdv A outer s H E hr => ⟨_, t_law_class  , (pss_cons (ps_set (i := 2) sc_law_class.nd rfl (Or.inl rfl) pe_dnewA)
      (pss_cons (ps_forK (ps_for (passes_of rfl) rfl (pi_keys (pv 0)) (pg_name (i := 3) sc_law_class.nd rfl (Or.inl rfl))
      (pss_one (ps_dput (hu_of hr) (pv 2) (pe_callTy (T := "tuple") (r := rTupOf K) call_tuple_of (by rfl) B.tuple (by decide +kernel) (pa_cons (pe_call (E := E0) G_law_then (hr.mono (by decide)) (by rfl) m_law_then k_law_then b_law_then .nil passL (pa_cons (pe_call (E := E0) G_law_then (hr.mono (by decide)) (by rfl) m_law_then k_law_then b_law_then .nil passL (pa_cons (pe_call (E := E0) G_law_back (hr.mono (by decide)) (by rfl) m_law_back k_law_back b_law_back .nil passL (pa_cons (pe_callTy (T := "list") (r := rListA K) (call_listA rfl) (by rfl) B.list (by decide +kernel) (pa_cons (pv 3) pa_nil)) pa_nil)) (pa_cons (pv 1) pa_nil))) (pa_cons (pe_callTy (T := "list") (r := rListA K) (call_listA rfl) (by rfl) B.list (by decide +kernel) (pa_cons (pv 3) pa_nil)) pa_nil))) pa_nil)) pe_bl rfl))))
      (pss_one (ps_ret (pe_lc (own := [("key", 3)]) rfl sc_law_class.nd (pi_seq (pe_callB cr_sortedA (by rfl) B.sorted (by decide +kernel) (pa_cons (pe_callTy (T := "list") (r := rListA K) (call_listA rfl) (by rfl) B.list (by decide +kernel) (pa_cons (pv 2) pa_nil)) pa_nil))) (blkOk_by (own := [("key", 3)]) (N := ["reached", "motion", "found", "key"]) (sc := defScope s_law_class) (by decide +kernel)) (fun _ _ _ _ _ => (pg_name (i := 3) sc_law_class.nd rfl (Or.inl rfl))) (fun _ _ _ _ _ => pts_nil) (fun _ _ _ _ _ => (pe_callTy (T := "list") (r := rListA K) (call_listA rfl) (by rfl) B.list (by decide +kernel) (pa_cons (pv 3) pa_nil)))))))),
      fun Xc _ => (sns_seq (sns_asg snd_dictA)
      (sns_seq (sns_forK (own := [3]) (fun _ => (sng_name (i := 3) (by decide))) (fun _ =>
      (sns_dput snd_bl (sno_ex (snd_tupF (sna_cons (sno_ex (snd_callP XOk.no (sna_cons (sno_ex (snd_callP XOk.no (sna_cons (sno_ex (snd_callP XOk.no (sna_cons (sno_ex (snd_listF (sna_cons sno_nm sna_nil))) sna_nil))) (sna_cons sno_nm sna_nil)))) (sna_cons (sno_ex (snd_listF (sna_cons sno_nm sna_nil))) sna_nil)))) sna_nil))))))
      (sns_ret (snd_lc (own := [3]) (sni_seq (snd_sortedA (sna_cons (sno_ex (snd_listA (sna_cons sno_nm sna_nil))) sna_nil))) (sng_name (i := 3) (by decide)) snt_yes (snd_listF (sna_cons sno_nm sna_nil)))))), vc_law_class⟩), hm, F.kp, F.bindsN fun _ _ _ _ _ _ us hl => match us, hl with | [_, _], _ => rfl⟩
abbrev s_law_class_right : Stmt := top 69
theorem sc_law_class_right : FnScope ["state", "motions", "reached", "motion", "due", "handed", "before", "found", "one"] ["state", "motions", "reached", "motion"] (defScope s_law_class_right) := ⟨rfl, rfl, rfl, by decide +kernel, rfl, by decide +kernel, by decide +kernel⟩
theorem d_law_class_right {P : Program} {w : World} {K : PySem.W.Frag} {mg : Str → Option Value} {base : Heap} {C_BadMany : Addr} {C_BadMotions : Addr} {C_BadMotion : Addr} (B : Bl mg) (F0 : DefAt K mg "_law_class_right" s_law_class_right) (H_law_class : Has P w K mg base "_law_class" 2 ["reached", "motion"] (spP F_law_class)) (H_law_loose : Has P w K mg base "_law_loose" 11 ["state", "thing"] (spD (F_law_loose 8))) (H_law_copy : Has P w K mg base "_law_copy" 9 ["thing"] (spP (F_law_copy 8))) (H_class_of : Has P w K mg base "class_of" 7 ["motions", "motion"] (spN (F_class_of C_BadMany C_BadMotions C_BadMotion))) (H_law_same : Has P w K mg base "_law_same" 9 ["found", "due"] (spP (F_law_same 8))) (H_law_spoil : Has P w K mg base "_law_spoil" 9 ["thing"] (spSpoil 8)) (H_shape : Has P w K mg base "shape" 6 ["motion"] (spN (F_shape C_BadMotion))) : Has P w K mg base "_law_class_right" 12 ["state", "motions", "reached", "motion"] (spD (F_law_class_right C_BadMany C_BadMotions C_BadMotion)) := by
  obtain ⟨_, _, G_law_class, m_law_class, k_law_class, b_law_class⟩ := H_law_class
  obtain ⟨_, _, G_law_loose, m_law_loose, k_law_loose, b_law_loose⟩ := H_law_loose
  obtain ⟨_, _, G_law_copy, m_law_copy, k_law_copy, b_law_copy⟩ := H_law_copy
  obtain ⟨_, _, G_class_of, m_class_of, k_class_of, b_class_of⟩ := H_class_of
  obtain ⟨_, _, G_law_same, m_law_same, k_law_same, b_law_same⟩ := H_law_same
  obtain ⟨_, _, G_law_spoil, m_law_spoil, k_law_spoil, b_law_spoil⟩ := H_law_spoil
  obtain ⟨_, _, G_shape, m_shape, k_shape, b_shape⟩ := H_shape
  obtain ⟨f, fd, F, hm⟩ := F0
  exact ⟨f, fd, okD F sc_law_class_right (fun g ds Kc h => by match ds, h with | [_, _, _], _ => rfl) (fun cdv A outer s H G0 E hr => ⟨_, t_law_class_right C_BadMany C_BadMotions C_BadMotion , (pss_cons (ps_par (i := 4) (j := 5) (by rfl) sc_law_class_right.nd rfl rfl (by decide) rfl rfl (pa_cons (pe_call (E := E0) G_law_class (hr.mono (by decide)) (by rfl) m_law_class k_law_class b_law_class .nil passL (pa_cons (pv 2) (pa_cons (pv 3) pa_nil))) (pa_cons (pe_lst (pa_cons (pe_call (E := E0) G_law_loose (hr.mono (by decide)) (by rfl) m_law_loose k_law_loose b_law_loose .nil passL (pa_cons (pv 0) (pa_cons (pv 1) pa_nil))) (pa_cons (pe_call (E := E0) G_law_loose (hr.mono (by decide)) (by rfl) m_law_loose k_law_loose b_law_loose .nil passL (pa_cons (pv 0) (pa_cons (pv 3) pa_nil))) pa_nil))) pa_nil)) (by rfl))
      (pss_cons (ps_set (i := 6) sc_law_class_right.nd rfl (Or.inl rfl) (pe_call (E := E0) G_law_copy (hr.mono (by decide)) (by rfl) m_law_copy k_law_copy b_law_copy .nil passL (pa_cons (pv 5) pa_nil)))
      (pss_cons (ps_set (i := 7) sc_law_class_right.nd rfl (Or.inl rfl) (pe_call (E := E0) G_class_of (hr.mono (by decide)) (by rfl) m_class_of k_class_of b_class_of .nil passL (pa_cons (pe_ix (ix_any (hu_of hr)) (pv 5) pe_int (fun _ _ => rfl)) (pa_cons (pe_ix (ix_any (hu_of hr)) (pv 5) pe_int (fun _ _ => rfl)) pa_nil))))
      (pss_cons (ps_if (PW.pt (pw_or (pt_not (pt_val (pe_call (E := E0) G_law_same (hr.mono (by decide)) (by rfl) m_law_same k_law_same b_law_same .nil passL (pa_cons (pv 7) (pa_cons (pv 4) pa_nil))))) (pw_or (pt_not (pt_val (pe_call (E := E0) G_law_same (hr.mono (by decide)) (by rfl) m_law_same k_law_same b_law_same .nil passL (pa_cons (pv 5) (pa_cons (pv 6) pa_nil))))) (pw_or1 (pt_cmpR op_ne (pe_op op_mod (pe_callB (r := rLenTR) call_lenTR (by rfl) B.len (by decide +kernel) (pa_cons (pv 2) pa_nil)) (pe_callB (r := rLenA K) call_lenA (by rfl) B.len (by decide +kernel) (pa_cons (pv 4) pa_nil))) pe_int (nomark _)))))) (pss_one (ps_ret pe_bl)) pss_nil)
      (pss_cons (ps_expr (pe_call (E := E0) G_law_spoil (hr.mono (by decide)) (by rfl) m_law_spoil k_law_spoil b_law_spoil .nil passL (pa_cons (pv 7) pa_nil)))
      (pss_cons (ps_if (pt_not (pt_val (pe_call (E := E0) G_law_same (hr.mono (by decide)) (by rfl) m_law_same k_law_same b_law_same .nil passL (pa_cons (pe_call (E := E0) G_class_of (hr.mono (by decide)) (by rfl) m_class_of k_class_of b_class_of .nil passL (pa_cons (pe_ix (ix_any (hu_of hr)) (pv 5) pe_int (fun _ _ => rfl)) (pa_cons (pe_ix (ix_any (hu_of hr)) (pv 5) pe_int (fun _ _ => rfl)) pa_nil))) (pa_cons (pv 4) pa_nil))))) (pss_one (ps_ret pe_bl)) pss_nil)
      (pss_one (ps_ret (pe_callB (r := rAll K) (cr_all rfl) (by rfl) B.all (by decide +kernel) (pa_cons (pe_lc (own := [("one", 8)]) rfl sc_law_class_right.nd (pi_seq (pe_slice sl_list (pv 4) po_none (po_some pe_int))) (blkOk_by (own := [("one", 8)]) (N := ["state", "motions", "reached", "motion", "due", "handed", "before", "found", "one"]) (sc := defScope s_law_class_right) (by decide +kernel)) (fun _ _ _ _ _ => (pg_name (i := 8) sc_law_class_right.nd rfl (Or.inl rfl))) (fun _ _ _ _ _ => pts_nil) (fun _ _ _ _ _ => (pe_call (E := E0) G_law_same (hr.mono (by decide)) (by rfl) m_law_same k_law_same b_law_same .nil passL (pa_cons (pe_call (E := E0) G_shape (hr.mono (by decide)) (by rfl) m_shape k_shape b_shape .nil passL (pa_cons (pe_call (E := E0) G_law_copy (hr.mono (by decide)) (by rfl) m_law_copy k_law_copy b_law_copy .nil passL (pa_cons (pv 8) pa_nil)) pa_nil)) (pa_cons (pe_call (E := E0) G_shape (hr.mono (by decide)) (by rfl) m_shape k_shape b_shape .nil passL (pa_cons (pe_call (E := E0) G_law_copy (hr.mono (by decide)) (by rfl) m_law_copy k_law_copy b_law_copy .nil passL (pa_cons (pv 3) pa_nil)) pa_nil)) pa_nil))))) pa_nil)))))))))),
      (by rw [t_law_class_right_eq]; exact (sns_seq (sns_par (snd_callP XOk.no (sna_cons sno_nm (sna_cons sno_nm sna_nil))) (snd_lst (snf_cons (snd_callD (sna_cons sno_nm sna_nil)) (snf_cons (snd_callD (sna_cons sno_nm sna_nil)) snf_nil))))
      (sns_seq (sns_asg (snd_callP XOk.no (sna_cons sno_nm sna_nil)))
      (sns_seq (sns_asg (snd_callND XOk.no (snf_cons (snd_ix sno_nm (sno_ex snd_int)) (snf_cons (snd_ix sno_nm (sno_ex snd_int)) snf_nil))))
      (sns_seq (sns_if (snt_or (snt_not (snt_B (snd_callP XOk.no (sna_cons sno_nm (sna_cons sno_nm sna_nil))))) (snt_or (snt_not (snt_B (snd_callP XOk.no (sna_cons sno_nm (sna_cons sno_nm sna_nil))))) (snt_test (snd_op2 op2_ne (sno_ex (snd_I (f := fun i j => .int (i % j)) (fun _ _ => rfl) (sno_ex (snd_B opa_lenT (sna_cons sno_nm sna_nil))) (sno_ex (snd_B opa_len (sna_cons sno_nm sna_nil))))) (sno_ex snd_int))))) (sns_ret snd_bl) sns_next)
      (sns_seq sns_spoil
      (sns_seq (sns_if (snt_not (snt_B (snd_callP XOk.no (sna_cons (sno_ex (snd_callND XOk.no (snf_cons (snd_ix sno_nm (sno_ex snd_int)) (snf_cons (snd_ix sno_nm (sno_ex snd_int)) snf_nil)))) (sna_cons sno_nm sna_nil))))) (sns_ret snd_bl) sns_next)
      (sns_ret (snd_B opa_all (sna_cons (sno_ex (snd_lc (own := [8]) (sni_seq (snd_slice sno_nm snp_no (snp_so (sno_ex snd_int)))) (sng_name (i := 8) (by decide)) snt_yes (snd_callP XOk.no (sna_cons (sno_ex (snd_callN XOk.no (snf_cons (snd_callP XOk.no (sna_cons sno_nm sna_nil)) snf_nil))) (sna_cons (sno_ex (snd_callN XOk.no (snf_cons (snd_callP XOk.no (sna_cons sno_nm sna_nil)) snf_nil))) sna_nil))))) sna_nil)))))))))), vc_law_class_right C_BadMany C_BadMotions C_BadMotion⟩), hm, F.kp, F.bindsN fun _ _ _ _ _ _ us hl => match us, hl with | [_, _, _, _], _ => rfl⟩
abbrev s_law_told : Stmt := top 65
theorem sc_law_told : FnScope ["ask", "e"] ["ask"] (defScope s_law_told) := ⟨rfl, rfl, rfl, by decide +kernel, rfl, by decide +kernel, by decide +kernel⟩
abbrev s_law : Stmt := top 70
theorem sc_law : FnScope ["script", "state", "turn", "motions", "many", "reached", "motion", "due", "seen", "key", "one", "found", "some", "odd", "index", "*t"] ["script"] (defScope s_law) := ⟨rfl, rfl, rfl, by decide +kernel, rfl, by decide +kernel, by decide +kernel⟩
theorem ok_law {P : Program} {w : World} {K : PySem.W.Frag} {mg : Str → Option Value} {base : Heap} {fd : FuncData} {C_BadMany : Addr} {C_BadMotions : Addr} {C_BadMotion : Addr} {hs_law_told : List (Addr × Str × Str)} {PT : Addr} (B : Bl mg) (H_law_start : Has P w K mg base "_law_start" 1 ["script"] (spStart K)) (H_law_draw_motions : Has P w K mg base "_law_draw_motions" 4 ["state", "least", "most", "gens"] (spD F_law_draw_motions)) (H_law_pick : Has P w K mg base "_law_pick" 1 ["state", "many"] (spD F_law_pick)) (H_law_all_reached : Has P w K mg base "_law_all_reached" 1 ["motions"] (spP F_law_all_reached)) (H_law_one : Has P w K mg base "_law_one" 2 ["state", "things"] (spDA F_law_one)) (H_law_mixed : Has P w K mg base "_law_mixed" 2 ["state", "things"] (spD F_law_mixed)) (H_law_class_right : Has P w K mg base "_law_class_right" 12 ["state", "motions", "reached", "motion"] (spD (F_law_class_right C_BadMany C_BadMotions C_BadMotion))) (H_law_class : Has P w K mg base "_law_class" 2 ["reached", "motion"] (spP F_law_class)) (H_classes : Has P w K mg base "classes" 8 ["motions"] (spP (F_classes C_BadMany C_BadMotions))) (H_law_loose : Has P w K mg base "_law_loose" 11 ["state", "thing"] (spD (F_law_loose 8))) (H_law_same : Has P w K mg base "_law_same" 9 ["found", "due"] (spP (F_law_same 8))) (H_law_spoil : Has P w K mg base "_law_spoil" 9 ["thing"] (spSpoil 8)) (H_law_copy : Has P w K mg base "_law_copy" 9 ["thing"] (spP (F_law_copy 8))) (H_law_odd_motion : Has P w K mg base "_law_odd_motion" 1 ["motions"] (spP F_law_odd_motion)) (H_class_of : Has P w K mg base "class_of" 7 ["motions", "motion"] (spN (F_class_of C_BadMany C_BadMotions C_BadMotion))) (H_law_odd_motions : Has P w K mg base "_law_odd_motions" 1 ["motions"] (spA F_law_odd_motions)) (F_law_told : DefAt K mg "_law_told" s_law_told) (T_law_told : TellHs K mg (defScope s_law_told) "e" (hdsOf s_law_told) hs_law_told) (hw : tellsX K hs_law_told C_BadMotions "motions" "index") (hm : tellsX K hs_law_told C_BadMotion "motion" "motion") (F : FunD K "law" "law" (defArgs s_law) (defBody s_law) (defScope s_law) [] [] (He.fAd K ("law", none)) fd) (TB : LamX.TabB base mg (He.codeOf K ("law", none)) PT) :
    FnOk P w K mg base (L2.CX P w) 16 (He.fAd K ("law", none)) fd ["script"] (spLaw K PT) := by
  obtain ⟨_, _, G_law_start, m_law_start, k_law_start, b_law_start⟩ := H_law_start
  obtain ⟨_, _, G_law_draw_motions, m_law_draw_motions, k_law_draw_motions, b_law_draw_motions⟩ := H_law_draw_motions
  obtain ⟨_, _, G_law_pick, m_law_pick, k_law_pick, b_law_pick⟩ := H_law_pick
  obtain ⟨_, _, G_law_all_reached, m_law_all_reached, k_law_all_reached, b_law_all_reached⟩ := H_law_all_reached
  obtain ⟨_, _, G_law_one, m_law_one, k_law_one, b_law_one⟩ := H_law_one
  obtain ⟨_, _, G_law_mixed, m_law_mixed, k_law_mixed, b_law_mixed⟩ := H_law_mixed
  obtain ⟨_, _, G_law_class_right, m_law_class_right, k_law_class_right, b_law_class_right⟩ := H_law_class_right
  obtain ⟨_, _, G_law_class, m_law_class, k_law_class, b_law_class⟩ := H_law_class
  obtain ⟨_, _, G_classes, m_classes, k_classes, b_classes⟩ := H_classes
  obtain ⟨_, _, G_law_loose, m_law_loose, k_law_loose, b_law_loose⟩ := H_law_loose
  obtain ⟨_, _, G_law_same, m_law_same, k_law_same, b_law_same⟩ := H_law_same
  obtain ⟨_, _, G_law_spoil, m_law_spoil, k_law_spoil, b_law_spoil⟩ := H_law_spoil
  obtain ⟨_, _, G_law_copy, m_law_copy, k_law_copy, b_law_copy⟩ := H_law_copy
  obtain ⟨_, _, G_law_odd_motion, m_law_odd_motion, k_law_odd_motion, b_law_odd_motion⟩ := H_law_odd_motion
  obtain ⟨_, _, G_class_of, m_class_of, k_class_of, b_class_of⟩ := H_class_of
  obtain ⟨_, _, G_law_odd_motions, m_law_odd_motions, k_law_odd_motions, b_law_odd_motions⟩ := H_law_odd_motions
  obtain ⟨g_law_told, fd_law_told, F_law_told, mt_law_told⟩ := F_law_told
  have kt_law_told := F_law_told.kp
  have bt_law_told : Binds K fd_law_told ["ask"] [] := F_law_told.bindsN fun _ _ _ _ _ _ us hl => match us, hl with | [_], _ => rfl
  obtain ⟨_, _, _, _, _, _, _, _, _, _, rfl, lkt_law_told, hct_law_told, _, _⟩ := F_law_told.ex
  refine okLaw (n := 14) (p := ("law", none)) (q := (("law" : Str) ++ ".<locals>.") ++ "<lambda>") F rfl sc_law rfl fun A outer s H E hr => ⟨_, t_law C_BadMany C_BadMotions C_BadMotion hs_law_told PT ((("law" : Str) ++ ".<locals>.") ++ "<lambda>") K, (pss_cons (ps_set (i := 1) sc_law.nd rfl (Or.inl rfl) (pe_call (E := E0) G_law_start (hr.mono (by decide)) (by rfl) m_law_start k_law_start b_law_start .nil passL (pa_cons (pv 0) pa_nil)))
      (pss_cons (ps_for (passes_of rfl) rfl (pi_range1 (by rfl) B.range (pa_cons pe_int pa_nil)) (pg_name (i := 2) sc_law.nd rfl (Or.inl rfl))
      (pss_cons (ps_set (i := 3) sc_law.nd rfl (Or.inr rfl) (pe_call (E := E0) G_law_draw_motions (hr.mono (by decide)) (by rfl) m_law_draw_motions k_law_draw_motions b_law_draw_motions .nil passL (pa_cons (pv 1) (pa_cons pe_int (pa_cons (pe_ifExp (pt_cmpR op_eq (pe_call (E := E0) G_law_pick (hr.mono (by decide)) (by rfl) m_law_pick k_law_pick b_law_pick .nil passL (pa_cons (pv 1) (pa_cons pe_int pa_nil))) pe_int (nomark _)) pe_int pe_int) (pa_cons pe_int pa_nil))))))
      (pss_cons (ps_par (i := 4) (j := 5) (by rfl) sc_law.nd rfl rfl (by decide) rfl rfl (pa_cons (pe_callB (r := rLenA K) call_lenA (by rfl) B.len (by decide +kernel) (pa_cons (pe_ix (ix_any (hu_of hr)) (pv 3) pe_int (fun _ _ => rfl)) pa_nil)) (pa_cons (pe_call (E := E0) G_law_all_reached (hr.mono (by decide)) (by rfl) m_law_all_reached k_law_all_reached b_law_all_reached .nil passL (pa_cons (pv 3) pa_nil)) pa_nil)) (by rfl))
      (pss_cons (ps_for (passes_of rfl) rfl (pi_seq (pe_tup (pa_cons (pe_call (E := E0) G_law_mixed (hr.mono (by decide)) (by rfl) m_law_mixed k_law_mixed b_law_mixed .nil passL (pa_cons (pv 1) (pa_cons (pe_listRg rfl (by rfl) B.list (prg_1 (by rfl) B.range (pv 4))) pa_nil))) (pa_cons (pe_callTy (T := "list") (r := rListA K) (call_listA rfl) (by rfl) B.list (by decide +kernel) (pa_cons (pe_call (E := E0) G_law_one (hr.mono (by decide)) (by rfl) m_law_one k_law_one b_law_one .nil passL (pa_cons (pv 1) (pa_cons (pe_callB cr_sortedA (by rfl) B.sorted (by decide +kernel) (pa_cons (pe_callTy (T := "list") (r := rListA K) (call_listA rfl) (by rfl) B.list (by decide +kernel) (pa_cons (pv 5) pa_nil)) pa_nil)) pa_nil))) pa_nil)) (pa_cons (pe_listRg rfl (by rfl) B.list (prg_1 (by rfl) B.range (pv 4))) (pa_cons (pe_callTy (T := "list") (r := rListA K) (call_listA rfl) (by rfl) B.list (by decide +kernel) (pa_cons (pe_ix (ix_any (hu_of hr)) (pv 3) pe_int (fun _ _ => rfl)) pa_nil)) pa_nil)))))) (pg_name (i := 6) sc_law.nd rfl (Or.inl rfl))
      (pss_one (ps_if (pt_not (pt_val (pe_call (E := E0) G_law_class_right (hr.mono (by decide)) (by rfl) m_law_class_right k_law_class_right b_law_class_right .nil passL (pa_cons (pv 1) (pa_cons (pv 3) (pa_cons (pv 5) (pa_cons (pv 6) pa_nil))))))) (pss_one (ps_ret pe_bl)) pss_nil)))
      (pss_cons (ps_if (pt_cmpR op_lt (pe_callB (r := rLenTR) call_lenTR (by rfl) B.len (by decide +kernel) (pa_cons (pv 5) pa_nil)) pe_int (nomark _)) (pss_cons (ps_par (i := 7) (j := 8) (by rfl) sc_law.nd rfl rfl (by decide) rfl rfl (pa_cons (pe_lst pa_nil) (pa_cons pe_dnewA pa_nil)) (by rfl))
      (pss_cons (ps_for (passes_of rfl) rfl (pi_seq (pe_callB cr_sortedA (by rfl) B.sorted (by decide +kernel) (pa_cons (pe_callTy (T := "list") (r := rListA K) (call_listA rfl) (by rfl) B.list (by decide +kernel) (pa_cons (pv 5) pa_nil)) pa_nil))) (pg_name (i := 9) sc_law.nd rfl (Or.inl rfl))
      (pss_one (ps_if (pt_cmpR (op_notInA (hu_of hr)) (pv 9) (pv 8) (by rfl)) (pss_cons (ps_expr (pe_bm PySem.F.plainAttrs_list PySem.F.slot_list_append PySem.F.type_list_append mt_append (pv 7) (pa_cons (pe_call (E := E0) G_law_class (hr.mono (by decide)) (by rfl) m_law_class k_law_class b_law_class .nil passL (pa_cons (pv 5) (pa_cons (pe_callTy (T := "list") (r := rListA K) (call_listA rfl) (by rfl) B.list (by decide +kernel) (pa_cons (pv 9) pa_nil)) pa_nil))) pa_nil)))
      (pss_one (ps_for (passes_of rfl) rfl (pi_seq (pe_ix (ix_any (hu_of hr)) (pv 7) (pe_un un_neg pe_int) (fun _ _ => rfl))) (pg_name (i := 10) sc_law.nd rfl (Or.inl rfl))
      (pss_one (ps_dput (hu_of hr) (pv 8) (pe_callTy (T := "tuple") (r := rTupOf K) call_tuple_of (by rfl) B.tuple (by decide +kernel) (pa_cons (pv 10) pa_nil)) pe_bl rfl))))) pss_nil)))
      (pss_cons (ps_set (i := 11) sc_law.nd rfl (Or.inl rfl) (pe_call (E := E0) G_classes (hr.mono (by decide)) (by rfl) m_classes k_classes b_classes .nil passL (pa_cons (pe_call (E := E0) G_law_loose (hr.mono (by decide)) (by rfl) m_law_loose k_law_loose b_law_loose .nil passL (pa_cons (pv 1) (pa_cons (pv 3) pa_nil))) pa_nil)))
      (pss_cons (ps_if (PW.pt (pw_or (pt_not (pt_val (pe_call (E := E0) G_law_same (hr.mono (by decide)) (by rfl) m_law_same k_law_same b_law_same .nil passL (pa_cons (pv 11) (pa_cons (pv 7) pa_nil))))) (pw_or1 (pt_cmpR op_ne (pe_callB (r := rSum K) (cr_sum rfl) (by rfl) B.sum (by decide +kernel) (pa_cons (pe_lc (own := [("some", 12)]) rfl sc_law.nd (pi_seq (pv 7)) (blkOk_by (own := [("some", 12)]) (N := ["script", "state", "turn", "motions", "many", "reached", "motion", "due", "seen", "key", "one", "found", "some", "odd", "index", "*t"]) (sc := defScope s_law) (by decide +kernel)) (fun _ _ _ _ _ => (pg_name (i := 12) sc_law.nd rfl (Or.inl rfl))) (fun _ _ _ _ _ => pts_nil) (fun _ _ _ _ _ => (pe_callB (r := rLenA K) call_lenA (by rfl) B.len (by decide +kernel) (pa_cons (pv 12) pa_nil)))) pa_nil)) (pe_callB (r := rLenTR) call_lenTR (by rfl) B.len (by decide +kernel) (pa_cons (pv 5) pa_nil)) (nomark _))))) (pss_one (ps_ret pe_bl)) pss_nil)
      (pss_cons (ps_expr (pe_call (E := E0) G_law_spoil (hr.mono (by decide)) (by rfl) m_law_spoil k_law_spoil b_law_spoil .nil passL (pa_cons (pv 11) pa_nil)))
      (pss_one (ps_if (pt_not (pt_val (pe_call (E := E0) G_law_same (hr.mono (by decide)) (by rfl) m_law_same k_law_same b_law_same .nil passL (pa_cons (pe_call (E := E0) G_classes (hr.mono (by decide)) (by rfl) m_classes k_classes b_classes .nil passL (pa_cons (pe_call (E := E0) G_law_copy (hr.mono (by decide)) (by rfl) m_law_copy k_law_copy b_law_copy .nil passL (pa_cons (pv 3) pa_nil)) pa_nil)) (pa_cons (pv 7) pa_nil))))) (pss_one (ps_ret pe_bl)) pss_nil))))))) pss_nil)
      (pss_cons (ps_for (passes_of rfl) rfl (pi_seq (pe_call (E := E0) G_law_odd_motion (hr.mono (by decide)) (by rfl) m_law_odd_motion k_law_odd_motion b_law_odd_motion .nil passL (pa_cons (pv 3) pa_nil))) (pg_name (i := 13) sc_law.nd rfl (Or.inr rfl))
      (pss_one (ps_if (pt_not (pt_val (pe_call (E := E0) G_law_same (hr.mono (by decide)) (by rfl) m_law_same k_law_same b_law_same .nil passL (pa_cons (pe_lamQ qual_lam (pe_lamcall1 (k := 9) (g := g_law_told) (by rfl) mt_law_told kt_law_told lkt_law_told hct_law_told bt_law_told sc_law_told rfl (.inl rfl) (told_givesL sc_law_told.nd (by decide) rfl (by decide +kernel) (by decide) (by decide) (fun _ => rfl) T_law_told) TB rfl (hr.mono (by decide)) (lamS_by (sc := defScope s_law) (by decide +kernel)) rfl (fun _ _ _ _ _ => rfl) (fun A outer s H E f c2 hr => (pe_call (E := E) G_class_of (hr.mono (by decide)) (by rfl) m_class_of k_class_of b_class_of .nil (passes_call (takes_of rfl rfl rfl rfl) (fun _ _ _ _ h => h)) (pa_cons (pe_call (E := E) G_law_copy (hr.mono (by decide)) (by rfl) m_law_copy k_law_copy b_law_copy .nil (passes_call (takes_of rfl rfl rfl rfl) (fun _ _ _ _ h => h)) (pa_cons (pv 3) pa_nil)) (pa_cons (pe_call (E := E) G_law_copy (hr.mono (by decide)) (by rfl) m_law_copy k_law_copy b_law_copy .nil (passes_call (takes_of rfl rfl rfl rfl) (fun _ _ _ _ h => h)) (pa_cons (pv 13) pa_nil)) pa_nil)))))) (pa_cons (pe_lst (pa_cons pe_str (pa_cons (pv 13) pa_nil))) pa_nil))))) (pss_one (ps_ret pe_bl)) pss_nil)))
      (pss_one (ps_for (passes_of rfl) rfl (pi_seq (pe_call (E := E0) G_law_odd_motions (hr.mono (by decide)) (by rfl) m_law_odd_motions k_law_odd_motions b_law_odd_motions .nil passL (pa_cons (pv 3) pa_nil))) (pg_tup rfl (pgs_cons (pg_name (i := 13) sc_law.nd rfl (Or.inr rfl)) (pgs_cons (pg_name (i := 14) sc_law.nd rfl (Or.inl rfl)) pgs_nil)))
      (pss_cons (ps_set (i := 11) sc_law.nd rfl (Or.inl rfl) (pe_lst (pa_cons (pe_lamQ qual_lam (pe_lamcall1 (k := 9) (g := g_law_told) (by rfl) mt_law_told kt_law_told lkt_law_told hct_law_told bt_law_told sc_law_told rfl (.inl rfl) (told_givesL sc_law_told.nd (by decide) rfl (by decide +kernel) (by decide) (by decide) (fun _ => rfl) T_law_told) TB rfl (hr.mono (by decide)) (lamS_by (sc := defScope s_law) (by decide +kernel)) rfl (fun _ _ _ _ _ => rfl) (fun A outer s H E f c2 hr => (pe_call (E := E) G_class_of (hr.mono (by decide)) (by rfl) m_class_of k_class_of b_class_of .nil (passes_call (takes_of rfl rfl rfl rfl) (fun _ _ _ _ h => h)) (pa_cons (pe_call (E := E) G_law_copy (hr.mono (by decide)) (by rfl) m_law_copy k_law_copy b_law_copy .nil (passes_call (takes_of rfl rfl rfl rfl) (fun _ _ _ _ h => h)) (pa_cons (pv 13) pa_nil)) (pa_cons pe_non pa_nil)))))) pa_nil)))
      (pss_cons (ps_expr (pe_bm PySem.F.plainAttrs_list PySem.F.slot_list_append PySem.F.type_list_append mt_append (pv 11) (pa_cons (pe_lamQ qual_lam (pe_lamcall1 (k := 9) (g := g_law_told) (by rfl) mt_law_told kt_law_told lkt_law_told hct_law_told bt_law_told sc_law_told rfl (.inl rfl) (told_givesL sc_law_told.nd (by decide) rfl (by decide +kernel) (by decide) (by decide) (fun _ => rfl) T_law_told) TB rfl (hr.mono (by decide)) (lamS_by (sc := defScope s_law) (by decide +kernel)) rfl (fun _ _ _ _ _ => rfl) (fun A outer s H E f c2 hr => (pe_call (E := E) G_classes (hr.mono (by decide)) (by rfl) m_classes k_classes b_classes .nil (passes_call (takes_of rfl rfl rfl rfl) (fun _ _ _ _ h => h)) (pa_cons (pe_call (E := E) G_law_copy (hr.mono (by decide)) (by rfl) m_law_copy k_law_copy b_law_copy .nil (passes_call (takes_of rfl rfl rfl rfl) (fun _ _ _ _ h => h)) (pa_cons (pv 13) pa_nil)) pa_nil))))) pa_nil)))
      (pss_one (ps_if (pt_not (pt_val (pe_call (E := E0) G_law_same (hr.mono (by decide)) (by rfl) m_law_same k_law_same b_law_same .nil passL (pa_cons (pv 11) (pa_cons (pe_op op_rep (pe_lst (pa_cons (pe_lst (pa_cons pe_str (pa_cons (pv 14) pa_nil))) pa_nil)) pe_int) pa_nil))))) (pss_one (ps_ret pe_bl)) pss_nil))))))))))))
      (pss_one (ps_ret pe_bl)))),
    fun G0 => by rw [t_law_eq]; exact (sns_seq sns_start
      (sns_seq (sns_for (own := [2]) (sni_rng1 (sna_cons (sno_ex snd_int) sna_nil)) (sng_name (i := 2) (by decide))
      (sns_seq (sns_asg (snd_callD (sna_cons (sno_ex snd_int) (sna_cons (sno_ex (snd_if (snt_test (snd_op2 op2_eq (sno_ex (snd_callD (sna_cons (sno_ex snd_int) sna_nil))) (sno_ex snd_int))) snd_int snd_int)) (sna_cons (sno_ex snd_int) sna_nil)))))
      (sns_seq (sns_par (snd_B opa_len (sna_cons (sno_ex (snd_ix sno_nm (sno_ex snd_int))) sna_nil)) (snd_callP XOk.no (sna_cons sno_nm sna_nil)))
      (sns_seq (sns_for (own := [6]) (sni_seq (snd_tup (snf_cons (snd_callD (sna_cons (sno_ex (snd_lstRg1 sno_nm)) sna_nil)) (snf_cons (snd_listA (sna_cons (sno_ex (snd_callDA (snf_cons (snd_sortedA (sna_cons (sno_ex (snd_listA (sna_cons sno_nm sna_nil))) sna_nil)) snf_nil))) sna_nil)) (snf_cons (snd_lstRg1 sno_nm) (snf_cons (snd_listA (sna_cons (sno_ex (snd_ix sno_nm (sno_ex snd_int))) sna_nil)) snf_nil)))))) (sng_name (i := 6) (by decide))
      (sns_if (snt_not (snt_B (snd_callD (sna_cons sno_nm (sna_cons sno_nm (sna_cons sno_nm sna_nil)))))) (sns_ret snd_bl) sns_next))
      (sns_seq (sns_if (snt_test (snd_I0 (f := fun i j => .bl (decide (i < j))) (fun _ _ => rfl) (sno_ex (snd_B opa_lenT (sna_cons sno_nm sna_nil))) (sno_ex snd_int))) (sns_seq (sns_par (snd_lst snf_nil) snd_dictA)
      (sns_seq (sns_for (own := [9]) (sni_seq (snd_sortedA (sna_cons (sno_ex (snd_listA (sna_cons sno_nm sna_nil))) sna_nil))) (sng_name (i := 9) (by decide))
      (sns_if (snt_test (snd_in sno_nm sno_nm)) (sns_seq (sns_app (snd_callP XOk.no (sna_cons sno_nm (sna_cons (sno_ex (snd_listA (sna_cons sno_nm sna_nil))) sna_nil))))
      (sns_for (own := [10]) (sni_seq (snd_ix sno_nm (sno_ex (snd_neg (sno_ex snd_int))))) (sng_name (i := 10) (by decide))
      (sns_dput snd_bl (sno_ex (snd_T (opt_tuple (K := K)) (sna_cons sno_nm sna_nil)))))) sns_next))
      (sns_seq (sns_asg (snd_callPD XOk.no (sna_cons (sno_ex (snd_callD (sna_cons sno_nm sna_nil))) sna_nil)))
      (sns_seq (sns_if (snt_or (snt_not (snt_B (snd_callP XOk.no (sna_cons sno_nm (sna_cons sno_nm sna_nil))))) (snt_test (snd_op2 op2_ne (sno_ex (snd_B opa_sum (sna_cons (sno_ex (snd_lc (own := [12]) (sni_seq snd_vF) (sng_name (i := 12) (by decide)) snt_yes (snd_B opa_len (sna_cons sno_nm sna_nil)))) sna_nil))) (sno_ex (snd_B opa_lenT (sna_cons sno_nm sna_nil)))))) (sns_ret snd_bl) sns_next)
      (sns_seq sns_spoil
      (sns_if (snt_not (snt_B (snd_callP XOk.no (sna_cons (sno_ex (snd_callP XOk.no (sna_cons (sno_ex (snd_callP XOk.no (sna_cons sno_nm sna_nil))) sna_nil))) (sna_cons sno_nm sna_nil))))) (sns_ret snd_bl) sns_next)))))) sns_next)
      (sns_seq (sns_for (own := [13]) (sni_seq (snd_callP XOk.no (sna_cons sno_nm sna_nil))) (sng_name (i := 13) (by decide))
      (sns_if (snt_not (snt_B (snd_callP XOk.no (sna_cons (sno_ex (snd_told (cap := [3, 13]) fun G0 E Xc hE => (snd_callN hE (snf_cons (snd_callP hE (sna_cons sno_nm sna_nil)) (snf_cons (snd_callP hE (sna_cons sno_nm sna_nil)) snf_nil))))) (sna_cons (sno_ex (snd_lst (snf_cons snd_str (snf_cons snd_vF snf_nil)))) sna_nil))))) (sns_ret snd_bl) sns_next))
      (sns_for (own := [13, 14]) (sni_seq (snd_callA XOk.no (snf_cons snd_vF snf_nil))) (sng_tup (is := [13, 14]) rfl (by decide))
      (sns_seq (sns_asg (snd_lst (snf_cons (snd_told (cap := [13]) fun G0 E Xc hE => (snd_callN hE (snf_cons (snd_callP hE (sna_cons sno_nm sna_nil)) (snf_cons snd_non snf_nil)))) snf_nil)))
      (sns_seq (sns_app (snd_told (cap := [13]) fun G0 E Xc hE => (snd_callP hE (sna_cons (sno_ex (snd_callP hE (sna_cons sno_nm sna_nil))) sna_nil))))
      (sns_if (snt_not (snt_B (snd_callP XOk.no (sna_cons sno_nm (sna_cons (sno_ex (snd_L2 op2l_rep (sno_ex (snd_lst (snf_cons (snd_lst (snf_cons snd_str (snf_cons snd_vF snf_nil))) snf_nil))) (sno_ex snd_int))) sna_nil))))) (sns_ret snd_bl) sns_next))))))))))
      (sns_ret snd_bl))), fun ns _ => vc_law hw hm ns⟩
abbrev si_BadMany : Stmt := mthd (top 21)
theorem sci_BadMany : FnScope ["self", "many"] ["self", "many"] (defScope si_BadMany) := ⟨rfl, rfl, rfl, by decide +kernel, rfl, by decide +kernel, by decide +kernel⟩
abbrev si_BadMotion : Stmt := mthd (top 22)
theorem sci_BadMotion : FnScope ["self", "motion"] ["self", "motion"] (defScope si_BadMotion) := ⟨rfl, rfl, rfl, by decide +kernel, rfl, by decide +kernel, by decide +kernel⟩
abbrev si_BadMotions : Stmt := mthd (top 23)
theorem sci_BadMotions : FnScope ["self", "index"] ["self", "index"] (defScope si_BadMotions) := ⟨rfl, rfl, rfl, by decide +kernel, rfl, by decide +kernel, by decide +kernel⟩
def fnL : List He.DefD := [dD "is_integer" s_is_integer, dD "is_number" s_is_number, dD "is_list" s_is_list, dD "check_many" s_check_many, dD "is_motion_of" s_is_motion_of, dD "is_motion" s_is_motion, dD "need_motion" s_need_motion, dD "moved_places" s_moved_places, dD "all_rings" s_all_rings, dD "rings_of" s_rings_of, dD "composed" s_composed, dD "undone" s_undone, dD "wrong_motion" s_wrong_motion, dD "need_motions" s_need_motions, dD "check_motion" s_check_motion, dD "all_reached" s_all_reached, dD "taken_along" s_taken_along, dD "spread_class" s_spread_class, dD "ascending" s_ascending, dD "class_of" s_class_of, dD "classes" s_classes, dD "shape" s_shape, dD "_law_start" s_law_start, dD "_law_pick" s_law_pick, dD "_law_between" s_law_between, dD "_law_one" s_law_one, dD "_law_mixed" s_law_mixed, dD "_law_same" s_law_same, dD "_law_copy" s_law_copy, dD "_law_loose" s_law_loose, dD "_law_spoil" s_law_spoil, dD "_law_then" s_law_then, dD "_law_back" s_law_back, dD "_law_ring" s_law_ring, dD "_law_draw_motion" s_law_draw_motion, dD "_law_draw_motions" s_law_draw_motions, dD "_law_all_reached" s_law_all_reached, dD "_law_told" s_law_told, dD "_law_odd_motions" s_law_odd_motions, dD "_law_odd_motion" s_law_odd_motion, dD "_law_class" s_law_class, dD "_law_class_right" s_law_class_right, dD "law" s_law, mD "BadMany" "__init__" "BadMany.__init__" si_BadMany, mD "BadMotion" "__init__" "BadMotion.__init__" si_BadMotion, mD "BadMotions" "__init__" "BadMotions.__init__" si_BadMotions]
def faL : List He.Fa := [.free "len", .free "range", .free "list", .free "tuple", .free "dict", .free "sorted", .free "all", .free "any", .free "sum", .free "min", .free "max", .free "abs", .free "int", .free "str", .free "bool", .free "isinstance", .free "enumerate", .free "zip", .free "reversed", .glo "is_integer", .glo "is_number", .glo "is_list", .glo "check_many", .glo "is_motion_of", .glo "is_motion", .glo "need_motion", .glo "moved_places", .glo "all_rings", .glo "rings_of", .glo "composed", .glo "undone", .glo "wrong_motion", .glo "need_motions", .glo "check_motion", .glo "all_reached", .glo "taken_along", .glo "spread_class", .glo "ascending", .glo "class_of", .glo "classes", .glo "shape", .glo "_law_start", .glo "_law_pick", .glo "_law_between", .glo "_law_one", .glo "_law_mixed", .glo "_law_same", .glo "_law_copy", .glo "_law_loose", .glo "_law_spoil", .glo "_law_then", .glo "_law_back", .glo "_law_ring", .glo "_law_draw_motion", .glo "_law_draw_motions", .glo "_law_all_reached", .glo "_law_told", .glo "_law_odd_motions", .glo "_law_odd_motion", .glo "_law_class", .glo "_law_class_right", .glo "law", .glo "BadMotions", .noat "BadMotions" "index", .glo "BadMotion", .noat "BadMotion" "motion", .glo "BadPlace", .noat "BadPlace" "place", .glo "BadPick", .noat "BadPick" "pick", .glo "BadLevels", .noat "BadLevels" "levels", .glo "BadTable", .noat "BadTable" "table", .glo "BadGoals", .noat "BadGoals" "goals", .glo "BadNumbers", .noat "BadNumbers" "numbers", .glo "BadBase", .noat "BadBase" "base", .glo "BadOthers", .noat "BadOthers" "index", .glo "BadAnswer", .noat "BadAnswer" "answer", .glo "BadLevelsText", .noat "BadLevelsText" "line", .glo "BadAnswerText", .noat "BadAnswerText" "line", .glo "BadWholeText", .noat "BadWholeText" "line", .glo "BadIndex", .noat "BadIndex" "index", .glo "BadPairs", .noat "BadPairs" "pairs", .glo "BadMany", .meth "BadMany" "__init__", .noat "BadMany" "many", .meth "BadMotion" "__init__", .meth "BadMotions" "__init__", .exm "BadMotions" "BadMotions" true, .exm "BadMotion" "BadMotions" false, .exm "BadMotion" "BadMotion" true]
abbrev RL : PySem.W.OpenRow := PySem.W.OpenLaw.row PySem.Challenge.rw_siftlevels_k33_whole_classes
def exL (K : PySem.W.Frag) : Bool := exB ["BadMany", "BadMotion", "BadMotions"] ["BadMotions", "BadMotion", "BadPlace", "BadPick", "BadLevels", "BadTable", "BadGoals", "BadNumbers", "BadBase", "BadOthers", "BadAnswer", "BadLevelsText", "BadAnswerText", "BadWholeText", "BadIndex", "BadPairs"] K
abbrev hkL : PySem.W.Hook := He.hookX 5 faL fnL [] [("law", none)] exL
def obL (s : PySem.W.SharedT) : He.AlX := He.obsX 5 faL fnL [] [("law", none)] exL (HandSHeadRun.getT s)
theorem ob_eqL (s : PySem.W.SharedT) : obL s = hkL.obs s.abs := He.obsX_eq (HandSHeadRun.getT_eq s)
def looseL0 : List Str := ["PuzzleError", "BadPlace", "BadPick", "BadLevels", "BadTable", "BadGoals", "BadNumbers", "BadBase", "BadOthers", "BadAnswer", "BadLevelsText", "BadAnswerText", "BadWholeText", "BadIndex", "BadPairs", "BadMany", "BadMotion", "BadMotions", "is_integer", "is_number", "is_list", "check_many", "is_motion_of", "is_motion", "need_motion", "moved_places", "all_rings", "rings_of", "composed", "undone"]
def looseL1 : List Str := ["wrong_motion", "need_motions", "check_motion", "all_reached", "taken_along", "spread_class", "ascending", "class_of", "classes", "shape", "_law_start", "_law_pick", "_law_between", "_law_one", "_law_mixed", "_law_same", "_law_copy", "_law_loose", "_law_spoil", "_law_then", "_law_back", "_law_ring", "_law_draw_motion", "_law_draw_motions", "_law_all_reached", "_law_told", "_law_odd_motions", "_law_odd_motion", "_law_class", "_law_class_right"]
def looseL : List Str := looseL0 ++ looseL1
theorem runL (w : World) : HandSHeadRun.RunEq RL (PySem.W.view RL.prog [70]) hkL obL 6000 looseL w := by
  intro os
  kernel_rfl
theorem law_at {P : Program} {w : World} {K : PySem.W.Frag} {h : Heap} {mg : Str → Option Value} {fd : FuncData} (F : FunD K "law" "law" (defArgs s_law) (defBody s_law) (defScope s_law) [] [] (He.fAd K ("law", none)) fd) (X : K.In h) (G : h.Ns mainGlobals mg) (c : He.SaysX faL fnL [] [("law", none)] exL w h K) (base : Heap) (TB : LamX.TabB base mg (He.codeOf K ("law", none)) (He.cT K ("law", none)).2) :
    FnOk P w K mg base (L2.CX P w) 16 (He.fAd K ("law", none)) fd ["script"] (spLaw K (He.cT K ("law", none)).2) := by
  have B : Bl mg := ⟨freeAt_of X G c.t.d 0 rfl, freeAt_of X G c.t.d 1 rfl, freeAt_of X G c.t.d 2 rfl, freeAt_of X G c.t.d 3 rfl, freeAt_of X G c.t.d 4 rfl, freeAt_of X G c.t.d 5 rfl, freeAt_of X G c.t.d 6 rfl, freeAt_of X G c.t.d 7 rfl, freeAt_of X G c.t.d 8 rfl, freeAt_of X G c.t.d 9 rfl, freeAt_of X G c.t.d 10 rfl, freeAt_of X G c.t.d 11 rfl, freeAt_of X G c.t.d 12 rfl, freeAt_of X G c.t.d 13 rfl, freeAt_of X G c.t.d 14 rfl, freeAt_of X G c.t.d 15 rfl, freeAt_of X G c.t.d 16 rfl, freeAt_of X G c.t.d 17 rfl, freeAt_of X G c.t.d 18 rfl⟩
  have D_is_integer : DefAt K mg "is_integer" s_is_integer := defAt_of X G c.t.d 0 19 rfl rfl
  have D_is_number : DefAt K mg "is_number" s_is_number := defAt_of X G c.t.d 1 20 rfl rfl
  have D_is_list : DefAt K mg "is_list" s_is_list := defAt_of X G c.t.d 2 21 rfl rfl
  have D_check_many : DefAt K mg "check_many" s_check_many := defAt_of X G c.t.d 3 22 rfl rfl
  have D_is_motion_of : DefAt K mg "is_motion_of" s_is_motion_of := defAt_of X G c.t.d 4 23 rfl rfl
  have D_is_motion : DefAt K mg "is_motion" s_is_motion := defAt_of X G c.t.d 5 24 rfl rfl
  have D_need_motion : DefAt K mg "need_motion" s_need_motion := defAt_of X G c.t.d 6 25 rfl rfl
  have D_moved_places : DefAt K mg "moved_places" s_moved_places := defAt_of X G c.t.d 7 26 rfl rfl
  have D_all_rings : DefAt K mg "all_rings" s_all_rings := defAt_of X G c.t.d 8 27 rfl rfl
  have D_rings_of : DefAt K mg "rings_of" s_rings_of := defAt_of X G c.t.d 9 28 rfl rfl
  have D_composed : DefAt K mg "composed" s_composed := defAt_of X G c.t.d 10 29 rfl rfl
  have D_undone : DefAt K mg "undone" s_undone := defAt_of X G c.t.d 11 30 rfl rfl
  have D_wrong_motion : DefAt K mg "wrong_motion" s_wrong_motion := defAt_of X G c.t.d 12 31 rfl rfl
  have D_need_motions : DefAt K mg "need_motions" s_need_motions := defAt_of X G c.t.d 13 32 rfl rfl
  have D_check_motion : DefAt K mg "check_motion" s_check_motion := defAt_of X G c.t.d 14 33 rfl rfl
  have D_all_reached : DefAt K mg "all_reached" s_all_reached := defAt_of X G c.t.d 15 34 rfl rfl
  have D_taken_along : DefAt K mg "taken_along" s_taken_along := defAt_of X G c.t.d 16 35 rfl rfl
  have D_spread_class : DefAt K mg "spread_class" s_spread_class := defAt_of X G c.t.d 17 36 rfl rfl
  have D_ascending : DefAt K mg "ascending" s_ascending := defAt_of X G c.t.d 18 37 rfl rfl
  have D_class_of : DefAt K mg "class_of" s_class_of := defAt_of X G c.t.d 19 38 rfl rfl
  have D_classes : DefAt K mg "classes" s_classes := defAt_of X G c.t.d 20 39 rfl rfl
  have D_shape : DefAt K mg "shape" s_shape := defAt_of X G c.t.d 21 40 rfl rfl
  have D_law_start : DefAt K mg "_law_start" s_law_start := defAt_of X G c.t.d 22 41 rfl rfl
  have D_law_pick : DefAt K mg "_law_pick" s_law_pick := defAt_of X G c.t.d 23 42 rfl rfl
  have D_law_between : DefAt K mg "_law_between" s_law_between := defAt_of X G c.t.d 24 43 rfl rfl
  have D_law_one : DefAt K mg "_law_one" s_law_one := defAt_of X G c.t.d 25 44 rfl rfl
  have D_law_mixed : DefAt K mg "_law_mixed" s_law_mixed := defAt_of X G c.t.d 26 45 rfl rfl
  have D_law_same : DefAt K mg "_law_same" s_law_same := defAt_of X G c.t.d 27 46 rfl rfl
  have D_law_copy : DefAt K mg "_law_copy" s_law_copy := defAt_of X G c.t.d 28 47 rfl rfl
  have D_law_loose : DefAt K mg "_law_loose" s_law_loose := defAt_of X G c.t.d 29 48 rfl rfl
  have D_law_spoil : DefAt K mg "_law_spoil" s_law_spoil := defAt_of X G c.t.d 30 49 rfl rfl
  have D_law_then : DefAt K mg "_law_then" s_law_then := defAt_of X G c.t.d 31 50 rfl rfl
  have D_law_back : DefAt K mg "_law_back" s_law_back := defAt_of X G c.t.d 32 51 rfl rfl
  have D_law_ring : DefAt K mg "_law_ring" s_law_ring := defAt_of X G c.t.d 33 52 rfl rfl
  have D_law_draw_motion : DefAt K mg "_law_draw_motion" s_law_draw_motion := defAt_of X G c.t.d 34 53 rfl rfl
  have D_law_draw_motions : DefAt K mg "_law_draw_motions" s_law_draw_motions := defAt_of X G c.t.d 35 54 rfl rfl
  have D_law_all_reached : DefAt K mg "_law_all_reached" s_law_all_reached := defAt_of X G c.t.d 36 55 rfl rfl
  have D_law_told : DefAt K mg "_law_told" s_law_told := defAt_of X G c.t.d 37 56 rfl rfl
  have D_law_odd_motions : DefAt K mg "_law_odd_motions" s_law_odd_motions := defAt_of X G c.t.d 38 57 rfl rfl
  have D_law_odd_motion : DefAt K mg "_law_odd_motion" s_law_odd_motion := defAt_of X G c.t.d 39 58 rfl rfl
  have D_law_class : DefAt K mg "_law_class" s_law_class := defAt_of X G c.t.d 40 59 rfl rfl
  have D_law_class_right : DefAt K mg "_law_class_right" s_law_class_right := defAt_of X G c.t.d 41 60 rfl rfl
  have x_BadMany : ExcF P w K mg base "BadMany" (He.ga K "BadMany") "many" := excF_of (self := "self") (p := "many") X G c.t.d c.more 0 43 94 95 96 rfl rfl rfl rfl rfl rfl sci_BadMany (by decide) (by decide) (by decide) (by decide) (by decide) (fun _ => rfl) (fun _ _ _ _ _ _ us hl => match us, hl with | [_, _], _ => rfl)
  have x_BadMotion : ExcF P w K mg base "BadMotion" (He.ga K "BadMotion") "motion" := excF_of (self := "self") (p := "motion") X G c.t.d c.more 1 44 64 97 65 rfl rfl rfl rfl rfl rfl sci_BadMotion (by decide) (by decide) (by decide) (by decide) (by decide) (fun _ => rfl) (fun _ _ _ _ _ _ us hl => match us, hl with | [_, _], _ => rfl)
  have x_BadMotions : ExcF P w K mg base "BadMotions" (He.ga K "BadMotions") "index" := excF_of (self := "self") (p := "index") X G c.t.d c.more 2 45 62 98 63 rfl rfl rfl rfl rfl rfl sci_BadMotions (by decide) (by decide) (by decide) (by decide) (by decide) (fun _ => rfl) (fun _ _ _ _ _ _ us hl => match us, hl with | [_, _], _ => rfl)
  have T_law_told : TellHs K mg (defScope s_law_told) "e" (hdsOf s_law_told) [(He.ga K "BadMotions", "motions", "index"), (He.ga K "BadMotion", "motion", "motion"), (He.ga K "BadPlace", "place", "place"), (He.ga K "BadPick", "pick", "pick"), (He.ga K "BadLevels", "levels", "levels"), (He.ga K "BadTable", "table", "table"), (He.ga K "BadGoals", "goals", "goals"), (He.ga K "BadNumbers", "numbers", "numbers"), (He.ga K "BadBase", "base", "base"), (He.ga K "BadOthers", "others", "index"), (He.ga K "BadAnswer", "answer", "answer"), (He.ga K "BadLevelsText", "levels text", "line"), (He.ga K "BadAnswerText", "answer text", "line"), (He.ga K "BadWholeText", "whole text", "line"), (He.ga K "BadIndex", "index", "index"), (He.ga K "BadPairs", "pairs", "pairs")] := (.cons rfl (by decide) (glo_of X G c.t.d 62 rfl) (exB_xf c.more 0 rfl) (noat_of c.t.d 63 rfl) (.cons rfl (by decide) (glo_of X G c.t.d 64 rfl) (exB_xf c.more 1 rfl) (noat_of c.t.d 65 rfl) (.cons rfl (by decide) (glo_of X G c.t.d 66 rfl) (exB_xf c.more 2 rfl) (noat_of c.t.d 67 rfl) (.cons rfl (by decide) (glo_of X G c.t.d 68 rfl) (exB_xf c.more 3 rfl) (noat_of c.t.d 69 rfl) (.cons rfl (by decide) (glo_of X G c.t.d 70 rfl) (exB_xf c.more 4 rfl) (noat_of c.t.d 71 rfl) (.cons rfl (by decide) (glo_of X G c.t.d 72 rfl) (exB_xf c.more 5 rfl) (noat_of c.t.d 73 rfl) (.cons rfl (by decide) (glo_of X G c.t.d 74 rfl) (exB_xf c.more 6 rfl) (noat_of c.t.d 75 rfl) (.cons rfl (by decide) (glo_of X G c.t.d 76 rfl) (exB_xf c.more 7 rfl) (noat_of c.t.d 77 rfl) (.cons rfl (by decide) (glo_of X G c.t.d 78 rfl) (exB_xf c.more 8 rfl) (noat_of c.t.d 79 rfl) (.cons rfl (by decide) (glo_of X G c.t.d 80 rfl) (exB_xf c.more 9 rfl) (noat_of c.t.d 81 rfl) (.cons rfl (by decide) (glo_of X G c.t.d 82 rfl) (exB_xf c.more 10 rfl) (noat_of c.t.d 83 rfl) (.cons rfl (by decide) (glo_of X G c.t.d 84 rfl) (exB_xf c.more 11 rfl) (noat_of c.t.d 85 rfl) (.cons rfl (by decide) (glo_of X G c.t.d 86 rfl) (exB_xf c.more 12 rfl) (noat_of c.t.d 87 rfl) (.cons rfl (by decide) (glo_of X G c.t.d 88 rfl) (exB_xf c.more 13 rfl) (noat_of c.t.d 89 rfl) (.cons rfl (by decide) (glo_of X G c.t.d 90 rfl) (exB_xf c.more 14 rfl) (noat_of c.t.d 91 rfl) (.cons rfl (by decide) (glo_of X G c.t.d 92 rfl) (exB_xf c.more 15 rfl) (noat_of c.t.d 93 rfl) .nil))))))))))))))))
  have hw : tellsX K [(He.ga K "BadMotions", "motions", "index"), (He.ga K "BadMotion", "motion", "motion"), (He.ga K "BadPlace", "place", "place"), (He.ga K "BadPick", "pick", "pick"), (He.ga K "BadLevels", "levels", "levels"), (He.ga K "BadTable", "table", "table"), (He.ga K "BadGoals", "goals", "goals"), (He.ga K "BadNumbers", "numbers", "numbers"), (He.ga K "BadBase", "base", "base"), (He.ga K "BadOthers", "others", "index"), (He.ga K "BadAnswer", "answer", "answer"), (He.ga K "BadLevelsText", "levels text", "line"), (He.ga K "BadAnswerText", "answer text", "line"), (He.ga K "BadWholeText", "whole text", "line"), (He.ga K "BadIndex", "index", "index"), (He.ga K "BadPairs", "pairs", "pairs")] (He.ga K "BadMotions") "motions" "index" := .inl ⟨exm_of c.t.d 99 rfl, rfl, rfl, rfl⟩
  have hm : tellsX K [(He.ga K "BadMotions", "motions", "index"), (He.ga K "BadMotion", "motion", "motion"), (He.ga K "BadPlace", "place", "place"), (He.ga K "BadPick", "pick", "pick"), (He.ga K "BadLevels", "levels", "levels"), (He.ga K "BadTable", "table", "table"), (He.ga K "BadGoals", "goals", "goals"), (He.ga K "BadNumbers", "numbers", "numbers"), (He.ga K "BadBase", "base", "base"), (He.ga K "BadOthers", "others", "index"), (He.ga K "BadAnswer", "answer", "answer"), (He.ga K "BadLevelsText", "levels text", "line"), (He.ga K "BadAnswerText", "answer text", "line"), (He.ga K "BadWholeText", "whole text", "line"), (He.ga K "BadIndex", "index", "index"), (He.ga K "BadPairs", "pairs", "pairs")] (He.ga K "BadMotion") "motion" "motion" := .inr ⟨exm_of c.t.d 100 rfl, .inl ⟨exm_of c.t.d 101 rfl, rfl, rfl, rfl⟩⟩
  have H_is_integer := d_is_integer (P := P) (w := w) (base := base) B D_is_integer
  have H_is_number := d_is_number (P := P) (w := w) (base := base) D_is_number H_is_integer
  have H_is_list := d_is_list (P := P) (w := w) (base := base) B D_is_list
  have H_check_many := d_check_many (P := P) (w := w) (base := base) D_check_many H_is_integer x_BadMany
  have H_is_motion_of := d_is_motion_of (P := P) (w := w) (base := base) B D_is_motion_of H_is_list H_is_number
  have H_is_motion := d_is_motion (P := P) (w := w) (base := base) D_is_motion H_check_many H_is_motion_of
  have H_need_motion := d_need_motion (P := P) (w := w) (base := base) B D_need_motion H_is_list H_is_motion_of x_BadMotion
  have H_moved_places := d_moved_places (P := P) (w := w) (base := base) B D_moved_places
  have H_all_rings := d_all_rings (P := P) (w := w) (base := base) D_all_rings H_moved_places
  have H_rings_of := d_rings_of (P := P) (w := w) (base := base) D_rings_of H_all_rings H_need_motion
  have H_composed := d_composed (P := P) (w := w) (base := base) D_composed
  have H_undone := d_undone (P := P) (w := w) (base := base) B D_undone
  have H_wrong_motion := d_wrong_motion (P := P) (w := w) (base := base) B D_wrong_motion H_is_list H_is_motion
  have H_need_motions := d_need_motions (P := P) (w := w) (base := base) D_need_motions H_wrong_motion x_BadMotions
  have H_check_motion := d_check_motion (P := P) (w := w) (base := base) B D_check_motion H_is_motion x_BadMotion
  have H_all_reached := d_all_reached (P := P) (w := w) (base := base) B D_all_reached H_need_motions H_composed
  have H_taken_along := d_taken_along (P := P) (w := w) (base := base) D_taken_along H_composed H_undone
  have H_spread_class := d_spread_class (P := P) (w := w) (base := base) B D_spread_class H_taken_along
  have H_ascending := d_ascending (P := P) (w := w) (base := base) B D_ascending
  have H_class_of := d_class_of (P := P) (w := w) (base := base) D_class_of H_need_motions H_check_motion H_ascending H_spread_class
  have H_classes := d_classes (P := P) (w := w) (base := base) B D_classes H_all_reached H_ascending H_spread_class
  have H_shape := d_shape (P := P) (w := w) (base := base) B D_shape H_rings_of
  have H_law_start := d_law_start (P := P) (w := w) (base := base) B D_law_start
  have H_law_pick := d_law_pick (P := P) (w := w) (base := base) B D_law_pick
  have H_law_between := d_law_between (P := P) (w := w) (base := base) B D_law_between H_law_pick
  have H_law_one := d_law_one (P := P) (w := w) (base := base) B D_law_one H_law_pick
  have H_law_mixed := d_law_mixed (P := P) (w := w) (base := base) B D_law_mixed H_law_pick
  have H_law_same_ := fun n => d_law_same (P := P) (w := w) (base := base) B D_law_same n
  have H_law_same := H_law_same_ 8
  have H_law_copy_ := fun n => d_law_copy (P := P) (w := w) (base := base) B D_law_copy n
  have H_law_copy := H_law_copy_ 8
  have H_law_loose_ := fun n => d_law_loose (P := P) (w := w) (base := base) B D_law_loose H_law_pick H_law_mixed n
  have H_law_loose := H_law_loose_ 8
  have H_law_spoil_ := fun n => d_law_spoil (P := P) (w := w) (base := base) B D_law_spoil n
  have H_law_spoil := H_law_spoil_ 8
  have H_law_then := d_law_then (P := P) (w := w) (base := base) D_law_then
  have H_law_back := d_law_back (P := P) (w := w) (base := base) B D_law_back
  have H_law_ring := d_law_ring (P := P) (w := w) (base := base) B D_law_ring
  have H_law_draw_motion := d_law_draw_motion (P := P) (w := w) (base := base) B D_law_draw_motion H_law_pick H_law_mixed H_law_then H_law_ring
  have H_law_draw_motions := d_law_draw_motions (P := P) (w := w) (base := base) B D_law_draw_motions H_law_between H_law_pick H_law_draw_motion H_law_ring
  have H_law_all_reached := d_law_all_reached (P := P) (w := w) (base := base) B D_law_all_reached
  have H_law_odd_motions := d_law_odd_motions (P := P) (w := w) (base := base) B D_law_odd_motions
  have H_law_odd_motion := d_law_odd_motion (P := P) (w := w) (base := base) B D_law_odd_motion
  have H_law_class := d_law_class (P := P) (w := w) (base := base) B D_law_class H_law_then H_law_back
  have H_law_class_right := d_law_class_right (P := P) (w := w) (base := base) B D_law_class_right H_law_class H_law_loose H_law_copy H_class_of H_law_same H_law_spoil H_shape
  exact ok_law B H_law_start H_law_draw_motions H_law_pick H_law_all_reached H_law_one H_law_mixed H_law_class_right H_law_class H_classes H_law_loose H_law_same H_law_spoil H_law_copy H_law_odd_motion H_class_of H_law_odd_motions D_law_told T_law_told hw hm F TB
end TL
open PySem PySem.W PySem.Calls PyProof.Rows
theorem PySem.Challenge.cw_siftlevels_k33_whole_classes_holds : PySem.Challenge.rw_siftlevels_k33_whole_classes.Holds := by
  w_on; o_law
  refine HandSHeadRun.head_any (r := OpenLaw.row PySem.Challenge.rw_siftlevels_k33_whole_classes) (q := view (OpenLaw.row PySem.Challenge.rw_siftlevels_k33_whole_classes).prog [70]) (H := TL.hkL) (ob := TL.obL) (M := 6000) (loose := TL.looseL) (d := HandSHeadRun.topDef (OpenLaw.row PySem.Challenge.rw_siftlevels_k33_whole_classes).prog 70) (kwd := []) TL.ob_eqL
    (by kernel_rfl) (fun s => by kernel_rfl) TL.runL (by kernel_rfl) (by kernel_rfl) (by kernel_rfl) (by rfl) (by first | assumption | decide +kernel) (by decide +kernel) ⟨rfl, rfl, rfl, rfl, rfl, by decide +kernel⟩ ?hw ?hc
  case hw => w_witness2
  case hc =>
    refine TL.walk_ofTE (l := PySem.Challenge.rw_siftlevels_k33_whole_classes) (n := 63) (k := 16) (x := "script") (CX := fun w => L2.CX (PySem.Challenge.rw_siftlevels_k33_whole_classes).prog w) rfl (by decide) (by kernel_rfl) ⟨rfl, by decide, by decide⟩ ?F (fun _ _ _ _ _ z => TL.cx_none z)
    intro w mg fa h Y G hmg0
    obtain ⟨K, KX, c⟩ := Y
    have hmg : mg ("law" : PySem.Str) = some (.ref fa) := by
      have e : (HandSHeadRun.topDef (OpenLaw.row PySem.Challenge.rw_siftlevels_k33_whole_classes).prog 70).name = ("law" : PySem.Str) := by kernel_rfl
      rw [← e]
      exact hmg0
    have ef := hmg.symm.trans (TL.glo_of KX G c.t.d 61 rfl)
    cases ef
    obtain ⟨fd, F⟩ := c.t.d.def_ 42 (d := TL.dD "law" TL.s_law) rfl
    have hm1 : (("law", none) : He.Defn) ∈ [(("law", none) : He.Defn)] := List.mem_singleton.mpr rfl
    have b := L2.FunD.bindsA (ps := ["script"]) F fun _ _ _ _ _ _ us hl => match us, hl with | [_], _ => rfl
    exact ⟨K, KX, fd, [He.cT K ("law", none)], TL.spLaw K (He.cT K ("law", none)).2, fun p hp => by rw [List.mem_singleton.mp hp]; exact c.empty _ hm1, fun p hp => by rw [List.mem_singleton.mp hp]; exact c.out _ hm1,
      fun p hp => by rw [List.mem_singleton.mp hp]; exact codeHd_of_K KX (c.hd _ hm1), fun s u => b s [u] rfl, fun H a ns hl _ hH hS => ⟨a, ns, rfl, hS, hH _ (List.mem_singleton.mpr rfl), hl, fun _ => rfl⟩,
      fun base _ _ hTB => TL.law_at F KX G c base (hTB _ (List.mem_singleton.mpr rfl))⟩
#print axioms PySem.Challenge.cw_siftlevels_k33_whole_classes_holds
