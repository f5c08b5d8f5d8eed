import PyProof.Rows.All
import Wide.All
import OpenK.AllK
import Wide.FinOn
import HandS.ForMost
import HandS.More
import HandS.WordsExc
import HandS.Defaults
import HandS.IsInst
import HandS.TupAny
import HandS.Lambda
import HandS.ExcIs
import HandS.HeadHook1
import HandS.HeadHook2
import HandS.HeadHook3
import HandS.HeadHook4
import HandS.Flow
import HandS.Style
import HandS.Deep
import PyProof.StrBlock2
import HandS.TupMul
import HandS.Zip
import HandS.HeadEnd
import HandS.EndTab
import HandS.Strs
import HandS.StrMore
import HandS.HotCalls
import HandS.SetFor
import KE.KStateDown
import HandS.Head0
import HandS.Head1
import HandS.Head2
import PySem.Challenge.RW_mastershow_k34_what_fits
set_option Elab.async false
set_option linter.all false
set_option maxRecDepth 100000
set_option maxHeartbeats 0
set_option autoImplicit false
/-! The mirror layer, 1: plain data, how it lies in the abstract heap, how the heap grows. -/
namespace Mr
open PySem PySem.Spec PyProof.Rows L2

/-- a text -/
abbrev Tx := List Char
def toS (s : Tx) : Str := ⟨(s.map Char.toNat).toArray⟩

/-! what is told of all laws at once: the own exception classes; the defs that make functions without names -/
def excNames : List Str := ["DeckError", "NoDeck", "NoMaster", "NoSlide", "NoPlace", "NoTrait", "NoWorth", "NoSetting", "NoName", "Taken", "TooMany", "Ring", "Used", "NoRoom", "NoSteps", "NoPress", "NoTime", "NoShow", "NoLink", "NoNumber", "NoWord", "NoDeed", "NoText", "NoRow"]
/-- is the class c the class y, or under it -/
def subX (c y : Str) : Bool := c == y || y == "DeckError"
def optB (o : Option Bool) (b : Bool) : Bool := match o with
  | some x => x == b
  | none => false
theorem optB_ok {o : Option Bool} {b : Bool} (h : optB o b = true) : o = some b := by
  cases o with
  | none => cases h
  | some x => rw [beq_iff_eq.mp (show (x == b) = true from h)]
def clsPair (K : PySem.W.Frag) (c y : Str) : Bool := !(He.Fa.glo y).ok K || (optB (PySem.W.exmOne K (.ref (He.ga K c)) (.ref (He.ga K y))) (subX c y) && optB (PySem.W.kitOne K (.ref (He.ga K c)) (.ref (He.ga K y))) (subX c y))
/-- what an own exception class is to say -/
def clsB (K : PySem.W.Frag) (c : Str) : Bool :=
  He.eqO (PySem.W.findIn K (.ref (He.ga K c)) "__getattribute__") (some (some (.builtin "BaseException.__getattribute__"))) && (He.eqO (PySem.W.findIn K (.ref (He.ga K c)) "__getattr__") (some none) &&
  (optB (PySem.W.subIn K (.ref (He.ga K c)) (.type "BaseException")) true && (PySem.W.hasDictIn K (He.ga K c) && (He.eqO (PySem.W.findIn K (.ref (He.ga K c)) "__class__") (some (some (.builtin "object.__class__"))) &&
  (He.eqO (PySem.W.specialIn K (.builtin "object.__class__") "__get__") (some (some (.builtin "getset_descriptor.__get__"))) && (optB (PySem.W.takesIn K (.builtin "object.__class__")) true && (optB (PySem.W.mroIn K (He.ga K c) (.type "object")) true &&
  (optB (PySem.W.kitOne K (.ref (He.ga K c)) (.type "ValueError")) true && excNames.all fun y => clsPair K c y))))))))
theorem clsB_C {K : PySem.W.Frag} {c : Str} (h : clsB K c = true) : ExcC K (He.ga K c) := by
  unfold clsB at h
  simp only [Bool.and_eq_true] at h
  obtain ⟨h1, h2, h3, h4, h5, h6, h7, h8, _, _⟩ := h
  exact ⟨He.eqO_ok h1, He.eqO_ok h2, optB_ok h3, h4, He.eqO_ok h5, He.eqO_ok h6, optB_ok h7, optB_ok h8⟩
theorem clsB_ve {K : PySem.W.Frag} {c : Str} (h : clsB K c = true) : PySem.W.kitOne K (.ref (He.ga K c)) (.type "ValueError") = some true := by
  unfold clsB at h
  simp only [Bool.and_eq_true] at h
  exact optB_ok h.2.2.2.2.2.2.2.2.1
theorem clsB_pair {K : PySem.W.Frag} {c y : Str} (h : clsB K c = true) (hy : y ∈ excNames) (g : (He.Fa.glo y).ok K = true) : PySem.W.exmOne K (.ref (He.ga K c)) (.ref (He.ga K y)) = some (subX c y) ∧ PySem.W.kitOne K (.ref (He.ga K c)) (.ref (He.ga K y)) = some (subX c y) := by
  unfold clsB at h
  simp only [Bool.and_eq_true] at h
  have := List.all_eq_true.mp h.2.2.2.2.2.2.2.2.2 y hy
  unfold clsPair at this
  rw [g] at this
  simp only [Bool.not_true, Bool.false_or, Bool.and_eq_true] at this
  exact ⟨optB_ok this.1, optB_ok this.2⟩
/-- an exception object of an own class, caught -/
def ExX (K : PySem.W.Frag) (c : Str) (a : Addr) : HO := .ext fun h => clsB K c = true ∧ ∃ (oe : Obj) (vs : Array Value), h.get? a = some oe ∧ Zc (.ref (He.ga K c)) none oe ∧ oe.data = .fields vs
/-- the defs with a lambda -/
def makers : List He.Defn := [("fault_of_masters", none), ("fault_of_slides", none), ("place_of_slide", none), ("with_setting", none), ("sorted_hands", none), ("fill_place", none), ("steps_by", none)]
def lamQ (x : Str) : Str := x ++ ".<locals>." ++ "<lambda>"
/-- the tables of code objects of these defs, where they stand -/
def TabsAll (K : PySem.W.Frag) (H : Hp) : Prop := ∀ p ∈ makers, PySem.W.codeHdIn K (He.cT K p).1 (He.cT K p).2 = true → LamX.TabS H (He.cT K p).2 (lamQ p.1)
theorem TabsAll.ext {K : PySem.W.Frag} {H H' : Hp} (t : TabsAll K H) (e : ∀ b o, H b = some o → H' b = some o) : TabsAll K H' := fun p hp c => (t p hp c).ext e
theorem TabsAll.upd {K : PySem.W.Frag} {H : Hp} {a : Addr} {o o' : HO} (t : TabsAll K H) (h : H a = some o) (n : ∀ ps, o ≠ .tbl ps) (m : ∀ q, o ≠ LamX.CodeO a q) : TabsAll K (L2.upd H a o') := fun p hp c => by
  obtain ⟨ps, h1, h2, h3⟩ := t p hp c
  refine ⟨ps, by rw [upd_ne (fun z => by rw [z, h] at h1; exact n _ (Option.some.inj h1))]; exact h1, h2, fun pos cv e => ?_⟩
  obtain ⟨c', e1, e2⟩ := h3 pos cv e
  refine ⟨c', e1, ?_⟩
  rw [upd_ne (fun z => by subst z; rw [h] at e2; exact m _ (Option.some.inj e2))]
  exact e2
/-- plain data: tuples and lists by value; shared things (ref) by number -/
inductive D where
  | non
  | bl (b : Bool)
  | int (i : Int)
  | str (s : Tx)
  | tup (xs : List D)
  | lst (xs : List D)
  | dic (ks vs : List D)
  | ref (n : Nat)
  | ty (n : String)
  | glo (x : Str)
  | exc (c : Str) (xs : List D)
  | clo (tag : Nat) (caps : List D)
  deriving Inhabited

/-- a shared thing -/
inductive SO where
  | lst (xs : List D)
  | ins (c : Str) (fs : List (Str × D))
abbrev Store := List SO

/-- what a raised exception is -/
structure Xc where
  cls : Str
  args : List D := []

inductive Rs (α : Type) where
  | ok (a : α) (s : Store)
  | exc (x : Xc) (s : Store)
  | bad
def M (α : Type) := Store → Rs α
def M.pure {α : Type} (a : α) : M α := fun s => .ok a s
def M.bind {α β : Type} (m : M α) (k : α → M β) : M β := fun s => match m s with
  | .ok a s' => k a s'
  | .exc x s' => .exc x s'
  | .bad => .bad
instance : Monad M where
  pure := M.pure
  bind := M.bind
def bad {α : Type} : M α := fun _ => .bad
def raise {α : Type} (x : Xc) : M α := fun s => .exc x s
theorem M.ext {α : Type} {m n : M α} (h : ∀ s, m s = n s) : m = n := funext h
@[simp] theorem pure_bindM {α β : Type} (a : α) (k : α → M β) : (pure a >>= k) = k a := rfl
@[simp] theorem bind_assocM {α β γ : Type} (m : M α) (k : α → M β) (l : β → M γ) : (m >>= k) >>= l = m >>= fun a => k a >>= l := by
  funext s
  show M.bind (M.bind m k) l s = M.bind m (fun a => M.bind (k a) l) s
  unfold M.bind
  cases m s <;> rfl
@[simp] theorem bind_pureM {α : Type} (m : M α) : (m >>= fun a => pure a) = m := by
  funext s
  show M.bind m M.pure s = m s
  unfold M.bind
  cases m s <;> rfl
@[simp] theorem bad_bind {α β : Type} (k : α → M β) : ((bad : M α) >>= k) = bad := rfl
@[simp] theorem raise_bind {α β : Type} (x : Xc) (k : α → M β) : ((raise x : M α) >>= k) = raise x := rfl
theorem bind_app {α β : Type} (m : M α) (k : α → M β) (s : Store) : (m >>= k) s = (match m s with
  | .ok a s' => k a s'
  | .exc x s' => .exc x s'
  | .bad => .bad) := rfl
theorem pure_app {α : Type} (a : α) (s : Store) : (pure a : M α) s = .ok a s := rfl

/-! ### how data lies -/
section
variable (K : PySem.W.Frag) (mg : Str → Option Value)
mutual
inductive Rep (G : Hp) (ρ : List Addr) : D → V → Prop
  | non : Rep G ρ .non .non
  | bl (b : Bool) : Rep G ρ (.bl b) (.bl b)
  | int (i : Int) : Rep G ρ (.int i) (.int i)
  | str (s : Tx) (h : s.length ≤ sizeLine) : Rep G ρ (.str s) (.str (toS s))
  | tup {a : Addr} {vs : List V} {ds : List D} (h : SqT K G a vs) (z : vs.length ≤ sizeLine) (r : RepL G ρ ds vs) : Rep G ρ (.tup ds) (.ref a)
  | lst {a : Addr} {vs : List V} {ds : List D} (h : G a = some (.lst vs)) (z : vs.length ≤ sizeLine) (r : RepL G ρ ds vs) : Rep G ρ (.lst ds) (.ref a)
  | dic {a : Addr} {kvs : List (Key × V)} {ks vs : List D} (h : G a = some (.dK kvs)) (r : RepL G ρ ks (kvs.map fun p => kV p.1)) (q : RepL G ρ vs (kvs.map fun p => p.2)) : Rep G ρ (.dic ks vs) (.ref a)
  | ref {n : Nat} {a : Addr} (h : ρ[n]? = some a) : Rep G ρ (.ref n) (.ref a)
  | ty (n : String) : Rep G ρ (.ty n) (.ty n)
  | glo {x : Str} {a : Addr} (h : mg x = some (.ref a)) : Rep G ρ (.glo x) (.ref a)
  | exc {c : Str} {a : Addr} (h : G a = some (ExX K c a)) : Rep G ρ (.exc c []) (.ref a)
inductive RepL (G : Hp) (ρ : List Addr) : List D → List V → Prop
  | nil : RepL G ρ [] []
  | cons {d : D} {v : V} {ds : List D} {vs : List V} (h : Rep G ρ d v) (t : RepL G ρ ds vs) : RepL G ρ (d :: ds) (v :: vs)
end
end
section
variable {K : PySem.W.Frag} {mg : Str → Option Value} {G G' H H' H1 : Hp} {ρ ρ' ρ1 : List Addr}
theorem seqT {a : Addr} {xs : List V} (e : Same G G') (h : SqT K G a xs) : SqT K G' a xs := by
  rcases h with (h | ⟨o, h⟩) | h
  · exact .inl (.inl (e _ _ h))
  · exact .inl (.inr ⟨o, e _ _ h⟩)
  · exact .inr h
mutual
theorem Rep.mono (e : Same G G') (p : ∀ (n : Nat) (a : Addr), ρ[n]? = some a → ρ'[n]? = some a) : ∀ {d : D} {v : V}, Rep K mg G ρ d v → Rep K mg G' ρ' d v
  | _, _, .non => .non
  | _, _, .bl b => .bl b
  | _, _, .int i => .int i
  | _, _, .str s h => .str s h
  | _, _, .tup h z r => .tup (seqT e h) z (RepL.mono e p r)
  | _, _, .lst h z r => .lst (e _ _ h) z (RepL.mono e p r)
  | _, _, .dic h r q => .dic (e _ _ h) (RepL.mono e p r) (RepL.mono e p q)
  | _, _, .ref h => .ref (p _ _ h)
  | _, _, .ty n => .ty n
  | _, _, .glo h => .glo h
  | _, _, .exc h => .exc (e _ _ h)
theorem RepL.mono (e : Same G G') (p : ∀ (n : Nat) (a : Addr), ρ[n]? = some a → ρ'[n]? = some a) : ∀ {ds : List D} {vs : List V}, RepL K mg G ρ ds vs → RepL K mg G' ρ' ds vs
  | _, _, .nil => .nil
  | _, _, .cons h t => .cons (Rep.mono e p h) (RepL.mono e p t)
end
theorem RepL.length : ∀ {ds : List D} {vs : List V}, RepL K mg G ρ ds vs → ds.length = vs.length
  | _, _, .nil => rfl
  | _, _, .cons _ t => by rw [List.length_cons, List.length_cons, t.length]
theorem RepL.get : ∀ {ds : List D} {vs : List V} {i : Nat} {v : V}, RepL K mg G ρ ds vs → vs[i]? = some v → ∃ d, ds[i]? = some d ∧ Rep K mg G ρ d v
  | _, _, _, _, .nil, e => by simp at e
  | _, _, 0, _, .cons r _, e => by simp at e; subst e; exact ⟨_, rfl, r⟩
  | _, _, i + 1, v, .cons _ t, e => by
    obtain ⟨d, h1, h2⟩ := RepL.get (i := i) (v := v) t (by simpa using e)
    exact ⟨d, by simpa using h1, h2⟩
theorem RepL.at : ∀ {ds : List D} {vs : List V} {i : Nat} {d : D}, RepL K mg G ρ ds vs → ds[i]? = some d → ∃ v, vs[i]? = some v ∧ Rep K mg G ρ d v
  | _, _, _, _, .nil, e => by simp at e
  | _, _, 0, _, .cons r _, e => by simp at e; subst e; exact ⟨_, rfl, r⟩
  | _, _, i + 1, v, .cons _ t, e => by
    obtain ⟨d, h1, h2⟩ := RepL.at (i := i) (d := v) t (by simpa using e)
    exact ⟨d, by simpa using h1, h2⟩
theorem RepL.append : ∀ {ds es : List D} {vs ws : List V}, RepL K mg G ρ ds vs → RepL K mg G ρ es ws → RepL K mg G ρ (ds ++ es) (vs ++ ws)
  | _, _, _, _, .nil, s => s
  | _, _, _, _, .cons r t, s => .cons r (RepL.append t s)
theorem RepL.take : ∀ {ds : List D} {vs : List V} (n : Nat), RepL K mg G ρ ds vs → RepL K mg G ρ (ds.take n) (vs.take n)
  | _, _, 0, _ => .nil
  | _, _, _ + 1, .nil => .nil
  | _, _, n + 1, .cons r t => .cons r (RepL.take n t)
theorem RepL.drop : ∀ {ds : List D} {vs : List V} (n : Nat), RepL K mg G ρ ds vs → RepL K mg G ρ (ds.drop n) (vs.drop n)
  | _, _, 0, r => r
  | _, _, _ + 1, .nil => .nil
  | _, _, n + 1, .cons _ t => RepL.drop n t
theorem RepL.set {d : D} {v : V} (r : Rep K mg G ρ d v) : ∀ {ds : List D} {vs : List V} (i : Nat), RepL K mg G ρ ds vs → RepL K mg G ρ (ds.set i d) (vs.set i v)
  | _, _, _, .nil => .nil
  | _, _, 0, .cons _ t => .cons r t
  | _, _, i + 1, .cons q t => .cons q (RepL.set r i t)
theorem RepL.reverse {ds : List D} {vs : List V} (r : RepL K mg G ρ ds vs) : RepL K mg G ρ ds.reverse vs.reverse := by
  induction ds generalizing vs with
  | nil => cases r; exact .nil
  | cons d ds ih =>
    cases r with
    | cons h t =>
      rw [List.reverse_cons, List.reverse_cons]
      exact (ih t).append (.cons h .nil)
theorem RepL.nil_inv {vs : List V} (r : RepL K mg G ρ [] vs) : vs = [] := by cases r; rfl
theorem RepL.cons_inv {d : D} {ds : List D} {vs : List V} (r : RepL K mg G ρ (d :: ds) vs) : ∃ v ws, vs = v :: ws ∧ Rep K mg G ρ d v ∧ RepL K mg G ρ ds ws := by
  cases r with
  | cons h t => exact ⟨_, _, rfl, h, t⟩
theorem RepL.mem {ds : List D} {vs : List V} (r : RepL K mg G ρ ds vs) {v : V} (h : v ∈ vs) : ∃ d ∈ ds, Rep K mg G ρ d v := by
  obtain ⟨i, e⟩ := List.getElem?_of_mem h
  obtain ⟨d, h1, h2⟩ := r.get e
  exact ⟨d, List.mem_of_getElem? h1, h2⟩

/-! ### growth -/
structure Grow (G : Hp) (ρ : List Addr) (H : Hp) (G' : Hp) (ρ' : List Addr) (H' : Hp) : Prop where
  sub : Same G G'
  pre : ∀ (n : Nat) (a : Addr), ρ[n]? = some a → ρ'[n]? = some a
  keep : ∀ a o, H a = some o → a ∉ ρ → (∀ ps, o ≠ .tbl ps) → H' a = some o
  live : ∀ a, H' a = none → H a = none
  new : ∀ a o, G' a = some o → G a = some o ∨ H a = none
  newr : ∀ a, a ∈ ρ' → a ∈ ρ ∨ H a = none
theorem Grow.refl : Grow G ρ H G ρ H := ⟨Same.refl _, fun _ _ e => e, fun _ _ e _ _ => e, fun _ e => e, fun _ _ e => .inl e, fun _ e => .inl e⟩
theorem Grow.trans {G1 G2 : Hp} {ρ1 ρ2 : List Addr} {H2 : Hp} (a : Grow G ρ H G1 ρ1 H1) (b : Grow G1 ρ1 H1 G2 ρ2 H2) : Grow G ρ H G2 ρ2 H2 where
  sub := a.sub.trans b.sub
  pre := fun n x e => b.pre n x (a.pre n x e)
  keep := fun x o e n nt => by
    refine b.keep x o (a.keep x o e n nt) (fun hm => ?_) nt
    rcases a.newr x hm with h | h
    · exact n h
    · rw [e] at h; cases h
  live := fun x e => a.live x (b.live x e)
  new := fun x o e => by
    rcases b.new x o e with h | h
    · exact a.new x o h
    · exact .inr (a.live x h)
  newr := fun x e => by
    rcases b.newr x e with h | h
    · exact a.newr x h
    · exact .inr (a.live x h)

def SOk (K : PySem.W.Frag) (mg : Str → Option Value) (G : Hp) (ρ : List Addr) (H : Hp) (a : Addr) : SO → Prop
  | .lst xs => ∃ vs, H a = some (.lst vs) ∧ RepL K mg G ρ xs vs
  | .ins c fs => ∃ C dx fv, mg c = some (.ref C) ∧ H a = some (.ins C dx fv) ∧ fv.map (·.1) = fs.map (·.1) ∧ RepL K mg G ρ (fs.map (·.2)) (fv.map (·.2))
theorem SOk.mono (e : Same G G') (p : ∀ (n : Nat) (a : Addr), ρ[n]? = some a → ρ'[n]? = some a) {a : Addr} (h : H' a = H a) : ∀ {o : SO}, SOk K mg G ρ H a o → SOk K mg G' ρ' H' a o
  | .lst _, ⟨vs, h1, h2⟩ => ⟨vs, h.trans h1, h2.mono e p⟩
  | .ins _ _, ⟨C, dx, fv, h0, h1, h2, h3⟩ => ⟨C, dx, fv, h0, h.trans h1, h2, h3.mono e p⟩
theorem SOk.some {a : Addr} : ∀ {o : SO}, SOk K mg G ρ H a o → ∃ u, H a = some u ∧ ∀ ps, u ≠ .tbl ps
  | .lst _, ⟨vs, h1, _⟩ => ⟨_, h1, fun _ z => by cases z⟩
  | .ins _ _, ⟨C, dx, fv, _, h1, _⟩ => ⟨_, h1, fun _ z => by cases z⟩
structure StOk (K : PySem.W.Frag) (mg : Str → Option Value) (G : Hp) (ρ : List Addr) (S : Store) (H : Hp) : Prop where
  len : ρ.length = S.length
  nd : ρ.Nodup
  out : ∀ a ∈ ρ, G a = none
  obj : ∀ (n : Nat) (a : Addr) (o : SO), ρ[n]? = some a → S[n]? = some o → SOk K mg G ρ H a o
  tb : TabsAll K H
  gt : ∀ (a : Addr) (ps : Array Value), G a ≠ some (.tbl ps)
/-- the view grows by what is no shared thing; the shared things stand as they were -/
theorem StOk.mono {S : Store} (s : StOk K mg G ρ S H) (e : Same G G') (h : ∀ a ∈ ρ, H' a = H a) (o : ∀ a ∈ ρ, G' a = none) (t : TabsAll K H → TabsAll K H') (gt : ∀ (a : Addr) (ps : Array Value), G' a ≠ some (.tbl ps)) : StOk K mg G' ρ S H' :=
  ⟨s.len, s.nd, o, fun n a ob h1 h2 => (s.obj n a ob h1 h2).mono e (fun _ _ q => q) (h a (List.mem_of_getElem? h1)), t s.tb, gt⟩

/-! ### a local that holds a thing of its own (a list, a dict that is changed in place) -/
def OwnR (K : PySem.W.Frag) (mg : Str → Option Value) (G : Hp) (ρ : List Addr) : D → HO → Prop
  | .lst xs, .lst vs => vs.length ≤ sizeLine ∧ RepL K mg G ρ xs vs
  | .dic ks xs, .dK kvs => RepL K mg G ρ ks (kvs.map fun p => kV p.1) ∧ RepL K mg G ρ xs (kvs.map fun p => p.2)
  | _, _ => False
theorem OwnR.mono (e : Same G G') (p : ∀ (n : Nat) (a : Addr), ρ[n]? = some a → ρ'[n]? = some a) : ∀ {d : D} {o : HO}, OwnR K mg G ρ d o → OwnR K mg G' ρ' d o := by
  intro d o h
  cases d <;> cases o <;> first
    | exact (show False from h).elim
    | exact ⟨h.1, h.2.mono e p⟩
    | exact ⟨h.1.mono e p, h.2.mono e p⟩
theorem OwnR.nt {d : D} {o : HO} (h : OwnR K mg G ρ d o) : (∀ ps, o ≠ .tbl ps) ∧ ∀ a q, o ≠ LamX.CodeO a q := by
  cases d <;> cases o <;> first
    | exact (show False from h).elim
    | exact ⟨fun _ z => (by cases z), fun a q z => (by unfold LamX.CodeO at z; cases z)⟩
/-- a thing of its own at v -/
def Own (K : PySem.W.Frag) (mg : Str → Option Value) (G : Hp) (ρ : List Addr) (H : Hp) (d : D) (v : V) : Prop :=
  ∃ a o, v = .ref a ∧ H a = some o ∧ OwnR K mg G ρ d o ∧ G a = none ∧ a ∉ ρ
theorem Own.grow {d : D} {v : V} (w : Own K mg G ρ H d v) (g : Grow G ρ H G' ρ' H') : Own K mg G' ρ' H' d v := by
  obtain ⟨a, o, rfl, h, r, n, m⟩ := w
  refine ⟨a, o, rfl, g.keep a o h m (fun ps z => by subst z; cases d <;> exact (show False from r).elim), r.mono g.sub g.pre, ?_, fun hm => ?_⟩
  · cases e : G' a with
    | none => rfl
    | some u =>
      rcases g.new a u e with q | q
      · rw [n] at q; cases q
      · rw [h] at q; cases q
  · rcases g.newr a hm with q | q
    · exact m q
    · rw [h] at q; cases q

/-- the names of a def as the mirror has them -/
abbrev Ev := List (Option D)
structure EvOk (K : PySem.W.Frag) (mg : Str → Option Value) (Ω : List Nat) (G : Hp) (ρ : List Addr) (env : Ev) (σ : L2.St) (H : Hp) : Prop where
  len : env.length = σ.length
  val : ∀ (j : Nat) (d : D), env[j]? = some (some d) → j ∉ Ω → ∃ v, σ[j]? = some (some v) ∧ Rep K mg G ρ d v
  own : ∀ (j : Nat) (d : D), env[j]? = some (some d) → j ∈ Ω → ∃ v, σ[j]? = some (some v) ∧ Own K mg G ρ H d v
  sep : ∀ (i j : Nat) (d e : D) (v : V), i ∈ Ω → j ∈ Ω → i ≠ j → env[i]? = some (some d) → env[j]? = some (some e) → σ[i]? = some (some v) → σ[j]? = some (some v) → False
structure At (K : PySem.W.Frag) (mg : Str → Option Value) (Ω : List Nat) (G : Hp) (ρ : List Addr) (env : Ev) (S : Store) (σ : L2.St) (H : Hp) : Prop where
  sub : Same G H
  st : StOk K mg G ρ S H
  ev : EvOk K mg Ω G ρ env σ H
theorem EvOk.grow {Ω : List Nat} {env : Ev} {σ : L2.St} (x : EvOk K mg Ω G ρ env σ H) (g : Grow G ρ H G' ρ' H') : EvOk K mg Ω G' ρ' env σ H' where
  len := x.len
  val := fun j d e n => let ⟨v, h1, h2⟩ := x.val j d e n; ⟨v, h1, h2.mono g.sub g.pre⟩
  own := fun j d e n => let ⟨v, h1, h2⟩ := x.own j d e n; ⟨v, h1, h2.grow g⟩
  sep := x.sep
theorem At.grow {Ω : List Nat} {env : Ev} {S S' : Store} {σ : L2.St} (x : At K mg Ω G ρ env S σ H) (g : Grow G ρ H G' ρ' H') (s : Same G' H') (st : StOk K mg G' ρ' S' H') : At K mg Ω G' ρ' env S' σ H' := ⟨s, st, x.ev.grow g⟩
/-- a new object becomes visible -/
theorem Grow.lay {a : Addr} {o : HO} (g : Grow G ρ H G' ρ' H') (hn : H a = none) (hg : G' a = none) : Grow G ρ H (upd G' a o) ρ' H' where
  sub := fun b u e => by
    have e1 := g.sub b u e
    have hb : b ≠ a := fun z => by subst z; rw [hg] at e1; cases e1
    rw [upd_ne hb]
    exact e1
  pre := g.pre
  keep := g.keep
  live := g.live
  new := fun b u e => by
    by_cases hb : b = a
    · subst hb; exact .inr hn
    · rw [upd_ne hb] at e; exact g.new b u e
  newr := g.newr
end
end Mr
/-! The mirror layer, 2: readings by mirrors; expressions. -/
namespace Mr
open PySem PySem.Spec PyProof.Rows L2

/-- how results lie: the heap at the start, the view, the shared things, the heap -/
structure Rl (α β : Type) where
  r : Hp → Hp → List Addr → Hp → α → β → Prop
  mono : ∀ {H H1 G : Hp} {ρ : List Addr} {H' : Hp} {a : α} {b : β}, (∀ x, H1 x = none → H x = none) → r H1 G ρ H' a b → r H G ρ H' a b
section
variable (K : PySem.W.Frag) (mg : Str → Option Value)
def rV : Rl D V := ⟨fun _ G ρ _ d v => Rep K mg G ρ d v, fun _ h => h⟩
def rL (n : Nat) : Rl (List D) (List V) := ⟨fun _ G ρ _ d v => RepL K mg G ρ d v ∧ v.length = n, fun _ h => h⟩
def rB : Rl Bool Bool := ⟨fun _ _ _ _ a b => a = b, fun _ h => h⟩
/-- a thing just made, seen by nobody else -/
def rF : Rl D V := ⟨fun H G ρ H' d v => ∃ a o, v = .ref a ∧ H' a = some o ∧ OwnR K mg G ρ d o ∧ G a = none ∧ a ∉ ρ ∧ H a = none, fun m ⟨a, o, h1, h2, h3, h4, h5, h6⟩ => ⟨a, o, h1, h2, h3, h4, h5, m a h6⟩⟩
/-- a thing that is read: visible, or a thing of one's own -/
def RepO (G : Hp) (ρ : List Addr) (H : Hp) (d : D) (v : V) : Prop := Rep K mg G ρ d v ∨ Own K mg G ρ H d v
def rO : Rl D V := ⟨fun _ G ρ H' d v => RepO K mg G ρ H' d v, fun _ h => h⟩
end
section
variable {K : PySem.W.Frag} {mg : Str → Option Value} {G G' H H' H1 : Hp} {ρ ρ' ρ1 : List Addr} {α β γ δ : Type}
theorem RepO.grow {d : D} {v : V} (h : RepO K mg G ρ H d v) (g : Grow G ρ H G' ρ' H') : RepO K mg G' ρ' H' d v := by
  rcases h with h | h
  · exact .inl (h.mono g.sub g.pre)
  · exact .inr (h.grow g)
theorem RepO.lst {xs : List D} {v : V} (h : RepO K mg G ρ H (.lst xs) v) (s : Same G H) : ∃ a vs, v = .ref a ∧ H a = some (.lst vs) ∧ RepL K mg G ρ xs vs ∧ vs.length ≤ sizeLine := by
  rcases h with h | ⟨a, o, rfl, h, r, _⟩
  · cases h with
    | lst h z r => exact ⟨_, _, rfl, s _ _ h, r, z⟩
  · cases o with
    | lst vs => exact ⟨a, vs, rfl, h, r.2, r.1⟩
    | _ => exact (show False from r).elim
theorem RepO.tup {xs : List D} {v : V} (h : RepO K mg G ρ H (.tup xs) v) (s : Same G H) : ∃ a vs, v = .ref a ∧ SqT K H a vs ∧ SqT K G a vs ∧ RepL K mg G ρ xs vs ∧ vs.length ≤ sizeLine := by
  rcases h with h | ⟨a, o, rfl, h, r, _⟩
  · cases h with
    | tup h z r => exact ⟨_, _, rfl, seqT s h, h, r, z⟩
  · cases o <;> exact (show False from r).elim
theorem RepO.dic {ks xs : List D} {v : V} (h : RepO K mg G ρ H (.dic ks xs) v) (s : Same G H) : ∃ a kvs, v = .ref a ∧ H a = some (.dK kvs) ∧ RepL K mg G ρ ks (kvs.map fun p => kV p.1) ∧ RepL K mg G ρ xs (kvs.map fun p => p.2) := by
  rcases h with h | ⟨a, o, rfl, h, r, _⟩
  · cases h with
    | dic h r q => exact ⟨_, _, rfl, s _ _ h, r, q⟩
  · cases o with
    | dK kvs => exact ⟨a, kvs, rfl, h, r.1, r.2⟩
    | _ => exact (show False from r).elim
theorem RepO.int {i : Int} {v : V} (h : RepO K mg G ρ H (.int i) v) : v = .int i := by
  rcases h with h | ⟨a, o, rfl, h, r, _⟩
  · cases h; rfl
  · cases o <;> exact (show False from r).elim
theorem RepO.bl {i : Bool} {v : V} (h : RepO K mg G ρ H (.bl i) v) : v = .bl i := by
  rcases h with h | ⟨a, o, rfl, h, r, _⟩
  · cases h; rfl
  · cases o <;> exact (show False from r).elim
theorem RepO.non {v : V} (h : RepO K mg G ρ H .non v) : v = .non := by
  rcases h with h | ⟨a, o, rfl, h, r, _⟩
  · cases h; rfl
  · cases o <;> exact (show False from r).elim
theorem RepO.str {i : Tx} {v : V} (h : RepO K mg G ρ H (.str i) v) : v = .str (toS i) ∧ i.length ≤ sizeLine := by
  rcases h with h | ⟨a, o, rfl, h, r, _⟩
  · cases h with
    | str _ h => exact ⟨rfl, h⟩
  · cases o <;> exact (show False from r).elim
theorem RepO.ty {n : String} {v : V} (h : RepO K mg G ρ H (.ty n) v) : v = .ty n := by
  rcases h with h | ⟨a, o, rfl, h, r, _⟩
  · cases h; rfl
  · cases o <;> exact (show False from r).elim
theorem toS_length (s : Tx) : (toS s).length = s.length := by
  show (s.map Char.toNat).toArray.size = _
  simp

/-- how an exception lies: its class, its own dict -/
def ExcV (K : PySem.W.Frag) (mg : Str → Option Value) (G : Hp) (ρ : List Addr) (H : Hp) (x : Xc) (cls : Value) (od : Option Addr) : Prop :=
  ∃ C, mg x.cls = some (.ref C) ∧ cls = .ref C ∧ C = He.ga K x.cls ∧ clsB K x.cls = true ∧ ((x.args = [] ∧ od = none) ∨ ∃ d v e, x.args = [d] ∧ od = some e ∧ H e = some (.xd [("row", v)]) ∧ Rep K mg G ρ d v)
/-- what is wanted behind a mirror's answer -/
def Post (K : PySem.W.Frag) (mg : Str → Option Value) (R : Rl α β) (Wx : XK) (Q : β → Hp → Prop) (G : Hp) (ρ : List Addr) (H : Hp) : Rs α → Prop
  | .ok a S' => ∀ G' ρ' H' b, Same G' H' → Grow G ρ H G' ρ' H' → StOk K mg G' ρ' S' H' → R.r H G' ρ' H' a b → Q b H'
  | .exc x S' => ∀ G' ρ' H' cls od, Same G' H' → Grow G ρ H G' ρ' H' → StOk K mg G' ρ' S' H' → ExcV K mg G' ρ' H' x cls od → Wx cls od H'
  | .bad => False
theorem Post.grow {R : Rl α β} {Wx : XK} {Q : β → Hp → Prop} {r : Rs α} (g : Grow G ρ H G' ρ' H') (h : Post K mg R Wx Q G ρ H r) : Post K mg R Wx Q G' ρ' H' r := by
  cases r with
  | ok a S => exact fun G2 ρ2 H2 b s g2 st rl => h G2 ρ2 H2 b s (g.trans g2) st (R.mono (fun x e => g.live x e) rl)
  | exc x S => exact fun G2 ρ2 H2 c d s g2 st e => h G2 ρ2 H2 c d s (g.trans g2) st e
  | bad => exact h
/-- a reading by a mirror -/
def tG (K : PySem.W.Frag) (mg : Str → Option Value) (R : Rl α β) (W : WX) (Ω : List Nat) (m : Ev → M α) : L2.St → Hp → (β → Hp → Prop) → Prop := fun σ H Q =>
  ∃ G ρ S env, At K mg Ω G ρ env S σ H ∧ Post K mg R (fun c d H => W c d σ H) Q G ρ H (m env S)
/-- one part of a mirror runs; what follows -/
theorem Post.thn {R : Rl α β} {R2 : Rl γ δ} {W : WX} {Ω : List Nat} {m : Ev → M α} {env : Ev} {S : Store} {σ : L2.St} {k : α → M γ} {Q : δ → Hp → Prop} {C : β → Hp → Prop} (at_ : At K mg Ω G ρ env S σ H)
    (post : Post K mg R2 (fun c d H => W c d σ H) Q G ρ H ((m env >>= k) S))
    (c : ∀ G1 ρ1 S1 H1 a b, Grow G ρ H G1 ρ1 H1 → At K mg Ω G1 ρ1 env S1 σ H1 → R.r H G1 ρ1 H1 a b → Post K mg R2 (fun c d H => W c d σ H) Q G1 ρ1 H1 (k a S1) → C b H1) : tG K mg R W Ω m σ H C := by
  refine ⟨G, ρ, S, env, at_, ?_⟩
  rw [bind_app] at post
  cases e : m env S with
  | ok a S1 =>
    rw [e] at post
    exact fun G1 ρ1 H1 b s g st rl => c G1 ρ1 S1 H1 a b g (at_.grow g s st) rl (Post.grow g post)
  | exc x S1 =>
    rw [e] at post
    exact post
  | bad =>
    rw [e] at post
    exact post
/-- .. at once from a reading -/
theorem tG.thn {R : Rl α β} {R2 : Rl γ δ} {W : WX} {Ω : List Nat} {m : Ev → M α} {σ : L2.St} {k : α → Ev → M γ} {Q : δ → Hp → Prop} {C : β → Hp → Prop} (h : tG K mg R2 W Ω (fun env => m env >>= fun a => k a env) σ H Q)
    (c : ∀ G1 ρ1 S1 env H1 a b, At K mg Ω G1 ρ1 env S1 σ H1 → R.r H G1 ρ1 H1 a b → Post K mg R2 (fun c d H => W c d σ H) Q G1 ρ1 H1 (k a env S1) → C b H1) : tG K mg R W Ω m σ H C := by
  obtain ⟨G, ρ, S, env, at_, post⟩ := h
  exact Post.thn at_ post fun G1 ρ1 S1 H1 a b _ at1 rl p1 => c G1 ρ1 S1 env H1 a b at1 rl p1
/-- the answer is there -/
theorem Post.done {R : Rl α β} {Wx : XK} {Q : β → Hp → Prop} {S : Store} {a : α} {b : β} (post : Post K mg R Wx Q G ρ H (.ok a S)) (s : Same G H) (st : StOk K mg G ρ S H) (rl : R.r H G ρ H a b) : Q b H :=
  post G ρ H b s Grow.refl st rl
end
section
variable {X : Cx} {e : Expr} {t t' : TE}
theorem pe_imp (h : PE X e t) (i : ∀ σ H Q, t' σ H Q → t σ H Q) : PE X e t' := ⟨fun pins s σ H Q I q => h.run pins s σ H Q I (i σ H Q q)⟩
theorem pt_imp {t t' : TT} (h : PT X e t) (i : ∀ σ H Q, t' σ H Q → t σ H Q) : PT X e t' := ⟨fun pins s σ H Q I q => h.run pins s σ H Q I (i σ H Q q)⟩
theorem pw_imp {t t' : TT} (h : PW X e t) (i : ∀ σ H Q, t' σ H Q → t σ H Q) : PW X e t' := ⟨fun wh pins s σ H Q I q => h.run wh pins s σ H Q I (i σ H Q q)⟩
theorem pa_imp {es : List Expr} {t t' : TA} (h : PA X es t) (i : ∀ σ H Q, t' σ H Q → t σ H Q) : PA X es t' := ⟨fun p pins s σ H Q I q => h.run p pins s σ H Q I (i σ H Q q)⟩
theorem ps_imp {st : Stmt} {t t' : TS} (h : PS X st t) (i : ∀ D σ H, t' D σ H → t D σ H) : PS X st t' := ⟨fun pins s σ H D I q => h.run pins s σ H D I (i D σ H q)⟩
theorem pss_imp {st : List Stmt} {t t' : TS} (h : PSs X st t) (i : ∀ D σ H, t' D σ H → t D σ H) : PSs X st t' := ⟨fun pins s σ H D I q => h.run pins s σ H D I (i D σ H q)⟩
theorem pi_imp {tg : Expr} {t t' : TI} (h : PI X tg e t) (i : ∀ σ H Q, t' σ H Q → t σ H Q) : PI X tg e t' := ⟨fun pins s σ H Q I q => h.run pins s σ H Q I (i σ H Q q)⟩
end

/-! ### mirrors of expressions -/
abbrev EM := Ev → M D
abbrev TM := Ev → M Bool
abbrev LM := Ev → M (List D)
def eVar (i : Nat) : EM := fun env => match env[i]? with
  | some (some d) => pure d
  | _ => bad
def eC (d : D) : EM := fun _ => pure d
def eBin (op : D → D → M D) (a b : EM) : EM := fun env => a env >>= fun x => b env >>= fun y => op x y
def eUn (op : D → M D) (a : EM) : EM := fun env => a env >>= fun x => op x
def lNil : LM := fun _ => pure []
def lCons (a : EM) (r : LM) : LM := fun env => a env >>= fun x => r env >>= fun xs => pure (x :: xs)
def eFn (f : List D → M D) (as : LM) : EM := fun env => as env >>= fun xs => f xs

section
variable {X : Cx} {W : WX} {Ω : List Nat} {a b c e : Expr} {es : List Expr} {ma mb mc : EM} {ml : LM} {pos : Pos} {x : Str}
abbrev pV (X : Cx) (W : WX) (Ω : List Nat) (e : Expr) (m : EM) : Prop := PE X e (tG X.K X.mg (rV X.K X.mg) W Ω m)
abbrev pF (X : Cx) (W : WX) (Ω : List Nat) (e : Expr) (m : EM) : Prop := PE X e (tG X.K X.mg (rF X.K X.mg) W Ω m)
abbrev pO (X : Cx) (W : WX) (Ω : List Nat) (e : Expr) (m : EM) : Prop := PE X e (tG X.K X.mg (rO X.K X.mg) W Ω m)
abbrev pL (X : Cx) (W : WX) (Ω : List Nat) (es : List Expr) (m : LM) : Prop := PA X es (tG X.K X.mg (rL X.K X.mg es.length) W Ω m)
abbrev pT (X : Cx) (W : WX) (Ω : List Nat) (e : Expr) (m : TM) : Prop := PT X e (tG X.K X.mg rB W Ω m)

theorem post_imp {α β β' : Type} {K : PySem.W.Frag} {mg : Str → Option Value} {R : Rl α β} {R' : Rl α β'} {Wx : XK} {Q : β → Hp → Prop} {Q' : β' → Hp → Prop} {G H : Hp} {ρ : List Addr} {r : Rs α} (h : Post K mg R Wx Q G ρ H r)
    (i : ∀ G' ρ' S' H' a b, Same G' H' → Grow G ρ H G' ρ' H' → StOk K mg G' ρ' S' H' → R'.r H G' ρ' H' a b → (∀ G'' b', Same G'' H' → Grow G ρ H G'' ρ' H' → StOk K mg G'' ρ' S' H' → R.r H G'' ρ' H' a b' → Q b' H') → Q' b H') : Post K mg R' Wx Q' G ρ H r := by
  cases r with
  | ok a S => exact fun G' ρ' H' b s g st rl => i G' ρ' S H' a b s g st rl fun G'' b' s' g' st' rl' => h G'' ρ' H' b' s' g' st' rl'
  | exc x S => exact h
  | bad => exact h
/-- what is visible may be read -/
theorem po_V (h : pV X W Ω e ma) : pO X W Ω e ma := pe_imp h fun σ H Q ⟨G, ρ, S, env, at_, p⟩ => ⟨G, ρ, S, env, at_, post_imp p fun G' ρ' S' H' a b s g st rl k => k G' b s g st (.inl rl)⟩
theorem po_F (h : pF X W Ω e ma) : pO X W Ω e ma := pe_imp h fun σ H Q ⟨G, ρ, S, env, at_, p⟩ => ⟨G, ρ, S, env, at_, post_imp p fun G' ρ' S' H' a b s g st ⟨x, o, h1, h2, h3, h4, h5, h6⟩ k => k G' b s g st (.inr ⟨x, o, h1, h2, h3, h4, h5⟩)⟩
/-- a thing of one's own is shown to all -/
theorem ownLay {K : PySem.W.Frag} {mg : Str → Option Value} {G H : Hp} {ρ : List Addr} {a : Addr} {o : HO} {d : D} (s : Same G H) (h : H a = some o) (r : OwnR K mg G ρ d o) (n : G a = none) : Same (upd G a o) H ∧ Same G (upd G a o) ∧ Rep K mg (upd G a o) ρ d (.ref a) := by
  have e : Same G (upd G a o) := fun b u q => by
    by_cases hb : b = a
    · subst hb; rw [n] at q; cases q
    · rw [upd_ne hb]; exact q
  refine ⟨fun b u q => ?_, e, ?_⟩
  · by_cases hb : b = a
    · subst hb; rw [upd_same] at q; cases q; exact h
    · rw [upd_ne hb] at q; exact s b u q
  · cases d <;> cases o <;> first
      | exact (show False from r).elim
      | exact .lst upd_same r.1 (r.2.mono e fun _ _ q => q)
      | exact .dic upd_same (r.1.mono e fun _ _ q => q) (r.2.mono e fun _ _ q => q)
theorem stLay {K : PySem.W.Frag} {mg : Str → Option Value} {G H : Hp} {ρ : List Addr} {S : Store} {a : Addr} {o : HO} (st : StOk K mg G ρ S H) (n : G a = none) (m : a ∉ ρ) (nt : ∀ ps, o ≠ .tbl ps) : StOk K mg (upd G a o) ρ S H := by
  refine st.mono (fun b u q => ?_) (fun _ _ => rfl) (fun b hb => ?_) id fun b ps z => ?_
  · by_cases hb : b = a
    · subst hb; rw [n] at q; cases q
    · rw [upd_ne hb]; exact q
  · have hne : b ≠ a := fun z => by subst z; exact m hb
    rw [upd_ne hne]
    exact st.out b hb
  · by_cases hb : b = a
    · subst hb; rw [upd_same] at z; exact nt ps (Option.some.inj z)
    · rw [upd_ne hb] at z; exact st.gt b ps z
theorem pv_F (h : pF X W Ω e ma) : pV X W Ω e ma := pe_imp h fun σ H Q ⟨G, ρ, S, env, at_, p⟩ => ⟨G, ρ, S, env, at_, post_imp p fun G' ρ' S' H' d b s g st ⟨x, o, h1, h2, h3, h4, h5, h6⟩ k => by
  subst h1
  obtain ⟨s1, _, r1⟩ := ownLay s h2 h3 h4
  exact k (upd G' x o) (.ref x) s1 (g.lay h6 h4) (stLay st h4 h5 h3.nt.1) r1⟩

/-! ### names and constants -/
theorem pv_var (i : Nat) (hΩ : i ∉ Ω := by decide) (hN : X.N[i]? = some x := by rfl) (hv : Vis X.env.scope x := by first | exact Or.inl rfl | exact Or.inr (Or.inl rfl) | exact Or.inr (Or.inr rfl)) (hd : (x == ("__debug__" : Str)) = false := by decide)
    (hcd : (x == ("__classdict__" : Str)) = false := by decide) : pV X W Ω (.Name x pos) (eVar i) := pe_imp (pe_var hN hv hd hcd) fun σ H Q ⟨G, ρ, S, env, at_, p⟩ => by
  unfold eVar at p
  cases q : env[i]? with
  | none => rw [q] at p; exact (show False from p).elim
  | some o =>
    rw [q] at p
    cases o with
    | none => exact (show False from p).elim
    | some d =>
      obtain ⟨v, h1, h2⟩ := at_.ev.val i d q hΩ
      exact ⟨v, h1, Post.done (S := S) (a := d) p at_.sub at_.st h2⟩
theorem po_var (i : Nat) (hΩ : i ∈ Ω := by decide) (hN : X.N[i]? = some x := by rfl) (hv : Vis X.env.scope x := by first | exact Or.inl rfl | exact Or.inr (Or.inl rfl) | exact Or.inr (Or.inr rfl)) (hd : (x == ("__debug__" : Str)) = false := by decide)
    (hcd : (x == ("__classdict__" : Str)) = false := by decide) : pO X W Ω (.Name x pos) (eVar i) := pe_imp (pe_var hN hv hd hcd) fun σ H Q ⟨G, ρ, S, env, at_, p⟩ => by
  unfold eVar at p
  cases q : env[i]? with
  | none => rw [q] at p; exact (show False from p).elim
  | some o =>
    rw [q] at p
    cases o with
    | none => exact (show False from p).elim
    | some d =>
      obtain ⟨v, h1, h2⟩ := at_.ev.own i d q hΩ
      exact ⟨v, h1, Post.done (S := S) (a := d) p at_.sub at_.st (.inr h2)⟩
theorem pv_c {v : V} {d : D} (h : PE X e (tC v)) (r : ∀ G ρ, Rep X.K X.mg G ρ d v) : pV X W Ω e (eC d) := pe_imp h fun σ H Q ⟨G, ρ, S, env, at_, p⟩ => Post.done (S := S) (a := d) p at_.sub at_.st (r G ρ)
theorem pv_int {i : Int} {j} : pV X W Ω (.Constant (.int i) j pos) (eC (.int i)) := pv_c pe_int fun _ _ => .int i
theorem pv_bl {i : Bool} {j} : pV X W Ω (.Constant (.bool i) j pos) (eC (.bl i)) := pv_c pe_bl fun _ _ => .bl i
theorem pv_non {j} : pV X W Ω (.Constant .none j pos) (eC .non) := pv_c pe_non fun _ _ => .non
theorem pv_str (s : Tx) {z : Str} {j} (h : toS s = z := by rfl) (hz : s.length ≤ sizeLine := by decide) : pV X W Ω (.Constant (.str z) j pos) (eC (.str s)) := by
  subst h
  exact pv_c pe_str fun _ _ => .str s hz
theorem pv_glob {u : Value} {v : V} {d : D} (hg : Gl X x) (hm : X.mg x = some u) (r : RelV v u) (q : ∀ G ρ, Rep X.K X.mg G ρ d v) (hd : (x == ("__debug__" : Str)) = false := by decide) : pV X W Ω (.Name x pos) (eC d) := pv_c (pe_glob hg hm r hd) q
theorem pv_fn {f : Addr} (hg : Gl X x) (hm : X.mg x = some (.ref f)) (hd : (x == ("__debug__" : Str)) = false := by decide) : pV X W Ω (.Name x pos) (eC (.glo x)) := pv_c (pe_glob (v := .ref f) hg hm rfl hd) fun _ _ => .glo hm
theorem pv_ty {n : String} (hg : Gl X x) (hm : X.mg x = none) (hv : bootBuiltins x = some (.type n)) (hn : x ≠ "__name__" := by decide) (hd : (x == ("__debug__" : Str)) = false := by decide) : pV X W Ω (.Name x pos) (eC (.ty n)) := pv_c (pe_bltn (v := .ty n) hg hm hv rfl hn hd) fun _ _ => .ty n

/-! ### argument lists -/
theorem pl_nil : pL X W Ω [] lNil := pa_imp pa_nil fun σ H Q ⟨G, ρ, S, env, at_, p⟩ => Post.done (S := S) (a := ([] : List D)) p at_.sub at_.st ⟨.nil, rfl⟩
theorem pl_cons (ha : pV X W Ω e ma) (hr : pL X W Ω es ml) (hs : starEach (e :: es) X.env = (false, eval e X.env) :: starEach es X.env := by rfl) : pL X W Ω (e :: es) (lCons ma ml) := pa_imp (pa_cons ha hr hs) fun σ H Q h =>
  h.thn fun G1 ρ1 S1 env H1 d v at1 r1 p1 => p1.thn at1 fun G2 ρ2 S2 H2 ds vs g at2 r2 p2 => Post.done (S := S2) (a := d :: ds) p2 at2.sub at2.st ⟨.cons (Rep.mono g.sub g.pre r1) r2.1, by rw [List.length_cons, List.length_cons, r2.2]⟩

/-! ### operators -/
/-- an operator's rule and its mirror: for things that are read -/
def OpOk (X : Cx) (r : R2) (op : D → D → M D) : Prop := ∀ (G : Hp) (ρ : List Addr) (S : Store) (H : Hp) (d e : D) (x y : V) (Wx : XK) (Q : VK), Same G H → StOk X.K X.mg G ρ S H → RepO X.K X.mg G ρ H d x → RepO X.K X.mg G ρ H e y →
  Post X.K X.mg (rV X.K X.mg) Wx Q G ρ H (op d e S) → r x y H Q
def UnOk (X : Cx) (r : V → Hp → VK → Prop) (op : D → M D) : Prop := ∀ (G : Hp) (ρ : List Addr) (S : Store) (H : Hp) (d : D) (x : V) (Wx : XK) (Q : VK), Same G H → StOk X.K X.mg G ρ S H → RepO X.K X.mg G ρ H d x →
  Post X.K X.mg (rV X.K X.mg) Wx Q G ρ H (op d S) → r x H Q
theorem tOp_of {r : R2} {op : D → D → M D} (ok : OpOk X r op) {σ : L2.St} {H : Hp} {Q : VK} (h : tG X.K X.mg (rV X.K X.mg) W Ω (eBin op ma mb) σ H Q) :
    tOp r (tG X.K X.mg (rO X.K X.mg) W Ω ma) (tG X.K X.mg (rO X.K X.mg) W Ω mb) σ H Q :=
  tG.thn (k := fun x env => mb env >>= fun y => op x y) h fun G1 ρ1 S1 env H1 d v at1 r1 p1 => p1.thn at1 fun G2 ρ2 S2 H2 e w g at2 r2 p2 => ok G2 ρ2 S2 H2 d e v w _ Q at2.sub at2.st (RepO.grow r1 g) r2 p2
theorem pv_op {o : Operator} {r : R2} {op : D → D → M D} (hr : OpR X (binaryOp o) r) (ok : OpOk X r op) (ha : pO X W Ω a ma) (hb : pO X W Ω b mb) : pV X W Ω (.BinOp a o b pos) (eBin op ma mb) := pe_imp (pe_op hr ha hb) fun _ _ _ h => tOp_of ok h
theorem pv_cmp {o : CmpOp} {r : R2} {op : D → D → M D} (hr : OpR X (compareOp o) r) (ok : OpOk X r op) (ha : pO X W Ω a ma) (hb : pO X W Ω b mb) (hm : behindInMarks o b = false) : pV X W Ω (.Compare a [o] [b] pos) (eBin op ma mb) := pe_imp (pe_cmpR hr ha hb hm) fun _ _ _ h => tOp_of ok h
theorem pv_un {o : UnaryOp} {r : V → Hp → VK → Prop} {op : D → M D} (hr : UnR X (unaryOp o) r) (ok : UnOk X r op) (ha : pO X W Ω a ma) : pV X W Ω (.UnaryOp o a pos) (eUn op ma) := pe_imp (pe_un hr ha) fun _ _ _ h =>
  tG.thn (k := fun x _ => op x) h fun G1 ρ1 S1 env H1 d v at1 r1 p1 => ok G1 ρ1 S1 H1 d v _ _ at1.sub at1.st r1 p1
end
end Mr
/-! The mirror layer, 3: operators, comparisons, subscripts, slices. -/
namespace Mr
open PySem PySem.Spec PyProof.Rows L2

/-! ### new objects -/
section
variable {K : PySem.W.Frag} {mg : Str → Option Value} {G G' H H' H1 : Hp} {ρ ρ' ρ1 : List Addr} {S : Store} {Wx : XK} {Q : VK}
theorem g_none (s : Same G H) {p : Addr} (hp : H p = none) : G p = none := by
  cases e : G p with
  | none => rfl
  | some o => rw [s p o e] at hp; cases hp
theorem r_notin (st : StOk K mg G ρ S H) {p : Addr} (hp : H p = none) : p ∉ ρ := fun hm => by
  obtain ⟨n, e⟩ := List.getElem?_of_mem hm
  have hn : n < S.length := by rw [← st.len]; exact (List.getElem?_eq_some_iff.mp e).1
  obtain ⟨o, h, _⟩ := (st.obj n p S[n] e (List.getElem?_eq_getElem hn)).some
  rw [h] at hp; cases hp
theorem up_same (s : Same G H) {p : Addr} {o : HO} (hp : H p = none) : Same G (upd H p o) := fun b u e => by
  have h := s b u e
  rw [upd_ne (ne_of_none h hp)]
  exact h
theorem up_lay (s : Same G H) {p : Addr} {o : HO} : Same (upd G p o) (upd H p o) := fun b u e => by
  by_cases hb : b = p
  · subst hb; rw [upd_same] at e ⊢; exact e
  · rw [upd_ne hb] at e ⊢; exact s b u e
theorem up_sub (s : Same G H) {p : Addr} {o : HO} (hp : H p = none) : Same G (upd G p o) := fun b u e => by
  have h := s b u e
  rw [upd_ne (ne_of_none h hp)]
  exact e
theorem up_grow {p : Addr} {o : HO} (hp : H p = none) : Grow G ρ H G ρ (upd H p o) where
  sub := Same.refl _
  pre := fun _ _ e => e
  keep := fun a u e _ _ => by rw [upd_ne (ne_of_none e hp)]; exact e
  live := fun a e => by
    by_cases hb : a = p
    · subst hb; exact hp
    · rw [upd_ne hb] at e; exact e
  new := fun _ _ e => .inl e
  newr := fun _ e => .inl e
theorem up_growV (s : Same G H) {p : Addr} {o : HO} (hp : H p = none) : Grow G ρ H (upd G p o) ρ (upd H p o) := (up_grow hp).lay hp (g_none s hp)
theorem up_st (st : StOk K mg G ρ S H) {p : Addr} {o : HO} (hp : H p = none) : StOk K mg G ρ S (upd H p o) := st.mono (Same.refl _) (fun a ha => upd_ne (fun z => r_notin st hp (z ▸ ha))) st.out (fun t => t.ext fun b u e => by rw [upd_ne (ne_of_none e hp)]; exact e) st.gt
theorem up_stV (s : Same G H) (st : StOk K mg G ρ S H) {p : Addr} {o : HO} (hp : H p = none) (nt : ∀ ps, o ≠ .tbl ps := by (intro ps z; cases z)) : StOk K mg (upd G p o) ρ S (upd H p o) := stLay (up_st st hp) (g_none s hp) (r_notin st hp) nt
/-- a list, a tuple just made is shown -/
theorem Post.lst {xs : List D} {vs : List V} {p : Addr} (post : Post K mg (rV K mg) Wx Q G ρ H (.ok (.lst xs) S)) (s : Same G H) (st : StOk K mg G ρ S H) (r : RepL K mg G ρ xs vs) (z : vs.length ≤ sizeLine) (hp : H p = none) : Q (.ref p) (upd H p (.lst vs)) :=
  post (upd G p (.lst vs)) ρ _ _ (up_lay s) (up_growV s hp) (up_stV s st hp) (.lst upd_same z (r.mono (up_sub s hp) fun _ _ q => q))
theorem Post.tup {xs : List D} {vs : List V} {p : Addr} (post : Post K mg (rV K mg) Wx Q G ρ H (.ok (.tup xs) S)) (s : Same G H) (st : StOk K mg G ρ S H) (r : RepL K mg G ρ xs vs) (z : vs.length ≤ sizeLine) (hp : H p = none) : Q (.ref p) (upd H p (.tup vs)) :=
  post (upd G p (.tup vs)) ρ _ _ (up_lay s) (up_growV s hp) (up_stV s st hp) (.tup (SqT.of upd_same) z (r.mono (up_sub s hp) fun _ _ q => q))
theorem Post.lstF {xs : List D} {vs : List V} {p : Addr} (post : Post K mg (rF K mg) Wx Q G ρ H (.ok (.lst xs) S)) (s : Same G H) (st : StOk K mg G ρ S H) (r : RepL K mg G ρ xs vs) (z : vs.length ≤ sizeLine) (hp : H p = none) : Q (.ref p) (upd H p (.lst vs)) :=
  post G ρ _ _ (up_same s hp) (up_grow hp) (up_st st hp) ⟨p, _, rfl, upd_same, ⟨z, r⟩, g_none s hp, r_notin st hp, hp⟩
end

theorem Post.lstF' {K : PySem.W.Frag} {mg : Str → Option Value} {G H : Hp} {ρ : List Addr} {S : Store} {Wx : XK} {Q : VK} {xs : List D} {vs : List V} {p : Addr} (post : Post K mg (rF K mg) Wx Q G ρ H (.ok (.lst xs) S)) (s : Same G H) (st : StOk K mg G ρ S H) (r : RepL K mg G ρ xs vs) (z : vs.length ≤ sizeLine) (hp : H p = none) : Q (.ref p) (upd H p (.lst vs)) := Post.lstF post s st r z hp

/-! ### equality of data -/
mutual
def D.plain : D → Bool
  | .non | .bl _ | .int _ | .str _ => true
  | .tup xs | .lst xs => D.plainL xs
  | _ => false
def D.plainL : List D → Bool
  | [] => true
  | x :: xs => x.plain && D.plainL xs
end
mutual
def D.depth : D → Nat
  | .tup xs | .lst xs => D.depthL xs + 1
  | _ => 0
def D.depthL : List D → Nat
  | [] => 0
  | x :: xs => max x.depth (D.depthL xs)
end
mutual
def D.eqv : D → D → Bool
  | .non, .non => true
  | .bl a, .bl b => a == b
  | .bl a, .int j => (if a then 1 else 0) == j
  | .int i, .bl b => i == (if b then 1 else 0)
  | .int i, .int j => i == j
  | .str x, .str y => x == y
  | .lst xs, .lst ys => D.eqvL xs ys
  | .tup xs, .tup ys => D.eqvL xs ys
  | _, _ => false
def D.eqvL : List D → List D → Bool
  | [], [] => true
  | x :: xs, y :: ys => D.eqv x y && D.eqvL xs ys
  | _, _ => false
end
mutual
def D.toP : D → PyData
  | .bl b => .bool b
  | .int i => .int i
  | .str s => .str (toS s)
  | .tup xs => .tuple (D.toPL xs)
  | .lst xs => .list (D.toPL xs)
  | _ => .none
def D.toPL : List D → List PyData
  | [] => []
  | x :: xs => x.toP :: D.toPL xs
end
def D.okD (d : D) : Bool := d.plain && decide (d.depth ≤ 60)
theorem toS_inj {a b : Tx} : toS a = toS b ↔ a = b := by
  refine ⟨fun h => ?_, fun h => by rw [h]⟩
  have h1 : (a.map Char.toNat) = b.map Char.toNat := by
    have := congrArg (fun z : Str => z.cps.toList) h
    simpa [toS] using this
  have inj : Function.Injective Char.toNat := fun x y e => by
    have : x.val = y.val := UInt32.toNat_inj.mp e
    exact Char.ext this
  exact (List.map_inj_right fun x y e => inj e).mp h1
theorem toS_ok (a : Tx) : PyData.strOk (toS a) = true := by
  show (a.map Char.toNat).toArray.all _ = true
  rw [Array.all_eq_true]
  intro i hi
  have hv := (a[i]'(by simpa using hi)).valid
  have h : ((a.map Char.toNat).toArray[i]'hi) = (a[i]'(by simpa using hi)).toNat := by simp
  rw [h]
  refine decide_eq_true ?_
  rcases hv with h1 | ⟨_, h2⟩
  · exact Nat.lt_trans h1 (by decide)
  · exact h2
mutual
theorem D.lay : ∀ d : D, d.plain = true → d.toP.canLay0 = true
  | .non, _ => by simp [D.toP, PyData.canLay0]
  | .bl _, _ => by simp [D.toP, PyData.canLay0]
  | .int _, _ => by simp [D.toP, PyData.canLay0]
  | .str s, _ => by simp [D.toP, PyData.canLay0, toS_ok]
  | .tup xs, h => by simp only [D.toP, PyData.canLay0]; exact D.layL xs (by simpa [D.plain] using h)
  | .lst xs, h => by simp only [D.toP, PyData.canLay0]; exact D.layL xs (by simpa [D.plain] using h)
theorem D.layL : ∀ ds : List D, D.plainL ds = true → PyData.canLayAll0 (D.toPL ds) = true
  | [], _ => by simp [D.toPL, PyData.canLayAll0]
  | x :: xs, h => by
    have h' : x.plain = true ∧ D.plainL xs = true := by simpa [D.plainL] using h
    simp only [D.toPL, PyData.canLayAll0, D.lay x h'.1, D.layL xs h'.2, Bool.and_self]
end
mutual
theorem D.deep : ∀ d : D, d.toP.depth = d.depth
  | .non => by simp only [D.toP, D.depth, PyData.depth]
  | .bl _ => by simp only [D.toP, D.depth, PyData.depth]
  | .int _ => by simp only [D.toP, D.depth, PyData.depth]
  | .str s => by simp only [D.toP, D.depth, PyData.depth]
  | .tup xs => by simp only [D.toP, D.depth, PyData.depth, D.deepL xs]
  | .lst xs => by simp only [D.toP, D.depth, PyData.depth, D.deepL xs]
  | .dic _ _ => by simp only [D.toP, D.depth, PyData.depth]
  | .ref _ => by simp only [D.toP, D.depth, PyData.depth]
  | .ty _ => by simp only [D.toP, D.depth, PyData.depth]
  | .glo _ => by simp only [D.toP, D.depth, PyData.depth]
  | .exc _ _ => by simp only [D.toP, D.depth, PyData.depth]
  | .clo _ _ => by simp only [D.toP, D.depth, PyData.depth]
theorem D.deepL : ∀ ds : List D, PyData.depthAll (D.toPL ds) = D.depthL ds
  | [] => by simp only [D.toPL, D.depthL, PyData.depthAll]
  | x :: xs => by simp only [D.toPL, D.depthL, PyData.depthAll, D.deep x, D.deepL xs]
end
mutual
theorem D.eqv_toP : ∀ d e : D, d.plain = true → e.plain = true → PyData.eqv d.toP e.toP = D.eqv d e
  | .non, e, _, h => by cases e <;> first | (exfalso; simp [D.plain] at h; done) | (simp only [D.toP, PyData.eqv, D.eqv])
  | .bl _, e, _, h => by cases e <;> first | (exfalso; simp [D.plain] at h; done) | (simp only [D.toP, PyData.eqv, D.eqv])
  | .int _, e, _, h => by cases e <;> first | (exfalso; simp [D.plain] at h; done) | (simp only [D.toP, PyData.eqv, D.eqv])
  | .str s, e, _, h => by
    cases e with
    | str y =>
      simp only [D.toP, PyData.eqv, D.eqv]
      rw [Bool.eq_iff_iff, beq_iff_eq, beq_iff_eq]
      exact toS_inj
    | _ => first | (exfalso; simp [D.plain] at h; done) | (simp only [D.toP, PyData.eqv, D.eqv])
  | .tup xs, e, h0, h => by
    cases e with
    | tup ys =>
      simp only [D.toP, PyData.eqv, D.eqv]
      exact D.eqv_toPL xs ys (by simpa [D.plain] using h0) (by simpa [D.plain] using h)
    | _ => first | (exfalso; simp [D.plain] at h; done) | (simp only [D.toP, PyData.eqv, D.eqv])
  | .lst xs, e, h0, h => by
    cases e with
    | lst ys =>
      simp only [D.toP, PyData.eqv, D.eqv]
      exact D.eqv_toPL xs ys (by simpa [D.plain] using h0) (by simpa [D.plain] using h)
    | _ => first | (exfalso; simp [D.plain] at h; done) | (simp only [D.toP, PyData.eqv, D.eqv])
theorem D.eqv_toPL : ∀ ds es : List D, D.plainL ds = true → D.plainL es = true → PyData.eqvAll (D.toPL ds) (D.toPL es) = D.eqvL ds es
  | [], [], _, _ => by simp only [D.toPL, PyData.eqvAll, D.eqvL]
  | [], _ :: _, _, _ => by simp only [D.toPL, PyData.eqvAll, D.eqvL]
  | _ :: _, [], _, _ => by simp only [D.toPL, PyData.eqvAll, D.eqvL]
  | x :: xs, y :: ys, h, h2 => by
    have h' : x.plain = true ∧ D.plainL xs = true := by simpa [D.plainL] using h
    have h2' : y.plain = true ∧ D.plainL ys = true := by simpa [D.plainL] using h2
    simp only [D.toPL, PyData.eqvAll, D.eqvL, D.eqv_toP x y h'.1 h2'.1, D.eqv_toPL xs ys h'.2 h2'.2]
end
theorem D.shaped {d : D} (h : d.okD = true) : SeqAt.shaped d.toP = true := by
  have h' : d.plain = true ∧ d.depth ≤ 60 := by simpa [D.okD] using h
  unfold SeqAt.shaped
  rw [D.lay d h'.1, D.deep]
  exact decide_eq_true (by omega)
section
variable {K : PySem.W.Frag} {mg : Str → Option Value} {G G' H H' H1 : Hp} {ρ ρ' ρ1 : List Addr} {S : Store}
mutual
theorem Rep.dp (s : Same G H) : ∀ (d : D) {v : V}, Rep K mg G ρ d v → d.plain = true → Dp K H v d.toP
  | .non, _, h, _ => by cases h; exact .non
  | .bl b, _, h, _ => by cases h; exact .bl b
  | .int i, _, h, _ => by cases h; exact .int i
  | .str x, _, h, _ => by cases h; exact .str _
  | .tup xs, _, h, z => by
    cases h with
    | tup h _ r => exact .tup (seqT s h) (Rep.dpL s xs r (by simpa [D.plain] using z))
  | .lst xs, _, h, z => by
    cases h with
    | lst h _ r => exact .lst (SqL.of (s _ _ h)) (Rep.dpL s xs r (by simpa [D.plain] using z))
theorem Rep.dpL (s : Same G H) : ∀ (ds : List D) {vs : List V}, RepL K mg G ρ ds vs → D.plainL ds = true → DpAll K H vs (D.toPL ds)
  | [], _, h, _ => by cases h; exact .nil
  | d :: ds, _, h, z => by
    have z' : d.plain = true ∧ D.plainL ds = true := by simpa [D.plainL] using z
    cases h with
    | cons h t => exact .cons (Rep.dp s d h z'.1) (Rep.dpL s ds t z'.2)
end
theorem RepO.dp {d : D} {v : V} (s : Same G H) (h : RepO K mg G ρ H d v) (z : d.plain = true) : Dp K H v d.toP := by
  rcases h with h | ⟨a, o, rfl, h, r, _⟩
  · exact Rep.dp s d h z
  · cases d <;> cases o <;> first
      | exact (show False from r).elim
      | exact .lst (SqL.of h) (Rep.dpL s _ r.2 (by simpa [D.plain] using z))
      | (simp [D.plain] at z)
end

/-! ### the operators' mirrors -/
def opAdd : D → D → M D
  | .int a, .int b => pure (.int (a + b))
  | .str a, .str b => if a.length + b.length ≤ sizeLine then pure (.str (a ++ b)) else bad
  | .tup a, .tup b => if a.length + b.length ≤ sizeLine then pure (.tup (a ++ b)) else bad
  | .lst a, .lst b => if a.length + b.length ≤ sizeLine then pure (.lst (a ++ b)) else bad
  | _, _ => bad
def opSub : D → D → M D
  | .int a, .int b => pure (.int (a - b))
  | _, _ => bad
def repL {α : Type} (n : Nat) (xs : List α) : List α := (List.replicate n xs).flatten
def opMul : D → D → M D
  | .int a, .int b => if (-(2 ^ 64) < a ∧ a < 2 ^ 64) ∨ (-(2 ^ 64) < b ∧ b < 2 ^ 64) then pure (.int (a * b)) else bad
  | .str a, .int b => if b ≤ 1000 ∧ -1000 ≤ b ∧ a.length ≤ 1000 then pure (.str (repL b.toNat a)) else bad
  | .lst a, .int b => if b ≤ 1000 ∧ -1000 ≤ b ∧ a.length ≤ 1000 then pure (.lst (repL b.toNat a)) else bad
  | .tup a, .int b => if b ≤ 1000 ∧ 2 ≤ b ∧ a.length ≤ 1000 ∧ a ≠ [] then pure (.tup (repL b.toNat a)) else bad
  | _, _ => bad
def opMod : D → D → M D
  | .int a, .int b => if b = 0 then bad else pure (.int (a.fmod b))
  | _, _ => bad
def opDiv : D → D → M D
  | .int a, .int b => if b ≠ 0 ∧ b.natAbs < 1073741824 then pure (.int (a.fdiv b)) else bad
  | _, _ => bad
def opPow : D → D → M D
  | .int a, .int b => if 0 ≤ b ∧ b ≤ 1000000 ∧ a.natAbs < 2 ^ 64 then pure (.int (a ^ b.toNat)) else bad
  | _, _ => bad
def opNeg : D → M D
  | .int a => pure (.int (-a))
  | _ => bad
def opEq (d e : D) : M D := if d.okD && e.okD then pure (.bl (D.eqv d e)) else bad
def opNe (d e : D) : M D := if d.okD && e.okD then pure (.bl (!D.eqv d e)) else bad
def ltT : Tx → Tx → Bool := fun a b => decide (a.map Char.toNat < b.map Char.toNat)
def opLt : D → D → M D
  | .int a, .int b => pure (.bl (decide (a < b)))
  | .str a, .str b => pure (.bl (ltT a b))
  | _, _ => bad
def opLe : D → D → M D
  | .int a, .int b => pure (.bl (decide (a ≤ b)))
  | .str a, .str b => pure (.bl (!ltT b a))
  | _, _ => bad
def opGt : D → D → M D
  | .int a, .int b => pure (.bl (decide (b < a)))
  | _, _ => bad
def opGe : D → D → M D
  | .int a, .int b => pure (.bl (decide (b ≤ a)))
  | _, _ => bad
def D.flat : D → Bool
  | .non | .bl _ | .int _ | .str _ => true
  | _ => false
def dIn (d : D) (xs : List D) : Bool := xs.any fun z => D.eqv z d
def opIn : D → D → M D
  | .str [c], .str b => pure (.bl (decide (c ∈ b)))
  | d, .lst xs => if d.okD && D.okD (.lst xs) then pure (.bl (dIn d xs)) else bad
  | d, .tup xs => if d.flat && xs.all D.flat then pure (.bl (dIn d xs)) else bad
  | _, _ => bad
def opNotIn : D → D → M D
  | .str [c], .str b => pure (.bl (!decide (c ∈ b)))
  | d, .lst xs => if d.okD && D.okD (.lst xs) then pure (.bl (!dIn d xs)) else bad
  | d, .tup xs => if d.flat && xs.all D.flat then pure (.bl (!dIn d xs)) else bad
  | _, _ => bad
def isNon : D → Bool
  | .non => true
  | _ => false
def opIs : D → D → M D
  | d, .non => pure (.bl (isNon d))
  | .bl a, .bl b => pure (.bl (decide (a = b)))
  | _, _ => bad
def opIsNot : D → D → M D
  | d, .non => pure (.bl (!isNon d))
  | .bl a, .bl b => pure (.bl (!decide (a = b)))
  | _, _ => bad
def truD : D → Option Bool
  | .non => some false
  | .bl b => some b
  | .int i => some (i != 0)
  | .str s => some (!s.isEmpty)
  | .tup xs => some (!xs.isEmpty)
  | .lst xs => some (!xs.isEmpty)
  | _ => none
def tru (d : D) : M Bool := match truD d with
  | some b => pure b
  | none => bad
/-- a value that is to be True or False -/
def unB : D → M Bool
  | .bl b => pure b
  | _ => bad
def ixS (i : Int) (n : Nat) (s : Store) : Option D := match s[n]? with
  | some (.lst xs) => atI xs i
  | _ => none
def ofO {α : Type} : Option α → M α
  | some a => pure a
  | none => bad
def opIx : D → D → M D
  | .lst xs, .int i => ofO (atI xs i)
  | .tup xs, .int i => ofO (atI xs i)
  | .str s, .int i => ofO ((atI s i).map fun c => D.str [c])
  | .ref n, .int i => fun s => ofO (ixS i n s) s
  | _, _ => bad
def cutL {α : Type} (xs : List α) (lo hi : Option Int) : List α := (xs.drop (HT.sIx xs.length 0 lo)).take (HT.sIx xs.length xs.length hi - HT.sIx xs.length 0 lo)
def opSl : D → Option Int → Option Int → M D
  | .lst xs, lo, hi => pure (.lst (cutL xs lo hi))
  | .tup xs, lo, hi => pure (.tup (cutL xs lo hi))
  | .str s, lo, hi => pure (.str (cutL s lo hi))
  | _, _, _ => bad
end Mr
/-! The mirror layer, 4: the operators' mirrors are right. -/
namespace Mr
open PySem PySem.Spec PyProof.Rows L2
section
variable {X : Cx} {W : WX} {Ω : List Nat} {a b c e : Expr} {es : List Expr} {ma mb mc : EM} {ml : LM} {pos : Pos} {x : Str}
theorem Post.V {K : PySem.W.Frag} {mg : Str → Option Value} {G H : Hp} {ρ : List Addr} {S : Store} {Wx : XK} {Q : VK} {d : D} {v : V} (p : Post K mg (rV K mg) Wx Q G ρ H (.ok d S)) (s : Same G H) (st : StOk K mg G ρ S H) (r : Rep K mg G ρ d v) : Q v H := Post.done p s st r
theorem toS_app (a b : Tx) : toS a ++ toS b = toS (a ++ b) := by
  apply PySem.Str.ext'
  show (a.map Char.toNat).toArray ++ (b.map Char.toNat).toArray = ((a ++ b).map Char.toNat).toArray
  simp
theorem toS_list (a : Tx) : (toS a).cps.toList = a.map Char.toNat := by simp [toS]

/-! ### + -/
def rAdd4 (K : PySem.W.Frag) : R2 := fun x y H Q => rI0 (fun i j => .int (i + j)) x y H Q ∨ (∃ i j, x = .str i ∧ y = .str j ∧ i.length + j.length ≤ sizeLine ∧ Q (.str (i ++ j)) H) ∨ rCatA K x y H Q ∨ rCat x y H Q
theorem or_add : OpR X (binaryOp .Add) (rAdd4 X.K) := op_add.or (op_add_str.or (op_catA.or op_cat))
theorem ok_add : OpOk X (rAdd4 X.K) opAdd := by
  intro G ρ S H d e x y Wx Q s st rd re p
  cases d with
  | int a =>
    cases e with
    | int b => rw [rd.int, re.int]; exact .inl ⟨a, b, rfl, rfl, Post.V (S := S) (d := .int (a + b)) p s st (.int _)⟩
    | _ => exact (show False from p).elim
  | str a =>
    cases e with
    | str b =>
      obtain ⟨rfl, ha⟩ := rd.str
      obtain ⟨rfl, hb⟩ := re.str
      by_cases hz : a.length + b.length ≤ sizeLine
      · simp only [opAdd, if_pos hz] at p
        refine .inr (.inl ⟨toS a, toS b, rfl, rfl, by rw [toS_length, toS_length]; exact hz, ?_⟩)
        rw [toS_app]
        exact Post.V (S := S) (d := .str (a ++ b)) p s st (.str _ (by rw [List.length_append]; exact hz))
      · simp only [opAdd, if_neg hz] at p
        exact (show False from p).elim
    | _ => exact (show False from p).elim
  | tup a =>
    cases e with
    | tup b =>
      by_cases hz : a.length + b.length ≤ sizeLine
      · simp only [opAdd, if_pos hz] at p
        have p : Post X.K X.mg (rV X.K X.mg) Wx Q G ρ H (.ok (.tup (a ++ b)) S) := p
        obtain ⟨pa, va, rfl, ta, ga, ra, za⟩ := rd.tup s
        obtain ⟨pb, vb, rfl, tb, gb, rb, zb⟩ := re.tup s
        have hl : va.length + vb.length ≤ sizeLine := by rw [← ra.length, ← rb.length]; exact hz
        refine .inr (.inr (.inl ⟨pa, pb, va, vb, rfl, rfl, ta, tb, hl, fun h => ?_, fun h h2 => ?_, fun h h2 q hq => ?_⟩))
        · subst h
          cases ra
          exact Post.V p s st (.tup gb zb rb)
        · subst h2
          cases rb
          rw [List.append_nil] at p
          exact Post.V p s st (.tup ga za ra)
        · exact Post.tup p s st (ra.append rb) (by rw [List.length_append]; exact hl) hq
      · simp only [opAdd, if_neg hz] at p
        exact (show False from p).elim
    | _ => exact (show False from p).elim
  | lst a =>
    cases e with
    | lst b =>
      by_cases hz : a.length + b.length ≤ sizeLine
      · simp only [opAdd, if_pos hz] at p
        obtain ⟨pa, va, rfl, ta, ra, za⟩ := rd.lst s
        obtain ⟨pb, vb, rfl, tb, rb, zb⟩ := re.lst s
        have hl : va.length + vb.length ≤ sizeLine := by rw [← ra.length, ← rb.length]; exact hz
        exact .inr (.inr (.inr ⟨pa, pb, va, vb, rfl, rfl, ta, tb, hl, fun q hq => Post.lst (xs := a ++ b) p s st (ra.append rb) (by rw [List.length_append]; exact hl) hq⟩))
      · simp only [opAdd, if_neg hz] at p
        exact (show False from p).elim
    | _ => exact (show False from p).elim
  | _ => exact (show False from p).elim
theorem pv_add (ha : pO X W Ω a ma) (hb : pO X W Ω b mb) : pV X W Ω (.BinOp a .Add b pos) (eBin opAdd ma mb) := pv_op or_add ok_add ha hb

/-! ### ints -/
theorem ok_sub : OpOk X (rI0 fun i j => .int (i - j)) opSub := by
  intro G ρ S H d e x y Wx Q s st rd re p
  cases d with
  | int a =>
    cases e with
    | int b => rw [rd.int, re.int]; exact ⟨a, b, rfl, rfl, Post.V (S := S) (d := .int (a - b)) p s st (.int _)⟩
    | _ => exact (show False from p).elim
  | _ => exact (show False from p).elim
theorem pv_sub (ha : pO X W Ω a ma) (hb : pO X W Ω b mb) : pV X W Ω (.BinOp a .Sub b pos) (eBin opSub ma mb) := pv_op op_sub ok_sub ha hb
theorem ok_mod : OpOk X (rI (fun _ j => j ≠ 0) fun i j => .int (i.fmod j)) opMod := by
  intro G ρ S H d e x y Wx Q s st rd re p
  cases d with
  | int a =>
    cases e with
    | int b =>
      rw [rd.int, re.int]
      by_cases hz : b = 0
      · simp only [opMod, if_pos hz] at p
        exact (show False from p).elim
      · simp only [opMod, if_neg hz] at p
        exact ⟨a, b, rfl, rfl, hz, Post.V (S := S) (d := .int (a.fmod b)) p s st (.int _)⟩
    | _ => exact (show False from p).elim
  | _ => exact (show False from p).elim
theorem pv_mod (ha : pO X W Ω a ma) (hb : pO X W Ω b mb) : pV X W Ω (.BinOp a .Mod b pos) (eBin opMod ma mb) := pv_op op_modN ok_mod ha hb
theorem ok_div : OpOk X (rI CDivN fun i j => .int (i.fdiv j)) opDiv := by
  intro G ρ S H d e x y Wx Q s st rd re p
  cases d with
  | int a =>
    cases e with
    | int b =>
      rw [rd.int, re.int]
      by_cases hz : b ≠ 0 ∧ b.natAbs < 1073741824
      · simp only [opDiv, if_pos hz] at p
        exact ⟨a, b, rfl, rfl, hz, Post.V (S := S) (d := .int (a.fdiv b)) p s st (.int _)⟩
      · simp only [opDiv, if_neg hz] at p
        exact (show False from p).elim
    | _ => exact (show False from p).elim
  | _ => exact (show False from p).elim
theorem pv_div (ha : pO X W Ω a ma) (hb : pO X W Ω b mb) : pV X W Ω (.BinOp a .FloorDiv b pos) (eBin opDiv ma mb) := pv_op op_fdivN ok_div ha hb
theorem ok_pow : OpOk X (rI CPow fun i j => .int (i ^ j.toNat)) opPow := by
  intro G ρ S H d e x y Wx Q s st rd re p
  cases d with
  | int a =>
    cases e with
    | int b =>
      rw [rd.int, re.int]
      by_cases hz : 0 ≤ b ∧ b ≤ 1000000 ∧ a.natAbs < 2 ^ 64
      · simp only [opPow, if_pos hz] at p
        exact ⟨a, b, rfl, rfl, hz, Post.V (S := S) (d := .int (a ^ b.toNat)) p s st (.int _)⟩
      · simp only [opPow, if_neg hz] at p
        exact (show False from p).elim
    | _ => exact (show False from p).elim
  | _ => exact (show False from p).elim
theorem pv_pow (ha : pO X W Ω a ma) (hb : pO X W Ω b mb) : pV X W Ω (.BinOp a .Pow b pos) (eBin opPow ma mb) := pv_op op_pow ok_pow ha hb
theorem ok_neg : UnOk X (rU fun i => .int (-i)) opNeg := by
  intro G ρ S H d x Wx Q s st rd p
  cases d with
  | int a => rw [rd.int]; exact ⟨a, rfl, Post.V (S := S) (d := .int (-a)) p s st (.int _)⟩
  | _ => exact (show False from p).elim
theorem pv_neg (ha : pO X W Ω a ma) : pV X W Ω (.UnaryOp .USub a pos) (eUn opNeg ma) := pv_un un_neg ok_neg ha

/-! ### * -/
theorem flat_rep {α : Type} (xs : List α) : ∀ n : Nat, (repL n xs).length = n * xs.length
  | 0 => by simp [repL]
  | n + 1 => by
    have ih := flat_rep xs n
    unfold repL at ih ⊢
    rw [List.replicate_succ, List.flatten_cons, List.length_append, ih, Nat.succ_mul, Nat.add_comm]
theorem RepL.rep {K : PySem.W.Frag} {mg : Str → Option Value} {G : Hp} {ρ : List Addr} {ds : List D} {vs : List V} (h : RepL K mg G ρ ds vs) : ∀ n : Nat, RepL K mg G ρ (repL n ds) (List.replicate n vs).flatten
  | 0 => .nil
  | n + 1 => by
    unfold repL
    rw [List.replicate_succ, List.replicate_succ, List.flatten_cons, List.flatten_cons]
    exact h.append (RepL.rep h n)
theorem rep_le {n m : Nat} (h1 : n ≤ 1000) (h2 : m ≤ 1000) : n * m ≤ sizeLine := by
  have : n * m ≤ 1000 * 1000 := Nat.mul_le_mul h1 h2
  rw [sizeLine_eq]
  omega
theorem mul_toS (a : Tx) (n : Int) : PySem.Txt.mul (toS a) n = toS (repL n.toNat a) := by
  unfold PySem.Txt.mul
  by_cases h1 : n < 1
  · rw [if_pos h1]
    have : n.toNat = 0 := by omega
    rw [this]
    rfl
  · rw [if_neg h1]
    by_cases h2 : (n == 1 || (toS a).length == 0) = true
    · rw [if_pos h2]
      rcases Bool.or_eq_true_iff.mp h2 with h | h
      · have : n.toNat = 1 := by have := beq_iff_eq.mp h; omega
        rw [this]
        show toS a = toS (repL 1 a)
        congr 1
        simp [repL]
      · have : a = [] := by
          have := beq_iff_eq.mp h
          rw [toS_length] at this
          exact List.length_eq_zero_iff.mp this
        subst this
        show toS [] = toS (repL n.toNat [])
        congr 1
        simp [repL]
    · rw [if_neg h2]
      apply PySem.Str.ext'
      show (List.replicate n.toNat (toS a).cps).foldl (· ++ ·) #[] = ((repL n.toNat a).map Char.toNat).toArray
      have f : ∀ (k : Nat) (acc : Array Nat), (List.replicate k (toS a).cps).foldl (· ++ ·) acc = acc ++ ((repL k a).map Char.toNat).toArray := by
        intro k
        induction k with
        | zero => intro acc; simp [repL]
        | succ k ih =>
          intro acc
          rw [List.replicate_succ, List.foldl_cons, ih]
          unfold repL
          rw [List.replicate_succ, List.flatten_cons, List.map_append]
          simp [toS]
      rw [f]
      simp
def rMulS : R2 := fun x y H Q => ∃ (a : Tx) (n : Int), x = .str (toS a) ∧ y = .int n ∧ n ≤ 1000 ∧ -1000 ≤ n ∧ a.length ≤ 1000 ∧ Q (.str (toS (repL n.toNat a))) H
theorem op_mulS : OpR X (binaryOp .Mult) rMulS := by
  intro pins s σ H x y v u Q I rx ry h
  obtain ⟨a, n, rfl, rfl, h1, h2, h3, q⟩ := h
  obtain ⟨t, rfl⟩ := rx
  obtain ⟨t', rfl⟩ := ry
  refine PySem.SB.mul ⟨?_, fun _ _ => ?_, fun _ _ => ?_⟩ fun t' k => ⟨.str _, H, I.tok _, ⟨_, by rw [mul_toS]⟩, q⟩
  · have e1 : decide (n < -(2 ^ 63 : Int)) = false := decide_eq_false (by omega)
    have e2 : decide (n ≥ 2 ^ 63) = false := decide_eq_false (by omega)
    rw [e1, e2]
    rfl
  · rw [toS_length]
    rename_i g1 g2
    have h4 : (a.length : Int) ≤ 1000 := by omega
    have h5 : (1000 : Int) ≤ (2 ^ 63 - 1) / n := by
      have hn : 0 < n := by omega
      exact (Int.le_ediv_iff_mul_le hn).mpr (by omega)
    omega
  · rw [toS_length]
    have hn : n.toNat ≤ 1000 := by omega
    have := rep_le (n := a.length) (m := n.toNat) h3 hn
    unfold Builtin.Str.tooLong
    rw [sizeLine_eq] at this
    exact decide_eq_false (by rw [sizeLine_eq]; omega)
def rMul4 (K : PySem.W.Frag) : R2 := fun x y H Q => rI CMul (fun i j => .int (i * j)) x y H Q ∨ rMulS x y H Q ∨ rRep x y H Q ∨ rRepT K x y H Q
theorem or_mul : OpR X (binaryOp .Mult) (rMul4 X.K) := op_mul.or (op_mulS.or (op_rep.or op_repT))
theorem ok_mul : OpOk X (rMul4 X.K) opMul := by
  intro G ρ S H d e x y Wx Q s st rd re p
  cases d with
  | int a =>
    cases e with
    | int b =>
      rw [rd.int, re.int]
      by_cases hz : (-(2 ^ 64) < a ∧ a < 2 ^ 64) ∨ (-(2 ^ 64) < b ∧ b < 2 ^ 64)
      · simp only [opMul, if_pos hz] at p
        exact .inl ⟨a, b, rfl, rfl, hz, Post.V (S := S) (d := .int (a * b)) p s st (.int _)⟩
      · simp only [opMul, if_neg hz] at p
        exact (show False from p).elim
    | _ => exact (show False from p).elim
  | str a =>
    cases e with
    | int b =>
      obtain ⟨rfl, ha⟩ := rd.str
      rw [re.int]
      by_cases hz : b ≤ 1000 ∧ -1000 ≤ b ∧ a.length ≤ 1000
      · simp only [opMul, if_pos hz] at p
        refine .inr (.inl ⟨a, b, rfl, rfl, hz.1, hz.2.1, hz.2.2, Post.V (S := S) (d := .str (repL b.toNat a)) p s st (.str _ ?_)⟩)
        rw [flat_rep]
        exact rep_le (by omega) hz.2.2
      · simp only [opMul, if_neg hz] at p
        exact (show False from p).elim
    | _ => exact (show False from p).elim
  | lst a =>
    cases e with
    | int b =>
      rw [re.int]
      by_cases hz : b ≤ 1000 ∧ -1000 ≤ b ∧ a.length ≤ 1000
      · simp only [opMul, if_pos hz] at p
        obtain ⟨pa, va, rfl, ta, ra, za⟩ := rd.lst s
        have hl := ra.length
        have hn : b.toNat ≤ 1000 := by omega
        have h5 := rep_le (n := va.length) (m := b.toNat) (by omega) hn
        refine .inr (.inr (.inl ⟨pa, b, va, rfl, rfl, ta, by omega, by omega, h5, fun q hq => Post.lst (xs := repL b.toNat a) p s st (ra.rep _) ?_ hq⟩))
        have := flat_rep va b.toNat
        unfold repL at this
        rw [this, Nat.mul_comm]
        exact h5
      · simp only [opMul, if_neg hz] at p
        exact (show False from p).elim
    | _ => exact (show False from p).elim
  | tup a =>
    cases e with
    | int b =>
      rw [re.int]
      by_cases hz : b ≤ 1000 ∧ 2 ≤ b ∧ a.length ≤ 1000 ∧ a ≠ []
      · simp only [opMul, if_pos hz] at p
        obtain ⟨pa, va, rfl, ta, _, ra, za⟩ := rd.tup s
        have hl := ra.length
        have hn : b.toNat ≤ 1000 := by omega
        have h5 := rep_le (n := va.length) (m := b.toNat) (by omega) hn
        have hv : va ≠ [] := fun z => by
          subst z
          cases ra
          exact hz.2.2.2 rfl
        refine .inr (.inr (.inr ⟨pa, b, va, rfl, rfl, ta, hv, hz.2.1, hz.1, by omega, fun q hq => Post.tup (xs := repL b.toNat a) p s st (ra.rep _) ?_ hq⟩))
        have := flat_rep va b.toNat
        unfold repL at this
        rw [this, Nat.mul_comm]
        exact h5
      · simp only [opMul, if_neg hz] at p
        exact (show False from p).elim
    | _ => exact (show False from p).elim
  | _ => exact (show False from p).elim
theorem pv_mul (ha : pO X W Ω a ma) (hb : pO X W Ω b mb) : pV X W Ω (.BinOp a .Mult b pos) (eBin opMul ma mb) := pv_op or_mul ok_mul ha hb

/-! ### == and the like -/
theorem ok_eq : OpOk X (rEqD X.K) opEq := by
  intro G ρ S H d e x y Wx Q s st rd re p
  unfold opEq at p
  by_cases hz : (d.okD && e.okD) = true
  · simp only [if_pos hz] at p
    have h' := Bool.and_eq_true_iff.mp hz
    have pd : d.plain = true := (by simpa [D.okD] using h'.1 : d.plain = true ∧ d.depth ≤ 60).1
    have pe : e.plain = true := (by simpa [D.okD] using h'.2 : e.plain = true ∧ e.depth ≤ 60).1
    refine ⟨d.toP, e.toP, rd.dp s pd, re.dp s pe, D.shaped h'.1, D.shaped h'.2, ?_⟩
    rw [D.eqv_toP d e pd pe]
    exact Post.V (S := S) (d := .bl (D.eqv d e)) p s st (.bl _)
  · simp only [if_neg hz] at p
    exact (show False from p).elim
theorem ok_ne : OpOk X (rNeD X.K) opNe := by
  intro G ρ S H d e x y Wx Q s st rd re p
  unfold opNe at p
  by_cases hz : (d.okD && e.okD) = true
  · simp only [if_pos hz] at p
    have h' := Bool.and_eq_true_iff.mp hz
    have pd : d.plain = true := (by simpa [D.okD] using h'.1 : d.plain = true ∧ d.depth ≤ 60).1
    have pe : e.plain = true := (by simpa [D.okD] using h'.2 : e.plain = true ∧ e.depth ≤ 60).1
    refine ⟨d.toP, e.toP, rd.dp s pd, re.dp s pe, D.shaped h'.1, D.shaped h'.2, ?_⟩
    rw [D.eqv_toP d e pd pe]
    exact Post.V (S := S) (d := .bl (!D.eqv d e)) p s st (.bl _)
  · simp only [if_neg hz] at p
    exact (show False from p).elim
theorem opB_ok {f : Int → Int → Bool} {g : D → D → M D} {r : R2} (hr : ∀ i j H Q, Q (.bl (f i j)) H → r (.int i) (.int j) H Q) (hi : ∀ a b, g (.int a) (.int b) = pure (.bl (f a b)))
    (hs : ∀ a b G ρ S H Wx Q, Same G H → StOk X.K X.mg G ρ S H → Post X.K X.mg (rV X.K X.mg) Wx Q G ρ H (g (.str a) (.str b) S) → r (.str (toS a)) (.str (toS b)) H Q)
    (hb : ∀ d e, (∀ a b, ¬ (d = .int a ∧ e = .int b)) → (∀ a b, ¬ (d = .str a ∧ e = .str b)) → g d e = bad) : OpOk X r g := by
  intro G ρ S H d e x y Wx Q s st rd re p
  by_cases h1 : ∃ a b, d = .int a ∧ e = .int b
  · obtain ⟨a, b, rfl, rfl⟩ := h1
    rw [rd.int, re.int]
    rw [hi] at p
    exact hr a b H Q (Post.V (S := S) (d := .bl (f a b)) p s st (.bl _))
  · by_cases h2 : ∃ a b, d = .str a ∧ e = .str b
    · obtain ⟨a, b, rfl, rfl⟩ := h2
      rw [rd.str.1, re.str.1]
      exact hs a b G ρ S H Wx Q s st p
    · rw [hb d e (fun a b z => h1 ⟨a, b, z⟩) (fun a b z => h2 ⟨a, b, z⟩)] at p
      exact (show False from p).elim
def rLt2 : R2 := fun x y H Q => rI0 (fun i j => .bl (decide (i < j))) x y H Q ∨ ∃ i j, x = .str i ∧ y = .str j ∧ Q (.bl (decide (i.cps.toList < j.cps.toList))) H
theorem or_lt : OpR X (compareOp .Lt) rLt2 := op_lt.or op_lt_str
theorem ok_lt : OpOk X rLt2 opLt := opB_ok (f := fun i j => decide (i < j)) (fun i j H Q q => .inl ⟨i, j, rfl, rfl, q⟩) (fun _ _ => rfl)
  (fun a b G ρ S H Wx Q s st p => .inr ⟨_, _, rfl, rfl, by rw [toS_list, toS_list]; exact Post.V (S := S) (d := .bl (ltT a b)) p s st (.bl _)⟩)
  (fun d e h1 h2 => by cases d <;> cases e <;> first | rfl | exact absurd ⟨rfl, rfl⟩ (h1 _ _) | exact absurd ⟨rfl, rfl⟩ (h2 _ _))
def rLe2 : R2 := fun x y H Q => rI0 (fun i j => .bl (decide (i ≤ j))) x y H Q ∨ ∃ i j, x = .str i ∧ y = .str j ∧ Q (.bl (!decide (j.cps.toList < i.cps.toList))) H
theorem or_le : OpR X (compareOp .LtE) rLe2 := op_le.or op_le_str
theorem ok_le : OpOk X rLe2 opLe := opB_ok (f := fun i j => decide (i ≤ j)) (fun i j H Q q => .inl ⟨i, j, rfl, rfl, q⟩) (fun _ _ => rfl)
  (fun a b G ρ S H Wx Q s st p => .inr ⟨_, _, rfl, rfl, by rw [toS_list, toS_list]; exact Post.V (S := S) (d := .bl (!ltT b a)) p s st (.bl _)⟩)
  (fun d e h1 h2 => by cases d <;> cases e <;> first | rfl | exact absurd ⟨rfl, rfl⟩ (h1 _ _) | exact absurd ⟨rfl, rfl⟩ (h2 _ _))
theorem ok_gt : OpOk X (rI0 fun i j => .bl (decide (j < i))) opGt := opB_ok (f := fun i j => decide (j < i)) (fun i j H Q q => ⟨i, j, rfl, rfl, q⟩) (fun _ _ => rfl) (fun a b G ρ S H Wx Q s st p => (show False from p).elim)
  (fun d e h1 h2 => by cases d <;> cases e <;> first | rfl | exact absurd ⟨rfl, rfl⟩ (h1 _ _) | exact absurd ⟨rfl, rfl⟩ (h2 _ _))
theorem ok_ge : OpOk X (rI0 fun i j => .bl (decide (j ≤ i))) opGe := opB_ok (f := fun i j => decide (j ≤ i)) (fun i j H Q q => ⟨i, j, rfl, rfl, q⟩) (fun _ _ => rfl) (fun a b G ρ S H Wx Q s st p => (show False from p).elim)
  (fun d e h1 h2 => by cases d <;> cases e <;> first | rfl | exact absurd ⟨rfl, rfl⟩ (h1 _ _) | exact absurd ⟨rfl, rfl⟩ (h2 _ _))

/-! ### is -/
theorem isNon_iff {K : PySem.W.Frag} {mg : Str → Option Value} {G H : Hp} {ρ : List Addr} {d : D} {v : V} (r : RepO K mg G ρ H d v) : decide (v = .non) = isNon d := by
  rcases r with r | ⟨a, o, rfl, h, r, _⟩
  · cases r <;> rfl
  · cases d <;> cases o <;> first | exact (show False from r).elim | rfl
def rIs2 : R2 := fun x y H Q => (y = .non ∧ Q (.bl (decide (x = .non))) H) ∨ rIsB x y H Q
def rNot2 : R2 := fun x y H Q => (y = .non ∧ Q (.bl (!decide (x = .non))) H) ∨ rNotB x y H Q
theorem or_is : OpR X (compareOp .Is) rIs2 := op_isN.or op_isBl
theorem or_isnot : OpR X (compareOp .IsNot) rNot2 := op_notN.or op_notBl
theorem ok_is : OpOk X rIs2 opIs := by
  intro G ρ S H d e x y Wx Q s st rd re p
  cases e with
  | non =>
    have hp : Post X.K X.mg (rV X.K X.mg) Wx Q G ρ H (.ok (.bl (isNon d)) S) := by cases d <;> exact p
    refine .inl ⟨re.non, ?_⟩
    rw [isNon_iff rd]
    exact Post.V hp s st (.bl _)
  | bl b =>
    cases d with
    | bl a => exact .inr ⟨a, b, rd.bl, re.bl, Post.V (S := S) (d := .bl (decide (a = b))) p s st (.bl _)⟩
    | _ => exact (show False from p).elim
  | _ => cases d <;> exact (show False from p).elim
theorem ok_isnot : OpOk X rNot2 opIsNot := by
  intro G ρ S H d e x y Wx Q s st rd re p
  cases e with
  | non =>
    have hp : Post X.K X.mg (rV X.K X.mg) Wx Q G ρ H (.ok (.bl (!isNon d)) S) := by cases d <;> exact p
    refine .inl ⟨re.non, ?_⟩
    rw [isNon_iff rd]
    exact Post.V hp s st (.bl _)
  | bl b =>
    cases d with
    | bl a => exact .inr ⟨a, b, rd.bl, re.bl, Post.V (S := S) (d := .bl (!decide (a = b))) p s st (.bl _)⟩
    | _ => exact (show False from p).elim
  | _ => cases d <;> exact (show False from p).elim

/-! ### in -/
def rIn3 (K : PySem.W.Frag) : R2 := fun x y H Q => (∃ (c : Nat) (z : Str), x = .str ⟨#[c]⟩ ∧ y = .str z ∧ Q (.bl (decide (c ∈ z.cps.toList))) H) ∨ rInD K x y H Q ∨ rIn K false x y H Q
def rNin3 (K : PySem.W.Frag) : R2 := fun x y H Q => (∃ (c : Nat) (z : Str), x = .str ⟨#[c]⟩ ∧ y = .str z ∧ Q (.bl (!decide (c ∈ z.cps.toList))) H) ∨ rNotInD K x y H Q ∨ rIn K true x y H Q
theorem or_in (hu : X.A.units + 65 < cLine) : OpR X (compareOp .In) (rIn3 X.K) := op_in_sign.or ((op_inD hu).or op_in_seq)
theorem or_nin (hu : X.A.units + 65 < cLine) : OpR X (compareOp .NotIn) (rNin3 X.K) := op_notIn_sign.or ((op_notInD hu).or op_notIn_seq)
theorem toS_mem (c : Char) (b : Tx) : decide (c.toNat ∈ (toS b).cps.toList) = decide (c ∈ b) := by
  rw [toS_list]
  congr 1
  rw [eq_iff_iff, List.mem_map]
  refine ⟨fun ⟨d, h1, h2⟩ => ?_, fun h => ⟨c, h, rfl⟩⟩
  have : d.val = c.val := UInt32.toNat_inj.mp h2
  rw [← Char.ext this]
  exact h1
theorem anyP (d : D) (hd : d.plain = true) : ∀ xs : List D, D.plainL xs = true → ((D.toPL xs).any fun z => PyData.eqv z d.toP) = dIn d xs
  | [], _ => rfl
  | x :: xs, h => by
    have h' : x.plain = true ∧ D.plainL xs = true := by simpa [D.plainL] using h
    show (PyData.eqv x.toP d.toP || (D.toPL xs).any fun z => PyData.eqv z d.toP) = (D.eqv x d || dIn d xs)
    rw [anyP d hd xs h'.2, D.eqv_toP x d h'.1 hd]
theorem flat_V {K : PySem.W.Frag} {mg : Str → Option Value} {G H : Hp} {ρ : List Addr} {d : D} {v : V} (r : Rep K mg G ρ d v) (h : d.flat = true) : flatV v = true := by
  cases r <;> first | rfl | (simp [D.flat] at h)
theorem flat_eq {K : PySem.W.Frag} {mg : Str → Option Value} {G H : Hp} {ρ : List Addr} {d e : D} {v u : V} (r : Rep K mg G ρ d v) (q : Rep K mg G ρ e u) (h : d.flat = true) (h2 : e.flat = true) : eqV v u = D.eqv d e := by
  cases r <;> cases q <;> first
    | (simp [D.flat] at h; done)
    | (simp [D.flat] at h2; done)
    | (simp only [eqV, D.eqv]; done)
    | (simp [eqV, D.eqv, toS_inj]; done)
    | (simp only [eqV, D.eqv]; rw [Bool.eq_iff_iff]; simp [toS_inj]; done)
theorem flat_all {K : PySem.W.Frag} {mg : Str → Option Value} {G H : Hp} {ρ : List Addr} : ∀ {ds : List D} {vs : List V}, RepL K mg G ρ ds vs → ds.all D.flat = true → vs.all flatV = true
  | _, _, .nil, _ => rfl
  | _, _, .cons r t, h => by
    have h' := Bool.and_eq_true_iff.mp (show (D.flat _ && List.all _ D.flat) = true from h)
    rw [List.all_cons, flat_V (H := H) r h'.1, flat_all (H := H) t h'.2]
    rfl
theorem flat_any {K : PySem.W.Frag} {mg : Str → Option Value} {G H : Hp} {ρ : List Addr} {d : D} {v : V} (q : Rep K mg G ρ d v) (hd : d.flat = true) : ∀ {ds : List D} {vs : List V}, RepL K mg G ρ ds vs → ds.all D.flat = true → inV v vs = dIn d ds
  | _, _, .nil, _ => rfl
  | _, _, .cons r t, h => by
    have h' := Bool.and_eq_true_iff.mp (show (D.flat _ && List.all _ D.flat) = true from h)
    have ih := flat_any (H := H) q hd t h'.2
    unfold inV dIn at ih ⊢
    rw [List.any_cons, List.any_cons, ih, flat_eq (H := H) r q h'.1 hd]
theorem RepO.flatV {K : PySem.W.Frag} {mg : Str → Option Value} {G H : Hp} {ρ : List Addr} {d : D} {v : V} (r : RepO K mg G ρ H d v) (h : d.flat = true) : Rep K mg G ρ d v := by
  rcases r with r | ⟨a, o, rfl, _, r, _⟩
  · exact r
  · cases d <;> cases o <;> first | exact (show False from r).elim | (simp [D.flat] at h)
theorem ok_in : OpOk X (rIn3 X.K) opIn := by
  intro G ρ S H d e x y Wx Q s st rd re p
  cases e with
  | str b =>
    cases d with
    | str cs =>
      cases cs with
      | nil => exact (show False from p).elim
      | cons c cs =>
        cases cs with
        | nil =>
          refine .inl ⟨c.toNat, toS b, rd.str.1, re.str.1, ?_⟩
          rw [toS_mem]
          exact Post.V (S := S) (d := .bl (decide (c ∈ b))) p s st (.bl _)
        | cons _ _ => exact (show False from p).elim
    | _ => exact (show False from p).elim
  | lst xs =>
    have p : Post X.K X.mg (rV X.K X.mg) Wx Q G ρ H ((if d.okD && D.okD (.lst xs) then pure (.bl (dIn d xs)) else bad : M D) S) := by
      cases d with
      | str cs => cases cs with
        | nil => exact p
        | cons c cs => cases cs <;> exact p
      | _ => exact p
    by_cases hz : (d.okD && D.okD (.lst xs)) = true
    · simp only [if_pos hz] at p
      have h' := Bool.and_eq_true_iff.mp hz
      have pd : d.plain = true := (by simpa [D.okD] using h'.1 : d.plain = true ∧ d.depth ≤ 60).1
      have pe : (D.lst xs).plain = true := (by simpa [D.okD] using h'.2 : (D.lst xs).plain = true ∧ (D.lst xs).depth ≤ 60).1
      have px : D.plainL xs = true := by simpa [D.plain] using pe
      have e1 : (D.lst xs).toP = .list (D.toPL xs) := by simp only [D.toP]
      refine .inr (.inl ⟨d.toP, D.toPL xs, rd.dp s pd, e1 ▸ re.dp s pe, D.shaped h'.1, e1 ▸ D.shaped h'.2, ?_⟩)
      rw [anyP d pd xs px]
      exact Post.V (S := S) (d := .bl (dIn d xs)) p s st (.bl _)
    · simp only [if_neg hz] at p
      exact (show False from p).elim
  | tup xs =>
    have p : Post X.K X.mg (rV X.K X.mg) Wx Q G ρ H ((if d.flat && xs.all D.flat then pure (.bl (dIn d xs)) else bad : M D) S) := by
      cases d with
      | str cs => cases cs with
        | nil => exact p
        | cons c cs => cases cs <;> exact p
      | _ => exact p
    by_cases hz : (d.flat && xs.all D.flat) = true
    · simp only [if_pos hz] at p
      have h' := Bool.and_eq_true_iff.mp hz
      obtain ⟨q, vs, rfl, t1, _, r, _⟩ := re.tup s
      have rd' := rd.flatV h'.1
      refine .inr (.inr ⟨q, vs, rfl, .inr t1, flat_V (H := H) rd' h'.1, flat_all (H := H) r h'.2, ?_⟩)
      show Q (.bl (inV x vs)) H
      rw [flat_any (H := H) rd' h'.1 r h'.2]
      exact Post.V (S := S) (d := .bl (dIn d xs)) p s st (.bl _)
    · simp only [if_neg hz] at p
      exact (show False from p).elim
  | _ =>
    cases d with
    | str cs => cases cs with
      | nil => exact (show False from p).elim
      | cons c cs => cases cs <;> exact (show False from p).elim
    | _ => exact (show False from p).elim
theorem ok_nin : OpOk X (rNin3 X.K) opNotIn := by
  intro G ρ S H d e x y Wx Q s st rd re p
  cases e with
  | str b =>
    cases d with
    | str cs =>
      cases cs with
      | nil => exact (show False from p).elim
      | cons c cs =>
        cases cs with
        | nil =>
          refine .inl ⟨c.toNat, toS b, rd.str.1, re.str.1, ?_⟩
          rw [toS_mem]
          exact Post.V (S := S) (d := .bl (!decide (c ∈ b))) p s st (.bl _)
        | cons _ _ => exact (show False from p).elim
    | _ => exact (show False from p).elim
  | lst xs =>
    have p : Post X.K X.mg (rV X.K X.mg) Wx Q G ρ H ((if d.okD && D.okD (.lst xs) then pure (.bl (!dIn d xs)) else bad : M D) S) := by
      cases d with
      | str cs => cases cs with
        | nil => exact p
        | cons c cs => cases cs <;> exact p
      | _ => exact p
    by_cases hz : (d.okD && D.okD (.lst xs)) = true
    · simp only [if_pos hz] at p
      have h' := Bool.and_eq_true_iff.mp hz
      have pd : d.plain = true := (by simpa [D.okD] using h'.1 : d.plain = true ∧ d.depth ≤ 60).1
      have pe : (D.lst xs).plain = true := (by simpa [D.okD] using h'.2 : (D.lst xs).plain = true ∧ (D.lst xs).depth ≤ 60).1
      have px : D.plainL xs = true := by simpa [D.plain] using pe
      have e1 : (D.lst xs).toP = .list (D.toPL xs) := by simp only [D.toP]
      refine .inr (.inl ⟨d.toP, D.toPL xs, rd.dp s pd, e1 ▸ re.dp s pe, D.shaped h'.1, e1 ▸ D.shaped h'.2, ?_⟩)
      rw [anyP d pd xs px]
      exact Post.V (S := S) (d := .bl (!dIn d xs)) p s st (.bl _)
    · simp only [if_neg hz] at p
      exact (show False from p).elim
  | tup xs =>
    have p : Post X.K X.mg (rV X.K X.mg) Wx Q G ρ H ((if d.flat && xs.all D.flat then pure (.bl (!dIn d xs)) else bad : M D) S) := by
      cases d with
      | str cs => cases cs with
        | nil => exact p
        | cons c cs => cases cs <;> exact p
      | _ => exact p
    by_cases hz : (d.flat && xs.all D.flat) = true
    · simp only [if_pos hz] at p
      have h' := Bool.and_eq_true_iff.mp hz
      obtain ⟨q, vs, rfl, t1, _, r, _⟩ := re.tup s
      have rd' := rd.flatV h'.1
      refine .inr (.inr ⟨q, vs, rfl, .inr t1, flat_V (H := H) rd' h'.1, flat_all (H := H) r h'.2, ?_⟩)
      show Q (.bl (!inV x vs)) H
      rw [flat_any (H := H) rd' h'.1 r h'.2]
      exact Post.V (S := S) (d := .bl (!dIn d xs)) p s st (.bl _)
    · simp only [if_neg hz] at p
      exact (show False from p).elim
  | _ =>
    cases d with
    | str cs => cases cs with
      | nil => exact (show False from p).elim
      | cons c cs => cases cs <;> exact (show False from p).elim
    | _ => exact (show False from p).elim
end
end Mr
/-! The mirror layer, 5: subscripts, slices, chains, and, or, not, tests, displays. -/
namespace Mr
open PySem PySem.Spec PyProof.Rows L2
section
variable {α β γ δ : Type} {K : PySem.W.Frag} {mg : Str → Option Value} {G G' H H' H1 : Hp} {ρ ρ' ρ1 : List Addr} {S : Store}
/-- a part that is no expression -/
theorem Post.sub {R : Rl α β} {R2 : Rl γ δ} {Wx : XK} {m : M α} {k : α → M γ} {Q : δ → Hp → Prop} {C : β → Hp → Prop} (post : Post K mg R2 Wx Q G ρ H ((m >>= k) S))
    (c : ∀ G1 ρ1 S1 H1 a b, Same G1 H1 → Grow G ρ H G1 ρ1 H1 → StOk K mg G1 ρ1 S1 H1 → R.r H G1 ρ1 H1 a b → Post K mg R2 Wx Q G1 ρ1 H1 (k a S1) → C b H1) : Post K mg R Wx C G ρ H (m S) := by
  rw [bind_app] at post
  cases e : m S with
  | ok a S1 =>
    rw [e] at post
    exact fun G1 ρ1 H1 b s g st rl => c G1 ρ1 S1 H1 a b s g st rl (Post.grow g post)
  | exc x S1 =>
    rw [e] at post
    exact post
  | bad =>
    rw [e] at post
    exact post
end
section
variable {X : Cx} {W : WX} {Ω : List Nat} {a b c e : Expr} {es rest : List Expr} {ma mb mc : EM} {ml : LM} {pos : Pos} {x : Str} {K : PySem.W.Frag} {mg : Str → Option Value} {G G' H H' H1 : Hp} {ρ ρ' ρ1 : List Addr} {S : Store}

/-! ### subscripts -/
theorem RepL.atI {ds : List D} {vs : List V} {i : Int} {d : D} (r : RepL K mg G ρ ds vs) (h : atI ds i = some d) : ∃ v, L2.atI vs i = some v ∧ Rep K mg G ρ d v := by
  unfold L2.atI at h ⊢
  rw [← r.length]
  cases q : ixN ds.length i with
  | none => rw [q] at h; cases h
  | some j =>
    rw [q] at h
    exact r.at (show ds[j]? = some d from h)
theorem toS_at {s : Tx} {i : Int} {c : Char} (h : atI s i = some c) : atI (toS s).cps.toList i = some c.toNat := by
  rw [toS_list]
  unfold L2.atI at h ⊢
  rw [List.length_map]
  cases q : ixN s.length i with
  | none => rw [q] at h; cases h
  | some j =>
    rw [q] at h
    have h : s[j]? = some c := h
    show (s.map Char.toNat)[j]? = some c.toNat
    rw [List.getElem?_map, h]
    rfl
theorem ok_ix : OpOk X (rIx X.K) opIx := by
  intro G ρ S H d e x y Wx Q s st rd re p
  cases e with
  | int i =>
    rw [re.int]
    cases d with
    | lst xs =>
      obtain ⟨q, vs, rfl, h1, r, z⟩ := rd.lst s
      have p : Post X.K X.mg (rV X.K X.mg) Wx Q G ρ H (ofO (atI xs i) S) := p
      cases h : atI xs i with
      | none => rw [h] at p; exact (show False from p).elim
      | some u =>
        rw [h] at p
        obtain ⟨v, h2, h3⟩ := r.atI h
        exact .inl ⟨q, vs, i, v, rfl, rfl, SqL.of h1, h2, Post.V (S := S) (d := u) p s st h3⟩
    | tup xs =>
      obtain ⟨q, vs, rfl, h1, _, r, z⟩ := rd.tup s
      have p : Post X.K X.mg (rV X.K X.mg) Wx Q G ρ H (ofO (atI xs i) S) := p
      cases h : atI xs i with
      | none => rw [h] at p; exact (show False from p).elim
      | some u =>
        rw [h] at p
        obtain ⟨v, h2, h3⟩ := r.atI h
        exact .inr (.inl ⟨q, vs, i, v, rfl, rfl, h1, h2, Post.V (S := S) (d := u) p s st h3⟩)
    | str cs =>
      have p : Post X.K X.mg (rV X.K X.mg) Wx Q G ρ H (ofO ((atI cs i).map fun c => D.str [c]) S) := p
      obtain ⟨rfl, hz⟩ := rd.str
      cases h : atI cs i with
      | none => rw [h] at p; exact (show False from p).elim
      | some c =>
        rw [h] at p
        exact .inr (.inr ⟨toS cs, i, c.toNat, rfl, rfl, by rw [toS_length]; exact hz, toS_at h, Post.V (S := S) (d := .str [c]) p s st (.str [c] (by show 1 ≤ sizeLine; decide))⟩)
    | ref n =>
      have p : Post X.K X.mg (rV X.K X.mg) Wx Q G ρ H (ofO (ixS i n S) S) := p
      have rd : Rep X.K X.mg G ρ (.ref n) x := by
        rcases rd with rd | ⟨a, o, rfl, _, r, _⟩
        · exact rd
        · cases o <;> exact (show False from r).elim
      cases rd with
      | ref hn =>
        unfold ixS at p
        cases q : S[n]? with
        | none => rw [q] at p; exact (show False from p).elim
        | some so =>
          rw [q] at p
          cases so with
          | lst xs =>
            obtain ⟨vs, h1, r⟩ := st.obj _ _ _ hn q
            have p : Post X.K X.mg (rV X.K X.mg) Wx Q G ρ H (ofO (atI xs i) S) := p
            cases h : atI xs i with
            | none => rw [h] at p; exact (show False from p).elim
            | some u =>
              rw [h] at p
              obtain ⟨v, h2, h3⟩ := r.atI h
              exact .inl ⟨_, vs, i, v, rfl, rfl, SqL.of h1, h2, Post.V (S := S) (d := u) p s st h3⟩
          | ins _ _ => exact (show False from p).elim
    | _ => exact (show False from p).elim
  | _ => cases d <;> exact (show False from p).elim
theorem pv_ix (ha : pO X W Ω a ma) (hb : pO X W Ω b mb) (hs : PlainIx b := by intro _ _; rfl) : pV X W Ω (.Subscript a b pos) (eBin opIx ma mb) := pe_imp (pe_ix ix_seq ha hb hs) fun _ _ _ h => tOp_of ok_ix h

/-! ### slices -/
def rOp : Rl (Option Int) (Option Int) := ⟨fun _ _ _ _ a b => a = b, fun _ h => h⟩
abbrev PM := Ev → M (Option Int)
def pNo : PM := fun _ => pure none
def asI : D → M (Option Int)
  | .int i => pure (some i)
  | _ => bad
def pSome (m : EM) : PM := fun env => m env >>= asI
abbrev pP (X : Cx) (W : WX) (Ω : List Nat) (o : Option Expr) (m : PM) : Prop := PO X o (tG X.K X.mg rOp W Ω m)
theorem po_imp {o : Option Expr} {t t' : TO} (h : PO X o t) (i : ∀ σ H Q, t' σ H Q → t σ H Q) : PO X o t' := ⟨fun pins s σ H Q I q => h.run pins s σ H Q I (i σ H Q q)⟩
theorem pp_no : pP X W Ω none pNo := po_imp po_none fun σ H Q ⟨G, ρ, S, env, at_, p⟩ => Post.done (S := S) (a := (none : Option Int)) p at_.sub at_.st rfl
theorem pp_some (h : pO X W Ω e ma) : pP X W Ω (some e) (pSome ma) := po_imp (po_some h) fun σ H Q h => tG.thn (k := fun d _ => asI d) h fun G1 ρ1 S1 env H1 d v at1 r1 p1 => by
  cases d with
  | int i =>
    refine ⟨i, r1.int, ?_⟩
    exact Post.done (S := S1) (a := some i) p1 at1.sub at1.st rfl
  | _ => exact (show False from p1).elim
def eSl (a : EM) (lo hi : PM) : EM := fun env => a env >>= fun x => lo env >>= fun l => hi env >>= fun h => opSl x l h
theorem RepL.cut {ds : List D} {vs : List V} (r : RepL K mg G ρ ds vs) (lo hi : Option Int) : RepL K mg G ρ (cutL ds lo hi) (cutV vs lo hi) := by
  unfold cutL cutV
  rw [r.length]
  exact (r.drop _).take _
theorem cut_whole {α : Type} {xs : List α} {lo hi : Option Int} (h1 : HT.sIx xs.length 0 lo = 0) (h2 : HT.sIx xs.length xs.length hi = xs.length) : cutL xs lo hi = xs := by
  unfold cutL
  rw [h1, h2]
  simp
theorem cut_str (s : Tx) (lo hi : Option Int) : cutS (toS s) lo hi = toS (cutL s lo hi) := by
  apply PySem.Str.ext'
  unfold cutS cutL
  show (_ : List Nat).toArray = _
  rw [toS_list, toS_length]
  simp [toS, List.map_drop, List.map_take]
theorem cutL_length {α : Type} (xs : List α) (lo hi : Option Int) : (cutL xs lo hi).length ≤ xs.length := by
  unfold cutL
  rw [List.length_take, List.length_drop]
  omega
def rSl3 (K : PySem.W.Frag) : V → Option Int → Option Int → Hp → VK → Prop := fun x lo hi H Q => rSlL K x lo hi H Q ∨ rSlA K x lo hi H Q ∨ rSlS x lo hi H Q
theorem sl_3 : SlR X (rSl3 X.K) := sl_list.or (sl_tupA.or sl_str)
theorem pv_sl {lo hi : Option Expr} {p2 : Pos} {ml mh : PM} (ha : pO X W Ω a ma) (hl : pP X W Ω lo ml) (hh : pP X W Ω hi mh) : pV X W Ω (.Subscript a (.Slice lo hi none p2) pos) (eSl ma ml mh) :=
  pe_imp (pe_slice sl_3 ha hl hh) fun σ H Q h => tG.thn (k := fun x env => ml env >>= fun l => mh env >>= fun u => opSl x l u) h fun G1 ρ1 S1 env H1 d v at1 r1 p1 =>
    Post.thn (m := ml) (k := fun l => mh env >>= fun u => opSl d l u) at1 p1 fun G2 ρ2 S2 H2 l l' g2 at2 r2 p2 => Post.thn (m := mh) (k := fun u => opSl d l u) at2 p2 fun G3 ρ3 S3 H3 u u' g3 at3 r3 p3 => by
      have r1 := (r1.grow g2).grow g3
      cases (show l = l' from r2)
      cases (show u = u' from r3)
      cases d with
      | lst xs =>
        obtain ⟨q, vs, rfl, h1, r, z⟩ := r1.lst at3.sub
        exact .inl ⟨q, vs, rfl, SqL.of h1, fun p hp => Post.lst (S := S3) (xs := cutL xs l u) p3 at3.sub at3.st (r.cut l u) (Nat.le_trans (cutV_length _ _ _) z) hp⟩
      | tup xs =>
        obtain ⟨q, vs, rfl, h1, h0, r, z⟩ := r1.tup at3.sub
        refine .inr (.inl ⟨q, vs, rfl, h1, fun ⟨e1, e2⟩ => ?_, fun _ p hp => Post.tup (S := S3) (xs := cutL xs l u) p3 at3.sub at3.st (r.cut l u) (Nat.le_trans (cutV_length _ _ _) z) hp⟩)
        have e : cutL xs l u = xs := by
          rw [← r.length] at e1 e2
          exact cut_whole e1 e2
        have p3 : Post X.K X.mg (rV X.K X.mg) (fun c d H => W c d σ H) Q G3 ρ3 H3 (.ok (.tup (cutL xs l u)) S3) := p3
        rw [e] at p3
        exact Post.V p3 at3.sub at3.st (.tup h0 z r)
      | str cs =>
        obtain ⟨rfl, hz⟩ := r1.str
        refine .inr (.inr ⟨toS cs, rfl, by rw [toS_length]; exact hz, ?_⟩)
        rw [cut_str]
        exact Post.V (S := S3) (d := .str (cutL cs l u)) p3 at3.sub at3.st (.str _ (Nat.le_trans (cutL_length _ _ _) hz))
      | _ => exact (show False from p3).elim
/-- xs[::-1] -/
def opRev : D → M D
  | .lst xs => pure (.lst xs.reverse)
  | _ => bad
theorem pv_rev {k : Nat} {p1 p2 p3 : Pos} (ha : pO X W Ω a ma) : pV X W Ω (.Subscript a (.Slice none none (some (.UnaryOp .USub (.Constant (.int 1) k p1) p2)) p3) pos) (eUn opRev ma) :=
  pe_imp (pe_revL ha) fun σ H Q h => tG.thn (k := fun x _ => opRev x) h fun G1 ρ1 S1 env H1 d v at1 r1 q1 => by
    cases d with
    | lst xs =>
      obtain ⟨q, vs, rfl, h1, r, z⟩ := r1.lst at1.sub
      exact ⟨q, vs, rfl, SqL.of h1, fun p hp => Post.lst (S := S1) (xs := xs.reverse) q1 at1.sub at1.st r.reverse (by rw [List.length_reverse]; exact z) hp⟩
    | _ => exact (show False from q1).elim

/-! ### comparisons of two, of three -/
theorem pv_eq (hu : X.A.units + 64 < cLine) (ha : pO X W Ω a ma) (hb : pO X W Ω b mb) : pV X W Ω (.Compare a [.Eq] [b] pos) (eBin opEq ma mb) := pv_cmp (op_eqD hu) ok_eq ha hb (nomark _)
theorem pv_ne (hu : X.A.units + 64 < cLine) (ha : pO X W Ω a ma) (hb : pO X W Ω b mb) : pV X W Ω (.Compare a [.NotEq] [b] pos) (eBin opNe ma mb) := pv_cmp (op_neD hu) ok_ne ha hb (nomark _)
/-- a comparison's rule and its mirror, for any form -/
structure CmpOk (X : Cx) (o : CmpOp) (op : D → D → M D) : Prop where
  ex : ∃ r : R2, OpR X (compareOp o) r ∧ OpOk X r op
theorem c_eq (hu : X.A.units + 64 < cLine) : CmpOk X .Eq opEq := ⟨⟨_, op_eqD hu, ok_eq⟩⟩
theorem c_ne (hu : X.A.units + 64 < cLine) : CmpOk X .NotEq opNe := ⟨⟨_, op_neD hu, ok_ne⟩⟩
theorem c_lt : CmpOk X .Lt opLt := ⟨⟨_, or_lt, ok_lt⟩⟩
theorem c_le : CmpOk X .LtE opLe := ⟨⟨_, or_le, ok_le⟩⟩
theorem c_gt : CmpOk X .Gt opGt := ⟨⟨_, op_gt, ok_gt⟩⟩
theorem c_ge : CmpOk X .GtE opGe := ⟨⟨_, op_ge, ok_ge⟩⟩
theorem c_is : CmpOk X .Is opIs := ⟨⟨_, or_is, ok_is⟩⟩
theorem c_isnot : CmpOk X .IsNot opIsNot := ⟨⟨_, or_isnot, ok_isnot⟩⟩
theorem c_in (hu : X.A.units + 65 < cLine) : CmpOk X .In opIn := ⟨⟨_, or_in hu, ok_in⟩⟩
theorem c_nin (hu : X.A.units + 65 < cLine) : CmpOk X .NotIn opNotIn := ⟨⟨_, or_nin hu, ok_nin⟩⟩
theorem pv_c1 {o : CmpOp} {op : D → D → M D} (h : CmpOk X o op) (ha : pO X W Ω a ma) (hb : pO X W Ω b mb) (hm : behindInMarks o b = false) : pV X W Ω (.Compare a [o] [b] pos) (eBin op ma mb) := by
  obtain ⟨r, h1, h2⟩ := h.ex
  exact pv_cmp h1 h2 ha hb hm
def tBin (op : D → D → M D) (a b : EM) : TM := fun env => a env >>= fun x => b env >>= fun y => op x y >>= unB
theorem unB_post {Wx : XK} {Q : Bool → Hp → Prop} {d : D} {v : V} (p : Post K mg rB Wx Q G ρ H (unB d S)) (s : Same G H) (st : StOk K mg G ρ S H) (r : Rep K mg G ρ d v) : ∃ k, v = .bl k ∧ Q k H := by
  cases d with
  | bl k => cases r; exact ⟨k, rfl, Post.done (S := S) (a := k) p s st rfl⟩
  | _ => exact (show False from p).elim
theorem pt_c1 {o : CmpOp} {op : D → D → M D} (h : CmpOk X o op) (ha : pO X W Ω a ma) (hb : pO X W Ω b mb) (hm : behindInMarks o b = false) : pT X W Ω (.Compare a [o] [b] pos) (tBin op ma mb) := by
  obtain ⟨r, h1, h2⟩ := h.ex
  refine pt_imp (pt_cmpR h1 ha hb hm) fun σ H Q h => ?_
  exact tG.thn (k := fun x env => mb env >>= fun y => op x y >>= unB) h fun G1 ρ1 S1 env H1 d v at1 r1 p1 => p1.thn at1 fun G2 ρ2 S2 H2 e w g at2 r2 p2 =>
    h2 G2 ρ2 S2 H2 d e v w _ _ at2.sub at2.st (RepO.grow r1 g) r2 (Post.sub p2 fun G3 ρ3 S3 H3 z u s3 g3 st3 r3 p3 => unB_post p3 s3 st3 r3)
/-- a op1 b op2 c -/
def eChain (op op' : D → D → M D) (a b c : EM) : EM := fun env => a env >>= fun x => b env >>= fun y => op x y >>= unB >>= fun k => if k then c env >>= fun z => op' y z else pure (.bl false)
def tChn (op op' : D → D → M D) (a b c : EM) : TM := fun env => a env >>= fun x => b env >>= fun y => op x y >>= unB >>= fun k => if k then c env >>= fun z => op' y z >>= unB else pure false
theorem At.of {env : Ev} {σ : L2.St} (x : At K mg Ω G ρ env S σ H) {S' : Store} (s : Same G' H') (g : Grow G ρ H G' ρ' H') (st : StOk K mg G' ρ' S' H') : At K mg Ω G' ρ' env S' σ H' := x.grow g s st
theorem pv_chain {o o' : CmpOp} {op op' : D → D → M D} (h : CmpOk X o op) (h' : CmpOk X o' op') (ha : pO X W Ω a ma) (hb : pO X W Ω b mb) (hc : pO X W Ω c mc) (hm : lastMarks [o, o'] [b, c] = false := by with_unfolding_all rfl) :
    pV X W Ω (.Compare a [o, o'] [b, c] pos) (eChain op op' ma mb mc) := by
  obtain ⟨r, h1, h2⟩ := h.ex
  obtain ⟨r', h1', h2'⟩ := h'.ex
  refine pe_imp (pe_chain h1 h1' ha hb hc hm) fun σ H Q h => ?_
  refine tG.thn (k := fun x env => mb env >>= fun y => op x y >>= unB >>= fun k => if k then mc env >>= fun z => op' y z else pure (.bl false)) h fun G1 ρ1 S1 env H1 d v at1 r1 p1 => p1.thn at1 fun G2 ρ2 S2 H2 e w g at2 r2 p2 => ?_
  have p2' : Post X.K X.mg (rV X.K X.mg) (fun c d H => W c d σ H) Q G2 ρ2 H2 ((op d e >>= fun z => unB z >>= fun k => if k then mc env >>= fun z => op' e z else pure (.bl false)) S2) := by rw [← bind_assocM]; exact p2
  refine h2 G2 ρ2 S2 H2 d e v w _ _ at2.sub at2.st (RepO.grow r1 g) r2 (Post.sub p2' fun G3 ρ3 S3 H3 z u s3 g3 st3 r3 p3 => ?_)
  cases z with
  | bl k =>
    cases (show Rep X.K X.mg G3 ρ3 (.bl k) u from r3)
    refine ⟨k, rfl, ?_⟩
    cases k with
    | true =>
      rw [if_pos rfl]
      have p3 : Post X.K X.mg (rV X.K X.mg) (fun c d H => W c d σ H) Q G3 ρ3 H3 ((mc env >>= fun z => op' e z) S3) := p3
      exact p3.thn (at2.grow g3 s3 st3) fun G4 ρ4 S4 H4 z w' g4 at4 r4 p4 => h2' G4 ρ4 S4 H4 e z w w' _ Q at4.sub at4.st (RepO.grow (RepO.grow r2 g3) g4) r4 p4
    | false =>
      rw [if_neg Bool.false_ne_true]
      exact Post.V (S := S3) (d := .bl false) p3 s3 st3 (.bl false)
  | _ => exact (show False from p3).elim
theorem pt_chain' {o o' : CmpOp} {op op' : D → D → M D} (h : CmpOk X o op) (h' : CmpOk X o' op') (ha : pO X W Ω a ma) (hb : pO X W Ω b mb) (hc : pO X W Ω c mc) (hm : lastMarks [o, o'] [b, c] = false := by with_unfolding_all rfl) :
    pT X W Ω (.Compare a [o, o'] [b, c] pos) (tChn op op' ma mb mc) := by
  obtain ⟨r, h1, h2⟩ := h.ex
  obtain ⟨r', h1', h2'⟩ := h'.ex
  refine pt_imp (pt_chain h1 h1' ha hb hc hm) fun σ H Q h => ?_
  refine tG.thn (k := fun x env => mb env >>= fun y => op x y >>= unB >>= fun k => if k then mc env >>= fun z => op' y z >>= unB else pure false) h fun G1 ρ1 S1 env H1 d v at1 r1 p1 => p1.thn at1 fun G2 ρ2 S2 H2 e w g at2 r2 p2 => ?_
  have p2' : Post X.K X.mg rB (fun c d H => W c d σ H) Q G2 ρ2 H2 ((op d e >>= fun z => unB z >>= fun k => if k then mc env >>= fun z => op' e z >>= unB else pure false) S2) := by rw [← bind_assocM]; exact p2
  refine h2 G2 ρ2 S2 H2 d e v w _ _ at2.sub at2.st (RepO.grow r1 g) r2 (Post.sub p2' fun G3 ρ3 S3 H3 z u s3 g3 st3 r3 p3 => ?_)
  cases z with
  | bl k =>
    cases (show Rep X.K X.mg G3 ρ3 (.bl k) u from r3)
    refine ⟨k, rfl, ?_⟩
    cases k with
    | true =>
      rw [if_pos rfl]
      have p3 : Post X.K X.mg rB (fun c d H => W c d σ H) Q G3 ρ3 H3 ((mc env >>= fun z => op' e z >>= unB) S3) := p3
      exact p3.thn (at2.grow g3 s3 st3) fun G4 ρ4 S4 H4 z w' g4 at4 r4 p4 => h2' G4 ρ4 S4 H4 e z w w' _ _ at4.sub at4.st (RepO.grow (RepO.grow r2 g3) g4) r4 (Post.sub p4 fun G5 ρ5 S5 H5 z5 u5 s5 g5 st5 r5 p5 => unB_post p5 s5 st5 r5)
    | false =>
      rw [if_neg Bool.false_ne_true]
      exact ⟨false, rfl, Post.done (S := S3) (a := false) p3 s3 st3 rfl⟩
  | _ => exact (show False from p3).elim

/-! ### truth; and, or, not -/
theorem RepO.tru {d : D} {v : V} {k : Bool} (r : RepO K mg G ρ H d v) (s : Same G H) (h : truD d = some k) : TruV K v H k := by
  cases d with
  | non => rw [r.non]; cases h; rfl
  | bl b => rw [r.bl]; cases h; rfl
  | int i => rw [r.int]; cases h; rfl
  | str t =>
    obtain ⟨rfl, hz⟩ := r.str
    cases h
    refine ⟨by rw [toS_length]; exact hz, ?_⟩
    rw [toS_length]
    cases t <;> simp
    omega
  | tup xs =>
    obtain ⟨q, vs, rfl, h1, _, r, z⟩ := r.tup s
    cases h
    refine .inr (.inl ⟨vs, h1, ?_⟩)
    cases r <;> rfl
  | lst xs =>
    obtain ⟨q, vs, rfl, h1, r, z⟩ := r.lst s
    cases h
    refine .inl ⟨vs, SqL.of h1, ?_⟩
    cases r <;> rfl
  | _ => cases h
theorem tru_post {α β : Type} {R : Rl α β} {Wx : XK} {Q : β → Hp → Prop} {d : D} {k : Bool → M α} (p : Post K mg R Wx Q G ρ H ((tru d >>= k) S)) : ∃ b, truD d = some b ∧ Post K mg R Wx Q G ρ H (k b S) := by
  unfold tru at p
  cases h : truD d with
  | none => rw [h] at p; exact (show False from p).elim
  | some b => rw [h] at p; exact ⟨b, rfl, p⟩
def tVal (m : EM) : TM := fun env => m env >>= tru
theorem pt_val' (ha : pO X W Ω a ma) (he : ∀ whole, isTrue a X.env whole = (do let v ← whole; standAt a.pos; holding [v] (truthy v)) := by intro _; rfl) : pT X W Ω a (tVal ma) :=
  pt_imp (pt_truth ha he) fun σ H Q h => tG.thn (k := fun x _ => tru x) h fun G1 ρ1 S1 env H1 d v at1 r1 p1 => by
    have p1 : Post X.K X.mg rB (fun c d H => W c d σ H) Q G1 ρ1 H1 ((tru d >>= fun b => pure b) S1) := by rw [bind_pureM]; exact p1
    obtain ⟨b, h1, p1⟩ := tru_post p1
    exact ⟨b, RepO.tru r1 at1.sub h1, Post.done (S := S1) (a := b) p1 at1.sub at1.st rfl⟩
abbrev pW (X : Cx) (W : WX) (Ω : List Nat) (e : Expr) (m : TM) : Prop := PW X e (tG X.K X.mg rB W Ω m)
variable {ta tb tc : TM}
def tAnd' (a b : TM) : TM := fun env => a env >>= fun k => if k then b env else pure false
def tOr' (a b : TM) : TM := fun env => a env >>= fun k => if k then pure true else b env
def tNot' (a : TM) : TM := fun env => a env >>= fun k => pure (!k)
theorem pw_a1 (ha : pT X W Ω a ta) : pW X W Ω (.BoolOp .And [a] pos) ta := pw_and1 ha
theorem pw_o1 (ha : pT X W Ω a ta) : pW X W Ω (.BoolOp .Or [a] pos) ta := pw_or1 ha
theorem pw_a (ha : pT X W Ω a ta) (hb : pW X W Ω (.BoolOp .And (b :: rest) pos) tb) : pW X W Ω (.BoolOp .And (a :: b :: rest) pos) (tAnd' ta tb) :=
  pw_imp (pw_and ha hb) fun σ H Q h => tG.thn (k := fun k env => if k then tb env else pure false) h fun G1 ρ1 S1 env H1 d v at1 r1 p1 => by
    cases (show d = v from r1)
    cases d with
    | true => rw [if_pos rfl]; exact ⟨G1, ρ1, S1, env, at1, p1⟩
    | false => rw [if_neg Bool.false_ne_true]; exact Post.done (S := S1) (a := false) p1 at1.sub at1.st rfl
theorem pw_o (ha : pT X W Ω a ta) (hb : pW X W Ω (.BoolOp .Or (b :: rest) pos) tb) : pW X W Ω (.BoolOp .Or (a :: b :: rest) pos) (tOr' ta tb) :=
  pw_imp (pw_or ha hb) fun σ H Q h => tG.thn (k := fun k env => if k then pure true else tb env) h fun G1 ρ1 S1 env H1 d v at1 r1 p1 => by
    cases (show d = v from r1)
    cases d with
    | true => rw [if_pos rfl]; exact Post.done (S := S1) (a := true) p1 at1.sub at1.st rfl
    | false => rw [if_neg Bool.false_ne_true]; exact ⟨G1, ρ1, S1, env, at1, p1⟩
theorem pt_w (h : pW X W Ω e ta) : pT X W Ω e ta := h.pt
theorem pt_no (ha : pT X W Ω a ta) : pT X W Ω (.UnaryOp .Not a pos) (tNot' ta) :=
  pt_imp (pt_not ha) fun σ H Q h => tG.thn (k := fun k _ => pure (!k)) h fun G1 ρ1 S1 env H1 d v at1 r1 p1 => by
    cases (show d = v from r1)
    exact Post.done (S := S1) (a := !d) p1 at1.sub at1.st rfl
/-- as values -/
def eAnd (a b : EM) : EM := fun env => a env >>= fun x => tru x >>= fun k => if k then b env else pure x
def eOr (a b : EM) : EM := fun env => a env >>= fun x => tru x >>= fun k => if k then pure x else b env
def eNot (a : EM) : EM := fun env => a env >>= fun x => tru x >>= fun k => pure (D.bl (!k))
theorem pv_b1 {op} (ha : pV X W Ω a ma) : pV X W Ω (.BoolOp op [a] pos) ma := pe_one ha
theorem pv_and (ha : pV X W Ω a ma) (hb : pV X W Ω (.BoolOp .And (b :: rest) pos) mb) : pV X W Ω (.BoolOp .And (a :: b :: rest) pos) (eAnd ma mb) :=
  pe_imp (pe_andT ha hb) fun σ H Q h => tG.thn (k := fun x env => tru x >>= fun k => if k then mb env else pure x) h fun G1 ρ1 S1 env H1 d v at1 r1 p1 => by
    obtain ⟨b, h1, p1⟩ := tru_post p1
    refine ⟨b, RepO.tru (.inl r1) at1.sub h1, ?_⟩
    cases b with
    | true => rw [if_pos rfl]; exact ⟨G1, ρ1, S1, env, at1, p1⟩
    | false => rw [if_neg Bool.false_ne_true]; exact Post.V (S := S1) (d := d) p1 at1.sub at1.st r1
theorem pv_or (ha : pV X W Ω a ma) (hb : pV X W Ω (.BoolOp .Or (b :: rest) pos) mb) : pV X W Ω (.BoolOp .Or (a :: b :: rest) pos) (eOr ma mb) :=
  pe_imp (pe_orT ha hb) fun σ H Q h => tG.thn (k := fun x env => tru x >>= fun k => if k then pure x else mb env) h fun G1 ρ1 S1 env H1 d v at1 r1 p1 => by
    obtain ⟨b, h1, p1⟩ := tru_post p1
    refine ⟨b, RepO.tru (.inl r1) at1.sub h1, ?_⟩
    cases b with
    | true => rw [if_pos rfl]; exact Post.V (S := S1) (d := d) p1 at1.sub at1.st r1
    | false => rw [if_neg Bool.false_ne_true]; exact ⟨G1, ρ1, S1, env, at1, p1⟩
theorem pv_not (ha : pO X W Ω a ma) : pV X W Ω (.UnaryOp .Not a pos) (eNot ma) :=
  pe_imp (pe_notT ha) fun σ H Q h => tG.thn (k := fun x _ => tru x >>= fun k => pure (D.bl (!k))) h fun G1 ρ1 S1 env H1 d v at1 r1 p1 => by
    obtain ⟨b, h1, p1⟩ := tru_post p1
    exact ⟨b, RepO.tru r1 at1.sub h1, Post.V (S := S1) (d := .bl (!b)) p1 at1.sub at1.st (.bl _)⟩
/-- a if t else b -/
def eIf (t : TM) (a b : EM) : EM := fun env => t env >>= fun k => if k then a env else b env
theorem pv_if (hc : pT X W Ω c tc) (ha : pV X W Ω a ma) (hb : pV X W Ω b mb) : pV X W Ω (.IfExp c a b pos) (eIf tc ma mb) :=
  pe_imp (pe_ifExp hc ha hb) fun σ H Q h => tG.thn (k := fun k env => if k then ma env else mb env) h fun G1 ρ1 S1 env H1 d v at1 r1 p1 => by
    cases (show d = v from r1)
    cases d with
    | true => rw [if_pos rfl]; exact ⟨G1, ρ1, S1, env, at1, p1⟩
    | false => rw [if_neg Bool.false_ne_true]; exact ⟨G1, ρ1, S1, env, at1, p1⟩
end
end Mr
/-! The mirror layer, 6: displays, calls, what is walked, comprehensions. -/
namespace Mr
open PySem PySem.Spec PyProof.Rows L2
section
variable {X : Cx} {W : WX} {Ω : List Nat} {a b c e : Expr} {es rest : List Expr} {ma mb mc : EM} {ml : LM} {ta tb tc : TM} {p pos : Pos} {x : Str} {K : PySem.W.Frag} {mg : Str → Option Value} {G G' H H' H1 : Hp} {ρ ρ' ρ1 : List Addr} {S : Store}

/-! ### displays -/
def eTup (l : LM) : EM := fun env => l env >>= fun xs => pure (.tup xs)
def eLst (l : LM) : EM := fun env => l env >>= fun xs => pure (.lst xs)
theorem small_line {n : Nat} (h : n ≤ 10000) : n ≤ sizeLine := Nat.le_trans h (by decide)
theorem pv_tup {k} (h : pL X W Ω es ml) (hz : es.length ≤ 10000 := by decide) : pV X W Ω (.Tuple es k pos) (eTup ml) := pe_imp (pe_tup h) fun σ H Q h => tG.thn (k := fun xs _ => pure (D.tup xs)) h fun G1 ρ1 S1 env H1 ds vs at1 r1 p1 =>
  ⟨by rw [r1.2]; exact small_line hz, fun p hp => Post.tup (S := S1) (xs := ds) p1 at1.sub at1.st r1.1 (by rw [r1.2]; exact small_line hz) hp⟩
theorem pv_lst (h : pL X W Ω es ml) (hz : es.length ≤ 10000 := by decide) : pV X W Ω (.List es pos) (eLst ml) := pe_imp (pe_lst h) fun σ H Q h => tG.thn (k := fun xs _ => pure (D.lst xs)) h fun G1 ρ1 S1 env H1 ds vs at1 r1 p1 =>
  ⟨by rw [r1.2]; exact small_line hz, fun p hp => Post.lst (S := S1) (xs := ds) p1 at1.sub at1.st r1.1 (by rw [r1.2]; exact small_line hz) hp⟩
theorem pf_lst (h : pL X W Ω es ml) (hz : es.length ≤ 10000 := by decide) : pF X W Ω (.List es pos) (eLst ml) := pe_imp (pe_lst h) fun σ H Q h => tG.thn (k := fun xs _ => pure (D.lst xs)) h fun G1 ρ1 S1 env H1 ds vs at1 r1 p1 =>
  ⟨by rw [r1.2]; exact small_line hz, fun p hp => Post.lstF' (S := S1) (xs := ds) p1 at1.sub at1.st r1.1 (by rw [r1.2]; exact small_line hz) hp⟩
/-- {} -/
theorem pv_dic0 : pV X W Ω (.Dict [] [] pos) (eC (.dic [] [])) := pe_imp pe_dnewK fun σ H Q ⟨G, ρ, S, env, at_, post⟩ => fun p hp =>
  post (upd G p (.dK [])) ρ _ _ (up_lay at_.sub) (up_growV at_.sub hp) (up_stV at_.sub at_.st hp) (.dic upd_same .nil .nil)
/-- a list that is a shared thing -/
def eNew (l : LM) : EM := fun env => l env >>= fun xs => fun s => .ok (.ref s.length) (s ++ [.lst xs])
theorem stNew {vs : List V} {xs : List D} {q : Addr} (s : Same G H) (st : StOk K mg G ρ S H) (r : RepL K mg G ρ xs vs) (hp : H q = none) : Grow G ρ H G (ρ ++ [q]) (upd H q (.lst vs)) ∧ StOk K mg G (ρ ++ [q]) (S ++ [.lst xs]) (upd H q (.lst vs)) := by
  have pre : ∀ (n : Nat) (a : Addr), ρ[n]? = some a → (ρ ++ [q])[n]? = some a := fun n a e => by
    rw [List.getElem?_append_left (List.getElem?_eq_some_iff.mp e).1]
    exact e
  refine ⟨{ up_grow (o := .lst vs) hp with pre := pre, newr := fun a h => ?_ }, ⟨?_, ?_, fun a h => ?_, fun n a o h1 h2 => ?_, st.tb.ext fun b u e => (by rw [upd_ne (ne_of_none e hp)]; exact e), st.gt⟩⟩
  · rcases List.mem_append.mp h with h | h
    · exact .inl h
    · rw [List.mem_singleton.mp h]; exact .inr hp
  · rw [List.length_append, List.length_append, st.len]; rfl
  · rw [List.nodup_append]
    refine ⟨st.nd, by simp, fun a ha b hb => ?_⟩
    rw [List.mem_singleton.mp hb]
    exact fun z => by subst z; exact r_notin st hp ha
  · rcases List.mem_append.mp h with h | h
    · exact st.out a h
    · rw [List.mem_singleton.mp h]; exact g_none s hp
  · by_cases hn : n < ρ.length
    · rw [List.getElem?_append_left hn] at h1
      rw [List.getElem?_append_left (by rw [← st.len]; exact hn)] at h2
      exact (st.obj n a o h1 h2).mono (Same.refl _) pre (upd_ne fun z => r_notin st hp (by rw [← z]; exact List.mem_of_getElem? h1))
    · have e1 : n = ρ.length := by
        have := (List.getElem?_eq_some_iff.mp h1).1
        rw [List.length_append, List.length_singleton] at this
        omega
      subst e1
      rw [List.getElem?_append_right (Nat.le_refl _), Nat.sub_self] at h1
      rw [st.len, List.getElem?_append_right (Nat.le_refl _), Nat.sub_self] at h2
      have h1 : some q = some a := h1
      have h2 : some (SO.lst xs) = some o := h2
      cases h1
      cases h2
      exact ⟨vs, upd_same, r.mono (Same.refl _) pre⟩
theorem pv_new (h : pL X W Ω es ml) (hz : es.length ≤ 10000 := by decide) : pV X W Ω (.List es pos) (eNew ml) := pe_imp (pe_lst h) fun σ H Q h => tG.thn (R2 := rV X.K X.mg) (k := fun xs _ => (fun s => Rs.ok (D.ref s.length) (s ++ [SO.lst xs]) : M D)) h fun G1 ρ1 S1 env H1 ds vs at1 r1 p1 =>
  ⟨by rw [r1.2]; exact small_line hz, fun q hp => by
    obtain ⟨g, st⟩ := stNew at1.sub at1.st r1.1 hp
    refine p1 G1 (ρ1 ++ [q]) _ _ (up_same at1.sub hp) g st (Rep.ref ?_)
    rw [← at1.st.len, List.getElem?_append_right (Nat.le_refl _), Nat.sub_self]
    rfl⟩

/-! ### built-ins -/
def Ok1 (X : Cx) (R : Rl D V) (r : List V → Hp → VK → Prop) (g : D → M D) : Prop := ∀ (G : Hp) (ρ : List Addr) (S : Store) (H : Hp) (d : D) (x : V) (Wx : XK) (Q : VK), Same G H → StOk X.K X.mg G ρ S H → RepO X.K X.mg G ρ H d x →
  Post X.K X.mg R Wx Q G ρ H (g d S) → r [x] H Q
def Ok2 (X : Cx) (R : Rl D V) (r : List V → Hp → VK → Prop) (g : D → D → M D) : Prop := ∀ (G : Hp) (ρ : List Addr) (S : Store) (H : Hp) (d e : D) (x y : V) (Wx : XK) (Q : VK), Same G H → StOk X.K X.mg G ρ S H → RepO X.K X.mg G ρ H d x → RepO X.K X.mg G ρ H e y →
  Post X.K X.mg R Wx Q G ρ H (g d e S) → r [x, y] H Q
theorem t1_of {R : Rl D V} {r : List V → Hp → VK → Prop} {g : D → M D} (ok : Ok1 X R r g) {σ : L2.St} {H : Hp} {Q : VK} (h : tG X.K X.mg R W Ω (eUn g ma) σ H Q) : tCB r (tCons (tG X.K X.mg (rO X.K X.mg) W Ω ma) tNil) σ H Q :=
  tG.thn (k := fun x _ => g x) h fun G1 ρ1 S1 env H1 d v at1 r1 p1 => ok G1 ρ1 S1 H1 d v _ Q at1.sub at1.st r1 p1
theorem t2_of {R : Rl D V} {r : List V → Hp → VK → Prop} {g : D → D → M D} (ok : Ok2 X R r g) {σ : L2.St} {H : Hp} {Q : VK} (h : tG X.K X.mg R W Ω (eBin g ma mb) σ H Q) :
    tCB r (tCons (tG X.K X.mg (rO X.K X.mg) W Ω ma) (tCons (tG X.K X.mg (rO X.K X.mg) W Ω mb) tNil)) σ H Q :=
  tG.thn (k := fun x env => mb env >>= fun y => g x y) h fun G1 ρ1 S1 env H1 d v at1 r1 p1 => p1.thn at1 fun G2 ρ2 S2 H2 e w g' at2 r2 p2 => ok G2 ρ2 S2 H2 d e v w _ Q at2.sub at2.st (RepO.grow r1 g') r2 p2
theorem p_callB1 {R : Rl D V} {id : String} {r : List V → Hp → VK → Prop} {g : D → M D} (hc : CallR X (.builtin id) r) (ok : Ok1 X R r g) (hg : Gl X x) (hm : X.mg x = none) (hv : bootBuiltins x = some (.builtin id)) (ha : pO X W Ω e ma)
    (hn : x ≠ "__name__" := by decide) (hdb : (x == ("__debug__" : Str)) = false := by decide) (he : starEach [e] X.env = (false, eval e X.env) :: starEach [] X.env := by rfl) : PE X (.Call (.Name x p) [e] [] pos) (tG X.K X.mg R W Ω (eUn g ma)) :=
  pe_imp (pe_callB hc hg hm hv (pa_cons ha pa_nil he) hn hdb he rfl) fun _ _ _ h => t1_of ok h
theorem p_callT1 {R : Rl D V} {T : String} {r : List V → Hp → VK → Prop} {g : D → M D} (hc : CallR X (.type T) r) (ok : Ok1 X R r g) (hg : Gl X x) (hm : X.mg x = none) (hv : bootBuiltins x = some (.type T)) (ha : pO X W Ω e ma)
    (hn : x ≠ "__name__" := by decide) (hdb : (x == ("__debug__" : Str)) = false := by decide) (he : starEach [e] X.env = (false, eval e X.env) :: starEach [] X.env := by rfl) : PE X (.Call (.Name x p) [e] [] pos) (tG X.K X.mg R W Ω (eUn g ma)) :=
  pe_imp (pe_callTy hc hg hm hv (pa_cons ha pa_nil he) hn hdb he rfl) fun _ _ _ h => t1_of ok h
theorem p_callB2 {R : Rl D V} {id : String} {r : List V → Hp → VK → Prop} {g : D → D → M D} (hc : CallR X (.builtin id) r) (ok : Ok2 X R r g) (hg : Gl X x) (hm : X.mg x = none) (hv : bootBuiltins x = some (.builtin id)) (ha : pO X W Ω a ma) (hb : pO X W Ω b mb)
    (hn : x ≠ "__name__" := by decide) (hdb : (x == ("__debug__" : Str)) = false := by decide) (he : starEach [a, b] X.env = (false, eval a X.env) :: starEach [b] X.env := by rfl) (he2 : starEach [b] X.env = (false, eval b X.env) :: starEach [] X.env := by rfl)
    (hpl : (backTo pos (starEach [b] X.env)).any (·.1) = false := by rfl) : PE X (.Call (.Name x p) [a, b] [] pos) (tG X.K X.mg R W Ω (eBin g ma mb)) :=
  pe_imp (pe_callB hc hg hm hv (pa_cons ha (pa_cons hb pa_nil he2) he) hn hdb he hpl) fun _ _ _ h => t2_of ok h

/-- len -/
def fLen : D → M D
  | .str s => pure (.int s.length)
  | .tup xs => pure (.int xs.length)
  | .lst xs => pure (.int xs.length)
  | _ => bad
theorem ok_len : Ok1 X (rV X.K X.mg) (fun xs H Q => ∃ x n, xs = [x] ∧ LenV X.K x H n ∧ Q (.int n) H) fLen := by
  intro G ρ S H d x Wx Q s st rd p
  cases d with
  | str t =>
    obtain ⟨rfl, hz⟩ := rd.str
    exact ⟨_, t.length, rfl, ⟨by rw [toS_length]; exact hz, (toS_length t).symm⟩, Post.V (S := S) (d := .int t.length) p s st (.int _)⟩
  | tup xs =>
    obtain ⟨q, vs, rfl, h1, _, r, z⟩ := rd.tup s
    exact ⟨_, xs.length, rfl, .inr ⟨vs, h1, r.length⟩, Post.V (S := S) (d := .int xs.length) p s st (.int _)⟩
  | lst xs =>
    obtain ⟨q, vs, rfl, h1, r, z⟩ := rd.lst s
    exact ⟨_, xs.length, rfl, .inl ⟨vs, SqL.of h1, r.length⟩, Post.V (S := S) (d := .int xs.length) p s st (.int _)⟩
  | _ => exact (show False from p).elim
theorem pv_len (hg : Gl X "len") (hm : X.mg "len" = none) (ha : pO X W Ω e ma) (he : starEach [e] X.env = (false, eval e X.env) :: starEach [] X.env := by rfl) : pV X W Ω (.Call (.Name "len" p) [e] [] pos) (eUn fLen ma) :=
  p_callB1 call_len ok_len hg hm PySem.boot_len ha (by decide) (by decide) he
/-- int -/
def fInt : D → M D
  | .int i => pure (.int i)
  | .bl b => pure (.int (if b then 1 else 0))
  | _ => bad
theorem ok_int : Ok1 X (rV X.K X.mg) (fun xs H Q => (∃ i, xs = [.int i] ∧ Q (.int i) H) ∨ ∃ k, xs = [.bl k] ∧ Q (.int (if k then 1 else 0)) H) fInt := by
  intro G ρ S H d x Wx Q s st rd p
  cases d with
  | int i => rw [rd.int]; exact .inl ⟨i, rfl, Post.V (S := S) (d := .int i) p s st (.int _)⟩
  | bl b => rw [rd.bl]; exact .inr ⟨b, rfl, Post.V (S := S) (d := .int (if b then 1 else 0)) p s st (.int _)⟩
  | _ => exact (show False from p).elim
theorem pv_toint (hg : Gl X "int") (hm : X.mg "int" = none) (ha : pO X W Ω e ma) (he : starEach [e] X.env = (false, eval e X.env) :: starEach [] X.env := by rfl) : pV X W Ω (.Call (.Name "int" p) [e] [] pos) (eUn fInt ma) :=
  p_callT1 call_int1 ok_int hg hm (by decide +kernel) ha (by decide) (by decide) he
/-- ord -/
def fOrd : D → M D
  | .str [c] => pure (.int c.toNat)
  | _ => bad
theorem ok_ord : Ok1 X (rV X.K X.mg) (fun xs H Q => ∃ x, xs = [.str x] ∧ x.length = 1 ∧ Q (.int (x.cps.getD 0 0 : Nat)) H) fOrd := by
  intro G ρ S H d x Wx Q s st rd p
  cases d with
  | str t =>
    cases t with
    | nil => exact (show False from p).elim
    | cons c t =>
      cases t with
      | nil => exact ⟨toS [c], by rw [rd.str.1], rfl, Post.V (S := S) (d := .int c.toNat) p s st (.int _)⟩
      | cons _ _ => exact (show False from p).elim
  | _ => exact (show False from p).elim
theorem pv_ord (hg : Gl X "ord") (hm : X.mg "ord" = none) (ha : pO X W Ω e ma) (he : starEach [e] X.env = (false, eval e X.env) :: starEach [] X.env := by rfl) : pV X W Ω (.Call (.Name "ord" p) [e] [] pos) (eUn fOrd ma) :=
  p_callB1 call_ord ok_ord hg hm (by decide +kernel) ha (by decide) (by decide) he
/-- max, min of two -/
def fMax : D → D → M D
  | .int a, .int b => pure (.int (if b > a then b else a))
  | _, _ => bad
def fMin : D → D → M D
  | .int a, .int b => pure (.int (if b < a then b else a))
  | _, _ => bad
theorem pv_max (hc : X.calm = true) (hg : Gl X "max") (hm : X.mg "max" = none) (ha : pO X W Ω a ma) (hb : pO X W Ω b mb) (he : starEach [a, b] X.env = (false, eval a X.env) :: starEach [b] X.env := by rfl) (he2 : starEach [b] X.env = (false, eval b X.env) :: starEach [] X.env := by rfl)
    (hpl : (backTo pos (starEach [b] X.env)).any (·.1) = false := by rfl) : pV X W Ω (.Call (.Name "max" p) [a, b] [] pos) (eBin fMax ma mb) :=
  p_callB2 (call_max2 hc) (fun G ρ S H d e x y Wx Q s st rd re p => by
    cases d with
    | int i =>
      cases e with
      | int j => exact ⟨i, j, by rw [rd.int, re.int], Post.V (S := S) (d := .int (if j > i then j else i)) p s st (.int _)⟩
      | _ => exact (show False from p).elim
    | _ => exact (show False from p).elim) hg hm (by decide +kernel) ha hb (by decide) (by decide) he he2 hpl
theorem pv_min (hc : X.calm = true) (hg : Gl X "min") (hm : X.mg "min" = none) (ha : pO X W Ω a ma) (hb : pO X W Ω b mb) (he : starEach [a, b] X.env = (false, eval a X.env) :: starEach [b] X.env := by rfl) (he2 : starEach [b] X.env = (false, eval b X.env) :: starEach [] X.env := by rfl)
    (hpl : (backTo pos (starEach [b] X.env)).any (·.1) = false := by rfl) : pV X W Ω (.Call (.Name "min" p) [a, b] [] pos) (eBin fMin ma mb) :=
  p_callB2 (call_min2 hc) (fun G ρ S H d e x y Wx Q s st rd re p => by
    cases d with
    | int i =>
      cases e with
      | int j => exact ⟨i, j, by rw [rd.int, re.int], Post.V (S := S) (d := .int (if j < i then j else i)) p s st (.int _)⟩
      | _ => exact (show False from p).elim
    | _ => exact (show False from p).elim) hg hm (by decide +kernel) ha hb (by decide) (by decide) he he2 hpl
/-- list, tuple -/
def fList : D → M D
  | .lst xs => pure (.lst xs)
  | .tup xs => pure (.lst xs)
  | _ => bad
def fTuple : D → M D
  | .lst xs => pure (.tup xs)
  | .tup xs => pure (.tup xs)
  | _ => bad
def rListOf (K : PySem.W.Frag) : List V → Hp → VK → Prop := fun xs H Q => ∃ p ys, xs = [.ref p] ∧ (SqL K H p ys ∨ SqT K H p ys) ∧ ∀ l, H l = none → Q (.ref l) (upd H l (.lst ys))
theorem ok_listF : Ok1 X (rF X.K X.mg) (rListOf X.K) fList := by
  intro G ρ S H d x Wx Q s st rd p
  cases d with
  | lst xs =>
    obtain ⟨q, vs, rfl, h1, r, z⟩ := rd.lst s
    exact ⟨q, vs, rfl, .inl (SqL.of h1), fun l hl => Post.lstF' (S := S) (xs := xs) p s st r z hl⟩
  | tup xs =>
    obtain ⟨q, vs, rfl, h1, _, r, z⟩ := rd.tup s
    exact ⟨q, vs, rfl, .inr h1, fun l hl => Post.lstF' (S := S) (xs := xs) p s st r z hl⟩
  | _ => exact (show False from p).elim
theorem pf_list (hg : Gl X "list") (hm : X.mg "list" = none) (ha : pO X W Ω e ma) (he : starEach [e] X.env = (false, eval e X.env) :: starEach [] X.env := by rfl) : pF X W Ω (.Call (.Name "list" p) [e] [] pos) (eUn fList ma) :=
  p_callT1 call_list_of ok_listF hg hm (by decide +kernel) ha (by decide) (by decide) he
theorem ok_tuple : Ok1 X (rV X.K X.mg) (fun xs H Q => ∃ p ys, xs = [.ref p] ∧ ((SqL X.K H p ys ∧ ∀ l, H l = none → Q (.ref l) (upd H l (.tup ys))) ∨ (SqT X.K H p ys ∧ Q (.ref p) H))) fTuple := by
  intro G ρ S H d x Wx Q s st rd p
  cases d with
  | lst xs =>
    obtain ⟨q, vs, rfl, h1, r, z⟩ := rd.lst s
    exact ⟨q, vs, rfl, .inl ⟨SqL.of h1, fun l hl => Post.tup (S := S) (xs := xs) p s st r z hl⟩⟩
  | tup xs =>
    obtain ⟨q, vs, rfl, h1, h0, r, z⟩ := rd.tup s
    exact ⟨q, vs, rfl, .inr ⟨h1, Post.V (S := S) (d := .tup xs) p s st (.tup h0 z r)⟩⟩
  | _ => exact (show False from p).elim
theorem pv_tuple (hg : Gl X "tuple") (hm : X.mg "tuple" = none) (ha : pO X W Ω e ma) (he : starEach [e] X.env = (false, eval e X.env) :: starEach [] X.env := by rfl) : pV X W Ω (.Call (.Name "tuple" p) [e] [] pos) (eUn fTuple ma) :=
  p_callT1 call_tuple_of ok_tuple hg hm (by decide +kernel) ha (by decide) (by decide) he
/-- all, any of truths -/
def boolsOf : List D → Option (List Bool)
  | [] => some []
  | .bl b :: r => (boolsOf r).map (b :: ·)
  | _ => none
theorem bools_rep : ∀ {ds : List D} {vs : List V} {bs : List Bool}, RepL K mg G ρ ds vs → boolsOf ds = some bs → vs = bs.map V.bl
  | _, _, _, .nil, h => by cases h; rfl
  | d :: ds, _, bs, .cons r t, h => by
    cases d with
    | bl b =>
      cases q : boolsOf ds with
      | none => simp [boolsOf, q] at h
      | some cs =>
        have h : some (b :: cs) = some bs := by simpa [boolsOf, q] using h
        cases h
        cases r
        rw [bools_rep t q]
        rfl
    | _ => simp [boolsOf] at h
def fAll : D → M D
  | .lst xs => ofO ((boolsOf xs).map fun bs => D.bl (bs.all id))
  | _ => bad
def fAny : D → M D
  | .lst xs => ofO ((boolsOf xs).map fun bs => D.bl (bs.any id))
  | _ => bad
def rTruths (K : PySem.W.Frag) (f : List Bool → Bool) : List V → Hp → VK → Prop := fun vs H Q => ∃ (a : Addr) (bs : List Bool), vs = [V.ref a] ∧ SqL K H a (bs.map V.bl) ∧ Q (.bl (f bs)) H
theorem pv_all (hc : X.calm = true) (hg : Gl X "all") (hm : X.mg "all" = none) (ha : pO X W Ω e ma) (he : starEach [e] X.env = (false, eval e X.env) :: starEach [] X.env := by rfl) : pV X W Ω (.Call (.Name "all" p) [e] [] pos) (eUn fAll ma) :=
  p_callB1 (cr_all hc) (fun G ρ S H d x Wx Q s st rd p => by
    cases d with
    | lst xs =>
      obtain ⟨q, vs, rfl, h1, r, z⟩ := rd.lst s
      have p : Post X.K X.mg (rV X.K X.mg) Wx Q G ρ H (ofO ((boolsOf xs).map fun bs => D.bl (bs.all id)) S) := p
      cases hb : boolsOf xs with
      | none => rw [hb] at p; exact (show False from p).elim
      | some bs =>
        rw [hb] at p
        refine ⟨q, bs, rfl, SqL.of ?_, Post.V (S := S) (d := .bl (bs.all id)) p s st (.bl _)⟩
        rw [← bools_rep r hb]
        exact h1
    | _ => exact (show False from p).elim) hg hm (by decide +kernel) ha (by decide) (by decide) he
theorem pv_any (hc : X.calm = true) (hg : Gl X "any") (hm : X.mg "any" = none) (ha : pO X W Ω e ma) (he : starEach [e] X.env = (false, eval e X.env) :: starEach [] X.env := by rfl) : pV X W Ω (.Call (.Name "any" p) [e] [] pos) (eUn fAny ma) :=
  p_callB1 (cr_any hc) (fun G ρ S H d x Wx Q s st rd p => by
    cases d with
    | lst xs =>
      obtain ⟨q, vs, rfl, h1, r, z⟩ := rd.lst s
      have p : Post X.K X.mg (rV X.K X.mg) Wx Q G ρ H (ofO ((boolsOf xs).map fun bs => D.bl (bs.any id)) S) := p
      cases hb : boolsOf xs with
      | none => rw [hb] at p; exact (show False from p).elim
      | some bs =>
        rw [hb] at p
        refine ⟨q, bs, rfl, SqL.of ?_, Post.V (S := S) (d := .bl (bs.any id)) p s st (.bl _)⟩
        rw [← bools_rep r hb]
        exact h1
    | _ => exact (show False from p).elim) hg hm (by decide +kernel) ha (by decide) (by decide) he

/-! ### isinstance of built-in types -/
def tyD : D → Option String
  | .non => some "NoneType"
  | .bl _ => some "bool"
  | .int _ => some "int"
  | .str _ => some "str"
  | .tup _ => some "tuple"
  | .lst _ => some "list"
  | .dic _ _ => some "dict"
  | _ => none
def isT (n : String) (d : D) : Option Bool := (tyD d).bind fun t => kitB t n
def fIs (n : String) (d : D) : M D := match isT n d with
  | some b => pure (.bl b)
  | none => bad
theorem RepO.tyx {d : D} {v : V} {t : String} (s : Same G H) (r : RepO K mg G ρ H d v) (h : tyD d = some t) : TyX K H v (.type t) := by
  cases d with
  | non => cases h; rw [r.non]; exact .base .non
  | bl b => cases h; rw [r.bl]; exact .base (.bl b)
  | int i => cases h; rw [r.int]; exact .base (.int i)
  | str t => cases h; rw [r.str.1]; exact .base (.str _)
  | tup xs =>
    cases h
    obtain ⟨q, vs, rfl, h1, _, _⟩ := r.tup s
    rcases h1 with (h1 | ⟨o, h1⟩) | ⟨o, its, n, h1, h2, _⟩
    · exact .base (.tup h1)
    · exact .fTuple h1
    · exact .kTuple h1 h2
  | lst xs =>
    cases h
    obtain ⟨q, vs, rfl, h1, _, _⟩ := r.lst s
    exact .base (.lst h1)
  | dic ks xs =>
    cases h
    obtain ⟨q, kvs, rfl, h1, _, _⟩ := r.dic s
    exact .base (.dK h1)
  | _ => cases h
theorem pv_isi {n : String} {y : Str} {p2 : Pos} (hg : Gl X "isinstance") (hm : X.mg "isinstance" = none) (hy : Gl X y) (hmy : X.mg y = none) (hvy : bootBuiltins y = some (.type n)) (ha : pO X W Ω e ma) (hny : y ≠ "__name__" := by decide) (hdy : (y == ("__debug__" : Str)) = false := by decide)
    (he : starEach [e, .Name y p2] X.env = (false, eval e X.env) :: starEach [.Name y p2] X.env := by rfl) (he2 : starEach [.Name y p2] X.env = (false, eval (.Name y p2) X.env) :: starEach [] X.env := by rfl) (hpl : (backTo pos (starEach [.Name y p2] X.env)).any (·.1) = false := by rfl) :
    pV X W Ω (.Call (.Name "isinstance" p) [e, .Name y p2] [] pos) (eUn (fIs n) ma) :=
  pe_imp (pe_callB call_isi hg hm (by decide +kernel) (pa_cons ha (pa_cons (pe_bltn (v := .ty n) hy hmy hvy rfl hny hdy) pa_nil he2) he) (by decide) (by decide) he hpl) fun σ H Q h => tG.thn (k := fun x _ => fIs n x) h fun G1 ρ1 S1 env H1 d v at1 r1 p1 => by
    unfold fIs isT at p1
    cases ht : tyD d with
    | none => rw [ht] at p1; exact (show False from p1).elim
    | some t =>
      rw [ht] at p1
      have p1 : Post X.K X.mg (rV X.K X.mg) (fun c d H => W c d σ H) Q G1 ρ1 H1 ((match kitB t n with
        | some b => pure (.bl b)
        | none => bad : M D) S1) := p1
      cases hk : kitB t n with
      | none => rw [hk] at p1; exact (show False from p1).elim
      | some b =>
        rw [hk] at p1
        exact ⟨v, .ty n, .type t, .type n, b, rfl, .ty n, RepO.tyx at1.sub r1 ht, kit_ty hk, Post.V (S := S1) (d := .bl b) p1 at1.sub at1.st (.bl b)⟩
/-- isinstance(x, (T, U)) -/
def fIs2 (n n' : String) (d : D) : M D := match isT n d, isT n' d with
  | some b, some b' => pure (.bl (b || b'))
  | _, _ => bad
theorem pv_isi2 {n n' : String} {y y' : Str} {p2 p3 p4 : Pos} {k : Nat} (hg : Gl X "isinstance") (hm : X.mg "isinstance" = none) (hy : Gl X y) (hmy : X.mg y = none) (hvy : bootBuiltins y = some (.type n)) (hy' : Gl X y') (hmy' : X.mg y' = none) (hvy' : bootBuiltins y' = some (.type n'))
    (ha : pO X W Ω e ma) (hny : y ≠ "__name__" := by decide) (hdy : (y == ("__debug__" : Str)) = false := by decide) (hny' : y' ≠ "__name__" := by decide) (hdy' : (y' == ("__debug__" : Str)) = false := by decide)
    (he : starEach [e, .Tuple [.Name y p2, .Name y' p3] k p4] X.env = (false, eval e X.env) :: starEach [.Tuple [.Name y p2, .Name y' p3] k p4] X.env := by rfl) :
    pV X W Ω (.Call (.Name "isinstance" p) [e, .Tuple [.Name y p2, .Name y' p3] k p4] [] pos) (eUn (fIs2 n n') ma) :=
  pe_imp (pe_callB call_isiT hg hm (by decide +kernel) (pa_cons ha (pa_cons (pe_tup (pa_cons (pe_bltn (v := .ty n) hy hmy hvy rfl hny hdy) (pa_cons (pe_bltn (v := .ty n') hy' hmy' hvy' rfl hny' hdy') pa_nil))) pa_nil) he) (by decide) (by decide) he rfl) fun σ H Q h => tG.thn (k := fun x _ => fIs2 n n' x) h fun G1 ρ1 S1 env H1 d v at1 r1 p1 => by
    unfold fIs2 isT at p1
    cases ht : tyD d with
    | none => rw [ht] at p1; exact (show False from p1).elim
    | some t =>
      rw [ht] at p1
      have p1 : Post X.K X.mg (rV X.K X.mg) (fun c d H => W c d σ H) Q G1 ρ1 H1 ((match kitB t n, kitB t n' with
        | some b, some b' => pure (.bl (b || b'))
        | _, _ => bad : M D) S1) := p1
      cases hk : kitB t n with
      | none => rw [hk] at p1; exact (show False from p1).elim
      | some b =>
        cases hk' : kitB t n' with
        | none => rw [hk, hk'] at p1; exact (show False from p1).elim
        | some b' =>
          rw [hk, hk'] at p1
          refine ⟨small_line (by show 2 ≤ 10000; decide), fun q hq => ?_⟩
          refine ⟨v, q, [.ty n, .ty n'], .type t, [.type n, .type n'], b || b', rfl, upd_same, .cons (.ty n) (.cons (.ty n') .nil), ?_, ?_, ?_⟩
          · exact RepO.tyx (up_same at1.sub hq) (RepO.grow r1 (up_grow hq)) ht
          · refine kitAny_cons (kit_ty hk) (fun h0 => ?_) (fun h0 => by rw [h0]; rfl)
            rw [h0, Bool.false_or]
            refine kitAny_cons (kit_ty hk') (fun h1 => ?_) (fun h1 => h1)
            rw [h1]
            exact kitAny_nil
          · exact p1 G1 ρ1 _ _ (up_same at1.sub hq) (up_grow hq) (up_st at1.st hq) (.bl _)
end
end Mr
/-! The mirror layer, 7: what is walked, targets, comprehensions. -/
namespace Mr
open PySem PySem.Spec PyProof.Rows L2
/-- an iterator walks these, whatever else grows -/
structure Walks (K : PySem.W.Frag) (mg : Str → Option Value) (G : Hp) (ρ : List Addr) (J : It) (ds : List D) : Prop where
  len : ds.length ≤ sizeLine
  go : ∀ (i : Nat) (H : Hp), i < ds.length → Same G H → J.go i H
  stop : ∀ H, Same G H → J.stop ds.length H
  yld : ∀ (i : Nat) (G2 : Hp) (ρ2 : List Addr) (H : Hp) (x : V) (H' : Hp), i < ds.length → Same G G2 → (∀ (n : Nat) (a : Addr), ρ[n]? = some a → ρ2[n]? = some a) → Same G2 H → J.yld i H x H' →
    ∃ d G3, ds[i]? = some d ∧ Same G3 H' ∧ Grow G2 ρ2 H G3 ρ2 H' ∧ (∀ S, StOk K mg G2 ρ2 S H → StOk K mg G3 ρ2 S H') ∧ Rep K mg G3 ρ2 d x
def rI (K : PySem.W.Frag) (mg : Str → Option Value) : Rl (List D) It := ⟨fun _ G ρ _ ds J => Walks K mg G ρ J ds, fun _ h => h⟩
section
variable {X : Cx} {W : WX} {Ω : List Nat} {a b c e tg : Expr} {es rest : List Expr} {ma mb mc : EM} {ml : LM} {ta tb tc : TM} {p pos : Pos} {x : Str} {K : PySem.W.Frag} {mg : Str → Option Value} {G G' H H' H1 : Hp} {ρ ρ' ρ1 : List Addr} {S : Store}
abbrev pI (X : Cx) (W : WX) (Ω : List Nat) (tg e : Expr) (m : LM) : Prop := PI X tg e (tG X.K X.mg (rI X.K X.mg) W Ω m)
theorem walk_lst {q : Addr} {vs : List V} {ds : List D} (h : G q = some (.lst vs)) (z : vs.length ≤ sizeLine) (r : RepL K mg G ρ ds vs) : Walks K mg G ρ (Itl K q) ds where
  len := by rw [r.length]; exact z
  go := fun i H hi s => by
    rw [r.length] at hi
    exact ⟨vs, vs[i], SqL.of (s _ _ h), by simp [hi]⟩
  stop := fun H s => ⟨vs, SqL.of (s _ _ h), by rw [r.length]; exact Nat.le_refl _⟩
  yld := fun i G2 ρ2 H x H' hi e pr s y => by
    obtain ⟨rfl, y⟩ := y
    obtain ⟨d, h1, h2⟩ := r.get (y vs (SqL.of (s _ _ (e _ _ h))))
    exact ⟨d, G2, h1, s, Grow.refl, fun _ st => st, h2.mono e pr⟩
theorem walk_tup {q : Addr} {vs : List V} {ds : List D} (h : SqT K G q vs) (z : vs.length ≤ sizeLine) (r : RepL K mg G ρ ds vs) : Walks K mg G ρ (Itt K q) ds where
  len := by rw [r.length]; exact z
  go := fun i H hi s => by
    rw [r.length] at hi
    exact ⟨vs, vs[i], seqT s h, by simp [hi]⟩
  stop := fun H s => ⟨vs, seqT s h, by rw [r.length]; exact Nat.le_refl _⟩
  yld := fun i G2 ρ2 H x H' hi e pr s y => by
    obtain ⟨rfl, y⟩ := y
    obtain ⟨d, h1, h2⟩ := r.get (y vs (seqT s (seqT e h)))
    exact ⟨d, G2, h1, s, Grow.refl, fun _ st => st, h2.mono e pr⟩
def signs (s : Tx) : List D := s.map fun c => D.str [c]
theorem walk_str {s : Tx} (z : s.length ≤ sizeLine) : Walks K mg G ρ (Its (toS s)) (signs s) where
  len := by unfold signs; rw [List.length_map]; exact z
  go := fun i H hi _ => by
    unfold signs at hi
    rw [List.length_map] at hi
    show i < (toS s).length
    rw [toS_length]
    exact hi
  stop := fun H _ => by
    show (toS s).length ≤ _
    rw [toS_length]
    unfold signs
    rw [List.length_map]
    exact Nat.le_refl _
  yld := fun i G2 ρ2 H x H' hi e pr sm y => by
    obtain ⟨rfl, c, h1, rfl⟩ := y
    have h2 : (s.map Char.toNat)[i]? = some c := by
      have := h1
      simpa [toS] using this
    rw [List.getElem?_map] at h2
    cases q : s[i]? with
    | none => rw [q] at h2; cases h2
    | some ch =>
      rw [q] at h2
      have h2 : some ch.toNat = some c := h2
      cases h2
      refine ⟨.str [ch], G2, ?_, sm, Grow.refl, fun _ st => st, .str [ch] (by show 1 ≤ sizeLine; decide)⟩
      unfold signs
      rw [List.getElem?_map, q]
      rfl
def nums (lo : Int) (n : Nat) : List D := (List.range n).map fun i => D.int (lo + (i : Nat))
theorem nums_length (lo : Int) (n : Nat) : (nums lo n).length = n := by unfold nums; rw [List.length_map, List.length_range]
theorem walk_rng {lo : Int} {n : Nat} (z : n ≤ sizeLine) : Walks K mg G ρ (Itr lo n) (nums lo n) where
  len := by rw [nums_length]; exact z
  go := fun i H hi _ => by rw [nums_length] at hi; exact hi
  stop := fun H _ => by rw [nums_length]; exact Nat.le_refl _
  yld := fun i G2 ρ2 H x H' hi e pr sm y => by
    obtain ⟨rfl, rfl⟩ := y
    rw [nums_length] at hi
    refine ⟨.int (lo + (i : Nat)), G2, ?_, sm, Grow.refl, fun _ st => st, .int _⟩
    unfold nums
    rw [List.getElem?_map, List.getElem?_range hi]
    rfl

/-- a list, a tuple, a text -/
def seqOf : D → M (List D)
  | .lst xs => pure xs
  | .tup xs => pure xs
  | .str s => pure (signs s)
  | _ => bad
def iSeq (m : EM) : LM := fun env => m env >>= seqOf
theorem pi_or {t t' : TI} (h : PI X tg e t) (h' : PI X tg e t') : PI X tg e (fun σ H R => t σ H R ∨ t' σ H R) := ⟨fun pins s σ H R I q => q.elim (h.run pins s σ H R I) (h'.run pins s σ H R I)⟩
theorem pi_seq (ha : pV X W Ω e ma) : pI X W Ω tg e (iSeq ma) := pi_imp (pi_or (pi_list ha) (pi_or (pi_tup ha) (pi_str ha))) fun σ H R h => by
  obtain ⟨G, ρ, S, env, at_, post⟩ := h
  have post : Post X.K X.mg (rI X.K X.mg) (fun c d H => W c d σ H) R G ρ H ((ma env >>= seqOf) S) := post
  have base : ∀ {C : V → Hp → Prop}, (∀ G1 ρ1 S1 H1 d v, ma env S = .ok d S1 → At X.K X.mg Ω G1 ρ1 env S1 σ H1 → Rep X.K X.mg G1 ρ1 d v → Post X.K X.mg (rI X.K X.mg) (fun c d H => W c d σ H) R G1 ρ1 H1 (seqOf d S1) → C v H1) → tG X.K X.mg (rV X.K X.mg) W Ω ma σ H C := fun {C} k => by
    refine ⟨G, ρ, S, env, at_, ?_⟩
    rw [bind_app] at post
    cases em : ma env S with
    | ok d S1 =>
      rw [em] at post
      exact fun G1 ρ1 H1 v s g st r => k G1 ρ1 S1 H1 d v em (at_.grow g s st) r (Post.grow g post)
    | exc x S1 => rw [em] at post; exact post
    | bad => rw [em] at post; exact post
  have post0 := post
  rw [bind_app] at post0
  cases em : ma env S with
  | ok d S1 =>
    cases d with
    | lst xs =>
      refine .inl (base fun G1 ρ1 S2 H1 d v e1 at1 r1 p1 => ?_)
      rw [em] at e1
      cases e1
      cases (show Rep X.K X.mg G1 ρ1 (.lst xs) v from r1) with
      | lst h z r => exact ⟨_, rfl, ⟨_, SqL.of (at1.sub _ _ h)⟩, Post.done (S := S1) (a := xs) p1 at1.sub at1.st (walk_lst h z r)⟩
    | tup xs =>
      refine .inr (.inl (base fun G1 ρ1 S2 H1 d v e1 at1 r1 p1 => ?_))
      rw [em] at e1
      cases e1
      cases (show Rep X.K X.mg G1 ρ1 (.tup xs) v from r1) with
      | tup h z r => exact ⟨_, rfl, ⟨_, seqT at1.sub h⟩, Post.done (S := S1) (a := xs) p1 at1.sub at1.st (walk_tup h z r)⟩
    | str cs =>
      refine .inr (.inr (base fun G1 ρ1 S2 H1 d v e1 at1 r1 p1 => ?_))
      rw [em] at e1
      cases e1
      cases (show Rep X.K X.mg G1 ρ1 (.str cs) v from r1) with
      | str _ z => exact ⟨toS cs, rfl, Post.done (S := S1) (a := signs cs) p1 at1.sub at1.st (walk_str z)⟩
    | _ => rw [em] at post0; exact (show False from post0).elim
  | exc x S1 =>
    refine .inl (base fun G1 ρ1 S2 H1 d v e1 _ _ _ => ?_)
    rw [em] at e1; cases e1
  | bad => rw [em] at post0; exact (show False from post0).elim
/-- range(n), range(a, b) -/
def rngOf (lo hi : Int) : M (List D) := if -1000000 ≤ lo ∧ lo ≤ 1000000 ∧ -1000000 ≤ hi ∧ hi ≤ 1000000 then pure (nums lo (hi - lo).toNat) else bad
def rng1 : D → M (List D)
  | .int j => rngOf 0 j
  | _ => bad
def rng2 : D → D → M (List D)
  | .int i, .int j => rngOf i j
  | _, _ => bad
def iRng (a : EM) : LM := fun env => a env >>= rng1
def iRng2' (a b : EM) : LM := fun env => a env >>= fun x => b env >>= fun y => rng2 x y
theorem rng_post {Wx : XK} {R : It → Hp → Prop} {lo hi : Int} (p : Post K mg (rI K mg) Wx R G ρ H (rngOf lo hi S)) (s : Same G H) (st : StOk K mg G ρ S H) :
    (-(2 ^ 62) ≤ lo ∧ lo < 2 ^ 62 ∧ -(2 ^ 62) ≤ hi ∧ hi < 2 ^ 62) ∧ R (Itr lo (hi - lo).toNat) H := by
  unfold rngOf at p
  by_cases hz : -1000000 ≤ lo ∧ lo ≤ 1000000 ∧ -1000000 ≤ hi ∧ hi ≤ 1000000
  · rw [if_pos hz] at p
    exact ⟨by omega, Post.done (S := S) (a := nums lo (hi - lo).toNat) p s st (walk_rng (by rw [sizeLine_eq]; omega))⟩
  · rw [if_neg hz] at p
    exact (show False from p).elim
theorem pi_rng (hg : Gl X "range") (hm : X.mg "range" = none) (ha : pO X W Ω a ma) (he : starEach [a] X.env = (false, eval a X.env) :: starEach [] X.env := by rfl) : pI X W Ω tg (.Call (.Name "range" p) [a] [] pos) (iRng ma) :=
  pi_imp (pi_range1 hg hm (pa_cons ha pa_nil he) he) fun σ H R h => tG.thn (k := fun d _ => rng1 d) h fun G1 ρ1 S1 env H1 d v at1 r1 p1 => by
    cases d with
    | int j =>
      obtain ⟨h1, h2⟩ := rng_post (S := S1) (lo := 0) (hi := j) p1 at1.sub at1.st
      refine ⟨j, by rw [RepO.int r1], h1.2.2.1, h1.2.2.2, ?_⟩
      rw [Int.sub_zero] at h2
      exact h2
    | _ => exact (show False from p1).elim
theorem pi_rng2 (hg : Gl X "range") (hm : X.mg "range" = none) (ha : pO X W Ω a ma) (hb : pO X W Ω b mb) (he : starEach [a, b] X.env = (false, eval a X.env) :: starEach [b] X.env := by rfl) (he2 : starEach [b] X.env = (false, eval b X.env) :: starEach [] X.env := by rfl) :
    pI X W Ω tg (.Call (.Name "range" p) [a, b] [] pos) (iRng2' ma mb) :=
  pi_imp (pi_range2 hg hm (pa_cons ha (pa_cons hb pa_nil he2) he) (by rw [he, he2]; rfl) (by rw [he2]; rfl)) fun σ H R h => tG.thn (k := fun x env => mb env >>= fun y => rng2 x y) h fun G1 ρ1 S1 env H1 d v at1 r1 p1 => p1.thn at1 fun G2 ρ2 S2 H2 e w g at2 r2 p2 => by
    cases d with
    | int i =>
      cases e with
      | int j =>
        obtain ⟨h1, h2⟩ := rng_post (S := S2) (lo := i) (hi := j) p2 at2.sub at2.st
        exact ⟨i, j, by rw [RepO.int r1, RepO.int r2], h1, h2⟩
      | _ => exact (show False from p2).elim
    | _ => exact (show False from p2).elim
/-- reversed(xs) -/
def revOf : D → M (List D)
  | .lst xs => pure xs.reverse
  | _ => bad
def iRevs (m : EM) : LM := fun env => m env >>= revOf
theorem walk_rev {q : Addr} {vs : List V} {ds : List D} (h : G q = some (.lst vs)) (z : vs.length ≤ sizeLine) (r : RepL K mg G ρ ds vs) : Walks K mg G ρ (Itv K q vs.length) ds.reverse where
  len := by rw [List.length_reverse, r.length]; exact z
  go := fun i H hi s => by
    rw [List.length_reverse, r.length] at hi
    exact ⟨hi, vs, vs[vs.length - 1 - i], SqL.of (s _ _ h), by simp⟩
  stop := fun H s => by show vs.length ≤ _; rw [List.length_reverse, r.length]; exact Nat.le_refl _
  yld := fun i G2 ρ2 H x H' hi e pr s y => by
    obtain ⟨rfl, y⟩ := y
    have y1 := y vs (SqL.of (s _ _ (e _ _ h)))
    obtain ⟨d, h1, h2⟩ := r.get y1
    refine ⟨d, G2, ?_, s, Grow.refl, fun _ st => st, h2.mono e pr⟩
    rw [List.length_reverse] at hi
    rw [List.getElem?_reverse hi, r.length]
    exact h1
theorem pi_rev (hg : Gl X "reversed") (hm : X.mg "reversed" = none) (ha : pV X W Ω a ma) (he : starEach [a] X.env = (false, eval a X.env) :: starEach [] X.env := by rfl) : pI X W Ω tg (.Call (.Name "reversed" p) [a] [] pos) (iRevs ma) :=
  pi_imp (pi_reversed hg hm (pa_cons ha pa_nil he) he) fun σ H R h => tG.thn (k := fun d _ => revOf d) h fun G1 ρ1 S1 env H1 d v at1 r1 p1 => by
    cases d with
    | lst xs =>
      cases (show Rep X.K X.mg G1 ρ1 (.lst xs) v from r1) with
      | lst h z r => exact ⟨_, _, rfl, SqL.of (at1.sub _ _ h), Post.done (S := S1) (a := xs.reverse) p1 at1.sub at1.st (walk_rev h z r)⟩
    | _ => exact (show False from p1).elim

/-! ### targets -/
/-- what a target binds: slots and data -/
abbrev GM := D → Option (List (Nat × D))
def gOne (i : Nat) : GM := fun d => some [(i, d)]
def gMany (is : List Nat) : GM := fun d => match d with
  | .tup xs => if xs.length = is.length then some (is.zip xs) else none
  | _ => none
def setAll {α : Type} : List (Nat × α) → List (Option α) → List (Option α)
  | [], l => l
  | (i, a) :: r, l => setAll r (l.set i (some a))
def tTg (K : PySem.W.Frag) (mg : Str → Option Value) (g : GM) : TG := fun v σ H Q => ∃ G ρ d l, Same G H ∧ Rep K mg G ρ d v ∧ g d = some l ∧ ∀ vs, RepL K mg G ρ (l.map (·.2)) vs → Q (setAll ((l.map (·.1)).zip vs) σ) H
abbrev pG (X : Cx) (tg : Expr) (g : GM) : Prop := PG X tg (tTg X.K X.mg g)
theorem pg_imp {t t' : TG} (h : PG X tg t) (i : ∀ v σ H Q, t' v σ H Q → t v σ H Q) : PG X tg t' := ⟨fun pins s σ H v u Q I r q => h.run pins s σ H v u Q I r (i v σ H Q q)⟩
theorem pg_one {i : Nat} (hN : X.N.Nodup) (hi : X.N[i]? = some x) (hx : Loc X.env.scope x := by first | exact .inl rfl | exact .inr rfl) (hf : X.fn x = true ∨ X.env.scope.names.lookup x = some .local := by first | exact .inl rfl | exact .inr rfl) : pG X (.Name x pos) (gOne i) :=
  pg_imp (pg_name hN hi hx hf) fun v σ H Q ⟨G, ρ, d, l, s, r, e, q⟩ => by
    cases e
    exact q [v] (.cons r .nil)
/-- names one by one -/
inductive Names (X : Cx) : List Expr → List Nat → TGs → Prop
  | nil : Names X [] [] gNil
  | cons {e : Expr} {es : List Expr} {i : Nat} {is : List Nat} {t : TGs} (h : PG X e (gName i)) (r : Names X es is t) : Names X (e :: es) (i :: is) (gCons (gName i) t)
theorem names_run : ∀ {es : List Expr} {is : List Nat} {t : TGs}, Names X es is t → ∀ {vs : List V} {σ : L2.St} {H : Hp} {Q : L2.St → Hp → Prop}, vs.length = is.length → Q (setAll (is.zip vs) σ) H → t vs σ H Q
  | _, _, _, .nil, vs, σ, H, Q, hl, q => by
    cases vs with
    | nil => exact ⟨rfl, q⟩
    | cons _ _ => cases hl
  | _, _, _, .cons h r, vs, σ, H, Q, hl, q => by
    cases vs with
    | nil => cases hl
    | cons v vs => exact ⟨v, vs, rfl, names_run r (Nat.succ.inj hl) q⟩
theorem names_len : ∀ {es : List Expr} {is : List Nat} {t : TGs}, Names X es is t → es.length = is.length
  | _, _, _, .nil => rfl
  | _, _, _, .cons _ r => by rw [List.length_cons, List.length_cons, names_len r]
theorem pg_many {k : Nat} {is : List Nat} {t : TGs} (hc : X.calm = true) (n : Names X es is t) (h : PGs X es t) (hn : (assignEach es X.env).length = is.length := by rfl) (hst : (assignEach es X.env).findIdx? (·.1) = none := by rfl) : pG X (.Tuple es k pos) (gMany is) :=
  pg_imp (pg_tup hc h hn hst) fun v σ H Q ⟨G, ρ, d, l, s, r, e, q⟩ => by
    cases d with
    | tup xs =>
      unfold gMany at e
      by_cases hl : xs.length = is.length
      · simp only [if_pos hl] at e
        cases e
        cases r with
        | @tup a vs ds h z rr =>
          have hv : vs.length = is.length := by rw [← rr.length]; exact hl
          refine ⟨a, vs, rfl, seqT s h, hv, names_run n hv ?_⟩
          have e1 : (is.zip xs).map (·.1) = is := by
            rw [List.map_fst_zip]
            omega
          have e2 : (is.zip xs).map (·.2) = xs := by
            rw [List.map_snd_zip]
            omega
          have := q vs (by rw [e2]; exact rr)
          rw [e1] at this
          exact this
      · simp only [if_neg hl] at e
        cases e
    | _ => cases e
/-- the names after a target -/
theorem EvOk.set {env : Ev} {σ : L2.St} {i : Nat} {d : D} {v : V} (x : EvOk K mg Ω G ρ env σ H) (hi : i ∉ Ω) (r : Rep K mg G ρ d v) : EvOk K mg Ω G ρ (env.set i (some d)) (σ.set i (some v)) H where
  len := by rw [List.length_set, List.length_set, x.len]
  val := fun j e h n => by
    by_cases hj : i = j
    · subst hj
      by_cases hl : i < env.length
      · rw [List.getElem?_set_self hl] at h
        cases h
        exact ⟨v, by rw [List.getElem?_set_self (by rw [← x.len]; exact hl)], r⟩
      · rw [List.getElem?_eq_none (by rw [List.length_set]; omega)] at h
        cases h
    · rw [List.getElem?_set_ne hj] at h ⊢
      exact x.val j e h n
  own := fun j e h n => by
    have hj : i ≠ j := fun z => hi (z ▸ n)
    rw [List.getElem?_set_ne hj] at h ⊢
    exact x.own j e h n
  sep := fun j k d' e' v' h1 h2 h3 h4 h5 h6 h7 => by
    have hj : i ≠ j := fun z => hi (z ▸ h1)
    have hk : i ≠ k := fun z => hi (z ▸ h2)
    rw [List.getElem?_set_ne hj] at h4 h6
    rw [List.getElem?_set_ne hk] at h5 h7
    exact x.sep j k d' e' v' h1 h2 h3 h4 h5 h6 h7
theorem EvOk.setAll : ∀ {l : List (Nat × D)} {vs : List V} {env : Ev} {σ : L2.St}, EvOk K mg Ω G ρ env σ H → (∀ p ∈ l, p.1 ∉ Ω) → RepL K mg G ρ (l.map (·.2)) vs → EvOk K mg Ω G ρ (Mr.setAll l env) (Mr.setAll ((l.map (·.1)).zip vs) σ) H
  | [], vs, env, σ, x, _, r => by cases r; exact x
  | (i, d) :: l, _, env, σ, x, n, r => by
    obtain ⟨v, vs, rfl, h1, h2⟩ := r.cons_inv
    exact EvOk.setAll (l := l) (vs := vs) (env := env.set i (some d)) (σ := σ.set i (some v)) (x.set (n (i, d) (List.mem_cons_self ..)) h1) (fun p hp => n p (List.mem_cons_of_mem _ hp)) h2
theorem At.setAll {l : List (Nat × D)} {vs : List V} {env : Ev} {σ : L2.St} (x : At K mg Ω G ρ env S σ H) (n : ∀ p ∈ l, p.1 ∉ Ω) (r : RepL K mg G ρ (l.map (·.2)) vs) : At K mg Ω G ρ (Mr.setAll l env) S (Mr.setAll ((l.map (·.1)).zip vs) σ) H := ⟨x.sub, x.st, x.ev.setAll n r⟩

/-! ### comprehensions -/
def wipeE (env : Ev) : List Nat → Ev
  | [] => env
  | v :: vs => (wipeE env vs).set v none
theorem wipe_ev {env : Ev} {σ : L2.St} (x : EvOk K mg Ω G ρ env σ H) : ∀ vs : List Nat, (∀ i ∈ vs, i ∉ Ω) → EvOk K mg Ω G ρ (wipeE env vs) (wipe σ vs) H
  | [], _ => x
  | i :: vs, n => by
    have y := wipe_ev x vs fun j hj => n j (List.mem_cons_of_mem _ hj)
    have hi := n i (List.mem_cons_self ..)
    refine ⟨by unfold wipeE wipe; rw [List.length_set, List.length_set, y.len], fun j e h m => ?_, fun j e h m => ?_, fun j k d' e' v' h1 h2 h3 h4 h5 h6 h7 => ?_⟩
    · unfold wipeE at h
      unfold wipe
      by_cases hj : i = j
      · subst hj
        by_cases hl : i < (wipeE env vs).length
        · rw [List.getElem?_set_self hl] at h; cases h
        · rw [List.getElem?_eq_none (by rw [List.length_set]; omega)] at h; cases h
      · rw [List.getElem?_set_ne hj] at h ⊢
        exact y.val j e h m
    · have hj : i ≠ j := fun z => hi (z ▸ m)
      unfold wipeE at h
      unfold wipe
      rw [List.getElem?_set_ne hj] at h ⊢
      exact y.own j e h m
    · have hj : i ≠ j := fun z => hi (z ▸ h1)
      have hk : i ≠ k := fun z => hi (z ▸ h2)
      unfold wipeE at h4 h5
      unfold wipe at h6 h7
      rw [List.getElem?_set_ne hj] at h4 h6
      rw [List.getElem?_set_ne hk] at h5 h7
      exact y.sep j k d' e' v' h1 h2 h3 h4 h5 h6 h7
/-- what raises is not to come here -/
def noX {α : Type} (m : M α) : M α := fun s => match m s with
  | .ok a s' => .ok a s'
  | _ => .bad
@[simp] theorem noX_pure {α : Type} (a : α) : noX (pure a : M α) = pure a := rfl
@[simp] theorem noX_bad {α : Type} : noX (bad : M α) = bad := rfl
@[simp] theorem noX_bind {α β : Type} (m : M α) (k : α → M β) : noX (m >>= k) = noX m >>= fun a => noX (k a) := by
  funext s
  show noX (M.bind m k) s = M.bind (noX m) (fun a => noX (k a)) s
  unfold noX M.bind
  cases h : m s <;> simp only [h]
def compM (sl : List Nat) (g : GM) (c : TM) (t : EM) (env : Ev) : List D → M (List D)
  | [] => pure []
  | d :: ds => (match g d with
    | none => bad
    | some l => noX (c (setAll l (wipeE env sl))) >>= fun k => if k then noX (t (setAll l (wipeE env sl))) >>= fun y => compM sl g c t env ds >>= fun ys => pure (y :: ys) else compM sl g c t env ds)
def eComp (sl : List Nat) (it : LM) (g : GM) (c : TM) (t : EM) : EM := fun env => it env >>= fun ds => compM sl g c t env ds >>= fun ys => pure (.lst ys)
def cYes : TM := fun _ => pure true
theorem wipe_get (σ : L2.St) (j : Nat) : ∀ sl : List Nat, (wipe σ sl)[j]? = if j ∈ sl then (σ[j]?).map (fun _ => none) else σ[j]?
  | [] => by simp [wipe]
  | i :: sl => by
    unfold wipe
    by_cases hj : i = j
    · subst hj
      rw [if_pos (List.mem_cons_self ..)]
      by_cases hl : i < σ.length
      · rw [List.getElem?_set_self (by rw [wipe_length]; exact hl), List.getElem?_eq_getElem hl]
        rfl
      · rw [List.getElem?_eq_none (by rw [List.length_set, wipe_length]; omega), List.getElem?_eq_none (by omega)]
        rfl
    · rw [List.getElem?_set_ne hj, wipe_get σ j sl]
      have e : (j ∈ i :: sl) ↔ j ∈ sl := by
        rw [List.mem_cons]
        exact ⟨fun h => h.resolve_left fun z => hj z.symm, .inr⟩
      by_cases h : j ∈ sl
      · rw [if_pos h, if_pos (e.mpr h)]
      · rw [if_neg h, if_neg fun z => h (e.mp z)]
theorem setAll_len {α : Type} : ∀ (l : List (Nat × α)) (s : List (Option α)), (setAll l s).length = s.length
  | [], _ => rfl
  | (i, a) :: l, s => by
    unfold setAll
    rw [setAll_len l, List.length_set]
theorem setAll_out {α : Type} {j : Nat} : ∀ (l : List (Nat × α)) (s : List (Option α)), (∀ p ∈ l, p.1 ≠ j) → (setAll l s)[j]? = s[j]?
  | [], _, _ => rfl
  | (i, a) :: l, s, h => by
    unfold setAll
    rw [setAll_out l _ fun p hp => h p (List.mem_cons_of_mem _ hp), List.getElem?_set_ne (h (i, a) (List.mem_cons_self ..))]
theorem wipe_set {l : List (Nat × V)} {sl : List Nat} {σ : L2.St} (h : ∀ p ∈ l, p.1 ∈ sl) : wipe (setAll l (wipe σ sl)) sl = wipe σ sl := by
  apply List.ext_getElem?
  intro j
  rw [wipe_get, wipe_get]
  by_cases hj : j ∈ sl
  · rw [if_pos hj, if_pos hj]
    by_cases hl : j < σ.length
    · rw [List.getElem?_eq_getElem hl, List.getElem?_eq_getElem (by rw [setAll_len, wipe_length]; exact hl)]
      rfl
    · rw [List.getElem?_eq_none (l := σ) (by omega), List.getElem?_eq_none (by rw [setAll_len, wipe_length]; omega)]
  · rw [if_neg hj, if_neg hj, setAll_out _ _ fun p hp z => hj (by rw [← z]; exact h p hp), wipe_get, if_neg hj]
theorem Grow.upd {q : Addr} {o : HO} (g : Grow G ρ H G' ρ' H') (hn : H q = none) : Grow G ρ H G' ρ' (upd H' q o) where
  sub := g.sub
  pre := g.pre
  keep := fun a u e m nt => by
    rw [upd_ne (ne_of_none e hn)]
    exact g.keep a u e m nt
  live := fun a e => by
    by_cases hb : a = q
    · subst hb; exact hn
    · rw [upd_ne hb] at e; exact g.live a e
  new := g.new
  newr := g.newr
theorem same_upd {q : Addr} {o : HO} (s : Same G H) (hn : G q = none) : Same G (upd H q o) := fun b u e => by
  rw [upd_ne (ne_of_none e hn)]
  exact s b u e
theorem st_upd {q : Addr} {o : HO} (st : StOk K mg G ρ S H) (hn : q ∉ ρ) {o' : HO} (hq : H q = some o') (n1 : (∀ ps, o' ≠ .tbl ps) ∧ ∀ a q, o' ≠ LamX.CodeO a q) : StOk K mg G ρ S (upd H q o) := st.mono (Same.refl _) (fun a ha => upd_ne fun z => hn (z ▸ ha)) st.out (fun t => t.upd hq n1.1 (n1.2 _)) st.gt
theorem g_stay {q : Addr} {u : HO} (g : Grow G ρ H G' ρ' H') (h : H q = some u) (hG : G q = none) : G' q = none := by
  cases e : G' q with
  | none => rfl
  | some o =>
    rcases g.new q o e with z | z
    · rw [hG] at z; cases z
    · rw [h] at z; cases z
theorem r_stay {q : Addr} {u : HO} (g : Grow G ρ H G' ρ' H') (h : H q = some u) (hr : q ∉ ρ) : q ∉ ρ' := fun hm => by
  rcases g.newr q hm with z | z
  · exact hr z
  · rw [h] at z; cases z
abbrev wNo : WX := fun _ _ _ _ => False
def GOk (g : GM) (sl : List Nat) : Prop := ∀ d l, g d = some l → ∀ p ∈ l, p.1 ∈ sl
theorem g_one {i : Nat} {sl : List Nat} (h : i ∈ sl := by decide) : GOk (gOne i) sl := fun d l e p hp => by
  cases e
  rw [List.mem_singleton.mp hp]
  exact h
theorem g_many {is : List Nat} {sl : List Nat} (h : ∀ i ∈ is, i ∈ sl := by decide) : GOk (gMany is) sl := fun d l e p hp => by
  cases d with
  | tup xs =>
    unfold gMany at e
    by_cases hl : xs.length = is.length
    · simp only [if_pos hl] at e
      cases e
      exact h _ (List.of_mem_zip (show (p.1, p.2) ∈ _ from hp)).1
    · simp only [if_neg hl] at e; cases e
  | _ => cases e
/-- the loop of a comprehension -/
theorem lc_run {R : Rl D V} {Wx : XK} {Q : VK} {J : It} {ds : List D} {g : GM} {c : TM} {t : EM} {sl : List Nat} {env : Ev} {σ : L2.St} {Dd : Addr} (wk : Walks K mg G ρ J ds) (ev : EvOk K mg Ω G ρ env σ H) (sm : Same G H) (st : StOk K mg G ρ S H)
    (hg : GOk g sl) (hΩ : ∀ i ∈ sl, i ∉ Ω) (hD : H Dd = none) (post : Post K mg R Wx Q G ρ H ((compM sl g c t env ds >>= fun ys => pure (.lst ys)) S))
    (fin : ∀ G2 ρ2 S2 H2 ys vs, Same G2 H2 → Grow G ρ H G2 ρ2 H2 → StOk K mg G2 ρ2 S2 H2 → H2 Dd = some (.lst vs) → RepL K mg G2 ρ2 ys vs → vs.length ≤ sizeLine → G2 Dd = none → Dd ∉ ρ2 → Post K mg R Wx Q G ρ H (.ok (.lst ys) S2) → Q (.ref Dd) H2) :
    ∃ Wv : Nat → Nat → Hp → Prop, (∃ m, Wv 0 m (L2.upd H Dd (.lst []))) ∧ ∀ i m H', Wv i m H' → (J.stop i H' ∧ Q (.ref Dd) H') ∨ (J.go i H' ∧ ∃ Nx : Hp → Prop, (∀ H2, Nx H2 → ∃ m', m' < m ∧ Wv (i + 1) m' H2) ∧ ∀ x H2, J.yld i H' x H2 → tTg K mg g x (wipe σ sl) H2 fun σ2 H3 =>
      wipe σ2 sl = wipe σ sl ∧ tG K mg rB wNo Ω c σ2 H3 fun b H4 => if b = true then tG K mg (rV K mg) wNo Ω t σ2 H4 fun y H5 => ∃ acc, H5 Dd = some (.lst acc) ∧ acc.length < sizeLine ∧ Nx (L2.upd H5 Dd (.lst (acc ++ [y]))) else Nx H4) := by
  let Iv : Nat → Hp → Prop := fun i H' => i ≤ ds.length ∧ ∃ G2 ρ2 S2 acc vs, Same G2 H' ∧ Grow G ρ H G2 ρ2 H' ∧ StOk K mg G2 ρ2 S2 H' ∧ H' Dd = some (.lst vs) ∧ RepL K mg G2 ρ2 acc vs ∧ vs.length ≤ i ∧ G2 Dd = none ∧ Dd ∉ ρ2 ∧
    Post K mg R Wx Q G ρ H ((compM sl g c t env (ds.drop i) >>= fun ys => pure (.lst (acc ++ ys))) S2)
  refine ⟨fun i m H' => m = ds.length - i ∧ Iv i H', ⟨ds.length, by omega, Nat.zero_le _, G, ρ, S, [], [], up_same sm hD, up_grow hD, up_st st hD, upd_same, .nil, Nat.le_refl _, g_none sm hD, r_notin st hD, ?_⟩, ?_⟩
  · rw [List.drop_zero]
    exact post
  rintro i m H' ⟨rfl, hi, G2, ρ2, S2, acc, vs, s2, g2, st2, hv, ra, hvl, gD, rD, p2⟩
  by_cases hlt : i < ds.length
  · refine .inr ⟨wk.go i H' hlt (g2.sub.trans s2), Iv (i + 1), fun H2 h2 => ⟨ds.length - (i + 1), by omega, rfl, h2⟩, fun x H3 y3 => ?_⟩
    obtain ⟨d, G3, hd, s3, g3, st3, r3⟩ := wk.yld i G2 ρ2 H' x H3 hlt g2.sub g2.pre s2 y3
    have e1 : ds.drop i = d :: ds.drop (i + 1) := by
      rw [List.drop_eq_getElem_cons hlt]
      congr 1
      rw [List.getElem?_eq_getElem hlt] at hd
      exact Option.some.inj hd
    rw [e1] at p2
    unfold compM at p2
    cases hl : g d with
    | none => rw [hl] at p2; exact (show False from p2).elim
    | some l =>
      rw [hl] at p2
      refine ⟨G3, ρ2, d, l, s3, r3, hl, fun us ru => ?_⟩
      have hk : ∀ p ∈ (l.map (·.1)).zip us, p.1 ∈ sl := fun p hp => by
        obtain ⟨q, hq, e⟩ := List.mem_map.mp (List.of_mem_zip (show (p.1, p.2) ∈ _ from hp)).1
        rw [← e]
        exact hg d l hl q hq
      refine ⟨wipe_set hk, ?_⟩
      have hv3 : H3 Dd = some (.lst vs) := g3.keep _ _ hv rD (fun ps z => by cases z)
      have gD3 : G3 Dd = none := g_stay g3 hv gD
      have g13 : Grow G ρ H G3 ρ2 H3 := g2.trans g3
      have at3 : At K mg Ω G3 ρ2 (Mr.setAll l (wipeE env sl)) S2 (Mr.setAll ((l.map (·.1)).zip us) (wipe σ sl)) H3 :=
        At.setAll ⟨s3, st3 S2 st2, (wipe_ev ev sl hΩ).grow g13⟩ (fun p hp => hΩ _ (hg d l hl p hp)) ru
      have p2 : Post K mg R Wx Q G ρ H (((noX (c (Mr.setAll l (wipeE env sl))) >>= fun k => if k then noX (t (Mr.setAll l (wipeE env sl))) >>= fun y => compM sl g c t env (ds.drop (i + 1)) >>= fun ys => pure (y :: ys) else compM sl g c t env (ds.drop (i + 1))) >>= fun ys => pure (D.lst (acc ++ ys))) S2) := p2
      rw [bind_assocM, bind_app] at p2
      refine ⟨G3, ρ2, S2, _, at3, ?_⟩
      cases ec : c (Mr.setAll l (wipeE env sl)) S2 with
      | bad => unfold noX at p2; rw [ec] at p2; exact (show False from p2).elim
      | exc x S3 => unfold noX at p2; rw [ec] at p2; exact (show False from p2).elim
      | ok k S4 =>
        have p4 : Post K mg R Wx Q G ρ H (((if k then noX (t (Mr.setAll l (wipeE env sl))) >>= fun y => compM sl g c t env (ds.drop (i + 1)) >>= fun ys => pure (y :: ys) else compM sl g c t env (ds.drop (i + 1))) >>= fun ys => pure (D.lst (acc ++ ys))) S4) := by
          unfold noX at p2
          rw [ec] at p2
          exact p2
        refine fun G4 ρ4 H4 b s4 g4 st4 eb => ?_
        cases (show k = b from eb)
        have hv4 : H4 Dd = some (.lst vs) := g4.keep _ _ hv3 rD (fun ps z => by cases z)
        have gD4 : G4 Dd = none := g_stay g4 hv3 gD3
        have rD4 : Dd ∉ ρ4 := r_stay g4 hv3 rD
        have g14 := g13.trans g4
        have ra4 : RepL K mg G4 ρ4 acc vs := (ra.mono g3.sub g3.pre).mono g4.sub g4.pre
        cases k with
        | false =>
          rw [if_neg Bool.false_ne_true]
          exact ⟨hlt, G4, ρ4, S4, acc, vs, s4, g14, st4, hv4, ra4, by omega, gD4, rD4, p4⟩
        | true =>
          rw [if_pos rfl]
          have p5 : Post K mg R Wx Q G ρ H ((noX (t (Mr.setAll l (wipeE env sl))) >>= fun y => (compM sl g c t env (ds.drop (i + 1)) >>= fun ys => pure (y :: ys)) >>= fun ys => pure (D.lst (acc ++ ys))) S4) := by
            rw [← bind_assocM]
            exact p4
          rw [bind_app] at p5
          refine ⟨G4, ρ4, S4, _, at3.grow g4 s4 st4, ?_⟩
          cases et : t (Mr.setAll l (wipeE env sl)) S4 with
          | bad => unfold noX at p5; rw [et] at p5; exact (show False from p5).elim
          | exc x S3 => unfold noX at p5; rw [et] at p5; exact (show False from p5).elim
          | ok y S5 =>
            have p6 : Post K mg R Wx Q G ρ H (((compM sl g c t env (ds.drop (i + 1)) >>= fun ys => pure (y :: ys)) >>= fun ys => pure (D.lst (acc ++ ys))) S5) := by
              unfold noX at p5
              rw [et] at p5
              exact p5
            rw [bind_assocM] at p6
            refine fun G5 ρ5 H5 v s5 g5 st5 r5 => ?_
            have hv5 : H5 Dd = some (.lst vs) := g5.keep _ _ hv4 rD4 (fun ps z => by cases z)
            have gD5 : G5 Dd = none := g_stay g5 hv4 gD4
            have rD5 : Dd ∉ ρ5 := r_stay g5 hv4 rD4
            have hlen := wk.len
            refine ⟨vs, hv5, by omega, hlt, G5, ρ5, S5, acc ++ [y], vs ++ [v], same_upd s5 gD5, (g14.trans g5).upd hD, st_upd st5 rD5 hv5 ⟨fun ps z => (by cases z), fun a q z => (by unfold LamX.CodeO at z; cases z)⟩, upd_same, (ra4.mono g5.sub g5.pre).append (.cons r5 .nil), by rw [List.length_append, List.length_singleton]; omega, gD5, rD5, ?_⟩
            have e2 : (fun ys => (pure (D.lst (acc ++ [y] ++ ys)) : M D)) = fun ys => (pure (y :: ys) : M (List D)) >>= fun ys => pure (D.lst (acc ++ ys)) := by
              funext ys
              rw [pure_bindM, List.append_assoc]
              rfl
            rw [e2]
            exact p6
  · have e : i = ds.length := by omega
    subst e
    rw [List.drop_length] at p2
    have p2 : Post K mg R Wx Q G ρ H (.ok (.lst (acc ++ [])) S2) := p2
    rw [List.append_nil] at p2
    exact .inl ⟨wk.stop H' (g2.sub.trans s2), fin G2 ρ2 S2 H' acc vs s2 g2 st2 hv ra (Nat.le_trans hvl wk.len) gD rD p2⟩
abbrev pTs (X : Cx) (W : WX) (Ω : List Nat) (ifs : List Expr) (m : TM) : Prop := PTs X ifs (tG X.K X.mg rB W Ω m)
theorem pts_imp {ifs : List Expr} {t t' : TT} (h : PTs X ifs t) (i : ∀ σ H Q, t' σ H Q → t σ H Q) : PTs X ifs t' := ⟨fun pins s σ H Q I q => h.run pins s σ H Q I (i σ H Q q)⟩
theorem pts_0 : pTs X W Ω [] cYes := pts_imp pts_nil fun σ H Q ⟨G, ρ, S, env, at_, post⟩ => Post.done (S := S) (a := true) post at_.sub at_.st rfl
theorem pts_1 (h : pT X W Ω c tc) : pTs X W Ω [c] tc := pts_one h
section
variable {elt iter : Expr} {ifs : List Expr} {scope : Scope} {own : List (Str × Nat)} {spos : Pos} {mi : LM} {g : GM} {ct : TM} {mt : EM}
theorem t_lc {R : Rl D V} (fin : ∀ (Wx : XK) (Q : VK) G ρ H Dd G2 ρ2 S2 H2 ys vs, H Dd = none → Same G2 H2 → Grow G ρ H G2 ρ2 H2 → StOk X.K X.mg G2 ρ2 S2 H2 → H2 Dd = some (.lst vs) → RepL X.K X.mg G2 ρ2 ys vs → vs.length ≤ sizeLine → G2 Dd = none → Dd ∉ ρ2 → Post X.K X.mg R Wx Q G ρ H (.ok (.lst ys) S2) → Q (.ref Dd) H2)
    (hg : GOk g (own.map (·.2))) (hΩ : ∀ i ∈ own.map (·.2), i ∉ Ω) {σ : L2.St} {H : Hp} {Q : VK} (h : tG X.K X.mg R W Ω (eComp (own.map (·.2)) mi g ct mt) σ H Q) :
    tLc (tG X.K X.mg (rI X.K X.mg) W Ω mi) (tTg X.K X.mg g) (tG X.K X.mg rB wNo Ω ct) (tG X.K X.mg (rV X.K X.mg) wNo Ω mt) (own.map (·.2)) σ H Q :=
  tG.thn (k := fun ds env => compM (own.map (·.2)) g ct mt env ds >>= fun ys => pure (D.lst ys)) h fun G1 ρ1 S1 env H1 ds J at1 wk p1 => fun Dd hD =>
    lc_run wk at1.ev at1.sub at1.st hg hΩ hD p1 fun G2 ρ2 S2 H2 ys vs => fin _ Q G1 ρ1 H1 Dd G2 ρ2 S2 H2 ys vs hD
theorem fin_V (Wx : XK) (Q : VK) (G : Hp) (ρ : List Addr) (H : Hp) (Dd : Addr) (G2 : Hp) (ρ2 : List Addr) (S2 : Store) (H2 : Hp) (ys : List D) (vs : List V) (hD : H Dd = none) (s : Same G2 H2) (g : Grow G ρ H G2 ρ2 H2) (st : StOk K mg G2 ρ2 S2 H2) (hv : H2 Dd = some (.lst vs)) (r : RepL K mg G2 ρ2 ys vs) (z : vs.length ≤ sizeLine) (gD : G2 Dd = none) (rD : Dd ∉ ρ2)
    (p : Post K mg (rV K mg) Wx Q G ρ H (.ok (.lst ys) S2)) : Q (.ref Dd) H2 := by
  obtain ⟨s1, _, r1⟩ := ownLay (d := .lst ys) (o := .lst vs) s hv ⟨z, r⟩ gD
  exact p (L2.upd G2 Dd (.lst vs)) ρ2 H2 (.ref Dd) s1 (g.lay hD gD) (stLay st gD rD (fun ps z => by cases z)) r1
theorem fin_F (Wx : XK) (Q : VK) (G : Hp) (ρ : List Addr) (H : Hp) (Dd : Addr) (G2 : Hp) (ρ2 : List Addr) (S2 : Store) (H2 : Hp) (ys : List D) (vs : List V) (hD : H Dd = none) (s : Same G2 H2) (g : Grow G ρ H G2 ρ2 H2) (st : StOk K mg G2 ρ2 S2 H2) (hv : H2 Dd = some (.lst vs)) (r : RepL K mg G2 ρ2 ys vs) (z : vs.length ≤ sizeLine) (gD : G2 Dd = none) (rD : Dd ∉ ρ2)
    (p : Post K mg (rF K mg) Wx Q G ρ H (.ok (.lst ys) S2)) : Q (.ref Dd) H2 := p G2 ρ2 H2 (.ref Dd) s g st ⟨Dd, _, rfl, hv, ⟨z, r⟩, gD, rD, hD⟩
theorem pv_lc (hc : X.calm = true) (hN : X.N.Nodup) (ok : BlkOk X.N X.env.scope scope own) (hg : GOk g (own.map (·.2))) (hΩ : ∀ i ∈ own.map (·.2), i ∉ Ω) (hi : pI X W Ω tg iter mi)
    (ht : ∀ (s : Shared) (H : Hp) (C : Addr) (cl : List (Str × Addr)) (fp : List Addr), pG (X.blk s H scope (compEnvC scope cl C X.env) fp) tg g)
    (hif : ∀ (s : Shared) (H : Hp) (C : Addr) (cl : List (Str × Addr)) (fp : List Addr), pTs (X.blk s H scope (compEnvC scope cl C X.env) fp) wNo Ω ifs ct)
    (he : ∀ (s : Shared) (H : Hp) (C : Addr) (cl : List (Str × Addr)) (fp : List Addr), pV (X.blk s H scope (compEnvC scope cl C X.env) fp) wNo Ω elt mt) (hs : ∀ x, foldedSetIterable iter X.env x = pure x := by intro _; rfl) :
    pV X W Ω (.ListComp elt [⟨tg, iter, ifs, 0⟩] scope pos) (eComp (own.map (·.2)) mi g ct mt) := pe_imp (pe_lc (own := own) hc hN hi ok ht hif he hs) fun σ H Q h => t_lc fin_V hg hΩ h
theorem pf_lc (hc : X.calm = true) (hN : X.N.Nodup) (ok : BlkOk X.N X.env.scope scope own) (hg : GOk g (own.map (·.2))) (hΩ : ∀ i ∈ own.map (·.2), i ∉ Ω) (hi : pI X W Ω tg iter mi)
    (ht : ∀ (s : Shared) (H : Hp) (C : Addr) (cl : List (Str × Addr)) (fp : List Addr), pG (X.blk s H scope (compEnvC scope cl C X.env) fp) tg g)
    (hif : ∀ (s : Shared) (H : Hp) (C : Addr) (cl : List (Str × Addr)) (fp : List Addr), pTs (X.blk s H scope (compEnvC scope cl C X.env) fp) wNo Ω ifs ct)
    (he : ∀ (s : Shared) (H : Hp) (C : Addr) (cl : List (Str × Addr)) (fp : List Addr), pV (X.blk s H scope (compEnvC scope cl C X.env) fp) wNo Ω elt mt) (hs : ∀ x, foldedSetIterable iter X.env x = pure x := by intro _; rfl) :
    pF X W Ω (.ListComp elt [⟨tg, iter, ifs, 0⟩] scope pos) (eComp (own.map (·.2)) mi g ct mt) := pe_imp (pe_lc (own := own) hc hN hi ok ht hif he hs) fun σ H Q h => t_lc fin_F hg hΩ h
end
end
end Mr
/-! The mirror layer, 8: statements. -/
namespace Mr
open PySem PySem.Spec PyProof.Rows L2
/-- where a def was entered -/
structure Ent where
  G : Hp
  ρ : List Addr
  H : Hp
structure Here (K : PySem.W.Frag) (mg : Str → Option Value) (en : Ent) (Ω : List Nat) (G : Hp) (ρ : List Addr) (env : Ev) (S : Store) (σ : L2.St) (H : Hp) : Prop where
  at_ : At K mg Ω G ρ env S σ H
  gr : Grow en.G en.ρ en.H G ρ H
  fr : ∀ (j : Nat) (d : D) (a : Addr), j ∈ Ω → env[j]? = some (some d) → σ[j]? = some (some (.ref a)) → en.H a = none
/-- what a block's mirror ends with -/
inductive SR where
  | nx (e : Ev) (s : Store)
  | brk (e : Ev) (s : Store)
  | cnt (e : Ev) (s : Store)
  | ret (d : D) (s : Store)
  | exc (x : Xc) (e : Ev) (s : Store)
  | bad
abbrev SM := Ev → Store → SR
def rRes (K : PySem.W.Frag) (mg : Str → Option Value) (fr : Bool) : Rl D V := if fr then rF K mg else rV K mg
/-- more is seen -/
structure Le (G : Hp) (ρ : List Addr) (G' : Hp) (ρ' : List Addr) : Prop where
  g : Same G G'
  r : ∀ (n : Nat) (a : Addr), ρ[n]? = some a → ρ'[n]? = some a
theorem Le.refl {G : Hp} {ρ : List Addr} : Le G ρ G ρ := ⟨Same.refl _, fun _ _ q => q⟩
theorem Le.trans {G G1 G2 : Hp} {ρ ρ1 ρ2 : List Addr} (a : Le G ρ G1 ρ1) (b : Le G1 ρ1 G2 ρ2) : Le G ρ G2 ρ2 := ⟨a.g.trans b.g, fun n x e => b.r n x (a.r n x e)⟩
theorem Grow.le {G H G' H' : Hp} {ρ ρ' : List Addr} (g : Grow G ρ H G' ρ' H') : Le G ρ G' ρ' := ⟨g.sub, g.pre⟩
def PostS (K : PySem.W.Frag) (mg : Str → Option Value) (W : WX) (fr : Bool) (en : Ent) (Ω Ωl : List Nat) (De : Ends) (G0 : Hp) (ρ0 : List Addr) : SR → Prop
  | .nx e S => ∀ G ρ σ H, Le G0 ρ0 G ρ → Here K mg en Ω G ρ e S σ H → De.nx σ H
  | .brk e S => ∀ G ρ σ H, Le G0 ρ0 G ρ → Here K mg en Ωl G ρ e S σ H → De.bk σ H
  | .cnt e S => ∀ G ρ σ H, Le G0 ρ0 G ρ → Here K mg en Ωl G ρ e S σ H → De.ct σ H
  | .ret d S => ∀ G ρ H v, Same G H → Grow en.G en.ρ en.H G ρ H → StOk K mg G ρ S H → (rRes K mg fr).r en.H G ρ H d v → De.rt v H
  | .exc x e S => ∀ G ρ σ H cls od, Le G0 ρ0 G ρ → Here K mg en [] G ρ e S σ H → ExcV K mg G ρ H x cls od → W cls od σ H
  | .bad => False
theorem PostS.up {K : PySem.W.Frag} {mg : Str → Option Value} {W : WX} {fr : Bool} {en : Ent} {Ω Ωl : List Nat} {De : Ends} {G G1 : Hp} {ρ ρ1 : List Addr} {r : SR} (l : Le G ρ G1 ρ1) (p : PostS K mg W fr en Ω Ωl De G ρ r) : PostS K mg W fr en Ω Ωl De G1 ρ1 r := by
  cases r with
  | nx e S => exact fun G2 ρ2 σ H l2 h => p G2 ρ2 σ H (l.trans l2) h
  | brk e S => exact fun G2 ρ2 σ H l2 h => p G2 ρ2 σ H (l.trans l2) h
  | cnt e S => exact fun G2 ρ2 σ H l2 h => p G2 ρ2 σ H (l.trans l2) h
  | exc x e S => exact fun G2 ρ2 σ H cls od l2 h => p G2 ρ2 σ H cls od (l.trans l2) h
  | _ => exact p
def tS (K : PySem.W.Frag) (mg : Str → Option Value) (W : WX) (fr : Bool) (en : Ent) (Ω Ω' Ωl : List Nat) (m : SM) : TS := fun De σ H => ∃ G ρ S env, Here K mg en Ω G ρ env S σ H ∧ PostS K mg W fr en Ω' Ωl De G ρ (m env S)
section
variable {K : PySem.W.Frag} {mg : Str → Option Value} {G G' H H' H1 : Hp} {ρ ρ' ρ1 : List Addr} {S S' : Store} {en : Ent} {Ω Ω' Ωl : List Nat} {env : Ev} {σ : L2.St}
theorem Here.grow (h : Here K mg en Ω G ρ env S σ H) (g : Grow G ρ H G' ρ' H') (s : Same G' H') (st : StOk K mg G' ρ' S' H') : Here K mg en Ω G' ρ' env S' σ H' := ⟨h.at_.grow g s st, h.gr.trans g, h.fr⟩
/-- a thing of one's own is shown: the slot is no longer one's own -/
theorem Here.show1 (h : Here K mg en Ω G ρ env S σ H) (i : Nat) : ∃ G', Here K mg en (Ω.filter (· ≠ i)) G' ρ env S σ H ∧ Same G G' := by
  have mem : ∀ {j : Nat}, j ∈ Ω.filter (· ≠ i) ↔ j ∈ Ω ∧ j ≠ i := by intro j; simp
  by_cases hi : i ∈ Ω
  · cases e : env[i]? with
    | none =>
      refine ⟨G, ⟨⟨h.at_.sub, h.at_.st, ⟨h.at_.ev.len, fun j d e1 n => ?_, fun j d e1 n => h.at_.ev.own j d e1 (mem.mp n).1, fun j k d1 d2 v a b c e1 e2 e3 e4 => h.at_.ev.sep j k d1 d2 v (mem.mp a).1 (mem.mp b).1 c e1 e2 e3 e4⟩⟩, h.gr, fun j d a n => h.fr j d a (mem.mp n).1⟩, Same.refl _⟩
      exact h.at_.ev.val j d e1 fun hj => n (mem.mpr ⟨hj, fun z => by subst z; rw [e] at e1; cases e1⟩)
    | some o =>
      cases o with
      | none =>
        refine ⟨G, ⟨⟨h.at_.sub, h.at_.st, ⟨h.at_.ev.len, fun j d e1 n => ?_, fun j d e1 n => h.at_.ev.own j d e1 (mem.mp n).1, fun j k d1 d2 v a b c e1 e2 e3 e4 => h.at_.ev.sep j k d1 d2 v (mem.mp a).1 (mem.mp b).1 c e1 e2 e3 e4⟩⟩, h.gr, fun j d a n => h.fr j d a (mem.mp n).1⟩, Same.refl _⟩
        exact h.at_.ev.val j d e1 fun hj => n (mem.mpr ⟨hj, fun z => by subst z; rw [e] at e1; cases e1⟩)
      | some d =>
        obtain ⟨v, hv, a, o, rfl, ha, ro, ga, ra⟩ := h.at_.ev.own i d e hi
        obtain ⟨s1, s2, r1⟩ := ownLay h.at_.sub ha ro ga
        refine ⟨upd G a o, ⟨⟨s1, stLay h.at_.st ga ra ro.nt.1, ⟨h.at_.ev.len, fun j d' e1 n => ?_, fun j d' e1 n => ?_, fun j k d1 d2 v a b c e1 e2 e3 e4 => h.at_.ev.sep j k d1 d2 v (mem.mp a).1 (mem.mp b).1 c e1 e2 e3 e4⟩⟩, h.gr.lay (h.fr i d a hi e hv) ga, fun j d a n => h.fr j d a (mem.mp n).1⟩, s2⟩
        · by_cases hj : j = i
          · subst hj
            rw [e] at e1
            cases e1
            exact ⟨_, hv, r1⟩
          · obtain ⟨v, h1, h2⟩ := h.at_.ev.val j d' e1 fun z => n (mem.mpr ⟨z, hj⟩)
            exact ⟨v, h1, h2.mono s2 fun _ _ q => q⟩
        · obtain ⟨hj, hne⟩ := mem.mp n
          obtain ⟨v, hv', b, o', rfl, hb, rb, gb, rb'⟩ := h.at_.ev.own j d' e1 hj
          have hab : b ≠ a := fun z => by
            subst z
            exact h.at_.ev.sep j i d' d (.ref b) hj hi hne e1 e hv' hv
          exact ⟨_, hv', b, o', rfl, hb, rb.mono s2 fun _ _ q => q, by rw [upd_ne hab]; exact gb, rb'⟩
  · refine ⟨G, ⟨⟨h.at_.sub, h.at_.st, ⟨h.at_.ev.len, fun j d e1 n => ?_, fun j d e1 n => h.at_.ev.own j d e1 (mem.mp n).1, fun j k d1 d2 v a b c e1 e2 e3 e4 => h.at_.ev.sep j k d1 d2 v (mem.mp a).1 (mem.mp b).1 c e1 e2 e3 e4⟩⟩, h.gr, fun j d a n => h.fr j d a (mem.mp n).1⟩, Same.refl _⟩
    exact h.at_.ev.val j d e1 fun hj => n (mem.mpr ⟨hj, fun z => by subst z; exact hi hj⟩)
theorem Here.of_mem (h : Here K mg en Ω G ρ env S σ H) (e : ∀ j, j ∈ Ω ↔ j ∈ Ω') : Here K mg en Ω' G ρ env S σ H :=
  ⟨⟨h.at_.sub, h.at_.st, ⟨h.at_.ev.len, fun j d e1 n => h.at_.ev.val j d e1 fun z => n ((e j).mp z), fun j d e1 n => h.at_.ev.own j d e1 ((e j).mpr n), fun j k d1 d2 v a b c e1 e2 e3 e4 => h.at_.ev.sep j k d1 d2 v ((e j).mpr a) ((e k).mpr b) c e1 e2 e3 e4⟩⟩, h.gr, fun j d a n => h.fr j d a ((e j).mpr n)⟩
/-- fewer things of one's own -/
theorem Here.shows : ∀ (l : List Nat) {Ω : List Nat} {G : Hp}, Here K mg en Ω G ρ env S σ H → ∃ G', Here K mg en (Ω.filter (· ∉ l)) G' ρ env S σ H ∧ Same G G'
  | [], Ω, G, h => ⟨G, h.of_mem fun j => by simp, Same.refl _⟩
  | i :: l, Ω, G, h => by
    obtain ⟨G1, h1, s1⟩ := h.show1 i
    obtain ⟨G2, h2, s2⟩ := Here.shows l h1
    refine ⟨G2, h2.of_mem fun j => ?_, s1.trans s2⟩
    simp only [List.mem_filter, List.mem_cons, decide_eq_true_eq, not_or]
    exact ⟨fun ⟨⟨a, b⟩, c⟩ => ⟨a, b, c⟩, fun ⟨a, b, c⟩ => ⟨⟨a, b⟩, c⟩⟩
theorem Here.sub (h : Here K mg en Ω G ρ env S σ H) (e : ∀ j ∈ Ω', j ∈ Ω) : ∃ G', Here K mg en Ω' G' ρ env S σ H ∧ Same G G' := by
  obtain ⟨G1, h1, s1⟩ := h.shows (Ω.filter (· ∉ Ω'))
  refine ⟨G1, h1.of_mem fun j => ?_, s1⟩
  simp only [List.mem_filter, decide_eq_true_eq, not_and, Decidable.not_not]
  exact ⟨fun ⟨a, b⟩ => b a, fun a => ⟨e j a, fun _ => a⟩⟩
theorem ExcV.mono {x : Xc} {cls : Value} {od : Option Addr} (h : ExcV K mg G ρ H x cls od) (s : Same G G') : ExcV K mg G' ρ H x cls od := by
  obtain ⟨C, h1, h2, h3, h4, h5⟩ := h
  refine ⟨C, h1, h2, h3, h4, h5.imp id ?_⟩
  rintro ⟨d, v, e, a, b, c, r⟩
  exact ⟨d, v, e, a, b, c, r.mono s fun _ _ q => q⟩
/-- an expression within a statement: what is wanted behind it, its exceptions passed on -/
theorem here_post {α β : Type} {R : Rl α β} {W : WX} {fr : Bool} {De : Ends} {m : Ev → M α} {C : β → Hp → Prop} {k : α → Store → SR} (h : Here K mg en Ω G ρ env S σ H)
    (p : PostS K mg W fr en Ω' Ωl De G ρ (match m env S with
      | .ok a s => k a s
      | .exc x s => .exc x env s
      | .bad => .bad))
    (c : ∀ G1 ρ1 S1 H1 a b, Grow G ρ H G1 ρ1 H1 → Here K mg en Ω G1 ρ1 env S1 σ H1 → R.r H G1 ρ1 H1 a b → PostS K mg W fr en Ω' Ωl De G1 ρ1 (k a S1) → C b H1) : tG K mg R W Ω m σ H C := by
  refine ⟨G, ρ, S, env, h.at_, ?_⟩
  cases e : m env S with
  | ok a S1 =>
    rw [e] at p
    exact fun G1 ρ1 H1 b s g st rl => c G1 ρ1 S1 H1 a b g (h.grow g s st) rl (PostS.up g.le p)
  | exc x S1 =>
    rw [e] at p
    refine fun G1 ρ1 H1 cls od s g st ex => ?_
    obtain ⟨G2, h2, s2⟩ := (h.grow g s st).sub (Ω' := []) (fun j z => by cases z)
    exact p G2 ρ1 σ H1 cls od ⟨g.sub.trans s2, g.pre⟩ h2 (ex.mono s2)
  | bad =>
    rw [e] at p
    exact p
theorem st_len {x : Here K mg en Ω G ρ env S σ H} : env.length = σ.length := x.at_.ev.len
end
/-! ### mirrors of statements -/
def sE {α : Type} (m : Ev → M α) (k : α → Ev → Store → SR) : SM := fun env S => match m env S with
  | .ok a s => k a env s
  | .exc x s => .exc x env s
  | .bad => .bad
def sDrop {α : Type} (m : Ev → M α) : SM := sE m fun _ e s => .nx e s
def sSet (i : Nat) (m : EM) : SM := sE m fun d e s => .nx (e.set i (some d)) s
def sUnp (g : GM) (m : EM) : SM := sE m fun d e s => match g d with
  | some l => .nx (setAll l e) s
  | none => .bad
def sPar (is : List Nat) (m : LM) : SM := sE m fun ds e s => if ds.length = is.length then .nx (setAll (is.zip ds) e) s else .bad
def sRet (m : EM) : SM := sE m fun d _ s => .ret d s
def sRetN : SM := fun _ s => .ret .non s
def sNext : SM := fun e s => .nx e s
def sBrk : SM := fun e s => .brk e s
def sCnt : SM := fun e s => .cnt e s
def sSeq (a b : SM) : SM := fun e s => match a e s with
  | .nx e' s' => b e' s'
  | r => r
def sIf (c : TM) (a b : SM) : SM := sE c fun k e s => if k then a e s else b e s
def forL (g : GM) (b : SM) : List D → SM
  | [] => fun e s => .nx e s
  | d :: ds => fun e s => match g d with
    | none => .bad
    | some l => (match b (setAll l e) s with
      | .nx e' s' => forL g b ds e' s'
      | .cnt e' s' => forL g b ds e' s'
      | .brk e' s' => .nx e' s'
      | r => r)
def sFor (it : LM) (g : GM) (b : SM) : SM := sE it fun ds e s => forL g b ds e s
def sWhile (c : TM) (b : SM) : Nat → SM
  | 0 => fun _ _ => .bad
  | n + 1 => fun e s => match c e s with
    | .ok true s' => (match b e s' with
      | .nx e2 s2 => sWhile c b n e2 s2
      | .cnt e2 s2 => sWhile c b n e2 s2
      | .brk e2 s2 => .nx e2 s2
      | r => r)
    | .ok false s' => .nx e s'
    | .exc x s' => .exc x e s'
    | .bad => .bad
def sRaise (c : Str) : SM := fun e s => .exc ⟨c, []⟩ e s
/-- a list of one's own is changed in place -/
def chOwn (i : Nat) (f : List D → Option (List D)) (e : Ev) (s : Store) : SR := match e[i]? with
  | some (some (.lst xs)) => (match f xs with
    | some ys => .nx (e.set i (some (.lst ys))) s
    | none => .bad)
  | _ => .bad
def ckLen (ys : List D) : Option (List D) := if ys.length ≤ sizeLine then some ys else none
def sApp (i : Nat) (m : EM) : SM := sE m fun d e s => chOwn i (fun xs => ckLen (xs ++ [d])) e s
def sExt (i : Nat) (m : EM) : SM := sE m fun d e s => match d with
  | .lst ys => chOwn i (fun xs => ckLen (xs ++ ys)) e s
  | _ => .bad
def sRevI (i : Nat) : SM := fun e s => chOwn i (fun xs => some xs.reverse) e s
def insAt (j : Int) (y : D) (xs : List D) : Option (List D) := if 0 ≤ j ∧ j < 2 ^ 63 then ckLen (xs.take j.toNat ++ y :: xs.drop j.toNat) else none
def sIns (i : Nat) (mj : EM) (m : EM) : SM := sE mj fun j => sE m fun d e s => match j with
  | .int j => chOwn i (insAt j d) e s
  | _ => .bad
def setI (j : Int) (y : D) (xs : List D) : Option (List D) := (ixN xs.length j).map fun k => xs.set k y
/-- xs[j] = y, xs of one's own -/
def sSetI (i : Nat) (m mj : EM) : SM := sE m fun d => sE mj fun j e s => match j with
  | .int j => chOwn i (setI j d) e s
  | _ => .bad
/-- o[j] = y, o shared -/
def sSetR (m mo mj : EM) : SM := sE m fun d => sE mo fun o => sE mj fun j e s => match o, j with
  | .ref n, .int j => (match s[n]? with
    | some (.lst xs) => (match setI j d xs with
      | some ys => .nx e (s.set n (.lst ys))
      | none => .bad)
    | _ => .bad)
  | _, _ => .bad

section
variable {X : Cx} {W : WX} {fr : Bool} {en : Ent} {Ω Ω1 Ω' Ωl Ω0 : List Nat} {st : Stmt} {sts sts2 : List Stmt} {m n : SM} {c e tg it : Expr} {ma mb mc : EM} {ml : LM} {tc : TM} {pos : Pos} {x : Str}
abbrev qS (X : Cx) (W : WX) (fr : Bool) (en : Ent) (Ω Ω' Ωl : List Nat) (st : Stmt) (m : SM) : Prop := PS X st (tS X.K X.mg W fr en Ω Ω' Ωl m)
abbrev qB (X : Cx) (W : WX) (fr : Bool) (en : Ent) (Ω Ω' Ωl : List Nat) (st : List Stmt) (m : SM) : Prop := PSs X st (tS X.K X.mg W fr en Ω Ω' Ωl m)
theorem q_nil : qB X W fr en Ω Ω Ωl [] sNext := pss_imp pss_nil fun De σ H ⟨G, ρ, S, env, h, p⟩ => p G ρ σ H Le.refl h
theorem q_cons (h1 : qS X W fr en Ω Ω1 Ωl st m) (h2 : qB X W fr en Ω1 Ω' Ωl sts n) : qB X W fr en Ω Ω' Ωl (st :: sts) (sSeq m n) := pss_imp (pss_cons h1 h2) fun De σ H ⟨G, ρ, S, env, h, p⟩ => by
  refine ⟨G, ρ, S, env, h, ?_⟩
  unfold sSeq at p
  cases e : m env S with
  | nx e' s' => rw [e] at p; exact fun G1 ρ1 σ1 H1 l h1 => ⟨G1, ρ1, s', e', h1, PostS.up l p⟩
  | brk e' s' => rw [e] at p; exact p
  | cnt e' s' => rw [e] at p; exact p
  | ret d s' => rw [e] at p; exact p
  | exc x e' s' => rw [e] at p; exact p
  | bad => rw [e] at p; exact p
theorem q_one (h1 : qS X W fr en Ω Ω' Ωl st m) : qB X W fr en Ω Ω' Ωl [st] m := pss_one h1
/-- fewer things of one's own: ahead of a block; behind it -/
theorem q_show (Ω1 : List Nat) (h : qB X W fr en Ω1 Ω' Ωl sts m) (e : ∀ j ∈ Ω1, j ∈ Ω := by decide) : qB X W fr en Ω Ω' Ωl sts m := pss_imp h fun De σ H ⟨G, ρ, S, env, h, p⟩ =>
  let ⟨G', h', s'⟩ := h.sub e
  ⟨G', ρ, S, env, h', PostS.up ⟨s', fun _ _ q => q⟩ p⟩
theorem q_end (Ω1 : List Nat) (h : qB X W fr en Ω Ω1 Ωl sts m) (e : ∀ j ∈ Ω', j ∈ Ω1 := by decide) : qB X W fr en Ω Ω' Ωl sts m := pss_imp h fun De σ H ⟨G, ρ, S, env, h, p⟩ => by
  refine ⟨G, ρ, S, env, h, ?_⟩
  cases q : m env S with
  | nx e' s' =>
    rw [q] at p
    exact fun G1 ρ1 σ1 H1 l h1 => let ⟨G2, h2, s2⟩ := h1.sub e; p G2 ρ1 σ1 H1 (l.trans ⟨s2, fun _ _ q => q⟩) h2
  | brk e' s' => rw [q] at p; exact p
  | cnt e' s' => rw [q] at p; exact p
  | ret d s' => rw [q] at p; exact p
  | exc x e' s' => rw [q] at p; exact p
  | bad => rw [q] at p; exact p
theorem q_pass : qS X W fr en Ω Ω Ωl (.Pass pos) sNext := ps_imp ps_pass fun De σ H ⟨G, ρ, S, env, h, p⟩ => p G ρ σ H Le.refl h
theorem q_break : qS X W fr en Ω Ω' Ω (.Break pos) sBrk := ps_imp ps_break fun De σ H ⟨G, ρ, S, env, h, p⟩ => p G ρ σ H Le.refl h
theorem q_cont : qS X W fr en Ω Ω' Ω (.Continue pos) sCnt := ps_imp ps_continue fun De σ H ⟨G, ρ, S, env, h, p⟩ => p G ρ σ H Le.refl h
theorem q_never {t : TS} (h : PS X st t) : True := trivial
theorem q_expr (h : pV X W Ω e ma) (hs : swapsWith e none pos.line X.env = pure false := by rfl) : qS X W fr en Ω Ω Ωl (.Expr e pos) (sDrop ma) := ps_imp (ps_expr h hs) fun De σ H ⟨G, ρ, S, env, h, p⟩ =>
  here_post h p fun G1 ρ1 S1 H1 a b g h1 _ p1 => p1 G1 ρ1 σ H1 Le.refl h1
/-- name = e, a value that is shown -/
theorem Here.set {K : PySem.W.Frag} {mg : Str → Option Value} {G H : Hp} {ρ : List Addr} {S : Store} {env : Ev} {σ : L2.St} {i : Nat} {d : D} {v : V} (h : Here K mg en Ω G ρ env S σ H) (hi : i ∉ Ω) (r : Rep K mg G ρ d v) : Here K mg en Ω G ρ (env.set i (some d)) S (σ.set i (some v)) H :=
  ⟨⟨h.at_.sub, h.at_.st, h.at_.ev.set hi r⟩, h.gr, fun j d' a n e1 e2 => by
    have hj : i ≠ j := fun z => hi (z ▸ n)
    rw [List.getElem?_set_ne hj] at e1 e2
    exact h.fr j d' a n e1 e2⟩
theorem q_set' {i : Nat} {te : TE} (h : PS X st (tAsg te (gName i))) (k : ∀ σ H Q, tG X.K X.mg (rV X.K X.mg) W Ω ma σ H Q → te σ H Q) (hi : i ∉ Ω := by decide) : qS X W fr en Ω Ω Ωl st (sSet i ma) := ps_imp h fun De σ H ⟨G, ρ, S, env, h, p⟩ =>
  k σ H _ (here_post h p fun G1 ρ1 S1 H1 a b g h1 r p1 => p1 G1 ρ1 _ H1 Le.refl (h1.set hi r))
/-- name = e, a thing just made -/
theorem Here.own {K : PySem.W.Frag} {mg : Str → Option Value} {G H H0 : Hp} {ρ : List Addr} {S : Store} {env : Ev} {σ : L2.St} {i : Nat} {d : D} {v : V} (h : Here K mg en Ω G ρ env S σ H) (hm : ∀ j, j ∈ Ω' ↔ j = i ∨ j ∈ Ω) (hf : ∀ (j : Nat) (e : D) (a : Addr), j ∈ Ω → env[j]? = some (some e) → σ[j]? = some (some (.ref a)) → H0 a ≠ none) (h0 : ∀ a, H0 a = none → en.H a = none)
    (r : (rF K mg).r H0 G ρ H d v) : Here K mg en Ω' G ρ (env.set i (some d)) S (σ.set i (some v)) H := by
  obtain ⟨a, o, rfl, ha, ro, ga, ra, na⟩ := r
  have at_set : ∀ {j : Nat} {d' : D}, (env.set i (some d))[j]? = some (some d') → (j = i ∧ d' = d ∧ (σ.set i (some (V.ref a)))[j]? = some (some (.ref a))) ∨ (j ≠ i ∧ env[j]? = some (some d') ∧ (σ.set i (some (V.ref a)))[j]? = σ[j]?) := fun {j d'} e1 => by
    by_cases hj : i = j
    · subst hj
      by_cases hl : i < env.length
      · rw [List.getElem?_set_self hl] at e1
        cases e1
        exact .inl ⟨rfl, rfl, List.getElem?_set_self (by rw [← h.at_.ev.len]; exact hl)⟩
      · rw [List.getElem?_eq_none (by rw [List.length_set]; omega)] at e1; cases e1
    · rw [List.getElem?_set_ne hj] at e1
      exact .inr ⟨fun z => hj z.symm, e1, List.getElem?_set_ne hj⟩
  refine ⟨⟨h.at_.sub, h.at_.st, ⟨by rw [List.length_set, List.length_set, h.at_.ev.len], fun j d' e1 n => ?_, fun j d' e1 n => ?_, fun j k d1 d2 v1 n1 n2 ne e1 e2 e3 e4 => ?_⟩⟩, h.gr, fun j d' b n e1 e2 => ?_⟩
  · rcases at_set e1 with ⟨hj, _⟩ | ⟨hj, e2, e3⟩
    · exact absurd ((hm j).mpr (.inl hj)) n
    · rw [e3]
      exact h.at_.ev.val j d' e2 fun z => n ((hm j).mpr (.inr z))
  · rcases at_set e1 with ⟨hj, rfl, e3⟩ | ⟨hj, e2, e3⟩
    · exact ⟨_, e3, a, o, rfl, ha, ro, ga, ra⟩
    · rw [e3]
      exact h.at_.ev.own j d' e2 (((hm j).mp n).resolve_left hj)
  · rcases at_set e1 with ⟨hj, _, e5⟩ | ⟨hj, e5, e6⟩
    · rcases at_set e2 with ⟨hk, _⟩ | ⟨hk, e7, e8⟩
      · exact ne (hj.trans hk.symm)
      · rw [e5] at e3; cases e3
        rw [e8] at e4
        exact hf k d2 a (((hm k).mp n2).resolve_left hk) e7 e4 na
    · rcases at_set e2 with ⟨hk, _, e9⟩ | ⟨hk, e7, e8⟩
      · rw [e9] at e4; cases e4
        rw [e6] at e3
        exact hf j d1 a (((hm j).mp n1).resolve_left hj) e5 e3 na
      · rw [e6] at e3
        rw [e8] at e4
        exact h.at_.ev.sep j k d1 d2 v1 (((hm j).mp n1).resolve_left hj) (((hm k).mp n2).resolve_left hk) ne e5 e7 e3 e4
  · rcases at_set e1 with ⟨hj, _, e3⟩ | ⟨hj, e3, e4⟩
    · rw [e3] at e2; cases e2
      exact h0 a na
    · rw [e4] at e2
      exact h.fr j d' b (((hm j).mp n).resolve_left hj) e3 e2
theorem own_some {K : PySem.W.Frag} {mg : Str → Option Value} {G H : Hp} {ρ : List Addr} {S : Store} {env : Ev} {σ : L2.St} (h : Here K mg en Ω G ρ env S σ H) : ∀ (j : Nat) (e : D) (a : Addr), j ∈ Ω → env[j]? = some (some e) → σ[j]? = some (some (.ref a)) → H a ≠ none := fun j e a hj h1 h2 z => by
  obtain ⟨v, hv, b, o, rfl, hb, _⟩ := h.at_.ev.own j e h1 hj
  rw [h2] at hv; cases hv
  rw [z] at hb; cases hb
theorem q_own' {i : Nat} {te : TE} (h : PS X st (tAsg te (gName i))) (k : ∀ σ H Q, tG X.K X.mg (rF X.K X.mg) W Ω ma σ H Q → te σ H Q) (hm : ∀ j, j ∈ Ω' ↔ j = i ∨ j ∈ Ω) : qS X W fr en Ω Ω' Ωl st (sSet i ma) := ps_imp h fun De σ H ⟨G, ρ, S, env, h, p⟩ =>
  k σ H _ (here_post h p fun G1 ρ1 S1 H1 a b g h1 r p1 => p1 G1 ρ1 _ H1 Le.refl (h1.own hm (own_some h) (fun a z => h.gr.live a z) r))
theorem own_new {i : Nat} (j : Nat) : j ∈ (i :: Ω) ↔ j = i ∨ j ∈ Ω := List.mem_cons
theorem own_old {i : Nat} (hi : i ∈ Ω) (j : Nat) : j ∈ Ω ↔ j = i ∨ j ∈ Ω := ⟨.inr, fun h => h.elim (fun z => z ▸ hi) id⟩
section
variable {i : Nat} {pos' : Pos}
theorem q_set (hN : X.N.Nodup) (hi : X.N[i]? = some x) (h : pV X W Ω e ma) (hx : Loc X.env.scope x := by first | exact .inl rfl | exact .inr rfl) (hΩ : i ∉ Ω := by decide) (hs : swapsWith e (some (.Name x pos')) pos.line X.env = pure false := by rfl) (hf : X.fn x = true ∨ X.env.scope.names.lookup x = some .local := by first | exact .inl rfl | exact .inr rfl) :
    qS X W fr en Ω Ω Ωl (.Assign [.Name x pos'] e pos) (sSet i ma) := q_set' (ps_set hN hi hx h hs hf) (fun _ _ _ q => q) hΩ
theorem q_own (hN : X.N.Nodup) (hi : X.N[i]? = some x) (h : pF X W Ω e ma) (hm : ∀ j, j ∈ Ω' ↔ j = i ∨ j ∈ Ω) (hx : Loc X.env.scope x := by first | exact .inl rfl | exact .inr rfl) (hs : swapsWith e (some (.Name x pos')) pos.line X.env = pure false := by rfl) (hf : X.fn x = true ∨ X.env.scope.names.lookup x = some .local := by first | exact .inl rfl | exact .inr rfl) :
    qS X W fr en Ω Ω' Ωl (.Assign [.Name x pos'] e pos) (sSet i ma) := q_own' (ps_set hN hi hx h hs hf) (fun _ _ _ q => q) hm
end
/-- targets = e -/
theorem Here.setAll {K : PySem.W.Frag} {mg : Str → Option Value} {G H : Hp} {ρ : List Addr} {S : Store} : ∀ {l : List (Nat × D)} {vs : List V} {env : Ev} {σ : L2.St}, Here K mg en Ω G ρ env S σ H → (∀ p ∈ l, p.1 ∉ Ω) → RepL K mg G ρ (l.map (·.2)) vs → Here K mg en Ω G ρ (Mr.setAll l env) S (Mr.setAll ((l.map (·.1)).zip vs) σ) H
  | [], vs, env, σ, x, _, r => by cases r; exact x
  | (i, d) :: l, _, env, σ, x, n, r => by
    obtain ⟨v, vs, rfl, h1, h2⟩ := r.cons_inv
    exact Here.setAll (l := l) (vs := vs) (env := env.set i (some d)) (σ := σ.set i (some v)) (x.set (n (i, d) (List.mem_cons_self ..)) h1) (fun p hp => n p (List.mem_cons_of_mem _ hp)) h2
theorem q_unp {g : GM} {sl : List Nat} (h : pV X W Ω e ma) (ht : pG X tg g) (hg : GOk g sl) (hΩ : ∀ i ∈ sl, i ∉ Ω := by decide) (hs : swapsWithSole [tg] e pos.line X.env = pure false := by rfl) (hw : swappedStores [tg] e X.env = pure none := by rfl) (h1 : (assignEach [tg] X.env).map (·.2) = [assign tg X.env] := by rfl) :
    qS X W fr en Ω Ω Ωl (.Assign [tg] e pos) (sUnp g ma) := ps_imp (ps_asg h ht hs hw h1) fun De σ H ⟨G, ρ, S, env, h, p⟩ =>
  here_post h p fun G1 ρ1 S1 H1 d b gr h1 r p1 => by
    cases q : g d with
    | none => simp only [q] at p1; exact (show False from p1).elim
    | some l =>
      simp only [q] at p1
      exact ⟨G1, ρ1, d, l, h1.at_.sub, r, q, fun vs rr => p1 G1 ρ1 _ H1 Le.refl (h1.setAll (fun p hp => hΩ _ (hg d l q p hp)) rr)⟩
/-- return -/
theorem q_ret (h : pV X W Ω e ma) : qS X W false en Ω Ω' Ωl (.Return (some e) pos) (sRet ma) := ps_imp (ps_ret h) fun De σ H ⟨G, ρ, S, env, h, p⟩ =>
  here_post h p fun G1 ρ1 S1 H1 d v g h1 r p1 => p1 G1 ρ1 H1 v h1.at_.sub h1.gr h1.at_.st r
theorem q_retF (h : pF X W Ω e ma) : qS X W true en Ω Ω' Ωl (.Return (some e) pos) (sRet ma) := ps_imp (ps_ret h) fun De σ H ⟨G, ρ, S, env, h, p⟩ =>
  here_post h p fun G1 ρ1 S1 H1 d v g h1 r p1 => p1 G1 ρ1 H1 v h1.at_.sub h1.gr h1.at_.st ((rF X.K X.mg).mono (fun a z => h.gr.live a z) r)
theorem q_retO {i : Nat} (hΩ : i ∈ Ω := by decide) (hN : X.N[i]? = some x := by rfl) (hv : Vis X.env.scope x := by first | exact Or.inl rfl | exact Or.inr (Or.inl rfl) | exact Or.inr (Or.inr rfl)) (hd : (x == ("__debug__" : Str)) = false := by decide)
    (hcd : (x == ("__classdict__" : Str)) = false := by decide) {pos' : Pos} : qS X W true en Ω Ω' Ωl (.Return (some (.Name x pos')) pos) (sRet (eVar i)) := ps_imp (ps_ret (pe_var hN hv hd hcd)) fun De σ H ⟨G, ρ, S, env, h, p⟩ => by
  unfold sRet sE eVar at p
  cases q : env[i]? with
  | none => rw [q] at p; exact (show False from p).elim
  | some o =>
    rw [q] at p
    cases o with
    | none => exact (show False from p).elim
    | some d =>
      obtain ⟨v, h1, a, o, rfl, ha, ro, ga, ra⟩ := h.at_.ev.own i d q hΩ
      refine ⟨_, h1, ?_⟩
      exact p G ρ H (.ref a) h.at_.sub h.gr h.at_.st ⟨a, o, rfl, ha, ro, ga, ra, h.fr i d a hΩ q h1⟩
theorem q_retN : qS X W false en Ω Ω' Ωl (.Return none pos) sRetN := ps_imp ps_retN fun De σ H ⟨G, ρ, S, env, h, p⟩ => p G ρ H .non h.at_.sub h.gr h.at_.st .non
/-- if -/
theorem q_if (hc : pT X W Ω c tc) (ha : qB X W fr en Ω Ω' Ωl sts m) (hb : qB X W fr en Ω Ω' Ωl sts2 n) : qS X W fr en Ω Ω' Ωl (.If c sts sts2 pos) (sIf tc m n) := ps_imp (ps_if hc ha hb) fun De σ H ⟨G, ρ, S, env, h, p⟩ =>
  here_post h p fun G1 ρ1 S1 H1 k b g h1 r p1 => by
    cases (show k = b from r)
    cases k with
    | true => rw [if_pos rfl]; exact ⟨G1, ρ1, S1, env, h1, p1⟩
    | false => rw [if_neg Bool.false_ne_true]; exact ⟨G1, ρ1, S1, env, h1, p1⟩
/-- for -/
theorem q_for {g : GM} {sl : List Nat} (hp : PassesOwn (model X.prog X.w) X.A X.env X.xe) (hc : X.calm = true) (hi : pI X W Ω tg it ml) (ht : pG X tg g) (hg : GOk g sl) (hb : qB X W fr en Ω Ω Ω sts m) (hΩ : ∀ i ∈ sl, i ∉ Ω := by decide) (hs : ∀ x, foldedSetIterable it X.env x = pure x := by intro _; rfl) :
    qS X W fr en Ω Ω Ωl (.For tg it sts [] pos) (sFor ml g m) := ps_imp (ps_for hp hc hi ht hb hs) fun De σ H ⟨G, ρ, S, env, h, p⟩ =>
  here_post h p fun G1 ρ1 S1 H1 ds J gr h1 wk p1 => by
    let Wv : Nat → Nat → L2.St → Hp → Prop := fun i n σ' H' => n = ds.length - i ∧ i ≤ ds.length ∧ ∃ G2 ρ2 S2 env2, Le G1 ρ1 G2 ρ2 ∧ Here X.K X.mg en Ω G2 ρ2 env2 S2 σ' H' ∧
      PostS X.K X.mg W fr en Ω Ωl De G1 ρ1 (forL g m (ds.drop i) env2 S2)
    refine ⟨Wv, ⟨ds.length, rfl, Nat.zero_le _, G1, ρ1, S1, env, Le.refl, h1, p1⟩, ?_⟩
    rintro i n σ' H' ⟨rfl, hi, G2, ρ2, S2, env2, e1, h2, p2⟩
    by_cases hlt : i < ds.length
    · refine .inr ⟨wk.go i H' hlt (e1.g.trans h2.at_.sub), Wv (i + 1) (ds.length - (i + 1)), fun σ3 H3 w3 => ⟨ds.length - (i + 1), by omega, w3⟩, fun x H3 y3 => ?_⟩
      obtain ⟨d, G3, hd, s3, g3, st3, r3⟩ := wk.yld i G2 ρ2 H' x H3 hlt e1.g e1.r h2.at_.sub y3
      have e3 : ds.drop i = d :: ds.drop (i + 1) := by
        rw [List.drop_eq_getElem_cons hlt]
        congr 1
        rw [List.getElem?_eq_getElem hlt] at hd
        exact Option.some.inj hd
      rw [e3] at p2
      unfold forL at p2
      cases hl : g d with
      | none => simp only [hl] at p2; exact (show False from p2).elim
      | some l =>
        simp only [hl] at p2
        refine ⟨G3, ρ2, d, l, s3, r3, hl, fun vs rr => ?_⟩
        have h3 := (h2.grow g3 s3 (st3 S2 h2.at_.st)).setAll (l := l) (vs := vs) (fun p hp => hΩ _ (hg d l hl p hp)) rr
        refine ⟨G3, ρ2, S2, _, h3, ?_⟩
        have l3 : Le G1 ρ1 G3 ρ2 := e1.trans g3.le
        cases em : m (Mr.setAll l env2) S2 with
        | nx e' s' =>
          simp only [em] at p2
          exact fun G4 ρ4 σ4 H4 l4 h4 => ⟨rfl, hlt, G4, ρ4, s', e', l3.trans l4, h4, p2⟩
        | cnt e' s' =>
          simp only [em] at p2
          exact fun G4 ρ4 σ4 H4 l4 h4 => ⟨rfl, hlt, G4, ρ4, s', e', l3.trans l4, h4, p2⟩
        | brk e' s' =>
          simp only [em] at p2
          exact fun G4 ρ4 σ4 H4 l4 h4 => p2 G4 ρ4 σ4 H4 (l3.trans l4) h4
        | ret d' s' => simp only [em] at p2; exact p2
        | exc x' e' s' =>
          simp only [em] at p2
          exact fun G4 ρ4 σ4 H4 cls od l4 h4 => p2 G4 ρ4 σ4 H4 cls od (l3.trans l4) h4
        | bad => simp only [em] at p2; exact p2
    · have e : i = ds.length := by omega
      subst e
      rw [List.drop_length] at p2
      exact .inl ⟨wk.stop H' (e1.g.trans h2.at_.sub), p2 G2 ρ2 σ' H' e1 h2⟩
/-- while, so many turns at most -/
theorem q_while (n : Nat) (hp : PassesOwn (model X.prog X.w) X.A X.env X.xe) (hc : pT X W Ω c tc) (hb : qB X W fr en Ω Ω Ω sts m) : qS X W fr en Ω Ω Ωl (.While c sts [] pos) (sWhile tc m n) := ps_imp (ps_while hp hc hb) fun De σ H ⟨G, ρ, S, env, h, p⟩ => by
  refine ⟨fun k σ' H' => ∃ G2 ρ2 S2 env2, Le G ρ G2 ρ2 ∧ Here X.K X.mg en Ω G2 ρ2 env2 S2 σ' H' ∧ PostS X.K X.mg W fr en Ω Ωl De G ρ (sWhile tc m k env2 S2), ⟨n, G, ρ, S, env, Le.refl, h, p⟩, ?_⟩
  rintro k σ' H' ⟨G2, ρ2, S2, env2, l2, h2, p2⟩
  cases k with
  | zero => exact (show False from p2).elim
  | succ k =>
    unfold sWhile at p2
    refine ⟨G2, ρ2, S2, env2, h2.at_, ?_⟩
    cases et : tc env2 S2 with
    | bad => simp only [et] at p2; exact p2
    | exc x s' =>
      simp only [et] at p2
      refine fun G3 ρ3 H3 cls od s g st ex => ?_
      obtain ⟨G4, h4, s4⟩ := (h2.grow g s st).sub (Ω' := []) (fun j z => by cases z)
      exact p2 G4 ρ3 σ' H3 cls od (l2.trans ⟨g.sub.trans s4, g.pre⟩) h4 (ex.mono s4)
    | ok b s' =>
      refine fun G3 ρ3 H3 b' s g st eb => ?_
      cases (show b = b' from eb)
      have h3 := h2.grow g s st
      have l3 := l2.trans g.le
      cases b with
      | false =>
        simp only [et] at p2
        rw [if_neg Bool.false_ne_true]
        exact p2 G3 ρ3 σ' H3 l3 h3
      | true =>
        simp only [et] at p2
        rw [if_pos rfl]
        refine ⟨fun σ4 H4 => ∃ G2 ρ2 S2 env2, Le G ρ G2 ρ2 ∧ Here X.K X.mg en Ω G2 ρ2 env2 S2 σ4 H4 ∧ PostS X.K X.mg W fr en Ω Ωl De G ρ (sWhile tc m k env2 S2), fun σ4 H4 q => ⟨k, Nat.lt_succ_self k, q⟩, G3, ρ3, s', env2, h3, ?_⟩
        cases em : m env2 s' with
        | nx e2 s2 => simp only [em] at p2; exact fun G4 ρ4 σ4 H4 l4 h4 => ⟨G4, ρ4, s2, e2, l3.trans l4, h4, p2⟩
        | cnt e2 s2 => simp only [em] at p2; exact fun G4 ρ4 σ4 H4 l4 h4 => ⟨G4, ρ4, s2, e2, l3.trans l4, h4, p2⟩
        | brk e2 s2 => simp only [em] at p2; exact fun G4 ρ4 σ4 H4 l4 h4 => p2 G4 ρ4 σ4 H4 (l3.trans l4) h4
        | ret d' s2 => simp only [em] at p2; exact p2
        | exc x' e2 s2 => simp only [em] at p2; exact fun G4 ρ4 σ4 H4 cls od l4 h4 => p2 G4 ρ4 σ4 H4 cls od (l3.trans l4) h4
        | bad => simp only [em] at p2; exact p2
end
end Mr
/-! The mirror layer, 9: changes in place, several targets, raise, defs and their calls. -/
namespace Mr
open PySem PySem.Spec PyProof.Rows L2
section
variable {K : PySem.W.Frag} {mg : Str → Option Value} {G G' H H' H1 : Hp} {ρ ρ' ρ1 : List Addr} {S S' : Store} {en : Ent} {Ω Ω' Ωl : List Nat} {env : Ev} {σ : L2.St}
theorem ix_nodup {N : List Addr} (hN : N.Nodup) {i j : Nat} {x : Addr} (a : N[i]? = some x) (b : N[j]? = some x) : i = j := by
  obtain ⟨h1, e1⟩ := List.getElem?_eq_some_iff.mp a
  obtain ⟨h2, e2⟩ := List.getElem?_eq_some_iff.mp b
  exact (List.getElem_inj hN).mp (e1.trans e2.symm)
theorem Here.change {i : Nat} {d d' : D} {a : Addr} {o o' : HO} (h : Here K mg en Ω G ρ env S σ H) (hi : i ∈ Ω) (he : env[i]? = some (some d)) (hs : σ[i]? = some (some (.ref a))) (ha : H a = some o) (ga : G a = none) (ra : a ∉ ρ) (r : OwnR K mg G ρ d' o') :
    Here K mg en Ω G ρ (env.set i (some d')) S σ (upd H a o') := by
  have hl : i < env.length := (List.getElem?_eq_some_iff.mp he).1
  have at_set : ∀ {j : Nat} {e : D}, (env.set i (some d'))[j]? = some (some e) → (j = i ∧ e = d') ∨ (j ≠ i ∧ env[j]? = some (some e)) := fun {j e} e1 => by
    by_cases hj : i = j
    · subst hj
      rw [List.getElem?_set_self hl] at e1
      cases e1
      exact .inl ⟨rfl, rfl⟩
    · rw [List.getElem?_set_ne hj] at e1
      exact .inr ⟨fun z => hj z.symm, e1⟩
  have some_at : ∀ {j : Nat} {e : D}, (env.set i (some d'))[j]? = some (some e) → ∃ e', env[j]? = some (some e') := fun {j e} e1 => by
    rcases at_set e1 with ⟨rfl, _⟩ | ⟨_, e2⟩
    · exact ⟨d, he⟩
    · exact ⟨e, e2⟩
  have en0 : en.H a = none := h.fr i d a hi he hs
  have nt : (∀ ps, o ≠ .tbl ps) ∧ ∀ a q, o ≠ LamX.CodeO a q := by
    obtain ⟨v, hv, b, ob, rfl, hb, rb, _⟩ := h.at_.ev.own i d he hi
    rw [hs] at hv
    cases hv
    rw [ha] at hb
    cases hb
    exact rb.nt
  refine ⟨⟨same_upd h.at_.sub ga, st_upd h.at_.st ra ha nt, ⟨by rw [List.length_set, h.at_.ev.len], fun j e e1 n => ?_, fun j e e1 n => ?_, fun j k d1 d2 v n1 n2 ne e1 e2 e3 e4 => ?_⟩⟩, h.gr.upd en0, fun j e b n e1 e2 => ?_⟩
  · rcases at_set e1 with ⟨rfl, _⟩ | ⟨_, e2⟩
    · exact absurd hi n
    · exact h.at_.ev.val j e e2 n
  · rcases at_set e1 with ⟨rfl, rfl⟩ | ⟨hj, e2⟩
    · exact ⟨_, hs, a, o', rfl, upd_same, r, ga, ra⟩
    · obtain ⟨v, hv, b, ob, rfl, hb, rb, gb, rb'⟩ := h.at_.ev.own j e e2 n
      have hne : b ≠ a := fun z => by
        subst z
        exact h.at_.ev.sep j i e d _ n hi hj e2 he hv hs
      exact ⟨_, hv, b, ob, rfl, by rw [upd_ne hne]; exact hb, rb, gb, rb'⟩
  · obtain ⟨d1', e1'⟩ := some_at e1
    obtain ⟨d2', e2'⟩ := some_at e2
    exact h.at_.ev.sep j k d1' d2' v n1 n2 ne e1' e2' e3 e4
  · obtain ⟨e', e1'⟩ := some_at e1
    exact h.fr j e' b n e1' e2
theorem chOwn_post {W : WX} {fr : Bool} {De : Ends} {i : Nat} {f : List D → Option (List D)} (h : Here K mg en Ω G ρ env S σ H) (hi : i ∈ Ω) (p : PostS K mg W fr en Ω Ωl De G ρ (chOwn i f env S)) :
    ∃ xs ys a vs, env[i]? = some (some (.lst xs)) ∧ f xs = some ys ∧ σ[i]? = some (some (.ref a)) ∧ H a = some (.lst vs) ∧ RepL K mg G ρ xs vs ∧ vs.length ≤ sizeLine ∧ ∀ ws, RepL K mg G ρ ys ws → ws.length ≤ sizeLine → De.nx σ (upd H a (.lst ws)) := by
  unfold chOwn at p
  cases e : env[i]? with
  | none => simp only [e] at p; exact p.elim
  | some o =>
    cases o with
    | none => simp only [e] at p; exact p.elim
    | some d =>
      cases d with
      | lst xs =>
        simp only [e] at p
        obtain ⟨v, hv, a, o, rfl, ha, ro, ga, ra⟩ := h.at_.ev.own i _ e hi
        cases o with
        | lst vs =>
          cases hf : f xs with
          | none => simp only [hf] at p; exact p.elim
          | some ys =>
            simp only [hf] at p
            exact ⟨xs, ys, a, vs, rfl, hf, hv, ha, ro.2, ro.1, fun ws r z => p G ρ σ _ Le.refl (h.change (d' := .lst ys) (o' := .lst ws) hi e hv ha ga ra ⟨z, r⟩)⟩
        | _ => exact (show False from ro).elim
      | _ => simp only [e] at p; exact p.elim
end
/-- the list of one's own is there -/
def gd (i : Nat) (k : SM) : SM := fun e s => match e[i]? with
  | some (some (.lst _)) => k e s
  | _ => .bad
section
variable {X : Cx} {W : WX} {fr : Bool} {en : Ent} {Ω Ω1 Ω' Ωl Ω0 : List Nat} {st : Stmt} {sts sts2 : List Stmt} {m n : SM} {a b c e ej tg it : Expr} {ma mb mj : EM} {ml : LM} {tc : TM} {pos p1 p2 p3 : Pos} {x : Str} {i : Nat} {K : PySem.W.Frag} {mg : Str → Option Value}
theorem gd_post {G H : Hp} {ρ : List Addr} {S : Store} {env : Ev} {σ : L2.St} {De : Ends} {k : SM} (h : Here K mg en Ω G ρ env S σ H) (hi : i ∈ Ω) (p : PostS K mg W fr en Ω' Ωl De G ρ (gd i k env S)) :
    ∃ a vs, σ[i]? = some (some (.ref a)) ∧ H a = some (.lst vs) ∧ PostS K mg W fr en Ω' Ωl De G ρ (k env S) := by
  unfold gd at p
  cases e : env[i]? with
  | none => simp only [e] at p; exact p.elim
  | some o =>
    cases o with
    | none => simp only [e] at p; exact p.elim
    | some d =>
      cases d with
      | lst xs =>
        simp only [e] at p
        obtain ⟨v, hv, a, o, rfl, ha, ro, ga, ra⟩ := h.at_.ev.own i _ e hi
        cases o with
        | lst vs => exact ⟨a, vs, hv, ha, p⟩
        | _ => exact (show False from ro).elim
      | _ => simp only [e] at p; exact p.elim
theorem ckLen_some {xs ys : List D} (h : ckLen xs = some ys) : ys = xs ∧ xs.length ≤ sizeLine := by
  unfold ckLen at h
  by_cases hz : xs.length ≤ sizeLine
  · rw [if_pos hz] at h; cases h; exact ⟨rfl, hz⟩
  · rw [if_neg hz] at h; cases h
section
variable (hi : i ∈ Ω) (hN : X.N[i]? = some x) (hv : Vis X.env.scope x) (hd : (x == ("__debug__" : Str)) = false) (hcd : (x == ("__classdict__" : Str)) = false)
/-- xs.append(e) -/
theorem q_app (he : pV X W Ω e ma) (hi : i ∈ Ω := by decide) (hN : X.N[i]? = some x := by rfl) (hv : Vis X.env.scope x := by first | exact Or.inl rfl | exact Or.inr (Or.inl rfl) | exact Or.inr (Or.inr rfl)) (hd : (x == ("__debug__" : Str)) = false := by decide) (hcd : (x == ("__classdict__" : Str)) = false := by decide)
    (hbase : attributeBase (.Name x p1) "append" X.env (eval (.Name x p1) X.env) = eval (.Name x p1) X.env := by rfl) (hline : (p2.endLine == p3.line) = true := by rfl) (hs : starEach [e] X.env = (false, eval e X.env) :: starEach [] X.env := by rfl)
    (hfew : ((backTo p3 (starEach [e] X.env)).all (fun x => !x.1) && (backToKw p3 (keywordEach [] X.env)).all (fun x => x.1.isSome) && decide ([e].length + ([] : List Keyword).length + (if ([] : List Keyword).isEmpty then 0 else 1) < 30)) = true := by rfl)
    (hsw : swapsWith (.Call (.Attribute (.Name x p1) "append" p2) [e] [] p3) none pos.line X.env = pure false := by rfl) :
    qS X W fr en Ω Ω Ωl (.Expr (.Call (.Attribute (.Name x p1) "append" p2) [e] [] p3) pos) (gd i (sApp i ma)) :=
  ps_imp (ps_expr (pe_bm PySem.F.plainAttrs_list PySem.F.slot_list_append PySem.F.type_list_append mt_append (pv i hN hv hd hcd) (pa_cons he pa_nil hs) hbase hfew hline hs rfl) hsw) fun De σ H ⟨G, ρ, S, env, h, p⟩ => by
    obtain ⟨q, us, h1, h2, p⟩ := gd_post h hi p
    refine ⟨_, h1, .inl ⟨rfl, us, SqL.of h2⟩, ?_⟩
    exact here_post h p fun G1 ρ1 S1 H1 d v g h' r p1 => by
      obtain ⟨xs, ys, a, vs, e1, e2, e3, e4, e5, e6, fin⟩ := chOwn_post h' hi p1
      obtain ⟨rfl, hz⟩ := ckLen_some e2
      rw [h1] at e3; cases e3
      rw [List.length_append, List.length_singleton, e5.length] at hz
      exact ⟨q, vs, v, rfl, rfl, e4, by omega, fin (vs ++ [v]) (e5.append (.cons r .nil)) (by rw [List.length_append, List.length_singleton]; exact hz)⟩
/-- xs.extend(e), e a list -/
theorem q_ext (he : pO X W Ω e ma) (hi : i ∈ Ω := by decide) (hN : X.N[i]? = some x := by rfl) (hv : Vis X.env.scope x := by first | exact Or.inl rfl | exact Or.inr (Or.inl rfl) | exact Or.inr (Or.inr rfl)) (hd : (x == ("__debug__" : Str)) = false := by decide) (hcd : (x == ("__classdict__" : Str)) = false := by decide)
    (hbase : attributeBase (.Name x p1) "extend" X.env (eval (.Name x p1) X.env) = eval (.Name x p1) X.env := by rfl) (hline : (p2.endLine == p3.line) = true := by rfl) (hs : starEach [e] X.env = (false, eval e X.env) :: starEach [] X.env := by rfl)
    (hfew : ((backTo p3 (starEach [e] X.env)).all (fun x => !x.1) && (backToKw p3 (keywordEach [] X.env)).all (fun x => x.1.isSome) && decide ([e].length + ([] : List Keyword).length + (if ([] : List Keyword).isEmpty then 0 else 1) < 30)) = true := by rfl)
    (hsw : swapsWith (.Call (.Attribute (.Name x p1) "extend" p2) [e] [] p3) none pos.line X.env = pure false := by rfl) :
    qS X W fr en Ω Ω Ωl (.Expr (.Call (.Attribute (.Name x p1) "extend" p2) [e] [] p3) pos) (gd i (sExt i ma)) :=
  ps_imp (ps_expr (pe_bm PySem.F.plainAttrs_list PySem.F.slot_list_extend PySem.F.type_list_extend mt_extend (pv i hN hv hd hcd) (pa_cons he pa_nil hs) hbase hfew hline hs rfl) hsw) fun De σ H ⟨G, ρ, S, env, h, p⟩ => by
    obtain ⟨q, us, h1, h2, p⟩ := gd_post h hi p
    refine ⟨_, h1, .inl ⟨rfl, us, SqL.of h2⟩, ?_⟩
    exact here_post h p fun G1 ρ1 S1 H1 d v g h' r p1 => by
      cases d with
      | lst zs =>
        obtain ⟨b, ws, rfl, hb, rb, zb⟩ := RepO.lst r h'.at_.sub
        obtain ⟨xs, ys, a, vs, e1, e2, e3, e4, e5, e6, fin⟩ := chOwn_post h' hi p1
        obtain ⟨rfl, hz⟩ := ckLen_some e2
        rw [h1] at e3; cases e3
        rw [List.length_append, e5.length, rb.length] at hz
        exact ⟨q, b, vs, ws, rfl, rfl, e4, hb, hz, fin (vs ++ ws) (e5.append rb) (by rw [List.length_append]; exact hz)⟩
      | _ => exact (show False from p1).elim
/-- xs.insert(j, e) -/
theorem q_ins (hj : pO X W Ω ej mj) (he : pV X W Ω e ma) (hi : i ∈ Ω := by decide) (hN : X.N[i]? = some x := by rfl) (hv : Vis X.env.scope x := by first | exact Or.inl rfl | exact Or.inr (Or.inl rfl) | exact Or.inr (Or.inr rfl)) (hd : (x == ("__debug__" : Str)) = false := by decide) (hcd : (x == ("__classdict__" : Str)) = false := by decide)
    (hbase : attributeBase (.Name x p1) "insert" X.env (eval (.Name x p1) X.env) = eval (.Name x p1) X.env := by rfl) (hline : (p2.endLine == p3.line) = true := by rfl) (hs : starEach [ej, e] X.env = (false, eval ej X.env) :: starEach [e] X.env := by rfl) (hs2 : starEach [e] X.env = (false, eval e X.env) :: starEach [] X.env := by rfl)
    (hfew : ((backTo p3 (starEach [ej, e] X.env)).all (fun x => !x.1) && (backToKw p3 (keywordEach [] X.env)).all (fun x => x.1.isSome) && decide ([ej, e].length + ([] : List Keyword).length + (if ([] : List Keyword).isEmpty then 0 else 1) < 30)) = true := by rfl) (hpl : (backTo p3 (starEach [e] X.env)).any (·.1) = false := by rfl)
    (hsw : swapsWith (.Call (.Attribute (.Name x p1) "insert" p2) [ej, e] [] p3) none pos.line X.env = pure false := by rfl) :
    qS X W fr en Ω Ω Ωl (.Expr (.Call (.Attribute (.Name x p1) "insert" p2) [ej, e] [] p3) pos) (gd i (sIns i mj ma)) :=
  ps_imp (ps_expr (pe_bm PySem.F.plainAttrs_list PySem.F.slot_list_insert PySem.F.type_list_insert mt_insert (pv i hN hv hd hcd) (pa_cons hj (pa_cons he pa_nil hs2) hs) hbase hfew hline hs hpl) hsw) fun De σ H ⟨G, ρ, S, env, h, p⟩ => by
    obtain ⟨q, us, h1, h2, p⟩ := gd_post h hi p
    refine ⟨_, h1, .inl ⟨rfl, us, SqL.of h2⟩, ?_⟩
    refine here_post (k := fun j => sE ma (fun d e s => match j with
      | .int j => chOwn i (insAt j d) e s
      | _ => .bad) env) h p fun G1 ρ1 S1 H1 j w g h' rj p1 => ?_
    exact here_post h' p1 fun G2 ρ2 S2 H2 d v g2 h'' r p2 => by
      cases j with
      | int j =>
        obtain ⟨xs, ys, a, vs, e1, e2, e3, e4, e5, e6, fin⟩ := chOwn_post h'' hi p2
        unfold insAt at e2
        by_cases hz0 : 0 ≤ j ∧ j < 2 ^ 63
        · rw [if_pos hz0] at e2
          obtain ⟨rfl, hz⟩ := ckLen_some e2
          rw [h1] at e3; cases e3
          have hz' : vs.length + 1 ≤ sizeLine := by
            rw [← e5.length]
            simp only [List.length_append, List.length_cons, List.length_take, List.length_drop] at hz
            omega
          refine ⟨q, vs, j, v, rfl, by rw [RepO.int rj], e4, by omega, hz0.1, hz0.2, fin _ ?_ ?_⟩
          · rw [List.append_assoc]
            exact (e5.take _).append (.cons r (e5.drop _))
          · simp only [List.length_append, List.length_cons, List.length_take, List.length_drop, List.length_nil]
            omega
        · rw [if_neg hz0] at e2; cases e2
      | _ => exact (show False from p2).elim
/-- xs.reverse() -/
theorem q_rev (hi : i ∈ Ω := by decide) (hN : X.N[i]? = some x := by rfl) (hv : Vis X.env.scope x := by first | exact Or.inl rfl | exact Or.inr (Or.inl rfl) | exact Or.inr (Or.inr rfl)) (hd : (x == ("__debug__" : Str)) = false := by decide) (hcd : (x == ("__classdict__" : Str)) = false := by decide)
    (hbase : attributeBase (.Name x p1) "reverse" X.env (eval (.Name x p1) X.env) = eval (.Name x p1) X.env := by rfl) (hline : (p2.endLine == p3.line) = true := by rfl) (hsw : swapsWith (.Call (.Attribute (.Name x p1) "reverse" p2) [] [] p3) none pos.line X.env = pure false := by rfl) :
    qS X W fr en Ω Ω Ωl (.Expr (.Call (.Attribute (.Name x p1) "reverse" p2) [] [] p3) pos) (sRevI i) :=
  ps_imp (ps_expr (pe_bm0 PySem.F.plainAttrs_list PySem.F.slot_list_reverse PySem.F.type_list_reverse mt_reverse (pv i hN hv hd hcd) hbase hline) hsw) fun De σ H ⟨G, ρ, S, env, h, p⟩ => by
    obtain ⟨xs, ys, a, vs, e1, e2, e3, e4, e5, e6, fin⟩ := chOwn_post h hi p
    cases e2
    exact ⟨_, e3, .inl ⟨rfl, vs, SqL.of e4⟩, a, vs, rfl, rfl, e4, fin vs.reverse e5.reverse (by rw [List.length_reverse]; exact e6)⟩
/-- xs[j] = e, xs of one's own -/
theorem q_seti (he : pV X W Ω e ma) (hj : pO X W Ω ej mj) (hi : i ∈ Ω := by decide) (hN : X.N[i]? = some x := by rfl) (hv : Vis X.env.scope x := by first | exact Or.inl rfl | exact Or.inr (Or.inl rfl) | exact Or.inr (Or.inr rfl)) (hd : (x == ("__debug__" : Str)) = false := by decide) (hcd : (x == ("__classdict__" : Str)) = false := by decide)
    (ha : ∀ v, assign (.Subscript (.Name x p1) ej p2) X.env v = (do
      let ov ← holding [v] (eval (.Name x p1) X.env)
      let iv ← holding [v, ov] (eval ej X.env)
      standAt p2
      holding [v, ov, iv] (setItem ov iv v)
      release [v, ov, iv] []) := by intro _; rfl)
    (hs : swapsWithSole [.Subscript (.Name x p1) ej p2] e pos.line X.env = pure false := by rfl) (hw : swappedStores [.Subscript (.Name x p1) ej p2] e X.env = pure none := by rfl) (h1 : (assignEach [.Subscript (.Name x p1) ej p2] X.env).map (·.2) = [assign (.Subscript (.Name x p1) ej p2) X.env] := by rfl) :
    qS X W fr en Ω Ω Ωl (.Assign [.Subscript (.Name x p1) ej p2] e pos) (gd i (sSetI i ma mj)) :=
  ps_imp (ps_asg he (pg_sub (pv i hN hv hd hcd) hj set_list ha) hs hw h1) fun De σ H ⟨G, ρ, S, env, h, p⟩ => by
    obtain ⟨q, us, h1, h2, p⟩ := gd_post h hi p
    refine here_post (k := fun d => sE mj (fun j e s => match j with
      | .int j => chOwn i (setI j d) e s
      | _ => .bad) env) h p fun G1 ρ1 S1 H1 d v g h' r p1 => ?_
    refine ⟨_, h1, ?_⟩
    exact here_post h' p1 fun G2 ρ2 S2 H2 j w g2 h'' rj p2 => by
      cases j with
      | int j =>
        obtain ⟨xs, ys, a, vs, e1, e2, e3, e4, e5, e6, fin⟩ := chOwn_post h'' hi p2
        rw [h1] at e3; cases e3
        unfold setI at e2
        cases hk : ixN xs.length j with
        | none => rw [hk] at e2; cases e2
        | some k =>
          rw [hk] at e2
          cases e2
          rw [e5.length] at hk
          exact ⟨q, vs, j, k, rfl, RepO.int rj, e4, hk, fin (vs.set k v) (e5.set (Rep.mono g2.sub g2.pre r) k) (by rw [List.length_set]; exact e6)⟩
      | _ => exact (show False from p2).elim
end
/-- o[j] = e, o a shared list -/
theorem q_setr {eo : Expr} {mo : EM} (he : pV X W Ω e ma) (ho : pO X W Ω eo mo) (hj : pO X W Ω ej mj)
    (ha : ∀ v, assign (.Subscript eo ej p2) X.env v = (do
      let ov ← holding [v] (eval eo X.env)
      let iv ← holding [v, ov] (eval ej X.env)
      standAt p2
      holding [v, ov, iv] (setItem ov iv v)
      release [v, ov, iv] []) := by intro _; rfl)
    (hs : swapsWithSole [.Subscript eo ej p2] e pos.line X.env = pure false := by rfl) (hw : swappedStores [.Subscript eo ej p2] e X.env = pure none := by rfl) (h1 : (assignEach [.Subscript eo ej p2] X.env).map (·.2) = [assign (.Subscript eo ej p2) X.env] := by rfl) :
    qS X W fr en Ω Ω Ωl (.Assign [.Subscript eo ej p2] e pos) (sSetR ma mo mj) :=
  ps_imp (ps_asg he (pg_sub ho hj set_list ha) hs hw h1) fun De σ H ⟨G, ρ, S, env, h, p⟩ => by
    refine here_post (k := fun d => sE mo (fun o => sE mj fun j e s => match o, j with
      | .ref n, .int j => (match s[n]? with
        | some (.lst xs) => (match setI j d xs with
          | some ys => .nx e (s.set n (.lst ys))
          | none => .bad)
        | _ => .bad)
      | _, _ => .bad) env) h p fun G1 ρ1 S1 H1 d v g h' r p1 => ?_
    refine here_post (k := fun o => sE mj (fun j e s => match o, j with
      | .ref n, .int j => (match s[n]? with
        | some (.lst xs) => (match setI j d xs with
          | some ys => .nx e (s.set n (.lst ys))
          | none => .bad)
        | _ => .bad)
      | _, _ => .bad) env) h' p1 fun G2 ρ2 S2 H2 o w g2 h'' ro p2 => ?_
    exact here_post h'' p2 fun G3 ρ3 S3 H3 j u g3 h3 rj p3 => by
      cases o with
      | ref n =>
        cases j with
        | int j =>
          have ro' : Rep X.K X.mg G3 ρ3 (.ref n) w := by
            rcases RepO.grow ro g3 with z | ⟨a, o, rfl, _, z, _⟩
            · exact z
            · cases o <;> exact (show False from z).elim
          cases ro' with
          | ref hn =>
            rename_i a
            cases q : S3[n]? with
            | none => simp only [q] at p3; exact (show False from p3).elim
            | some so =>
              cases so with
              | ins _ _ => simp only [q] at p3; exact (show False from p3).elim
              | lst xs =>
                simp only [q] at p3
                obtain ⟨vs, hv, rv⟩ := h3.at_.st.obj n a _ hn q
                cases hs : setI j d xs with
                | none => simp only [hs] at p3; exact (show False from p3).elim
                | some ys =>
                  simp only [hs] at p3
                  unfold setI at hs
                  cases hk : ixN xs.length j with
                  | none => rw [hk] at hs; cases hs
                  | some k =>
                    rw [hk] at hs
                    cases hs
                    rw [rv.length] at hk
                    refine ⟨a, vs, j, k, rfl, RepO.int rj, hv, hk, ?_⟩
                    have rd : Rep X.K X.mg G3 ρ3 d v := Rep.mono (g2.sub.trans g3.sub) (fun n a e => g3.pre n a (g2.pre n a e)) r
                    have am : a ∈ ρ3 := List.mem_of_getElem? hn
                    have ga : G3 a = none := h3.at_.st.out a am
                    refine p3 G3 ρ3 σ _ Le.refl ⟨⟨same_upd h3.at_.sub ga, ⟨?_, h3.at_.st.nd, h3.at_.st.out, fun n' a' o' h1 h2 => ?_, h3.at_.st.tb.upd hv (fun ps z => by cases z) (fun q z => by unfold LamX.CodeO at z; cases z), h3.at_.st.gt⟩, ⟨h3.at_.ev.len, h3.at_.ev.val, fun j' e' h1 h2 => ?_, h3.at_.ev.sep⟩⟩, ?_, h3.fr⟩
                    · rw [List.length_set]; exact h3.at_.st.len
                    · by_cases hnn : n = n'
                      · subst hnn
                        rw [hn] at h1; cases h1
                        have hl : n < S3.length := (List.getElem?_eq_some_iff.mp q).1
                        rw [List.getElem?_set_self hl] at h2
                        cases h2
                        exact ⟨_, upd_same, rv.set rd k⟩
                      · rw [List.getElem?_set_ne hnn] at h2
                        refine (h3.at_.st.obj n' a' o' h1 h2).mono (Same.refl _) (fun _ _ e => e) (upd_ne fun z => ?_)
                        subst z
                        exact hnn (ix_nodup h3.at_.st.nd hn h1)
                    · obtain ⟨v', hv', b, ob, rfl, hb, rb, gb, rb'⟩ := h3.at_.ev.own j' e' h1 h2
                      have hne : b ≠ a := fun z => by subst z; exact rb' am
                      exact ⟨_, hv', b, ob, rfl, by rw [upd_ne hne]; exact hb, rb, gb, rb'⟩
                    · refine { h3.gr with keep := fun a' o' e1 e2 e3 => ?_, live := fun a' e1 => ?_ }
                      · have hne : a' ≠ a := fun z => by
                          subst z
                          rcases h3.gr.newr a' am with z | z
                          · exact e2 z
                          · rw [e1] at z; cases z
                        rw [upd_ne hne]
                        exact h3.gr.keep a' o' e1 e2 e3
                      · have hne : a' ≠ a := fun z => by subst z; rw [upd_same] at e1; cases e1
                        rw [upd_ne hne] at e1
                        exact h3.gr.live a' e1
        | _ => exact (show False from p3).elim
      | _ => exact (show False from p3).elim

/-! ### raise -/
theorem q_raise {ee : Expr} (hc : X.calm = true) (tk : Takes X W) (gC : X.mg x = some (.ref (He.ga X.K x))) (cC : clsB X.K x = true) (he : PMk X ee (fun _ H Q => Q (.ref (He.ga X.K x)) none H)) : qS X W fr en Ω Ω' Ωl (.Raise (some ee) none pos) (sRaise x) :=
  ps_imp (ps_raise hc tk he) fun De σ H ⟨G, ρ, S, env, h, p⟩ => by
    obtain ⟨G2, h2, sG⟩ := h.sub (Ω' := []) (fun j z => by cases z)
    exact p G2 ρ σ H (.ref (He.ga X.K x)) none ⟨sG, fun _ _ q => q⟩ h2 ⟨_, gC, rfl, rfl, cC, .inl ⟨rfl, rfl⟩⟩
end

/-! ### defs -/
def startE (N : List Str) (ds : List D) : Ev := ds.map some ++ List.replicate (N.length - ds.length) none
def endB (fr : Bool) : SR → Rs D
  | .nx _ s => if fr then .bad else .ok .non s
  | .ret d s => .ok d s
  | .exc x _ s => .exc x s
  | _ => .bad
def runB (fr : Bool) (N : List Str) (b : SM) (ds : List D) : M D := fun s => endB fr (b (startE N ds) s)
def spM (K : PySem.W.Frag) (mg : Str → Option Value) (fr : Bool) (n : Nat) (m : List D → M D) : Sp := fun vs H Q E => vs.length = n ∧ ∃ G ρ S ds, Same G H ∧ StOk K mg G ρ S H ∧ RepL K mg G ρ ds vs ∧ Post K mg (rRes K mg fr) E Q G ρ H (m ds S)
section
variable {P : Program} {w : World} {K : PySem.W.Frag} {mg : Str → Option Value} {base : Heap}
theorem start_ev {N : List Str} {G H : Hp} {ρ : List Addr} {ds : List D} {vs : List V} (r : RepL K mg G ρ ds vs) : EvOk K mg [] G ρ (startE N ds) (L2.start N vs) H where
  len := by
    unfold startE L2.start
    rw [List.length_append, List.length_append, List.length_map, List.length_map, List.length_replicate, List.length_replicate, r.length]
  val := fun j d e _ => by
    unfold startE at e
    unfold L2.start
    by_cases hj : j < ds.length
    · rw [List.getElem?_append_left (by rw [List.length_map]; exact hj), List.getElem?_map] at e
      rw [List.getElem?_append_left (by rw [List.length_map, ← r.length]; exact hj), List.getElem?_map]
      cases q : ds[j]? with
      | none => rw [q] at e; cases e
      | some d' =>
        rw [q] at e
        cases e
        obtain ⟨v, h1, h2⟩ := r.at q
        exact ⟨v, by rw [h1]; rfl, h2⟩
    · rw [List.getElem?_append_right (by rw [List.length_map]; omega), List.getElem?_replicate] at e
      split at e <;> cases e
  own := fun j d _ n => by cases n
  sep := fun j k d e v n => by cases n
/-- THE RULE for a def: by its body's derivation -/
theorem def_ok {x qual : Str} {params : Arguments} {body : List Stmt} {scope : Scope} {f : Addr} {fd : FuncData} {N ps : List Str} {k : Nat} {fr : Bool} {Ωe : List Nat} {b : SM} (F : FunD K x qual params body scope [] [] f fd) (S : FnScope N ps scope)
    (hb : ∀ (cdv : Value) (A : Around) (outer : List Env) (s : Shared) (H : Hp) (E : XK) (en : Ent), Room k (A.deeper (envOfC qual scope s.heap.objs.size f cdv)) →
      qB (cxOf (L2.CX P w) P w K mg base N qual scope f cdv A outer s H E) (fun c d _ H => E c d H) fr en [] Ωe [] body b) : FnOk P w K mg base (L2.CX P w) (k + 1) f fd ps (spM K mg fr ps.length (runB fr N b)) := by
  refine F.ok S (fun vs H Q E h => h.1) fun cdv A outer s H vs Q E hr h => ?_
  obtain ⟨_, G, ρ, St, ds, sm, st, r, post⟩ := h
  refine ⟨_, hb cdv A outer s H E ⟨G, ρ, H⟩ hr, G, ρ, St, startE N ds, ⟨⟨sm, st, start_ev r⟩, Grow.refl, fun j d a n => by cases n⟩, ?_⟩
  unfold runB endB at post
  cases e : b (startE N ds) St with
  | nx e' s' =>
    simp only [e] at post
    cases fr with
    | true => exact (show False from post).elim
    | false => exact fun G1 ρ1 σ1 H1 _ h1 => post G1 ρ1 H1 .non h1.at_.sub h1.gr h1.at_.st Rep.non
  | brk e' s' => simp only [e] at post; exact (show False from post).elim
  | cnt e' s' => simp only [e] at post; exact (show False from post).elim
  | ret d s' =>
    simp only [e] at post
    exact fun G1 ρ1 H1 v s1 g1 st1 r1 => post G1 ρ1 H1 v s1 g1 st1 r1
  | exc x e' s' =>
    simp only [e] at post
    exact fun G1 ρ1 σ1 H1 cls od _ h1 ex => post G1 ρ1 H1 cls od h1.at_.sub h1.gr h1.at_.st ex
  | bad => simp only [e] at post; exact post
/-- a def as callers take it -/
structure Df (P : Program) (w : World) (K : PySem.W.Frag) (mg : Str → Option Value) (base : Heap) (x : Str) (k : Nat) (fr : Bool) (n : Nat) (m : List D → M D) : Prop where
  ex : ∃ f fd ps, mg x = some (.ref f) ∧ PySem.W.keepIn K (.ref f) = true ∧ Binds K fd ps [] ∧ FnOk P w K mg base (L2.CX P w) k f fd ps (spM K mg fr n m)
theorem Df.mono {x : Str} {j k : Nat} {fr : Bool} {n : Nat} {m : List D → M D} (d : Df P w K mg base x j fr n m) (h : j ≤ k) : Df P w K mg base x k fr n m := by
  obtain ⟨f, fd, ps, h1, h2, h3, h4⟩ := d.ex
  exact ⟨⟨f, fd, ps, h1, h2, h3, h4.mono h⟩⟩
end
section
variable {X : Cx} {W : WX} {fr : Bool} {Ω : List Nat} {e : Expr} {es : List Expr} {ml : LM} {p pos : Pos} {x : Str} {k j n : Nat} {m : List D → M D}
theorem pe_callS0 {CX : CXT} {f : Addr} {fd : FuncData} {ps : List Str} {sp : Sp} {E : L2.St → XK} (F : FnOk X.prog X.w X.K X.mg X.base CX k f fd ps sp) (hr : Room k X.A) (hg : Gl X x) (hm : X.mg x = some (.ref f)) (hk : PySem.W.keepIn X.K (.ref f) = true) (hb : Binds X.K fd ps []) (hx : ∀ σ, PassesAt CX X σ (E σ))
    (hdb : (x == ("__debug__" : Str)) = false := by decide) : PE X (.Call (.Name x p) [] [] pos) (tCallS sp E tNil) := by
  refine ⟨fun pins s σ H Q I h => ?_⟩
  refine wpAny_Call_Name_kw (ld_glob I hg hm ?_ hdb)
  exact PySem.W.callWith_K0 I.kIn hk (run_fnS (us := []) F hr hb (hx σ) I .nil h)
theorem p_call (d : Df X.prog X.w X.K X.mg X.base x j fr n m) (hr : Room k X.A) (tk : Takes X W) (hg : Gl X x) (ha : pL X W Ω (e :: es) ml) (hn : (e :: es).length = n := by rfl) (hj : j ≤ k := by decide) (hdb : (x == ("__debug__" : Str)) = false := by decide)
    (he : starEach (e :: es) X.env = (false, eval e X.env) :: starEach es X.env := by rfl) (hpl : (backTo pos (starEach es X.env)).any (·.1) = false := by rfl) : PE X (.Call (.Name x p) (e :: es) [] pos) (tG X.K X.mg (rRes X.K X.mg fr) W Ω (eFn m ml)) := by
  obtain ⟨f, fd, ps, h1, h2, h3, h4⟩ := d.ex
  refine pe_imp (pe_callS h4 (hr.mono hj) hg h1 h2 h3 (passAt tk) ha hdb he hpl) fun σ H Q h => ?_
  exact tG.thn (k := fun xs _ => m xs) h fun G1 ρ1 S1 env H1 ds vs at1 r1 p1 => ⟨r1.2.trans hn, G1, ρ1, S1, ds, at1.sub, at1.st, r1.1, p1⟩
theorem p_call0 (d : Df X.prog X.w X.K X.mg X.base x j fr 0 m) (hr : Room k X.A) (tk : Takes X W) (hg : Gl X x) (hj : j ≤ k := by decide) (hdb : (x == ("__debug__" : Str)) = false := by decide) : PE X (.Call (.Name x p) [] [] pos) (tG X.K X.mg (rRes X.K X.mg fr) W Ω (eFn m lNil)) := by
  obtain ⟨f, fd, ps, h1, h2, h3, h4⟩ := d.ex
  refine pe_imp (pe_callS0 h4 (hr.mono hj) hg h1 h2 h3 (passAt tk) hdb) fun σ H Q h => ?_
  obtain ⟨G, ρ, S, env, at_, post⟩ := h
  exact ⟨rfl, G, ρ, S, [], at_.sub, at_.st, .nil, post⟩
end
end Mr
/-! The mirror layer, 10: texts' methods, facts of a def by its head, the pen, the law. -/
namespace Mr
open PySem PySem.Spec PyProof.Rows L2
section
variable {X : Cx} {W : WX} {Ω : List Nat} {a b c e o : Expr} {es : List Expr} {ma mb mc : EM} {ml : LM} {pos apos : Pos} {x : Str}
/-! ### join -/
def joinT (s : Tx) : List Tx → Tx
  | [] => []
  | [x] => x
  | x :: y :: r => x ++ s ++ joinT s (y :: r)
def textsOf : List D → Option (List Tx)
  | [] => some []
  | .str s :: r => (textsOf r).map (s :: ·)
  | _ => none
def joinLen (s : Tx) (l : List Tx) : Nat := (l.map List.length).sum + l.length * s.length
def fJoin : D → D → M D
  | .str s, .lst xs => (match textsOf xs with
    | some l => if joinLen s l ≤ 1000000 then pure (.str (joinT s l)) else bad
    | none => bad)
  | _, _ => bad
theorem join_toS (s : Tx) : ∀ l : List Tx, Txt.join (toS s) (l.map toS) = toS (joinT s l) := by
  intro l
  rw [TL.join_eq]
  induction l with
  | nil => rfl
  | cons x r ih =>
    cases r with
    | nil => rfl
    | cons y r =>
      show toS x ++ toS s ++ Str.join (toS s) (toS y :: r.map toS) = toS (x ++ s ++ joinT s (y :: r))
      rw [← toS_app, ← toS_app]
      congr 1
theorem joinT_len (s : Tx) : ∀ l : List Tx, (joinT s l).length ≤ joinLen s l
  | [] => by simp [joinT, joinLen]
  | [x] => by unfold joinLen joinT; simp
  | x :: y :: r => by
    have ih := joinT_len s (y :: r)
    unfold joinLen at ih ⊢
    unfold joinT
    simp only [List.length_append, List.map_cons, List.sum_cons, List.length_cons, Nat.add_mul, Nat.one_mul] at ih ⊢
    omega
theorem texts_rep {K : PySem.W.Frag} {mg : Str → Option Value} {G : Hp} {ρ : List Addr} : ∀ {ds : List D} {vs : List V} {l : List Tx}, RepL K mg G ρ ds vs → textsOf ds = some l → vs = (l.map toS).map V.str
  | _, _, _, .nil, h => by
    unfold textsOf at h
    cases h
    rfl
  | _, _, l, .cons r t, h => by
    cases r <;> try (unfold textsOf at h; cases h; done)
    unfold textsOf at h
    cases q : textsOf _ with
    | none => rw [q] at h; cases h
    | some l' =>
      rw [q] at h
      cases h
      rw [texts_rep t q]
      rfl
end
/-- a reading that is sure to be a text -/
def asS (d : D) : M D := match d with
  | .str s => pure (.str s)
  | _ => bad
def eMeth (g : D → D → M D) (a b : EM) : EM := fun env => a env >>= fun x => asS x >>= fun x => b env >>= fun y => g x y
section
variable {X : Cx} {W : WX} {Ω : List Nat} {a b c e o : Expr} {es : List Expr} {ma mb mc : EM} {ml : LM} {pos apos : Pos} {x : Str}
theorem pv_join (ho : pO X W Ω o ma) (he : pO X W Ω e mb) (hs : starEach [e] X.env = [(false, eval e X.env)] := by rfl) (hbase : attributeBase o "join" X.env (eval o X.env) = eval o X.env := by rfl) (hline : (apos.endLine == pos.line) = true := by rfl) :
    pV X W Ω (.Call (.Attribute o "join" apos) [e] [] pos) (eMeth fJoin ma mb) := pe_imp (pe_join ho he hs hbase hline) fun σ H Q h =>
  tG.thn (k := fun x env => asS x >>= fun x => mb env >>= fun y => fJoin x y) h fun G1 ρ1 S1 env H1 d v at1 r1 p1 => by
    cases d with
    | str s =>
      obtain ⟨rfl, hz⟩ := r1.str
      refine ⟨⟨_, rfl⟩, ?_⟩
      have p1 : Post X.K X.mg (rV X.K X.mg) (fun c d H => W c d σ H) Q G1 ρ1 H1 ((mb env >>= fun y => fJoin (.str s) y) S1) := p1
      refine p1.thn at1 fun G2 ρ2 S2 H2 e w g at2 r2 p2 => ?_
      cases e with
      | lst xs =>
        obtain ⟨q, vs, rfl, h1, r, z⟩ := r2.lst at2.sub
        unfold fJoin at p2
        cases ht : textsOf xs with
        | none => simp only [ht] at p2; exact (show False from p2).elim
        | some l =>
          simp only [ht] at p2
          by_cases hl : joinLen s l ≤ 1000000
          · simp only [if_pos hl] at p2
            refine ⟨toS s, q, l.map toS, rfl, rfl, .inl (SqL.of ((texts_rep r ht) ▸ h1)), ?_, ?_⟩
            · rw [List.map_map, List.length_map, toS_length]
              have e1 : ((fun x : Str => x.length) ∘ toS) = List.length := by funext z; exact toS_length z
              rw [e1]
              unfold joinLen at hl
              omega
            · rw [join_toS]
              exact Post.V (S := S2) (d := .str (joinT s l)) p2 at2.sub at2.st (.str _ (Nat.le_trans (joinT_len s l) (Nat.le_trans hl (by decide))))
          · simp only [if_neg hl] at p2; exact (show False from p2).elim
      | _ => exact (show False from p2).elim
    | _ => exact (show False from p1).elim
/-! ### a module's constants -/
theorem pv_gs (s : Tx) {z : Str} (hg : Gl X x) (hm : ∃ t, X.mg x = some (.str z t)) (h : toS s = z := by rfl) (hz : s.length ≤ sizeLine := by decide) (hd : (x == ("__debug__" : Str)) = false := by decide) : pV X W Ω (.Name x pos) (eC (.str s)) := by
  obtain ⟨t, hm⟩ := hm
  subst h
  exact pv_glob (v := .str (toS s)) hg hm ⟨t, rfl⟩ (fun _ _ => .str s hz) hd
theorem pv_gi {i : Int} (hg : Gl X x) (hm : ∃ t, X.mg x = some (.int i t)) (hd : (x == ("__debug__" : Str)) = false := by decide) : pV X W Ω (.Name x pos) (eC (.int i)) := by
  obtain ⟨t, hm⟩ := hm
  exact pv_glob (v := .int i) hg hm ⟨t, rfl⟩ (fun _ _ => .int i) hd
end
/-! ### facts of the head -/
structure Tt (K : PySem.W.Frag) (mg : Str → Option Value) (h : Heap) (fa : List He.Fa) (fn : List He.DefD) : Prop where
  X : K.In h
  G : h.Ns mainGlobals mg
  c : He.SaysD fa fn K
section
variable {P : Program} {w : World} {K : PySem.W.Frag} {mg : Str → Option Value} {base h : Heap} {fa : List He.Fa} {fn : List He.DefD}
theorem Tt.free (T : Tt K mg h fa fn) (i : Nat) {x : Str} (e : fa[i]? = some (.free x) := by rfl) : mg x = none := He.free_ok T.X T.G (T.c.fact i e)
theorem Tt.glo (T : Tt K mg h fa fn) (i : Nat) {x : Str} (e : fa[i]? = some (.glo x) := by rfl) : mg x = some (.ref (He.ga K x)) := He.glo_ok T.X T.G (T.c.fact i e)
theorem Tt.gs (T : Tt K mg h fa fn) (i : Nat) {x z : Str} (e : fa[i]? = some (.str x z) := by rfl) : ∃ t, mg x = some (.str z t) := He.str_ok T.X T.G (T.c.fact i e)
theorem Tt.gi (T : Tt K mg h fa fn) (i : Nat) {x : Str} {n : Int} (e : fa[i]? = some (.int x n) := by rfl) : ∃ t, mg x = some (.int n t) := He.int_ok T.X T.G (T.c.fact i e)
/-- a def by its row -/
theorem df_of {x qual : Str} {params : Arguments} {body : List Stmt} {scope : Scope} {f : Addr} {N ps : List Str} {k : Nat} {fr : Bool} {Ωe : List Nat} {b : SM} (hm : mg x = some (.ref f)) (F : ∃ fd, FunD K x qual params body scope [] [] f fd) (S : FnScope N ps scope)
    (bd : ∀ (kV doc pm : Value) (an : Option Addr) (cdv ct : Value) (us : List Value), us.length = ps.length → bindArgs (PySem.W.fnOf x qual params body scope .none kV doc pm an cdv ct) ⟨us, []⟩ = pure (ps.zip us))
    (hb : ∀ (cdv : Value) (A : Around) (outer : List Env) (s : Shared) (H : Hp) (E : XK) (en : Ent), Room k (A.deeper (envOfC qual scope s.heap.objs.size f cdv)) →
      qB (cxOf (L2.CX P w) P w K mg base N qual scope f cdv A outer s H E) (fun c d _ H => E c d H) fr en [] Ωe [] body b) : Df P w K mg base x (k + 1) fr ps.length (runB fr N b) := by
  obtain ⟨fd, F⟩ := F
  exact ⟨f, fd, ps, hm, F.kp, F.bindsN bd, def_ok F S hb⟩
/-! ### the pen -/
def spPen (K : PySem.W.Frag) : Sp := fun vs H Q _ => ∃ a ns, vs = [.ref a] ∧ SqL K H a (List.map V.int ns) ∧ ns.length ≤ 63 ∧
  ∀ H1 p, (∀ b u, H b = some u → H1 b = some u) → H1 p = some (.lst (ns.map V.int)) → H p = none → ∀ q, H1 q = none → Q (.ref q) (upd H1 q (.lst [.ref p, .int 0, .int 0]))
def t_pen (K : PySem.W.Frag) : TS := tRet (tLst (tCons (tCB (rListOf K) (tCons (tSl (rSlL K) (tVar 0) tNoPart (tPart (tC (.int 63)))) tNil)) (tCons (tC (.int 0)) (tCons (tC (.int 0)) tNil))))
theorem cut_all (xs : List V) (h : xs.length ≤ 63) : cutV xs none (some 63) = xs := by
  unfold cutV
  have e1 : HT.sIx xs.length 0 none = 0 := rfl
  have e2 : HT.sIx xs.length xs.length (some 63) = xs.length := by
    unfold HT.sIx
    simp
    omega
  rw [e1, e2]
  simp
theorem pen_pure {vs : List V} {H : Hp} {Q : VK} {E : XK} (h : spPen K vs H Q E) : t_pen K { nx := fun _ H' => Q .non H', rt := Q } (L2.start ["script"] vs) H := by
  obtain ⟨a, ns, rfl, hS, hl, hQ⟩ := h
  refine ⟨_, rfl, _, rfl, a, _, rfl, hS, fun p hp => ?_⟩
  rw [cut_all _ (by rw [List.length_map]; exact hl)]
  refine ⟨p, ns.map V.int, rfl, .inl (SqL.of upd_same), fun l hl' => ?_⟩
  refine ⟨by show 3 ≤ sizeLine; decide, fun q hq => ?_⟩
  have hlH : H l = none := by
    cases e : H l with
    | none => rfl
    | some u =>
      have hne : l ≠ p := fun z => by subst z; rw [hp] at e; cases e
      rw [upd_ne hne, e] at hl'
      cases hl'
  refine hQ _ l (fun b u e => ?_) upd_same hlH q hq
  have h1 : b ≠ p := fun z => by subst z; rw [hp] at e; cases e
  have h2 : b ≠ l := fun z => by subst z; rw [hlH] at e; cases e
  rw [upd_ne h2, upd_ne h1]
  exact e
theorem pen_ok {qual : Str} {params : Arguments} {body : List Stmt} {scope : Scope} {f : Addr} {fd : FuncData} (F : FunD K "_law_pen" qual params body scope [] [] f fd) (S : FnScope ["script"] ["script"] scope)
    (hb : ∀ (cdv : Value) (A : Around) (outer : List Env) (s : Shared) (H : Hp) (E : XK), Room 0 (A.deeper (envOfC qual scope s.heap.objs.size f cdv)) → PSs (cxOf (L2.CX P w) P w K mg base ["script"] qual scope f cdv A outer s H E) body (t_pen K)) :
    FnOk P w K mg base (L2.CX P w) 1 f fd ["script"] (spPen K) :=
  F.ok S (fun vs H Q E h => by obtain ⟨a, ns, rfl, _⟩ := h; rfl) fun cdv A outer s H vs Q E hr h => ⟨_, hb cdv A outer s H E hr, pen_pure h⟩
/-! ### the law -/
def pen0 (ns : List Int) : Store := [.lst [.lst (ns.map D.int), .int 0, .int 0]]
def startL (N : List Str) (ip : Nat) : Ev := (List.replicate N.length (none : Option D)).set ip (some (D.ref 0))
def spLaw (K : PySem.W.Frag) : Sp := fun vs H Q _ => ∃ a ns, vs = [.ref a] ∧ SqL K H a (List.map V.int ns) ∧ ns.length ≤ 63 ∧ TabsAll K H ∧ ∀ H', Q (.bl true) H'
theorem ints_rep {G : Hp} {ρ : List Addr} : ∀ ns : List Int, RepL K mg G ρ (ns.map D.int) (ns.map V.int)
  | [] => .nil
  | n :: ns => .cons (.int n) (ints_rep ns)
theorem law_start {N : List Str} {ip : Nat} {H H1 : Hp} {a p q : Addr} {ns : List Int} (hip : 0 < ip) (hN : 0 < N.length) (hl : ns.length ≤ 63) (ht : TabsAll K H) (k1 : ∀ b u, H b = some u → H1 b = some u) (k2 : H1 p = some (.lst (ns.map V.int))) (k3 : H p = none) (k4 : H1 q = none) :
    ∃ G, Here K mg ⟨fun _ => none, [], H⟩ [] G [q] (startL N ip) (pen0 ns) ((L2.start N [.ref a]).set ip (some (.ref q))) (upd H1 q (.lst [.ref p, .int 0, .int 0])) := by
  have qp : p ≠ q := fun z => by subst z; rw [k2] at k4; cases k4
  have hq : H q = none := by
    cases e : H q with
    | none => rfl
    | some u => rw [k1 _ _ e] at k4; cases k4
  refine ⟨upd (fun _ => none) p (.lst (ns.map V.int)), ⟨⟨fun b u e => ?_, ⟨rfl, by simp, fun b hb => ?_, fun n b o e1 e2 => ?_, ht.ext fun b o e => ?_, fun b ps e => ?_⟩, ⟨?_, fun j d e n => ?_, fun j d _ n => (by cases n), fun i j d e v n => (by cases n)⟩⟩, ⟨fun b u e => (by cases e), fun n b e => (by simp at e), fun b o e _ _ => ?_, fun b e => ?_, fun b o e => ?_, fun b hb => ?_⟩, fun j d b n => (by cases n)⟩⟩
  · by_cases hb : b = p
    · subst hb
      rw [upd_same] at e
      rw [upd_ne qp, k2]
      exact e
    · rw [upd_ne hb] at e; cases e
  · cases List.mem_singleton.mp hb
    rw [upd_ne qp.symm]
  · cases n with
    | zero =>
      simp at e1
      subst e1
      simp [pen0] at e2
      subst e2
      refine ⟨_, upd_same, .cons (.lst upd_same ?_ (ints_rep ns)) (.cons (.int 0) (.cons (.int 0) .nil))⟩
      rw [List.length_map]
      exact Nat.le_trans hl (by decide)
    | succ n => simp at e1
  · have hne : b ≠ q := fun z => by subst z; rw [hq] at e; cases e
    rw [upd_ne hne]
    exact k1 b o e
  · by_cases hb : b = p
    · subst hb; rw [upd_same] at e; cases e
    · rw [upd_ne hb] at e; cases e
  · unfold startL L2.start
    simp
    omega
  · unfold startL at e
    by_cases hj : ip = j
    · subst hj
      by_cases hlt : ip < N.length
      · rw [List.getElem?_set_self (by simpa using hlt)] at e
        cases e
        refine ⟨.ref q, ?_, .ref rfl⟩
        rw [List.getElem?_set_self]
        unfold L2.start
        simp
        omega
      · rw [List.getElem?_eq_none (by simp; omega)] at e; cases e
    · rw [List.getElem?_set_ne hj, List.getElem?_replicate] at e
      split at e <;> cases e
  · have e : H b = some o := e
    have hne : b ≠ q := fun z => by subst z; rw [hq] at e; cases e
    rw [upd_ne hne]
    exact k1 b o e
  · have hne : b ≠ q := fun z => by subst z; rw [upd_same] at e; cases e
    rw [upd_ne hne] at e
    show H b = none
    cases e2 : H b with
    | none => rfl
    | some u => rw [k1 _ _ e2] at e; cases e
  · by_cases hb : b = p
    · subst hb; exact .inr k3
    · rw [upd_ne hb] at e; cases e
  · cases List.mem_singleton.mp hb
    exact .inr hq
theorem law_ok {qual : Str} {params : Arguments} {body : List Stmt} {scope : Scope} {f : Addr} {fd : FuncData} {N : List Str} {ip k : Nat} {b : SM} {Ωe : List Nat} (F : FunD K "law" qual params body scope [] [] f fd) (S : FnScope N ["script"] scope) (hip : 0 < ip) (hN : 0 < N.length)
    (hb : ∀ (cdv : Value) (A : Around) (outer : List Env) (s : Shared) (H : Hp) (E : XK) (en : Ent), Room k (A.deeper (envOfC qual scope s.heap.objs.size f cdv)) →
      PSs (cxOf (L2.CX P w) P w K mg base N qual scope f cdv A outer s H E) body (tSeq (tAsg (tCallS (spPen K) (fun σ => fun c d H => E c d H) (tCons (tVar 0) tNil)) (gName ip)) (tS K mg (fun c d _ H => E c d H) false en [] Ωe [] b)))
    (main : ∀ ns : List Int, ns.length ≤ 63 → ∃ s, b (startL N ip) (pen0 ns) = .ret (.bl true) s) : FnOk P w K mg base (L2.CX P w) (k + 1) f fd ["script"] (spLaw K) := by
  refine F.ok S (fun vs H Q E h => by obtain ⟨a, ns, rfl, _⟩ := h; rfl) fun cdv A outer s H vs Q E hr h => ⟨_, hb cdv A outer s H E ⟨fun _ => none, [], H⟩ hr, ?_⟩
  obtain ⟨a, ns, rfl, hS, hl, hT, hQ⟩ := h
  refine ⟨.ref a, ?_, a, ns, rfl, hS, hl, fun H1 p k1 k2 k3 q k4 => ?_⟩
  · unfold L2.start
    simp
  obtain ⟨G, hh⟩ := law_start (K := K) (mg := mg) (N := N) (ip := ip) (a := a) hip hN hl hT k1 k2 k3 k4
  obtain ⟨s', e⟩ := main ns hl
  refine ⟨G, [q], pen0 ns, startL N ip, hh, ?_⟩
  rw [e]
  intro G2 ρ2 H2 v _ _ _ r
  have r : Rep K mg G2 ρ2 (.bl true) v := r
  cases r with
  | bl => exact hQ H2
/-- the end: by the def's promise -/
theorem walk_law {l : PySem.W.OpenLaw} {k : Nat} {q : Program} {loose : List Str} {XP : (Str → Option Value) → Heap → Prop} {YP : World → Heap → Prop} {d : DefRec} (hn : l.most = some 63) (hdf : d.params.defaults = []) (hr : Room k callerA)
    (F : ∀ (w : World) (mg : Str → Option Value) (fa : Addr) (h : Heap), YP w h → h.Ns mainGlobals mg → mg d.name = some (.ref fa) →
      ∃ (K : PySem.W.Frag) (fd : FuncData) (cs : List (Addr × Addr)), K.In h ∧ (∀ p ∈ cs, h.get? p.2 = some { cls := .none, data := .fields #[] }) ∧ (∀ p ∈ cs, K.lookup p.2 = none) ∧ (∀ p ∈ cs, PySem.W.CodeHd h p.1 p.2) ∧
        (∀ H : Hp, (∀ p ∈ cs, H p.2 = some (.tbl #[])) → TabsAll K H) ∧ (∀ (s : Shared) (u : Value), BindsTo s fd ⟨[u], []⟩ [("script", u)]) ∧
        ∀ base : Heap, K.In base → base.Ns mainGlobals mg → (∀ p ∈ cs, LamX.TabB base mg p.1 p.2) → FnOk l.prog w K mg base (L2.CX l.prog w) k fa fd ["script"] (spLaw K)) :
    PySem.W.WalkO q loose XP YP l.row.toRowW d [] (fun f vs => PySem.call f vs) := by
  refine Att.attach_callB hn hdf fun w s₀ s₁ mg mb fa o pm cd doc a vs ns G Y ho hd hcd hmg hobj hints hlen hbits hg => ?_
  obtain ⟨K, fd, cs, KX, c1, c2, c3, c4, hb, hF⟩ := F w mg fa _ Y G.T.g hmg
  exact LamX.law_callTs KX G.T.g G.T.b G.T.builtins G.T.nolimit hg c1 c2 c3 G.T.bmain hobj hints (Nat.le_trans hlen (by decide)) hr hF hb (fun H hH hS => ⟨a, ns, rfl, hS, hlen, c4 H hH, fun _ => rfl⟩) fun H e s' ⟨_, _, _, _, _, _, _, _, _, _, _, _, z⟩ => z
end
end Mr
/-! The mirror layer, 11: statements whose comprehension is stored at once. -/
namespace Mr
open PySem PySem.Spec PyProof.Rows L2
theorem _root_.L2.Room.u65 {k : Nat} {A : Around} (r : Room k A) : A.units + 65 < cLine := by have := r.un; omega
section
variable {X : Cx} {W : WX} {fr : Bool} {en : Ent} {Ω Ω1 Ω' Ωl : List Nat} {elt tg iter : Expr} {ifs : List Expr} {scope : Scope} {own : List (Str × Nat)} {mi : LM} {ct : TM} {mt : EM} {g : GM} {pos py spos : Pos} {y : Str} {i : Nat}
theorem q_setLc (hN : X.N.Nodup) (hy : X.N[i]? = some y) (hyl : X.env.scope.names.lookup y = some .local) (hg : GOk g (own.map (·.2))) (hi : pI X W Ω tg iter mi) (hΩ : ∀ i ∈ own.map (·.2), i ∉ Ω)
    (ht : ∀ (s : Shared) (H : Hp) (C : Addr) (cl : List (Str × Addr)) (fp : List Addr), pG (X.blk s H scope (compEnvC scope cl C X.env) fp) tg g)
    (hif : ∀ (s : Shared) (H : Hp) (C : Addr) (cl : List (Str × Addr)) (fp : List Addr), pTs (X.blk s H scope (compEnvC scope cl C X.env) fp) wNo Ω ifs ct)
    (he : ∀ (s : Shared) (H : Hp) (C : Addr) (cl : List (Str × Addr)) (fp : List Addr), pV (X.blk s H scope (compEnvC scope cl C X.env) fp) wNo Ω elt mt)
    (hc : X.calm = true := by rfl) (hiΩ : i ∉ Ω := by decide) (ok : BlkOk X.N X.env.scope scope own := by exact blkOk_by (by rfl)) (hk : X.env.scope.kind = .function := by rfl) (hl : (py.line == pos.line) = true := by rfl)
    (ha : (scope.names.any fun (n, k) => n == y && (k == .local || k == .cell)) = false := by rfl) (hs : ∀ x, foldedSetIterable iter X.env x = pure x := by intro _; rfl) :
    qS X W fr en Ω Ω Ωl (.Assign [.Name y py] (.ListComp elt [⟨tg, iter, ifs, 0⟩] scope pos) spos) (sSet i (eComp (own.map (·.2)) mi g ct mt)) :=
  q_set' (ps_setLc hc hN hy hyl (sw_true hk hyl hl ha) hi ok ht hif he hs) (fun _ _ _ h => t_lc fin_V hg hΩ h) hiΩ
theorem q_ownLc (hN : X.N.Nodup) (hy : X.N[i]? = some y) (hyl : X.env.scope.names.lookup y = some .local) (hm : ∀ j, j ∈ Ω' ↔ j = i ∨ j ∈ Ω) (hg : GOk g (own.map (·.2))) (hi : pI X W Ω tg iter mi) (hΩ : ∀ i ∈ own.map (·.2), i ∉ Ω)
    (ht : ∀ (s : Shared) (H : Hp) (C : Addr) (cl : List (Str × Addr)) (fp : List Addr), pG (X.blk s H scope (compEnvC scope cl C X.env) fp) tg g)
    (hif : ∀ (s : Shared) (H : Hp) (C : Addr) (cl : List (Str × Addr)) (fp : List Addr), pTs (X.blk s H scope (compEnvC scope cl C X.env) fp) wNo Ω ifs ct)
    (he : ∀ (s : Shared) (H : Hp) (C : Addr) (cl : List (Str × Addr)) (fp : List Addr), pV (X.blk s H scope (compEnvC scope cl C X.env) fp) wNo Ω elt mt)
    (hc : X.calm = true := by rfl) (ok : BlkOk X.N X.env.scope scope own := by exact blkOk_by (by rfl)) (hk : X.env.scope.kind = .function := by rfl) (hl : (py.line == pos.line) = true := by rfl)
    (ha : (scope.names.any fun (n, k) => n == y && (k == .local || k == .cell)) = false := by rfl) (hs : ∀ x, foldedSetIterable iter X.env x = pure x := by intro _; rfl) :
    qS X W fr en Ω Ω' Ωl (.Assign [.Name y py] (.ListComp elt [⟨tg, iter, ifs, 0⟩] scope pos) spos) (sSet i (eComp (own.map (·.2)) mi g ct mt)) :=
  q_own' (ps_setLc hc hN hy hyl (sw_true hk hyl hl ha) hi ok ht hif he hs) (fun _ _ _ h => t_lc fin_F hg hΩ h) hm
end
end Mr
/-! The mirror layer, 12: plain tools: what a mirror ends with. -/
namespace Mr
open PySem PySem.Spec PyProof.Rows L2
/-- m ends so or so -/
def wp {α : Type} (m : M α) (s : Store) (Φ : α → Store → Prop) (Ξ : Xc → Store → Prop) : Prop := match m s with
  | .ok a s' => Φ a s'
  | .exc x s' => Ξ x s'
  | .bad => False
section
variable {α β : Type} {m : M α} {s : Store} {Φ : α → Store → Prop} {Ψ : β → Store → Prop} {Ξ : Xc → Store → Prop}
@[simp] theorem wp_pure (a : α) : wp (pure a) s Φ Ξ = Φ a s := rfl
@[simp] theorem wp_bad : wp (bad : M α) s Φ Ξ = False := rfl
@[simp] theorem wp_raise (x : Xc) : wp (raise x : M α) s Φ Ξ = Ξ x s := rfl
@[simp] theorem wp_bind (k : α → M β) : wp (m >>= k) s Ψ Ξ = wp m s (fun a s' => wp (k a) s' Ψ Ξ) Ξ := by
  unfold wp
  rw [bind_app]
  cases m s <;> rfl
theorem wp_ok {a : α} {s' : Store} (h : m s = .ok a s') : wp m s Φ Ξ = Φ a s' := by unfold wp; rw [h]
theorem wp_mono {Φ' : α → Store → Prop} {Ξ' : Xc → Store → Prop} (h : wp m s Φ' Ξ') (h1 : ∀ a s', Φ' a s' → Φ a s') (h2 : ∀ x s', Ξ' x s' → Ξ x s') : wp m s Φ Ξ := by
  unfold wp at h ⊢
  cases e : m s with
  | ok a s' => rw [e] at h; exact h1 _ _ h
  | exc x s' => rw [e] at h; exact h2 _ _ h
  | bad => rw [e] at h; exact h
theorem wp_ite (c : Prop) [Decidable c] (m n : M α) : wp (if c then m else n) s Φ Ξ = if c then wp m s Φ Ξ else wp n s Φ Ξ := by split <;> rfl
@[simp] theorem wp_iteB (c : Bool) (m n : M α) : wp (if c = true then m else n) s Φ Ξ = if c = true then wp m s Φ Ξ else wp n s Φ Ξ := by split <;> rfl
theorem noX_ok {a : α} {s' : Store} (h : m s = .ok a s') : noX m s = .ok a s' := by unfold noX; rw [h]
@[simp] theorem wp_noX : wp (noX m) s Φ Ξ = wp m s Φ fun _ _ => False := by
  unfold wp noX
  cases m s <;> rfl
theorem of_wp {P : α → Store → Prop} (h : wp m s P fun _ _ => False) : ∃ a s', m s = .ok a s' ∧ P a s' := by
  unfold wp at h
  cases e : m s with
  | ok a s' => rw [e] at h; exact ⟨a, s', rfl, h⟩
  | exc x s' => rw [e] at h; exact h.elim
  | bad => rw [e] at h; exact h.elim
end
/-- what is wanted behind a block -/
structure Kt where
  nx : Ev → Store → Prop
  rt : D → Store → Prop
  bk : Ev → Store → Prop := fun _ _ => False
  ct : Ev → Store → Prop := fun _ _ => False
  ex : Xc → Ev → Store → Prop := fun _ _ _ => False
def wpR (r : SR) (k : Kt) : Prop := match r with
  | .nx e s => k.nx e s
  | .ret d s => k.rt d s
  | .brk e s => k.bk e s
  | .cnt e s => k.ct e s
  | .exc x e s => k.ex x e s
  | .bad => False
def wpS (b : SM) (e : Ev) (s : Store) (k : Kt) : Prop := wpR (b e s) k
section
variable {e : Ev} {s : Store} {k : Kt} {a b : SM} {m : EM} {i : Nat}
theorem wpS_sE {α : Type} (m : Ev → M α) (f : α → Ev → Store → SR) : wpS (sE m f) e s k = wp (m e) s (fun a s' => wpR (f a e s') k) (fun x s' => k.ex x e s') := by
  unfold wpS sE wp
  cases m e s <;> rfl
@[simp] theorem wpS_seq : wpS (sSeq a b) e s k = wpS a e s { k with nx := fun e' s' => wpS b e' s' k } := by
  unfold wpS sSeq
  cases a e s <;> rfl
@[simp] theorem wpS_nx : wpS sNext e s k = k.nx e s := rfl
@[simp] theorem wpS_brk : wpS sBrk e s k = k.bk e s := rfl
@[simp] theorem wpS_cnt : wpS sCnt e s k = k.ct e s := rfl
@[simp] theorem wpS_drop {α : Type} (m : Ev → M α) : wpS (sDrop m) e s k = wp (m e) s (fun _ s' => k.nx e s') (fun x s' => k.ex x e s') := wpS_sE _ _
@[simp] theorem wpS_set : wpS (sSet i m) e s k = wp (m e) s (fun d s' => k.nx (e.set i (some d)) s') (fun x s' => k.ex x e s') := wpS_sE _ _
@[simp] theorem wpS_ret : wpS (sRet m) e s k = wp (m e) s (fun d s' => k.rt d s') (fun x s' => k.ex x e s') := wpS_sE _ _
@[simp] theorem wpS_retN : wpS sRetN e s k = k.rt .non s := rfl
@[simp] theorem wpS_raise (c : Str) : wpS (sRaise c) e s k = k.ex ⟨c, []⟩ e s := rfl
@[simp] theorem wpS_if (c : TM) : wpS (sIf c a b) e s k = wp (c e) s (fun t s' => if t = true then wpS a e s' k else wpS b e s' k) (fun x s' => k.ex x e s') := by
  unfold sIf
  rw [wpS_sE]
  congr 1
  funext t s'
  cases t <;> rfl
@[simp] theorem wpS_unp (g : GM) : wpS (sUnp g m) e s k = wp (m e) s (fun d s' => match g d with
    | some l => k.nx (setAll l e) s'
    | none => False) (fun x s' => k.ex x e s') := by
  unfold sUnp
  rw [wpS_sE]
  congr 1
  funext d s'
  cases g d <;> rfl
@[simp] theorem wpS_for (it : LM) (g : GM) : wpS (sFor it g b) e s k = wp (it e) s (fun ds s' => wpS (forL g b ds) e s' k) (fun x s' => k.ex x e s') := wpS_sE _ _
@[simp] theorem wpS_forNil (g : GM) : wpS (forL g b []) e s k = k.nx e s := rfl
theorem wpS_forCons (g : GM) (d : D) (ds : List D) : wpS (forL g b (d :: ds)) e s k = (match g d with
    | none => False
    | some l => wpS b (setAll l e) s { k with nx := fun e' s' => wpS (forL g b ds) e' s' k, ct := fun e' s' => wpS (forL g b ds) e' s' k, bk := k.nx }) := by
  unfold wpS
  rw [forL]
  cases g d with
  | none => rfl
  | some l => simp only; cases b (setAll l e) s <;> rfl
theorem wpS_forOne (d : D) (ds : List D) : wpS (forL (gOne i) b (d :: ds)) e s k = wpS b (e.set i (some d)) s { k with nx := fun e' s' => wpS (forL (gOne i) b ds) e' s' k, ct := fun e' s' => wpS (forL (gOne i) b ds) e' s' k, bk := k.nx } := wpS_forCons ..
theorem wpS_mono {k' : Kt} (h : wpS b e s k') (h1 : ∀ e s, k'.nx e s → k.nx e s) (h2 : ∀ d s, k'.rt d s → k.rt d s) (h3 : ∀ e s, k'.bk e s → k.bk e s) (h4 : ∀ e s, k'.ct e s → k.ct e s) (h5 : ∀ x e s, k'.ex x e s → k.ex x e s) : wpS b e s k := by
  unfold wpS at h ⊢
  cases q : b e s <;> rw [q] at h
  · exact h1 _ _ h
  · exact h3 _ _ h
  · exact h4 _ _ h
  · exact h2 _ _ h
  · exact h5 _ _ _ h
  · exact h
/-- a loop by what holds ahead of each turn -/
theorem for_inv {g : GM} {ds : List D} (I : Nat → Ev → Store → Prop) (h0 : I 0 e s) (step : ∀ (j : Nat) (d : D) (e : Ev) (s : Store), ds[j]? = some d → I j e s → ∃ l, g d = some l ∧ wpS b (setAll l e) s { k with nx := I (j + 1), ct := I (j + 1), bk := k.nx }) (fin : ∀ e s, I ds.length e s → k.nx e s) :
    wpS (forL g b ds) e s k := by
  induction ds generalizing e s I with
  | nil => exact fin e s h0
  | cons d ds ih =>
    rw [wpS_forCons]
    obtain ⟨l, hl, h⟩ := step 0 d e s rfl h0
    rw [hl]
    refine wpS_mono h (fun e s h => ?_) (fun _ _ z => z) (fun _ _ z => z) (fun e s h => ?_) (fun _ _ _ z => z)
    · exact ih (fun j => I (j + 1)) h (fun j d' e s h1 h2 => step (j + 1) d' e s h1 h2) fin
    · exact ih (fun j => I (j + 1)) h (fun j d' e s h1 h2 => step (j + 1) d' e s h1 h2) fin
theorem for_one {ds : List D} (I : Nat → Ev → Store → Prop) (h0 : I 0 e s) (step : ∀ (j : Nat) (d : D) (e : Ev) (s : Store), ds[j]? = some d → I j e s → wpS b (e.set i (some d)) s { k with nx := I (j + 1), ct := I (j + 1), bk := k.nx }) (fin : ∀ e s, I ds.length e s → k.nx e s) :
    wpS (forL (gOne i) b ds) e s k := for_inv I h0 (fun j d e s h1 h2 => ⟨_, rfl, step j d e s h1 h2⟩) fin
/-- a while by what holds ahead of each turn, the turns left told -/
theorem wpS_while0 (c : TM) (n : Nat) : wpS (sWhile c b (n + 1)) e s k = wp (c e) s (fun t s' => if t = true then wpS b e s' { k with nx := fun e' s' => wpS (sWhile c b n) e' s' k, ct := fun e' s' => wpS (sWhile c b n) e' s' k, bk := k.nx } else k.nx e s') (fun x s' => k.ex x e s') := by
  have e1 : sWhile c b (n + 1) e s = (match c e s with
    | .ok true s' => (match b e s' with
      | .nx e2 s2 => sWhile c b n e2 s2
      | .cnt e2 s2 => sWhile c b n e2 s2
      | .brk e2 s2 => .nx e2 s2
      | r => r)
    | .ok false s' => .nx e s'
    | .exc x s' => .exc x e s'
    | .bad => .bad) := rfl
  unfold wpS wp
  rw [e1]
  generalize c e s = r
  cases r with
  | ok t s' =>
    cases t with
    | true =>
      show wpR (match b e s' with
      | .nx e2 s2 => sWhile c b n e2 s2
      | .cnt e2 s2 => sWhile c b n e2 s2
      | .brk e2 s2 => .nx e2 s2
      | r => r) k = wpR (b e s') { k with nx := fun e' s' => wpR (sWhile c b n e' s') k, ct := fun e' s' => wpR (sWhile c b n e' s') k, bk := k.nx }
      generalize b e s' = q
      cases q <;> rfl
    | false => rfl
  | exc x s' => rfl
  | bad => rfl
theorem while_inv {c : TM} (I : Nat → Ev → Store → Prop) (step : ∀ (n : Nat) (e : Ev) (s : Store), I n e s → wp (c e) s (fun t s' => if t = true then 0 < n ∧ wpS b e s' { k with nx := I (n - 1), ct := I (n - 1), bk := k.nx } else k.nx e s') (fun x s' => k.ex x e s')) {n : Nat} (fuel : Nat) (hf : n < fuel) (h0 : I n e s) :
    wpS (sWhile c b fuel) e s k := by
  induction fuel generalizing n e s with
  | zero => omega
  | succ f ih =>
    rw [wpS_while0]
    refine wp_mono (step n e s h0) (fun t s' h => ?_) (fun _ _ z => z)
    cases t with
    | true =>
      simp only [if_true] at h ⊢
      refine wpS_mono h.2 (fun e s h2 => ?_) (fun _ _ z => z) (fun _ _ z => z) (fun e s h2 => ?_) (fun _ _ _ z => z)
      · exact ih (n := n - 1) (by omega) h2
      · exact ih (n := n - 1) (by omega) h2
    | false => simpa using h
/-- a def's mirror -/
@[simp] theorem wp_run (fr : Bool) (N : List Str) (ds : List D) (Φ : D → Store → Prop) (Ξ : Xc → Store → Prop) : wp (runB fr N b ds) s Φ Ξ = wpS b (startE N ds) s { nx := fun _ s' => if fr = true then False else Φ .non s', rt := Φ, ex := fun x _ s' => Ξ x s' } := by
  unfold wp runB wpS endB
  cases b (startE N ds) s with
  | nx e' s' => cases fr <;> rfl
  | _ => rfl
theorem law_of {b : SM} (h : wpS b e s { nx := fun _ _ => False, rt := fun d _ => d = .bl true }) : ∃ s', b e s = .ret (.bl true) s' := by
  unfold wpS at h
  cases q : b e s <;> rw [q] at h <;> first | exact (show False from h).elim | skip
  exact ⟨_, by rw [show _ = D.bl true from h]⟩
end
/-! ### expressions -/
section
variable {e : Ev} {s : Store} {Φ : D → Store → Prop} {Ψ : List D → Store → Prop} {Θ : Bool → Store → Prop} {Ξ : Xc → Store → Prop}
@[simp] theorem wp_eC (d : D) : wp (eC d e) s Φ Ξ = Φ d s := rfl
theorem wp_eVar (i : Nat) {d : D} (h : e[i]? = some (some d)) : wp (eVar i e) s Φ Ξ = Φ d s := by unfold eVar; rw [h]; rfl
@[simp] theorem eVar_def (i : Nat) : eVar i e = (match e[i]? with
  | some (some d) => pure d
  | _ => bad) := rfl
@[simp] theorem wp_eBin (op : D → D → M D) (a b : EM) : wp (eBin op a b e) s Φ Ξ = wp (a e) s (fun x s => wp (b e) s (fun y s => wp (op x y) s Φ Ξ) Ξ) Ξ := by unfold eBin; simp only [wp_bind]
@[simp] theorem wp_eUn (op : D → M D) (a : EM) : wp (eUn op a e) s Φ Ξ = wp (a e) s (fun x s => wp (op x) s Φ Ξ) Ξ := by unfold eUn; simp only [wp_bind]
@[simp] theorem wp_eFn (f : List D → M D) (l : LM) : wp (eFn f l e) s Φ Ξ = wp (l e) s (fun x s => wp (f x) s Φ Ξ) Ξ := by unfold eFn; simp only [wp_bind]
@[simp] theorem wp_lNil : wp (lNil e) s Ψ Ξ = Ψ [] s := rfl
@[simp] theorem wp_lCons (a : EM) (r : LM) : wp (lCons a r e) s Ψ Ξ = wp (a e) s (fun x s => wp (r e) s (fun xs s => Ψ (x :: xs) s) Ξ) Ξ := by unfold lCons; simp only [wp_bind, wp_pure]
@[simp] theorem wp_eTup (l : LM) : wp (eTup l e) s Φ Ξ = wp (l e) s (fun x s => Φ (.tup x) s) Ξ := by unfold eTup; simp only [wp_bind, wp_pure]
@[simp] theorem wp_eLst (l : LM) : wp (eLst l e) s Φ Ξ = wp (l e) s (fun x s => Φ (.lst x) s) Ξ := by unfold eLst; simp only [wp_bind, wp_pure]
@[simp] theorem wp_eNew (l : LM) : wp (eNew l e) s Φ Ξ = wp (l e) s (fun x s => Φ (.ref s.length) (s ++ [.lst x])) Ξ := wp_bind (m := l e) (k := fun xs => (fun s => Rs.ok (D.ref s.length) (s ++ [SO.lst xs]) : M D))
@[simp] theorem wp_eSl (a : EM) (lo hi : PM) : wp (eSl a lo hi e) s Φ Ξ = wp (a e) s (fun x s => wp (lo e) s (fun l s => wp (hi e) s (fun h s => wp (opSl x l h) s Φ Ξ) Ξ) Ξ) Ξ := by unfold eSl; simp only [wp_bind]
@[simp] theorem wp_pNo {Φ : Option Int → Store → Prop} : wp (pNo e) s Φ Ξ = Φ none s := rfl
@[simp] theorem wp_pSome (m : EM) {Φ : Option Int → Store → Prop} : wp (pSome m e) s Φ Ξ = wp (m e) s (fun d s => wp (asI d) s Φ Ξ) Ξ := by unfold pSome; simp only [wp_bind]
@[simp] theorem wp_tBin (op : D → D → M D) (a b : EM) : wp (tBin op a b e) s Θ Ξ = wp (a e) s (fun x s => wp (b e) s (fun y s => wp (op x y) s (fun d s => wp (unB d) s Θ Ξ) Ξ) Ξ) Ξ := by unfold tBin; simp only [wp_bind]
@[simp] theorem wp_tChn (op op' : D → D → M D) (a b c : EM) : wp (tChn op op' a b c e) s Θ Ξ = wp (a e) s (fun x s => wp (b e) s (fun y s => wp (op x y) s (fun d s => wp (unB d) s (fun k s => if k = true then wp (c e) s (fun z s => wp (op' y z) s (fun d s => wp (unB d) s Θ Ξ) Ξ) Ξ else Θ false s) Ξ) Ξ) Ξ) Ξ := by
  unfold tChn; simp only [wp_bind, wp_iteB, wp_pure]
@[simp] theorem wp_eChain (op op' : D → D → M D) (a b c : EM) : wp (eChain op op' a b c e) s Φ Ξ = wp (a e) s (fun x s => wp (b e) s (fun y s => wp (op x y) s (fun d s => wp (unB d) s (fun k s => if k = true then wp (c e) s (fun z s => wp (op' y z) s Φ Ξ) Ξ else Φ (.bl false) s) Ξ) Ξ) Ξ) Ξ := by
  unfold eChain; simp only [wp_bind, wp_iteB, wp_pure]
@[simp] theorem wp_tVal (m : EM) : wp (tVal m e) s Θ Ξ = wp (m e) s (fun d s => wp (tru d) s Θ Ξ) Ξ := by unfold tVal; simp only [wp_bind]
@[simp] theorem wp_tAnd (a b : TM) : wp (tAnd' a b e) s Θ Ξ = wp (a e) s (fun k s => if k = true then wp (b e) s Θ Ξ else Θ false s) Ξ := by unfold tAnd'; simp only [wp_bind, wp_iteB, wp_pure]
@[simp] theorem wp_tOr (a b : TM) : wp (tOr' a b e) s Θ Ξ = wp (a e) s (fun k s => if k = true then Θ true s else wp (b e) s Θ Ξ) Ξ := by unfold tOr'; simp only [wp_bind, wp_iteB, wp_pure]
@[simp] theorem wp_tNot (a : TM) : wp (tNot' a e) s Θ Ξ = wp (a e) s (fun k s => Θ (!k) s) Ξ := by unfold tNot'; simp only [wp_bind, wp_pure]
@[simp] theorem wp_eAnd (a b : EM) : wp (eAnd a b e) s Φ Ξ = wp (a e) s (fun x s => wp (tru x) s (fun k s => if k = true then wp (b e) s Φ Ξ else Φ x s) Ξ) Ξ := by unfold eAnd; simp only [wp_bind, wp_iteB, wp_pure]
@[simp] theorem wp_eOr (a b : EM) : wp (eOr a b e) s Φ Ξ = wp (a e) s (fun x s => wp (tru x) s (fun k s => if k = true then Φ x s else wp (b e) s Φ Ξ) Ξ) Ξ := by unfold eOr; simp only [wp_bind, wp_iteB, wp_pure]
@[simp] theorem wp_eNot (a : EM) : wp (eNot a e) s Φ Ξ = wp (a e) s (fun x s => wp (tru x) s (fun k s => Φ (.bl (!k)) s) Ξ) Ξ := by unfold eNot; simp only [wp_bind, wp_pure]
@[simp] theorem wp_eIf (t : TM) (a b : EM) : wp (eIf t a b e) s Φ Ξ = wp (t e) s (fun k s => if k = true then wp (a e) s Φ Ξ else wp (b e) s Φ Ξ) Ξ := by unfold eIf; simp only [wp_bind, wp_iteB]
@[simp] theorem wp_eMeth (g : D → D → M D) (a b : EM) : wp (eMeth g a b e) s Φ Ξ = wp (a e) s (fun x s => wp (asS x) s (fun x s => wp (b e) s (fun y s => wp (g x y) s Φ Ξ) Ξ) Ξ) Ξ := by unfold eMeth; simp only [wp_bind]
@[simp] theorem wp_iSeq (m : EM) : wp (iSeq m e) s Ψ Ξ = wp (m e) s (fun d s => wp (seqOf d) s Ψ Ξ) Ξ := by unfold iSeq; simp only [wp_bind]
@[simp] theorem wp_iRng (m : EM) : wp (iRng m e) s Ψ Ξ = wp (m e) s (fun d s => wp (rng1 d) s Ψ Ξ) Ξ := by unfold iRng; simp only [wp_bind]
@[simp] theorem wp_iRng2 (a b : EM) : wp (iRng2' a b e) s Ψ Ξ = wp (a e) s (fun x s => wp (b e) s (fun y s => wp (rng2 x y) s Ψ Ξ) Ξ) Ξ := by unfold iRng2'; simp only [wp_bind]
@[simp] theorem wp_iRevs (m : EM) : wp (iRevs m e) s Ψ Ξ = wp (m e) s (fun d s => wp (revOf d) s Ψ Ξ) Ξ := by unfold iRevs; simp only [wp_bind]
@[simp] theorem wp_eComp (sl : List Nat) (it : LM) (g : GM) (c : TM) (t : EM) : wp (eComp sl it g c t e) s Φ Ξ = wp (it e) s (fun ds s => wp (compM sl g c t e ds) s (fun ys s => Φ (.lst ys) s) Ξ) Ξ := by unfold eComp; simp only [wp_bind, wp_pure]
@[simp] theorem wp_cYes : wp (cYes e) s Θ Ξ = Θ true s := rfl
/-- a comprehension by what holds ahead of each turn -/
theorem comp_inv {sl : List Nat} {g : GM} {c : TM} {t : EM} {ds : List D} (I : Nat → List D → Store → Prop) (h0 : I 0 [] s) (step : ∀ (j : Nat) (d : D) (acc : List D) (s : Store), ds[j]? = some d → I j acc s →
    ∃ l, g d = some l ∧ wp (c (setAll l (wipeE e sl))) s (fun k s => if k = true then wp (t (setAll l (wipeE e sl))) s (fun y s => I (j + 1) (acc ++ [y]) s) (fun _ _ => False) else I (j + 1) acc s) (fun _ _ => False)) (fin : ∀ ys s, I ds.length ys s → Ψ ys s) : wp (compM sl g c t e ds) s Ψ Ξ := by
  have main : ∀ (ds : List D) (I : Nat → List D → Store → Prop) (acc : List D) (s : Store) (Ψ : List D → Store → Prop), I 0 acc s → (∀ (j : Nat) (d : D) (acc : List D) (s : Store), ds[j]? = some d → I j acc s →
    ∃ l, g d = some l ∧ wp (c (setAll l (wipeE e sl))) s (fun k s => if k = true then wp (t (setAll l (wipeE e sl))) s (fun y s => I (j + 1) (acc ++ [y]) s) (fun _ _ => False) else I (j + 1) acc s) (fun _ _ => False)) → (∀ ys s, I ds.length ys s → Ψ ys s) → wp (compM sl g c t e ds) s (fun ys s => Ψ (acc ++ ys) s) Ξ := by
    intro ds
    induction ds with
    | nil =>
      intro I acc s Ψ h0 _ fin
      show Ψ (acc ++ []) s
      rw [List.append_nil]
      exact fin acc s h0
    | cons d ds ih =>
      intro I acc s Ψ h0 step fin
      obtain ⟨l, hl, h⟩ := step 0 d acc s rfl h0
      rw [compM, hl]
      simp only [wp_bind, wp_noX]
      refine wp_mono h (fun k s h => ?_) (fun _ _ z => z.elim)
      cases k with
      | true =>
        simp only [if_true, wp_bind, wp_noX, wp_pure] at h ⊢
        refine wp_mono h (fun y s h => ?_) (fun _ _ z => z.elim)
        refine wp_mono (ih (fun j => I (j + 1)) (acc ++ [y]) s Ψ h (fun j d acc s h1 h2 => step (j + 1) d acc s h1 h2) fin) (fun ys s h => ?_) (fun _ _ z => z)
        rw [List.append_assoc] at h
        exact h
      | false =>
        simp only [Bool.false_eq_true, if_false] at h ⊢
        exact ih (fun j => I (j + 1)) acc s Ψ h (fun j d acc s h1 h2 => step (j + 1) d acc s h1 h2) fin
  have := main ds I [] s Ψ h0 step fin
  simpa using this
/-- .. what changes nothing -/
theorem comp_map {sl : List Nat} {i : Nat} {c : TM} {t : EM} {ds : List D} (f : D → D) (p : D → Bool) (h : ∀ d ∈ ds, wp (c ((wipeE e sl).set i (some d))) s (fun k s' => s' = s ∧ k = p d) (fun _ _ => False) ∧ (p d = true → wp (t ((wipeE e sl).set i (some d))) s (fun y s' => s' = s ∧ y = f d) (fun _ _ => False))) :
    wp (compM sl (gOne i) c t e ds) s Ψ Ξ = Ψ ((ds.filter p).map f) s := by
  have main : compM sl (gOne i) c t e ds s = .ok ((ds.filter p).map f) s := by
    induction ds with
    | nil => rfl
    | cons d ds ih =>
      obtain ⟨h1, h2⟩ := h d (List.mem_cons_self ..)
      have ih := ih fun d hd => h d (List.mem_cons_of_mem _ hd)
      obtain ⟨k, s1, e1, rfl, rfl⟩ := of_wp h1
      have e1 : c (setAll [(i, d)] (wipeE e sl)) s1 = .ok (p d) s1 := e1
      rw [compM, show gOne i d = some [(i, d)] from rfl]
      simp only
      rw [bind_app, noX_ok e1]
      cases hp : p d with
      | true =>
        obtain ⟨y, s2, e2, rfl, rfl⟩ := of_wp (h2 hp)
        have e2 : t (setAll [(i, d)] (wipeE e sl)) s2 = .ok (f d) s2 := e2
        simp only [if_true]
        rw [bind_app, noX_ok e2]
        simp only
        rw [bind_app, ih]
        simp [List.filter_cons, hp, pure_app]
      | false =>
        simp only [Bool.false_eq_true, if_false]
        rw [ih]
        simp [List.filter_cons, hp]
  exact wp_ok main
/-! ### the operators -/
@[simp] theorem wp_unB (b : Bool) : wp (unB (.bl b)) s Θ Ξ = Θ b s := rfl
@[simp] theorem wp_asI (i : Int) {Φ : Option Int → Store → Prop} : wp (asI (.int i)) s Φ Ξ = Φ (some i) s := rfl
@[simp] theorem wp_asS (x : Tx) : wp (asS (.str x)) s Φ Ξ = Φ (.str x) s := rfl
@[simp] theorem wp_tru_bl (b : Bool) : wp (tru (.bl b)) s Θ Ξ = Θ b s := rfl
@[simp] theorem wp_tru_non : wp (tru .non) s Θ Ξ = Θ false s := rfl
@[simp] theorem wp_tru_int (i : Int) : wp (tru (.int i)) s Θ Ξ = Θ (i != 0) s := rfl
@[simp] theorem wp_tru_str (x : Tx) : wp (tru (.str x)) s Θ Ξ = Θ (!x.isEmpty) s := rfl
@[simp] theorem wp_tru_lst (x : List D) : wp (tru (.lst x)) s Θ Ξ = Θ (!x.isEmpty) s := rfl
@[simp] theorem wp_tru_tup (x : List D) : wp (tru (.tup x)) s Θ Ξ = Θ (!x.isEmpty) s := rfl
@[simp] theorem wp_add_int (a b : Int) : wp (opAdd (.int a) (.int b)) s Φ Ξ = Φ (.int (a + b)) s := rfl
@[simp] theorem wp_sub_int (a b : Int) : wp (opSub (.int a) (.int b)) s Φ Ξ = Φ (.int (a - b)) s := rfl
@[simp] theorem wp_neg_int (a : Int) : wp (opNeg (.int a)) s Φ Ξ = Φ (.int (-a)) s := rfl
theorem wp_add_str (a b : Tx) (h : a.length + b.length ≤ 16000000) : wp (opAdd (.str a) (.str b)) s Φ Ξ = Φ (.str (a ++ b)) s := by
  have h2 : a.length + b.length ≤ sizeLine := Nat.le_trans h (by decide)
  simp only [opAdd, if_pos h2, wp_pure]
theorem wp_add_lst (a b : List D) (h : a.length + b.length ≤ 16000000) : wp (opAdd (.lst a) (.lst b)) s Φ Ξ = Φ (.lst (a ++ b)) s := by
  have h2 : a.length + b.length ≤ sizeLine := Nat.le_trans h (by decide)
  simp only [opAdd, if_pos h2, wp_pure]
theorem wp_add_tup (a b : List D) (h : a.length + b.length ≤ 16000000) : wp (opAdd (.tup a) (.tup b)) s Φ Ξ = Φ (.tup (a ++ b)) s := by
  have h2 : a.length + b.length ≤ sizeLine := Nat.le_trans h (by decide)
  simp only [opAdd, if_pos h2, wp_pure]
theorem wp_mul_int (a b : Int) (h : (-(2 ^ 64) < a ∧ a < 2 ^ 64) ∨ (-(2 ^ 64) < b ∧ b < 2 ^ 64)) : wp (opMul (.int a) (.int b)) s Φ Ξ = Φ (.int (a * b)) s := by simp only [opMul, if_pos h, wp_pure]
theorem wp_mul_str (a : Tx) (b : Int) (h : b ≤ 1000 ∧ -1000 ≤ b ∧ a.length ≤ 1000) : wp (opMul (.str a) (.int b)) s Φ Ξ = Φ (.str (repL b.toNat a)) s := by simp only [opMul, if_pos h, wp_pure]
theorem wp_mul_lst (a : List D) (b : Int) (h : b ≤ 1000 ∧ -1000 ≤ b ∧ a.length ≤ 1000) : wp (opMul (.lst a) (.int b)) s Φ Ξ = Φ (.lst (repL b.toNat a)) s := by simp only [opMul, if_pos h, wp_pure]
theorem wp_mod_int (a b : Int) (h : b ≠ 0) : wp (opMod (.int a) (.int b)) s Φ Ξ = Φ (.int (a.fmod b)) s := by simp only [opMod, if_neg h, wp_pure]
theorem wp_div_int (a b : Int) (h : b ≠ 0) (h2 : b.natAbs < 1073741824) : wp (opDiv (.int a) (.int b)) s Φ Ξ = Φ (.int (a.fdiv b)) s := by simp only [opDiv, if_pos (And.intro h h2), wp_pure]
theorem wp_pow_int (a b : Int) (h : 0 ≤ b ∧ b ≤ 1000000 ∧ a.natAbs < 2 ^ 64) : wp (opPow (.int a) (.int b)) s Φ Ξ = Φ (.int (a ^ b.toNat)) s := by simp only [opPow, if_pos h, wp_pure]
@[simp] theorem wp_lt_int (a b : Int) : wp (opLt (.int a) (.int b)) s Φ Ξ = Φ (.bl (decide (a < b))) s := rfl
@[simp] theorem wp_le_int (a b : Int) : wp (opLe (.int a) (.int b)) s Φ Ξ = Φ (.bl (decide (a ≤ b))) s := rfl
@[simp] theorem wp_gt_int (a b : Int) : wp (opGt (.int a) (.int b)) s Φ Ξ = Φ (.bl (decide (b < a))) s := rfl
@[simp] theorem wp_ge_int (a b : Int) : wp (opGe (.int a) (.int b)) s Φ Ξ = Φ (.bl (decide (b ≤ a))) s := rfl
theorem wp_eq {d d' : D} (h1 : d.okD = true) (h2 : d'.okD = true) : wp (opEq d d') s Φ Ξ = Φ (.bl (D.eqv d d')) s := by unfold opEq; rw [h1, h2]; rfl
theorem wp_ne {d d' : D} (h1 : d.okD = true) (h2 : d'.okD = true) : wp (opNe d d') s Φ Ξ = Φ (.bl (!D.eqv d d')) s := by unfold opNe; rw [h1, h2]; rfl
@[simp] theorem wp_is_non (d : D) : wp (opIs d .non) s Φ Ξ = Φ (.bl (isNon d)) s := by cases d <;> rfl
@[simp] theorem wp_is_bl (a b : Bool) : wp (opIs (.bl a) (.bl b)) s Φ Ξ = Φ (.bl (decide (a = b))) s := rfl
@[simp] theorem wp_isnot_non (d : D) : wp (opIsNot d .non) s Φ Ξ = Φ (.bl (!isNon d)) s := by cases d <;> rfl
@[simp] theorem wp_isnot_bl (a b : Bool) : wp (opIsNot (.bl a) (.bl b)) s Φ Ξ = Φ (.bl (!decide (a = b))) s := rfl
@[simp] theorem wp_in_sign (c : Char) (b : Tx) : wp (opIn (.str [c]) (.str b)) s Φ Ξ = Φ (.bl (decide (c ∈ b))) s := rfl
@[simp] theorem wp_nin_sign (c : Char) (b : Tx) : wp (opNotIn (.str [c]) (.str b)) s Φ Ξ = Φ (.bl (!decide (c ∈ b))) s := rfl
@[simp] theorem wp_len_str (x : Tx) : wp (fLen (.str x)) s Φ Ξ = Φ (.int x.length) s := rfl
@[simp] theorem wp_len_lst (x : List D) : wp (fLen (.lst x)) s Φ Ξ = Φ (.int x.length) s := rfl
@[simp] theorem wp_len_tup (x : List D) : wp (fLen (.tup x)) s Φ Ξ = Φ (.int x.length) s := rfl
theorem atI_some {α : Type} {xs : List α} {i : Int} (h0 : 0 ≤ i) (h1 : i.toNat < xs.length) : L2.atI xs i = some xs[i.toNat] := by
  unfold L2.atI L2.ixN
  have h2 : i < (xs.length : Int) := by omega
  rw [if_pos h0, if_pos h2]
  simp [h1]
theorem wp_ix_lst {xs : List D} {i : Int} {d : D} (h : L2.atI xs i = some d) : wp (opIx (.lst xs) (.int i)) s Φ Ξ = Φ d s := by show wp (ofO (L2.atI xs i)) s Φ Ξ = _; rw [h]; rfl
theorem wp_ix_tup {xs : List D} {i : Int} {d : D} (h : L2.atI xs i = some d) : wp (opIx (.tup xs) (.int i)) s Φ Ξ = Φ d s := by show wp (ofO (L2.atI xs i)) s Φ Ξ = _; rw [h]; rfl
theorem wp_ix_str {xs : Tx} {i : Int} {c : Char} (h : L2.atI xs i = some c) : wp (opIx (.str xs) (.int i)) s Φ Ξ = Φ (.str [c]) s := by show wp (ofO ((L2.atI xs i).map fun c => D.str [c])) s Φ Ξ = _; rw [h]; rfl
@[simp] theorem wp_sl_lst (xs : List D) (l h : Option Int) : wp (opSl (.lst xs) l h) s Φ Ξ = Φ (.lst (cutL xs l h)) s := rfl
@[simp] theorem wp_sl_tup (xs : List D) (l h : Option Int) : wp (opSl (.tup xs) l h) s Φ Ξ = Φ (.tup (cutL xs l h)) s := rfl
@[simp] theorem wp_sl_str (xs : Tx) (l h : Option Int) : wp (opSl (.str xs) l h) s Φ Ξ = Φ (.str (cutL xs l h)) s := rfl
@[simp] theorem wp_seq_lst (xs : List D) : wp (seqOf (.lst xs)) s Ψ Ξ = Ψ xs s := rfl
@[simp] theorem wp_seq_tup (xs : List D) : wp (seqOf (.tup xs)) s Ψ Ξ = Ψ xs s := rfl
@[simp] theorem wp_seq_str (xs : Tx) : wp (seqOf (.str xs)) s Ψ Ξ = Ψ (signs xs) s := rfl
theorem wp_rng1 {n : Int} (h : -1000000 ≤ n ∧ n ≤ 1000000) : wp (rng1 (.int n)) s Ψ Ξ = Ψ (nums 0 n.toNat) s := by
  show wp (rngOf 0 n) s Ψ Ξ = _
  unfold rngOf
  rw [if_pos ⟨by omega, by omega, h⟩, wp_pure, Int.sub_zero]
theorem wp_rng2 {n m : Int} (h : -1000000 ≤ n ∧ n ≤ 1000000) (h2 : -1000000 ≤ m ∧ m ≤ 1000000) : wp (rng2 (.int n) (.int m)) s Ψ Ξ = Ψ (nums n (m - n).toNat) s := by
  show wp (rngOf n m) s Ψ Ξ = _
  unfold rngOf
  rw [if_pos ⟨h.1, h.2, h2⟩, wp_pure]
theorem wp_all {ds : List D} {bs : List Bool} (h : boolsOf ds = some bs) : wp (fAll (.lst ds)) s Φ Ξ = Φ (.bl (bs.all id)) s := by
  show wp (ofO ((boolsOf ds).map fun bs => D.bl (bs.all id))) s Φ Ξ = _
  rw [h]
  rfl
theorem wp_any {ds : List D} {bs : List Bool} (h : boolsOf ds = some bs) : wp (fAny (.lst ds)) s Φ Ξ = Φ (.bl (bs.any id)) s := by
  show wp (ofO ((boolsOf ds).map fun bs => D.bl (bs.any id))) s Φ Ξ = _
  rw [h]
  rfl
theorem bools_map {α : Type} (f : α → Bool) : ∀ l : List α, boolsOf (l.map fun x => D.bl (f x)) = some (l.map f)
  | [] => rfl
  | x :: l => by
    show (boolsOf (l.map fun x => D.bl (f x))).map (f x :: ·) = _
    rw [bools_map f l]
    rfl
end
end Mr
/-! The mirror layer, 13: changes in place as they are seen; the pen. -/
namespace Mr
open PySem PySem.Spec PyProof.Rows L2
section
variable {e : Ev} {s : Store} {k : Kt} {b : SM} {m mj mo : EM} {i : Nat} {Φ : D → Store → Prop} {Ξ : Xc → Store → Prop}
def chK (i : Nat) (f : List D → Option (List D)) (e : Ev) (s : Store) (k : Kt) : Prop := match e[i]? with
  | some (some (.lst xs)) => (match f xs with
    | some ys => k.nx (e.set i (some (.lst ys))) s
    | none => False)
  | _ => False
theorem wpR_chOwn (f : List D → Option (List D)) : wpR (chOwn i f e s) k = chK i f e s k := by
  unfold chOwn chK
  generalize e[i]? = o
  rcases o with _ | _ | d
  · rfl
  · rfl
  · cases d <;> first
      | rfl
      | (rename_i xs
         show wpR (match f xs with
           | some ys => .nx (e.set i (some (.lst ys))) s
           | none => .bad) k = match f xs with
           | some ys => k.nx (e.set i (some (.lst ys))) s
           | none => False
         generalize f xs = q
         cases q <;> rfl)
theorem chK_of {f : List D → Option (List D)} {xs ys : List D} (h : e[i]? = some (some (.lst xs))) (h2 : f xs = some ys) : chK i f e s k = k.nx (e.set i (some (.lst ys))) s := by
  unfold chK
  simp only [h, h2]
@[simp] theorem wpS_gd : wpS (gd i b) e s k = (match e[i]? with
  | some (some (.lst _)) => wpS b e s k
  | _ => False) := by
  unfold wpS gd
  generalize e[i]? = o
  rcases o with _ | _ | d
  · rfl
  · rfl
  · cases d <;> rfl
theorem wpS_gd_of {xs : List D} (h : e[i]? = some (some (.lst xs))) : wpS (gd i b) e s k = wpS b e s k := by
  rw [wpS_gd]
  simp only [h]
@[simp] theorem wpS_app : wpS (sApp i m) e s k = wp (m e) s (fun d s' => chK i (fun xs => ckLen (xs ++ [d])) e s' k) (fun x s' => k.ex x e s') := by
  unfold sApp
  rw [wpS_sE]
  simp only [wpR_chOwn]
@[simp] theorem wpS_ext : wpS (sExt i m) e s k = wp (m e) s (fun d s' => match d with
    | .lst ys => chK i (fun xs => ckLen (xs ++ ys)) e s' k
    | _ => False) (fun x s' => k.ex x e s') := by
  unfold sExt
  rw [wpS_sE]
  congr 1
  funext d s'
  cases d <;> first | rfl | exact wpR_chOwn _
@[simp] theorem wpS_rev : wpS (sRevI i) e s k = chK i (fun xs => some xs.reverse) e s k := wpR_chOwn _
@[simp] theorem wpS_ins : wpS (sIns i mj m) e s k = wp (mj e) s (fun j s' => wp (m e) s' (fun d s' => match j with
    | .int j => chK i (insAt j d) e s' k
    | _ => False) (fun x s' => k.ex x e s')) (fun x s' => k.ex x e s') := by
  unfold sIns
  rw [wpS_sE]
  congr 1
  funext j s'
  show wpS (sE m fun d e s => match j with
    | .int j => chOwn i (insAt j d) e s
    | _ => .bad) e s' k = _
  rw [wpS_sE]
  congr 1
  funext d s''
  cases j <;> first | rfl | exact wpR_chOwn _
@[simp] theorem wpS_seti : wpS (sSetI i m mj) e s k = wp (m e) s (fun d s' => wp (mj e) s' (fun j s' => match j with
    | .int j => chK i (setI j d) e s' k
    | _ => False) (fun x s' => k.ex x e s')) (fun x s' => k.ex x e s') := by
  unfold sSetI
  rw [wpS_sE]
  congr 1
  funext d s'
  show wpS (sE mj fun j e s => match j with
    | .int j => chOwn i (setI j d) e s
    | _ => .bad) e s' k = _
  rw [wpS_sE]
  congr 1
  funext j s''
  cases j <;> first | rfl | exact wpR_chOwn _
def setK (o j d : D) (e : Ev) (s : Store) (k : Kt) : Prop := match o, j with
  | .ref n, .int j => (match s[n]? with
    | some (.lst xs) => (match setI j d xs with
      | some ys => k.nx e (s.set n (.lst ys))
      | none => False)
    | _ => False)
  | _, _ => False
theorem setR_eq {n : Nat} {j : Int} {d : D} : wpR (match s[n]? with
    | some (.lst xs) => (match setI j d xs with
      | some ys => .nx e (s.set n (.lst ys))
      | none => .bad)
    | _ => .bad) k = (match s[n]? with
    | some (.lst xs) => (match setI j d xs with
      | some ys => k.nx e (s.set n (.lst ys))
      | none => False)
    | _ => False) := by
  generalize s[n]? = o
  rcases o with _ | o
  · rfl
  · cases o with
    | ins _ _ => rfl
    | lst xs =>
      show wpR (match setI j d xs with
        | some ys => .nx e (s.set n (.lst ys))
        | none => .bad) k = (match setI j d xs with
        | some ys => k.nx e (s.set n (.lst ys))
        | none => False)
      generalize setI j d xs = q
      cases q <;> rfl
@[simp] theorem wpS_setr : wpS (sSetR m mo mj) e s k = wp (m e) s (fun d s' => wp (mo e) s' (fun o s' => wp (mj e) s' (fun j s' => setK o j d e s' k) (fun x s' => k.ex x e s')) (fun x s' => k.ex x e s')) (fun x s' => k.ex x e s') := by
  unfold sSetR
  rw [wpS_sE]
  congr 1
  funext d s'
  show wpS (sE mo fun o => sE mj fun j e s => match o, j with
    | .ref n, .int j => (match s[n]? with
      | some (.lst xs) => (match setI j d xs with
        | some ys => .nx e (s.set n (.lst ys))
        | none => .bad)
      | _ => .bad)
    | _, _ => .bad) e s' k = _
  rw [wpS_sE]
  congr 1
  funext o s2
  show wpS (sE mj fun j e s => match o, j with
    | .ref n, .int j => (match s[n]? with
      | some (.lst xs) => (match setI j d xs with
        | some ys => .nx e (s.set n (.lst ys))
        | none => .bad)
      | _ => .bad)
    | _, _ => .bad) e s2 k = _
  rw [wpS_sE]
  congr 1
  funext j s3
  unfold setK
  cases o <;> first | rfl | skip
  cases j <;> first | rfl | skip
  rename_i n j
  exact setR_eq
theorem setK_of {n : Nat} {j : Int} {d : D} {xs ys : List D} (h : s[n]? = some (.lst xs)) (h2 : setI j d xs = some ys) : setK (.ref n) (.int j) d e s k = k.nx e (s.set n (.lst ys)) := by
  unfold setK
  simp only [h, h2]
theorem wp_ix_ref {n : Nat} {j : Int} {d : D} {xs : List D} (h : s[n]? = some (.lst xs)) (h2 : L2.atI xs j = some d) : wp (opIx (.ref n) (.int j)) s Φ Ξ = Φ d s := by
  have e1 : ixS j n s = some d := by
    unfold ixS
    simp only [h, h2]
  have e2 : opIx (.ref n) (.int j) s = .ok d s := by
    show ofO (ixS j n s) s = _
    rw [e1]
    rfl
  exact wp_ok e2
end
/-! ### the pen -/
def N__law_draw : List Str := ["pen", "many", "at", "cell", "number", "found"]
def b_draw1 : SM := (sSeq (sSet 4 (eBin opMod (eBin opMul (eBin opAdd (eBin opMod (eVar 3) (eC (.int (2147483629)))) (eC (.int (11)))) (eBin opAdd (eBin opAdd (eBin opMul (eVar 2) (eVar 2)) (eBin opMul (eC (.int (5))) (eVar 2))) (eC (.int (3))))) (eC (.int (2147483647)))))
  (sRet (eBin opMod (eBin opDiv (eBin opMod (eBin opMul (eBin opMod (eBin opAdd (eBin opPow (eVar 4) (eC (.int (3)))) (eBin opMul (eC (.int (69621))) (eVar 2))) (eC (.int (2147483587)))) (eC (.int (40692)))) (eC (.int (2147483399)))) (eC (.int (64)))) (eVar 1))))
def b_draw2 : SM := (sSeq (sIf (tAnd' (tBin opLt (eVar 2) (eUn fLen (eBin opIx (eVar 0) (eC (.int (0)))))) (tBin opGe (eVar 3) (eBin opPow (eC (.int (10))) (eC (.int (18))))))
  (sSeq (sSetR (eBin opDiv (eVar 3) (eVar 1)) (eVar 0) (eC (.int (2))))
  (sRet (eBin opMod (eVar 3) (eVar 1))))
  sNext)
  b_draw1)
def b__law_draw : SM := (sSeq (sIf (tBin opGt (eBin opIx (eVar 0) (eC (.int (2)))) (eC (.int (0))))
  (sSeq (sSet 5 (eBin opMod (eBin opIx (eVar 0) (eC (.int (2)))) (eVar 1)))
  (sSeq (sSetR (eBin opDiv (eBin opIx (eVar 0) (eC (.int (2)))) (eVar 1)) (eVar 0) (eC (.int (2))))
  (sRet (eVar 5))))
  sNext)
  (sSeq (sSet 2 (eBin opIx (eVar 0) (eC (.int (1)))))
  (sSeq (sSetR (eBin opAdd (eVar 2) (eC (.int (1)))) (eVar 0) (eC (.int (1))))
  (sSeq (sSet 3 (eC (.int (7))))
  (sSeq (sIf (tBin opGt (eUn fLen (eBin opIx (eVar 0) (eC (.int (0))))) (eC (.int (0))))
  (sSet 3 (eBin opIx (eBin opIx (eVar 0) (eC (.int (0)))) (eBin opMod (eVar 2) (eUn fLen (eBin opIx (eVar 0) (eC (.int (0))))))))
  sNext)
  b_draw2)))))
def m__law_draw : List D → M D := runB false N__law_draw b__law_draw

def pen (ns : List Int) (a r : Int) : SO := .lst [.lst (ns.map .int), .int a, .int r]
def PenAt (k : Nat) (o : SO) : Prop := ∃ ns a r, o = pen ns a r ∧ 0 ≤ a ∧ a ≤ k ∧ 0 ≤ r
def PenOk (k : Nat) (s : Store) : Prop := ∃ o, s[0]? = some o ∧ PenAt k o
theorem PenOk.mono {j k : Nat} {s : Store} (h : PenOk j s) (hk : j ≤ k) : PenOk k s := by
  obtain ⟨o, h1, ns, a, r, h2, h3, h4, h5⟩ := h
  exact ⟨o, h1, ns, a, r, h2, h3, by omega, h5⟩
theorem pen0_ok (ns : List Int) : PenOk 0 (pen0 ns) := ⟨_, rfl, ns, 0, 0, rfl, by omega, by omega, by omega⟩
theorem ints_at {ns : List Int} {i : Int} (h0 : 0 ≤ i) (h1 : i.toNat < ns.length) : L2.atI (ns.map D.int) i = some (.int ns[i.toNat]) := by
  rw [atI_some h0 (by simpa using h1)]
  simp
theorem fmod_lo (a : Int) {b : Int} (h : 0 < b) : 0 ≤ a.fmod b := Int.fmod_nonneg_of_pos a h
theorem fmod_hi (a : Int) {b : Int} (h : 0 < b) : a.fmod b < b := Int.fmod_lt_of_pos a h
theorem draw_set {k : Nat} {s : Store} {n : Int} {Φ : D → Store → Prop} {Ξ : Xc → Store → Prop} (hp : PenOk k s) (hk : k ≤ 1000000000 := by omega) (h0 : 0 < n := by omega) (h1 : n < 1000000000 := by omega)
    (h : ∀ (r : Int) (o : SO), 0 ≤ r → r < n → PenAt (k + 1) o → Φ (.int r) (s.set 0 o)) : wp (m__law_draw [.ref 0, .int n]) s Φ Ξ := by
  obtain ⟨o, hs, ns, a, r, rfl, ha, hak, hr⟩ := hp
  have ev : startE N__law_draw [.ref 0, .int n] = [some (.ref 0), some (.int n), none, none, none, none] := rfl
  have hl : 0 < s.length := (List.getElem?_eq_some_iff.mp hs).1
  have ix0 : ∀ {ns : List Int} {a r : Int} {s : Store} {Φ : D → Store → Prop} {Ξ : Xc → Store → Prop}, s[0]? = some (pen ns a r) → wp (opIx (.ref 0) (.int 0)) s Φ Ξ = Φ (.lst (ns.map .int)) s := fun h => wp_ix_ref h rfl
  have ix1 : ∀ {ns : List Int} {a r : Int} {s : Store} {Φ : D → Store → Prop} {Ξ : Xc → Store → Prop}, s[0]? = some (pen ns a r) → wp (opIx (.ref 0) (.int 1)) s Φ Ξ = Φ (.int a) s := fun h => wp_ix_ref h rfl
  have ix2 : ∀ {ns : List Int} {a r : Int} {s : Store} {Φ : D → Store → Prop} {Ξ : Xc → Store → Prop}, s[0]? = some (pen ns a r) → wp (opIx (.ref 0) (.int 2)) s Φ Ξ = Φ (.int r) s := fun h => wp_ix_ref h rfl
  have st1 : ∀ {ns : List Int} {a r v : Int} {e : Ev} {s : Store} {k : Kt}, s[0]? = some (pen ns a r) → setK (.ref 0) (.int 1) (.int v) e s k = k.nx e (s.set 0 (pen ns v r)) := fun h => setK_of h rfl
  have st2 : ∀ {ns : List Int} {a r v : Int} {e : Ev} {s : Store} {k : Kt}, s[0]? = some (pen ns a r) → setK (.ref 0) (.int 2) (.int v) e s k = k.nx e (s.set 0 (pen ns a v)) := fun h => setK_of h rfl
  unfold m__law_draw
  rw [wp_run, ev]
  unfold b__law_draw
  simp only [wpS_seq, wpS_if, wp_tBin, wp_eBin, eVar_def, List.getElem?_cons_zero, List.getElem?_cons_succ, wp_pure, wp_eC, ix2 hs, wp_gt_int, wp_unB]
  by_cases hr0 : 0 < r
  · simp only [decide_eq_true hr0, if_true, wpS_seq, wpS_set, wp_eBin, eVar_def, List.getElem?_cons_zero, List.getElem?_cons_succ, wp_pure, wp_eC, ix2 hs, wp_mod_int r n (by omega), List.set_cons_zero, List.set_cons_succ, wpS_setr, wp_div_int r n (by omega) (by omega), st2 hs, wpS_ret]
    refine h _ _ (fmod_lo _ h0) (fmod_hi _ h0) ⟨ns, a, _, rfl, ha, by omega, Int.fdiv_nonneg hr (by omega)⟩
  · have s1 : (s.set 0 (pen ns (a + 1) r))[0]? = some (pen ns (a + 1) r) := List.getElem?_set_self hl
    have ck : ∀ {c : Prop} [Decidable c], decide c = true ↔ c := by intro c _; exact decide_eq_true_iff
    simp only [decide_eq_false hr0, if_false, Bool.false_eq_true, wpS_nx, wpS_seq, wpS_set, wp_eBin, eVar_def, List.getElem?_cons_zero, List.getElem?_cons_succ, wp_pure, wp_eC, ix1 hs, wp_add_int, List.set_cons_zero, List.set_cons_succ, wpS_setr, st1 hs, wpS_if, wp_tBin, ix0 s1, wp_eUn, wp_len_lst, wp_gt_int, wp_unB, List.length_map]
    -- what is behind the cell's choice
    have tail : ∀ c : Int, wpS b_draw2
      [some (.ref 0), some (.int n), some (.int a), some (.int c), none, none] (s.set 0 (pen ns (a + 1) r)) { nx := fun _ s' => if false = true then False else Φ .non s', rt := Φ, ex := fun x _ s' => Ξ x s' } := by
      intro c
      have fin : ∀ e : Ev, e = [some (.ref 0), some (.int n), some (.int a), some (.int c), none, none] → wpS b_draw1 e (s.set 0 (pen ns (a + 1) r)) { nx := fun _ s' => if false = true then False else Φ .non s', rt := Φ, ex := fun x _ s' => Ξ x s' } := by
        rintro e rfl
        unfold b_draw1
        have q1 := fmod_lo c (b := 2147483629) (by omega)
        have q2 := fmod_hi c (b := 2147483629) (by omega)
        simp only [wpS_seq, wpS_set, wp_eBin, eVar_def, List.getElem?_cons_zero, List.getElem?_cons_succ, wp_pure, wp_eC, wp_mod_int c 2147483629 (by omega), wp_add_int, wp_mul_int a a (.inl ⟨by omega, by omega⟩), wp_mul_int 5 a (.inl ⟨by omega, by omega⟩), List.set_cons_zero, List.set_cons_succ]
        rw [wp_mul_int _ _ (.inl ⟨by omega, by omega⟩)]
        generalize (c.fmod 2147483629 + 11) * (a * a + 5 * a + 3) = z1
        rw [wp_mod_int z1 2147483647 (by omega)]
        have q3 := fmod_lo z1 (b := 2147483647) (by omega)
        have q4 := fmod_hi z1 (b := 2147483647) (by omega)
        generalize z1.fmod 2147483647 = z2 at q3 q4 ⊢
        simp only [wpS_ret, wp_eBin, eVar_def, List.getElem?_cons_zero, List.getElem?_cons_succ, wp_pure, wp_eC, wp_pow_int z2 3 ⟨by omega, by omega, by omega⟩, wp_mul_int 69621 a (.inl ⟨by omega, by omega⟩), wp_add_int]
        generalize z2 ^ (3 : Int).toNat + 69621 * a = z3
        rw [wp_mod_int z3 2147483587 (by omega), wp_mul_int _ 40692 (.inr ⟨by omega, by omega⟩)]
        generalize z3.fmod 2147483587 * 40692 = z4
        rw [wp_mod_int z4 2147483399 (by omega), wp_div_int _ 64 (by omega) (by omega), wp_mod_int _ n (by omega)]
        exact h _ _ (fmod_lo _ h0) (fmod_hi _ h0) ⟨ns, a + 1, r, rfl, by omega, by omega, hr⟩
      unfold b_draw2
      rw [wpS_seq]
      simp only [wpS_if, wp_tAnd, wp_tBin, wp_eUn, wp_eBin, eVar_def, List.getElem?_cons_zero, List.getElem?_cons_succ, wp_pure, wp_eC, ix0 s1, wp_len_lst, wp_lt_int, wp_unB]
      have pw : ∀ {Φ : D → Store → Prop} {Ξ : Xc → Store → Prop} {s : Store}, wp (opPow (.int 10) (.int 18)) s Φ Ξ = Φ (.int 1000000000000000000) s := by
        intro Φ Ξ s
        rw [wp_pow_int 10 18 ⟨by omega, by omega, by omega⟩]
        rfl
      split
      · simp only [pw, wp_ge_int, wp_unB]
        split
        · rename_i hc
          have hc' : (1000000000000000000 : Int) ≤ c := by simpa using hc
          simp only [wpS_seq, wpS_setr, wp_eBin, eVar_def, List.getElem?_cons_zero, List.getElem?_cons_succ, wp_pure, wp_eC, wp_div_int c n (by omega) (by omega), st2 s1, wpS_ret, wp_mod_int c n (by omega), List.set_set]
          exact h _ _ (fmod_lo _ h0) (fmod_hi _ h0) ⟨ns, a + 1, _, rfl, by omega, by omega, Int.fdiv_nonneg (by omega) (by omega)⟩
        · exact fin _ rfl
      · simp only [Bool.false_eq_true, if_false]
        exact fin _ rfl
    split
    · rename_i hn
      have hn' : 0 < ns.length := by
        have : (0 : Int) < (ns.length : Int) := by simpa using hn
        omega
      have q1 := fmod_lo a (b := (ns.length : Int)) (by omega)
      have q2 := fmod_hi a (b := (ns.length : Int)) (by omega)
      simp only [wpS_set, wp_eBin, wp_eUn, eVar_def, List.getElem?_cons_zero, List.getElem?_cons_succ, wp_pure, wp_eC, ix0 s1, wp_len_lst, List.length_map, wp_mod_int a (ns.length : Int) (by omega), List.set_cons_zero, List.set_cons_succ]
      rw [wp_ix_lst (ints_at q1 (by omega))]
      exact tail _
    · exact tail 7
/-- .. where nothing but the pen is told -/
theorem draw_ok {k : Nat} {s : Store} {n : Int} {Φ : D → Store → Prop} {Ξ : Xc → Store → Prop} (hp : PenOk k s) (h : ∀ (r : Int) (s' : Store), 0 ≤ r → r < n → PenOk (k + 1) s' → Φ (.int r) s') (hk : k ≤ 1000000000 := by omega) (h0 : 0 < n := by omega) (h1 : n < 1000000000 := by omega) : wp (m__law_draw [.ref 0, .int n]) s Φ Ξ :=
  draw_set hp hk h0 h1 fun r o a b c => h r _ a b ⟨o, by
    obtain ⟨o', h2, _⟩ := hp
    exact List.getElem?_set_self (List.getElem?_eq_some_iff.mp h2).1, c⟩
end Mr
/-! The mirror layer, 14: raise by a fact, zip, several names at once, defs that call themselves. -/
namespace Mr
open PySem PySem.Spec PyProof.Rows L2
theorem seqL {K : PySem.W.Frag} {G G' : Hp} {a : Addr} {xs : List V} (e : Same G G') (h : SqL K G a xs) : SqL K G' a xs := by
  rcases h with (h | ⟨o, h⟩) | h
  · exact .inl (.inl (e _ _ h))
  · exact .inl (.inr ⟨o, e _ _ h⟩)
  · exact .inr h
/-! ### raise -/
theorem Tt.exc {K : PySem.W.Frag} {mg : Str → Option Value} {h : Heap} {fa : List He.Fa} {fn : List He.DefD} (T : Tt K mg h fa fn) (i : Nat) {x : Str} (e : fa[i]? = some (.exc x) := by rfl) :
    PySem.W.excIn K (He.ga K x) He.veBase "ValueError.__new__" = true ∧ PySem.W.keepIn K (.ref (He.ga K x)) = true ∧ PySem.W.subIn K (.ref (He.ga K x)) (.type "BaseException") = some true ∧ PySem.W.typeIn K (.ref (He.ga K x)) = some (.type "type") := He.exc_ok (T.c.fact i e)
theorem q_raiseF {X : Cx} {W : WX} {fr : Bool} {en : Ent} {Ω Ω' Ωl : List Nat} {x m : Str} {j : Nat} {p p2 pos' pos : Pos} (hc : X.calm = true) (tk : Takes X W) (gC : X.mg x = some (.ref (He.ga X.K x)))
    (e : PySem.W.excIn X.K (He.ga X.K x) He.veBase "ValueError.__new__" = true ∧ PySem.W.keepIn X.K (.ref (He.ga X.K x)) = true ∧ PySem.W.subIn X.K (.ref (He.ga X.K x)) (.type "BaseException") = some true ∧ PySem.W.typeIn X.K (.ref (He.ga X.K x)) = some (.type "type")) (cC : clsB X.K x = true) (hg : Gl X x)
    (hdb : (x == ("__debug__" : Str)) = false := by decide) : qS X W fr en Ω Ω' Ωl (.Raise (some (.Call (.Name x p) [.Constant (.str m) j p2] [] pos')) none pos) (sRaise x) :=
  q_raise hc tk gC cC (pmk_own PySem.F.excBase_ValueError e.1 gC e.2.1 (raises_own e.2.2.1 e.2.2.2) hg hdb)
section
variable {X : Cx} {W : WX} {fr : Bool} {en : Ent} {Ω Ω1 Ω' Ωl : List Nat} {a b c e tg it : Expr} {es : List Expr} {ma mb mc : EM} {ml : LM} {pos p tpos : Pos} {x : Str} {K : PySem.W.Frag} {mg : Str → Option Value} {G G' H H' H1 : Hp} {ρ ρ' ρ1 : List Addr} {S : Store}
/-! ### zip -/
def pairs (xs ys : List D) : List D := List.zipWith (fun x y => D.tup [x, y]) xs ys
def zipL : D → D → M (List D)
  | .lst xs, .lst ys => pure (pairs xs ys)
  | .tup xs, .tup ys => pure (pairs xs ys)
  | _, _ => bad
def iZp (a b : EM) : LM := fun env => a env >>= fun x => b env >>= fun y => zipL x y
theorem pairs_get {xs ys : List D} {i : Nat} {x y : D} (h1 : xs[i]? = some x) (h2 : ys[i]? = some y) : (pairs xs ys)[i]? = some (.tup [x, y]) := by
  unfold pairs
  rw [List.getElem?_zipWith, h1, h2]
theorem pairs_len (xs ys : List D) : (pairs xs ys).length = min xs.length ys.length := by unfold pairs; rw [List.length_zipWith]
theorem walk_zip {J : It} {qa qb : Addr} {va vb : List V} {xs ys : List D} {P : Hp → Addr → List V → Prop} (hm : ∀ {H H' : Hp} {q : Addr} {v : List V}, Same H H' → P H q v → P H' q v) (ha : P G qa va) (hb : P G qb vb) (za : va.length ≤ sizeLine) (ra : RepL K mg G ρ xs va) (rb : RepL K mg G ρ ys vb)
    (hgo : ∀ i H, (∃ (vs ws : List V) (v w : V), P H qa vs ∧ P H qb ws ∧ vs[i]? = some v ∧ ws[i]? = some w) → J.go i H) (hst : ∀ i H, (∃ vs ws : List V, P H qa vs ∧ P H qb ws ∧ (vs.length ≤ i ∨ ws.length ≤ i)) → J.stop i H)
    (hy : ∀ i H v H', J.yld i H v H' → ∃ T x y, v = .ref T ∧ H T = none ∧ H' = upd H T (.tup [x, y]) ∧ (∀ vs, P H qa vs → vs[i]? = some x) ∧ ∀ vs, P H qb vs → vs[i]? = some y) : Walks K mg G ρ J (pairs xs ys) where
  len := by rw [pairs_len, ra.length, rb.length]; omega
  go := fun i H hi s => by
    rw [pairs_len, ra.length, rb.length] at hi
    exact hgo i H ⟨va, vb, va[i]'(by omega), vb[i]'(by omega), hm s ha, hm s hb, List.getElem?_eq_getElem _, List.getElem?_eq_getElem _⟩
  stop := fun H s => hst _ H ⟨va, vb, hm s ha, hm s hb, by rw [pairs_len, ra.length, rb.length]; omega⟩
  yld := fun i G2 ρ2 H v H' hi e pr s y => by
    obtain ⟨T, v1, v2, rfl, hT, rfl, k1, k2⟩ := hy i H v H' y
    obtain ⟨d1, h1, r1⟩ := ra.get (k1 va (hm s (hm e ha)))
    obtain ⟨d2, h2, r2⟩ := rb.get (k2 vb (hm s (hm e hb)))
    refine ⟨.tup [d1, d2], upd G2 T (.tup [v1, v2]), pairs_get h1 h2, up_lay s, up_growV s hT, fun S st => up_stV s st hT, ?_⟩
    exact .tup (SqT.of upd_same) (by show 2 ≤ sizeLine; decide) ((RepL.cons (r1.mono e pr) (.cons (r2.mono e pr) .nil)).mono (up_sub s hT) fun _ _ q => q)
theorem pi_zp {elts : List Expr} {kk : Nat} (hg : Gl X "zip") (hm : X.mg "zip" = none) (ha : pV X W Ω a ma) (hb : pV X W Ω b mb) (hs : starEach [a, b] X.env = (false, eval a X.env) :: starEach [b] X.env := by rfl) (hs2 : starEach [b] X.env = (false, eval b X.env) :: starEach [] X.env := by rfl)
    (hpl : (backTo pos (starEach [b] X.env)).any (·.1) = false := by rfl) : pI X W Ω (.Tuple elts kk tpos) (.Call (.Name "zip" p) [a, b] [] pos) (iZp ma mb) :=
  pi_imp (RZ.pi_zipA hg hm (pa_cons ha (pa_cons hb pa_nil hs2) hs) hs hpl) fun σ H R h =>
    tG.thn (k := fun x env => mb env >>= fun y => zipL x y) h fun G1 ρ1 S1 env H1 d v at1 r1 p1 => p1.thn at1 fun G2 ρ2 S2 H2 e w g at2 r2 p2 => by
      have r1 : Rep X.K X.mg G2 ρ2 d v := Rep.mono g.sub g.pre r1
      have r2 : Rep X.K X.mg G2 ρ2 e w := r2
      cases d with
      | lst xs =>
        cases e with
        | lst ys =>
          have p2 : Post X.K X.mg (rI X.K X.mg) (fun c d H => W c d σ H) R G2 ρ2 H2 (.ok (pairs xs ys) S2) := p2
          cases r1 with
          | lst ha za ra =>
            cases r2 with
            | lst hb zb rb =>
              refine ⟨_, _, _, _, rfl, .inl ⟨SqL.of (at2.sub _ _ ha), SqL.of (at2.sub _ _ hb), ?_⟩⟩
              refine p2 G2 ρ2 H2 _ at2.sub Grow.refl at2.st ?_
              exact walk_zip (P := fun H q v => SqL X.K H q v) (fun s h => seqL s h) (SqL.of ha) (SqL.of hb) za ra rb (fun _ _ q => q) (fun _ _ q => q) (fun _ _ _ _ q => q)
        | _ => exact (show False from p2).elim
      | tup xs =>
        cases e with
        | tup ys =>
          have p2 : Post X.K X.mg (rI X.K X.mg) (fun c d H => W c d σ H) R G2 ρ2 H2 (.ok (pairs xs ys) S2) := p2
          cases r1 with
          | tup ha za ra =>
            cases r2 with
            | tup hb zb rb =>
              refine ⟨_, _, _, _, rfl, .inr ⟨seqT at2.sub ha, seqT at2.sub hb, ?_⟩⟩
              refine p2 G2 ρ2 H2 _ at2.sub Grow.refl at2.st ?_
              exact walk_zip (P := fun H q v => SqT X.K H q v) (fun s h => seqT s h) ha hb za ra rb (fun _ _ q => q) (fun _ _ q => q) (fun _ _ _ _ q => q)
        | _ => exact (show False from p2).elim
      | _ => exact (show False from p2).elim
end
@[simp] theorem wp_iZp {e : Ev} {s : Store} {Ψ : List D → Store → Prop} {Ξ : Xc → Store → Prop} (a b : EM) : wp (iZp a b e) s Ψ Ξ = wp (a e) s (fun x s => wp (b e) s (fun y s => wp (zipL x y) s Ψ Ξ) Ξ) Ξ := by unfold iZp; simp only [wp_bind]
@[simp] theorem wp_zip_lst {s : Store} {Ψ : List D → Store → Prop} {Ξ : Xc → Store → Prop} (a b : List D) : wp (zipL (.lst a) (.lst b)) s Ψ Ξ = Ψ (pairs a b) s := rfl
@[simp] theorem wp_zip_tup {s : Store} {Ψ : List D → Store → Prop} {Ξ : Xc → Store → Prop} (a b : List D) : wp (zipL (.tup a) (.tup b)) s Ψ Ξ = Ψ (pairs a b) s := rfl
/-! ### several names at once -/
section
variable {K : PySem.W.Frag} {mg : Str → Option Value}
/-- values, some of them things just made -/
inductive MixL (K : PySem.W.Frag) (mg : Str → Option Value) (H0 G : Hp) (ρ : List Addr) (H' : Hp) : List Bool → List D → List V → List Addr → Prop
  | nil : MixL K mg H0 G ρ H' [] [] [] []
  | vis {fs : List Bool} {d : D} {v : V} {ds : List D} {vs : List V} {as : List Addr} (r : Rep K mg G ρ d v) (t : MixL K mg H0 G ρ H' fs ds vs as) : MixL K mg H0 G ρ H' (false :: fs) (d :: ds) (v :: vs) as
  | own {fs : List Bool} {d : D} {a : Addr} {o : HO} {ds : List D} {vs : List V} {as : List Addr} (h : H' a = some o) (r : OwnR K mg G ρ d o) (g : G a = none) (m : a ∉ ρ) (n : H0 a = none) (t : MixL K mg H0 G ρ H' fs ds vs as) : MixL K mg H0 G ρ H' (true :: fs) (d :: ds) (.ref a :: vs) (a :: as)
theorem MixL.mono {H H0 G H' : Hp} {ρ : List Addr} {fs : List Bool} {ds : List D} {vs : List V} {as : List Addr} (k : ∀ x, H0 x = none → H x = none) (h : MixL K mg H0 G ρ H' fs ds vs as) : MixL K mg H G ρ H' fs ds vs as := by
  induction h with
  | nil => exact .nil
  | vis r _ ih => exact .vis r ih
  | own h r g m n _ ih => exact .own h r g m (k _ n) ih
theorem MixL.fresh {H0 G H' : Hp} {ρ : List Addr} {fs : List Bool} {ds : List D} {vs : List V} {as : List Addr} (h : MixL K mg H0 G ρ H' fs ds vs as) : ∀ a ∈ as, H0 a = none := by
  induction h with
  | nil => intro a ha; cases ha
  | vis _ _ ih => exact ih
  | own h r g m n _ ih =>
    intro b hb
    rcases List.mem_cons.mp hb with rfl | hb
    · exact n
    · exact ih b hb
def rM (K : PySem.W.Frag) (mg : Str → Option Value) (fs : List Bool) : Rl (List D) (List V) := ⟨fun H G ρ H' ds vs => ∃ as, MixL K mg H G ρ H' fs ds vs as ∧ as.Nodup, fun k ⟨as, h, n⟩ => ⟨as, h.mono k, n⟩⟩
end
section
variable {α β γ δ : Type} {K : PySem.W.Frag} {mg : Str → Option Value} {G H G1 H1 : Hp} {ρ ρ1 : List Addr} {S : Store}
/-- one part of a mirror runs; what is wanted is told over the heap ahead of all -/
theorem Post.thn1 {R : Rl α β} {R2 : Rl γ δ} {W : WX} {Ω : List Nat} {m : Ev → M α} {env : Ev} {σ : L2.St} {k : α → M γ} {Q : δ → Hp → Prop} {C : β → Hp → Prop} (g0 : Grow G ρ H G1 ρ1 H1) (at_ : At K mg Ω G1 ρ1 env S σ H1)
    (post : Post K mg R2 (fun c d H => W c d σ H) Q G ρ H ((m env >>= k) S))
    (c : ∀ G2 ρ2 S2 H2 a b, Grow G1 ρ1 H1 G2 ρ2 H2 → At K mg Ω G2 ρ2 env S2 σ H2 → R.r H1 G2 ρ2 H2 a b → Post K mg R2 (fun c d H => W c d σ H) Q G ρ H (k a S2) → C b H2) : tG K mg R W Ω m σ H1 C := by
  refine ⟨G1, ρ1, S, env, at_, ?_⟩
  rw [bind_app] at post
  cases e : m env S with
  | ok a S1 =>
    rw [e] at post
    exact fun G2 ρ2 H2 b s g st rl => c G2 ρ2 S1 H2 a b g (at_.grow g s st) rl post
  | exc x S1 =>
    rw [e] at post
    exact fun G2 ρ2 H2 cl od s g st ex => post G2 ρ2 H2 cl od s (g0.trans g) st ex
  | bad =>
    rw [e] at post
    exact post
end
section
variable {X : Cx} {W : WX} {fr : Bool} {en : Ent} {Ω Ω1 Ω' Ωl : List Nat} {a b c e tg it : Expr} {es : List Expr} {ma mb mc : EM} {ml : LM} {pos p tpos : Pos} {x : Str} {fs : List Bool}
abbrev pM (X : Cx) (W : WX) (Ω : List Nat) (fs : List Bool) (es : List Expr) (m : LM) : Prop := PA X es (tG X.K X.mg (rM X.K X.mg fs) W Ω m)
theorem pm_nil : pM X W Ω [] [] lNil := pa_imp pa_nil fun σ H Q ⟨G, ρ, S, env, at_, p⟩ => Post.done (S := S) (a := ([] : List D)) p at_.sub at_.st ⟨[], .nil, List.nodup_nil⟩
theorem pm_v (ha : pV X W Ω e ma) (hr : pM X W Ω fs es ml) (hs : starEach (e :: es) X.env = (false, eval e X.env) :: starEach es X.env := by rfl) : pM X W Ω (false :: fs) (e :: es) (lCons ma ml) := pa_imp (pa_cons ha hr hs) fun σ H Q ⟨G, ρ, S, env, at_, post⟩ =>
  Post.thn1 (k := fun x => ml env >>= fun xs => pure (x :: xs)) Grow.refl at_ post fun G1 ρ1 S1 H1 d v g1 at1 r1 p1 => Post.thn1 (k := fun xs => pure (d :: xs)) g1 at1 p1 fun G2 ρ2 S2 H2 ds vs g2 at2 ⟨as, r2, n2⟩ p2 => by
    have p2 : Post X.K X.mg (rM X.K X.mg (false :: fs)) (fun c d H => W c d σ H) Q G ρ H (.ok (d :: ds) S2) := p2
    exact p2 G2 ρ2 H2 _ at2.sub (g1.trans g2) at2.st ⟨as, .vis (Rep.mono g2.sub g2.pre r1) (r2.mono fun x h => g1.live x h), n2⟩
theorem pm_f (ha : pF X W Ω e ma) (hr : pM X W Ω fs es ml) (hs : starEach (e :: es) X.env = (false, eval e X.env) :: starEach es X.env := by rfl) : pM X W Ω (true :: fs) (e :: es) (lCons ma ml) := pa_imp (pa_cons ha hr hs) fun σ H Q ⟨G, ρ, S, env, at_, post⟩ =>
  Post.thn1 (k := fun x => ml env >>= fun xs => pure (x :: xs)) Grow.refl at_ post fun G1 ρ1 S1 H1 d v g1 at1 ⟨a, o, e1, e2, e3, e4, e5, e6⟩ p1 => Post.thn1 (k := fun xs => pure (d :: xs)) g1 at1 p1 fun G2 ρ2 S2 H2 ds vs g2 at2 ⟨as, r2, n2⟩ p2 => by
    have p2 : Post X.K X.mg (rM X.K X.mg (true :: fs)) (fun c d H => W c d σ H) Q G ρ H (.ok (d :: ds) S2) := p2
    subst e1
    obtain ⟨a', o', q1, q2, q3, q4, q5⟩ := Own.grow (d := d) (v := .ref a) ⟨a, o, rfl, e2, e3, e4, e5⟩ g2
    cases q1
    refine p2 G2 ρ2 H2 _ at2.sub (g1.trans g2) at2.st ⟨a :: as, .own q2 q3 q4 q5 e6 (r2.mono fun x h => g1.live x h), List.nodup_cons.mpr ⟨fun hm => ?_, n2⟩⟩
    have := r2.fresh a hm
    rw [e2] at this
    cases this
/-! names are set one by one -/
def parΩ : List Bool → List Nat → List Nat → List Nat
  | true :: fs, i :: is, Ω => parΩ fs is (i :: Ω)
  | false :: fs, _ :: is, Ω => parΩ fs is Ω
  | _, _, Ω => Ω
def parOk : List Bool → List Nat → List Nat → Bool
  | true :: fs, i :: is, Ω => parOk fs is (i :: Ω)
  | false :: fs, i :: is, Ω => decide (i ∉ Ω) && parOk fs is Ω
  | [], [], _ => true
  | _, _, _ => false
theorem Here.own2 {K : PySem.W.Frag} {mg : Str → Option Value} {G H : Hp} {ρ : List Addr} {S : Store} {env : Ev} {σ : L2.St} {i : Nat} {d : D} {a : Addr} {o : HO} (h : Here K mg en Ω G ρ env S σ H) (hm : ∀ j, j ∈ Ω' ↔ j = i ∨ j ∈ Ω) (hf : ∀ (j : Nat) (e : D), j ∈ Ω → env[j]? = some (some e) → σ[j]? ≠ some (some (.ref a)))
    (ha : H a = some o) (ro : OwnR K mg G ρ d o) (ga : G a = none) (ra : a ∉ ρ) (na : en.H a = none) : Here K mg en Ω' G ρ (env.set i (some d)) S (σ.set i (some (.ref a))) H := by
  have at_set : ∀ {j : Nat} {d' : D}, (env.set i (some d))[j]? = some (some d') → (j = i ∧ d' = d ∧ (σ.set i (some (V.ref a)))[j]? = some (some (.ref a))) ∨ (j ≠ i ∧ env[j]? = some (some d') ∧ (σ.set i (some (V.ref a)))[j]? = σ[j]?) := fun {j d'} e1 => by
    by_cases hj : i = j
    · subst hj
      by_cases hl : i < env.length
      · rw [List.getElem?_set_self hl] at e1
        cases e1
        exact .inl ⟨rfl, rfl, List.getElem?_set_self (by rw [← h.at_.ev.len]; exact hl)⟩
      · rw [List.getElem?_eq_none (by rw [List.length_set]; omega)] at e1; cases e1
    · rw [List.getElem?_set_ne hj] at e1
      exact .inr ⟨fun z => hj z.symm, e1, List.getElem?_set_ne hj⟩
  refine ⟨⟨h.at_.sub, h.at_.st, ⟨by rw [List.length_set, List.length_set, h.at_.ev.len], fun j d' e1 n => ?_, fun j d' e1 n => ?_, fun j k d1 d2 v1 n1 n2 ne e1 e2 e3 e4 => ?_⟩⟩, h.gr, fun j d' b n e1 e2 => ?_⟩
  · rcases at_set e1 with ⟨hj, _⟩ | ⟨hj, e2, e3⟩
    · exact absurd ((hm j).mpr (.inl hj)) n
    · rw [e3]
      exact h.at_.ev.val j d' e2 fun z => n ((hm j).mpr (.inr z))
  · rcases at_set e1 with ⟨hj, rfl, e3⟩ | ⟨hj, e2, e3⟩
    · exact ⟨_, e3, a, o, rfl, ha, ro, ga, ra⟩
    · rw [e3]
      exact h.at_.ev.own j d' e2 (((hm j).mp n).resolve_left hj)
  · rcases at_set e1 with ⟨hj, _, e5⟩ | ⟨hj, e5, e6⟩
    · rcases at_set e2 with ⟨hk, _⟩ | ⟨hk, e7, e8⟩
      · exact ne (hj.trans hk.symm)
      · rw [e5] at e3; cases e3
        rw [e8] at e4
        exact hf k d2 (((hm k).mp n2).resolve_left hk) e7 e4
    · rcases at_set e2 with ⟨hk, _, e9⟩ | ⟨hk, e7, e8⟩
      · rw [e9] at e4; cases e4
        rw [e6] at e3
        exact hf j d1 (((hm j).mp n1).resolve_left hj) e5 e3
      · rw [e6] at e3
        rw [e8] at e4
        exact h.at_.ev.sep j k d1 d2 v1 (((hm j).mp n1).resolve_left hj) (((hm k).mp n2).resolve_left hk) ne e5 e7 e3 e4
  · rcases at_set e1 with ⟨hj, _, e3⟩ | ⟨hj, e3, e4⟩
    · rw [e3] at e2; cases e2
      exact na
    · rw [e4] at e2
      exact h.fr j d' b (((hm j).mp n).resolve_left hj) e3 e2
theorem Here.setMix {K : PySem.W.Frag} {mg : Str → Option Value} {G H : Hp} {ρ : List Addr} {S : Store} : ∀ {fs : List Bool} {is : List Nat} {ds : List D} {vs : List V} {as : List Addr} {Ω : List Nat} {env : Ev} {σ : L2.St}, Here K mg en Ω G ρ env S σ H → MixL K mg en.H G ρ H fs ds vs as → as.Nodup → parOk fs is Ω = true →
    (∀ (j : Nat) (e : D) (b : Addr), j ∈ Ω → env[j]? = some (some e) → σ[j]? = some (some (.ref b)) → b ∉ as) → Here K mg en (parΩ fs is Ω) G ρ (Mr.setAll (is.zip ds) env) S (Mr.setAll (is.zip vs) σ) H
  | [], is, _, _, _, Ω, env, σ, h, .nil, _, ok, _ => by
    cases is with
    | nil => exact h
    | cons _ _ => exact (Bool.false_ne_true ok).elim
  | false :: fs, [], _, _, _, _, _, _, _, _, _, ok, _ => (Bool.false_ne_true ok).elim
  | true :: fs, [], _, _, _, _, _, _, _, _, _, ok, _ => (Bool.false_ne_true ok).elim
  | false :: fs, i :: is, d :: ds, v :: vs, as, Ω, env, σ, h, .vis r t, nd, ok, hf => by
    obtain ⟨ok1, ok2⟩ := Bool.and_eq_true_iff.mp ok
    have hi : i ∉ Ω := of_decide_eq_true ok1
    refine Here.setMix (fs := fs) (is := is) (h.set hi r) t nd ok2 fun j e b hj e1 e2 => ?_
    have hne : i ≠ j := fun z => hi (z ▸ hj)
    rw [List.getElem?_set_ne hne] at e1 e2
    exact hf j e b hj e1 e2
  | true :: fs, i :: is, d :: ds, _ :: vs, _ :: as, Ω, env, σ, h, .own (a := a) ha ro ga ra na t, nd, ok, hf => by
    obtain ⟨nd1, nd2⟩ := List.nodup_cons.mp nd
    have h1 : Here K mg en (i :: Ω) G ρ (env.set i (some d)) S (σ.set i (some (.ref a))) H := h.own2 (fun j => List.mem_cons) (fun j e hj e1 e2 => hf j e a hj e1 e2 (List.mem_cons_self ..)) ha ro ga ra na
    refine Here.setMix (fs := fs) (is := is) h1 t nd2 ok fun j e b hj e1 e2 => ?_
    by_cases hji : i = j
    · subst hji
      by_cases hlt : i < σ.length
      · rw [List.getElem?_set_self hlt] at e2
        cases e2
        exact nd1
      · rw [List.getElem?_eq_none (by rw [List.length_set]; omega)] at e2; cases e2
    · rw [List.getElem?_set_ne hji] at e1 e2
      rcases List.mem_cons.mp hj with z | z
      · exact absurd z.symm hji
      · exact fun hm => hf j e b z e1 e2 (List.mem_cons_of_mem _ hm)
theorem MixL.length {K : PySem.W.Frag} {mg : Str → Option Value} {H0 G H' : Hp} {ρ : List Addr} {fs : List Bool} {ds : List D} {vs : List V} {as : List Addr} (h : MixL K mg H0 G ρ H' fs ds vs as) : ds.length = fs.length ∧ vs.length = fs.length := by
  induction h with
  | nil => exact ⟨rfl, rfl⟩
  | vis _ _ ih => exact ⟨by rw [List.length_cons, List.length_cons, ih.1], by rw [List.length_cons, List.length_cons, ih.2]⟩
  | own _ _ _ _ _ _ ih => exact ⟨by rw [List.length_cons, List.length_cons, ih.1], by rw [List.length_cons, List.length_cons, ih.2]⟩
theorem parOk_len : ∀ {fs : List Bool} {is Ω : List Nat}, parOk fs is Ω = true → is.length = fs.length
  | [], [], _, _ => rfl
  | [], _ :: _, _, h => (Bool.false_ne_true h).elim
  | true :: _, [], _, h => (Bool.false_ne_true h).elim
  | false :: _, [], _, h => (Bool.false_ne_true h).elim
  | true :: fs, i :: is, Ω, h => by rw [List.length_cons, List.length_cons, parOk_len (fs := fs) (is := is) h]
  | false :: fs, i :: is, Ω, h => by rw [List.length_cons, List.length_cons, parOk_len (fs := fs) (is := is) (Bool.and_eq_true_iff.mp h).2]
theorem q_par' {st : Stmt} {t : TS} {is : List Nat} (h : PS X st t) (k : ∀ De σ H, tG X.K X.mg (rM X.K X.mg fs) W Ω ml σ H (fun vs H1 => vs.length = is.length ∧ De.nx (setAll (is.zip vs) σ) H1) → t De σ H) (ok : parOk fs is Ω = true) : qS X W fr en Ω (parΩ fs is Ω) Ωl st (sPar is ml) := ps_imp h fun De σ H ⟨G, ρ, S, env, h, p⟩ =>
  k De σ H (here_post h p fun G1 ρ1 S1 H1 ds vs gr h1 ⟨as, r, nd⟩ p1 => by
    have hl := r.length
    have hi := parOk_len ok
    have e1 : ds.length = is.length := by rw [hl.1, hi]
    simp only [if_pos e1] at p1
    refine ⟨by rw [hl.2, hi], p1 G1 ρ1 _ H1 Le.refl ?_⟩
    refine h1.setMix (r.mono fun x z => h.gr.live x z) nd ok fun j e b hj q1 q2 hm => ?_
    exact own_some h j e b hj q1 q2 (r.fresh b hm))
theorem tG_conseq {α β : Type} {K : PySem.W.Frag} {mg : Str → Option Value} {R : Rl α β} {m : Ev → M α} {σ : L2.St} {H : Hp} {C C' : β → Hp → Prop} (h : tG K mg R W Ω m σ H C) (k : ∀ b H1, C b H1 → C' b H1) : tG K mg R W Ω m σ H C' := by
  obtain ⟨G, ρ, S, env, at_, post⟩ := h
  refine ⟨G, ρ, S, env, at_, ?_⟩
  cases e : m env S with
  | ok a S1 => rw [e] at post; exact fun G1 ρ1 H1 b s g st r => k b H1 (post G1 ρ1 H1 b s g st r)
  | exc x S1 => rw [e] at post; exact post
  | bad => rw [e] at post; exact post
theorem q_par2 {i j : Nat} {x y : Str} {px py pt pos : Pos} {kt k2 pt2} (hN : X.N.Nodup) (hi : X.N[i]? = some x) (hj : X.N[j]? = some y) (ha : pM X W Ω fs [a, b] ml) (ok : parOk fs [i, j] Ω = true := by decide) (hij : i ≠ j := by decide) (hc : X.calm = true := by rfl)
    (hx : X.env.scope.names.lookup x = some .local := by rfl) (hy : X.env.scope.names.lookup y = some .local := by rfl)
    (hw : swappedStores [.Tuple [.Name x px, .Name y py] kt pt] (.Tuple [a, b] k2 pt2) X.env = pure (some [x, y]) := by rfl)
    (hs : swapsWithSole [.Tuple [.Name x px, .Name y py] kt pt] (.Tuple [a, b] k2 pt2) pos.line X.env = pure false := by rfl) :
    qS X W fr en Ω (parΩ fs [i, j] Ω) Ωl (.Assign [.Tuple [.Name x px, .Name y py] kt pt] (.Tuple [a, b] k2 pt2) pos) (sPar [i, j] ml) :=
  q_par' (ps_par hc hN hi hj hij hx hy ha hw hs) (fun De σ H h => by
    refine Mr.tG_conseq h fun vs H1 ⟨hl, q⟩ => ?_
    match vs, hl with
    | [v, w], _ => exact ⟨v, w, rfl, q⟩) ok
end
end Mr
/-! The mirror layer, 15: a module's tuples and tables, index, three names at once. -/
namespace Mr
open PySem PySem.Spec PyProof.Rows L2
/-! ### constants as data -/
def conOk (K : PySem.W.Frag) : Nat → D → Value → Bool
  | _, .int i, .int j _ => i == j
  | _, .str s, .str z _ => toS s == z && decide (s.length ≤ 1000)
  | _, .non, .none => true
  | _, .bl b, .bool c => b == c
  | n + 1, .tup ds, .ref a => (match K.lookup a with
    | some ⟨.type c, none, .seq its _, _⟩ => c == "tuple" && (decide (ds.length ≤ 1000) && (ds.length == its.toList.length && (ds.zip its.toList).all fun p => conOk K n p.1 p.2))
    | _ => false)
  | _, _, _ => false
def exOk (K : PySem.W.Frag) (exs : List (Str × D)) : Bool := exs.all fun p => match PySem.W.nsIn K mainGlobals p.1 with
  | some (some v) => conOk K 5 p.2 v
  | _ => false
def dicOk (K : PySem.W.Frag) (a : Addr) (kvs : List (Tx × D)) : Bool := match K.lookup a with
  | some ⟨_, _, .dict es _, _⟩ => kvs.length == es.toList.length && (kvs.zip es.toList).all fun p => (match p.2.key with
    | .str z _ => toS p.1.1 == z
    | _ => false) && conOk K 5 p.1.2 p.2.val
  | _ => false
theorem beqS {a b : Str} (h : (a == b) = true) : a = b := by exact beq_iff_eq.mp h
section
variable {K : PySem.W.Frag} {mg : Str → Option Value} {G : Hp} {ρ : List Addr}
theorem con_tup {n : Nat} {ds : List D} {v : Value} (h : conOk K (n + 1) (.tup ds) v = true) : ∃ a its m sl, v = .ref a ∧ K.lookup a = some ⟨.type "tuple", none, .seq its m, sl⟩ ∧ ds.length ≤ 1000 ∧ ds.length = its.toList.length ∧ ∀ p ∈ ds.zip its.toList, conOk K n p.1 p.2 = true := by
  unfold conOk at h
  cases v with
  | ref a =>
    simp only at h
    split at h
    · rename_i c its m sl e
      obtain ⟨h1, h2⟩ := Bool.and_eq_true_iff.mp h
      obtain ⟨h3, h4⟩ := Bool.and_eq_true_iff.mp h2
      obtain ⟨h5, h6⟩ := Bool.and_eq_true_iff.mp h4
      have hc : c = "tuple" := beq_iff_eq.mp h1
      subst hc
      exact ⟨a, its, m, sl, rfl, e, of_decide_eq_true h3, beq_iff_eq.mp h5, List.all_eq_true.mp h6⟩
    · cases h
  | _ => cases h
theorem vals_rep {n : Nat} (ih : ∀ (d : D) (v : Value), conOk K n d v = true → ∃ u, RelV u v ∧ ∀ (mg : Str → Option Value) (G : Hp) (ρ : List Addr), Rep K mg G ρ d u) : ∀ (ds : List D) (its : List Value), ds.length = its.length → (∀ p ∈ ds.zip its, conOk K n p.1 p.2 = true) →
    ∃ us, Vals us its ∧ ∀ (mg : Str → Option Value) (G : Hp) (ρ : List Addr), RepL K mg G ρ ds us
  | [], [], _, _ => ⟨[], .nil, fun _ _ _ => .nil⟩
  | [], _ :: _, h, _ => by cases h
  | _ :: _, [], h, _ => by cases h
  | d :: ds, v :: its, h, k => by
    obtain ⟨u, r1, r2⟩ := ih d v (k (d, v) (List.mem_cons_self ..))
    obtain ⟨us, r3, r4⟩ := vals_rep ih ds its (Nat.succ.inj h) fun p hp => k p (List.mem_cons_of_mem _ hp)
    exact ⟨u :: us, .cons r1 r3, fun mg G ρ => .cons (r2 mg G ρ) (r4 mg G ρ)⟩
theorem con_rep : ∀ (n : Nat) (d : D) (v : Value), conOk K n d v = true → ∃ u, RelV u v ∧ ∀ (mg : Str → Option Value) (G : Hp) (ρ : List Addr), Rep K mg G ρ d u := by
  intro n
  induction n with
  | zero =>
    intro d v h
    unfold conOk at h
    cases d <;> cases v <;> first
      | (exfalso; exact Bool.false_ne_true h)
      | skip
    · exact ⟨.non, rfl, fun _ _ _ => .non⟩
    · cases beq_iff_eq.mp h; exact ⟨.bl _, rfl, fun _ _ _ => .bl _⟩
    · cases beq_iff_eq.mp h; exact ⟨.int _, ⟨_, rfl⟩, fun _ _ _ => .int _⟩
    · obtain ⟨h1, h2⟩ := Bool.and_eq_true_iff.mp h
      cases beqS h1
      exact ⟨.str _, ⟨_, rfl⟩, fun _ _ _ => .str _ (Nat.le_trans (of_decide_eq_true h2) (by decide))⟩
  | succ n ih =>
    intro d v h
    cases d with
    | tup ds =>
      obtain ⟨a, its, m, sl, rfl, e, h1, h2, h3⟩ := con_tup h
      obtain ⟨us, r1, r2⟩ := vals_rep ih ds its.toList h2 h3
      have hl : us.length ≤ sizeLine := by
        rw [r1.length, ← h2]
        exact Nat.le_trans h1 (by decide)
      refine ⟨.ref a, rfl, fun mg G ρ => .tup (.inr ⟨_, its, m, e, rfl, rfl, ?_, r1⟩) hl (r2 mg G ρ)⟩
      rw [← Array.length_toList, ← h2]
      exact Nat.le_trans h1 (by decide)
    | _ =>
      unfold conOk at h
      cases v <;> first
        | (exfalso; exact Bool.false_ne_true h)
        | skip
      all_goals first
        | exact ⟨.non, rfl, fun _ _ _ => .non⟩
        | (cases beq_iff_eq.mp h; exact ⟨.bl _, rfl, fun _ _ _ => .bl _⟩)
        | (cases beq_iff_eq.mp h; exact ⟨.int _, ⟨_, rfl⟩, fun _ _ _ => .int _⟩)
        | (obtain ⟨h1, h2⟩ := Bool.and_eq_true_iff.mp h
           cases beqS h1
           exact ⟨.str _, ⟨_, rfl⟩, fun _ _ _ => .str _ (Nat.le_trans (of_decide_eq_true h2) (by decide))⟩)
def getD (kvs : List (Tx × D)) (z : Tx) : Option D := (kvs.find? fun p => p.1 == z).map (·.2)
theorem dic_find {a : Addr} {kvs : List (Tx × D)} (h : dicOk K a kvs = true) (z : Tx) : (getD kvs z = none ∧ PySem.W.nsIn K a (toS z) = some none) ∨ ∃ d v, getD kvs z = some d ∧ PySem.W.nsIn K a (toS z) = some (some v) ∧ conOk K 5 d v = true := by
  unfold dicOk at h
  unfold PySem.W.nsIn
  split at h
  · rename_i oc od es n sl e
    rw [e]
    simp only
    obtain ⟨h1, h2⟩ := Bool.and_eq_true_iff.mp h
    have hl := beq_iff_eq.mp h1
    have hall := List.all_eq_true.mp h2
    have main : ∀ (kvs : List (Tx × D)) (es : List DictEntry), kvs.length = es.length → (∀ p ∈ kvs.zip es, ((match p.2.key with
      | .str z _ => toS p.1.1 == z
      | _ => false) && conOk K 5 p.1.2 p.2.val) = true) → (getD kvs z = none ∧ es.find? (·.key.isStr (toS z)) = none ∧ es.any (·.refKey) = false) ∨ ∃ d e, getD kvs z = some d ∧ es.find? (·.key.isStr (toS z)) = some e ∧ conOk K 5 d e.val = true := by
      intro kvs
      induction kvs with
      | nil =>
        intro es hl _
        cases es with
        | nil => exact .inl ⟨rfl, rfl, rfl⟩
        | cons _ _ => cases hl
      | cons kv kvs ih =>
        intro es hl hall
        cases es with
        | nil => cases hl
        | cons en es =>
          obtain ⟨k, dv⟩ := kv
          obtain ⟨h3, h4⟩ := Bool.and_eq_true_iff.mp (hall ((k, dv), en) (List.mem_cons_self ..))
          have ih := ih es (Nat.succ.inj hl) fun p hp => hall p (List.mem_cons_of_mem _ hp)
          obtain ⟨hh, ky, vl⟩ := en
          cases ky with
          | str y t =>
            have hy : toS k = y := beqS h3
            subst hy
            by_cases hk : k = z
            · subst hk
              refine .inr ⟨dv, _, ?_, ?_, h4⟩
              · unfold getD
                rw [List.find?_cons_of_pos (by simp)]
                rfl
              · rw [List.find?_cons_of_pos]
                rw [PySem.W.isStr_of]
                show (toS k == toS k) = true
                exact beq_self_eq_true _
            · have hne : (toS k == toS z) = false := by
                cases q : toS k == toS z with
                | false => rfl
                | true => exact absurd (toS_inj.mp (beqS q)) hk
              have e1 : getD ((k, dv) :: kvs) z = getD kvs z := by
                unfold getD
                rw [List.find?_cons_of_neg (by simpa using hk)]
              have e2 : (DictEntry.mk hh (.str (toS k) t) vl :: es).find? (·.key.isStr (toS z)) = es.find? (·.key.isStr (toS z)) := by
                rw [List.find?_cons_of_neg]
                rw [PySem.W.isStr_of]
                show ¬ (toS k == toS z) = true
                rw [hne]
                exact Bool.false_ne_true
              rw [e1, e2]
              rcases ih with ⟨q1, q2, q3⟩ | ih
              · exact .inl ⟨q1, q2, by rw [List.any_cons, q3]; rfl⟩
              · exact .inr ih
          | _ => cases h3
    rcases main kvs es.toList hl hall with ⟨q1, q2, q3⟩ | ⟨d, en, q1, q2, q3⟩
    · exact .inl ⟨q1, by rw [q2]; simp only [q3]; rfl⟩
    · exact .inr ⟨d, en.val, q1, by rw [q2], q3⟩
  · cases h
end
/-! ### .. as facts -/
section
variable {X : Cx} {W : WX} {Ω : List Nat} {a b c e o : Expr} {es : List Expr} {ma mb mc : EM} {ml : LM} {pos apos p : Pos} {x : Str}
def ConF (K : PySem.W.Frag) (mg : Str → Option Value) (x : Str) (d : D) : Prop := ∃ v, mg x = some v ∧ conOk K 5 d v = true
theorem con_of {K : PySem.W.Frag} {mg : Str → Option Value} {h : Heap} {exs : List (Str × D)} (X : K.In h) (G : h.Ns mainGlobals mg) (e : exOk K exs = true) (i : Nat) {x : Str} {d : D} (hi : exs[i]? = some (x, d) := by rfl) : ConF K mg x d := by
  have := List.all_eq_true.mp e (x, d) (List.mem_of_getElem? hi)
  simp only at this
  cases q : PySem.W.nsIn K mainGlobals x with
  | none => rw [q] at this; cases this
  | some r =>
    rw [q] at this
    cases r with
    | none => cases this
    | some v => exact ⟨v, PySem.W.mg_of X G q, this⟩
theorem pv_con {d : D} (hg : Gl X x) (f : ConF X.K X.mg x d) (hd : (x == ("__debug__" : Str)) = false := by decide) : pV X W Ω (.Name x pos) (eC d) := by
  obtain ⟨v, hm, h⟩ := f
  obtain ⟨u, r1, r2⟩ := con_rep 5 d v h
  exact pv_glob hg hm r1 (fun G ρ => r2 X.mg G ρ) hd
/-- a table with text keys -/
structure TabF (K : PySem.W.Frag) (w : World) (mg : Str → Option Value) (x : Str) (kvs : List (Tx × D)) : Prop where
  ex : ∃ a es n, mg x = some (.ref a) ∧ KDict K w a es n ∧ dicOk K a kvs = true
def opInK (x : Str) (kvs : List (Tx × D)) : D → D → M D
  | .str z, .glo y => if y = x then pure (.bl (getD kvs z).isSome) else bad
  | _, _ => bad
def opNinK (x : Str) (kvs : List (Tx × D)) : D → D → M D
  | .str z, .glo y => if y = x then pure (.bl (!(getD kvs z).isSome)) else bad
  | _, _ => bad
def opIxK (x : Str) (kvs : List (Tx × D)) : D → D → M D
  | .glo y, .str z => if y = x then ofO (getD kvs z) else bad
  | _, _ => bad
theorem RepO.glo {K : PySem.W.Frag} {mg : Str → Option Value} {G H : Hp} {ρ : List Addr} {y : Str} {v : V} (h : RepO K mg G ρ H (.glo y) v) : ∃ a, v = .ref a ∧ mg y = some (.ref a) := by
  rcases h with h | ⟨a, o, rfl, h, r, _⟩
  · cases h with
    | glo h => exact ⟨_, rfl, h⟩
  · cases o <;> exact (show False from r).elim
theorem c_inK {kvs : List (Tx × D)} (f : TabF X.K X.w X.mg x kvs) : CmpOk X .In (opInK x kvs) := by
  obtain ⟨a, es, n, hm, D, hd⟩ := f.ex
  refine ⟨⟨_, op_in_kd D, ?_⟩⟩
  intro G ρ S H d e u v Wx Q s st rd re p
  cases d with
  | str z =>
    cases e with
    | glo y =>
      by_cases hy : y = x
      · subst hy
        simp only [opInK, if_pos rfl] at p
        obtain ⟨a', rfl, hm'⟩ := re.glo
        rw [hm] at hm'
        cases hm'
        refine ⟨toS z, (PySem.W.nsIn X.K a (toS z)).getD none, rd.str.1, rfl, ?_⟩
        rcases dic_find hd z with ⟨q1, q2⟩ | ⟨d', v', q1, q2, _⟩
        · rw [q2]
          refine ⟨rfl, ?_⟩
          rw [q1] at p
          exact Post.V (S := S) (d := .bl false) p s st (.bl _)
        · rw [q2]
          refine ⟨rfl, ?_⟩
          rw [q1] at p
          exact Post.V (S := S) (d := .bl true) p s st (.bl _)
      · simp only [opInK, if_neg hy] at p
        exact (show False from p).elim
    | _ => exact (show False from p).elim
  | _ => exact (show False from p).elim
theorem c_ninK {kvs : List (Tx × D)} (f : TabF X.K X.w X.mg x kvs) : CmpOk X .NotIn (opNinK x kvs) := by
  obtain ⟨a, es, n, hm, D, hd⟩ := f.ex
  refine ⟨⟨_, op_notIn_kd D, ?_⟩⟩
  intro G ρ S H d e u v Wx Q s st rd re p
  cases d with
  | str z =>
    cases e with
    | glo y =>
      by_cases hy : y = x
      · subst hy
        simp only [opNinK, if_pos rfl] at p
        obtain ⟨a', rfl, hm'⟩ := re.glo
        rw [hm] at hm'
        cases hm'
        refine ⟨toS z, (PySem.W.nsIn X.K a (toS z)).getD none, rd.str.1, rfl, ?_⟩
        rcases dic_find hd z with ⟨q1, q2⟩ | ⟨d', v', q1, q2, _⟩
        · rw [q2]
          refine ⟨rfl, ?_⟩
          rw [q1] at p
          exact Post.V (S := S) (d := .bl true) p s st (.bl _)
        · rw [q2]
          refine ⟨rfl, ?_⟩
          rw [q1] at p
          exact Post.V (S := S) (d := .bl false) p s st (.bl _)
      · simp only [opNinK, if_neg hy] at p
        exact (show False from p).elim
    | _ => exact (show False from p).elim
  | _ => exact (show False from p).elim
theorem pv_ixK {kvs : List (Tx × D)} (f : TabF X.K X.w X.mg x kvs) (ha : pO X W Ω a ma) (hb : pO X W Ω b mb) (hs : PlainIx b := by intro _ _; rfl) : pV X W Ω (.Subscript a b pos) (eBin (opIxK x kvs) ma mb) := pe_imp (pe_ix ix_kdict ha hb hs) fun _ _ _ h => tOp_of (fun G ρ S H d e u v Wx Q s st rd re p => by
  obtain ⟨a, es, n, hm, D, hd⟩ := f.ex
  cases d with
  | glo y =>
    cases e with
    | str z =>
      by_cases hy : y = x
      · subst hy
        simp only [opIxK, if_pos rfl] at p
        obtain ⟨a', rfl, hm'⟩ := rd.glo
        rw [hm] at hm'
        cases hm'
        rcases dic_find hd z with ⟨q1, q2⟩ | ⟨d', v', q1, q2, q3⟩
        · rw [q1] at p
          exact (show False from p).elim
        · rw [q1] at p
          obtain ⟨w', r1, r2⟩ := con_rep 5 d' v' q3
          exact ⟨a, toS z, w', rfl, re.str.1, ⟨es, n, v', D.at_, D.lit, q2, r1⟩, Post.V (S := S) (d := d') p s st (r2 _ _ _)⟩
      · simp only [opIxK, if_neg hy] at p
        exact (show False from p).elim
    | _ => exact (show False from p).elim
  | _ => exact (show False from p).elim) h
/-! ### index -/
def idx (d : D) : List D → Option Nat
  | [] => none
  | x :: r => if D.eqv x d then some 0 else (idx d r).map (· + 1)
theorem idx_some {d : D} : ∀ {xs : List D} {j : Nat}, idx d xs = some j → ∃ z, xs[j]? = some z ∧ D.eqv z d = true ∧ ∀ (m : Nat) (z' : D), m < j → xs[m]? = some z' → D.eqv z' d = false
  | [], _, h => by cases h
  | x :: r, j, h => by
    unfold idx at h
    cases q : D.eqv x d with
    | true =>
      rw [q] at h
      cases h
      exact ⟨x, rfl, q, fun m z' hm => absurd hm (Nat.not_lt_zero _)⟩
    | false =>
      rw [q] at h
      simp only [Bool.false_eq_true, if_false] at h
      cases q2 : idx d r with
      | none => rw [q2] at h; cases h
      | some j' =>
        rw [q2] at h
        cases h
        obtain ⟨z, h1, h2, h3⟩ := idx_some q2
        refine ⟨z, h1, h2, fun m z' hm e => ?_⟩
        cases m with
        | zero => cases e; exact q
        | succ m => exact h3 m z' (Nat.lt_of_succ_lt_succ hm) e
def asLs (d : D) : M D := match d with
  | .lst xs => pure (.lst xs)
  | _ => bad
def fIndex : D → D → M D
  | .lst xs, d => if d.flat && xs.all D.flat then ofO ((idx d xs).map fun j => D.int (j : Nat)) else bad
  | _, _ => bad
def eMthL (g : D → D → M D) (a b : EM) : EM := fun env => a env >>= fun x => asLs x >>= fun x => b env >>= fun y => g x y
theorem pv_index (ho : pO X W Ω o ma) (he : pO X W Ω e mb) (hbase : attributeBase o "index" X.env (eval o X.env) = eval o X.env := by rfl) (hline : (apos.endLine == pos.line) = true := by rfl) (hs : starEach [e] X.env = (false, eval e X.env) :: starEach [] X.env := by rfl)
    (hfew : ((backTo pos (starEach [e] X.env)).all (fun x => !x.1) && (backToKw pos (keywordEach [] X.env)).all (fun x => x.1.isSome) && decide ([e].length + ([] : List Keyword).length + (if ([] : List Keyword).isEmpty then 0 else 1) < 30)) = true := by rfl) :
    pV X W Ω (.Call (.Attribute o "index" apos) [e] [] pos) (eMthL fIndex ma mb) := pe_imp (pe_bm PySem.F.plainAttrs_list PySem.F.slot_list_index PySem.F.type_list_index mt_index ho (pa_cons he pa_nil hs) hbase hfew hline hs rfl) fun σ H Q h =>
  tG.thn (k := fun x env => asLs x >>= fun x => mb env >>= fun y => fIndex x y) h fun G1 ρ1 S1 env H1 d v at1 r1 p1 => by
    cases d with
    | lst xs =>
      obtain ⟨q, vs, rfl, h1, _, _⟩ := r1.lst at1.sub
      refine ⟨.inl ⟨rfl, vs, SqL.of h1⟩, ?_⟩
      have p1 : Post X.K X.mg (rV X.K X.mg) (fun c d H => W c d σ H) Q G1 ρ1 H1 ((mb env >>= fun y => fIndex (.lst xs) y) S1) := p1
      refine p1.thn at1 fun G2 ρ2 S2 H2 e w g at2 r2 p2 => ?_
      obtain ⟨q', vs2, e1, h2, rr, _⟩ := (RepO.grow r1 g).lst at2.sub
      cases e1
      unfold fIndex at p2
      by_cases hz : (e.flat && xs.all D.flat) = true
      · simp only [if_pos hz] at p2
        obtain ⟨z1, z2⟩ := Bool.and_eq_true_iff.mp hz
        have re := r2.flatV z1
        cases hi : idx e xs with
        | none => rw [hi] at p2; exact (show False from p2).elim
        | some j =>
          rw [hi] at p2
          obtain ⟨zd, k1, k2, k3⟩ := idx_some hi
          obtain ⟨zv, k4, k5⟩ := rr.at k1
          have fz : zd.flat = true := List.all_eq_true.mp z2 zd (List.mem_of_getElem? k1)
          refine ⟨q, vs2, w, j, zv, rfl, rfl, SqL.of h2, flat_V (H := H2) re z1, flat_all (H := H2) rr z2, k4, ?_, fun m z' hm hz' => ?_, ?_⟩
          · rw [flat_eq (H := H2) k5 re fz z1]; exact k2
          · obtain ⟨dz, k6, k7⟩ := rr.get hz'
            rw [flat_eq (H := H2) k7 re (List.all_eq_true.mp z2 dz (List.mem_of_getElem? k6)) z1]
            exact k3 m dz hm k6
          · exact Post.V (S := S2) (d := .int (j : Nat)) p2 at2.sub at2.st (.int _)
      · simp only [if_neg hz] at p2
        exact (show False from p2).elim
    | _ => exact (show False from p1).elim
/-- a module's tuple of texts: where does it stand -/
def fIdxT (ts : List Tx) : D → M D
  | .str z => ofO ((idx (.str z) (ts.map D.str)).map fun j => D.int (j : Nat))
  | _ => bad
theorem vals_strs : ∀ {ts : List Tx} {its : List Value} {n : Nat}, (ts.map D.str).length = its.length → (∀ p ∈ (ts.map D.str).zip its, conOk X.K n p.1 p.2 = true) → Vals ((ts.map toS).map V.str) its
  | [], [], _, _, _ => .nil
  | [], _ :: _, _, h, _ => by cases h
  | _ :: _, [], _, h, _ => by cases h
  | t :: ts, v :: its, n, h, k => by
    have h1 := k (.str t, v) (List.mem_cons_self ..)
    refine .cons ?_ (vals_strs (n := n) (Nat.succ.inj h) fun p hp => k p (List.mem_cons_of_mem _ hp))
    unfold conOk at h1
    cases v <;> first
      | (exfalso; exact Bool.false_ne_true h1)
      | skip
    obtain ⟨h2, _⟩ := Bool.and_eq_true_iff.mp h1
    cases beqS h2
    exact ⟨_, rfl⟩
theorem pv_tupIx {ts : List Tx} (hg : Gl X x) (f : ConF X.K X.mg x (.tup (ts.map D.str))) (he : pO X W Ω e mb) (hd : (x == ("__debug__" : Str)) = false := by decide) (hbase : attributeBase (.Name x p) "index" X.env (eval (.Name x p) X.env) = eval (.Name x p) X.env := by rfl) (hline : (apos.endLine == pos.line) = true := by rfl)
    (hs : starEach [e] X.env = (false, eval e X.env) :: starEach [] X.env := by rfl)
    (hfew : ((backTo pos (starEach [e] X.env)).all (fun x => !x.1) && (backToKw pos (keywordEach [] X.env)).all (fun x => x.1.isSome) && decide ([e].length + ([] : List Keyword).length + (if ([] : List Keyword).isEmpty then 0 else 1) < 30)) = true := by rfl) :
    pV X W Ω (.Call (.Attribute (.Name x p) "index" apos) [e] [] pos) (eUn (fIdxT ts) mb) := by
  obtain ⟨v, hm, h⟩ := f
  obtain ⟨a, its, m, sl, rfl, e0, h1, h2, h3⟩ := con_tup h
  refine pe_imp (pe_bm PySem.F.plainAttrs_tuple PySem.F.slot_tuple_index PySem.F.type_tuple_index mt_tup_index (pe_glob (v := .ref a) hg hm rfl hd) (pa_cons he pa_nil hs) hbase hfew hline hs rfl) fun σ H Q h => ?_
  refine ⟨.inr (.inl ⟨rfl, _, e0, rfl, rfl⟩), ?_⟩
  refine tG.thn (k := fun x _ => fIdxT ts x) h fun G1 ρ1 S1 env H1 d w at1 r1 p1 => ?_
  cases d with
  | str z =>
    unfold fIdxT at p1
    cases hi : idx (.str z) (ts.map D.str) with
    | none => simp only [hi] at p1; exact (show False from p1).elim
    | some j =>
      simp only [hi] at p1
      obtain ⟨zd, k1, k2, k3⟩ := idx_some hi
      rw [List.getElem?_map] at k1
      cases ht : ts[j]? with
      | none => rw [ht] at k1; cases k1
      | some t =>
        rw [ht] at k1
        cases k1
        have e1 : t = z := by simpa [D.eqv] using k2
        subst e1
        refine ⟨a, ts.map toS, toS t, j, rfl, by rw [r1.str.1], .inr ⟨_, its, m, e0, rfl, rfl, ?_, vals_strs h2 h3⟩, by rw [List.getElem?_map, ht]; rfl, fun m' hm' hc => ?_, ?_⟩
        · rw [← Array.length_toList, ← h2]
          exact Nat.le_trans h1 (by decide)
        · rw [List.getElem?_map] at hc
          cases ht' : ts[m']? with
          | none => rw [ht'] at hc; cases hc
          | some t' =>
            rw [ht'] at hc
            have e2 : toS t' = toS t := Option.some.inj hc
            have := k3 m' (.str t') hm' (by rw [List.getElem?_map, ht']; rfl)
            rw [toS_inj.mp e2] at this
            simp [D.eqv] at this
        · exact Post.V (S := S1) (d := .int (j : Nat)) p1 at1.sub at1.st (.int _)
  | _ => exact (show False from p1).elim
end
end Mr
/-! The mirror layer, 16: the head's facts with constants and tables; defs that call themselves; more names at once. -/
namespace Mr
open PySem PySem.Spec PyProof.Rows L2
def exB (exs : List (Str × D)) (ts : List (Str × List (Tx × D))) (K : PySem.W.Frag) : Bool := exOk K exs && ts.all fun t => dicOk K (He.ga K t.1) t.2
structure Tu (K : PySem.W.Frag) (w : World) (mg : Str → Option Value) (h : Heap) (fa : List He.Fa) (fn : List He.DefD) (exs : List (Str × D)) (ts : List (Str × List (Tx × D))) (tabs : List He.Tab) : Prop where
  t : Tt K mg h fa fn
  ex : exB exs ts K = true
  tb : ∀ (i : Nat) (t : He.Tab), tabs[i]? = some t → ∃ es n, KDict K w (t.1 K) es n
section
variable {P : Program} {w : World} {K : PySem.W.Frag} {mg : Str → Option Value} {base h : Heap} {fa : List He.Fa} {fn : List He.DefD} {exs : List (Str × D)} {ts : List (Str × List (Tx × D))} {tabs : List He.Tab}
theorem Tu.of (X : K.In h) (G : h.Ns mainGlobals mg) (c : He.SaysX fa fn tabs [] (exB exs ts) w h K) : Tu K w mg h fa fn exs ts tabs := ⟨⟨X, G, c.t.d⟩, c.more, fun i t e => c.t.tab i e⟩
theorem Tu.con (T : Tu K w mg h fa fn exs ts tabs) (i : Nat) {x : Str} {d : D} (hi : exs[i]? = some (x, d) := by rfl) : ConF K mg x d := con_of T.t.X T.t.G (Bool.and_eq_true_iff.mp T.ex).1 i hi
theorem Tu.tab (T : Tu K w mg h fa fn exs ts tabs) (i k : Nat) {x : Str} {kvs : List (Tx × D)} {ks : List Str} (hi : ts[i]? = some (x, kvs) := by rfl) (hj : tabs[i]? = some (fun K => He.ga K x, ks) := by rfl) (hk : fa[k]? = some (.glo x) := by rfl) : TabF K w mg x kvs := by
  obtain ⟨es, n, D⟩ := T.tb i _ hj
  exact ⟨He.ga K x, es, n, T.t.glo k hk, D, List.all_eq_true.mp (Bool.and_eq_true_iff.mp T.ex).2 (x, kvs) (List.mem_of_getElem? hi)⟩
/-- a def that is not to be called -/
theorem df_bad {x qual : Str} {params : Arguments} {body : List Stmt} {scope : Scope} {f : Addr} {ps : List Str} {k : Nat} {fr : Bool} (hm : mg x = some (.ref f)) (F : ∃ fd, FunD K x qual params body scope [] [] f fd)
    (bd : ∀ (kV doc pm : Value) (an : Option Addr) (cdv ct : Value) (us : List Value), us.length = ps.length → bindArgs (PySem.W.fnOf x qual params body scope .none kV doc pm an cdv ct) ⟨us, []⟩ = pure (ps.zip us)) : Df P w K mg base x k fr ps.length (fun _ => bad) := by
  obtain ⟨fd, F⟩ := F
  refine ⟨f, fd, ps, hm, F.kp, F.bindsN bd, fun vs H Q E h => h.1, fun A outer s H args us vs Q E _ _ _ _ h => ?_⟩
  obtain ⟨_, _, _, _, _, _, _, _, post⟩ := h
  exact (show False from post).elim
end
section
variable {X : Cx} {W : WX} {fr : Bool} {Ω : List Nat} {e : Expr} {es : List Expr} {ml : LM} {p pos : Pos} {x : Str} {k j n : Nat} {m : List D → M D}
theorem p_callRV (d : Df X.prog X.w X.K X.mg X.base x j false n m) (hj : j ≤ k) (hr : Room k X.A) (tk : Takes X W) (hg : Gl X x) (ha : pL X W Ω (e :: es) ml) (hn : (e :: es).length = n := by rfl) (hdb : (x == ("__debug__" : Str)) = false := by decide)
    (he : starEach (e :: es) X.env = (false, eval e X.env) :: starEach es X.env := by rfl) (hpl : (backTo pos (starEach es X.env)).any (·.1) = false := by rfl) : pV X W Ω (.Call (.Name x p) (e :: es) [] pos) (eFn m ml) := p_call d hr tk hg ha hn hj hdb he hpl
theorem p_callV (d : Df X.prog X.w X.K X.mg X.base x j false n m) (hr : Room k X.A) (tk : Takes X W) (hg : Gl X x) (ha : pL X W Ω (e :: es) ml) (hn : (e :: es).length = n := by rfl) (hj : j ≤ k := by decide) (hdb : (x == ("__debug__" : Str)) = false := by decide)
    (he : starEach (e :: es) X.env = (false, eval e X.env) :: starEach es X.env := by rfl) (hpl : (backTo pos (starEach es X.env)).any (·.1) = false := by rfl) : pV X W Ω (.Call (.Name x p) (e :: es) [] pos) (eFn m ml) := p_call d hr tk hg ha hn hj hdb he hpl
theorem p_callRF (d : Df X.prog X.w X.K X.mg X.base x j true n m) (hj : j ≤ k) (hr : Room k X.A) (tk : Takes X W) (hg : Gl X x) (ha : pL X W Ω (e :: es) ml) (hn : (e :: es).length = n := by rfl) (hdb : (x == ("__debug__" : Str)) = false := by decide)
    (he : starEach (e :: es) X.env = (false, eval e X.env) :: starEach es X.env := by rfl) (hpl : (backTo pos (starEach es X.env)).any (·.1) = false := by rfl) : pF X W Ω (.Call (.Name x p) (e :: es) [] pos) (eFn m ml) := p_call d hr tk hg ha hn hj hdb he hpl
theorem p_callF (d : Df X.prog X.w X.K X.mg X.base x j true n m) (hr : Room k X.A) (tk : Takes X W) (hg : Gl X x) (ha : pL X W Ω (e :: es) ml) (hn : (e :: es).length = n := by rfl) (hj : j ≤ k := by decide) (hdb : (x == ("__debug__" : Str)) = false := by decide)
    (he : starEach (e :: es) X.env = (false, eval e X.env) :: starEach es X.env := by rfl) (hpl : (backTo pos (starEach es X.env)).any (·.1) = false := by rfl) : pF X W Ω (.Call (.Name x p) (e :: es) [] pos) (eFn m ml) := p_call d hr tk hg ha hn hj hdb he hpl
end
section
variable {X : Cx} {W : WX} {fr : Bool} {en : Ent} {Ω Ω1 Ω' Ωl : List Nat} {a b c e tg it : Expr} {es : List Expr} {ma mb mc : EM} {ml : LM} {pos p tpos : Pos} {x : Str} {fs : List Bool}
theorem q_par3 {i j l : Nat} {x y z : Str} {px py pz pt pos : Pos} {kt k2 pt2} (hN : X.N.Nodup) (hi : X.N[i]? = some x) (hj : X.N[j]? = some y) (hl : X.N[l]? = some z) (ha : pM X W Ω fs [a, b, c] ml) (ok : parOk fs [i, j, l] Ω = true := by decide) (hij : i ≠ j := by decide) (hil : i ≠ l := by decide) (hjl : j ≠ l := by decide) (hc : X.calm = true := by rfl)
    (hx : X.env.scope.names.lookup x = some .local := by rfl) (hy : X.env.scope.names.lookup y = some .local := by rfl) (hz : X.env.scope.names.lookup z = some .local := by rfl)
    (hw : swappedStores [.Tuple [.Name x px, .Name y py, .Name z pz] kt pt] (.Tuple [a, b, c] k2 pt2) X.env = pure (some [x, y, z]) := by rfl)
    (hs : swapsWithSole [.Tuple [.Name x px, .Name y py, .Name z pz] kt pt] (.Tuple [a, b, c] k2 pt2) pos.line X.env = pure false := by rfl) :
    qS X W fr en Ω (parΩ fs [i, j, l] Ω) Ωl (.Assign [.Tuple [.Name x px, .Name y py, .Name z pz] kt pt] (.Tuple [a, b, c] k2 pt2) pos) (sPar [i, j, l] ml) :=
  q_par' (ps_par3 hc hN hi hj hl hij hil hjl hx hy hz ha hw hs) (fun De σ H h => by
    refine Mr.tG_conseq h fun vs H1 ⟨hl, q⟩ => ?_
    match vs, hl with
    | [u, v, w], _ => exact ⟨u, v, w, rfl, q⟩) ok
theorem MixL.grow {K : PySem.W.Frag} {mg : Str → Option Value} {H0 G H1 H2 G2 : Hp} {ρ ρ2 : List Addr} {fs : List Bool} {ds : List D} {vs : List V} {as : List Addr} (h : MixL K mg H0 G ρ H1 fs ds vs as) (g : Grow G ρ H1 G2 ρ2 H2) : MixL K mg H0 G2 ρ2 H2 fs ds vs as := by
  induction h with
  | nil => exact .nil
  | vis r _ ih => exact .vis (r.mono g.sub g.pre) ih
  | own h r gn m n _ ih =>
    obtain ⟨a', o', q1, q2, q3, q4, q5⟩ := Own.grow ⟨_, _, rfl, h, r, gn, m⟩ g
    cases q1
    exact .own q2 q3 q4 q5 n ih
/-- many names, by a tuple that is made and taken apart -/
theorem q_parN {is : List Nat} {ts : List Expr} {t : TGs} {kt k2} {pt pt2 pos : Pos} (n : Names X ts is t) (h : PGs X ts t) (ha : pM X W Ω fs es ml) (ok : parOk fs is Ω = true := by decide) (hz : fs.length ≤ 1000 := by decide) (hc : X.calm = true := by rfl)
    (hn : (assignEach ts X.env).length = is.length := by rfl) (hst : (assignEach ts X.env).findIdx? (·.1) = none := by rfl)
    (hs : swapsWithSole [.Tuple ts kt pt] (.Tuple es k2 pt2) pos.line X.env = pure false := by rfl) (hw : swappedStores [.Tuple ts kt pt] (.Tuple es k2 pt2) X.env = pure none := by rfl) (h1 : (assignEach [.Tuple ts kt pt] X.env).map (·.2) = [assign (.Tuple ts kt pt) X.env] := by rfl) :
    qS X W fr en Ω (parΩ fs is Ω) Ωl (.Assign [.Tuple ts kt pt] (.Tuple es k2 pt2) pos) (sPar is ml) :=
  ps_imp (ps_asg (pe_tup ha) (pg_tup hc h hn hst) hs hw h1) fun De σ H ⟨G, ρ, S, env, h, p⟩ =>
    here_post h p fun G1 ρ1 S1 H1 ds vs gr h1 ⟨as, r, nd⟩ p1 => by
      have hl := r.length
      have hi := parOk_len ok
      have e1 : ds.length = is.length := by rw [hl.1, hi]
      simp only [if_pos e1] at p1
      refine ⟨by rw [hl.2]; exact Nat.le_trans hz (by decide), fun q hq => ?_⟩
      refine ⟨q, vs, rfl, SqT.of upd_same, by rw [hl.2, hi], names_run n (by rw [hl.2, hi]) ?_⟩
      have g2 : Grow G1 ρ1 H1 G1 ρ1 (upd H1 q (.tup vs)) := up_grow hq
      have h2 := h1.grow g2 (up_same h1.at_.sub hq) (up_st h1.at_.st hq)
      refine p1 G1 ρ1 _ _ Le.refl (h2.setMix ((r.grow g2).mono fun x z => h.gr.live x z) nd ok fun j e b hj q1 q2 hm => ?_)
      exact own_some h j e b hj q1 q2 (r.fresh b hm)
end
@[simp] theorem wpS_par {e : Ev} {s : Store} {k : Kt} (is : List Nat) (m : LM) : wpS (sPar is m) e s k = wp (m e) s (fun ds s' => if ds.length = is.length then k.nx (setAll (is.zip ds) e) s' else False) (fun x s' => k.ex x e s') := by
  unfold sPar
  rw [wpS_sE]
  congr 1
  funext ds s'
  split <;> rfl
end Mr
/-! The mirror layer, 17: a thing of one's own lent to a def that changes nothing and answers by a flat value. -/
namespace Mr
open PySem PySem.Spec PyProof.Rows L2
mutual
def D.closed : D → Bool
  | .tup xs | .lst xs => D.closedL xs
  | .dic ks vs => D.closedL ks && D.closedL vs
  | .ref _ => false
  | _ => true
def D.closedL : List D → Bool
  | [] => true
  | x :: xs => x.closed && D.closedL xs
end
section
variable {K : PySem.W.Frag} {mg : Str → Option Value} {G H : Hp} {ρ : List Addr}
mutual
theorem Rep.close (ρ' : List Addr) : ∀ {d : D} {v : V}, Rep K mg G ρ d v → d.closed = true → Rep K mg G ρ' d v
  | _, _, .non, _ => .non
  | _, _, .bl b, _ => .bl b
  | _, _, .int i, _ => .int i
  | _, _, .str s h, _ => .str s h
  | _, _, .tup h z r, c => .tup h z (RepL.close ρ' r (by simpa [D.closed] using c))
  | _, _, .lst h z r, c => .lst h z (RepL.close ρ' r (by simpa [D.closed] using c))
  | _, _, .dic h r q, c => .dic h (RepL.close ρ' r (by have := c; simp [D.closed] at this; exact this.1)) (RepL.close ρ' q (by have := c; simp [D.closed] at this; exact this.2))
  | _, _, .ref h, c => absurd c (by simp [D.closed])
  | _, _, .ty n, _ => .ty n
  | _, _, .glo h, _ => .glo h
  | _, _, .exc h, _ => .exc h
theorem RepL.close (ρ' : List Addr) : ∀ {ds : List D} {vs : List V}, RepL K mg G ρ ds vs → D.closedL ds = true → RepL K mg G ρ' ds vs
  | _, _, .nil, _ => .nil
  | d :: ds, _, .cons h t, c => by
    have c' : d.closed = true ∧ D.closedL ds = true := by simpa [D.closedL] using c
    exact .cons (Rep.close ρ' h c'.1) (RepL.close ρ' t c'.2)
end
/-- the heap without tables -/
def noTbl (H : Hp) : Hp := fun a => match H a with
  | some (.tbl _) => none
  | o => o
theorem noTbl_some {H : Hp} {a : Addr} {o : HO} (h : H a = some o) (n : ∀ ps, o ≠ .tbl ps) : noTbl H a = some o := by
  unfold noTbl
  rw [h]
  cases o <;> first
    | rfl
    | exact (n _ rfl).elim
theorem noTbl_gt {H : Hp} (a : Addr) (ps : Array Value) : noTbl H a ≠ some (.tbl ps) := by
  unfold noTbl
  intro z
  cases e : H a with
  | none => rw [e] at z; cases z
  | some o => rw [e] at z; cases o <;> cases z
theorem noTbl_same {H : Hp} : Same (noTbl H) H := fun a o e => by
  unfold noTbl at e
  cases q : H a with
  | none => rw [q] at e; cases e
  | some u => rw [q] at e; cases u <;> first
      | exact e
      | (cases e; done)
theorem RepO.whole {U : Hp} {d : D} {v : V} (s : Same G U) (u : ∀ a o, H a = some o → (∀ ps, o ≠ .tbl ps) → U a = some o) (h : RepO K mg G ρ H d v) (c : d.closed = true) : Rep K mg U [] d v := by
  rcases h with h | ⟨a, o, rfl, h, r, _⟩
  · exact Rep.close [] (Rep.mono s (fun _ _ q => q) h) c
  · cases d <;> cases o <;> first
      | exact (show False from r).elim
      | exact .lst (u _ _ h (fun ps z => by cases z)) r.1 (RepL.close [] (RepL.mono s (fun _ _ q => q) r.2) (by simpa [D.closed] using c))
      | exact .dic (u _ _ h (fun ps z => by cases z)) (RepL.close [] (RepL.mono s (fun _ _ q => q) r.1) (by have := c; simp [D.closed] at this; exact this.1)) (RepL.close [] (RepL.mono s (fun _ _ q => q) r.2) (by have := c; simp [D.closed] at this; exact this.2))
inductive RepOL (K : PySem.W.Frag) (mg : Str → Option Value) (G : Hp) (ρ : List Addr) (H : Hp) : List D → List V → Prop
  | nil : RepOL K mg G ρ H [] []
  | cons {d : D} {v : V} {ds : List D} {vs : List V} (h : RepO K mg G ρ H d v) (t : RepOL K mg G ρ H ds vs) : RepOL K mg G ρ H (d :: ds) (v :: vs)
theorem RepOL.whole {U : Hp} (s : Same G U) (u : ∀ a o, H a = some o → (∀ ps, o ≠ .tbl ps) → U a = some o) : ∀ {ds : List D} {vs : List V}, RepOL K mg G ρ H ds vs → D.closedL ds = true → RepL K mg U [] ds vs
  | _, _, .nil, _ => .nil
  | d :: ds, _, .cons h t, c => by
    have c' : d.closed = true ∧ D.closedL ds = true := by simpa [D.closedL] using c
    exact .cons (h.whole s u c'.1) (RepOL.whole s u t c'.2)
def rLO (K : PySem.W.Frag) (mg : Str → Option Value) (n : Nat) : Rl (List D) (List V) := ⟨fun _ G ρ H' d v => RepOL K mg G ρ H' d v ∧ v.length = n, fun _ h => h⟩
theorem rep_flat {G' : Hp} {ρ' : List Addr} {d : D} {v : V} (h : Rep K mg G ρ d v) (f : d.flat = true) : Rep K mg G' ρ' d v := by
  cases h <;> first
    | (simp [D.flat] at f; done)
    | exact .non
    | exact .bl _
    | exact .int _
    | (rename_i h; exact .str _ h)
end
def lendM (m : List D → M D) (ds : List D) : M D := fun s => if D.closedL ds then (match m ds [] with
  | .ok d _ => if d.flat then .ok d s else .bad
  | _ => .bad) else .bad
def eFnB (m : List D → M D) (as : LM) : EM := fun env => as env >>= fun xs => lendM m xs
section
variable {X : Cx} {W : WX} {fr : Bool} {Ω : List Nat} {e : Expr} {es : List Expr} {ma : EM} {ml : LM} {p pos : Pos} {x : Str} {k j n : Nat} {m : List D → M D}
abbrev pOL (X : Cx) (W : WX) (Ω : List Nat) (es : List Expr) (m : LM) : Prop := PA X es (tG X.K X.mg (rLO X.K X.mg es.length) W Ω m)
theorem pol_nil : pOL X W Ω [] lNil := pa_imp pa_nil fun σ H Q ⟨G, ρ, S, env, at_, p⟩ => Post.done (S := S) (a := ([] : List D)) p at_.sub at_.st ⟨.nil, rfl⟩
theorem pol_cons (ha : pO X W Ω e ma) (hr : pOL X W Ω es ml) (hs : starEach (e :: es) X.env = (false, eval e X.env) :: starEach es X.env := by rfl) : pOL X W Ω (e :: es) (lCons ma ml) := pa_imp (pa_cons ha hr hs) fun σ H Q h =>
  h.thn fun G1 ρ1 S1 env H1 d v at1 r1 p1 => p1.thn at1 fun G2 ρ2 S2 H2 ds vs g at2 r2 p2 => Post.done (S := S2) (a := d :: ds) p2 at2.sub at2.st ⟨.cons (RepO.grow r1 g) r2.1, by rw [List.length_cons, List.length_cons, r2.2]⟩
theorem p_lend (d : Df X.prog X.w X.K X.mg X.base x j fr n m) (hr : Room k X.A) (tk : Takes X W) (hg : Gl X x) (ha : pOL X W Ω (e :: es) ml) (hn : (e :: es).length = n := by rfl) (hj : j ≤ k := by decide) (hdb : (x == ("__debug__" : Str)) = false := by decide)
    (he : starEach (e :: es) X.env = (false, eval e X.env) :: starEach es X.env := by rfl) (hpl : (backTo pos (starEach es X.env)).any (·.1) = false := by rfl) : pV X W Ω (.Call (.Name x p) (e :: es) [] pos) (eFnB m ml) := by
  obtain ⟨f, fd, ps, h1, h2, h3, h4⟩ := d.ex
  refine pe_imp (pe_callS h4 (hr.mono hj) hg h1 h2 h3 (passAt tk) ha hdb he hpl) fun σ H Q h => ?_
  refine tG.thn (k := fun xs _ => lendM m xs) h fun G1 ρ1 S1 env H1 ds vs at1 r1 p1 => ?_
  unfold lendM at p1
  by_cases hc : D.closedL ds = true
  · simp only [hc, if_true] at p1
    have sg : Same G1 (noTbl H1) := fun a o e => noTbl_some (at1.sub a o e) fun ps z => at1.st.gt a ps (by rw [e, z])
    refine ⟨r1.2.trans hn, noTbl H1, [], [], ds, noTbl_same, ⟨rfl, List.nodup_nil, fun a z => (by cases z), fun n a o z => (by simp at z), at1.st.tb, noTbl_gt⟩, r1.1.whole sg (fun _ _ => noTbl_some) hc, ?_⟩
    cases em : m ds [] with
    | ok dd s =>
      simp only [em] at p1
      by_cases hf : dd.flat = true
      · simp only [hf, if_true] at p1
        refine fun G' ρ' H' b s' g st r => ?_
        have hkeep : ∀ a o, H1 a = some o → (∀ ps, o ≠ .tbl ps) → H' a = some o := fun a o e nt => g.keep a o e (by simp) nt
        have rb : Rep X.K X.mg G1 ρ1 dd b := by
          unfold rRes at r
          cases fr with
          | false => exact rep_flat (show Rep X.K X.mg G' ρ' dd b from r) hf
          | true =>
            obtain ⟨a, o, _, _, ro, _⟩ := r
            have hx : ∀ (d : D) (o : HO), OwnR X.K X.mg G' ρ' d o → d.flat = true → False := fun d o ro hf => by
              cases d <;> cases o <;> first
                | exact (show False from ro).elim
                | exact Bool.false_ne_true hf
            exact (hx dd o ro hf).elim
        refine p1 G1 ρ1 H' b (fun a o e => hkeep a o (at1.sub a o e) fun ps z => at1.st.gt a ps (by rw [e, z])) ⟨Same.refl _, fun _ _ q => q, fun a o e _ nt => hkeep a o e nt, fun a e => g.live a e, fun _ _ e => .inl e, fun _ e => .inl e⟩ (at1.st.mono (Same.refl _) (fun a ha => ?_) at1.st.out (fun _ => st.tb) at1.st.gt) rb
        obtain ⟨i, e⟩ := List.getElem?_of_mem ha
        have hi : i < S1.length := by rw [← at1.st.len]; exact (List.getElem?_eq_some_iff.mp e).1
        obtain ⟨o, ho, nt⟩ := (at1.st.obj i a S1[i] e (List.getElem?_eq_getElem hi)).some
        rw [hkeep a o ho nt, ho]
      · simp only [hf, Bool.false_eq_true, if_false] at p1
        exact (show False from p1).elim
    | exc x s => simp only [em] at p1; exact (show False from p1).elim
    | bad => simp only [em] at p1; exact (show False from p1).elim
  · simp only [hc, Bool.false_eq_true, if_false] at p1
    exact (show False from p1).elim
end
theorem wp_lend {m : List D → M D} {ds : List D} {d : D} {s s0 : Store} {Φ : D → Store → Prop} {Ξ : Xc → Store → Prop} (hc : D.closedL ds = true) (h : m ds [] = .ok d s0) (hf : d.flat = true) : wp (lendM m ds) s Φ Ξ = Φ d s := by
  refine wp_ok ?_
  unfold lendM
  simp only [hc, if_true, h, hf]
@[simp] theorem wp_eFnB {e : Ev} {s : Store} {Φ : D → Store → Prop} {Ξ : Xc → Store → Prop} (f : List D → M D) (l : LM) : wp (eFnB f l e) s Φ Ξ = wp (l e) s (fun x s => wp (lendM f x) s Φ Ξ) Ξ := by unfold eFnB; simp only [wp_bind]
end Mr
/-! The mirror layer, 18: str of an int. -/
namespace Mr
open PySem PySem.Spec PyProof.Rows L2
def intT (i : Int) : Tx := (toString i : String).toList
theorem intT_str (i : Int) : toS (intT i) = Str.ofString (toString i) := (Str.ofString_eq_toList _).symm
def fStr : D → M D
  | .int i => if i.natAbs.log2 < 1920 ∧ (intT i).length ≤ 1000 then pure (.str (intT i)) else bad
  | _ => bad
section
variable {X : Cx} {W : WX} {Ω : List Nat} {e : Expr} {ma : EM} {pos p : Pos}
theorem ok_str : Ok1 X (rV X.K X.mg) (fun xs H Q => ∃ i : Int, xs = [.int i] ∧ i.natAbs.log2 < 1920 ∧ Q (.str (Str.ofString (toString i))) H) fStr := by
  intro G ρ S H d x Wx Q s st rd p
  cases d with
  | int i =>
    rw [rd.int]
    by_cases hz : i.natAbs.log2 < 1920 ∧ (intT i).length ≤ 1000
    · simp only [fStr, if_pos hz] at p
      refine ⟨i, rfl, hz.1, ?_⟩
      rw [← intT_str]
      exact Post.V (S := S) (d := .str (intT i)) p s st (.str _ (Nat.le_trans hz.2 (by decide)))
    · simp only [fStr, if_neg hz] at p
      exact (show False from p).elim
  | _ => exact (show False from p).elim
theorem pv_tostr (hg : Gl X "str") (hm : X.mg "str" = none) (ha : pO X W Ω e ma) (he : starEach [e] X.env = (false, eval e X.env) :: starEach [] X.env := by rfl) : pV X W Ω (.Call (.Name "str" p) [e] [] pos) (eUn fStr ma) :=
  p_callT1 call_str_int ok_str hg hm (by decide +kernel) ha (by decide) (by decide) he
/-! ### split at one sign -/
end
def splitN (n : Nat) : List Nat → List (List Nat)
  | [] => [[]]
  | x :: r => if x = n then [] :: splitN n r else (match splitN n r with
    | q :: qs => (x :: q) :: qs
    | [] => [[x]])
def splitT (c : Char) : Tx → List Tx
  | [] => [[]]
  | x :: r => if x = c then [] :: splitT c r else (match splitT c r with
    | q :: qs => (x :: q) :: qs
    | [] => [[x]])
theorem splitN_ne (n : Nat) : ∀ l, splitN n l ≠ []
  | [] => by simp [splitN]
  | x :: r => by
    unfold splitN
    split
    · simp
    · split <;> simp
theorem spl_N (n : Nat) : ∀ (l acc : List Nat), TL.spl [n] 0 acc l = (match splitN n l with
    | q :: qs => (acc ++ q) :: qs
    | [] => [acc])
  | [], acc => by simp [TL.spl, splitN]
  | x :: r, acc => by
    have hp : TL.pre [n] (x :: r) = (x == n) := by
      unfold TL.pre
      by_cases h : x = n <;> simp [h]
    by_cases h : x = n
    · subst h
      rw [TL.spl_hit (by rw [hp]; simp)]
      show acc :: TL.spl [x] 0 [] r = _
      rw [spl_N x r []]
      have e : splitN x (x :: r) = [] :: splitN x r := by rw [splitN, if_pos rfl]
      rw [e]
      cases q : splitN x r with
      | nil => exact absurd q (splitN_ne x r)
      | cons p ps => simp
    · rw [TL.spl_miss (by rw [hp]; simpa using h), spl_N n r (acc ++ [x])]
      have e : splitN n (x :: r) = (match splitN n r with
        | q :: qs => (x :: q) :: qs
        | [] => [[x]]) := by rw [splitN, if_neg h]
      rw [e]
      cases q : splitN n r with
      | nil => exact absurd q (splitN_ne n r)
      | cons p ps => simp
theorem splitN_T (c : Char) : ∀ t : Tx, splitN c.toNat (t.map Char.toNat) = (splitT c t).map fun q => q.map Char.toNat
  | [] => rfl
  | x :: r => by
    have ih := splitN_T c r
    rw [List.map_cons, splitN, splitT]
    by_cases h : x = c
    · subst h
      rw [if_pos rfl, if_pos rfl, ih]
      rfl
    · have h2 : ¬ x.toNat = c.toNat := fun z => h (Char.ext (UInt32.toNat_inj.mp z))
      rw [if_neg h2, if_neg h, ih]
      cases splitT c r <;> rfl
theorem split_toS (t : Tx) (c : Char) (hc : c.toNat < 256) : Txt.split (toS t) (toS [c]) = (splitT c t).map toS := by
  have h1 : TL.tl (toS [c]) = [c.toNat] := by simp [TL.tl, toS]
  have h2 : TL.tl (toS t) = t.map Char.toNat := by simp [TL.tl, toS]
  have h := TL.split_spl (toS t) (toS [c]) (by rw [h1]; simp) (TL.kind_ok (by simp [toS, hc]))
  rw [h1, h2, spl_N, splitN_T] at h
  have h3 : (Txt.split (toS t) (toS [c])).map TL.tl = ((splitT c t).map toS).map TL.tl := by
    rw [h, List.map_map]
    cases q : splitT c t with
    | nil =>
      have : splitN c.toNat (t.map Char.toNat) = [] := by rw [splitN_T, q]; rfl
      exact absurd this (splitN_ne _ _)
    | cons p ps =>
      simp [TL.tl, toS, Function.comp_def]
  exact (List.map_inj_right fun x y e => TL.ext_tl e).mp h3
def fSplit : D → D → M D
  | .str a, .str [c] => if a.length ≤ 100000 ∧ c.toNat < 256 then pure (.lst ((splitT c a).map .str)) else bad
  | _, _ => bad
theorem splitT_len (c : Char) : ∀ t : Tx, (splitT c t).length ≤ t.length + 1 ∧ ∀ q ∈ splitT c t, q.length ≤ t.length
  | [] => ⟨by simp [splitT], fun q hq => by simp [splitT] at hq; simp [hq]⟩
  | x :: r => by
    obtain ⟨h1, h2⟩ := splitT_len c r
    unfold splitT
    by_cases h : x = c
    · rw [if_pos h]
      refine ⟨by simp; omega, fun q hq => ?_⟩
      rcases List.mem_cons.mp hq with rfl | hq
      · simp
      · have := h2 q hq
        simp only [List.length_cons]
        omega
    · rw [if_neg h]
      cases e : splitT c r with
      | nil => exact ⟨by simp, fun q hq => by simp at hq; simp [hq]⟩
      | cons p ps =>
        rw [e] at h1 h2
        refine ⟨by simp at h1 ⊢; omega, fun q hq => ?_⟩
        rcases List.mem_cons.mp hq with rfl | hq
        · have := h2 p (List.mem_cons_self ..)
          simp only [List.length_cons]
          omega
        · have := h2 q (List.mem_cons_of_mem _ hq)
          simp only [List.length_cons]
          omega
theorem strs_rep {K : PySem.W.Frag} {mg : Str → Option Value} {G : Hp} {ρ : List Addr} : ∀ l : List Tx, (∀ q ∈ l, q.length ≤ sizeLine) → RepL K mg G ρ (l.map D.str) ((l.map toS).map V.str)
  | [], _ => .nil
  | x :: l, h => .cons (.str x (h x (List.mem_cons_self ..))) (strs_rep l fun q hq => h q (List.mem_cons_of_mem _ hq))
section
variable {X : Cx} {W : WX} {Ω : List Nat} {e o : Expr} {ma mb : EM} {pos p apos : Pos}
theorem pv_split (ho : pO X W Ω o ma) (he : pO X W Ω e mb) (hs : starEach [e] X.env = [(false, eval e X.env)] := by rfl) (hbase : attributeBase o "split" X.env (eval o X.env) = eval o X.env := by rfl) (hline : (apos.endLine == pos.line) = true := by rfl) :
    pV X W Ω (.Call (.Attribute o "split" apos) [e] [] pos) (eMeth fSplit ma mb) := pe_imp (pe_split ho he hs hbase hline) fun σ H Q h =>
  tG.thn (k := fun x env => asS x >>= fun x => mb env >>= fun y => fSplit x y) h fun G1 ρ1 S1 env H1 d v at1 r1 p1 => by
    cases d with
    | str s =>
      obtain ⟨rfl, hz⟩ := r1.str
      refine ⟨⟨_, rfl⟩, ?_⟩
      have p1 : Post X.K X.mg (rV X.K X.mg) (fun c d H => W c d σ H) Q G1 ρ1 H1 ((mb env >>= fun y => fSplit (.str s) y) S1) := p1
      refine p1.thn at1 fun G2 ρ2 S2 H2 e w g at2 r2 p2 => ?_
      cases e with
      | str cs =>
        obtain ⟨rfl, hz2⟩ := r2.str
        match cs with
        | [] => exact (show False from p2).elim
        | [c] =>
          by_cases hl : s.length ≤ 100000 ∧ c.toNat < 256
          · simp only [fSplit, if_pos hl] at p2
            have hle := splitT_len c s
            have hs1 : (100001 : Nat) ≤ sizeLine := by decide
            refine ⟨toS s, toS [c], rfl, rfl, ?_, ?_, ?_⟩
            · rw [toS_length]; rfl
            · rw [toS_length]
              exact Nat.le_trans (show s.length + 2 ≤ 100002 by omega) (by decide)
            · rw [split_toS s c hl.2]
              intro q hq
              exact Post.lst (S := S2) (xs := (splitT c s).map .str) p2 at2.sub at2.st (strs_rep _ fun q hq => Nat.le_trans (hle.2 q hq) (by omega)) (by rw [List.length_map, List.length_map]; omega) hq
          · simp only [fSplit, if_neg hl] at p2
            exact (show False from p2).elim
        | _ :: _ :: _ => exact (show False from p2).elim
      | _ => exact (show False from p2).elim
    | _ => exact (show False from p1).elim
end
end Mr
/-! The mirror layer, 19: min and max of a list. -/
namespace Mr
open PySem PySem.Spec PyProof.Rows L2
def intsOf : List D → Option (List Int)
  | [] => some []
  | .int i :: r => (intsOf r).map (i :: ·)
  | _ => none
theorem ints_of_rep {K : PySem.W.Frag} {mg : Str → Option Value} {G : Hp} {ρ : List Addr} : ∀ {ds : List D} {vs : List V} {l : List Int}, RepL K mg G ρ ds vs → intsOf ds = some l → vs = l.map V.int
  | _, _, _, .nil, h => by
    unfold intsOf at h
    cases h
    rfl
  | _, _, l, .cons r t, h => by
    cases r <;> try (unfold intsOf at h; cases h; done)
    unfold intsOf at h
    cases q : intsOf _ with
    | none => rw [q] at h; cases h
    | some l' =>
      rw [q] at h
      cases h
      rw [ints_of_rep t q]
      rfl
def leastI : Int → List Int → Int
  | n, [] => n
  | n, m :: r => if m < n then leastI m r else leastI n r
def mostI : Int → List Int → Int
  | n, [] => n
  | n, m :: r => if n < m then mostI m r else mostI n r
theorem least_is : ∀ (r : List Int) (n : Int), leastI n r ∈ n :: r ∧ ∀ y ∈ n :: r, leastI n r ≤ y
  | [], n => ⟨by simp [leastI], fun y hy => by simp at hy; simp [leastI, hy]⟩
  | m :: r, n => by
    unfold leastI
    by_cases h : m < n
    · rw [if_pos h]
      obtain ⟨h1, h2⟩ := least_is r m
      refine ⟨List.mem_cons_of_mem _ h1, fun y hy => ?_⟩
      rcases List.mem_cons.mp hy with rfl | hy
      · have := h2 m (List.mem_cons_self ..); omega
      · exact h2 y hy
    · rw [if_neg h]
      obtain ⟨h1, h2⟩ := least_is r n
      refine ⟨?_, fun y hy => ?_⟩
      · rcases List.mem_cons.mp h1 with e | h1
        · rw [e]; exact List.mem_cons_self ..
        · exact List.mem_cons_of_mem _ (List.mem_cons_of_mem _ h1)
      · rcases List.mem_cons.mp hy with rfl | hy
        · exact h2 _ (List.mem_cons_self ..)
        · rcases List.mem_cons.mp hy with rfl | hy
          · have := h2 n (List.mem_cons_self ..); omega
          · exact h2 y (List.mem_cons_of_mem _ hy)
theorem most_is : ∀ (r : List Int) (n : Int), mostI n r ∈ n :: r ∧ ∀ y ∈ n :: r, y ≤ mostI n r
  | [], n => ⟨by simp [mostI], fun y hy => by simp at hy; simp [mostI, hy]⟩
  | m :: r, n => by
    unfold mostI
    by_cases h : n < m
    · rw [if_pos h]
      obtain ⟨h1, h2⟩ := most_is r m
      refine ⟨List.mem_cons_of_mem _ h1, fun y hy => ?_⟩
      rcases List.mem_cons.mp hy with rfl | hy
      · have := h2 m (List.mem_cons_self ..); omega
      · exact h2 y hy
    · rw [if_neg h]
      obtain ⟨h1, h2⟩ := most_is r n
      refine ⟨?_, fun y hy => ?_⟩
      · rcases List.mem_cons.mp h1 with e | h1
        · rw [e]; exact List.mem_cons_self ..
        · exact List.mem_cons_of_mem _ (List.mem_cons_of_mem _ h1)
      · rcases List.mem_cons.mp hy with rfl | hy
        · exact h2 _ (List.mem_cons_self ..)
        · rcases List.mem_cons.mp hy with rfl | hy
          · have := h2 n (List.mem_cons_self ..); omega
          · exact h2 y (List.mem_cons_of_mem _ hy)
def fMinL : D → M D
  | .lst ds => (match intsOf ds with
    | some (n :: r) => pure (.int (leastI n r))
    | _ => bad)
  | _ => bad
def fMaxL : D → M D
  | .lst ds => (match intsOf ds with
    | some (n :: r) => pure (.int (mostI n r))
    | _ => bad)
  | _ => bad
section
variable {X : Cx} {W : WX} {Ω : List Nat} {e : Expr} {ma : EM} {pos p : Pos}
theorem ok_minL : Ok1 X (rV X.K X.mg) (rMin X.K) fMinL := by
  intro G ρ S H d x Wx Q s st rd p
  cases d with
  | lst ds =>
    obtain ⟨q, vs, rfl, h1, r, z⟩ := rd.lst s
    unfold fMinL at p
    cases hi : intsOf ds with
    | none => simp only [hi] at p; exact (show False from p).elim
    | some l =>
      cases l with
      | nil => simp only [hi] at p; exact (show False from p).elim
      | cons n l =>
        simp only [hi] at p
        refine ⟨q, n :: l, rfl, SqL.of ((ints_of_rep r hi) ▸ h1), by simp, fun m hm hle => ?_⟩
        obtain ⟨k1, k2⟩ := least_is l n
        have : m = leastI n l := by
          have a := hle _ k1
          have b := k2 m hm
          omega
        rw [this]
        exact Post.V (S := S) (d := .int (leastI n l)) p s st (.int _)
  | _ => exact (show False from p).elim
theorem ok_maxL : Ok1 X (rV X.K X.mg) (rMax X.K) fMaxL := by
  intro G ρ S H d x Wx Q s st rd p
  cases d with
  | lst ds =>
    obtain ⟨q, vs, rfl, h1, r, z⟩ := rd.lst s
    unfold fMaxL at p
    cases hi : intsOf ds with
    | none => simp only [hi] at p; exact (show False from p).elim
    | some l =>
      cases l with
      | nil => simp only [hi] at p; exact (show False from p).elim
      | cons n l =>
        simp only [hi] at p
        refine ⟨q, n :: l, rfl, SqL.of ((ints_of_rep r hi) ▸ h1), by simp, fun m hm hle => ?_⟩
        obtain ⟨k1, k2⟩ := most_is l n
        have : m = mostI n l := by
          have a := hle _ k1
          have b := k2 m hm
          omega
        rw [this]
        exact Post.V (S := S) (d := .int (mostI n l)) p s st (.int _)
  | _ => exact (show False from p).elim
theorem pv_minL (hc : X.calm = true) (hg : Gl X "min") (hm : X.mg "min" = none) (ha : pO X W Ω e ma) (he : starEach [e] X.env = (false, eval e X.env) :: starEach [] X.env := by rfl) : pV X W Ω (.Call (.Name "min" p) [e] [] pos) (eUn fMinL ma) :=
  p_callB1 (cr_min hc) ok_minL hg hm (by decide +kernel) ha (by decide) (by decide) he
theorem pv_maxL (hc : X.calm = true) (hg : Gl X "max") (hm : X.mg "max" = none) (ha : pO X W Ω e ma) (he : starEach [e] X.env = (false, eval e X.env) :: starEach [] X.env := by rfl) : pV X W Ω (.Call (.Name "max" p) [e] [] pos) (eUn fMaxL ma) :=
  p_callB1 (cr_max hc) ok_maxL hg hm (by decide +kernel) ha (by decide) (by decide) he
end
end Mr
/-! The mirror layer, 20: strip of given signs. -/
namespace Mr
open PySem PySem.Spec PyProof.Rows L2
def stripT (a b : Tx) : Tx := ((Txt.stripChars (toS a) (toS b)).cps.toList).map Char.ofNat
def fStrip : D → D → M D
  | .str a, .str b => if toS (stripT a b) = Txt.stripChars (toS a) (toS b) ∧ (stripT a b).length ≤ 1000000 then pure (.str (stripT a b)) else bad
  | _, _ => bad
section
variable {X : Cx} {W : WX} {Ω : List Nat} {e o : Expr} {ma mb : EM} {pos p apos : Pos}
theorem pv_strip (ho : pO X W Ω o ma) (he : pO X W Ω e mb) (hs : starEach [e] X.env = [(false, eval e X.env)] := by rfl) (hbase : attributeBase o "strip" X.env (eval o X.env) = eval o X.env := by rfl) (hline : (apos.endLine == pos.line) = true := by rfl) :
    pV X W Ω (.Call (.Attribute o "strip" apos) [e] [] pos) (eMeth fStrip ma mb) := pe_imp (pe_m1 PySem.F.slot_str_strip PySem.F.type_str_strip mt_stripChars ho he hs hbase hline) fun σ H Q h =>
  tG.thn (k := fun x env => asS x >>= fun x => mb env >>= fun y => fStrip x y) h fun G1 ρ1 S1 env H1 d v at1 r1 p1 => by
    cases d with
    | str s =>
      obtain ⟨rfl, hz⟩ := r1.str
      refine ⟨⟨_, rfl⟩, ?_⟩
      have p1 : Post X.K X.mg (rV X.K X.mg) (fun c d H => W c d σ H) Q G1 ρ1 H1 ((mb env >>= fun y => fStrip (.str s) y) S1) := p1
      refine p1.thn at1 fun G2 ρ2 S2 H2 e w g at2 r2 p2 => ?_
      cases e with
      | str cs =>
        obtain ⟨rfl, hz2⟩ := r2.str
        by_cases hl : toS (stripT s cs) = Txt.stripChars (toS s) (toS cs) ∧ (stripT s cs).length ≤ 1000000
        · simp only [fStrip, if_pos hl] at p2
          refine ⟨toS s, toS cs, rfl, rfl, by rw [toS_length]; exact hz, ?_⟩
          rw [← hl.1]
          exact Post.V (S := S2) (d := .str (stripT s cs)) p2 at2.sub at2.st (.str _ (Nat.le_trans hl.2 (by decide)))
        · simp only [fStrip, if_neg hl] at p2
          exact (show False from p2).elim
      | _ => exact (show False from p2).elim
    | _ => exact (show False from p1).elim
end
end Mr
/-! The mirror layer, 21: a caught exception is a value: it is tracked within its suite and stays behind it. -/
namespace Mr
open PySem PySem.Spec PyProof.Rows L2
/-! ### the suite's context: nothing is pinned for the exception, it is tracked -/
abbrev suiT (X : Cx) (a : Addr) (pn : List (Addr × Obj)) : Cx := { X with A := X.A.mark (some (.ref a)), calm := false, pn := pn, xe := fun _ _ => False }
section
variable {X : Cx} {ps : List (Addr × Obj)} {σ : L2.St} {H : Hp} {s : Shared} {a : Addr}
theorem suiT_in (I : Inv X ps σ H s) : Inv (suiT X a (X.pn ++ ps)) [] σ H s :=
  { I with ok := ⟨I.ok.mod, I.ok.kind, I.ok.glob, I.ok.blt, I.ok.above, I.ok.inj, I.ok.has, I.ok.cab, (fun z => (Bool.false_ne_true z).elim), I.ok.frames, I.ok.stk, I.ok.exf, I.ok.bs, I.ok.bsz, I.ok.noex, I.ok.exfs, I.ok.funs, I.ok.frf⟩
           pin := fun q hq => I.pin q (by simpa using hq) }
theorem suiT_out {qs : List (Addr × Obj)} (I : Inv (suiT X a (X.pn ++ ps)) qs σ H s) (ok : X.Ok) : Inv X ps σ H s :=
  { I with ok := ok, pin := fun q hq => I.pin q (List.mem_append_left _ hq) }
/-- an object that is new since the entry, out of all reach, is tracked from now on -/
theorem inv_track {o : HO} {oe : Obj} {vs : Array Value} (I : Inv X ps σ H s) (na : H a = none) (n0 : X.s_0.heap.get? a = none) (nL : a ≠ X.env.locals) (np : ∀ q ∈ X.pn ++ ps, q.1 ≠ a) (he : s.heap.get? a = some oe) (hd : oe.data = .fields vs)
    (new : ObjOk X.prog X.w (upd H a o) s.heap a o) : Inv X ps σ (upd H a o) s := by
  have away : ∀ {b : Addr} {u : HO}, H b = some u → upd H a o b = some u := fun {b u} e => by rw [upd_ne (ne_of_none e na)]; exact e
  refine { I with base := ⟨I.base.keep, I.base.slot, fun b u e n q => ?_, I.base.there, fun b xs e => away (I.base.tups b xs e), fun b u xs e => away (I.base.frzs b u xs e), fun b qs e => ?_⟩, free := ?_, freeC := fun y c e => ?_, pin := fun q hq => ?_, hok := fun b u e => ?_ }
  · rw [upd_ne (fun z => by rw [z, n0] at e; cases e)]
    exact I.base.free b u e n q
  · obtain ⟨more, q⟩ := I.base.tbls b qs e
    exact ⟨more, away q⟩
  · rw [upd_ne (Ne.symm nL)]
    exact I.free
  · have hc : c ≠ a := fun z => by
      subst z
      obtain ⟨v, o', q1, q2⟩ := I.cell y c e
      rw [he] at q1
      cases q1
      rw [hd] at q2
      cases q2
    rw [upd_ne hc]
    exact I.freeC y c e
  · obtain ⟨q1, q2, q3⟩ := I.pin q hq
    exact ⟨q1, by rw [upd_ne (np q hq)]; exact q2, q3⟩
  · by_cases hb : b = a
    · subst hb
      rw [upd_same] at e
      cases e
      exact new
    · rw [upd_ne hb] at e
      exact (I.hok b u e).stay (fun _ _ _ q => q) (fun c q => away q) fun c xs q => away q
end
/-- what the clause 'except x as n' wishes of the body's exceptions: slot i is n's -/
def wCau (K : PySem.W.Frag) (c : Value) (i : Nat) (ts : TS) (Wout : WX) (D : Ends) : WX := fun cls d σ H =>
  ∃ b, PySem.W.exmOne K cls c = some b ∧ (b = true → d = none ∧ ∃ y, cls = .ref (He.ga K y) ∧ clsB K y = true ∧
    ∀ a, H a = none → ts { nx := fun σ' H' => D.nx (σ'.set i none) H', rt := D.rt, bk := fun σ' H' => D.bk (σ'.set i none) H', ct := fun σ' H' => D.ct (σ'.set i none) H' } (σ.set i (some (.ref a))) (upd H a (ExX K y a))) ∧ (b = false → Wout cls d σ H)
/-- .. without a name -/
def wCau0 (K : PySem.W.Frag) (c : Value) (ts : TS) (Wout : WX) (D : Ends) : WX := fun cls d σ H =>
  ∃ b, PySem.W.exmOne K cls c = some b ∧ (b = true → ts D σ H) ∧ (b = false → Wout cls d σ H)
section
variable {X : Cx} {x n : Str} {c : Value} {i : Nat} {body suite : List Stmt} {b₀ : Stmt} {np pos pos' : Pos} {tb : WX → TS} {ts : TS} {Wout : WX}
theorem ps_catch (hs : X.stack = X.env :: X.outer) (hf : X.env.frame = some X.env.locals) (hex : X.ex = []) (hN : X.N.Nodup) (hi : X.N[i]? = some n) (hln : X.env.kindOf n = some .local) (hc : L2.Names X x c) (tk : Takes X Wout)
    (hb : ∀ (W : WX) (pn : List (Addr × Obj)) (xe : Value → Shared → Prop), Takes (X.tr pn xe) W → PassesOwn (model X.prog X.w) X.A X.env xe → PSs (X.tr pn xe) body (tb W))
    (hsu : ∀ (a : Addr) (pn : List (Addr × Obj)), PSs (suiT X a pn) (b₀ :: suite) ts) :
    PS X (.Try body [.ExceptHandler (some (.Name x np)) (some n) (b₀ :: suite) pos'] [] [] pos) (fun D σ H => tb (wCau X.K c i ts Wout D) D σ H) := ⟨fun ps s σ H D I h => by
  have ok := I.ok
  have fr : X.A.frames = some (X.env :: X.outer) := ok.frames.trans (by rw [hs])
  refine wpAny_Try_except (wpAny_mono ((hb (wCau X.K c i ts Wout D) (X.pn ++ ps) (fun e s₁ => wpAny (model X.prog X.w) X.A (noteFrame e X.env) (fun _ s₂ => wpAny (model X.prog X.w) X.A (setFlight e none) (fun _ s₃ => wpAny (model X.prog X.w) X.A (handleBy e X.env [.ExceptHandler (some (.Name x np)) (some n) (b₀ :: suite) pos']) (SP X ps D) X.xe s₃) X.xe s₂) X.xe s₁)
    (fun u s2 air => ?_) PassesOwn.looking).run [] s σ H D (I.toTry _) h) (fun f s1 done => ?_) (fun _ _ z => z))
  · obtain ⟨a, B, sI, ps2, σ2, H2, cls, d, rfl, J0, nb, up, sky, na, os, ag, b, hb1, yes, no⟩ := air
    have J : Inv X ps σ2 H2 sI := J0.ofTry ok
    have sky2 : Sky B (X.env :: X.outer) a (Zc cls d) X.env.locals s2.heap := hs ▸ sky
    refine Sky.land (E₁ := X.xe) Zc.steady fr hf sky2 fun h3 fl3 up3 => ?_
    obtain ⟨oe, vs, he, hz, hd⟩ := fl3.there
    have J3 : Inv X ps σ2 H2 { s2 with heap := h3 } := J.landed nb fl3.1 (up.trans up3) os ag
    have nfr : a ∉ frs (X.env :: X.outer) := fun hm => by
      obtain ⟨_, o', e', hnf⟩ := fl3.2.2.1.mem hm
      rw [he] at e'
      cases e'
      exact hnf _ hd
    have nL : a ≠ X.env.locals := fun z => nfr (List.mem_filterMap.mpr ⟨X.env, List.mem_cons_self, by rw [hf, z]⟩)
    have nI : sI.heap.get? a = none := by
      cases q : sI.heap.get? a with
      | none => rfl
      | some o =>
        have q2 := nb a o q (by rw [hs]; exact nfr)
        rw [fl3.2.1] at q2
        cases q2
    have n0 : X.s_0.heap.get? a = none := by
      cases q : X.s_0.heap.get? a with
      | none => rfl
      | some o =>
        obtain ⟨o', q2⟩ := J.base.there a o q (by rw [hex]; exact fun z => nomatch z)
        rw [nI] at q2
        cases q2
    have np2 : ∀ q ∈ X.pn ++ ps, q.1 ≠ a := fun q hq z => by
      have q1 := (J.pin q hq).1
      rw [z, nI] at q1
      cases q1
    have tyL : PySem.W.Looks (model X.prog X.w) h3 (typeOf (.ref a)) cls := fun A Q E s k q => wpAny_typeOf_ref (k _ _ he) (by rw [hz.1]; exact q)
    have asks := PySem.W.exm_one (M := model X.prog X.w) (J3.kIn) tyL hb1
    have nfs : a ∉ X.fs := fun hm => by
      obtain ⟨e, q1, q2⟩ := List.mem_filterMap.mp hm
      exact nfr (List.mem_filterMap.mpr ⟨e, List.mem_cons_of_mem _ q1, q2⟩)
    have S3 := J3.suite he hd na nL nfs
    refine wpAny_handleBy_cons (codeAny_handlers_test ?_) (by intro q; cases q)
    have name : ∀ {Q E : Value → Shared → Prop}, Q c { s2 with heap := h3 } → wpAny (model X.prog X.w) (X.A.mark (some (.ref a))) (eval (.Name x np) X.env) Q E { s2 with heap := h3 } := fun {Q E} q => by
      rcases hc with ⟨k1, k2, k3 | ⟨k3, k4, k5⟩⟩
      · exact ld_glob (X := X.suite a ((a, oe) :: (X.pn ++ ps))) S3 k1 k3 q k2
      · exact ld_blt (X := X.suite a ((a, oe) :: (X.pn ++ ps))) S3 k1 k3 k4 q k5 k2
    refine name (asks.here ?_)
    cases b with
    | true =>
      refine codeAny_handlers_suite_as (HandSPX.lands_againZ fl3 fun h4 fl4 up4 => ?_)
      obtain ⟨oe4, vs4, he4, hz4, hd4⟩ := fl4.there
      have J4 : Inv X ps σ2 H2 { s2 with heap := h4 } := J.landed nb fl4.1 ((up.trans up3).trans up4) os ag
      obtain ⟨rfl, y, rfl, hy, go⟩ := yes rfl
      have J5 : Inv X ps σ2 (upd H2 a (ExX X.K y a)) { s2 with heap := h4 } := inv_track J4 na n0 nL np2 he4 hd4 ⟨⟨hy, oe4, vs4, he4, hz4, hd4⟩, ⟨oe4, he4⟩, fun _ _ ⟨k1, o, v, q, r⟩ k => ⟨k1, o, v, k o q, r⟩⟩
      refine store_ok (X := suiT X a (X.pn ++ ps)) (v := .ref a) (suiT_in J5) hN hi (.inl hln) rfl (fun s5 S5 => ?_) (.inr hln)
      refine wpAny_mono ((hsu a (X.pn ++ ps)).run [] s5 _ _ _ S5 (go a na)) (fun f s6 end6 => ?_) (fun _ _ z => z.elim)
      have goes : ∀ {σ6 : L2.St} {H6 : Hp} {Q : Shared → Prop}, Inv (suiT X a (X.pn ++ ps)) [] σ6 H6 s6 → (∀ s7, Inv X ps (σ6.set i none) H6 s7 → Q s7) → wpAny (model X.prog X.w) X.A (do bindName X.env n .none; unbindBehindTheSuite X.env n pos') (fun _ s7 => Q s7) X.xe s6 := fun S6 q => gone_ok (suiT_out S6 ok) hN hi hln q
      cases f with
      | next => obtain ⟨σ6, H6, S6, q6⟩ := end6; exact goes S6 fun s7 J7 => ⟨_, _, J7, q6⟩
      | brk => obtain ⟨σ6, H6, S6, q6⟩ := end6; exact goes S6 fun s7 J7 => ⟨_, _, J7, q6⟩
      | cont => obtain ⟨σ6, H6, S6, q6⟩ := end6; exact goes S6 fun s7 J7 => ⟨_, _, J7, q6⟩
      | ret u => obtain ⟨v6, σ6, H6, S6, r6, q6⟩ := end6; exact goes S6 fun s7 J7 => ⟨_, _, _, J7, r6, q6⟩
    | false =>
      refine (wpAny_handleBy_nil ?_ : wpAny (model X.prog X.w) X.A (handleBy (.ref a) X.env []) (SP X ps D) X.xe { s2 with heap := h3 })
      obtain ⟨k1, k2, k3, o3, v3, T, oT, ts3, q1, q2, q3, q4, q5⟩ := id fl3
      have last : wpAny (model X.prog X.w) X.A (setFlight (.ref a) X.env.frame) (fun _ s4 => wpAny (model X.prog X.w) X.A (throw (.ref a) : Sem Flow) (SP X ps D) X.xe s4) X.xe { s2 with heap := h3 } := by
        rw [hf]
        exact HandSPX.setFlight_upZ fl3 fun h4 hh4 up4 => wpAny_throw (tk _ _ ⟨a, B, sI, ps, σ2, H2, cls, d, rfl, J, nb, (up.trans up3).trans up4, .inr (.inr (by rw [hs]; exact hh4)), na, os, ag, no rfl⟩)
      unfold PySem.passOn
      refine wpAny_bind (wpAny_field q1 q3 q4 ?_)
      rw [if_neg (show ¬ (Value.ref T == Value.none) = true by simp)]
      first
        | exact wpAny_bind (wpAny_pure (wpAny_bind last))
        | exact wpAny_bind last
  · cases f with
    | next => obtain ⟨σ2, H2, J, q⟩ := done; exact wpAny_execs_nil ⟨σ2, H2, J.ofTry ok, q⟩
    | brk => obtain ⟨σ2, H2, J, q⟩ := done; exact ⟨σ2, H2, J.ofTry ok, q⟩
    | cont => obtain ⟨σ2, H2, J, q⟩ := done; exact ⟨σ2, H2, J.ofTry ok, q⟩
    | ret u => obtain ⟨v, σ2, H2, J, r, q⟩ := done; exact ⟨v, σ2, H2, J.ofTry ok, r, q⟩⟩
end
end Mr
/-! The mirror layer, 22: try .. except; isinstance of what was caught. -/
namespace Mr
open PySem PySem.Spec PyProof.Rows L2
def behind (i : Nat) : SR → SR
  | .nx e s => .nx (e.set i none) s
  | .brk e s => .brk (e.set i none) s
  | .cnt e s => .cnt (e.set i none) s
  | .ret d s => .ret d s
  | _ => .bad
def sTry (C : Str) (i : Nat) (b k : SM) : SM := fun e s => match b e s with
  | .exc x e' s' => if subX x.cls C then (match x.args with
    | [] => behind i (k (e'.set i (some (.exc x.cls []))) s')
    | _ => .bad) else .exc x e' s'
  | r => r
section
variable {K : PySem.W.Frag} {mg : Str → Option Value} {G H : Hp} {ρ : List Addr} {S : Store} {en : Ent} {Ω Ωl : List Nat} {env : Ev} {σ : L2.St}
theorem Here.unset {i : Nat} (h : Here K mg en Ω G ρ env S σ H) (hi : i ∉ Ω) : Here K mg en Ω G ρ (env.set i none) S (σ.set i none) H := by
  have at_ : ∀ {j : Nat} {d : D}, (env.set i none)[j]? = some (some d) → i ≠ j ∧ env[j]? = some (some d) := fun {j d} e => by
    by_cases hj : i = j
    · subst hj
      by_cases hl : i < env.length
      · rw [List.getElem?_set_self hl] at e; cases e
      · rw [List.getElem?_eq_none (by rw [List.length_set]; omega)] at e; cases e
    · rw [List.getElem?_set_ne hj] at e
      exact ⟨hj, e⟩
  refine ⟨⟨h.at_.sub, h.at_.st, ⟨by rw [List.length_set, List.length_set, h.at_.ev.len], fun j d e n => ?_, fun j d e n => ?_, fun j k d1 d2 v a b c e1 e2 e3 e4 => ?_⟩⟩, h.gr, fun j d a n e1 e2 => ?_⟩
  · obtain ⟨hj, e1⟩ := at_ e
    rw [List.getElem?_set_ne hj]
    exact h.at_.ev.val j d e1 n
  · obtain ⟨hj, e1⟩ := at_ e
    rw [List.getElem?_set_ne hj]
    exact h.at_.ev.own j d e1 n
  · obtain ⟨hj, q1⟩ := at_ e1
    obtain ⟨hk, q2⟩ := at_ e2
    rw [List.getElem?_set_ne hj] at e3
    rw [List.getElem?_set_ne hk] at e4
    exact h.at_.ev.sep j k d1 d2 v a b c q1 q2 e3 e4
  · obtain ⟨hj, q1⟩ := at_ e1
    rw [List.getElem?_set_ne hj] at e2
    exact h.fr j d a n q1 e2
theorem exX_nt {c : Str} {a : Addr} (ps : Array Value) : ExX K c a ≠ .tbl ps := fun z => by
  unfold ExX at z
  cases z
end
section
variable {X : Cx} {W : WX} {fr : Bool} {en : Ent} {Ω Ωl : List Nat} {body suite : List Stmt} {b₀ : Stmt} {mb mk : SM} {C n : Str} {i : Nat} {np pos pos' : Pos}
theorem q_try (hs : X.stack = X.env :: X.outer) (hf : X.env.frame = some X.env.locals) (hex : X.ex = []) (hN : X.N.Nodup) (hi : X.N[i]? = some n) (hln : X.env.kindOf n = some .local) (gC : Gl X C) (mC : X.mg C = some (.ref (He.ga X.K C))) (fC : (He.Fa.glo C).ok X.K = true)
    (tk : Takes X W) (hb : ∀ (W : WX) (pn : List (Addr × Obj)) (xe : Value → Shared → Prop), Takes (X.tr pn xe) W → PassesOwn (model X.prog X.w) X.A X.env xe → qB (X.tr pn xe) W fr en Ω [] Ωl body mb)
    (hsu : ∀ (a : Addr) (pn : List (Addr × Obj)), qB (suiT X a pn) wNo fr en [] [] Ωl (b₀ :: suite) mk) (hl : i ∉ Ωl := by decide) (iC : C ∈ excNames := by decide) (hdC : (C == ("__debug__" : Str)) = false := by decide) :
    qS X W fr en Ω [] Ωl (.Try body [.ExceptHandler (some (.Name C np)) (some n) (b₀ :: suite) pos'] [] [] pos) (sTry C i mb mk) :=
  ps_imp (ps_catch (c := .ref (He.ga X.K C)) (tb := fun W => tS X.K X.mg W fr en Ω [] Ωl mb) (ts := tS X.K X.mg wNo fr en [] [] Ωl mk) hs hf hex hN hi hln ⟨gC, hdC, .inl mC⟩ tk hb hsu) fun De σ H ⟨G, ρ, S, env, h, p⟩ => by
    refine ⟨G, ρ, S, env, h, ?_⟩
    unfold sTry at p
    cases e : mb env S with
    | nx e' s' => simp only [e] at p; exact p
    | brk e' s' => simp only [e] at p; exact p
    | cnt e' s' => simp only [e] at p; exact p
    | ret d s' => simp only [e] at p; exact p
    | bad => simp only [e] at p; exact p
    | exc x e' s' =>
      simp only [e] at p
      intro G1 ρ1 σ1 H1 cls od le h1 ex
      obtain ⟨D, q1, rfl, rfl, q2, q3⟩ := ex
      refine ⟨subX x.cls C, (clsB_pair q2 iC fC).1, fun hb => ?_, fun hb => ?_⟩
      · rw [if_pos hb] at p
        rcases q3 with ⟨ea, rfl⟩ | ⟨d, v, e2, ea, _⟩
        · rw [ea] at p
          refine ⟨rfl, x.cls, rfl, q2, fun a ha => ?_⟩
          have h2g : Grow G1 ρ1 H1 (upd G1 a (ExX X.K x.cls a)) ρ1 (upd H1 a (ExX X.K x.cls a)) := up_growV h1.at_.sub ha
          have h2 : Here X.K X.mg en [] (upd G1 a (ExX X.K x.cls a)) ρ1 e' s' σ1 (upd H1 a (ExX X.K x.cls a)) := h1.grow h2g (up_lay h1.at_.sub) (up_stV h1.at_.sub h1.at_.st ha exX_nt)
          have h3 := h2.set (i := i) (d := .exc x.cls []) (v := .ref a) (by simp) (.exc upd_same)
          have lee := le.trans (h2g).le
          refine ⟨_, _, _, _, h3, ?_⟩
          cases ek : mk (e'.set i (some (.exc x.cls []))) s' with
          | nx e2 s2 => simp only [ek, behind] at p; exact fun G ρ σ H l hh => p G ρ _ H (lee.trans l) (hh.unset (by simp))
          | brk e2 s2 => simp only [ek, behind] at p; exact fun G ρ σ H l hh => p G ρ _ H (lee.trans l) (hh.unset hl)
          | cnt e2 s2 => simp only [ek, behind] at p; exact fun G ρ σ H l hh => p G ρ _ H (lee.trans l) (hh.unset hl)
          | ret d s2 => simp only [ek, behind] at p; exact fun G ρ H v a b c d => p G ρ H v a b c d
          | exc x2 e2 s2 => simp only [ek, behind] at p; exact p.elim
          | bad => simp only [ek, behind] at p; exact p.elim
        · rw [ea] at p
          exact (show False from p).elim
      · rw [if_neg (by rw [hb]; decide)] at p
        exact p G1 ρ1 σ1 H1 _ od le h1 ⟨_, q1, rfl, rfl, q2, q3⟩
end
end Mr
/-! The mirror layer, 23: defs that may be called while an exception is handled; isinstance of own exceptions; count. -/
namespace Mr
open PySem PySem.Spec PyProof.Rows L2
/-! ### defs called anywhere -/
structure FnA (P : Program) (w : World) (K : PySem.W.Frag) (mg : Str → Option Value) (base : Heap) (CX : CXT) (k : Nat) (f : Addr) (fd : FuncData) (ps : List Str) (sp : Sp) : Prop where
  len : ∀ vs H Q E, sp vs H Q E → vs.length = ps.length
  run : ∀ (A : Around) (outer : List Env) (s : Shared) (H : Hp) (as : Args) (us : List Value) (vs : List V) (Q : VK) (E : XK), L2H.RoomH k A → Env0 P w K mg base A outer s H → BindsTo s fd as (ps.zip us) → Vals vs us → sp vs H Q E → codeAny (model P w) A (.call (.ref f) as) (CR CX outer P w H s Q E) s
theorem FnA.mono {P : Program} {w : World} {K : PySem.W.Frag} {mg : Str → Option Value} {base : Heap} {CX : CXT} {j k : Nat} {f : Addr} {fd : FuncData} {ps : List Str} {sp : Sp} (F : FnA P w K mg base CX j f fd ps sp) (h : j ≤ k) : FnA P w K mg base CX k f fd ps sp :=
  ⟨F.len, fun A outer s H as us vs Q E hr => F.run A outer s H as us vs Q E (hr.mono h)⟩
theorem FnA.ok {P : Program} {w : World} {K : PySem.W.Frag} {mg : Str → Option Value} {base : Heap} {CX : CXT} {k : Nat} {f : Addr} {fd : FuncData} {ps : List Str} {sp : Sp} (F : FnA P w K mg base CX k f fd ps sp) : FnOk P w K mg base CX k f fd ps sp :=
  ⟨F.len, fun A outer s H as us vs Q E hr => F.run A outer s H as us vs Q E (L2H.roomH_of hr)⟩
abbrev cxA (CX : CXT) (P : Program) (w : World) (K : PySem.W.Frag) (mg : Str → Option Value) (base : Heap) (N : List Str) (qual : Str) (scope : Scope) (f : Addr) (cd : Value) (A : Around) (outer : List Env) (s : Shared) (H : Hp) (E : XK) : Cx := { cxOf CX P w K mg base N qual scope f cd A outer s H E with calm := false }
section
variable {P : Program} {w : World} {K : PySem.W.Frag} {mg : Str → Option Value} {base : Heap} {CX : CXT} {k : Nat} {f : Addr}
theorem fnA_of {name qual : Str} {params : Arguments} {body : List Stmt} {scope : Scope} {dV kV doc pm cdv ct oc : Value} {an od : Option Addr} {osl : Array (Option Value)} {N ps : List Str} {sp : Sp} (lk : K.lookup f = some ⟨oc, od, .func (PySem.W.fnOf name qual params body scope dV kV doc pm an cdv ct), osl⟩)
    (hcd : PySem.W.codeIn K cdv qual = true) (S : FnScope N ps scope) (len : ∀ vs H Q E, sp vs H Q E → vs.length = ps.length)
    (hb : ∀ (A : Around) (outer : List Env) (s : Shared) (H : Hp) (vs : List V) (Q : VK) (E : XK), L2H.RoomH k (A.deeper (envOfC qual scope s.heap.objs.size f cdv)) → sp vs H Q E → ∃ t, PSs (cxA CX P w K mg base N qual scope f cdv A outer s H E) body t ∧ t { nx := fun _ H' => Q .non H', rt := Q } (L2.start N vs) H) :
    FnA P w K mg base CX (k + 1) f (PySem.W.fnOf name qual params body scope dV kV doc pm an cdv ct) ps sp := ⟨len, fun A outer s H as us vs Q E hr e0 bd r hsp => by
  have hl := len _ _ _ _ hsp
  have KX : K.In s.heap := e0.mod.kin.keeps fun b o e => (e0.bs b o e).1
  refine codeAny_call_function hr.depth (KX _ _ lk) rfl S.co S.gen rfl (PySem.W.codeRec_of KX hcd) (bd _ _ _ _ ?_)
  refine wpAny_newFunctionEnv_cells S.kind (fun ⟨n, v⟩ hy => ?_) fun env he s1 x => ?_
  · rcases S.par n (List.of_mem_zip hy).1 with q | q
    · exact .inl q
    · exact .inr ⟨q, PySem.W.cellsFrom_some _ _ _ (.inl q)⟩
  subst he
  have lim : s.heap.NoLimit := e0.mod.nolimit.keeps fun b o e => (e0.bs b o e).1
  refine ⟨lim.keeps x.toInCall.keep, codeAny_func ?_⟩
  obtain ⟨t, ht, hq⟩ := hb A outer s H vs Q E (hr.deeper _) hsp
  have e1 : Env0 P w K mg base { A with handled := none } outer s H := ⟨e0.frames, e0.mod, e0.bs, e0.bsz, e0.funs, e0.frf, e0.hok, e0.bare⟩
  have I0 := inv_start (CX := CX) (cd := cdv) (E := E) S rfl e1 hl r x
  have I : Inv (cxA CX P w K mg base N qual scope f cdv A outer s H E) [] (L2.start N vs) H s1 :=
    { I0 with ok := ⟨I0.ok.mod, I0.ok.kind, I0.ok.glob, I0.ok.blt, I0.ok.above, I0.ok.inj, I0.ok.has, I0.ok.cab, (fun z => (Bool.false_ne_true z).elim), Around.frames_deeper e0.frames, I0.ok.stk, I0.ok.exf, I0.ok.bs, I0.ok.bsz, I0.ok.noex, I0.ok.exfs, I0.ok.funs, I0.ok.frf⟩ }
  refine wpAny_mono (ht.run [] s1 (L2.start N vs) H _ I hq) (fun fl s' hs => ?_) fun e s' hs => hs
  cases fl with
  | ret u => obtain ⟨v, σ', H', J, rv, q⟩ := hs; exact ⟨v, H', J.os, J.bare, J.base, J.hok, rv, q⟩
  | next => obtain ⟨σ', H', J, q⟩ := hs; exact ⟨.non, H', J.os, J.bare, J.base, J.hok, rfl, q⟩
  | brk => obtain ⟨_, _, _, q⟩ := hs; exact q.elim
  | cont => obtain ⟨_, _, _, q⟩ := hs; exact q.elim⟩
end
structure DfA (P : Program) (w : World) (K : PySem.W.Frag) (mg : Str → Option Value) (base : Heap) (x : Str) (k : Nat) (fr : Bool) (n : Nat) (m : List D → M D) : Prop where
  ex : ∃ f fd ps, mg x = some (.ref f) ∧ PySem.W.keepIn K (.ref f) = true ∧ Binds K fd ps [] ∧ FnA P w K mg base (L2.CX P w) k f fd ps (spM K mg fr n m)
theorem DfA.df {P : Program} {w : World} {K : PySem.W.Frag} {mg : Str → Option Value} {base : Heap} {x : Str} {k : Nat} {fr : Bool} {n : Nat} {m : List D → M D} (d : DfA P w K mg base x k fr n m) : Df P w K mg base x k fr n m := by
  obtain ⟨f, fd, ps, h1, h2, h3, h4⟩ := d.ex
  exact ⟨f, fd, ps, h1, h2, h3, h4.ok⟩
section
variable {P : Program} {w : World} {K : PySem.W.Frag} {mg : Str → Option Value} {base h : Heap}
/-- a def by its row, for calls anywhere -/
theorem df_ofA {x qual : Str} {params : Arguments} {body : List Stmt} {scope : Scope} {f : Addr} {N ps : List Str} {k : Nat} {fr : Bool} {Ωe : List Nat} {b : SM} (hm : mg x = some (.ref f)) (F : ∃ fd, FunD K x qual params body scope [] [] f fd) (S : FnScope N ps scope)
    (bd : ∀ (kV doc pm : Value) (an : Option Addr) (cdv ct : Value) (us : List Value), us.length = ps.length → bindArgs (PySem.W.fnOf x qual params body scope .none kV doc pm an cdv ct) ⟨us, []⟩ = pure (ps.zip us))
    (hb : ∀ (cdv : Value) (A : Around) (outer : List Env) (s : Shared) (H : Hp) (E : XK) (en : Ent), L2H.RoomH k (A.deeper (envOfC qual scope s.heap.objs.size f cdv)) →
      qB (cxA (L2.CX P w) P w K mg base N qual scope f cdv A outer s H E) (fun c d _ H => E c d H) fr en [] Ωe [] body b) : DfA P w K mg base x (k + 1) fr ps.length (runB fr N b) := by
  obtain ⟨fd, F⟩ := F
  have bb := F.bindsN bd
  have kp := F.kp
  obtain ⟨oc, od, dV, kV, doc, pm, an, cdv, ct, osl, rfl, lk, hcd, _, _⟩ := F.ex
  refine ⟨f, _, ps, hm, kp, bb, fnA_of lk hcd S (fun vs H Q E h => h.1) fun A outer s H vs Q E hr h => ?_⟩
  obtain ⟨_, G, ρ, St, ds, sm, st, r, post⟩ := h
  refine ⟨_, hb cdv A outer s H E ⟨G, ρ, H⟩ hr, G, ρ, St, startE N ds, ⟨⟨sm, st, start_ev r⟩, Grow.refl, fun j d a n => by cases n⟩, ?_⟩
  unfold runB endB at post
  cases e : b (startE N ds) St with
  | nx e' s' =>
    simp only [e] at post
    cases fr with
    | true => exact (show False from post).elim
    | false => exact fun G1 ρ1 σ1 H1 _ h1 => post G1 ρ1 H1 .non h1.at_.sub h1.gr h1.at_.st Rep.non
  | brk e' s' => simp only [e] at post; exact (show False from post).elim
  | cnt e' s' => simp only [e] at post; exact (show False from post).elim
  | ret d s' => simp only [e] at post; exact fun G1 ρ1 H1 v s1 g1 st1 r1 => post G1 ρ1 H1 v s1 g1 st1 r1
  | exc x e' s' => simp only [e] at post; exact fun G1 ρ1 σ1 H1 cls od _ h1 ex => post G1 ρ1 H1 cls od h1.at_.sub h1.gr h1.at_.st ex
  | bad => simp only [e] at post; exact post
end
section
variable {X : Cx} {W : WX} {fr : Bool} {Ω : List Nat} {e : Expr} {es : List Expr} {ma : EM} {ml : LM} {p pos : Pos} {x : Str} {k j n : Nat} {m : List D → M D}
theorem p_callA (d : DfA X.prog X.w X.K X.mg X.base x j false n m) (hr : L2H.RoomH k X.A) (tk : Takes X W) (hg : Gl X x) (ha : pL X W Ω (e :: es) ml) (hn : (e :: es).length = n := by rfl) (hj : j ≤ k := by decide) (hdb : (x == ("__debug__" : Str)) = false := by decide)
    (he : starEach (e :: es) X.env = (false, eval e X.env) :: starEach es X.env := by rfl) (hpl : (backTo pos (starEach es X.env)).any (·.1) = false := by rfl) : pV X W Ω (.Call (.Name x p) (e :: es) [] pos) (eFn m ml) := by
  obtain ⟨f, fd, ps, h1, h2, h3, h4⟩ := d.ex
  have F := h4.mono hj
  refine pe_imp (t := tCallS (spM X.K X.mg false n m) (fun σ => fun c d H => W c d σ H) (tG X.K X.mg (rL X.K X.mg (e :: es).length) W Ω ml)) ⟨fun ps' s σ H Q I h => ?_⟩ fun σ H Q h => tG.thn (k := fun xs _ => m xs) h fun G1 ρ1 S1 env H1 ds vs at1 r1 p1 => ⟨r1.2.trans hn, G1, ρ1, S1, ds, at1.sub, at1.st, r1.1, p1⟩
  refine wpAny_Call_Name_kw (ld_glob I hg h1 (PySem.W.callWith_K (h₀ := X.base) I.ok.mod.kin h2 (thn (ha.run pos ps' s σ H _ I h) fun us s1 ⟨vs, H1, I1, r, q⟩ => ⟨I1.kIn, ?_⟩) he hpl) hdb)
  have hl : us.length = ps.length := by rw [← r.length]; exact F.len _ _ _ _ q
  have b := h3 s1 us I1.kIn (by rw [List.append_nil]; exact hl)
  rw [List.append_nil] at b
  refine wpAny_call (codeAny_mono (F.run X.A X.stack s1 H1 ⟨us, []⟩ us vs Q _ hr I1.env0 b r q) fun r' s' hq => ?_)
  cases r' with
  | error e => exact passAt tk σ ps' H1 s1 e s' I1 hq
  | ok fl => cases fl with
    | ret u => exact I1.after hq
    | next => exact False.elim hq
    | brk => exact False.elim hq
    | cont => exact False.elim hq
theorem roomH_suiT {a : Addr} (hr : L2H.RoomH k X.A) : L2H.RoomH k (X.A.mark (some (.ref a))) := ⟨hr.dp, hr.un⟩
end
/-! ### isinstance of a caught exception -/
def fIsE (y : Str) : D → M D
  | .exc c [] => pure (.bl (subX c y))
  | _ => bad
def fIsVE : D → M D
  | .exc _ [] => pure (.bl true)
  | _ => bad
def rIsX (K : PySem.W.Frag) : List V → Hp → VK → Prop := fun xs H Q => ∃ (a : Addr) (y : Str) (c : V) (cv : Value) (b : Bool), xs = [.ref a, c] ∧ H a = some (ExX K y a) ∧ (∀ u, RelV c u → u = cv) ∧ (clsB K y = true → PySem.W.kitOne K (.ref (He.ga K y)) cv = some b) ∧ Q (.bl b) H
section
variable {X : Cx} {W : WX} {Ω : List Nat} {e : Expr} {ma : EM} {p pos : Pos}
theorem call_isX : CallR X (.builtin "isinstance") (rIsX X.K) := fun ps s σ H xs us Q I r h => by
  obtain ⟨a, y, c, cv, b, rfl, ha, hcv, ek, q⟩ := h
  obtain ⟨u1, u2, rfl, r1, r2⟩ := vals2 r
  cases (show u1 = Value.ref a from r1)
  cases hcv _ r2
  obtain ⟨⟨hy, oe, vs, hget, hz, hd⟩, _, _⟩ := I.hok a _ ha
  have C := clsB_C hy
  have J : PySem.W.InstAt s.heap a oe (He.ga X.K y) none := by
    obtain ⟨oc, od, oda, osl⟩ := oe
    obtain ⟨h1, h2⟩ := hz
    simp only at h1 h2 hd
    subst h1 h2 hd
    exact ⟨hget, rfl, rfl, trivial⟩
  exact PySem.W.kia_one (PySem.W.handS_kitx_exc C.hg C.hk C.hs C.hd C.ha C.hn C.ht C.hm) I.kIn J (ek hy) (fun z => nomatch z) fun tk => ⟨.bl b, H, I.kept (t' := tk) fun _ _ z => z, rfl, q⟩
theorem RepO.exc {K : PySem.W.Frag} {mg : Str → Option Value} {G H : Hp} {ρ : List Addr} {c : Str} {v : V} (h : RepO K mg G ρ H (.exc c []) v) (s : Same G H) : ∃ a, v = .ref a ∧ H a = some (ExX K c a) := by
  rcases h with h | ⟨a, o, rfl, h, r, _⟩
  · cases h with
    | exc h => exact ⟨_, rfl, s _ _ h⟩
  · cases o <;> exact (show False from r).elim
theorem pv_isE {y : Str} {p2 : Pos} (hg : Gl X "isinstance") (hm : X.mg "isinstance" = none) (hy : Gl X y) (hmy : X.mg y = some (.ref (He.ga X.K y))) (fy : (He.Fa.glo y).ok X.K = true) (ha : pO X W Ω e ma) (iy : y ∈ excNames := by decide) (hdy : (y == ("__debug__" : Str)) = false := by decide)
    (he : starEach [e, .Name y p2] X.env = (false, eval e X.env) :: starEach [.Name y p2] X.env := by rfl) (he2 : starEach [.Name y p2] X.env = (false, eval (.Name y p2) X.env) :: starEach [] X.env := by rfl) (hpl : (backTo pos (starEach [.Name y p2] X.env)).any (·.1) = false := by rfl) :
    pV X W Ω (.Call (.Name "isinstance" p) [e, .Name y p2] [] pos) (eUn (fIsE y) ma) :=
  pe_imp (pe_callB call_isX hg hm (by decide +kernel) (pa_cons ha (pa_cons (pe_glob (v := .ref (He.ga X.K y)) hy hmy rfl hdy) pa_nil he2) he) (by decide) (by decide) he hpl) fun σ H Q h => tG.thn (k := fun x _ => fIsE y x) h fun G1 ρ1 S1 env H1 d v at1 r1 p1 => by
    cases d with
    | exc c xs => cases xs with
      | nil =>
        obtain ⟨a, rfl, hx⟩ := r1.exc at1.sub
        exact ⟨a, c, _, _, subX c y, rfl, hx, fun u h => h, fun hc => (clsB_pair hc iy fy).2, Post.V (S := S1) (d := .bl (subX c y)) p1 at1.sub at1.st (.bl _)⟩
      | cons _ _ => exact (show False from p1).elim
    | _ => exact (show False from p1).elim
theorem pv_isVE {p2 : Pos} (hg : Gl X "isinstance") (hm : X.mg "isinstance" = none) (hy : Gl X "ValueError") (hmy : X.mg "ValueError" = none) (ha : pO X W Ω e ma)
    (he : starEach [e, .Name "ValueError" p2] X.env = (false, eval e X.env) :: starEach [.Name "ValueError" p2] X.env := by rfl) (he2 : starEach [.Name "ValueError" p2] X.env = (false, eval (.Name "ValueError" p2) X.env) :: starEach [] X.env := by rfl) (hpl : (backTo pos (starEach [.Name "ValueError" p2] X.env)).any (·.1) = false := by rfl) :
    pV X W Ω (.Call (.Name "isinstance" p) [e, .Name "ValueError" p2] [] pos) (eUn fIsVE ma) :=
  pe_imp (pe_callB call_isX hg hm (by decide +kernel) (pa_cons ha (pa_cons (pe_bltn (v := .ty "ValueError") hy hmy (by decide +kernel) rfl (by decide) (by decide)) pa_nil he2) he) (by decide) (by decide) he hpl) fun σ H Q h => tG.thn (k := fun x _ => fIsVE x) h fun G1 ρ1 S1 env H1 d v at1 r1 p1 => by
    cases d with
    | exc c xs => cases xs with
      | nil =>
        obtain ⟨a, rfl, hx⟩ := r1.exc at1.sub
        exact ⟨a, c, _, _, true, rfl, hx, fun u h => h, fun hc => clsB_ve hc, Post.V (S := S1) (d := .bl true) p1 at1.sub at1.st (.bl _)⟩
      | cons _ _ => exact (show False from p1).elim
    | _ => exact (show False from p1).elim
end
end Mr
/-! The mirror layer, 24: count. -/
namespace Mr
open PySem PySem.Spec PyProof.Rows L2
def rCntF (K : PySem.W.Frag) : V → List V → Hp → VK → Prop := fun x xs H Q => ∃ (p : Addr) (ys : List V) (y : V), x = .ref p ∧ xs = [y] ∧ SqL K H p ys ∧ flatV y = true ∧ ys.all flatV = true ∧ Q (.int ((ys.countP fun z => eqV z y) : Nat)) H
theorem count_vals {uy : Value} {y : V} (ry : RelV y uy) (fy : flatV y = true) : ∀ {ys : List V} {its : List Value}, Vals ys its → ys.all flatV = true → its.countP (eqU y) = ys.countP fun z => eqV z y
  | _, _, .nil, _ => rfl
  | z :: ys, u :: its, .cons r t, f => by
    have f' := Bool.and_eq_true_iff.mp (by simpa using f : (flatV z && ys.all flatV) = true)
    rw [List.countP_cons, List.countP_cons, count_vals ry fy t f'.2, eqU_of r f'.1]
section
variable {X : Cx} {W : WX} {Ω : List Nat} {e o : Expr} {ma mb : EM} {pos p apos : Pos}
theorem mt_countF : MtR X "list.count" (rCntF X.K) := fun ps s σ H x xs v us Q I rx rxs h => by
  obtain ⟨a, ys, y, rfl, rfl, hs, fy, fys, q⟩ := h
  cases rx
  obtain ⟨uy, rfl, ry⟩ := rxs.one
  obtain ⟨its, rv, ⟨⟨cls, dd, data, sl⟩, n, ho, hc, hdn, hd⟩, hlen⟩ := I.list hs
  simp only at hc hd
  subst hc hd
  refine call_meets PySem.F.slot_list_count ⟨_, ho, rfl⟩ PySem.F.entry_list_count (PySem.F.args_list_count_2 _ _) (SeqAt.list_countAt a its.toArray n dd sl uy (eqU y)) ⟨ho, fun u' hu' => mem_eqAt ry fy rv fys u' (by simpa using hu'), ?_⟩
  refine ⟨.int ((ys.countP fun z => eqV z y) : Nat), H, I.tok _, ⟨s.toks, ?_⟩, q⟩
  rw [← count_vals ry fy rv fys]
def fCount : D → D → M D
  | .lst xs, d => if d.flat && xs.all D.flat then pure (.int ((xs.countP fun z => D.eqv z d) : Nat)) else bad
  | _, _ => bad
theorem count_rep {K : PySem.W.Frag} {mg : Str → Option Value} {G : Hp} (H : Hp) {ρ : List Addr} {d : D} {v : V} (q : Rep K mg G ρ d v) (hd : d.flat = true) : ∀ {ds : List D} {vs : List V}, RepL K mg G ρ ds vs → ds.all D.flat = true → (vs.countP fun z => eqV z v) = ds.countP fun z => D.eqv z d
  | _, _, .nil, _ => rfl
  | x :: ds, u :: vs, .cons r t, h => by
    have h' := Bool.and_eq_true_iff.mp (by simpa using h : (x.flat && ds.all D.flat) = true)
    rw [List.countP_cons, List.countP_cons, count_rep H q hd t h'.2, flat_eq (H := H) r q h'.1 hd]
theorem pv_count (ho : pO X W Ω o ma) (he : pO X W Ω e mb) (hbase : attributeBase o "count" X.env (eval o X.env) = eval o X.env := by rfl) (hline : (apos.endLine == pos.line) = true := by rfl) (hs : starEach [e] X.env = (false, eval e X.env) :: starEach [] X.env := by rfl)
    (hfew : ((backTo pos (starEach [e] X.env)).all (fun x => !x.1) && (backToKw pos (keywordEach [] X.env)).all (fun x => x.1.isSome) && decide ([e].length + ([] : List Keyword).length + (if ([] : List Keyword).isEmpty then 0 else 1) < 30)) = true := by rfl) :
    pV X W Ω (.Call (.Attribute o "count" apos) [e] [] pos) (eMthL fCount ma mb) := pe_imp (pe_bm PySem.F.plainAttrs_list PySem.F.slot_list_count PySem.F.type_list_count mt_countF ho (pa_cons he pa_nil hs) hbase hfew hline hs rfl) fun σ H Q h =>
  tG.thn (k := fun x env => asLs x >>= fun x => mb env >>= fun y => fCount x y) h fun G1 ρ1 S1 env H1 d v at1 r1 p1 => by
    cases d with
    | lst xs =>
      obtain ⟨q, vs, rfl, h1, _, _⟩ := r1.lst at1.sub
      refine ⟨.inl ⟨rfl, vs, SqL.of h1⟩, ?_⟩
      have p1 : Post X.K X.mg (rV X.K X.mg) (fun c d H => W c d σ H) Q G1 ρ1 H1 ((mb env >>= fun y => fCount (.lst xs) y) S1) := p1
      refine p1.thn at1 fun G2 ρ2 S2 H2 e w g at2 r2 p2 => ?_
      obtain ⟨q', vs2, e1, h2, rr, _⟩ := (RepO.grow r1 g).lst at2.sub
      cases e1
      unfold fCount at p2
      by_cases hz : (e.flat && xs.all D.flat) = true
      · simp only [if_pos hz] at p2
        obtain ⟨z1, z2⟩ := Bool.and_eq_true_iff.mp hz
        have re := r2.flatV z1
        refine ⟨q, vs2, w, rfl, rfl, SqL.of h2, flat_V (H := H2) re z1, flat_all (H := H2) rr z2, ?_⟩
        rw [count_rep H2 re z1 rr z2]
        exact Post.V (S := S2) (d := .int _) p2 at2.sub at2.st (.int _)
      · simp only [if_neg hz] at p2
        exact (show False from p2).elim
    | _ => exact (show False from p1).elim
end
@[simp] theorem wp_eMthL {e : Ev} {s : Store} {Φ : D → Store → Prop} {Ξ : Xc → Store → Prop} (g : D → D → M D) (a b : EM) : wp (eMthL g a b e) s Φ Ξ = wp (a e) s (fun x s => wp (asLs x) s (fun x s => wp (b e) s (fun y s => wp (g x y) s Φ Ξ) Ξ) Ξ) Ξ := by unfold eMthL; simp only [wp_bind]
/-! a try as it is seen -/
def tryK (C : Str) (i : Nat) (k : SM) (κ : Kt) (x : Xc) (e : Ev) (s : Store) : Prop := if subX x.cls C = true then (match x.args with
  | [] => wpS k (e.set i (some (.exc x.cls []))) s { κ with nx := fun e2 s2 => κ.nx (e2.set i none) s2, bk := fun e2 s2 => κ.bk (e2.set i none) s2, ct := fun e2 s2 => κ.ct (e2.set i none) s2, ex := fun _ _ _ => False }
  | _ => False) else κ.ex x e s
@[simp] theorem wpS_try {C : Str} {i : Nat} {b k : SM} {e : Ev} {s : Store} {κ : Kt} : wpS (sTry C i b k) e s κ = wpS b e s { κ with ex := tryK C i k κ } := by
  unfold wpS sTry
  cases b e s with
  | exc x e' s' =>
    simp only [wpR, tryK]
    by_cases h : subX x.cls C = true
    · rw [if_pos h, if_pos h]
      cases x.args with
      | nil =>
        simp only [wpS]
        cases k (e'.set i (some (.exc x.cls []))) s' <;> rfl
      | cons _ _ => rfl
    · rw [if_neg h, if_neg h]
  | _ => rfl
end Mr
/-! The mirror layer, 25: the head's facts with classes and the tables of code objects; clauses without a name; range downwards. -/
namespace Mr
open PySem PySem.Spec PyProof.Rows L2
/-! ### facts of the head -/
def mkB (K : PySem.W.Frag) (tf : List He.Defn) : Bool := (makers.all fun p => tf.contains p || !PySem.W.codeHdIn K (He.cT K p).1 (He.cT K p).2) && decide ((tf.map fun p => (He.cT K p).2).Nodup)
def exC (exs : List (Str × D)) (ts : List (Str × List (Tx × D))) (tf : List He.Defn) (xs : List Str) (K : PySem.W.Frag) : Bool := exB exs ts K && (mkB K tf && xs.all fun c => clsB K c)
structure Tw (K : PySem.W.Frag) (w : World) (mg : Str → Option Value) (base h : Heap) (fa : List He.Fa) (fn : List He.DefD) (exs : List (Str × D)) (ts : List (Str × List (Tx × D))) (tabs : List He.Tab) (tf : List He.Defn) (xs : List Str) : Prop where
  u : Tu K w mg h fa fn exs ts tabs
  mo : mkB K tf = true
  tb : ∀ p ∈ tf, LamX.TabB base mg (He.cT K p).1 (He.cT K p).2
  cs : ∀ c ∈ xs, clsB K c = true
section
variable {w : World} {K : PySem.W.Frag} {mg : Str → Option Value} {base h : Heap} {fa : List He.Fa} {fn : List He.DefD} {exs : List (Str × D)} {ts : List (Str × List (Tx × D))} {tabs : List He.Tab} {tf : List He.Defn} {xs : List Str}
theorem exC_b (e : exC exs ts tf xs K = true) : exB exs ts K = true := (Bool.and_eq_true_iff.mp e).1
theorem exC_m (e : exC exs ts tf xs K = true) : mkB K tf = true := (Bool.and_eq_true_iff.mp (Bool.and_eq_true_iff.mp e).2).1
theorem exC_c (e : exC exs ts tf xs K = true) : ∀ c ∈ xs, clsB K c = true := fun c hc => List.all_eq_true.mp (Bool.and_eq_true_iff.mp (Bool.and_eq_true_iff.mp e).2).2 c hc
theorem Tw.of (X : K.In h) (G : h.Ns mainGlobals mg) (c : He.SaysX fa fn tabs tf (exC exs ts tf xs) w h K) (tb : ∀ p ∈ tf, LamX.TabB base mg (He.cT K p).1 (He.cT K p).2) : Tw K w mg base h fa fn exs ts tabs tf xs :=
  ⟨⟨⟨X, G, c.t.d⟩, exC_b c.more, fun i t e => c.t.tab i e⟩, exC_m c.more, tb, exC_c c.more⟩
theorem Tw.cl (T : Tw K w mg base h fa fn exs ts tabs tf xs) (i : Nat) {c : Str} (e : xs[i]? = some c := by rfl) : clsB K c = true := T.cs c (List.mem_of_getElem? e)
/-- where the tables are empty, all is well -/
theorem tabs_start (m : mkB K tf = true) (hd : ∀ p ∈ tf, PySem.W.codeHdIn K (He.cT K p).1 (He.cT K p).2 = true) {H : Hp} (t : ∀ p ∈ tf.map (He.cT K), H p.2 = some (.tbl #[])) : TabsAll K H := fun p hp c => by
  have q := List.all_eq_true.mp (Bool.and_eq_true_iff.mp m).1 p hp
  rw [c] at q
  have q : tf.contains p = true := by simpa using q
  have q : p ∈ tf := by simpa using q
  exact LamX.TabS.nil (t _ (List.mem_map.mpr ⟨p, q, rfl⟩))
end
/-! ### try .. except X: -/
def sTry0 (C : Str) (b k : SM) : SM := fun e s => match b e s with
  | .exc x e' s' => if subX x.cls C then (match k e' s' with
    | .exc _ _ _ => .bad
    | r => r) else .exc x e' s'
  | r => r
section
variable {X : Cx} {W : WX} {fr : Bool} {en : Ent} {Ω Ωl : List Nat} {body suite : List Stmt} {b₀ : Stmt} {mb mk : SM} {C : Str} {np pos pos' : Pos}
theorem q_try0 (hs : X.stack = X.env :: X.outer) (hf : X.env.frame = some X.env.locals) (gC : Gl X C) (mC : X.mg C = some (.ref (He.ga X.K C))) (fC : (He.Fa.glo C).ok X.K = true)
    (tk : Takes X W) (hb : ∀ (W : WX) (pn : List (Addr × Obj)) (xe : Value → Shared → Prop), Takes (X.tr pn xe) W → PassesOwn (model X.prog X.w) X.A X.env xe → qB (X.tr pn xe) W fr en Ω [] Ωl body mb)
    (hsu : ∀ (a : Addr) (pn : List (Addr × Obj)), qB (X.suite a pn) wNo fr en [] [] Ωl (b₀ :: suite) mk) (iC : C ∈ excNames := by decide) (hdC : (C == ("__debug__" : Str)) = false := by decide) :
    qS X W fr en Ω [] Ωl (.Try body [.ExceptHandler (some (.Name C np)) none (b₀ :: suite) pos'] [] [] pos) (sTry0 C mb mk) :=
  ps_imp (ps_try_only (c := .ref (He.ga X.K C)) (tb := fun W => tS X.K X.mg W fr en Ω [] Ωl mb) (ts := fun _ _ _ => tS X.K X.mg wNo fr en [] [] Ωl mk) hs hf ⟨gC, hdC, .inl mC⟩ tk hb (fun a oe cls d pn _ _ => hsu a _)) fun De σ H ⟨G, ρ, S, env, h, p⟩ => by
    refine ⟨G, ρ, S, env, h, ?_⟩
    unfold sTry0 at p
    cases e : mb env S with
    | nx e' s' => simp only [e] at p; exact p
    | brk e' s' => simp only [e] at p; exact p
    | cnt e' s' => simp only [e] at p; exact p
    | ret d s' => simp only [e] at p; exact p
    | bad => simp only [e] at p; exact p
    | exc x e' s' =>
      simp only [e] at p
      intro G1 ρ1 σ1 H1 cls od le h1 ex
      obtain ⟨D, q1, rfl, rfl, q2, q3⟩ := ex
      refine ⟨subX x.cls C, (clsB_pair q2 iC fC).1, fun hb a ha => ?_, fun hb => ?_⟩
      · rw [if_pos hb] at p
        refine ⟨_, _, _, _, h1, ?_⟩
        cases ek : mk e' s' with
        | nx e2 s2 => simp only [ek] at p; exact fun G ρ σ H l hh => p G ρ _ H (le.trans l) hh
        | brk e2 s2 => simp only [ek] at p; exact fun G ρ σ H l hh => p G ρ _ H (le.trans l) hh
        | cnt e2 s2 => simp only [ek] at p; exact fun G ρ σ H l hh => p G ρ _ H (le.trans l) hh
        | ret d s2 => simp only [ek] at p; exact fun G ρ H v a b c d => p G ρ H v a b c d
        | exc x2 e2 s2 => simp only [ek] at p; exact p.elim
        | bad => simp only [ek] at p; exact p.elim
      · rw [if_neg (by rw [hb]; decide)] at p
        exact p G1 ρ1 σ1 H1 _ od le h1 ⟨_, q1, rfl, rfl, q2, q3⟩
end
def tryK0 (C : Str) (k : SM) (κ : Kt) (x : Xc) (e : Ev) (s : Store) : Prop := if subX x.cls C = true then wpS k e s { κ with ex := fun _ _ _ => False } else κ.ex x e s
@[simp] theorem wpS_try0 {C : Str} {b k : SM} {e : Ev} {s : Store} {κ : Kt} : wpS (sTry0 C b k) e s κ = wpS b e s { κ with ex := tryK0 C k κ } := by
  unfold wpS sTry0
  cases b e s with
  | exc x e' s' =>
    simp only [wpR, tryK0]
    by_cases h : subX x.cls C = true
    · rw [if_pos h, if_pos h]
      simp only [wpS]
      cases k e' s' <;> rfl
    · rw [if_neg h, if_neg h]
  | _ => rfl
/-! ### range(a, b, -1) -/
def numsD (hi : Int) (n : Nat) : List D := (List.range n).map fun i => D.int (hi - (i : Nat))
theorem numsD_length (hi : Int) (n : Nat) : (numsD hi n).length = n := by unfold numsD; simp
def rngD : D → D → M (List D)
  | .int i, .int j => if -1000000 ≤ i ∧ i ≤ 1000000 ∧ -1000000 ≤ j ∧ j ≤ 1000000 then pure (numsD i (i - j).toNat) else bad
  | _, _ => bad
def iRngD (a b : EM) : LM := fun env => a env >>= fun x => b env >>= fun y => rngD x y
section
variable {X : Cx} {W : WX} {Ω : List Nat} {a b tg : Expr} {ma mb : EM} {p pos : Pos} {K : PySem.W.Frag} {mg : Str → Option Value} {G : Hp} {ρ : List Addr}
theorem walk_dn {hi : Int} {n : Nat} (z : n ≤ sizeLine) : Walks K mg G ρ (Itc hi (-1) n) (numsD hi n) where
  len := by rw [numsD_length]; exact z
  go := fun i H h _ => by rw [numsD_length] at h; exact h
  stop := fun H _ => by rw [numsD_length]; exact Nat.le_refl _
  yld := fun i G2 ρ2 H x H' h e pr sm y => by
    obtain ⟨rfl, rfl⟩ := y
    rw [numsD_length] at h
    refine ⟨.int (hi - (i : Nat)), G2, ?_, sm, Grow.refl, fun _ st => st, ?_⟩
    · unfold numsD
      rw [List.getElem?_map, List.getElem?_range h]
      rfl
    · have e1 : hi + (i : Nat) * (-1) = hi - (i : Nat) := by omega
      rw [e1]
      exact .int _
theorem pi_rngD {k : Nat} {p1 p2 : Pos} (hg : Gl X "range") (hm : X.mg "range" = none) (ha : pO X W Ω a ma) (hb : pO X W Ω b mb)
    (he : starEach [a, b, .UnaryOp .USub (.Constant (.int 1) k p1) p2] X.env = (false, eval a X.env) :: starEach [b, .UnaryOp .USub (.Constant (.int 1) k p1) p2] X.env := by rfl)
    (he2 : starEach [b, .UnaryOp .USub (.Constant (.int 1) k p1) p2] X.env = (false, eval b X.env) :: starEach [.UnaryOp .USub (.Constant (.int 1) k p1) p2] X.env := by rfl) :
    pI X W Ω tg (.Call (.Name "range" p) [a, b, .UnaryOp .USub (.Constant (.int 1) k p1) p2] [] pos) (iRngD ma mb) :=
  pi_imp (pi_range3 hg hm (pa_cons ha (pa_cons hb (pa_cons (pe_un un_neg pe_int) pa_nil) he2) he) he (by rw [he2]; rfl)) fun σ H R h => tG.thn (k := fun x env => mb env >>= fun y => rngD x y) h fun G1 ρ1 S1 env H1 d v at1 r1 p1 => p1.thn at1 fun G2 ρ2 S2 H2 e w g at2 r2 p2 => by
    cases d with
    | int i =>
      cases e with
      | int j =>
        unfold rngD at p2
        by_cases hz : -1000000 ≤ i ∧ i ≤ 1000000 ∧ -1000000 ≤ j ∧ j ≤ 1000000
        · simp only [if_pos hz] at p2
          refine ⟨1, rfl, ?_⟩
          exact ⟨i, j, -1, (i - j).toNat, by rw [RepO.int r1, RepO.int r2],  RgC.neg (by omega) (by omega) (by omega) (by omega), Post.done (S := S2) (a := numsD i (i - j).toNat) p2 at2.sub at2.st (walk_dn (by rw [sizeLine_eq]; omega))⟩
        · simp only [if_neg hz] at p2
          exact (show False from p2).elim
      | _ => exact (show False from p2).elim
    | _ => exact (show False from p2).elim
end
@[simp] theorem wp_iRngD {e : Ev} {s : Store} {Ψ : List D → Store → Prop} {Ξ : Xc → Store → Prop} (a b : EM) : wp (iRngD a b e) s Ψ Ξ = wp (a e) s (fun x s => wp (b e) s (fun y s => wp (rngD x y) s Ψ Ξ) Ξ) Ξ := by unfold iRngD; simp only [wp_bind]
theorem wp_rngD {s : Store} {Ψ : List D → Store → Prop} {Ξ : Xc → Store → Prop} {n m : Int} (h : -1000000 ≤ n ∧ n ≤ 1000000) (h2 : -1000000 ≤ m ∧ m ≤ 1000000) : wp (rngD (.int n) (.int m)) s Ψ Ξ = Ψ (numsD n (n - m).toNat) s := by
  show wp (if -1000000 ≤ n ∧ n ≤ 1000000 ∧ -1000000 ≤ m ∧ m ≤ 1000000 then pure (numsD n (n - m).toNat) else bad : M (List D)) s Ψ Ξ = _
  rw [if_pos ⟨h.1, h.2, h2⟩, wp_pure]
end Mr
/-! The mirror layer, 26: dicts with text keys: displays, get, d[k]. -/
namespace Mr
open PySem PySem.Spec PyProof.Rows L2
/-! ### displays -/
abbrev KM := Ev → M (List (Tx × D))
def kNil : KM := fun _ => pure []
def asT : D → M Tx
  | .str x => pure x
  | _ => bad
def kCons (a b : EM) (r : KM) : KM := fun env => a env >>= fun x => asT x >>= fun x => b env >>= fun y => r env >>= fun l => pure ((x, y) :: l)
def mkDic (l : List (Tx × D)) : M D := if (l.map (·.1)).Nodup ∧ l.length ≤ 15 then pure (.dic (l.map fun p => .str p.1) (l.map fun p => p.2)) else bad
def eDisp (k : KM) : EM := fun env => k env >>= mkDic
section
variable {K : PySem.W.Frag} {mg : Str → Option Value} {G G1 H H1 : Hp} {ρ ρ1 : List Addr} {S : Store}
/-- pairs as they lie -/
inductive RepP (K : PySem.W.Frag) (mg : Str → Option Value) (G : Hp) (ρ : List Addr) : List (Tx × D) → List (V × V) → Prop
  | nil : RepP K mg G ρ [] []
  | cons {x : Tx} {d : D} {v : V} {l : List (Tx × D)} {q : List (V × V)} (z : x.length ≤ sizeLine) (h : Rep K mg G ρ d v) (t : RepP K mg G ρ l q) : RepP K mg G ρ ((x, d) :: l) ((.str (toS x), v) :: q)
def rP (K : PySem.W.Frag) (mg : Str → Option Value) : Rl (List (Tx × D)) (List (V × V)) := ⟨fun _ G ρ _ l q => RepP K mg G ρ l q, fun _ h => h⟩
theorem RepP.pairs : ∀ {l : List (Tx × D)} {q : List (V × V)}, RepP K mg G ρ l q → ∃ kvs : List (Key × V), q = kvs.map (fun kv => (kV kv.1, kv.2)) ∧ kvs.length = l.length ∧ kvs.map (·.1) = l.map (fun p => (Sum.inr (toS p.1) : Key)) ∧ RepL K mg G ρ (l.map fun p => p.2) (kvs.map (·.2)) ∧ RepL K mg G ρ (l.map fun p => .str p.1) (kvs.map fun p => kV p.1)
  | _, _, .nil => ⟨[], rfl, rfl, rfl, .nil, .nil⟩
  | _, _, .cons (x := x) (v := v) z h t => by
    obtain ⟨kvs, e1, e2, e3, e4, e5⟩ := t.pairs
    exact ⟨(Sum.inr (toS x), v) :: kvs, by rw [e1]; rfl, by simp [e2], by simp [e3], .cons h e4, .cons (.str x z) e5⟩
theorem put_new {κ : Type} [DecidableEq κ] (kvs : List (κ × V)) (k : κ) (v : V) (h : k ∉ kvs.map (·.1)) : putK kvs k v = kvs ++ [(k, v)] := by
  unfold putK
  rw [if_neg]
  intro z
  obtain ⟨p, hp, e⟩ := List.any_eq_true.mp z
  exact h (List.mem_map.mpr ⟨p, hp, of_decide_eq_true e⟩)
theorem merge_new : ∀ (more kvs : List (Key × V)), (kvs.map (·.1) ++ more.map (·.1)).Nodup → mergeK kvs more = kvs ++ more
  | [], kvs, _ => by simp [mergeK]
  | p :: more, kvs, h => by
    have h1 : p.1 ∉ kvs.map (·.1) := fun z => by
      rw [List.nodup_append] at h
      exact h.2.2 _ z _ (List.mem_cons_self ..) rfl
    show mergeK (putK kvs p.1 p.2) more = _
    rw [put_new _ _ _ h1, merge_new more (kvs ++ [(p.1, p.2)]) (by simpa using h)]
    simp
theorem inr_nodup {l : List (Tx × D)} (h : (l.map (·.1)).Nodup) : (l.map fun p => (Sum.inr (toS p.1) : Key)).Nodup := by
  induction l with
  | nil => exact List.nodup_nil
  | cons p l ih =>
    have h' := List.nodup_cons.mp h
    refine List.nodup_cons.mpr ⟨fun z => h'.1 ?_, ih h'.2⟩
    obtain ⟨q, hq, e⟩ := List.mem_map.mp z
    have e : (Sum.inr (toS q.1) : Key) = Sum.inr (toS p.1) := e
    exact List.mem_map.mpr ⟨q, hq, toS_inj.mp (Sum.inr.inj e)⟩
end
section
variable {X : Cx} {W : WX} {Ω : List Nat} {a b e o f : Expr} {es vs : List Expr} {ks : List (Option Expr)} {ma mb mc : EM} {mk : KM} {pos cpos apos : Pos}
def tPr (X : Cx) (W : WX) (Ω : List Nat) (trs : List (TE × TE)) (m : KM) : Prop := ∀ σ H Q, tG X.K X.mg (rP X.K X.mg) W Ω m σ H Q → tPairs trs σ H Q
structure pK (X : Cx) (W : WX) (Ω : List Nat) (pos : Pos) (ks : List (Option Expr)) (vs : List Expr) (m : KM) : Prop where
  ex : ∃ trs, PPs X pos ks vs trs ∧ tPr X W Ω trs m
theorem pk_nil : pK X W Ω pos [] [] kNil := ⟨[], pps_nil, fun σ H Q ⟨G, ρ, S, env, at_, p⟩ => Post.done (S := S) (a := ([] : List (Tx × D))) p at_.sub at_.st .nil⟩
theorem pk_cons (ha : pV X W Ω a ma) (hb : pV X W Ω b mb) (hr : pK X W Ω pos ks vs mk) : pK X W Ω pos (some a :: ks) (b :: vs) (kCons ma mb mk) := by
  obtain ⟨trs, h1, h2⟩ := hr.ex
  refine ⟨_, pps_cons ha hb h1, fun σ H Q h => ?_⟩
  refine tG.thn (k := fun x env => asT x >>= fun x => mb env >>= fun y => mk env >>= fun l => pure ((x, y) :: l)) h fun G1 ρ1 S1 env H1 d v at1 r1 p1 => ?_
  cases d with
  | str x =>
    have p1 : Post X.K X.mg (rP X.K X.mg) (fun c d H => W c d σ H) Q G1 ρ1 H1 ((mb env >>= fun y => mk env >>= fun l => pure ((x, y) :: l)) S1) := p1
    refine p1.thn at1 fun G2 ρ2 S2 H2 y w g at2 r2 p2 => h2 σ H2 _ (p2.thn at2 fun G3 ρ3 S3 H3 l q g3 at3 r3 p3 => ?_)
    have r1 : Rep X.K X.mg G1 ρ1 (.str x) v := r1
    cases r1 with
    | str _ hz => exact Post.done (S := S3) (a := (x, y) :: l) p3 at3.sub at3.st (.cons hz (Rep.mono g3.sub g3.pre r2) r3)
  | _ => exact (show False from p1).elim
theorem pv_disp (h : pK X W Ω pos ks vs mk) (hall : ks.all (·.isSome) = true := by rfl) (hl : ks.length = vs.length := by rfl) (h0 : ks ≠ [] := by decide) (h15 : ks.length ≤ 15 := by decide) : pV X W Ω (.Dict ks vs pos) (eDisp mk) := by
  obtain ⟨trs, h1, h2⟩ := h.ex
  refine pe_imp (pe_disp h1 hall hl h0 h15) fun σ H Q ⟨G, ρ, S, env, at_, post⟩ p hp => h2 σ _ _ ?_
  have post : Post X.K X.mg (rV X.K X.mg) (fun c d H => W c d σ H) Q G ρ H ((mk env >>= mkDic) S) := post
  refine ⟨G, ρ, S, env, at_.grow (up_grow hp) (up_same at_.sub hp) (up_st at_.st hp), ?_⟩
  rw [bind_app] at post
  cases em : mk env S with
  | bad => rw [em] at post; exact post
  | exc x S1 =>
    rw [em] at post
    exact fun G1 ρ1 H1 cls od s g st ex => post G1 ρ1 H1 cls od s ((up_grow hp).trans g) st ex
  | ok l S1 =>
    rw [em] at post
    have post : Post X.K X.mg (rV X.K X.mg) (fun c d H => W c d σ H) Q G ρ H (mkDic l S1) := post
    intro G1 ρ1 H1 q s g st r
    unfold mkDic at post
    by_cases hz : (l.map (·.1)).Nodup ∧ l.length ≤ 15
    · rw [if_pos hz] at post
      obtain ⟨kvs, e1, e2, e3, e4, e5⟩ := RepP.pairs r
      have hm : mergeK [] kvs = kvs := by
        rw [merge_new kvs [] (by rw [e3]; simpa using inr_nodup hz.1)]
        rfl
      have pG : G p = none := g_none at_.sub hp
      have pρ : p ∉ ρ := r_notin at_.st hp
      have hp1 : H1 p = some (.dK []) := g.keep p _ upd_same pρ (fun ps z => by cases z)
      have gp : G1 p = none := g_stay g upd_same pG
      have rp : p ∉ ρ1 := r_stay g upd_same pρ
      refine ⟨hp1, kvs, e1, by rw [e2]; exact hz.2, ?_⟩
      rw [hm]
      have gr : Grow G ρ H G1 ρ1 (upd H1 p (.dK kvs)) := ((up_grow hp).trans g).upd hp
      have st2 : StOk X.K X.mg G1 ρ1 S1 (upd H1 p (.dK kvs)) := st_upd st rp hp1 ⟨fun ps z => (by cases z), fun a q z => (by unfold LamX.CodeO at z; cases z)⟩
      have sm : Same G1 (upd H1 p (.dK kvs)) := same_upd s gp
      have low : Same G1 (upd G1 p (.dK kvs)) := fun b u e => by rw [upd_ne (ne_of_none e gp)]; exact e
      refine post (upd G1 p (.dK kvs)) ρ1 _ (.ref p) ?_ (gr.lay hp gp) (stLay st2 gp rp (fun ps z => by cases z)) (.dic upd_same (RepL.mono low (fun _ _ q => q) e5) (RepL.mono low (fun _ _ q => q) e4))
      intro b u e
      by_cases hb : b = p
      · subst hb; rw [upd_same] at e ⊢; exact e
      · rw [upd_ne hb] at e; exact sm b u e
    · rw [if_neg hz] at post
      exact (show False from post).elim
end
@[simp] theorem wp_kNil {e : Ev} {s : Store} {Ψ : List (Tx × D) → Store → Prop} {Ξ : Xc → Store → Prop} : wp (kNil e) s Ψ Ξ = Ψ [] s := rfl
@[simp] theorem wp_asT {x : Tx} {s : Store} {Ψ : Tx → Store → Prop} {Ξ : Xc → Store → Prop} : wp (asT (.str x)) s Ψ Ξ = Ψ x s := rfl
@[simp] theorem wp_kCons {e : Ev} {s : Store} {Ψ : List (Tx × D) → Store → Prop} {Ξ : Xc → Store → Prop} (a b : EM) (r : KM) : wp (kCons a b r e) s Ψ Ξ = wp (a e) s (fun x s => wp (asT x) s (fun x s => wp (b e) s (fun y s => wp (r e) s (fun l s => Ψ ((x, y) :: l) s) Ξ) Ξ) Ξ) Ξ := by unfold kCons; simp only [wp_bind, wp_pure]
@[simp] theorem wp_eDisp {e : Ev} {s : Store} {Φ : D → Store → Prop} {Ξ : Xc → Store → Prop} (k : KM) : wp (eDisp k e) s Φ Ξ = wp (k e) s (fun l s => wp (mkDic l) s Φ Ξ) Ξ := by unfold eDisp; simp only [wp_bind]
theorem wp_mkDic {l : List (Tx × D)} {s : Store} {Φ : D → Store → Prop} {Ξ : Xc → Store → Prop} (h : (l.map (·.1)).Nodup ∧ l.length ≤ 15) : wp (mkDic l) s Φ Ξ = Φ (.dic (l.map fun p => .str p.1) (l.map fun p => p.2)) s := by unfold mkDic; rw [if_pos h]; rfl
/-! ### looked up -/
def dFind : List D → List D → Tx → Option D
  | .str x :: ks, v :: vs, z => if x = z then some v else dFind ks vs z
  | _, _, _ => none
def dTexts : List D → Bool
  | [] => true
  | .str _ :: r => dTexts r
  | _ => false
theorem dFind_rep {K : PySem.W.Frag} {mg : Str → Option Value} {G : Hp} {ρ : List Addr} (z : Tx) : ∀ {ks vs : List D} {kvs : List (Key × V)}, dTexts ks = true → RepL K mg G ρ ks (kvs.map fun p => kV p.1) → RepL K mg G ρ vs (kvs.map fun p => p.2) →
    (dFind ks vs z = none ∧ valV kvs (Sum.inr (toS z) : Key) = none) ∨ ∃ d v, dFind ks vs z = some d ∧ valV kvs (Sum.inr (toS z) : Key) = some v ∧ Rep K mg G ρ d v
  | [], vs, [], _, _, _ => by
    refine .inl ⟨?_, rfl⟩
    unfold dFind
    cases vs <;> rfl
  | [], _, _ :: _, _, h, _ => by cases h
  | _ :: _, _, [], _, h, _ => by cases h
  | k :: ks, vs, p :: kvs, ht, h1, h2 => by
    obtain ⟨k0, p0⟩ := p
    cases vs with
    | nil => cases h2
    | cons v vs =>
      cases h1 with
      | cons a1 b1 =>
        cases h2 with
        | cons a2 b2 =>
          cases k with
          | str x =>
            have hk : k0 = Sum.inr (toS x) := by
              cases k0 with
              | inl i => cases a1
              | inr y => cases a1; rfl
            subst hk
            by_cases hx : x = z
            · subst hx
              refine .inr ⟨v, p0, ?_, valV_pos rfl, a2⟩
              unfold dFind
              rw [if_pos rfl]
            · have hn : (Sum.inr (toS x) : Key) ≠ Sum.inr (toS z) := fun e => hx (toS_inj.mp (Sum.inr.inj e))
              have e1 : dFind (.str x :: ks) (v :: vs) z = dFind ks vs z := by
                rw [dFind]
                rw [if_neg hx]
              have e2 : valV ((Sum.inr (toS x), p0) :: kvs) (Sum.inr (toS z) : Key) = valV kvs (Sum.inr (toS z) : Key) := by
                unfold valV
                rw [List.find?_cons_of_neg]
                simpa using hn
              rw [e1, e2]
              exact dFind_rep z (by simpa [dTexts] using ht) b1 b2
          | _ => exact (Bool.false_ne_true ht).elim
def fGet : D → D → D → M D
  | .dic ks vs, .str z, d => if dTexts ks then pure ((dFind ks vs z).getD d) else bad
  | _, _, _ => bad
def eGet (o a b : EM) : EM := fun env => o env >>= fun x => a env >>= fun y => b env >>= fun z => fGet x y z
section
variable {X : Cx} {W : WX} {Ω : List Nat} {a b e o f : Expr} {ma mb mo : EM} {pos cpos apos : Pos}
def isDic : D → Bool
  | .dic _ _ => true
  | _ => false
def asD1 (d : D) : M D := if isDic d then pure d else bad
theorem pv_get (hu : X.A.units + 65 < cLine) (ho : pV X W Ω o mo) (ha : pV X W Ω e ma) (hb : pV X W Ω f mb) (h1 : attributeBase o "get" X.env (eval o X.env) = eval o X.env := by rfl)
    (h2 : ((backTo cpos (starEach [e, f] X.env)).all (fun x => !x.1) && (backToKw cpos (keywordEach [] X.env)).all (fun x => x.1.isSome) && decide (([e, f] : List Expr).length + ([] : List Keyword).length + (if ([] : List Keyword).isEmpty then 0 else 1) < 30)) = true := by rfl) (h3 : (apos.endLine == cpos.line) = true := by rfl)
    (h4 : backTo cpos (starEach [e, f] X.env) = [(false, eval e X.env), (false, eval f X.env)] := by rfl) :
    pV X W Ω (.Call (.Attribute o "get" apos) [e, f] [] cpos) (eGet (fun env => mo env >>= asD1) ma mb) := pe_imp (pe_dget2 (by omega) ho ha hb ⟨h1, h2, h3, h4⟩) fun σ H Q h => by
  obtain ⟨G, ρ, S, env, at_, post⟩ := h
  have post : Post X.K X.mg (rV X.K X.mg) (fun c d H => W c d σ H) Q G ρ H (((mo env >>= asD1) >>= fun x => ma env >>= fun y => mb env >>= fun z => fGet x y z) S) := post
  rw [bind_assocM] at post
  refine post.thn at_ fun G1 ρ1 S1 H1 d v g1 at1 r1 p1 => ?_
  cases d with
  | dic ks vs =>
    have p1 : Post X.K X.mg (rV X.K X.mg) (fun c d H => W c d σ H) Q G1 ρ1 H1 ((ma env >>= fun y => mb env >>= fun z => fGet (.dic ks vs) y z) S1) := p1
    have r1 : Rep X.K X.mg G1 ρ1 (.dic ks vs) v := r1
    obtain ⟨q, kvs, rfl, hq, r3, r4⟩ := RepO.dic (H := H1) (.inl r1) at1.sub
    refine ⟨q, rfl, .inl ⟨kvs, .inl hq⟩, p1.thn at1 fun G2 ρ2 S2 H2 y w g2 at2 r2 p2 => p2.thn at2 fun G3 ρ3 S3 H3 z u g3 at3 r5 p3 => ?_⟩
    cases y with
    | str t =>
      unfold fGet at p3
      by_cases ht : dTexts ks = true
      · simp only [if_pos ht] at p3
        have w1 : w = .str (toS t) := by
          have r2 : Rep X.K X.mg G2 ρ2 (.str t) w := r2
          cases r2
          rfl
        subst w1
        obtain ⟨q', kvs', e1, hq', r3', r4'⟩ := RepO.dic (H := H3) (.inl (Rep.mono (g2.sub.trans g3.sub) (fun n a e => g3.pre n a (g2.pre n a e)) r1)) at3.sub
        cases e1
        refine ⟨valV kvs' (Sum.inr (toS t) : Key), DGet.k (k := (Sum.inr (toS t) : Key)) hq', ?_⟩
        rcases dFind_rep t ht r3' r4' with ⟨k1, k2⟩ | ⟨d', v', k1, k2, k3⟩
        · rw [k1] at p3
          rw [k2]
          exact Post.V (S := S3) (d := z) p3 at3.sub at3.st r5
        · rw [k1] at p3
          rw [k2]
          exact Post.V (S := S3) (d := d') p3 at3.sub at3.st k3
      · simp only [if_neg ht] at p3
        exact (show False from p3).elim
    | _ => exact (show False from p3).elim
  | _ => exact (show False from p1).elim
end
@[simp] theorem wp_eGet {e : Ev} {s : Store} {Φ : D → Store → Prop} {Ξ : Xc → Store → Prop} (o a b : EM) : wp (eGet o a b e) s Φ Ξ = wp (o e) s (fun x s => wp (a e) s (fun y s => wp (b e) s (fun z s => wp (fGet x y z) s Φ Ξ) Ξ) Ξ) Ξ := by unfold eGet; simp only [wp_bind]
@[simp] theorem wp_asD1 {ks vs : List D} {s : Store} {Φ : D → Store → Prop} {Ξ : Xc → Store → Prop} : wp (asD1 (.dic ks vs)) s Φ Ξ = Φ (.dic ks vs) s := rfl
end Mr
/-! The mirror layer, 27: upper, lower; a list just made by +; range with a step upwards. -/
namespace Mr
open PySem PySem.Spec PyProof.Rows L2
def upT (a : Tx) : Tx := ((Txt.upper (toS a)).cps.toList).map Char.ofNat
def loT (a : Tx) : Tx := ((Txt.lower (toS a)).cps.toList).map Char.ofNat
def fUpper : D → M D
  | .str a => if toS (upT a) = Txt.upper (toS a) ∧ (upT a).length ≤ 1000000 ∧ a.length ≤ 1000000 then pure (.str (upT a)) else bad
  | _ => bad
def eMth0 (f : D → M D) (a : EM) : EM := fun env => a env >>= fun x => asS x >>= f
def opAddL : D → D → M D
  | .lst a, .lst b => if a.length + b.length ≤ sizeLine then pure (.lst (a ++ b)) else bad
  | _, _ => bad
/-- a list of one's own, tracked, or a visible one -/
def numsS (lo c : Int) (n : Nat) : List D := (List.range n).map fun i => D.int (lo + (i : Nat) * c)
theorem numsS_length (lo c : Int) (n : Nat) : (numsS lo c n).length = n := by unfold numsS; simp
def rngS : D → D → D → M (List D)
  | .int i, .int j, .int c => if -1000000 ≤ i ∧ i ≤ 1000000 ∧ -1000000 ≤ j ∧ j ≤ 1000000 ∧ 1 ≤ c ∧ c ≤ 1000000 then pure (numsS i c (if i < j then ((j - i - 1) / c + 1).toNat else 0)) else bad
  | _, _, _ => bad
def iRngS (a b c : EM) : LM := fun env => a env >>= fun x => b env >>= fun y => c env >>= fun z => rngS x y z
section
variable {X : Cx} {W : WX} {Ω : List Nat} {e o a b c tg : Expr} {ma mb mc : EM} {pos p apos : Pos} {K : PySem.W.Frag} {mg : Str → Option Value} {G : Hp} {ρ : List Addr}
theorem pv_upper (ho : pO X W Ω o ma) (hbase : attributeBase o "upper" X.env (eval o X.env) = eval o X.env := by rfl) (hline : (apos.endLine == pos.line) = true := by rfl) :
    pV X W Ω (.Call (.Attribute o "upper" apos) [] [] pos) (eMth0 fUpper ma) := pe_imp (pe_upper ho hbase hline) fun σ H Q h =>
  tG.thn (k := fun x _ => asS x >>= fUpper) h fun G1 ρ1 S1 env H1 d v at1 r1 p1 => by
    cases d with
    | str s =>
      obtain ⟨rfl, hz⟩ := r1.str
      refine ⟨⟨_, rfl⟩, toS s, rfl, rfl, ?_⟩
      have p1 : Post X.K X.mg (rV X.K X.mg) (fun c d H => W c d σ H) Q G1 ρ1 H1 (fUpper (.str s) S1) := p1
      unfold fUpper at p1
      by_cases h : toS (upT s) = Txt.upper (toS s) ∧ (upT s).length ≤ 1000000 ∧ s.length ≤ 1000000
      · simp only [if_pos h] at p1
        refine ⟨by rw [toS_length]; omega, ?_⟩
        rw [← h.1]
        exact Post.V (S := S1) (d := .str (upT s)) p1 at1.sub at1.st (.str _ (Nat.le_trans h.2.1 (by decide)))
      · simp only [if_neg h] at p1
        exact (show False from p1).elim
    | _ => exact (show False from p1).elim
theorem pf_add (ha : pO X W Ω a ma) (hb : pO X W Ω b mb) : pF X W Ω (.BinOp a .Add b pos) (eBin opAddL ma mb) := pe_imp (pe_op op_cat ha hb) fun σ H Q h =>
  tG.thn (k := fun x env => mb env >>= fun y => opAddL x y) h fun G1 ρ1 S1 env H1 d v at1 r1 p1 => p1.thn at1 fun G2 ρ2 S2 H2 e w g at2 r2 p2 => by
    cases d with
    | lst xs =>
      cases e with
      | lst ys =>
        obtain ⟨q, vs, rfl, h1, r3, _⟩ := (RepO.grow r1 g).lst at2.sub
        obtain ⟨q2, ws, rfl, h2, r4, _⟩ := RepO.lst r2 at2.sub
        unfold opAddL at p2
        by_cases hz : xs.length + ys.length ≤ sizeLine
        · simp only [if_pos hz] at p2
          refine ⟨q, q2, vs, ws, rfl, rfl, h1, h2, by rw [← r3.length, ← r4.length]; exact hz, fun p hp => ?_⟩
          exact Post.lstF' p2 at2.sub at2.st (r3.append r4) (by rw [List.length_append, ← r3.length, ← r4.length]; exact hz) hp
        · simp only [if_neg hz] at p2
          exact (show False from p2).elim
      | _ => exact (show False from p2).elim
    | _ => exact (show False from p2).elim
theorem size_up {i j c : Int} (h : 1 ≤ c) (hi : -1000000 ≤ i) (hi2 : i ≤ 1000000) (hj : -1000000 ≤ j) (hj2 : j ≤ 1000000) (hc2 : c ≤ 1000000) : RgC i j c (if i < j then ((j - i - 1) / c + 1).toNat else 0) ∧ (if i < j then ((j - i - 1) / c + 1).toNat else 0) ≤ 2000000 := by
  have hc : c > 0 := by omega
  have q0 : i < j → 0 ≤ (j - i - 1) / c := fun z => Int.ediv_nonneg (by omega) (by omega)
  have q1 : i < j → (j - i - 1) / c ≤ j - i - 1 := fun z => Int.ediv_le_self _ (by omega)
  have e : Builtin.Range.rangeSize i j c = ((if i < j then ((j - i - 1) / c + 1).toNat else 0 : Nat) : Int) := by
    unfold Builtin.Range.rangeSize
    rw [if_pos hc]
    by_cases z : i < j
    · have := q0 z
      rw [if_pos z, if_pos z]
      omega
    · rw [if_neg z, if_neg z]
      rfl
  refine ⟨⟨by omega, by omega, ?_, e⟩, ?_⟩
  · unfold Builtin.Range.small
    rw [e]
    have b1 : ((if i < j then ((j - i - 1) / c + 1).toNat else 0 : Nat) : Int) ≤ 2000001 := by
      by_cases z : i < j
      · have := q0 z
        have := q1 z
        rw [if_pos z]
        omega
      · rw [if_neg z]
        decide
    have b2 : 0 ≤ ((if i < j then ((j - i - 1) / c + 1).toNat else 0 : Nat) : Int) := by omega
    generalize ((if i < j then ((j - i - 1) / c + 1).toNat else 0 : Nat) : Int) = n at b1 b2
    simp only [Builtin.Range.rangeFitsLong, Bool.and_eq_true, Bool.or_eq_true, decide_eq_true_eq, beq_iff_eq, hc, if_true]
    omega
  · by_cases z : i < j
    · have := q0 z
      have := q1 z
      rw [if_pos z]
      omega
    · rw [if_neg z]
      omega
theorem walk_up {lo c : Int} {n : Nat} (z : n ≤ sizeLine) : Walks K mg G ρ (Itc lo c n) (numsS lo c n) where
  len := by rw [numsS_length]; exact z
  go := fun i H h _ => by rw [numsS_length] at h; exact h
  stop := fun H _ => by rw [numsS_length]; exact Nat.le_refl _
  yld := fun i G2 ρ2 H x H' h e pr sm y => by
    obtain ⟨rfl, rfl⟩ := y
    rw [numsS_length] at h
    refine ⟨.int (lo + (i : Nat) * c), G2, ?_, sm, Grow.refl, fun _ st => st, .int _⟩
    unfold numsS
    rw [List.getElem?_map, List.getElem?_range h]
    rfl
theorem pi_rngS (hg : Gl X "range") (hm : X.mg "range" = none) (ha : pO X W Ω a ma) (hb : pO X W Ω b mb) (hc : pO X W Ω c mc)
    (he : starEach [a, b, c] X.env = (false, eval a X.env) :: starEach [b, c] X.env := by rfl) (he2 : starEach [b, c] X.env = (false, eval b X.env) :: starEach [c] X.env := by rfl) (he3 : starEach [c] X.env = (false, eval c X.env) :: starEach [] X.env := by rfl) :
    pI X W Ω tg (.Call (.Name "range" p) [a, b, c] [] pos) (iRngS ma mb mc) :=
  pi_imp (pi_range3 hg hm (pa_cons ha (pa_cons hb (pa_cons hc pa_nil he3) he2) he) he (by rw [he2, he3]; rfl)) fun σ H R h => tG.thn (k := fun x env => mb env >>= fun y => mc env >>= fun z => rngS x y z) h fun G1 ρ1 S1 env H1 d v at1 r1 p1 => p1.thn at1 fun G2 ρ2 S2 H2 e w g at2 r2 p2 => p2.thn at2 fun G3 ρ3 S3 H3 f u g3 at3 r3 p3 => by
    cases d with
    | int i =>
      cases e with
      | int j =>
        cases f with
        | int k =>
          unfold rngS at p3
          by_cases hz : -1000000 ≤ i ∧ i ≤ 1000000 ∧ -1000000 ≤ j ∧ j ≤ 1000000 ∧ 1 ≤ k ∧ k ≤ 1000000
          · simp only [if_pos hz] at p3
            obtain ⟨c1, c2, c3, c4, c5, c6⟩ := hz
            obtain ⟨q1, q2⟩ := size_up c5 c1 c2 c3 c4 c6
            exact ⟨i, j, k, _, by rw [RepO.int r1, RepO.int r2, RepO.int r3], q1, Post.done (S := S3) (a := numsS i k _) p3 at3.sub at3.st (walk_up (Nat.le_trans q2 (by decide)))⟩
          · simp only [if_neg hz] at p3
            exact (show False from p3).elim
        | _ => exact (show False from p3).elim
      | _ => exact (show False from p3).elim
    | _ => exact (show False from p3).elim
end
@[simp] theorem wp_iRngS {e : Ev} {s : Store} {Ψ : List D → Store → Prop} {Ξ : Xc → Store → Prop} (a b c : EM) : wp (iRngS a b c e) s Ψ Ξ = wp (a e) s (fun x s => wp (b e) s (fun y s => wp (c e) s (fun z s => wp (rngS x y z) s Ψ Ξ) Ξ) Ξ) Ξ := by unfold iRngS; simp only [wp_bind]
theorem wp_rngS {s : Store} {Ψ : List D → Store → Prop} {Ξ : Xc → Store → Prop} {i j c : Int} (h : -1000000 ≤ i ∧ i ≤ 1000000 ∧ -1000000 ≤ j ∧ j ≤ 1000000 ∧ 1 ≤ c ∧ c ≤ 1000000) : wp (rngS (.int i) (.int j) (.int c)) s Ψ Ξ = Ψ (numsS i c (if i < j then ((j - i - 1) / c + 1).toNat else 0)) s := by
  show wp (if -1000000 ≤ i ∧ i ≤ 1000000 ∧ -1000000 ≤ j ∧ j ≤ 1000000 ∧ 1 ≤ c ∧ c ≤ 1000000 then pure (numsS i c (if i < j then ((j - i - 1) / c + 1).toNat else 0)) else bad : M (List D)) s Ψ Ξ = _
  rw [if_pos h]
  rfl
@[simp] theorem wp_eMth0 {e : Ev} {s : Store} {Φ : D → Store → Prop} {Ξ : Xc → Store → Prop} (f : D → M D) (a : EM) : wp (eMth0 f a e) s Φ Ξ = wp (a e) s (fun x s => wp (asS x) s (fun x s => wp (f x) s Φ Ξ) Ξ) Ξ := by unfold eMth0; simp only [wp_bind]
theorem wp_addL {a b : List D} {s : Store} {Φ : D → Store → Prop} {Ξ : Xc → Store → Prop} (h : a.length + b.length ≤ 16000000) : wp (opAddL (.lst a) (.lst b)) s Φ Ξ = Φ (.lst (a ++ b)) s := by
  have h2 : a.length + b.length ≤ sizeLine := Nat.le_trans h (by decide)
  show wp (if a.length + b.length ≤ sizeLine then pure (.lst (a ++ b)) else bad : M D) s Φ Ξ = _
  rw [if_pos h2]
  rfl
end Mr
/-! mirrors of defs that many laws share (printed by gen.py) -/
namespace Mr
open PySem PySem.Spec PyProof.Rows L2
def N_is_trait : List Str := ["thing"]
def b_is_trait : SM := (sRet (eAnd (eUn (fIs "str") (eVar 0)) (eBin opIn (eVar 0) (eC (.tup [(.str ['l', 'e', 'f', 't']), (.str ['t', 'o', 'p']), (.str ['w', 'i', 'd', 'e']), (.str ['h', 'i', 'g', 'h']), (.str ['s', 'i', 'z', 'e']), (.str ['i', 'n', 'k'])])))))
def m_is_trait : List D → M D := runB false N_is_trait b_is_trait
def N_must_be_trait : List Str := ["thing"]
def b_must_be_trait : SM := (sIf (tNot' (tVal (eFn m_is_trait (lCons (eVar 0) lNil))))
  (sRaise "NoTrait")
  sNext)
def m_must_be_trait : List D → M D := runB false N_must_be_trait b_must_be_trait
def N_master_by : List Str := ["masters", "name", "master"]
def b_master_by : SM := (sSeq (sFor (iSeq (eVar 0)) (gOne 2)
  (sIf (tBin opEq (eBin opIx (eVar 2) (eC (.int (0)))) (eVar 1))
  (sRet (eVar 2))
  sNext))
  (sRet (eC .non)))
def m_master_by : List D → M D := runB false N_master_by b_master_by
def N_must_be_master : List Str := ["masters", "name"]
def b_must_be_master : SM := (sIf (tOr' (tNot' (tVal (eUn (fIs "str") (eVar 1)))) (tBin opIs (eFn m_master_by (lCons (eVar 0) (lCons (eVar 1) lNil))) (eC .non)))
  (sRaise "NoMaster")
  sNext)
def m_must_be_master : List D → M D := runB false N_must_be_master b_must_be_master
def N_chain_by : List Str := ["masters", "name", "found", "master"]
def b_chain_by : SM := (sSeq (sSet 2 (eLst lNil))
  (sSeq (sWhile (tBin opIsNot (eVar 1) (eC .non))
  (sSeq (sSet 3 (eFn m_master_by (lCons (eVar 0) (lCons (eVar 1) lNil))))
  (sSeq (gd 2 (sApp 2 (eVar 3)))
  (sSet 1 (eBin opIx (eVar 3) (eC (.int (1))))))) 1000)
  (sRet (eVar 2))))
def m_chain_by : List D → M D := runB false N_chain_by b_chain_by
def N_places_by : List Str := ["masters", "name", "found", "master", "place"]
def b_places_by : SM := (sSeq (sSet 2 (eLst lNil))
  (sSeq (sFor (iRevs (eFn m_chain_by (lCons (eVar 0) (lCons (eVar 1) lNil)))) (gOne 3)
  (gd 2 (sExt 2 (eComp [4] (iSeq (eBin opIx (eVar 3) (eC (.int (2))))) (gOne 4) (tBin opNotIn (eBin opIx (eVar 4) (eC (.int (0)))) (eVar 2)) (eBin opIx (eVar 4) (eC (.int (0))))))))
  (sRet (eVar 2))))
def m_places_by : List D → M D := runB false N_places_by b_places_by
def N_must_be_place : List Str := ["masters", "name", "place"]
def b_must_be_place : SM := (sIf (tOr' (tNot' (tVal (eUn (fIs "str") (eVar 2)))) (tBin opNotIn (eVar 2) (eFn m_places_by (lCons (eVar 0) (lCons (eVar 1) lNil)))))
  (sRaise "NoPlace")
  sNext)
def m_must_be_place : List D → M D := runB false N_must_be_place b_must_be_place
def N_own_worth : List Str := ["trait"]
def b_own_worth : SM := (sRet (eBin opIx (eC (.tup [(.int (0)), (.int (0)), (.int (40)), (.int (10)), (.int (1)), (.str ['p', 'l', 'a', 'i', 'n'])])) (eUn (fIdxT [['l', 'e', 'f', 't'], ['t', 'o', 'p'], ['w', 'i', 'd', 'e'], ['h', 'i', 'g', 'h'], ['s', 'i', 'z', 'e'], ['i', 'n', 'k']]) (eVar 0))))
def m_own_worth : List D → M D := runB false N_own_worth b_own_worth
def N_settings_by : List Str := ["masters", "name", "place", "trait", "master", "one", "settings", "lines", "told", "worth"]
def b_settings_by : SM := (sSeq (sFor (iSeq (eFn m_chain_by (lCons (eVar 0) (lCons (eVar 1) lNil)))) (gOne 4)
  (sFor (iSeq (eBin opIx (eVar 4) (eC (.int (2))))) (gMany [5, 6, 7])
  (sFor (iSeq (eVar 6)) (gMany [8, 9])
  (sIf (tAnd' (tBin opEq (eVar 5) (eVar 2)) (tBin opEq (eVar 8) (eVar 3)))
  (sRet (eTup (lCons (eVar 9) (lCons (eBin opIx (eVar 4) (eC (.int (0)))) lNil))))
  sNext))))
  (sRet (eC .non)))
def m_settings_by : List D → M D := runB false N_settings_by b_settings_by
def N_worth_here : List Str := ["masters", "name", "place", "trait", "found"]
def b_worth_here : SM := (sSeq (sSet 4 (eFn m_settings_by (lCons (eVar 0) (lCons (eVar 1) (lCons (eVar 2) (lCons (eVar 3) lNil))))))
  (sSeq (sIf (tBin opIs (eVar 4) (eC .non))
  (sRet (eTup (lCons (eFn m_own_worth (lCons (eVar 3) lNil)) (lCons (eTup (lCons (eC (.str ['o', 'w', 'n'])) lNil)) lNil))))
  sNext)
  (sRet (eTup (lCons (eBin opIx (eVar 4) (eC (.int (0)))) (lCons (eTup (lCons (eC (.str ['m', 'a', 's', 't', 'e', 'r'])) (lCons (eBin opIx (eVar 4) (eC (.int (1)))) lNil))) lNil))))))
def m_worth_here : List D → M D := runB false N_worth_here b_worth_here
def N_worth_by : List Str := ["masters", "name", "place", "trait"]
def b_worth_by : SM := (sSeq (sDrop (eFn m_must_be_master (lCons (eVar 0) (lCons (eVar 1) lNil))))
  (sSeq (sDrop (eFn m_must_be_place (lCons (eVar 0) (lCons (eVar 1) (lCons (eVar 2) lNil)))))
  (sSeq (sDrop (eFn m_must_be_trait (lCons (eVar 3) lNil)))
  (sRet (eFn m_worth_here (lCons (eVar 0) (lCons (eVar 1) (lCons (eVar 2) (lCons (eVar 3) lNil)))))))))
def m_worth_by : List D → M D := runB false N_worth_by b_worth_by
def N_lines_by : List Str := ["masters", "name", "place", "master", "one", "settings", "lines"]
def b_lines_by : SM := (sSeq (sFor (iSeq (eFn m_chain_by (lCons (eVar 0) (lCons (eVar 1) lNil)))) (gOne 3)
  (sFor (iSeq (eBin opIx (eVar 3) (eC (.int (2))))) (gMany [4, 5, 6])
  (sIf (tAnd' (tBin opEq (eVar 4) (eVar 2)) (tBin opIsNot (eVar 6) (eC .non)))
  (sRet (eTup (lCons (eVar 6) (lCons (eBin opIx (eVar 3) (eC (.int (0)))) lNil))))
  sNext)))
  (sRet (eTup (lCons (eC .non) (lCons (eC .non) lNil)))))
def m_lines_by : List D → M D := runB false N_lines_by b_lines_by
def N_text_by : List Str := ["masters", "name", "place"]
def b_text_by : SM := (sSeq (sDrop (eFn m_must_be_master (lCons (eVar 0) (lCons (eVar 1) lNil))))
  (sSeq (sDrop (eFn m_must_be_place (lCons (eVar 0) (lCons (eVar 1) (lCons (eVar 2) lNil)))))
  (sRet (eFn m_lines_by (lCons (eVar 0) (lCons (eVar 1) (lCons (eVar 2) lNil)))))))
def m_text_by : List D → M D := runB false N_text_by b_text_by
def N__law_names : List Str := ["pen", "many", "k", "letters", "some", "step", "code", "begin"]
def b__law_names : SM := (sSeq (sPar [3, 4] (lCons (eC (.str ['a', 'b', 'c', 'd', 'e', 'f', 'g', 'h', 'i', 'j', 'k', 'l', 'm', 'n', 'o', 'p', 'q', 'r', 's', 't', 'u', 'v', 'w', 'x', 'y', 'z'])) (lCons (eLst lNil) lNil)))
  (sSeq (sPar [5, 6] (lCons (eBin opAdd (eBin opIx (eLst (lCons (eC (.int (1))) (lCons (eC (.int (3))) (lCons (eC (.int (5))) (lCons (eC (.int (7))) (lCons (eC (.int (9))) (lCons (eC (.int (11))) (lCons (eC (.int (15))) (lCons (eC (.int (17))) lNil))))))))) (eFn m__law_draw (lCons (eVar 0) (lCons (eC (.int (8))) lNil)))) (eBin opMul (eC (.int (26))) (eFn m__law_draw (lCons (eVar 0) (lCons (eC (.int (13))) lNil))))) (lCons (eFn m__law_draw (lCons (eVar 0) (lCons (eC (.int (676))) lNil))) lNil)))
  (sSeq (sFor (iRng (eVar 1)) (gOne 2)
  (sSeq (sSet 7 (eBin opIx (eLst (lCons (eC (.str [])) (lCons (eC (.str [])) (lCons (eC (.str ['a'])) (lCons (eC (.str ['z', '9'])) (lCons (eC (.str ['t', 'i', 't', 'l', 'e'])) (lCons (eC (.str ['m', '0', 'm', '0', 'm', '0'])) (lCons (eC (.str ['b'])) lNil)))))))) (eFn m__law_draw (lCons (eVar 0) (lCons (eC (.int (7))) lNil)))))
  (sSeq (gd 4 (sApp 4 (eBin opAdd (eBin opAdd (eVar 7) (eBin opIx (eVar 3) (eBin opDiv (eVar 6) (eC (.int (26)))))) (eBin opIx (eVar 3) (eBin opMod (eVar 6) (eC (.int (26))))))))
  (sSet 6 (eBin opMod (eBin opAdd (eVar 6) (eVar 5)) (eC (.int (676))))))))
  (sSeq (sIf (tAnd' (tBin opGt (eVar 1) (eC (.int (0)))) (tBin opEq (eFn m__law_draw (lCons (eVar 0) (lCons (eC (.int (6))) lNil))) (eC (.int (0)))))
  (gd 4 (sSetI 4 (eBin opIx (eVar 3) (eFn m__law_draw (lCons (eVar 0) (lCons (eC (.int (26))) lNil)))) (eFn m__law_draw (lCons (eVar 0) (lCons (eVar 1) lNil)))))
  sNext)
  (sRet (eVar 4))))))
def m__law_names : List D → M D := runB false N__law_names b__law_names
def N__law_traits : List Str := []
def b__law_traits : SM := (sRet (eLst (lCons (eC (.str ['l', 'e', 'f', 't'])) (lCons (eC (.str ['t', 'o', 'p'])) (lCons (eC (.str ['w', 'i', 'd', 'e'])) (lCons (eC (.str ['h', 'i', 'g', 'h'])) (lCons (eC (.str ['s', 'i', 'z', 'e'])) (lCons (eC (.str ['i', 'n', 'k'])) lNil))))))))
def m__law_traits : List D → M D := runB false N__law_traits b__law_traits
def N__law_line : List Str := ["pen", "words", "line", "k"]
def b__law_line : SM := (sSeq (sSet 1 (eLst (lCons (eC (.str ['a'])) (lCons (eC (.str ['W', 'o', 'r', 'd'])) (lCons (eC (.str ['e', 'n', 'd', '.'])) (lCons (eC (.str ['{', 'n', '}'])) (lCons (eC (.str ['{', 'a', 'l', 'l', '}'])) (lCons (eC (.str ['{', 'n', 'a', 'm', 'e', '}'])) (lCons (eC (.str ['d', 'o', 'n', '\'', 't', ';'])) (lCons (eC (.str [])) (lCons (eC (.str [])) (lCons (eBin opMul (eC (.str ['x'])) (eC (.int (23)))) (lCons (eC (.str ['{', 'n'])) (lCons (eC (.str ['{', '{', 'n', '}', '}'])) (lCons (eC (.str ['{', 'N', '}', ' ', '~', '!'])) (lCons (eC (.str ['w', 'o', 'r', 'd'])) lNil))))))))))))))))
  (sSeq (sSet 2 (eMeth fJoin (eC (.str [' '])) (eComp [3] (iRng (eFn m__law_draw (lCons (eVar 0) (lCons (eC (.int (6))) lNil)))) (gOne 3) cYes (eBin opIx (eVar 1) (eFn m__law_draw (lCons (eVar 0) (lCons (eC (.int (14))) lNil)))))))
  (sRet (eSl (eVar 2) pNo (pSome (eBin opIx (eLst (lCons (eC (.int (60))) (lCons (eC (.int (60))) (lCons (eC (.int (7))) lNil)))) (eFn m__law_draw (lCons (eVar 0) (lCons (eC (.int (3))) lNil)))))))))
def m__law_line : List D → M D := runB false N__law_line b__law_line
def N__law_lines : List Str := ["pen", "many", "k"]
def b__law_lines : SM := (sSeq (sSet 1 (eBin opIx (eLst (lCons (eFn m__law_draw (lCons (eVar 0) (lCons (eC (.int (4))) lNil))) (lCons (eFn m__law_draw (lCons (eVar 0) (lCons (eC (.int (4))) lNil))) (lCons (eC (.int (12))) lNil)))) (eFn m__law_draw (lCons (eVar 0) (lCons (eC (.int (3))) lNil)))))
  (sRet (eUn fTuple (eComp [2] (iRng (eVar 1)) (gOne 2) cYes (eSl (eFn m__law_line (lCons (eVar 0) lNil)) pNo (pSome (eBin opIx (eLst (lCons (eC (.int (60))) (lCons (eC (.int (12))) lNil))) (eUn fInt (eBin opGt (eVar 1) (eC (.int (3))))))))))))
def m__law_lines : List D → M D := runB false N__law_lines b__law_lines
def N__law_worth : List Str := ["pen", "trait"]
def b__law_worth : SM := (sSeq (sIf (tBin opEq (eVar 1) (eC (.str ['i', 'n', 'k'])))
  (sRet (eBin opIx (eLst (lCons (eC (.str ['p', 'l', 'a', 'i', 'n'])) (lCons (eC (.str ['r', 'e', 'd'])) (lCons (eC (.str ['b', '1'])) (lCons (eC (.str ['a', 'b', 'c', 'd', 'e', 'f', 'g', '8'])) (lCons (eC (.str ['z'])) lNil)))))) (eFn m__law_draw (lCons (eVar 0) (lCons (eC (.int (5))) lNil)))))
  sNext)
  (sSeq (sIf (tBin opIn (eVar 1) (eTup (lCons (eC (.str ['l', 'e', 'f', 't'])) (lCons (eC (.str ['t', 'o', 'p'])) lNil))))
  (sRet (eBin opIx (eLst (lCons (eFn m__law_draw (lCons (eVar 0) (lCons (eC (.int (9))) lNil))) (lCons (eBin opAdd (eUn opNeg (eC (.int (999)))) (eFn m__law_draw (lCons (eVar 0) (lCons (eC (.int (1999))) lNil)))) (lCons (eUn opNeg (eC (.int (999)))) (lCons (eC (.int (999))) lNil))))) (eFn m__law_draw (lCons (eVar 0) (lCons (eC (.int (4))) lNil)))))
  sNext)
  (sSeq (sIf (tBin opEq (eVar 1) (eC (.str ['s', 'i', 'z', 'e'])))
  (sRet (eBin opIx (eLst (lCons (eC (.int (1))) (lCons (eC (.int (2))) (lCons (eC (.int (3))) (lCons (eBin opAdd (eC (.int (1))) (eFn m__law_draw (lCons (eVar 0) (lCons (eC (.int (99))) lNil)))) (lCons (eC (.int (99))) lNil)))))) (eFn m__law_draw (lCons (eVar 0) (lCons (eC (.int (5))) lNil)))))
  sNext)
  (sRet (eBin opIx (eLst (lCons (eBin opAdd (eC (.int (1))) (eFn m__law_draw (lCons (eVar 0) (lCons (eC (.int (30))) lNil)))) (lCons (eBin opAdd (eC (.int (1))) (eFn m__law_draw (lCons (eVar 0) (lCons (eC (.int (60))) lNil)))) (lCons (eBin opAdd (eC (.int (1))) (eFn m__law_draw (lCons (eVar 0) (lCons (eC (.int (999))) lNil)))) (lCons (eC (.int (1))) (lCons (eC (.int (999))) lNil)))))) (eFn m__law_draw (lCons (eVar 0) (lCons (eC (.int (5))) lNil))))))))
def m__law_worth : List D → M D := runB false N__law_worth b__law_worth
def N__law_place : List Str := ["pen", "name", "settings", "trait"]
def b__law_place : SM := (sSeq (sSet 2 (eUn fTuple (eComp [3] (iSeq (eFn m__law_traits lNil)) (gOne 3) (tBin opEq (eFn m__law_draw (lCons (eVar 0) (lCons (eC (.int (3))) lNil))) (eC (.int (0)))) (eTup (lCons (eVar 3) (lCons (eFn m__law_worth (lCons (eVar 0) (lCons (eVar 3) lNil))) lNil))))))
  (sRet (eTup (lCons (eVar 1) (lCons (eVar 2) (lCons (eBin opIx (eLst (lCons (eC .non) (lCons (eC .non) (lCons (eFn m__law_lines (lCons (eVar 0) lNil)) lNil)))) (eFn m__law_draw (lCons (eVar 0) (lCons (eC (.int (3))) lNil)))) lNil))))))
def m__law_place : List D → M D := runB false N__law_place b__law_place
def N__law_masters : List Str := ["pen", "most", "pool", "names", "made", "k", "over", "own", "name"]
def b__law_masters : SM := (sSeq (sSet 3 (eFn m__law_names (lCons (eVar 0) (lCons (eBin opAdd (eC (.int (1))) (eFn m__law_draw (lCons (eVar 0) (lCons (eVar 1) lNil)))) lNil))))
  (sSeq (sSet 4 (eLst lNil))
  (sSeq (sFor (iRng (eUn fLen (eVar 3))) (gOne 5)
  (sSeq (sSet 6 (eC .non))
  (sSeq (sIf (tAnd' (tBin opGt (eVar 5) (eC (.int (0)))) (tBin opGt (eFn m__law_draw (lCons (eVar 0) (lCons (eC (.int (4))) lNil))) (eC (.int (0)))))
  (sSet 6 (eBin opIx (eVar 3) (eBin opIx (eLst (lCons (eBin opSub (eVar 5) (eC (.int (1)))) (lCons (eFn m__law_draw (lCons (eVar 0) (lCons (eVar 5) lNil))) lNil))) (eFn m__law_draw (lCons (eVar 0) (lCons (eC (.int (2))) lNil))))))
  sNext)
  (sSeq (sSet 7 (eLst lNil))
  (sSeq (sFor (iSeq (eVar 2)) (gOne 8)
  (sIf (tAnd' (tBin opEq (eFn m__law_draw (lCons (eVar 0) (lCons (eC (.int (3))) lNil))) (eC (.int (0)))) (tBin opLt (eUn fLen (eVar 7)) (eC (.int (8)))))
  (gd 7 (sIns 7 (eFn m__law_draw (lCons (eVar 0) (lCons (eBin opAdd (eUn fLen (eVar 7)) (eC (.int (1)))) lNil))) (eFn m__law_place (lCons (eVar 0) (lCons (eVar 8) lNil)))))
  sNext))
  (gd 4 (sIns 4 (eFn m__law_draw (lCons (eVar 0) (lCons (eBin opAdd (eUn fLen (eVar 4)) (eC (.int (1)))) lNil))) (eTup (lCons (eBin opIx (eVar 3) (eVar 5)) (lCons (eVar 6) (lCons (eUn fTuple (eVar 7)) lNil)))))))))))
  (sRet (eUn fTuple (eVar 4))))))
def m__law_masters : List D → M D := runB false N__law_masters b__law_masters
def N__law_same : List Str := ["found", "due", "one", "other"]
def b__law_same (r : List D → M D) : SM := (sSeq (sIf (tVal (eUn (fIs2 "tuple" "list") (eVar 1)))
  (sSeq (sIf (tOr' (tNot' (tVal (eUn (fIs2 "tuple" "list") (eVar 0)))) (tBin opNe (eUn (fIs "list") (eVar 0)) (eUn (fIs "list") (eVar 1))))
  (sRet (eC (.bl false)))
  sNext)
  (sSeq (sIf (tBin opNe (eUn fLen (eVar 0)) (eUn fLen (eVar 1)))
  (sRet (eC (.bl false)))
  sNext)
  (sRet (eUn fAll (eComp [2, 3] (iZp (eVar 0) (eVar 1)) (gMany [2, 3]) cYes (eFn r (lCons (eVar 2) (lCons (eVar 3) lNil))))))))
  sNext)
  (sSeq (sIf (tOr' (tBin opIs (eVar 1) (eC .non)) (tBin opIs (eVar 0) (eC .non)))
  (sRet (eAnd (eBin opIs (eVar 0) (eC .non)) (eBin opIs (eVar 1) (eC .non))))
  sNext)
  (sSeq (sIf (tOr' (tBin opNe (eUn (fIs "bool") (eVar 0)) (eUn (fIs "bool") (eVar 1))) (tBin opNe (eUn (fIs "str") (eVar 0)) (eUn (fIs "str") (eVar 1))))
  (sRet (eC (.bl false)))
  sNext)
  (sSeq (sIf (tBin opNe (eUn (fIs "int") (eVar 0)) (eUn (fIs "int") (eVar 1)))
  (sRet (eC (.bl false)))
  sNext)
  (sRet (eBin opEq (eVar 0) (eVar 1)))))))
def m__law_same : Nat → List D → M D
  | 0 => fun _ => bad
  | n + 1 => runB false N__law_same (b__law_same (m__law_same n))
def N__law_chain : List Str := ["masters", "name", "found", "master", "one"]
def b__law_chain : SM := (sSeq (sSet 2 (eLst lNil))
  (sSeq (sWhile (tBin opIsNot (eVar 1) (eC .non))
  (sSeq (sSet 3 (eBin opIx (eComp [4] (iSeq (eVar 0)) (gOne 4) (tBin opEq (eBin opIx (eVar 4) (eC (.int (0)))) (eVar 1)) (eVar 4)) (eC (.int (0)))))
  (sSeq (gd 2 (sApp 2 (eVar 3)))
  (sSet 1 (eBin opIx (eVar 3) (eC (.int (1))))))) 1000)
  (sRet (eVar 2))))
def m__law_chain : List D → M D := runB false N__law_chain b__law_chain
def N__law_there : List Str := ["masters", "name", "found", "master", "one"]
def b__law_there : SM := (sSeq (sSet 2 (eLst lNil))
  (sSeq (sFor (iSeq (eUn opRev (eFn m__law_chain (lCons (eVar 0) (lCons (eVar 1) lNil))))) (gOne 3)
  (sFor (iSeq (eBin opIx (eVar 3) (eC (.int (2))))) (gOne 4)
  (sIf (tBin opNotIn (eBin opIx (eVar 4) (eC (.int (0)))) (eVar 2))
  (gd 2 (sApp 2 (eBin opIx (eVar 4) (eC (.int (0))))))
  sNext)))
  (sRet (eVar 2))))
def m__law_there : List D → M D := runB false N__law_there b__law_there
def N__law_set : List Str := ["masters", "name", "place", "trait", "master", "one", "setting"]
def b__law_set : SM := (sSeq (sFor (iSeq (eFn m__law_chain (lCons (eVar 0) (lCons (eVar 1) lNil)))) (gOne 4)
  (sFor (iSeq (eBin opIx (eVar 4) (eC (.int (2))))) (gOne 5)
  (sIf (tBin opEq (eBin opIx (eVar 5) (eC (.int (0)))) (eVar 2))
  (sFor (iSeq (eBin opIx (eVar 5) (eC (.int (1))))) (gOne 6)
  (sIf (tBin opEq (eBin opIx (eVar 6) (eC (.int (0)))) (eVar 3))
  (sRet (eTup (lCons (eBin opIx (eVar 6) (eC (.int (1)))) (lCons (eTup (lCons (eC (.str ['m', 'a', 's', 't', 'e', 'r'])) (lCons (eBin opIx (eVar 4) (eC (.int (0)))) lNil))) lNil))))
  sNext))
  sNext)))
  (sRet (eTup (lCons (eBin opIx (eLst (lCons (eC (.int (0))) (lCons (eC (.int (0))) (lCons (eC (.int (40))) (lCons (eC (.int (10))) (lCons (eC (.int (1))) (lCons (eC (.str ['p', 'l', 'a', 'i', 'n'])) lNil))))))) (eMthL fIndex (eFn m__law_traits lNil) (eVar 3))) (lCons (eTup (lCons (eC (.str ['o', 'w', 'n'])) lNil)) lNil)))))
def m__law_set : List D → M D := runB false N__law_set b__law_set
def N__law_told_lines : List Str := ["masters", "name", "place", "master", "one"]
def b__law_told_lines : SM := (sSeq (sFor (iSeq (eFn m__law_chain (lCons (eVar 0) (lCons (eVar 1) lNil)))) (gOne 3)
  (sFor (iSeq (eBin opIx (eVar 3) (eC (.int (2))))) (gOne 4)
  (sIf (tAnd' (tBin opEq (eBin opIx (eVar 4) (eC (.int (0)))) (eVar 2)) (tBin opIsNot (eBin opIx (eVar 4) (eC (.int (2)))) (eC .non)))
  (sRet (eTup (lCons (eBin opIx (eVar 4) (eC (.int (2)))) (lCons (eBin opIx (eVar 3) (eC (.int (0)))) lNil))))
  sNext)))
  (sRet (eTup (lCons (eC .non) (lCons (eC .non) lNil)))))
def m__law_told_lines : List D → M D := runB false N__law_told_lines b__law_told_lines
def N__law_wide : List Str := ["pen", "k", "names", "places", "made", "own", "place"]
def b__law_wide : SM := (sSeq (sPar [2, 3, 4] (lCons (eFn m__law_names (lCons (eVar 0) (lCons (eC (.int (3))) lNil))) (lCons (eFn m__law_names (lCons (eVar 0) (lCons (eC (.int (24))) lNil))) (lCons (eLst lNil) lNil))))
  (sSeq (sFor (iRng (eC (.int (3)))) (gOne 1)
  (sSeq (sSet 5 (eUn fTuple (eComp [6] (iSeq (eSl (eVar 3) (pSome (eBin opMul (eC (.int (8))) (eVar 1))) (pSome (eBin opAdd (eBin opMul (eC (.int (8))) (eVar 1)) (eC (.int (8))))))) (gOne 6) cYes (eFn m__law_place (lCons (eVar 0) (lCons (eVar 6) lNil))))))
  (gd 4 (sIns 4 (eFn m__law_draw (lCons (eVar 0) (lCons (eBin opAdd (eVar 1) (eC (.int (1)))) lNil))) (eTup (lCons (eBin opIx (eVar 2) (eVar 1)) (lCons (eIf (tBin opGt (eVar 1) (eC (.int (0)))) (eBin opIx (eVar 2) (eBin opSub (eVar 1) (eC (.int (1))))) (eC .non)) (lCons (eVar 5) lNil))))))))
  (sRet (eUn fTuple (eVar 4)))))
def m__law_wide : List D → M D := runB false N__law_wide b__law_wide
def N__law_tall : List Str := ["pen", "k", "names", "places", "made", "own", "place"]
def b__law_tall : SM := (sSeq (sPar [2, 3, 4] (lCons (eFn m__law_names (lCons (eVar 0) (lCons (eBin opAdd (eC (.int (7))) (eFn m__law_draw (lCons (eVar 0) (lCons (eC (.int (6))) lNil)))) lNil))) (lCons (eFn m__law_names (lCons (eVar 0) (lCons (eC (.int (3))) lNil))) (lCons (eLst lNil) lNil))))
  (sSeq (sFor (iRng (eUn fLen (eVar 2))) (gOne 1)
  (sSeq (sSet 5 (eUn fTuple (eComp [6] (iSeq (eVar 3)) (gOne 6) (tBin opEq (eFn m__law_draw (lCons (eVar 0) (lCons (eC (.int (4))) lNil))) (eC (.int (0)))) (eFn m__law_place (lCons (eVar 0) (lCons (eVar 6) lNil))))))
  (gd 4 (sIns 4 (eFn m__law_draw (lCons (eVar 0) (lCons (eBin opAdd (eVar 1) (eC (.int (1)))) lNil))) (eTup (lCons (eBin opIx (eVar 2) (eVar 1)) (lCons (eIf (tBin opGt (eVar 1) (eC (.int (0)))) (eBin opIx (eVar 2) (eBin opSub (eVar 1) (eC (.int (1))))) (eC .non)) (lCons (eVar 5) lNil))))))))
  (sRet (eUn fTuple (eVar 4)))))
def m__law_tall : List D → M D := runB false N__law_tall b__law_tall
end Mr
/-! Plain law, 1: helpers; what a name is. -/
namespace Mr
open PySem PySem.Spec PyProof.Rows L2
section
variable {s : Store} {Φ : D → Store → Prop} {Ξ : Xc → Store → Prop}
theorem wp_fIs {n : String} {d : D} {b : Bool} (h : isT n d = some b) : wp (fIs n d) s Φ Ξ = Φ (.bl b) s := by
  unfold fIs
  rw [h]
  rfl
theorem wp_eq_int (a b : Int) : wp (opEq (.int a) (.int b)) s Φ Ξ = Φ (.bl (a == b)) s := by
  rw [wp_eq (by simp [D.okD, D.plain, D.depth]) (by simp [D.okD, D.plain, D.depth])]
  simp only [D.eqv]
theorem wp_eq_str (a b : Tx) : wp (opEq (.str a) (.str b)) s Φ Ξ = Φ (.bl (a == b)) s := by
  rw [wp_eq (by simp [D.okD, D.plain, D.depth]) (by simp [D.okD, D.plain, D.depth])]
  simp only [D.eqv]
theorem wp_eq_bl (a b : Bool) : wp (opEq (.bl a) (.bl b)) s Φ Ξ = Φ (.bl (a == b)) s := by
  rw [wp_eq (by simp [D.okD, D.plain, D.depth]) (by simp [D.okD, D.plain, D.depth])]
  simp only [D.eqv]
theorem wp_ne_bl (a b : Bool) : wp (opNe (.bl a) (.bl b)) s Φ Ξ = Φ (.bl (!(a == b))) s := by
  rw [wp_ne (by simp [D.okD, D.plain, D.depth]) (by simp [D.okD, D.plain, D.depth])]
  simp only [D.eqv]
theorem wp_ne_int (a b : Int) : wp (opNe (.int a) (.int b)) s Φ Ξ = Φ (.bl (!(a == b))) s := by
  rw [wp_ne (by simp [D.okD, D.plain, D.depth]) (by simp [D.okD, D.plain, D.depth])]
  simp only [D.eqv]
theorem ix_str_any {xs : Tx} {i : Int} (h0 : 0 ≤ i) (h1 : i < xs.length) (h : ∀ c ∈ xs, Φ (.str [c]) s) : wp (opIx (.str xs) (.int i)) s Φ Ξ := by
  have hl : i.toNat < xs.length := by omega
  rw [wp_ix_str (atI_some h0 hl)]
  exact h _ (List.getElem_mem hl)
theorem ix_lst_any {xs : List D} {i : Int} (h0 : 0 ≤ i) (h1 : i < xs.length) (h : ∀ c ∈ xs, Φ c s) : wp (opIx (.lst xs) (.int i)) s Φ Ξ := by
  have hl : i.toNat < xs.length := by omega
  rw [wp_ix_lst (atI_some h0 hl)]
  exact h _ (List.getElem_mem hl)
theorem wp_ix_lst0 (x : D) (xs : List D) : wp (opIx (.lst (x :: xs)) (.int 0)) s Φ Ξ = Φ x s := wp_ix_lst (atI_some (by omega) (by simp))
theorem wp_ix_tup0 (x : D) (xs : List D) : wp (opIx (.tup (x :: xs)) (.int 0)) s Φ Ξ = Φ x s := wp_ix_tup (atI_some (by omega) (by simp))
theorem wp_ix_tup1 (x y : D) (xs : List D) : wp (opIx (.tup (x :: y :: xs)) (.int 1)) s Φ Ξ = Φ y s := wp_ix_tup (atI_some (by omega) (by simp))
theorem wp_ix_tup2 (x y z : D) (xs : List D) : wp (opIx (.tup (x :: y :: z :: xs)) (.int 2)) s Φ Ξ = Φ z s := wp_ix_tup (atI_some (by omega) (by simp))
theorem texts_map : ∀ l : List Tx, textsOf (l.map D.str) = some l
  | [] => rfl
  | x :: l => by
    show (textsOf (l.map D.str)).map (x :: ·) = _
    rw [texts_map l]
    rfl
theorem wp_join {t : Tx} {xs : List D} {l : List Tx} (h : textsOf xs = some l) (hl : joinLen t l ≤ 1000000) : wp (fJoin (.str t) (.lst xs)) s Φ Ξ = Φ (.str (joinT t l)) s := by
  unfold fJoin
  simp only [h, if_pos hl, wp_pure]
end
def lets : Tx := ['a', 'b', 'c', 'd', 'e', 'f', 'g', 'h', 'i', 'j', 'k', 'l', 'm', 'n', 'o', 'p', 'q', 'r', 's', 't', 'u', 'v', 'w', 'x', 'y', 'z']
def figs : Tx := ['0', '1', '2', '3', '4', '5', '6', '7', '8', '9']
def isName : Tx → Bool
  | [] => false
  | c :: cs => decide (cs.length < 8) && decide (c ∈ lets) && (c :: cs).all fun c => decide (c ∈ lets) || decide (c ∈ figs)
theorem lets_len : lets.length = 26 := rfl
theorem nums_get {lo : Int} {n j : Nat} {d : D} (h : (nums lo n)[j]? = some d) : j < n ∧ d = .int (lo + (j : Nat)) := by
  have hj : j < n := by
    have := (List.getElem?_eq_some_iff.mp h).1
    rwa [nums_length] at this
  refine ⟨hj, ?_⟩
  unfold nums at h
  rw [List.getElem?_map, List.getElem?_range hj] at h
  exact (Option.some.inj h).symm
theorem isName_len {t : Tx} (h : isName t = true) : 1 ≤ t.length ∧ t.length ≤ 8 := by
  cases t with
  | nil => cases h
  | cons c cs =>
    have h1 := (Bool.and_eq_true_iff.mp (Bool.and_eq_true_iff.mp h).1).1
    have := of_decide_eq_true h1
    simp only [List.length_cons]
    omega
end Mr
/-! mirrors of defs that many laws share (printed by gen.py) -/
namespace Mr
open PySem PySem.Spec PyProof.Rows L2
def N_is_whole : List Str := ["thing"]
def b_is_whole : SM := (sRet (eAnd (eUn (fIs "int") (eVar 0)) (eNot (eUn (fIs "bool") (eVar 0)))))
def m_is_whole : List D → M D := runB false N_is_whole b_is_whole
def N_is_from : List Str := ["thing", "least", "most"]
def b_is_from : SM := (sRet (eAnd (eFn m_is_whole (lCons (eVar 0) lNil)) (eChain opLe opLe (eVar 1) (eVar 0) (eVar 2))))
def m_is_from : List D → M D := runB false N_is_from b_is_from
def N_is_name : List Str := ["thing", "sign"]
def b_is_name : SM := (sSeq (sIf (tOr' (tNot' (tVal (eUn (fIs "str") (eVar 0)))) (tOr' (tNot' (tChn opLe opLe (eC (.int (1))) (eUn fLen (eVar 0)) (eC (.int (8))))) (tBin opNotIn (eBin opIx (eVar 0) (eC (.int (0)))) (eC (.str ['a', 'b', 'c', 'd', 'e', 'f', 'g', 'h', 'i', 'j', 'k', 'l', 'm', 'n', 'o', 'p', 'q', 'r', 's', 't', 'u', 'v', 'w', 'x', 'y', 'z'])))))
  (sRet (eC (.bl false)))
  sNext)
  (sRet (eUn fAll (eComp [1] (iSeq (eVar 0)) (gOne 1) cYes (eOr (eBin opIn (eVar 1) (eC (.str ['a', 'b', 'c', 'd', 'e', 'f', 'g', 'h', 'i', 'j', 'k', 'l', 'm', 'n', 'o', 'p', 'q', 'r', 's', 't', 'u', 'v', 'w', 'x', 'y', 'z']))) (eBin opIn (eVar 1) (eC (.str ['0', '1', '2', '3', '4', '5', '6', '7', '8', '9']))))))))
def m_is_name : List D → M D := runB false N_is_name b_is_name
def tv_BOUNDS : List (Tx × D) := [(['l', 'e', 'f', 't'], (.tup [(.int (-999)), (.int (999))])), (['t', 'o', 'p'], (.tup [(.int (-999)), (.int (999))])), (['w', 'i', 'd', 'e'], (.tup [(.int (1)), (.int (999))])), (['h', 'i', 'g', 'h'], (.tup [(.int (1)), (.int (999))])), (['s', 'i', 'z', 'e'], (.tup [(.int (1)), (.int (99))]))]
def N_is_worth : List Str := ["trait", "thing"]
def b_is_worth : SM := (sSeq (sDrop (eFn m_must_be_trait (lCons (eVar 0) lNil)))
  (sSeq (sIf (tBin (opInK "BOUNDS" tv_BOUNDS) (eVar 0) (eC (.glo "BOUNDS")))
  (sRet (eFn m_is_from (lCons (eVar 1) (lCons (eBin opIx (eBin (opIxK "BOUNDS" tv_BOUNDS) (eC (.glo "BOUNDS")) (eVar 0)) (eC (.int (0)))) (lCons (eBin opIx (eBin (opIxK "BOUNDS" tv_BOUNDS) (eC (.glo "BOUNDS")) (eVar 0)) (eC (.int (1)))) lNil)))))
  sNext)
  (sRet (eFn m_is_name (lCons (eVar 1) lNil)))))
def m_is_worth : List D → M D := runB false N_is_worth b_is_worth
def N__law_word : List Str := ["e", "words", "some"]
def b__law_word : SM := (sSeq (sSet 1 (eLst (lCons (eC (.str ['d', 'e', 'c', 'k'])) (lCons (eC (.str ['d', 'e', 'e', 'd'])) (lCons (eC (.str ['l', 'i', 'n', 'k'])) (lCons (eC (.str ['m', 'a', 's', 't', 'e', 'r'])) (lCons (eC (.str ['n', 'a', 'm', 'e'])) (lCons (eC (.str ['n', 'u', 'm', 'b', 'e', 'r'])) (lCons (eC (.str ['p', 'l', 'a', 'c', 'e'])) (lCons (eC (.str ['p', 'r', 'e', 's', 's'])) (lCons (eC (.str ['r', 'o', 'o', 'm'])) (lCons (eC (.str ['r', 'o', 'w'])) (lCons (eC (.str ['s', 'e', 't', 't', 'i', 'n', 'g'])) (lCons (eC (.str ['s', 'h', 'o', 'w'])) lNil))))))))))))))
  (sSeq (sSet 1 (eBin opAdd (eVar 1) (eLst (lCons (eC (.str ['s', 'l', 'i', 'd', 'e'])) (lCons (eC (.str ['s', 't', 'e', 'p', 's'])) (lCons (eC (.str ['t', 'e', 'x', 't'])) (lCons (eC (.str ['t', 'i', 'm', 'e'])) (lCons (eC (.str ['t', 'r', 'a', 'i', 't'])) (lCons (eC (.str ['w', 'o', 'r', 'd'])) (lCons (eC (.str ['w', 'o', 'r', 't', 'h'])) (lCons (eC (.str ['r', 'i', 'n', 'g'])) (lCons (eC (.str ['t', 'a', 'k', 'e', 'n'])) (lCons (eC (.str ['m', 'a', 'n', 'y'])) (lCons (eC (.str ['u', 's', 'e', 'd'])) lNil))))))))))))))
  (sSeq (sSet 2 (eLst (lCons (eUn (fIsE "NoDeck") (eVar 0)) (lCons (eUn (fIsE "NoDeed") (eVar 0)) (lCons (eUn (fIsE "NoLink") (eVar 0)) (lCons (eUn (fIsE "NoMaster") (eVar 0)) lNil))))))
  (sSeq (sSet 2 (eBin opAdd (eVar 2) (eLst (lCons (eUn (fIsE "NoName") (eVar 0)) (lCons (eUn (fIsE "NoNumber") (eVar 0)) (lCons (eUn (fIsE "NoPlace") (eVar 0)) (lCons (eUn (fIsE "NoPress") (eVar 0)) lNil)))))))
  (sSeq (sSet 2 (eBin opAdd (eVar 2) (eLst (lCons (eUn (fIsE "NoRoom") (eVar 0)) (lCons (eUn (fIsE "NoRow") (eVar 0)) (lCons (eUn (fIsE "NoSetting") (eVar 0)) (lCons (eUn (fIsE "NoShow") (eVar 0)) lNil)))))))
  (sSeq (sSet 2 (eBin opAdd (eVar 2) (eLst (lCons (eUn (fIsE "NoSlide") (eVar 0)) (lCons (eUn (fIsE "NoSteps") (eVar 0)) (lCons (eUn (fIsE "NoText") (eVar 0)) (lCons (eUn (fIsE "NoTime") (eVar 0)) lNil)))))))
  (sSeq (sSet 2 (eBin opAdd (eVar 2) (eLst (lCons (eUn (fIsE "NoTrait") (eVar 0)) (lCons (eUn (fIsE "NoWord") (eVar 0)) (lCons (eUn (fIsE "NoWorth") (eVar 0)) (lCons (eUn (fIsE "Ring") (eVar 0)) lNil)))))))
  (sSeq (sSet 2 (eBin opAdd (eVar 2) (eLst (lCons (eUn (fIsE "Taken") (eVar 0)) (lCons (eUn (fIsE "TooMany") (eVar 0)) (lCons (eUn (fIsE "Used") (eVar 0)) lNil))))))
  (sSeq (sIf (tOr' (tBin opNe (eMthL fCount (eVar 2) (eC (.bl true))) (eC (.int (1)))) (tNot' (tVal (eUn fIsVE (eVar 0)))))
  (sRet (eC (.str ['o', 't', 'h', 'e', 'r'])))
  sNext)
  (sRet (eBin opIx (eVar 1) (eMthL fIndex (eVar 2) (eC (.bl true))))))))))))))
def m__law_word : List D → M D := runB false N__law_word b__law_word
end Mr
/-! Plain law, 2: names that are unlike. -/
namespace Mr
open PySem PySem.Spec PyProof.Rows L2
def letAt (i : Nat) : Char := lets.getD i 'a'
def suf (c : Int) : Tx := [letAt (c.fdiv 26).toNat, letAt (c.fmod 26).toNat]
theorem letAt_mem (i : Nat) : letAt i ∈ lets := by
  unfold letAt
  by_cases h : i < lets.length
  · rw [List.getD_eq_getElem?_getD, List.getElem?_eq_getElem h]
    exact List.getElem_mem h
  · rw [List.getD_eq_getElem?_getD, List.getElem?_eq_none (by omega)]
    decide
theorem letAt_inj {i j : Nat} (hi : i < 26) (hj : j < 26) (h : letAt i = letAt j) : i = j := by
  have key : ∀ i : Fin 26, ∀ j : Fin 26, letAt i.val = letAt j.val → i = j := by decide +kernel
  have := key ⟨i, hi⟩ ⟨j, hj⟩ h
  exact congrArg Fin.val this
theorem suf_inj {a b : Int} (a0 : 0 ≤ a) (a1 : a < 676) (b0 : 0 ≤ b) (b1 : b < 676) (h : suf a = suf b) : a = b := by
  unfold suf at h
  injection h with h1 h2
  injection h2 with h2 _
  rw [Int.fdiv_eq_ediv_of_nonneg _ (by omega), Int.fdiv_eq_ediv_of_nonneg _ (by omega)] at h1
  rw [Int.fmod_eq_emod_of_nonneg _ (by omega), Int.fmod_eq_emod_of_nonneg _ (by omega)] at h2
  have e1 := letAt_inj (by omega) (by omega) h1
  have e2 := letAt_inj (by omega) (by omega) h2
  omega
def begins : List Tx := [[], [], ['a'], ['z', '9'], ['t', 'i', 't', 'l', 'e'], ['m', '0', 'm', '0', 'm', '0'], ['b']]
theorem name_suf {b : Tx} (hb : b ∈ begins) (c : Int) : isName (b ++ suf c) = true := by
  unfold suf
  have h1 := letAt_mem (c.fdiv 26).toNat
  have h2 := letAt_mem (c.fmod 26).toNat
  generalize letAt (c.fdiv 26).toNat = x at h1
  generalize letAt (c.fmod 26).toNat = y at h2
  have fx : ∀ z ∈ lets, (decide (z ∈ lets) || decide (z ∈ figs)) = true := fun z hz => by simp [hz]
  have ax := fx x h1
  have ay := fx y h2
  unfold begins at hb
  simp only [List.mem_cons, List.not_mem_nil, or_false] at hb
  have rest : ∀ (p : Tx) (q : Char) (_ : b = q :: p), q ∈ lets → p.length < 6 → (∀ z ∈ p, (decide (z ∈ lets) || decide (z ∈ figs)) = true) → isName (b ++ [x, y]) = true := by
    intro p q e hq hp hz
    subst e
    show (decide ((p ++ [x, y]).length < 8) && decide (q ∈ lets) && (q :: (p ++ [x, y])).all fun c => decide (c ∈ lets) || decide (c ∈ figs)) = true
    have l8 : (p ++ [x, y]).length < 8 := by simp; omega
    rw [decide_eq_true l8, decide_eq_true hq]
    simp only [Bool.true_and]
    rw [List.all_eq_true]
    intro z hzm
    rcases List.mem_cons.mp hzm with rfl | hzm
    · exact fx _ hq
    · rcases List.mem_append.mp hzm with hzm | hzm
      · exact hz z hzm
      · simp only [List.mem_cons, List.not_mem_nil, or_false] at hzm
        rcases hzm with rfl | rfl
        · exact ax
        · exact ay
  have none_ : b = [] → isName (b ++ [x, y]) = true := by
    intro e
    subst e
    show (decide ([y].length < 8) && decide (x ∈ lets) && [x, y].all fun c => decide (c ∈ lets) || decide (c ∈ figs)) = true
    rw [decide_eq_true h1]
    simp only [List.all_cons, ax, ay, List.all_nil]
    rfl
  rcases hb with h | h | h | h | h | h | h
  · exact none_ h
  · exact none_ h
  · exact rest [] 'a' h (by decide) (by decide) (by decide)
  · exact rest ['9'] 'z' h (by decide) (by decide) (by decide)
  · exact rest ['i', 't', 'l', 'e'] 't' h (by decide) (by decide) (by decide)
  · exact rest ['0', 'm', '0', 'm', '0'] 'm' h (by decide) (by decide) (by decide)
  · exact rest [] 'b' h (by decide) (by decide) (by decide)
/-- steps that meet every code -/
def stepOk (st : Int) : Prop := ∃ a b : Int, a ∈ [(1 : Int), 3, 5, 7, 9, 11, 15, 17] ∧ 0 ≤ b ∧ b < 13 ∧ st = a + 26 * b
theorem step_far {st c : Int} {i j : Nat} (hs : stepOk st) (hi : i < j) (hj : j < 676) (h : (c + i * st).emod 676 = (c + j * st).emod 676) : False := by
  obtain ⟨a, b, ha, b0, b1, rfl⟩ := hs
  have h1 : ((j : Int) - i) * (a + 26 * b) % 676 = 0 := by
    have e1 : ((j : Int) - i) * (a + 26 * b) = (c + j * (a + 26 * b)) - (c + i * (a + 26 * b)) := by
      rw [Int.sub_mul]; omega
    rw [e1]
    have := Int.emod_emod_of_dvd
    have h' : (c + (i : Int) * (a + 26 * b)) % 676 = (c + (j : Int) * (a + 26 * b)) % 676 := h
    omega
  have ap : 0 ≤ a := by
    simp only [List.mem_cons, List.not_mem_nil, or_false] at ha
    omega
  have hdv : 676 ∣ (j - i) * (a + 26 * b).toNat := by
    have e1 : (((j - i) * (a + 26 * b).toNat : Nat) : Int) = ((j : Int) - i) * (a + 26 * b) := by
      rw [Int.natCast_mul, Int.toNat_of_nonneg (by omega), Int.natCast_sub (by omega)]
    have e2 : ((676 : Nat) : Int) ∣ (((j - i) * (a + 26 * b).toNat : Nat) : Int) := by
      rw [e1]
      exact Int.dvd_of_emod_eq_zero h1
    exact Int.natCast_dvd_natCast.mp e2
  have cop : Nat.Coprime 676 (a + 26 * b).toNat := by
    have key : ∀ a ∈ [(1 : Int), 3, 5, 7, 9, 11, 15, 17], ∀ b : Fin 13, Nat.gcd 676 (a + 26 * (b.val : Int)).toNat = 1 := by decide +kernel
    have := key a ha ⟨b.toNat, by omega⟩
    have e : ((b.toNat : Nat) : Int) = b := Int.toNat_of_nonneg b0
    rw [← e]
    exact this
  have := Nat.le_of_dvd (by omega) (cop.dvd_of_dvd_mul_right hdv)
  omega
theorem nodup_of {α : Type} {l : List α} (h : ∀ i j : Nat, i < j → j < l.length → l[i]? ≠ l[j]?) : l.Nodup := by
  refine List.pairwise_iff_getElem.mpr fun i j hi hj hij e => h i j hij hj ?_
  rw [List.getElem?_eq_getElem hi, List.getElem?_eq_getElem hj, e]
theorem nodup_at {α : Type} {l : List α} (h : l.Nodup) (i j : Nat) (hij : i < j) (hj : j < l.length) : l[i]? ≠ l[j]? := fun e => by
  have hi : i < l.length := by omega
  rw [List.getElem?_eq_getElem hi, List.getElem?_eq_getElem hj] at e
  exact List.pairwise_iff_getElem.mp h i j hi hj hij (Option.some.inj e)
structure NamesOk (l : List Tx) : Prop where
  nd : l.Nodup
  ok : ∀ x ∈ l, isName x = true
theorem last2 {b b' : Tx} {c c' : Int} (h : b ++ suf c = b' ++ suf c') : suf c = suf c' := by
  have h1 := congrArg List.reverse h
  rw [List.reverse_append, List.reverse_append] at h1
  unfold suf at h1 ⊢
  simp only [List.reverse_cons, List.reverse_nil, List.nil_append, List.cons_append] at h1
  injection h1 with h2 h3
  injection h3 with h3 _
  rw [h2, h3]
/-- names one behind another -/
def run (c st : Int) (l : List Tx) : Prop := ∀ (i : Nat) (x : Tx), l[i]? = some x → ∃ b ∈ begins, x = b ++ suf ((c + i * st).fmod 676)
theorem run_nd {c st : Int} {l : List Tx} (hs : stepOk st) (hl : l.length ≤ 676) (h : run c st l) : l.Nodup := by
  refine nodup_of fun i j hij hj e => ?_
  have hi : i < l.length := by omega
  obtain ⟨b, _, h1⟩ := h i _ (List.getElem?_eq_getElem hi)
  obtain ⟨b', _, h2⟩ := h j _ (List.getElem?_eq_getElem hj)
  rw [List.getElem?_eq_getElem hi, List.getElem?_eq_getElem hj] at e
  have e := Option.some.inj e
  rw [h1, h2] at e
  have e2 := last2 e
  have k : ∀ z : Int, 0 ≤ z.fmod 676 ∧ z.fmod 676 < 676 := fun z => ⟨fmod_lo z (by omega), fmod_hi z (by omega)⟩
  have e3 := suf_inj (k _).1 (k _).2 (k _).1 (k _).2 e2
  rw [Int.fmod_eq_emod_of_nonneg _ (by omega), Int.fmod_eq_emod_of_nonneg _ (by omega)] at e3
  exact step_far hs hij (by omega) e3
theorem names_ok {k : Nat} {s : Store} {n : Int} {Φ : D → Store → Prop} {Ξ : Xc → Store → Prop} (hp : PenOk k s) (hk : k ≤ 900000000) (n0 : 0 ≤ n) (n1 : n ≤ 676) (h : ∀ (l : List Tx) (s' : Store), l.length = n.toNat → NamesOk l → PenOk (k + n.toNat + 6) s' → Φ (.lst (l.map .str)) s') : wp (m__law_names [.ref 0, .int n]) s Φ Ξ := by
  have ev : startE N__law_names [.ref 0, .int n] = [some (.ref 0), some (.int n), none, none, none, none, none, none] := rfl
  unfold m__law_names
  rw [wp_run, ev]
  unfold b__law_names
  rw [wpS_seq, wpS_par]
  simp only [wp_lCons, wp_lNil, wp_eC, wp_eLst, List.length_cons, List.length_nil, if_true]
  have e1 : setAll ([3, 4].zip [D.str ['a', 'b', 'c', 'd', 'e', 'f', 'g', 'h', 'i', 'j', 'k', 'l', 'm', 'n', 'o', 'p', 'q', 'r', 's', 't', 'u', 'v', 'w', 'x', 'y', 'z'], .lst []]) [some (.ref 0), some (.int n), none, none, none, none, none, none] = [some (.ref 0), some (.int n), none, some (.str lets), some (.lst []), none, none, none] := rfl
  rw [e1, wpS_seq, wpS_par]
  simp only [wp_lCons, wp_lNil, wp_eC, wp_eLst, wp_eBin, wp_eFn, eVar_def, List.getElem?_cons_zero, wp_pure]
  refine draw_ok hp fun r1 s1 a1 b1 hp1 => ?_
  refine ix_lst_any a1 (by simpa using b1) fun st0 hst => ?_
  have hst : ∃ a : Int, a ∈ [(1 : Int), 3, 5, 7, 9, 11, 15, 17] ∧ st0 = .int a := by
    simp only [List.mem_cons, List.not_mem_nil, or_false] at hst
    rcases hst with rfl | rfl | rfl | rfl | rfl | rfl | rfl | rfl <;> exact ⟨_, by decide, rfl⟩
  obtain ⟨a, ha, rfl⟩ := hst
  refine draw_ok hp1 fun r2 s2 a2 b2 hp2 => ?_
  rw [wp_mul_int 26 r2 (.inl ⟨by omega, by omega⟩), wp_add_int]
  refine draw_ok hp2 fun c0 s3 a3 b3 hp3 => ?_
  have hs : stepOk (a + 26 * r2) := ⟨a, r2, ha, a2, b2, rfl⟩
  have hpos : 0 ≤ a + 26 * r2 := by
    simp only [List.mem_cons, List.not_mem_nil, or_false] at ha
    omega
  have hsm : a + 26 * r2 < 1000 := by
    simp only [List.mem_cons, List.not_mem_nil, or_false] at ha
    omega
  generalize a + 26 * r2 = st at hs hpos hsm ⊢
  simp only [List.length_cons, List.length_nil, if_true]
  have e2 : setAll ([5, 6].zip [D.int st, D.int c0]) [some (.ref 0), some (.int n), none, some (.str lets), some (.lst []), none, none, none] = [some (.ref 0), some (.int n), none, some (.str lets), some (.lst []), some (.int st), some (.int c0), none] := rfl
  rw [e2, wpS_seq, wpS_for]
  simp only [wp_iRng, eVar_def, List.getElem?_cons_zero, List.getElem?_cons_succ, wp_pure]
  rw [wp_rng1 ⟨by omega, by omega⟩]
  refine for_one (fun j e s => ∃ (l : List Tx) (c : Int) (x2 x7 : Option D), e = [some (.ref 0), some (.int n), x2, some (.str lets), some (.lst (l.map .str)), some (.int st), some (.int c), x7] ∧ l.length = j ∧ c = (c0 + j * st).fmod 676 ∧ run c0 st l ∧ PenOk (k + 3 + j) s)
    ⟨[], c0, none, none, rfl, rfl, ?_, fun i x e => by simp at e, hp3⟩ (fun j d e s hj hI => ?_) fun e s hI => ?_
  · simp only [Int.natCast_zero, Int.zero_mul, Int.add_zero]
    rw [Int.fmod_eq_emod_of_nonneg _ (by omega), Int.emod_eq_of_lt a3 b3]
  · obtain ⟨l, c, x2, x7, rfl, hl, hc, hr, hp4⟩ := hI
    obtain ⟨hjn, rfl⟩ := nums_get hj
    have c0' : 0 ≤ c := hc ▸ fmod_lo _ (by omega)
    have c1' : c < 676 := hc ▸ fmod_hi _ (by omega)
    simp only [List.set_cons_zero, List.set_cons_succ]
    rw [wpS_seq, wpS_set]
    simp only [wp_lCons, wp_lNil, wp_eC, wp_eLst, wp_eBin, wp_eFn, eVar_def, List.getElem?_cons_zero, wp_pure]
    refine draw_ok hp4 fun r5 s5 a5 b5 hp5 => ?_
    refine ix_lst_any a5 (by simpa using b5) fun bg hbg => ?_
    have hbg : ∃ b ∈ begins, bg = .str b := by
      unfold begins
      simp only [List.mem_cons, List.not_mem_nil, or_false] at hbg ⊢
      rcases hbg with rfl | rfl | rfl | rfl | rfl | rfl | rfl <;> exact ⟨_, by simp, rfl⟩
    obtain ⟨b, hb, rfl⟩ := hbg
    have hbl : b.length ≤ 6 := by
      unfold begins at hb
      simp only [List.mem_cons, List.not_mem_nil, or_false] at hb
      rcases hb with rfl | rfl | rfl | rfl | rfl | rfl | rfl <;> decide
    simp only [List.set_cons_zero, List.set_cons_succ]
    rw [wpS_seq, wpS_gd_of (xs := l.map .str) rfl, wpS_app]
    simp only [wp_eBin, eVar_def, List.getElem?_cons_zero, List.getElem?_cons_succ, wp_pure, wp_eC]
    rw [wp_div_int c 26 (by omega) (by omega)]
    have q1 : 0 ≤ c.fdiv 26 ∧ (c.fdiv 26).toNat < lets.length := by
      rw [Int.fdiv_eq_ediv_of_nonneg _ (by omega), lets_len]; omega
    have q2 : 0 ≤ c.fmod 26 ∧ (c.fmod 26).toNat < lets.length := by
      rw [Int.fmod_eq_emod_of_nonneg _ (by omega), lets_len]; omega
    have lt : ∀ {i : Nat} (h : i < lets.length), lets[i] = letAt i := fun {i} h => by
      unfold letAt
      rw [List.getD_eq_getElem?_getD, List.getElem?_eq_getElem h]
      rfl
    rw [wp_ix_str (atI_some q1.1 q1.2), wp_add_str _ _ (by simp; omega), wp_mod_int c 26 (by omega), wp_ix_str (atI_some q2.1 q2.2), wp_add_str _ _ (by simp; omega), lt q1.2, lt q2.2]
    have hlen : ((l.map D.str) ++ [D.str (b ++ [letAt (c.fdiv 26).toNat] ++ [letAt (c.fmod 26).toNat])]).length ≤ sizeLine := by
      simp only [List.length_append, List.length_map, List.length_cons, List.length_nil]
      exact Nat.le_trans (show l.length + (0 + 1) ≤ 1000 by omega) (by decide)
    rw [chK_of (xs := l.map .str) (ys := (l ++ [b ++ suf c]).map .str) rfl (by
      unfold ckLen
      rw [if_pos hlen, List.map_append]
      congr 2
      simp [suf])]
    simp only [List.set_cons_zero, List.set_cons_succ]
    rw [wpS_set]
    simp only [wp_eBin, eVar_def, List.getElem?_cons_zero, List.getElem?_cons_succ, wp_pure, wp_eC, wp_add_int]
    rw [wp_mod_int _ 676 (by omega)]
    simp only [List.set_cons_zero, List.set_cons_succ]
    refine ⟨l ++ [b ++ suf c], _, _, _, rfl, by rw [List.length_append, hl]; rfl, ?_, fun i x e => ?_, hp5⟩
    · subst hc
      rw [Int.fmod_eq_emod_of_nonneg _ (by omega), Int.fmod_eq_emod_of_nonneg _ (by omega), Int.fmod_eq_emod_of_nonneg _ (by omega), Int.emod_add_emod]
      congr 1
      rw [Int.natCast_add, Int.add_mul]
      simp only [Int.natCast_one, Int.one_mul]
      omega
    · by_cases hi : i < l.length
      · rw [List.getElem?_append_left hi] at e
        exact hr i x e
      · rw [List.getElem?_append_right (by omega)] at e
        have hi2 : i = l.length := by
          have := (List.getElem?_eq_some_iff.mp e).1
          simp at this
          omega
        subst hi2
        simp at e
        subst e
        exact ⟨b, hb, by rw [hl, ← hc]⟩
  · obtain ⟨l, c, x2, x7, rfl, hl, hc, hr, hp4⟩ := hI
    rw [nums_length] at hl hp4
    have nd := run_nd hs (by omega) hr
    have ok : NamesOk l := ⟨nd, fun x hx => by
      obtain ⟨i, e⟩ := List.getElem?_of_mem hx
      obtain ⟨b, hb, rfl⟩ := hr i x e
      exact name_suf hb _⟩
    dsimp only
    rw [wpS_seq, wpS_if]
    simp only [wp_tAnd, wp_tBin, eVar_def, List.getElem?_cons_zero, List.getElem?_cons_succ, wp_pure, wp_eC, wp_gt_int, wp_unB]
    by_cases hn : 0 < n
    · simp only [decide_eq_true hn, if_true, wp_tBin, wp_eFn, wp_lCons, wp_lNil, wp_eC, eVar_def, List.getElem?_cons_zero, wp_pure]
      refine draw_ok hp4 fun r6 s6 a6 b6 hp6 => ?_
      rw [wp_eq_int, wp_unB]
      split
      · rw [wpS_gd_of (xs := l.map .str) rfl, wpS_seti]
        simp only [wp_eBin, wp_eFn, wp_lCons, wp_lNil, wp_eC, eVar_def, List.getElem?_cons_zero, List.getElem?_cons_succ, wp_pure]
        refine draw_ok hp6 fun r7 s7 a7 b7 hp7 => ?_
        refine ix_str_any a7 (by rw [lets_len]; omega) fun ch hch => ?_
        refine draw_ok hp7 (fun r8 s8 a8 b8 hp8 => ?_) (by omega) hn (by omega)
        have hlt : r8.toNat < l.length := by omega
        have hix : L2.ixN (l.map D.str).length r8 = some r8.toNat := by
          unfold L2.ixN
          rw [List.length_map, if_pos a8, if_pos (by omega)]
        dsimp only
        rw [chK_of (xs := l.map .str) (ys := (l.set r8.toNat [ch]).map .str) rfl (by
          unfold setI
          rw [hix, List.map_set]
          rfl)]
        simp only [List.set_cons_zero, List.set_cons_succ]
        rw [wpS_ret]
        simp only [eVar_def, List.getElem?_cons_zero, List.getElem?_cons_succ, wp_pure]
        have long : ∀ x ∈ l, 2 ≤ x.length := fun x hx => by
          obtain ⟨i, e⟩ := List.getElem?_of_mem hx
          obtain ⟨b, hb, rfl⟩ := hr i x e
          unfold suf
          simp
        have fresh : [ch] ∉ l := fun hm => by
          have := long _ hm
          simp at this
        refine h _ _ (by rw [List.length_set, hl]) ⟨?_, fun x hx => ?_⟩ (hp8.mono (by omega))
        · refine nodup_of fun i j hij hj e => ?_
          rw [List.length_set] at hj
          have base := nodup_at nd i j hij hj
          by_cases h1 : r8.toNat = i
          · subst h1
            rw [List.getElem?_set_self hlt, List.getElem?_set_ne (by omega)] at e
            exact fresh (List.mem_of_getElem? e.symm)
          · by_cases h2 : r8.toNat = j
            · subst h2
              rw [List.getElem?_set_self hlt, List.getElem?_set_ne (by omega)] at e
              exact fresh (List.mem_of_getElem? e)
            · rw [List.getElem?_set_ne h1, List.getElem?_set_ne h2] at e
              exact base e
        · rcases List.mem_or_eq_of_mem_set hx with hx | rfl
          · exact ok.ok x hx
          · show (decide (([] : Tx).length < 8) && decide (ch ∈ lets) && [ch].all fun c => decide (c ∈ lets) || decide (c ∈ figs)) = true
            simp [hch]
      · rw [wpS_nx]
        dsimp only
        rw [wpS_ret]
        simp only [eVar_def, List.getElem?_cons_zero, List.getElem?_cons_succ, wp_pure]
        exact h l _ hl ok (hp6.mono (by omega))
    · simp only [decide_eq_false hn, Bool.false_eq_true, if_false, wpS_nx]
      rw [wpS_ret]
      simp only [eVar_def, List.getElem?_cons_zero, List.getElem?_cons_succ, wp_pure]
      exact h l _ hl ok (hp4.mono (by omega))
end Mr
/-! Plain law, 3: lines, worths, places as they are drawn. -/
namespace Mr
open PySem PySem.Spec PyProof.Rows L2
section
variable {s : Store} {Φ : D → Store → Prop} {Ξ : Xc → Store → Prop}
@[simp] theorem wp_tuple_lst (x : List D) : wp (fTuple (.lst x)) s Φ Ξ = Φ (.tup x) s := rfl
@[simp] theorem wp_tuple_tup (x : List D) : wp (fTuple (.tup x)) s Φ Ξ = Φ (.tup x) s := rfl
@[simp] theorem wp_list_lst (x : List D) : wp (fList (.lst x)) s Φ Ξ = Φ (.lst x) s := rfl
@[simp] theorem wp_list_tup (x : List D) : wp (fList (.tup x)) s Φ Ξ = Φ (.lst x) s := rfl
@[simp] theorem wp_int_bl (b : Bool) : wp (fInt (.bl b)) s Φ Ξ = Φ (.int (if b then 1 else 0)) s := rfl
@[simp] theorem wp_int_int (b : Int) : wp (fInt (.int b)) s Φ Ξ = Φ (.int b) s := rfl
theorem wp_in_tup (d : D) (xs : List D) (h : (d.flat && xs.all D.flat) = true) (hd : ∀ c b, ¬ (d = .str [c] ∧ D.tup xs = .str b) := by intro _ _ h; cases h.2) : wp (opIn d (.tup xs)) s Φ Ξ = Φ (.bl (dIn d xs)) s := by
  have e : opIn d (.tup xs) = (if d.flat && xs.all D.flat then pure (.bl (dIn d xs)) else bad) := by
    cases d with
    | str cs => cases cs with
      | nil => rfl
      | cons c cs => cases cs <;> rfl
    | _ => rfl
  rw [e, h]
  rfl
theorem wp_in_lst (d : D) (xs : List D) (h : (d.okD && D.okD (.lst xs)) = true) : wp (opIn d (.lst xs)) s Φ Ξ = Φ (.bl (dIn d xs)) s := by
  have e : opIn d (.lst xs) = (if d.okD && D.okD (.lst xs) then pure (.bl (dIn d xs)) else bad) := by
    cases d with
    | str cs => cases cs with
      | nil => rfl
      | cons c cs => cases cs <;> rfl
    | _ => rfl
  rw [e, h]
  rfl
theorem wp_nin_lst (d : D) (xs : List D) (h : (d.okD && D.okD (.lst xs)) = true) : wp (opNotIn d (.lst xs)) s Φ Ξ = Φ (.bl (!dIn d xs)) s := by
  have e : opNotIn d (.lst xs) = (if d.okD && D.okD (.lst xs) then pure (.bl (!dIn d xs)) else bad) := by
    cases d with
    | str cs => cases cs with
      | nil => rfl
      | cons c cs => cases cs <;> rfl
    | _ => rfl
  rw [e, h]
  rfl
end
theorem cut_take {α : Type} (xs : List α) {n : Int} (h : 0 ≤ n) : cutL xs none (some n) = xs.take n.toNat := by
  unfold cutL
  have e1 : HT.sIx xs.length 0 none = 0 := rfl
  have e2 : HT.sIx xs.length xs.length (some n) = min n.toNat xs.length := by
    unfold HT.sIx
    have h1 : ¬ n < 0 := by omega
    simp [h1]
  rw [e1, e2]
  simp
def okSigns : Tx := [' ', '!', '"', '#', '$', '&', '\'', '(', ')', '*', '+', ',', '-', '.', '/', ':', ';', '<', '=', '>', '?', '@', '[', ']', '^', '_', '`', '{', '|', '}', '~', '0', '1', '2', '3', '4', '5', '6', '7', '8', '9', 'a', 'b', 'c', 'd', 'e', 'f', 'g', 'h', 'i', 'j', 'k', 'l', 'm', 'n', 'o', 'p', 'q', 'r', 's', 't', 'u', 'v', 'w', 'x', 'y', 'z', 'A', 'B', 'C', 'D', 'E', 'F', 'G', 'H', 'I', 'J', 'K', 'L', 'M', 'N', 'O', 'P', 'Q', 'R', 'S', 'T', 'U', 'V', 'W', 'X', 'Y', 'Z']
structure LineOk (t : Tx) : Prop where
  len : t.length ≤ 60
  ok : ∀ c ∈ t, c ∈ okSigns
theorem LineOk.take {t : Tx} (h : LineOk t) (n : Nat) : LineOk (t.take n) := ⟨by rw [List.length_take]; have := h.len; omega, fun c hc => h.ok c (List.mem_of_mem_take hc)⟩
theorem joinT_mem {s : Tx} {P : Char → Prop} (hs : ∀ c ∈ s, P c) : ∀ {l : List Tx}, (∀ t ∈ l, ∀ c ∈ t, P c) → ∀ c ∈ joinT s l, P c
  | [], _, c, hc => by cases hc
  | [x], h, c, hc => h x (List.mem_cons_self ..) c hc
  | x :: y :: r, h, c, hc => by
    unfold joinT at hc
    rcases List.mem_append.mp hc with hc | hc
    · rcases List.mem_append.mp hc with hc | hc
      · exact h x (List.mem_cons_self ..) c hc
      · exact hs c hc
    · exact joinT_mem hs (fun t ht => h t (List.mem_cons_of_mem _ ht)) c hc
def wordsL : List D := [.str ['a'], .str ['W', 'o', 'r', 'd'], .str ['e', 'n', 'd', '.'], .str ['{', 'n', '}'], .str ['{', 'a', 'l', 'l', '}'], .str ['{', 'n', 'a', 'm', 'e', '}'], .str ['d', 'o', 'n', '\'', 't', ';'], .str [], .str [], .str (repL (23 : Int).toNat ['x']), .str ['{', 'n'], .str ['{', '{', 'n', '}', '}'], .str ['{', 'N', '}', ' ', '~', '!'], .str ['w', 'o', 'r', 'd']]
theorem wordsL_ok : ∀ d ∈ wordsL, ∃ t : Tx, d = .str t ∧ t.length ≤ 23 ∧ ∀ c ∈ t, c ∈ okSigns := by
  intro d hd
  unfold wordsL at hd
  simp only [List.mem_cons, List.not_mem_nil, or_false] at hd
  rcases hd with rfl | rfl | rfl | rfl | rfl | rfl | rfl | rfl | rfl | rfl | rfl | rfl | rfl | rfl <;> exact ⟨_, rfl, by decide +kernel, by decide +kernel⟩
theorem sum_le {l : List Tx} {n : Nat} (h : ∀ t ∈ l, t.length ≤ n) : (l.map List.length).sum ≤ l.length * n := by
  induction l with
  | nil => simp
  | cons x l ih =>
    have h1 := h x (List.mem_cons_self ..)
    have h2 := ih fun t ht => h t (List.mem_cons_of_mem _ ht)
    rw [List.map_cons, List.sum_cons, List.length_cons, Nat.succ_mul]
    omega
theorem line_ok {k : Nat} {s : Store} {Φ : D → Store → Prop} {Ξ : Xc → Store → Prop} (hp : PenOk k s) (hk : k ≤ 900000000) (h : ∀ (t : Tx) (s' : Store), LineOk t → PenOk (k + 7) s' → Φ (.str t) s') : wp (m__law_line [.ref 0]) s Φ Ξ := by
  have ev : startE N__law_line [.ref 0] = [some (.ref 0), none, none, none] := rfl
  unfold m__law_line
  rw [wp_run, ev]
  unfold b__law_line
  rw [wpS_seq, wpS_set]
  simp only [wp_eLst, wp_lCons, wp_lNil, wp_eC, wp_eBin]
  rw [wp_mul_str _ _ ⟨by omega, by omega, by decide⟩]
  show wpS _ [some (.ref 0), some (.lst wordsL), none, none] _ _
  rw [wpS_seq, wpS_set]
  simp only [wp_eMeth, wp_eC, wp_asS, wp_eComp, wp_iRng, wp_eFn, wp_lCons, wp_lNil, eVar_def, List.getElem?_cons_zero, wp_pure]
  refine draw_ok hp fun r1 s1 a1 b1 hp1 => ?_
  rw [wp_rng1 ⟨by omega, by omega⟩]
  refine comp_inv (fun j acc s => ∃ l : List Tx, acc = l.map D.str ∧ l.length = j ∧ (∀ x ∈ l, x.length ≤ 23 ∧ ∀ c ∈ x, c ∈ okSigns) ∧ PenOk (k + 1 + j) s) ⟨[], rfl, rfl, fun _ z => (by cases z), hp1⟩ (fun j d acc s' hj hI => ?_) fun ys s' hI => ?_
  · obtain ⟨l, rfl, hl, h1, hp2⟩ := hI
    obtain ⟨hjn, rfl⟩ := nums_get hj
    refine ⟨_, rfl, ?_⟩
    show wp _ s' (fun k s => if k = true then wp (eBin opIx (eVar 1) (eFn m__law_draw (lCons (eVar 0) (lCons (eC (.int (14))) lNil))) [some (.ref 0), some (.lst wordsL), none, some (.int (0 + (j : Nat)))]) s _ _ else _) _
    simp only [wp_cYes, if_true, wp_eBin, wp_eFn, wp_lCons, wp_lNil, eVar_def, List.getElem?_cons_zero, List.getElem?_cons_succ, wp_pure, wp_eC]
    refine draw_ok hp2 fun r3 s3 a3 b3 hp3 => ?_
    refine ix_lst_any a3 (by show r3 < 14; omega) fun d hd => ?_
    obtain ⟨t, rfl, t1, t2⟩ := wordsL_ok d hd
    refine ⟨l ++ [t], by rw [List.map_append]; rfl, by rw [List.length_append, hl]; rfl, fun x hx => ?_, hp3⟩
    rcases List.mem_append.mp hx with hx | hx
    · exact h1 x hx
    · rw [List.mem_singleton.mp hx]; exact ⟨t1, t2⟩
  · obtain ⟨l, rfl, hl, h1, hp2⟩ := hI
    rw [nums_length] at hl hp2
    have hsum := sum_le fun t ht => (h1 t ht).1
    have hj : joinLen [' '] l ≤ 1000000 := by
      unfold joinLen
      simp only [List.length_cons, List.length_nil]
      omega
    rw [wp_join (texts_map l) hj]
    have hc := joinT_mem (s := [' ']) (P := fun c => c ∈ okSigns) (by decide) fun t ht => (h1 t ht).2
    generalize joinT [' '] l = jt at hc ⊢
    simp only [List.set_cons_zero, List.set_cons_succ]
    rw [wpS_ret]
    simp only [wp_eSl, wp_pNo, wp_pSome, wp_eBin, wp_eLst, wp_lCons, wp_lNil, wp_eC, wp_eFn, eVar_def, List.getElem?_cons_zero, List.getElem?_cons_succ, wp_pure]
    refine draw_ok hp2 fun r4 s4 a4 b4 hp4 => ?_
    refine ix_lst_any a4 (by simpa using b4) fun d hd => ?_
    have hd2 : ∃ n : Int, d = .int n ∧ 0 ≤ n ∧ n ≤ 60 := by
      simp only [List.mem_cons, List.not_mem_nil, or_false] at hd
      rcases hd with rfl | rfl | rfl <;> exact ⟨_, rfl, by omega, by omega⟩
    obtain ⟨n, rfl, n0, n1⟩ := hd2
    simp only [wp_asI, wp_sl_str]
    rw [cut_take _ n0]
    exact h _ _ ⟨by rw [List.length_take]; omega, fun c hc' => hc c (List.mem_of_mem_take hc')⟩ (hp4.mono (by omega))
theorem lines_ok {k : Nat} {s : Store} {Φ : D → Store → Prop} {Ξ : Xc → Store → Prop} (hp : PenOk k s) (hk : k ≤ 800000000) (h : ∀ (l : List Tx) (s' : Store), l.length ≤ 12 → (∀ t ∈ l, LineOk t) → PenOk (k + 100) s' → Φ (.tup (l.map .str)) s') : wp (m__law_lines [.ref 0]) s Φ Ξ := by
  have ev : startE N__law_lines [.ref 0] = [some (.ref 0), none, none] := rfl
  unfold m__law_lines
  rw [wp_run, ev]
  unfold b__law_lines
  rw [wpS_seq, wpS_set]
  simp only [wp_eBin, wp_eLst, wp_lCons, wp_lNil, wp_eC, wp_eFn, eVar_def, List.getElem?_cons_zero, wp_pure]
  refine draw_ok hp fun r1 s1 a1 b1 hp1 => ?_
  refine draw_ok hp1 fun r2 s2 a2 b2 hp2 => ?_
  refine draw_ok hp2 fun r3 s3 a3 b3 hp3 => ?_
  refine ix_lst_any a3 (by simpa using b3) fun d hd => ?_
  have hd2 : ∃ n : Int, d = .int n ∧ 0 ≤ n ∧ n ≤ 12 := by
    simp only [List.mem_cons, List.not_mem_nil, or_false] at hd
    rcases hd with rfl | rfl | rfl <;> exact ⟨_, rfl, by omega, by omega⟩
  obtain ⟨n, rfl, n0, n1⟩ := hd2
  simp only [List.set_cons_zero, List.set_cons_succ]
  rw [wpS_ret]
  simp only [wp_eUn, wp_eComp, wp_iRng, eVar_def, List.getElem?_cons_zero, List.getElem?_cons_succ, wp_pure]
  rw [wp_rng1 ⟨by omega, by omega⟩]
  refine comp_inv (fun j acc s => ∃ l : List Tx, acc = l.map D.str ∧ l.length = j ∧ (∀ x ∈ l, LineOk x) ∧ PenOk (k + 3 + j * 7) s) ⟨[], rfl, rfl, fun _ z => (by cases z), by simpa using hp3⟩ (fun j d acc s' hj hI => ?_) fun ys s' hI => ?_
  · obtain ⟨l, rfl, hl, h1, hp4⟩ := hI
    obtain ⟨hjn, rfl⟩ := nums_get hj
    refine ⟨_, rfl, ?_⟩
    have e2 : setAll [(2, D.int (0 + (j : Nat)))] (wipeE [some (.ref 0), some (.int n), none] [2]) = [some (.ref 0), some (.int n), some (.int (0 + (j : Nat)))] := rfl
    rw [e2]
    simp only [wp_cYes, if_true, wp_eSl, wp_pNo, wp_pSome, wp_eBin, wp_eUn, wp_eLst, wp_eFn, wp_lCons, wp_lNil, eVar_def, List.getElem?_cons_zero, List.getElem?_cons_succ, wp_pure, wp_eC, wp_gt_int, wp_int_bl]
    refine line_ok hp4 (by omega) fun t s5 ht hp5 => ?_
    have fin : ∀ m : Int, 0 ≤ m → ∃ l' : List Tx, l.map D.str ++ [D.str (cutL t none (some m))] = l'.map D.str ∧ l'.length = j + 1 ∧ (∀ x ∈ l', LineOk x) ∧ PenOk (k + 3 + (j + 1) * 7) s5 := fun m hm => by
      rw [cut_take _ hm]
      refine ⟨l ++ [t.take m.toNat], by rw [List.map_append]; rfl, by rw [List.length_append, hl]; rfl, fun x hx => ?_, hp5.mono (by omega)⟩
      rcases List.mem_append.mp hx with hx | hx
      · exact h1 x hx
      · rw [List.mem_singleton.mp hx]; exact ht.take _
    by_cases h3 : 3 < n
    · simp only [decide_eq_true h3, if_true]
      rw [wp_ix_lst (d := .int 12) rfl]
      simp only [wp_asI, wp_sl_str]
      exact fin 12 (by omega)
    · simp only [decide_eq_false h3, Bool.false_eq_true, if_false]
      rw [wp_ix_lst (d := .int 60) rfl]
      simp only [wp_asI, wp_sl_str]
      exact fin 60 (by omega)
  · obtain ⟨l, rfl, hl, h1, hp4⟩ := hI
    rw [nums_length] at hl hp4
    simp only [wp_tuple_lst]
    exact h l _ (by omega) h1 (hp4.mono (by omega))
/-! ### worths -/
def tLeft : Tx := ['l', 'e', 'f', 't']
def tTop : Tx := ['t', 'o', 'p']
def tWide : Tx := ['w', 'i', 'd', 'e']
def tHigh : Tx := ['h', 'i', 'g', 'h']
def tSize : Tx := ['s', 'i', 'z', 'e']
def tInk : Tx := ['i', 'n', 'k']
def traits : List Tx := [tLeft, tTop, tWide, tHigh, tSize, tInk]
def WorthOk (t : Tx) (d : D) : Prop := (t = tInk ∧ ∃ x, d = .str x ∧ isName x = true) ∨ ((t = tLeft ∨ t = tTop) ∧ ∃ i, d = .int i ∧ -999 ≤ i ∧ i ≤ 999) ∨ (t = tSize ∧ ∃ i, d = .int i ∧ 1 ≤ i ∧ i ≤ 99) ∨ ((t = tWide ∨ t = tHigh) ∧ ∃ i, d = .int i ∧ 1 ≤ i ∧ i ≤ 999)
theorem traits_run {s : Store} {Φ : D → Store → Prop} {Ξ : Xc → Store → Prop} : wp (m__law_traits []) s Φ Ξ = Φ (.lst (traits.map .str)) s := rfl
theorem worth_ok {k : Nat} {s : Store} {t : Tx} {Φ : D → Store → Prop} {Ξ : Xc → Store → Prop} (hp : PenOk k s) (hk : k ≤ 900000000) (ht : t ∈ traits) (h : ∀ (d : D) (s' : Store), WorthOk t d → PenOk (k + 6) s' → Φ d s') : wp (m__law_worth [.ref 0, .str t]) s Φ Ξ := by
  have ev : startE N__law_worth [.ref 0, .str t] = [some (.ref 0), some (.str t)] := rfl
  unfold m__law_worth
  rw [wp_run, ev]
  unfold b__law_worth
  rw [wpS_seq, wpS_if]
  simp only [wp_tBin, wp_eC, eVar_def, List.getElem?_cons_zero, List.getElem?_cons_succ, wp_pure, wp_eq_str, wp_unB]
  by_cases hi : t = tInk
  · subst hi
    simp only [show (tInk == ['i', 'n', 'k']) = true from rfl, if_true, wpS_ret, wp_eBin, wp_eLst, wp_lCons, wp_lNil, wp_eC, wp_eFn, eVar_def, List.getElem?_cons_zero, wp_pure]
    refine draw_ok hp fun r1 s1 a1 b1 hp1 => ?_
    refine ix_lst_any a1 (by simpa using b1) fun d hd => h d _ (.inl ⟨rfl, ?_⟩) (hp1.mono (by omega))
    simp only [List.mem_cons, List.not_mem_nil, or_false] at hd
    rcases hd with rfl | rfl | rfl | rfl | rfl <;> exact ⟨_, rfl, by decide +kernel⟩
  have hi' : (t == ['i', 'n', 'k']) = false := by
    cases q : t == ['i', 'n', 'k'] with
    | false => rfl
    | true => exact absurd (beq_iff_eq.mp q) hi
  simp only [hi', Bool.false_eq_true, if_false, wpS_nx]
  rw [wpS_seq, wpS_if]
  simp only [wp_tBin, wp_eTup, wp_lCons, wp_lNil, wp_eC, eVar_def, List.getElem?_cons_zero, List.getElem?_cons_succ, wp_pure]
  rw [wp_in_tup _ _ (by rfl), wp_unB]
  by_cases hl : t = tLeft ∨ t = tTop
  · have e : dIn (.str t) [D.str ['l', 'e', 'f', 't'], .str ['t', 'o', 'p']] = true := by
      rcases hl with rfl | rfl <;> rfl
    simp only [e, if_true, wpS_ret, wp_eBin, wp_eUn, wp_eLst, wp_lCons, wp_lNil, wp_eC, wp_eFn, eVar_def, List.getElem?_cons_zero, wp_pure, wp_neg_int]
    refine draw_ok hp fun r1 s1 a1 b1 hp1 => ?_
    refine draw_ok hp1 fun r2 s2 a2 b2 hp2 => ?_
    rw [wp_add_int]
    refine draw_ok hp2 fun r3 s3 a3 b3 hp3 => ?_
    refine ix_lst_any a3 (by simpa using b3) fun d hd => h d _ (.inr (.inl ⟨hl, ?_⟩)) (hp3.mono (by omega))
    simp only [List.mem_cons, List.not_mem_nil, or_false] at hd
    rcases hd with rfl | rfl | rfl | rfl <;> exact ⟨_, rfl, by omega, by omega⟩
  have e : dIn (.str t) [D.str ['l', 'e', 'f', 't'], .str ['t', 'o', 'p']] = false := by
    have n1 : (tLeft == t) = false := by
      cases q : tLeft == t with
      | false => rfl
      | true => exact absurd (.inl (beq_iff_eq.mp q).symm) hl
    have n2 : (tTop == t) = false := by
      cases q : tTop == t with
      | false => rfl
      | true => exact absurd (.inr (beq_iff_eq.mp q).symm) hl
    show (D.eqv (.str tLeft) (.str t) || (D.eqv (.str tTop) (.str t) || false)) = false
    simp only [D.eqv, n1, n2]
    rfl
  simp only [e, Bool.false_eq_true, if_false, wpS_nx]
  rw [wpS_seq, wpS_if]
  simp only [wp_tBin, wp_eC, eVar_def, List.getElem?_cons_zero, List.getElem?_cons_succ, wp_pure, wp_eq_str, wp_unB]
  by_cases hs : t = tSize
  · subst hs
    simp only [show (tSize == ['s', 'i', 'z', 'e']) = true from rfl, if_true, wpS_ret, wp_eBin, wp_eLst, wp_lCons, wp_lNil, wp_eC, wp_eFn, eVar_def, List.getElem?_cons_zero, wp_pure]
    refine draw_ok hp fun r1 s1 a1 b1 hp1 => ?_
    rw [wp_add_int]
    refine draw_ok hp1 fun r3 s3 a3 b3 hp3 => ?_
    refine ix_lst_any a3 (by simpa using b3) fun d hd => h d _ (.inr (.inr (.inl ⟨rfl, ?_⟩))) (hp3.mono (by omega))
    simp only [List.mem_cons, List.not_mem_nil, or_false] at hd
    rcases hd with rfl | rfl | rfl | rfl | rfl <;> exact ⟨_, rfl, by omega, by omega⟩
  have hs' : (t == ['s', 'i', 'z', 'e']) = false := by
    cases q : t == ['s', 'i', 'z', 'e'] with
    | false => rfl
    | true => exact absurd (beq_iff_eq.mp q) hs
  have hw : t = tWide ∨ t = tHigh := by
    unfold traits at ht
    simp only [List.mem_cons, List.not_mem_nil, or_false] at ht
    rcases ht with e | e | e | e | e | e
    · exact absurd (.inl e) hl
    · exact absurd (.inr e) hl
    · exact .inl e
    · exact .inr e
    · exact absurd e hs
    · exact absurd e hi
  simp only [hs', Bool.false_eq_true, if_false, wpS_nx, wpS_ret, wp_eBin, wp_eLst, wp_lCons, wp_lNil, wp_eC, wp_eFn, eVar_def, List.getElem?_cons_zero, wp_pure]
  refine draw_ok hp fun r1 s1 a1 b1 hp1 => ?_
  rw [wp_add_int]
  refine draw_ok hp1 fun r2 s2 a2 b2 hp2 => ?_
  rw [wp_add_int]
  refine draw_ok hp2 fun r3 s3 a3 b3 hp3 => ?_
  rw [wp_add_int]
  refine draw_ok hp3 fun r4 s4 a4 b4 hp4 => ?_
  refine ix_lst_any a4 (by simpa using b4) fun d hd => h d _ (.inr (.inr (.inr ⟨hw, ?_⟩))) (hp4.mono (by omega))
  simp only [List.mem_cons, List.not_mem_nil, or_false] at hd
  rcases hd with rfl | rfl | rfl | rfl | rfl <;> exact ⟨_, rfl, by omega, by omega⟩
end Mr
/-! Plain tools: one step after another, from the head; what follows is sealed (printed by zgen.py). -/
namespace Mr
open PySem PySem.Spec PyProof.Rows L2
def Fx {α β : Type} (a : α) (b : β) : Type := Unit
def fx {α β : Type} {a : α} {b : β} : Fx a b := ()
def wz {α : Type} (m : M α) (s : Store) (Φ : α → Store → Prop) (Ξ : Xc → Store → Prop) (t : Fx Φ Ξ := fx) : Prop := wp m s Φ Ξ
def wzS (b : SM) (e : Ev) (s : Store) (k : Kt) (t : Fx k k := fx) : Prop := wpS b e s k
theorem z_bad {α : Type} {s : Store} {Φ : α → Store → Prop} {Ξ : Xc → Store → Prop} : wz (bad : M α) s Φ Ξ = False := by first | exact wp_bad .. | rfl | (apply wp_bad <;> assumption)
theorem z_raise {α : Type} {s : Store} {Φ : α → Store → Prop} {Ξ : Xc → Store → Prop} (x : Xc) : wz (raise x : M α) s Φ Ξ = Ξ x s := by first | exact wp_raise .. | rfl | (apply wp_raise <;> assumption)
theorem zS_seq {e : Ev} {s : Store} {k : Kt} {a b : SM} : wzS (sSeq a b) e s k = wzS a e s { k with nx := fun e' s' => wzS b e' s' k } := by first | exact wpS_seq .. | rfl | (apply wpS_seq <;> assumption)
theorem zS_nx {e : Ev} {s : Store} {k : Kt} : wzS sNext e s k = k.nx e s := by first | exact wpS_nx .. | rfl | (apply wpS_nx <;> assumption)
theorem zS_brk {e : Ev} {s : Store} {k : Kt} : wzS sBrk e s k = k.bk e s := by first | exact wpS_brk .. | rfl | (apply wpS_brk <;> assumption)
theorem zS_cnt {e : Ev} {s : Store} {k : Kt} : wzS sCnt e s k = k.ct e s := by first | exact wpS_cnt .. | rfl | (apply wpS_cnt <;> assumption)
theorem zS_drop {e : Ev} {s : Store} {k : Kt} {α : Type} (m : Ev → M α) : wzS (sDrop m) e s k = wz (m e) s (fun _ s' => k.nx e s') (fun x s' => k.ex x e s') := by first | exact wpS_drop .. | rfl | (apply wpS_drop <;> assumption)
theorem zS_set {e : Ev} {s : Store} {k : Kt} {m : EM} {i : Nat} : wzS (sSet i m) e s k = wz (m e) s (fun d s' => k.nx (e.set i (some d)) s') (fun x s' => k.ex x e s') := by first | exact wpS_set .. | rfl | (apply wpS_set <;> assumption)
theorem zS_ret {e : Ev} {s : Store} {k : Kt} {m : EM} : wzS (sRet m) e s k = wz (m e) s (fun d s' => k.rt d s') (fun x s' => k.ex x e s') := by first | exact wpS_ret .. | rfl | (apply wpS_ret <;> assumption)
theorem zS_retN {e : Ev} {s : Store} {k : Kt} : wzS sRetN e s k = k.rt .non s := by first | exact wpS_retN .. | rfl | (apply wpS_retN <;> assumption)
theorem zS_raise {e : Ev} {s : Store} {k : Kt} (c : Str) : wzS (sRaise c) e s k = k.ex ⟨c, []⟩ e s := by first | exact wpS_raise .. | rfl | (apply wpS_raise <;> assumption)
theorem zS_if {e : Ev} {s : Store} {k : Kt} {a b : SM} (c : TM) : wzS (sIf c a b) e s k = wz (c e) s (fun t s' => if t = true then wzS a e s' k else wzS b e s' k) (fun x s' => k.ex x e s') := by first | exact wpS_if .. | rfl | (apply wpS_if <;> assumption)
theorem zS_for {e : Ev} {s : Store} {k : Kt} {b : SM} (it : LM) (g : GM) : wzS (sFor it g b) e s k = wz (it e) s (fun ds s' => wzS (forL g b ds) e s' k) (fun x s' => k.ex x e s') := by first | exact wpS_for .. | rfl | (apply wpS_for <;> assumption)
theorem zS_forNil {e : Ev} {s : Store} {k : Kt} {b : SM} (g : GM) : wzS (forL g b []) e s k = k.nx e s := by first | exact wpS_forNil .. | rfl | (apply wpS_forNil <;> assumption)
theorem z_eC {e : Ev} {s : Store} {Φ : D → Store → Prop} {Ξ : Xc → Store → Prop} (d : D) : wz (eC d e) s Φ Ξ = Φ d s := by first | exact wp_eC .. | rfl | (apply wp_eC <;> assumption)
theorem z_eBin {e : Ev} {s : Store} {Φ : D → Store → Prop} {Ξ : Xc → Store → Prop} (op : D → D → M D) (a b : EM) : wz (eBin op a b e) s Φ Ξ = wz (a e) s (fun x s => wz (b e) s (fun y s => wz (op x y) s Φ Ξ) Ξ) Ξ := by first | exact wp_eBin .. | rfl | (apply wp_eBin <;> assumption)
theorem z_eUn {e : Ev} {s : Store} {Φ : D → Store → Prop} {Ξ : Xc → Store → Prop} (op : D → M D) (a : EM) : wz (eUn op a e) s Φ Ξ = wz (a e) s (fun x s => wz (op x) s Φ Ξ) Ξ := by first | exact wp_eUn .. | rfl | (apply wp_eUn <;> assumption)
theorem z_eFn {e : Ev} {s : Store} {Φ : D → Store → Prop} {Ξ : Xc → Store → Prop} (f : List D → M D) (l : LM) : wz (eFn f l e) s Φ Ξ = wz (l e) s (fun x s => wz (f x) s Φ Ξ) Ξ := by first | exact wp_eFn .. | rfl | (apply wp_eFn <;> assumption)
theorem z_lNil {e : Ev} {s : Store} {Ψ : List D → Store → Prop} {Ξ : Xc → Store → Prop} : wz (lNil e) s Ψ Ξ = Ψ [] s := by first | exact wp_lNil .. | rfl | (apply wp_lNil <;> assumption)
theorem z_lCons {e : Ev} {s : Store} {Ψ : List D → Store → Prop} {Ξ : Xc → Store → Prop} (a : EM) (r : LM) : wz (lCons a r e) s Ψ Ξ = wz (a e) s (fun x s => wz (r e) s (fun xs s => Ψ (x :: xs) s) Ξ) Ξ := by first | exact wp_lCons .. | rfl | (apply wp_lCons <;> assumption)
theorem z_eTup {e : Ev} {s : Store} {Φ : D → Store → Prop} {Ξ : Xc → Store → Prop} (l : LM) : wz (eTup l e) s Φ Ξ = wz (l e) s (fun x s => Φ (.tup x) s) Ξ := by first | exact wp_eTup .. | rfl | (apply wp_eTup <;> assumption)
theorem z_eLst {e : Ev} {s : Store} {Φ : D → Store → Prop} {Ξ : Xc → Store → Prop} (l : LM) : wz (eLst l e) s Φ Ξ = wz (l e) s (fun x s => Φ (.lst x) s) Ξ := by first | exact wp_eLst .. | rfl | (apply wp_eLst <;> assumption)
theorem z_eNew {e : Ev} {s : Store} {Φ : D → Store → Prop} {Ξ : Xc → Store → Prop} (l : LM) : wz (eNew l e) s Φ Ξ = wz (l e) s (fun x s => Φ (.ref s.length) (s ++ [.lst x])) Ξ := by first | exact wp_eNew .. | rfl | (apply wp_eNew <;> assumption)
theorem z_eSl {e : Ev} {s : Store} {Φ : D → Store → Prop} {Ξ : Xc → Store → Prop} (a : EM) (lo hi : PM) : wz (eSl a lo hi e) s Φ Ξ = wz (a e) s (fun x s => wz (lo e) s (fun l s => wz (hi e) s (fun h s => wz (opSl x l h) s Φ Ξ) Ξ) Ξ) Ξ := by first | exact wp_eSl .. | rfl | (apply wp_eSl <;> assumption)
theorem z_pNo {e : Ev} {s : Store} {Ξ : Xc → Store → Prop} {Φ : Option Int → Store → Prop} : wz (pNo e) s Φ Ξ = Φ none s := by first | exact wp_pNo .. | rfl | (apply wp_pNo <;> assumption)
theorem z_pSome {e : Ev} {s : Store} {Ξ : Xc → Store → Prop} (m : EM) {Φ : Option Int → Store → Prop} : wz (pSome m e) s Φ Ξ = wz (m e) s (fun d s => wz (asI d) s Φ Ξ) Ξ := by first | exact wp_pSome .. | rfl | (apply wp_pSome <;> assumption)
theorem z_tBin {e : Ev} {s : Store} {Θ : Bool → Store → Prop} {Ξ : Xc → Store → Prop} (op : D → D → M D) (a b : EM) : wz (tBin op a b e) s Θ Ξ = wz (a e) s (fun x s => wz (b e) s (fun y s => wz (op x y) s (fun d s => wz (unB d) s Θ Ξ) Ξ) Ξ) Ξ := by first | exact wp_tBin .. | rfl | (apply wp_tBin <;> assumption)
theorem z_tChn {e : Ev} {s : Store} {Θ : Bool → Store → Prop} {Ξ : Xc → Store → Prop} (op op' : D → D → M D) (a b c : EM) : wz (tChn op op' a b c e) s Θ Ξ = wz (a e) s (fun x s => wz (b e) s (fun y s => wz (op x y) s (fun d s => wz (unB d) s (fun k s => if k = true then wz (c e) s (fun z s => wz (op' y z) s (fun d s => wz (unB d) s Θ Ξ) Ξ) Ξ else Θ false s) Ξ) Ξ) Ξ) Ξ := by first | exact wp_tChn .. | rfl | (apply wp_tChn <;> assumption)
theorem z_eChain {e : Ev} {s : Store} {Φ : D → Store → Prop} {Ξ : Xc → Store → Prop} (op op' : D → D → M D) (a b c : EM) : wz (eChain op op' a b c e) s Φ Ξ = wz (a e) s (fun x s => wz (b e) s (fun y s => wz (op x y) s (fun d s => wz (unB d) s (fun k s => if k = true then wz (c e) s (fun z s => wz (op' y z) s Φ Ξ) Ξ else Φ (.bl false) s) Ξ) Ξ) Ξ) Ξ := by first | exact wp_eChain .. | rfl | (apply wp_eChain <;> assumption)
theorem z_tVal {e : Ev} {s : Store} {Θ : Bool → Store → Prop} {Ξ : Xc → Store → Prop} (m : EM) : wz (tVal m e) s Θ Ξ = wz (m e) s (fun d s => wz (tru d) s Θ Ξ) Ξ := by first | exact wp_tVal .. | rfl | (apply wp_tVal <;> assumption)
theorem z_tAnd {e : Ev} {s : Store} {Θ : Bool → Store → Prop} {Ξ : Xc → Store → Prop} (a b : TM) : wz (tAnd' a b e) s Θ Ξ = wz (a e) s (fun k s => if k = true then wz (b e) s Θ Ξ else Θ false s) Ξ := by first | exact wp_tAnd .. | rfl | (apply wp_tAnd <;> assumption)
theorem z_tOr {e : Ev} {s : Store} {Θ : Bool → Store → Prop} {Ξ : Xc → Store → Prop} (a b : TM) : wz (tOr' a b e) s Θ Ξ = wz (a e) s (fun k s => if k = true then Θ true s else wz (b e) s Θ Ξ) Ξ := by first | exact wp_tOr .. | rfl | (apply wp_tOr <;> assumption)
theorem z_tNot {e : Ev} {s : Store} {Θ : Bool → Store → Prop} {Ξ : Xc → Store → Prop} (a : TM) : wz (tNot' a e) s Θ Ξ = wz (a e) s (fun k s => Θ (!k) s) Ξ := by first | exact wp_tNot .. | rfl | (apply wp_tNot <;> assumption)
theorem z_eAnd {e : Ev} {s : Store} {Φ : D → Store → Prop} {Ξ : Xc → Store → Prop} (a b : EM) : wz (eAnd a b e) s Φ Ξ = wz (a e) s (fun x s => wz (tru x) s (fun k s => if k = true then wz (b e) s Φ Ξ else Φ x s) Ξ) Ξ := by first | exact wp_eAnd .. | rfl | (apply wp_eAnd <;> assumption)
theorem z_eOr {e : Ev} {s : Store} {Φ : D → Store → Prop} {Ξ : Xc → Store → Prop} (a b : EM) : wz (eOr a b e) s Φ Ξ = wz (a e) s (fun x s => wz (tru x) s (fun k s => if k = true then Φ x s else wz (b e) s Φ Ξ) Ξ) Ξ := by first | exact wp_eOr .. | rfl | (apply wp_eOr <;> assumption)
theorem z_eNot {e : Ev} {s : Store} {Φ : D → Store → Prop} {Ξ : Xc → Store → Prop} (a : EM) : wz (eNot a e) s Φ Ξ = wz (a e) s (fun x s => wz (tru x) s (fun k s => Φ (.bl (!k)) s) Ξ) Ξ := by first | exact wp_eNot .. | rfl | (apply wp_eNot <;> assumption)
theorem z_eIf {e : Ev} {s : Store} {Φ : D → Store → Prop} {Ξ : Xc → Store → Prop} (t : TM) (a b : EM) : wz (eIf t a b e) s Φ Ξ = wz (t e) s (fun k s => if k = true then wz (a e) s Φ Ξ else wz (b e) s Φ Ξ) Ξ := by first | exact wp_eIf .. | rfl | (apply wp_eIf <;> assumption)
theorem z_eMeth {e : Ev} {s : Store} {Φ : D → Store → Prop} {Ξ : Xc → Store → Prop} (g : D → D → M D) (a b : EM) : wz (eMeth g a b e) s Φ Ξ = wz (a e) s (fun x s => wz (asS x) s (fun x s => wz (b e) s (fun y s => wz (g x y) s Φ Ξ) Ξ) Ξ) Ξ := by first | exact wp_eMeth .. | rfl | (apply wp_eMeth <;> assumption)
theorem z_iSeq {e : Ev} {s : Store} {Ψ : List D → Store → Prop} {Ξ : Xc → Store → Prop} (m : EM) : wz (iSeq m e) s Ψ Ξ = wz (m e) s (fun d s => wz (seqOf d) s Ψ Ξ) Ξ := by first | exact wp_iSeq .. | rfl | (apply wp_iSeq <;> assumption)
theorem z_iRng {e : Ev} {s : Store} {Ψ : List D → Store → Prop} {Ξ : Xc → Store → Prop} (m : EM) : wz (iRng m e) s Ψ Ξ = wz (m e) s (fun d s => wz (rng1 d) s Ψ Ξ) Ξ := by first | exact wp_iRng .. | rfl | (apply wp_iRng <;> assumption)
theorem z_iRng2 {e : Ev} {s : Store} {Ψ : List D → Store → Prop} {Ξ : Xc → Store → Prop} (a b : EM) : wz (iRng2' a b e) s Ψ Ξ = wz (a e) s (fun x s => wz (b e) s (fun y s => wz (rng2 x y) s Ψ Ξ) Ξ) Ξ := by first | exact wp_iRng2 .. | rfl | (apply wp_iRng2 <;> assumption)
theorem z_iRevs {e : Ev} {s : Store} {Ψ : List D → Store → Prop} {Ξ : Xc → Store → Prop} (m : EM) : wz (iRevs m e) s Ψ Ξ = wz (m e) s (fun d s => wz (revOf d) s Ψ Ξ) Ξ := by first | exact wp_iRevs .. | rfl | (apply wp_iRevs <;> assumption)
theorem z_eComp {e : Ev} {s : Store} {Φ : D → Store → Prop} {Ξ : Xc → Store → Prop} (sl : List Nat) (it : LM) (g : GM) (c : TM) (t : EM) : wz (eComp sl it g c t e) s Φ Ξ = wz (it e) s (fun ds s => wz (compM sl g c t e ds) s (fun ys s => Φ (.lst ys) s) Ξ) Ξ := by first | exact wp_eComp .. | rfl | (apply wp_eComp <;> assumption)
theorem z_cYes {e : Ev} {s : Store} {Θ : Bool → Store → Prop} {Ξ : Xc → Store → Prop} : wz (cYes e) s Θ Ξ = Θ true s := by first | exact wp_cYes .. | rfl | (apply wp_cYes <;> assumption)
theorem z_unB {s : Store} {Θ : Bool → Store → Prop} {Ξ : Xc → Store → Prop} (b : Bool) : wz (unB (.bl b)) s Θ Ξ = Θ b s := by first | exact wp_unB .. | rfl | (apply wp_unB <;> assumption)
theorem z_asI {s : Store} {Ξ : Xc → Store → Prop} (i : Int) {Φ : Option Int → Store → Prop} : wz (asI (.int i)) s Φ Ξ = Φ (some i) s := by first | exact wp_asI .. | rfl | (apply wp_asI <;> assumption)
theorem z_asS {s : Store} {Φ : D → Store → Prop} {Ξ : Xc → Store → Prop} (x : Tx) : wz (asS (.str x)) s Φ Ξ = Φ (.str x) s := by first | exact wp_asS .. | rfl | (apply wp_asS <;> assumption)
theorem z_tru_bl {s : Store} {Θ : Bool → Store → Prop} {Ξ : Xc → Store → Prop} (b : Bool) : wz (tru (.bl b)) s Θ Ξ = Θ b s := by first | exact wp_tru_bl .. | rfl | (apply wp_tru_bl <;> assumption)
theorem z_tru_non {s : Store} {Θ : Bool → Store → Prop} {Ξ : Xc → Store → Prop} : wz (tru .non) s Θ Ξ = Θ false s := by first | exact wp_tru_non .. | rfl | (apply wp_tru_non <;> assumption)
theorem z_tru_int {s : Store} {Θ : Bool → Store → Prop} {Ξ : Xc → Store → Prop} (i : Int) : wz (tru (.int i)) s Θ Ξ = Θ (i != 0) s := by first | exact wp_tru_int .. | rfl | (apply wp_tru_int <;> assumption)
theorem z_tru_str {s : Store} {Θ : Bool → Store → Prop} {Ξ : Xc → Store → Prop} (x : Tx) : wz (tru (.str x)) s Θ Ξ = Θ (!x.isEmpty) s := by first | exact wp_tru_str .. | rfl | (apply wp_tru_str <;> assumption)
theorem z_tru_lst {s : Store} {Θ : Bool → Store → Prop} {Ξ : Xc → Store → Prop} (x : List D) : wz (tru (.lst x)) s Θ Ξ = Θ (!x.isEmpty) s := by first | exact wp_tru_lst .. | rfl | (apply wp_tru_lst <;> assumption)
theorem z_tru_tup {s : Store} {Θ : Bool → Store → Prop} {Ξ : Xc → Store → Prop} (x : List D) : wz (tru (.tup x)) s Θ Ξ = Θ (!x.isEmpty) s := by first | exact wp_tru_tup .. | rfl | (apply wp_tru_tup <;> assumption)
theorem z_add_int {s : Store} {Φ : D → Store → Prop} {Ξ : Xc → Store → Prop} (a b : Int) : wz (opAdd (.int a) (.int b)) s Φ Ξ = Φ (.int (a + b)) s := by first | exact wp_add_int .. | rfl | (apply wp_add_int <;> assumption)
theorem z_sub_int {s : Store} {Φ : D → Store → Prop} {Ξ : Xc → Store → Prop} (a b : Int) : wz (opSub (.int a) (.int b)) s Φ Ξ = Φ (.int (a - b)) s := by first | exact wp_sub_int .. | rfl | (apply wp_sub_int <;> assumption)
theorem z_neg_int {s : Store} {Φ : D → Store → Prop} {Ξ : Xc → Store → Prop} (a : Int) : wz (opNeg (.int a)) s Φ Ξ = Φ (.int (-a)) s := by first | exact wp_neg_int .. | rfl | (apply wp_neg_int <;> assumption)
theorem z_add_str {s : Store} {Φ : D → Store → Prop} {Ξ : Xc → Store → Prop} (a b : Tx) (h : a.length + b.length ≤ 16000000) : wz (opAdd (.str a) (.str b)) s Φ Ξ = Φ (.str (a ++ b)) s := by first | exact wp_add_str .. | rfl | (apply wp_add_str <;> assumption)
theorem z_add_lst {s : Store} {Φ : D → Store → Prop} {Ξ : Xc → Store → Prop} (a b : List D) (h : a.length + b.length ≤ 16000000) : wz (opAdd (.lst a) (.lst b)) s Φ Ξ = Φ (.lst (a ++ b)) s := by first | exact wp_add_lst .. | rfl | (apply wp_add_lst <;> assumption)
theorem z_add_tup {s : Store} {Φ : D → Store → Prop} {Ξ : Xc → Store → Prop} (a b : List D) (h : a.length + b.length ≤ 16000000) : wz (opAdd (.tup a) (.tup b)) s Φ Ξ = Φ (.tup (a ++ b)) s := by first | exact wp_add_tup .. | rfl | (apply wp_add_tup <;> assumption)
theorem z_mul_int {s : Store} {Φ : D → Store → Prop} {Ξ : Xc → Store → Prop} (a b : Int) (h : (-(2 ^ 64) < a ∧ a < 2 ^ 64) ∨ (-(2 ^ 64) < b ∧ b < 2 ^ 64)) : wz (opMul (.int a) (.int b)) s Φ Ξ = Φ (.int (a * b)) s := by first | exact wp_mul_int .. | rfl | (apply wp_mul_int <;> assumption)
theorem z_mul_str {s : Store} {Φ : D → Store → Prop} {Ξ : Xc → Store → Prop} (a : Tx) (b : Int) (h : b ≤ 1000 ∧ -1000 ≤ b ∧ a.length ≤ 1000) : wz (opMul (.str a) (.int b)) s Φ Ξ = Φ (.str (repL b.toNat a)) s := by first | exact wp_mul_str .. | rfl | (apply wp_mul_str <;> assumption)
theorem z_mul_lst {s : Store} {Φ : D → Store → Prop} {Ξ : Xc → Store → Prop} (a : List D) (b : Int) (h : b ≤ 1000 ∧ -1000 ≤ b ∧ a.length ≤ 1000) : wz (opMul (.lst a) (.int b)) s Φ Ξ = Φ (.lst (repL b.toNat a)) s := by first | exact wp_mul_lst .. | rfl | (apply wp_mul_lst <;> assumption)
theorem z_mod_int {s : Store} {Φ : D → Store → Prop} {Ξ : Xc → Store → Prop} (a b : Int) (h : b ≠ 0) : wz (opMod (.int a) (.int b)) s Φ Ξ = Φ (.int (a.fmod b)) s := by first | exact wp_mod_int .. | rfl | (apply wp_mod_int <;> assumption)
theorem z_div_int {s : Store} {Φ : D → Store → Prop} {Ξ : Xc → Store → Prop} (a b : Int) (h : b ≠ 0) (h2 : b.natAbs < 1073741824) : wz (opDiv (.int a) (.int b)) s Φ Ξ = Φ (.int (a.fdiv b)) s := by first | exact wp_div_int .. | rfl | (apply wp_div_int <;> assumption)
theorem z_pow_int {s : Store} {Φ : D → Store → Prop} {Ξ : Xc → Store → Prop} (a b : Int) (h : 0 ≤ b ∧ b ≤ 1000000 ∧ a.natAbs < 2 ^ 64) : wz (opPow (.int a) (.int b)) s Φ Ξ = Φ (.int (a ^ b.toNat)) s := by first | exact wp_pow_int .. | rfl | (apply wp_pow_int <;> assumption)
theorem z_lt_int {s : Store} {Φ : D → Store → Prop} {Ξ : Xc → Store → Prop} (a b : Int) : wz (opLt (.int a) (.int b)) s Φ Ξ = Φ (.bl (decide (a < b))) s := by first | exact wp_lt_int .. | rfl | (apply wp_lt_int <;> assumption)
theorem z_le_int {s : Store} {Φ : D → Store → Prop} {Ξ : Xc → Store → Prop} (a b : Int) : wz (opLe (.int a) (.int b)) s Φ Ξ = Φ (.bl (decide (a ≤ b))) s := by first | exact wp_le_int .. | rfl | (apply wp_le_int <;> assumption)
theorem z_gt_int {s : Store} {Φ : D → Store → Prop} {Ξ : Xc → Store → Prop} (a b : Int) : wz (opGt (.int a) (.int b)) s Φ Ξ = Φ (.bl (decide (b < a))) s := by first | exact wp_gt_int .. | rfl | (apply wp_gt_int <;> assumption)
theorem z_ge_int {s : Store} {Φ : D → Store → Prop} {Ξ : Xc → Store → Prop} (a b : Int) : wz (opGe (.int a) (.int b)) s Φ Ξ = Φ (.bl (decide (b ≤ a))) s := by first | exact wp_ge_int .. | rfl | (apply wp_ge_int <;> assumption)
theorem z_eq {s : Store} {Φ : D → Store → Prop} {Ξ : Xc → Store → Prop} {d d' : D} (h1 : d.okD = true) (h2 : d'.okD = true) : wz (opEq d d') s Φ Ξ = Φ (.bl (D.eqv d d')) s := by first | exact wp_eq .. | rfl | (apply wp_eq <;> assumption)
theorem z_ne {s : Store} {Φ : D → Store → Prop} {Ξ : Xc → Store → Prop} {d d' : D} (h1 : d.okD = true) (h2 : d'.okD = true) : wz (opNe d d') s Φ Ξ = Φ (.bl (!D.eqv d d')) s := by first | exact wp_ne .. | rfl | (apply wp_ne <;> assumption)
theorem z_is_non {s : Store} {Φ : D → Store → Prop} {Ξ : Xc → Store → Prop} (d : D) : wz (opIs d .non) s Φ Ξ = Φ (.bl (isNon d)) s := by first | exact wp_is_non .. | rfl | (apply wp_is_non <;> assumption)
theorem z_is_bl {s : Store} {Φ : D → Store → Prop} {Ξ : Xc → Store → Prop} (a b : Bool) : wz (opIs (.bl a) (.bl b)) s Φ Ξ = Φ (.bl (decide (a = b))) s := by first | exact wp_is_bl .. | rfl | (apply wp_is_bl <;> assumption)
theorem z_isnot_non {s : Store} {Φ : D → Store → Prop} {Ξ : Xc → Store → Prop} (d : D) : wz (opIsNot d .non) s Φ Ξ = Φ (.bl (!isNon d)) s := by first | exact wp_isnot_non .. | rfl | (apply wp_isnot_non <;> assumption)
theorem z_isnot_bl {s : Store} {Φ : D → Store → Prop} {Ξ : Xc → Store → Prop} (a b : Bool) : wz (opIsNot (.bl a) (.bl b)) s Φ Ξ = Φ (.bl (!decide (a = b))) s := by first | exact wp_isnot_bl .. | rfl | (apply wp_isnot_bl <;> assumption)
theorem z_in_sign {s : Store} {Φ : D → Store → Prop} {Ξ : Xc → Store → Prop} (c : Char) (b : Tx) : wz (opIn (.str [c]) (.str b)) s Φ Ξ = Φ (.bl (decide (c ∈ b))) s := by first | exact wp_in_sign .. | rfl | (apply wp_in_sign <;> assumption)
theorem z_nin_sign {s : Store} {Φ : D → Store → Prop} {Ξ : Xc → Store → Prop} (c : Char) (b : Tx) : wz (opNotIn (.str [c]) (.str b)) s Φ Ξ = Φ (.bl (!decide (c ∈ b))) s := by first | exact wp_nin_sign .. | rfl | (apply wp_nin_sign <;> assumption)
theorem z_len_str {s : Store} {Φ : D → Store → Prop} {Ξ : Xc → Store → Prop} (x : Tx) : wz (fLen (.str x)) s Φ Ξ = Φ (.int x.length) s := by first | exact wp_len_str .. | rfl | (apply wp_len_str <;> assumption)
theorem z_len_lst {s : Store} {Φ : D → Store → Prop} {Ξ : Xc → Store → Prop} (x : List D) : wz (fLen (.lst x)) s Φ Ξ = Φ (.int x.length) s := by first | exact wp_len_lst .. | rfl | (apply wp_len_lst <;> assumption)
theorem z_len_tup {s : Store} {Φ : D → Store → Prop} {Ξ : Xc → Store → Prop} (x : List D) : wz (fLen (.tup x)) s Φ Ξ = Φ (.int x.length) s := by first | exact wp_len_tup .. | rfl | (apply wp_len_tup <;> assumption)
theorem z_ix_lst {s : Store} {Φ : D → Store → Prop} {Ξ : Xc → Store → Prop} {xs : List D} {i : Int} {d : D} (h : L2.atI xs i = some d) : wz (opIx (.lst xs) (.int i)) s Φ Ξ = Φ d s := by first | exact wp_ix_lst .. | rfl | (apply wp_ix_lst <;> assumption)
theorem z_ix_tup {s : Store} {Φ : D → Store → Prop} {Ξ : Xc → Store → Prop} {xs : List D} {i : Int} {d : D} (h : L2.atI xs i = some d) : wz (opIx (.tup xs) (.int i)) s Φ Ξ = Φ d s := by first | exact wp_ix_tup .. | rfl | (apply wp_ix_tup <;> assumption)
theorem z_ix_str {s : Store} {Φ : D → Store → Prop} {Ξ : Xc → Store → Prop} {xs : Tx} {i : Int} {c : Char} (h : L2.atI xs i = some c) : wz (opIx (.str xs) (.int i)) s Φ Ξ = Φ (.str [c]) s := by first | exact wp_ix_str .. | rfl | (apply wp_ix_str <;> assumption)
theorem z_sl_lst {s : Store} {Φ : D → Store → Prop} {Ξ : Xc → Store → Prop} (xs : List D) (l h : Option Int) : wz (opSl (.lst xs) l h) s Φ Ξ = Φ (.lst (cutL xs l h)) s := by first | exact wp_sl_lst .. | rfl | (apply wp_sl_lst <;> assumption)
theorem z_sl_tup {s : Store} {Φ : D → Store → Prop} {Ξ : Xc → Store → Prop} (xs : List D) (l h : Option Int) : wz (opSl (.tup xs) l h) s Φ Ξ = Φ (.tup (cutL xs l h)) s := by first | exact wp_sl_tup .. | rfl | (apply wp_sl_tup <;> assumption)
theorem z_sl_str {s : Store} {Φ : D → Store → Prop} {Ξ : Xc → Store → Prop} (xs : Tx) (l h : Option Int) : wz (opSl (.str xs) l h) s Φ Ξ = Φ (.str (cutL xs l h)) s := by first | exact wp_sl_str .. | rfl | (apply wp_sl_str <;> assumption)
theorem z_seq_lst {s : Store} {Ψ : List D → Store → Prop} {Ξ : Xc → Store → Prop} (xs : List D) : wz (seqOf (.lst xs)) s Ψ Ξ = Ψ xs s := by first | exact wp_seq_lst .. | rfl | (apply wp_seq_lst <;> assumption)
theorem z_seq_tup {s : Store} {Ψ : List D → Store → Prop} {Ξ : Xc → Store → Prop} (xs : List D) : wz (seqOf (.tup xs)) s Ψ Ξ = Ψ xs s := by first | exact wp_seq_tup .. | rfl | (apply wp_seq_tup <;> assumption)
theorem z_seq_str {s : Store} {Ψ : List D → Store → Prop} {Ξ : Xc → Store → Prop} (xs : Tx) : wz (seqOf (.str xs)) s Ψ Ξ = Ψ (signs xs) s := by first | exact wp_seq_str .. | rfl | (apply wp_seq_str <;> assumption)
theorem z_rng1 {s : Store} {Ψ : List D → Store → Prop} {Ξ : Xc → Store → Prop} {n : Int} (h : -1000000 ≤ n ∧ n ≤ 1000000) : wz (rng1 (.int n)) s Ψ Ξ = Ψ (nums 0 n.toNat) s := by first | exact wp_rng1 .. | rfl | (apply wp_rng1 <;> assumption)
theorem z_rng2 {s : Store} {Ψ : List D → Store → Prop} {Ξ : Xc → Store → Prop} {n m : Int} (h : -1000000 ≤ n ∧ n ≤ 1000000) (h2 : -1000000 ≤ m ∧ m ≤ 1000000) : wz (rng2 (.int n) (.int m)) s Ψ Ξ = Ψ (nums n (m - n).toNat) s := by first | exact wp_rng2 .. | rfl | (apply wp_rng2 <;> assumption)
theorem z_all {s : Store} {Φ : D → Store → Prop} {Ξ : Xc → Store → Prop} {ds : List D} {bs : List Bool} (h : boolsOf ds = some bs) : wz (fAll (.lst ds)) s Φ Ξ = Φ (.bl (bs.all id)) s := by first | exact wp_all .. | rfl | (apply wp_all <;> assumption)
theorem z_any {s : Store} {Φ : D → Store → Prop} {Ξ : Xc → Store → Prop} {ds : List D} {bs : List Bool} (h : boolsOf ds = some bs) : wz (fAny (.lst ds)) s Φ Ξ = Φ (.bl (bs.any id)) s := by first | exact wp_any .. | rfl | (apply wp_any <;> assumption)
theorem z_ix_ref {s : Store} {Φ : D → Store → Prop} {Ξ : Xc → Store → Prop} {n : Nat} {j : Int} {d : D} {xs : List D} (h : s[n]? = some (.lst xs)) (h2 : L2.atI xs j = some d) : wz (opIx (.ref n) (.int j)) s Φ Ξ = Φ d s := by first | exact wp_ix_ref .. | rfl | (apply wp_ix_ref <;> assumption)
theorem z_iZp  {e : Ev} {s : Store} {Ψ : List D → Store → Prop} {Ξ : Xc → Store → Prop} (a b : EM) : wz (iZp a b e) s Ψ Ξ = wz (a e) s (fun x s => wz (b e) s (fun y s => wz (zipL x y) s Ψ Ξ) Ξ) Ξ := by first | exact wp_iZp .. | rfl | (apply wp_iZp <;> assumption)
theorem z_zip_lst  {s : Store} {Ψ : List D → Store → Prop} {Ξ : Xc → Store → Prop} (a b : List D) : wz (zipL (.lst a) (.lst b)) s Ψ Ξ = Ψ (pairs a b) s := by first | exact wp_zip_lst .. | rfl | (apply wp_zip_lst <;> assumption)
theorem z_zip_tup  {s : Store} {Ψ : List D → Store → Prop} {Ξ : Xc → Store → Prop} (a b : List D) : wz (zipL (.tup a) (.tup b)) s Ψ Ξ = Ψ (pairs a b) s := by first | exact wp_zip_tup .. | rfl | (apply wp_zip_tup <;> assumption)
theorem z_eMthL  {e : Ev} {s : Store} {Φ : D → Store → Prop} {Ξ : Xc → Store → Prop} (g : D → D → M D) (a b : EM) : wz (eMthL g a b e) s Φ Ξ = wz (a e) s (fun x s => wz (asLs x) s (fun x s => wz (b e) s (fun y s => wz (g x y) s Φ Ξ) Ξ) Ξ) Ξ := by first | exact wp_eMthL .. | rfl | (apply wp_eMthL <;> assumption)
theorem z_iRngD  {e : Ev} {s : Store} {Ψ : List D → Store → Prop} {Ξ : Xc → Store → Prop} (a b : EM) : wz (iRngD a b e) s Ψ Ξ = wz (a e) s (fun x s => wz (b e) s (fun y s => wz (rngD x y) s Ψ Ξ) Ξ) Ξ := by first | exact wp_iRngD .. | rfl | (apply wp_iRngD <;> assumption)
theorem z_rngD  {s : Store} {Ψ : List D → Store → Prop} {Ξ : Xc → Store → Prop} {n m : Int} (h : -1000000 ≤ n ∧ n ≤ 1000000) (h2 : -1000000 ≤ m ∧ m ≤ 1000000) : wz (rngD (.int n) (.int m)) s Ψ Ξ = Ψ (numsD n (n - m).toNat) s := by first | exact wp_rngD .. | rfl | (apply wp_rngD <;> assumption)
theorem z_kNil  {e : Ev} {s : Store} {Ψ : List (Tx × D) → Store → Prop} {Ξ : Xc → Store → Prop} : wz (kNil e) s Ψ Ξ = Ψ [] s := by first | exact wp_kNil .. | rfl | (apply wp_kNil <;> assumption)
theorem z_asT  {x : Tx} {s : Store} {Ψ : Tx → Store → Prop} {Ξ : Xc → Store → Prop} : wz (asT (.str x)) s Ψ Ξ = Ψ x s := by first | exact wp_asT .. | rfl | (apply wp_asT <;> assumption)
theorem z_kCons  {e : Ev} {s : Store} {Ψ : List (Tx × D) → Store → Prop} {Ξ : Xc → Store → Prop} (a b : EM) (r : KM) : wz (kCons a b r e) s Ψ Ξ = wz (a e) s (fun x s => wz (asT x) s (fun x s => wz (b e) s (fun y s => wz (r e) s (fun l s => Ψ ((x, y) :: l) s) Ξ) Ξ) Ξ) Ξ := by first | exact wp_kCons .. | rfl | (apply wp_kCons <;> assumption)
theorem z_eDisp  {e : Ev} {s : Store} {Φ : D → Store → Prop} {Ξ : Xc → Store → Prop} (k : KM) : wz (eDisp k e) s Φ Ξ = wz (k e) s (fun l s => wz (mkDic l) s Φ Ξ) Ξ := by first | exact wp_eDisp .. | rfl | (apply wp_eDisp <;> assumption)
theorem z_mkDic  {l : List (Tx × D)} {s : Store} {Φ : D → Store → Prop} {Ξ : Xc → Store → Prop} (h : (l.map (·.1)).Nodup ∧ l.length ≤ 15) : wz (mkDic l) s Φ Ξ = Φ (.dic (l.map fun p => .str p.1) (l.map fun p => p.2)) s := by first | exact wp_mkDic .. | rfl | (apply wp_mkDic <;> assumption)
theorem z_eGet  {e : Ev} {s : Store} {Φ : D → Store → Prop} {Ξ : Xc → Store → Prop} (o a b : EM) : wz (eGet o a b e) s Φ Ξ = wz (o e) s (fun x s => wz (a e) s (fun y s => wz (b e) s (fun z s => wz (fGet x y z) s Φ Ξ) Ξ) Ξ) Ξ := by first | exact wp_eGet .. | rfl | (apply wp_eGet <;> assumption)
theorem z_asD1  {ks vs : List D} {s : Store} {Φ : D → Store → Prop} {Ξ : Xc → Store → Prop} : wz (asD1 (.dic ks vs)) s Φ Ξ = Φ (.dic ks vs) s := by first | exact wp_asD1 .. | rfl | (apply wp_asD1 <;> assumption)
theorem z_iRngS  {e : Ev} {s : Store} {Ψ : List D → Store → Prop} {Ξ : Xc → Store → Prop} (a b c : EM) : wz (iRngS a b c e) s Ψ Ξ = wz (a e) s (fun x s => wz (b e) s (fun y s => wz (c e) s (fun z s => wz (rngS x y z) s Ψ Ξ) Ξ) Ξ) Ξ := by first | exact wp_iRngS .. | rfl | (apply wp_iRngS <;> assumption)
theorem z_rngS  {s : Store} {Ψ : List D → Store → Prop} {Ξ : Xc → Store → Prop} {i j c : Int} (h : -1000000 ≤ i ∧ i ≤ 1000000 ∧ -1000000 ≤ j ∧ j ≤ 1000000 ∧ 1 ≤ c ∧ c ≤ 1000000) : wz (rngS (.int i) (.int j) (.int c)) s Ψ Ξ = Ψ (numsS i c (if i < j then ((j - i - 1) / c + 1).toNat else 0)) s := by first | exact wp_rngS .. | rfl | (apply wp_rngS <;> assumption)
theorem z_eMth0  {e : Ev} {s : Store} {Φ : D → Store → Prop} {Ξ : Xc → Store → Prop} (f : D → M D) (a : EM) : wz (eMth0 f a e) s Φ Ξ = wz (a e) s (fun x s => wz (asS x) s (fun x s => wz (f x) s Φ Ξ) Ξ) Ξ := by first | exact wp_eMth0 .. | rfl | (apply wp_eMth0 <;> assumption)
theorem z_addL  {a b : List D} {s : Store} {Φ : D → Store → Prop} {Ξ : Xc → Store → Prop} (h : a.length + b.length ≤ 16000000) : wz (opAddL (.lst a) (.lst b)) s Φ Ξ = Φ (.lst (a ++ b)) s := by first | exact wp_addL .. | rfl | (apply wp_addL <;> assumption)
theorem z_fIs {s : Store} {Φ : D → Store → Prop} {Ξ : Xc → Store → Prop} {n : String} {d : D} {b : Bool} (h : isT n d = some b) : wz (fIs n d) s Φ Ξ = Φ (.bl b) s := by first | exact wp_fIs .. | rfl | (apply wp_fIs <;> assumption)
theorem z_eq_int {s : Store} {Φ : D → Store → Prop} {Ξ : Xc → Store → Prop} (a b : Int) : wz (opEq (.int a) (.int b)) s Φ Ξ = Φ (.bl (a == b)) s := by first | exact wp_eq_int .. | rfl | (apply wp_eq_int <;> assumption)
theorem z_eq_str {s : Store} {Φ : D → Store → Prop} {Ξ : Xc → Store → Prop} (a b : Tx) : wz (opEq (.str a) (.str b)) s Φ Ξ = Φ (.bl (a == b)) s := by first | exact wp_eq_str .. | rfl | (apply wp_eq_str <;> assumption)
theorem z_eq_bl {s : Store} {Φ : D → Store → Prop} {Ξ : Xc → Store → Prop} (a b : Bool) : wz (opEq (.bl a) (.bl b)) s Φ Ξ = Φ (.bl (a == b)) s := by first | exact wp_eq_bl .. | rfl | (apply wp_eq_bl <;> assumption)
theorem z_ne_bl {s : Store} {Φ : D → Store → Prop} {Ξ : Xc → Store → Prop} (a b : Bool) : wz (opNe (.bl a) (.bl b)) s Φ Ξ = Φ (.bl (!(a == b))) s := by first | exact wp_ne_bl .. | rfl | (apply wp_ne_bl <;> assumption)
theorem z_ne_int {s : Store} {Φ : D → Store → Prop} {Ξ : Xc → Store → Prop} (a b : Int) : wz (opNe (.int a) (.int b)) s Φ Ξ = Φ (.bl (!(a == b))) s := by first | exact wp_ne_int .. | rfl | (apply wp_ne_int <;> assumption)
theorem z_ix_lst0 {s : Store} {Φ : D → Store → Prop} {Ξ : Xc → Store → Prop} (x : D) (xs : List D) : wz (opIx (.lst (x :: xs)) (.int 0)) s Φ Ξ = Φ x s := by first | exact wp_ix_lst0 .. | rfl | (apply wp_ix_lst0 <;> assumption)
theorem z_ix_tup0 {s : Store} {Φ : D → Store → Prop} {Ξ : Xc → Store → Prop} (x : D) (xs : List D) : wz (opIx (.tup (x :: xs)) (.int 0)) s Φ Ξ = Φ x s := by first | exact wp_ix_tup0 .. | rfl | (apply wp_ix_tup0 <;> assumption)
theorem z_ix_tup1 {s : Store} {Φ : D → Store → Prop} {Ξ : Xc → Store → Prop} (x y : D) (xs : List D) : wz (opIx (.tup (x :: y :: xs)) (.int 1)) s Φ Ξ = Φ y s := by first | exact wp_ix_tup1 .. | rfl | (apply wp_ix_tup1 <;> assumption)
theorem z_ix_tup2 {s : Store} {Φ : D → Store → Prop} {Ξ : Xc → Store → Prop} (x y z : D) (xs : List D) : wz (opIx (.tup (x :: y :: z :: xs)) (.int 2)) s Φ Ξ = Φ z s := by first | exact wp_ix_tup2 .. | rfl | (apply wp_ix_tup2 <;> assumption)
theorem z_is_str_non {s : Store} {Φ : D → Store → Prop} {Ξ : Xc → Store → Prop}  : wz (fIs "str" (.non )) s Φ Ξ = Φ (.bl false) s := rfl
theorem z_is_str_bl {s : Store} {Φ : D → Store → Prop} {Ξ : Xc → Store → Prop} (x : Bool) : wz (fIs "str" (.bl x)) s Φ Ξ = Φ (.bl false) s := rfl
theorem z_is_str_int {s : Store} {Φ : D → Store → Prop} {Ξ : Xc → Store → Prop} (x : Int) : wz (fIs "str" (.int x)) s Φ Ξ = Φ (.bl false) s := rfl
theorem z_is_str_str {s : Store} {Φ : D → Store → Prop} {Ξ : Xc → Store → Prop} (x : Tx) : wz (fIs "str" (.str x)) s Φ Ξ = Φ (.bl true) s := rfl
theorem z_is_str_tup {s : Store} {Φ : D → Store → Prop} {Ξ : Xc → Store → Prop} (x : List D) : wz (fIs "str" (.tup x)) s Φ Ξ = Φ (.bl false) s := rfl
theorem z_is_str_lst {s : Store} {Φ : D → Store → Prop} {Ξ : Xc → Store → Prop} (x : List D) : wz (fIs "str" (.lst x)) s Φ Ξ = Φ (.bl false) s := rfl
theorem z_is_str_dic {s : Store} {Φ : D → Store → Prop} {Ξ : Xc → Store → Prop} (x y : List D) : wz (fIs "str" (.dic x y)) s Φ Ξ = Φ (.bl false) s := rfl
theorem z_is_int_non {s : Store} {Φ : D → Store → Prop} {Ξ : Xc → Store → Prop}  : wz (fIs "int" (.non )) s Φ Ξ = Φ (.bl false) s := rfl
theorem z_is_int_bl {s : Store} {Φ : D → Store → Prop} {Ξ : Xc → Store → Prop} (x : Bool) : wz (fIs "int" (.bl x)) s Φ Ξ = Φ (.bl true) s := rfl
theorem z_is_int_int {s : Store} {Φ : D → Store → Prop} {Ξ : Xc → Store → Prop} (x : Int) : wz (fIs "int" (.int x)) s Φ Ξ = Φ (.bl true) s := rfl
theorem z_is_int_str {s : Store} {Φ : D → Store → Prop} {Ξ : Xc → Store → Prop} (x : Tx) : wz (fIs "int" (.str x)) s Φ Ξ = Φ (.bl false) s := rfl
theorem z_is_int_tup {s : Store} {Φ : D → Store → Prop} {Ξ : Xc → Store → Prop} (x : List D) : wz (fIs "int" (.tup x)) s Φ Ξ = Φ (.bl false) s := rfl
theorem z_is_int_lst {s : Store} {Φ : D → Store → Prop} {Ξ : Xc → Store → Prop} (x : List D) : wz (fIs "int" (.lst x)) s Φ Ξ = Φ (.bl false) s := rfl
theorem z_is_int_dic {s : Store} {Φ : D → Store → Prop} {Ξ : Xc → Store → Prop} (x y : List D) : wz (fIs "int" (.dic x y)) s Φ Ξ = Φ (.bl false) s := rfl
theorem z_is_bool_non {s : Store} {Φ : D → Store → Prop} {Ξ : Xc → Store → Prop}  : wz (fIs "bool" (.non )) s Φ Ξ = Φ (.bl false) s := rfl
theorem z_is_bool_bl {s : Store} {Φ : D → Store → Prop} {Ξ : Xc → Store → Prop} (x : Bool) : wz (fIs "bool" (.bl x)) s Φ Ξ = Φ (.bl true) s := rfl
theorem z_is_bool_int {s : Store} {Φ : D → Store → Prop} {Ξ : Xc → Store → Prop} (x : Int) : wz (fIs "bool" (.int x)) s Φ Ξ = Φ (.bl false) s := rfl
theorem z_is_bool_str {s : Store} {Φ : D → Store → Prop} {Ξ : Xc → Store → Prop} (x : Tx) : wz (fIs "bool" (.str x)) s Φ Ξ = Φ (.bl false) s := rfl
theorem z_is_bool_tup {s : Store} {Φ : D → Store → Prop} {Ξ : Xc → Store → Prop} (x : List D) : wz (fIs "bool" (.tup x)) s Φ Ξ = Φ (.bl false) s := rfl
theorem z_is_bool_lst {s : Store} {Φ : D → Store → Prop} {Ξ : Xc → Store → Prop} (x : List D) : wz (fIs "bool" (.lst x)) s Φ Ξ = Φ (.bl false) s := rfl
theorem z_is_bool_dic {s : Store} {Φ : D → Store → Prop} {Ξ : Xc → Store → Prop} (x y : List D) : wz (fIs "bool" (.dic x y)) s Φ Ξ = Φ (.bl false) s := rfl
theorem z_is_tuple_non {s : Store} {Φ : D → Store → Prop} {Ξ : Xc → Store → Prop}  : wz (fIs "tuple" (.non )) s Φ Ξ = Φ (.bl false) s := rfl
theorem z_is_tuple_bl {s : Store} {Φ : D → Store → Prop} {Ξ : Xc → Store → Prop} (x : Bool) : wz (fIs "tuple" (.bl x)) s Φ Ξ = Φ (.bl false) s := rfl
theorem z_is_tuple_int {s : Store} {Φ : D → Store → Prop} {Ξ : Xc → Store → Prop} (x : Int) : wz (fIs "tuple" (.int x)) s Φ Ξ = Φ (.bl false) s := rfl
theorem z_is_tuple_str {s : Store} {Φ : D → Store → Prop} {Ξ : Xc → Store → Prop} (x : Tx) : wz (fIs "tuple" (.str x)) s Φ Ξ = Φ (.bl false) s := rfl
theorem z_is_tuple_tup {s : Store} {Φ : D → Store → Prop} {Ξ : Xc → Store → Prop} (x : List D) : wz (fIs "tuple" (.tup x)) s Φ Ξ = Φ (.bl true) s := rfl
theorem z_is_tuple_lst {s : Store} {Φ : D → Store → Prop} {Ξ : Xc → Store → Prop} (x : List D) : wz (fIs "tuple" (.lst x)) s Φ Ξ = Φ (.bl false) s := rfl
theorem z_is_tuple_dic {s : Store} {Φ : D → Store → Prop} {Ξ : Xc → Store → Prop} (x y : List D) : wz (fIs "tuple" (.dic x y)) s Φ Ξ = Φ (.bl false) s := rfl
theorem z_is_list_non {s : Store} {Φ : D → Store → Prop} {Ξ : Xc → Store → Prop}  : wz (fIs "list" (.non )) s Φ Ξ = Φ (.bl false) s := rfl
theorem z_is_list_bl {s : Store} {Φ : D → Store → Prop} {Ξ : Xc → Store → Prop} (x : Bool) : wz (fIs "list" (.bl x)) s Φ Ξ = Φ (.bl false) s := rfl
theorem z_is_list_int {s : Store} {Φ : D → Store → Prop} {Ξ : Xc → Store → Prop} (x : Int) : wz (fIs "list" (.int x)) s Φ Ξ = Φ (.bl false) s := rfl
theorem z_is_list_str {s : Store} {Φ : D → Store → Prop} {Ξ : Xc → Store → Prop} (x : Tx) : wz (fIs "list" (.str x)) s Φ Ξ = Φ (.bl false) s := rfl
theorem z_is_list_tup {s : Store} {Φ : D → Store → Prop} {Ξ : Xc → Store → Prop} (x : List D) : wz (fIs "list" (.tup x)) s Φ Ξ = Φ (.bl false) s := rfl
theorem z_is_list_lst {s : Store} {Φ : D → Store → Prop} {Ξ : Xc → Store → Prop} (x : List D) : wz (fIs "list" (.lst x)) s Φ Ξ = Φ (.bl true) s := rfl
theorem z_is_list_dic {s : Store} {Φ : D → Store → Prop} {Ξ : Xc → Store → Prop} (x y : List D) : wz (fIs "list" (.dic x y)) s Φ Ξ = Φ (.bl false) s := rfl
theorem z_is2_tuplelist_non {s : Store} {Φ : D → Store → Prop} {Ξ : Xc → Store → Prop}  : wz (fIs2 "tuple" "list" (.non )) s Φ Ξ = Φ (.bl false) s := rfl
theorem z_is2_strbool_non {s : Store} {Φ : D → Store → Prop} {Ξ : Xc → Store → Prop}  : wz (fIs2 "str" "bool" (.non )) s Φ Ξ = Φ (.bl false) s := rfl
theorem z_is2_tuplelist_bl {s : Store} {Φ : D → Store → Prop} {Ξ : Xc → Store → Prop} (x : Bool) : wz (fIs2 "tuple" "list" (.bl x)) s Φ Ξ = Φ (.bl false) s := rfl
theorem z_is2_strbool_bl {s : Store} {Φ : D → Store → Prop} {Ξ : Xc → Store → Prop} (x : Bool) : wz (fIs2 "str" "bool" (.bl x)) s Φ Ξ = Φ (.bl true) s := rfl
theorem z_is2_tuplelist_int {s : Store} {Φ : D → Store → Prop} {Ξ : Xc → Store → Prop} (x : Int) : wz (fIs2 "tuple" "list" (.int x)) s Φ Ξ = Φ (.bl false) s := rfl
theorem z_is2_strbool_int {s : Store} {Φ : D → Store → Prop} {Ξ : Xc → Store → Prop} (x : Int) : wz (fIs2 "str" "bool" (.int x)) s Φ Ξ = Φ (.bl false) s := rfl
theorem z_is2_tuplelist_str {s : Store} {Φ : D → Store → Prop} {Ξ : Xc → Store → Prop} (x : Tx) : wz (fIs2 "tuple" "list" (.str x)) s Φ Ξ = Φ (.bl false) s := rfl
theorem z_is2_strbool_str {s : Store} {Φ : D → Store → Prop} {Ξ : Xc → Store → Prop} (x : Tx) : wz (fIs2 "str" "bool" (.str x)) s Φ Ξ = Φ (.bl true) s := rfl
theorem z_is2_tuplelist_tup {s : Store} {Φ : D → Store → Prop} {Ξ : Xc → Store → Prop} (x : List D) : wz (fIs2 "tuple" "list" (.tup x)) s Φ Ξ = Φ (.bl true) s := rfl
theorem z_is2_strbool_tup {s : Store} {Φ : D → Store → Prop} {Ξ : Xc → Store → Prop} (x : List D) : wz (fIs2 "str" "bool" (.tup x)) s Φ Ξ = Φ (.bl false) s := rfl
theorem z_is2_tuplelist_lst {s : Store} {Φ : D → Store → Prop} {Ξ : Xc → Store → Prop} (x : List D) : wz (fIs2 "tuple" "list" (.lst x)) s Φ Ξ = Φ (.bl true) s := rfl
theorem z_is2_strbool_lst {s : Store} {Φ : D → Store → Prop} {Ξ : Xc → Store → Prop} (x : List D) : wz (fIs2 "str" "bool" (.lst x)) s Φ Ξ = Φ (.bl false) s := rfl
theorem z_is2_tuplelist_dic {s : Store} {Φ : D → Store → Prop} {Ξ : Xc → Store → Prop} (x y : List D) : wz (fIs2 "tuple" "list" (.dic x y)) s Φ Ξ = Φ (.bl false) s := rfl
theorem z_is2_strbool_dic {s : Store} {Φ : D → Store → Prop} {Ξ : Xc → Store → Prop} (x y : List D) : wz (fIs2 "str" "bool" (.dic x y)) s Φ Ξ = Φ (.bl false) s := rfl
theorem z_pure {α : Type} {s : Store} {Φ : α → Store → Prop} {Ξ : Xc → Store → Prop} (a : α) : wz (pure a) s Φ Ξ = Φ a s := rfl
theorem z_bind {α β : Type} {m : M α} {k : α → M β} {s : Store} {Ψ : β → Store → Prop} {Ξ : Xc → Store → Prop} : wz (m >>= k) s Ψ Ξ = wz m s (fun a s' => wz (k a) s' Ψ Ξ) Ξ := wp_bind k
theorem z_le_str (a b : Tx) {s : Store} {Φ : D → Store → Prop} {Ξ : Xc → Store → Prop} : wz (opLe (.str a) (.str b)) s Φ Ξ = Φ (.bl (!ltT b a)) s := rfl
theorem z_lt_str (a b : Tx) {s : Store} {Φ : D → Store → Prop} {Ξ : Xc → Store → Prop} : wz (opLt (.str a) (.str b)) s Φ Ξ = Φ (.bl (ltT a b)) s := rfl
theorem z_eVar {e : Ev} {s : Store} {Φ : D → Store → Prop} {Ξ : Xc → Store → Prop} (i : Nat) : wz (eVar i e) s Φ Ξ = wz (match e[i]? with
  | some (some d) => pure d
  | _ => bad) s Φ Ξ := rfl
theorem z_run {b : SM} {s : Store} (fr : Bool) (N : List Str) (ds : List D) (Φ : D → Store → Prop) (Ξ : Xc → Store → Prop) : wz (runB fr N b ds) s Φ Ξ = wzS b (startE N ds) s { nx := fun _ s' => if fr = true then False else Φ .non s', rt := Φ, ex := fun x _ s' => Ξ x s' } := wp_run ..
/-! lists of one's own -/
def lsZ (o : Option (Option D)) (Ψ : List D → Prop) (t : Fx Ψ Ψ := fx) : Prop := match o with
  | some (some (.lst xs)) => Ψ xs
  | _ => False
theorem lsZ_some {xs : List D} {Ψ : List D → Prop} : lsZ (some (some (.lst xs))) Ψ = Ψ xs := rfl
theorem lsZ_of {o : Option (Option D)} {Ψ : List D → Prop} {P : Prop} (h : ∀ xs, o = some (some (.lst xs)) → (Ψ xs = P)) (h2 : (∀ xs, o ≠ some (some (.lst xs))) → P = False) : lsZ o Ψ = P := by
  unfold lsZ
  rcases o with _ | _ | d
  · exact (h2 (fun xs z => by cases z)).symm
  · exact (h2 (fun xs z => by cases z)).symm
  · cases d <;> first
      | exact h _ rfl
      | exact (h2 (fun xs z => by cases z)).symm
theorem gd_out {i : Nat} {b : SM} {e : Ev} {s : Store} {k : Kt} (h : ∀ xs, e[i]? ≠ some (some (.lst xs))) : wpS (gd i b) e s k = False := by
  rw [wpS_gd]
  generalize e[i]? = o at h
  rcases o with _ | _ | d
  · rfl
  · rfl
  · cases d <;> first
      | rfl
      | exact (h _ rfl).elim
def ltZ (n : Nat) : Prop := n ≤ sizeLine
theorem chK_ck {i : Nat} {f : List D → List D} {e : Ev} {s : Store} {k : Kt} {xs : List D} (h : e[i]? = some (some (.lst xs))) : chK i (fun xs => ckLen (f xs)) e s k = (ltZ (f xs).length ∧ k.nx (e.set i (some (.lst (f xs)))) s) := by
  unfold chK ckLen ltZ
  simp only [h]
  by_cases hz : (f xs).length ≤ sizeLine
  · simp only [hz, if_true, true_and]
  · simp only [hz, if_false, false_and]
theorem z_app {i : Nat} {m : EM} {e : Ev} {s : Store} {k : Kt} : wzS (gd i (sApp i m)) e s k = lsZ e[i]? (fun xs => wz (m e) s (fun d s' => ltZ (xs ++ [d]).length ∧ k.nx (e.set i (some (.lst (xs ++ [d])))) s') (fun x s' => k.ex x e s')) :=
  (lsZ_of (fun xs h => by
    show wp (m e) s (fun d s' => ltZ (xs ++ [d]).length ∧ k.nx (e.set i (some (.lst (xs ++ [d])))) s') (fun x s' => k.ex x e s') = wpS (gd i (sApp i m)) e s k
    rw [wpS_gd_of h, wpS_app]
    congr 1
    funext d s'
    exact (chK_ck (f := fun xs => xs ++ [d]) h).symm) fun h => gd_out h).symm
theorem z_ext {i : Nat} {m : EM} {e : Ev} {s : Store} {k : Kt} : wzS (gd i (sExt i m)) e s k = lsZ e[i]? (fun xs => wz (m e) s (fun d s' => lsZ (some (some d)) fun ys => ltZ (xs ++ ys).length ∧ k.nx (e.set i (some (.lst (xs ++ ys)))) s') (fun x s' => k.ex x e s')) :=
  (lsZ_of (fun xs h => by
    show wp (m e) s (fun d s' => lsZ (some (some d)) fun ys => ltZ (xs ++ ys).length ∧ k.nx (e.set i (some (.lst (xs ++ ys)))) s') (fun x s' => k.ex x e s') = wpS (gd i (sExt i m)) e s k
    rw [wpS_gd_of h, wpS_ext]
    congr 1
    funext d s'
    cases d <;> first
      | rfl
      | exact (chK_ck (f := fun xs => xs ++ _) h).symm) fun h => gd_out h).symm
def inZ (j : D) (Ψ : Int → Prop) (t : Fx Ψ Ψ := fx) : Prop := match j with
  | .int i => Ψ i
  | _ => False
theorem inZ_some {i : Int} {Ψ : Int → Prop} : inZ (.int i) Ψ = Ψ i := rfl
theorem z_ins {i : Nat} {mj m : EM} {e : Ev} {s : Store} {k : Kt} : wzS (gd i (sIns i mj m)) e s k = lsZ e[i]? (fun xs => wz (mj e) s (fun j s => wz (m e) s (fun d s => inZ j fun j => (0 ≤ j ∧ j < 2 ^ 63 ∧ ltZ (xs.take j.toNat ++ d :: xs.drop j.toNat).length) ∧ k.nx (e.set i (some (.lst (xs.take j.toNat ++ d :: xs.drop j.toNat)))) s) (fun x s' => k.ex x e s')) (fun x s' => k.ex x e s')) :=
  (lsZ_of (fun xs h => by
    show wp (mj e) s (fun j s => wp (m e) s (fun d s => inZ j fun j => (0 ≤ j ∧ j < 2 ^ 63 ∧ ltZ (xs.take j.toNat ++ d :: xs.drop j.toNat).length) ∧ k.nx (e.set i (some (.lst (xs.take j.toNat ++ d :: xs.drop j.toNat)))) s) (fun x s' => k.ex x e s')) (fun x s' => k.ex x e s') = wpS (gd i (sIns i mj m)) e s k
    rw [wpS_gd_of h, wpS_ins]
    congr 1
    funext j s'
    congr 1
    funext d s'
    cases j <;> first
      | rfl
      | skip
    rename_i j
    show _ = chK i (insAt j d) e s' k
    unfold chK insAt ckLen inZ ltZ
    simp only [h]
    by_cases h1 : 0 ≤ j ∧ j < 2 ^ 63
    · by_cases h2 : (xs.take j.toNat ++ d :: xs.drop j.toNat).length ≤ sizeLine
      · simp only [h1, h2, if_true, true_and, and_true, and_self]
      · simp only [h1, h2, if_true, if_false, and_false, false_and, and_self]
    · simp only [h1, if_false]
      exact propext ⟨fun z => (h1 ⟨z.1.1, z.1.2.1⟩).elim, fun z => z.elim⟩) fun h => gd_out h).symm
def opZ {α : Type} (o : Option α) (Ψ : α → Prop) (t : Fx Ψ Ψ := fx) : Prop := match o with
  | some x => Ψ x
  | none => False
theorem opZ_some {α : Type} {x : α} {Ψ : α → Prop} : opZ (some x) Ψ = Ψ x := rfl
theorem z_seti {i : Nat} {mj m : EM} {e : Ev} {s : Store} {k : Kt} : wzS (gd i (sSetI i m mj)) e s k = lsZ e[i]? (fun xs => wz (m e) s (fun d s => wz (mj e) s (fun j s => inZ j fun j => opZ (setI j d xs) fun ys => k.nx (e.set i (some (.lst ys))) s) (fun x s' => k.ex x e s')) (fun x s' => k.ex x e s')) :=
  (lsZ_of (fun xs h => by
    show wp (m e) s (fun d s => wp (mj e) s (fun j s => inZ j fun j => opZ (setI j d xs) fun ys => k.nx (e.set i (some (.lst ys))) s) (fun x s' => k.ex x e s')) (fun x s' => k.ex x e s') = wpS (gd i (sSetI i m mj)) e s k
    rw [wpS_gd_of h, wpS_seti]
    congr 1
    funext d s'
    congr 1
    funext j s'
    cases j <;> first
      | rfl
      | skip
    rename_i j
    show _ = chK i (setI j d) e s' k
    unfold chK inZ opZ
    simp only [h]
    cases setI j d xs <;> rfl) fun h => gd_out h).symm
theorem z_rev {i : Nat} {e : Ev} {s : Store} {k : Kt} : wzS (sRevI i) e s k = lsZ e[i]? (fun xs => k.nx (e.set i (some (.lst xs.reverse))) s) :=
  (lsZ_of (fun xs h => by
    show _ = wpS (sRevI i) e s k
    rw [wpS_rev]
    exact (chK_of (f := fun xs => some xs.reverse) h rfl).symm) fun h => by
    show wpS (sRevI i) e s k = False
    rw [wpS_rev]
    unfold chK
    generalize e[i]? = o at h
    rcases o with _ | _ | d
    · rfl
    · rfl
    · cases d <;> first
        | rfl
        | exact (h _ rfl).elim).symm
theorem z_unp {m : EM} {e : Ev} {s : Store} {k : Kt} (g : GM) : wzS (sUnp g m) e s k = wz (m e) s (fun d s' => opZ (g d) fun l => k.nx (setAll l e) s') (fun x s' => k.ex x e s') := by
  show wpS (sUnp g m) e s k = _
  rw [wpS_unp]
  show _ = wp (m e) s (fun d s' => opZ (g d) fun l => k.nx (setAll l e) s') (fun x s' => k.ex x e s')
  congr 1
  funext d s'
  cases g d <;> rfl
theorem gMany_tup {is : List Nat} {xs : List D} (h : xs.length = is.length) : gMany is (.tup xs) = some (is.zip xs) := by unfold gMany; simp only [if_pos h]
theorem gMany_par {is : List Nat} {ds : List D} {Ψ : List (Nat × D) → Prop} : opZ (gMany is (.tup ds)) Ψ = (ds.length = is.length ∧ Ψ (is.zip ds)) := by
  unfold gMany opZ
  by_cases h : ds.length = is.length
  · simp only [h, if_true, true_and]
  · simp only [h, if_false, false_and]
theorem z_par {e : Ev} {s : Store} {k : Kt} (is : List Nat) (m : LM) : wzS (sPar is m) e s k = wz (m e) s (fun ds s' => opZ (gMany is (.tup ds)) fun l => k.nx (setAll l e) s') (fun x s' => k.ex x e s') := by
  show wpS (sPar is m) e s k = _
  rw [wpS_par]
  show _ = wp (m e) s (fun ds s' => opZ (gMany is (.tup ds)) fun l => k.nx (setAll l e) s') (fun x s' => k.ex x e s')
  congr 1
  funext d s'
  rw [gMany_par]
  by_cases h : d.length = is.length
  · simp only [h, if_true, true_and]
  · simp only [h, if_false, false_and]
def omC (p : Nat × D) : Option (List (Nat × D)) → Option (List (Nat × D))
  | some l => some (p :: l)
  | none => none
theorem omC_some (p : Nat × D) (l : List (Nat × D)) : omC p (some l) = some (p :: l) := rfl
theorem gm_nn : gMany [] (.tup []) = some [] := rfl
theorem gm_cc (i : Nat) (is : List Nat) (x : D) (xs : List D) : gMany (i :: is) (.tup (x :: xs)) = omC (i, x) (gMany is (.tup xs)) := by
  unfold gMany
  by_cases h : xs.length = is.length
  · simp only [List.length_cons, h, if_true, List.zip_cons_cons, omC]
  · have h2 : ¬ (xs.length + 1 = is.length + 1) := by omega
    simp only [List.length_cons, h, h2, if_false, omC]
theorem gOne_z (i : Nat) (d : D) : gOne i d = some [(i, d)] := rfl
theorem wipe_n (e : Ev) : wipeE e [] = e := rfl
theorem wipe_c (e : Ev) (i : Nat) (is : List Nat) : wipeE e (i :: is) = (wipeE e is).set i none := rfl
/-- e, the slots of sl being whatever they are -/
def fill (e : Ev) (sl : List Nat) (v : Nat → Option D) : Ev := sl.foldl (fun e i => e.set i (v i)) e
def Fi (e : Ev) (sl : List Nat) (e' : Ev) : Prop := ∃ v, e' = fill e sl v
theorem fl {e e' : Ev} {sl : List Nat} (h : fill e sl (fun i => (e'[i]?).getD none) = e') : Fi e sl e' := ⟨_, h.symm⟩
theorem fill_nil {e : Ev} {v : Nat → Option D} : fill e [] v = e := rfl
theorem fill_cons {e : Ev} {i : Nat} {sl : List Nat} {v : Nat → Option D} : fill e (i :: sl) v = fill (e.set i (v i)) sl v := rfl
theorem z_try {C : Str} {i : Nat} {b k : SM} {e : Ev} {s : Store} {κ : Kt} : wzS (sTry C i b k) e s κ = wzS b e s { κ with ex := tryK C i k κ } := wpS_try
theorem z_try0 {C : Str} {b k : SM} {e : Ev} {s : Store} {κ : Kt} : wzS (sTry0 C b k) e s κ = wzS b e s { κ with ex := tryK0 C k κ } := wpS_try0
theorem tryK_t {C : Str} {i : Nat} {k : SM} {κ : Kt} {c : Str} {e : Ev} {s : Store} (h : subX c C = true) : tryK C i k κ ⟨c, []⟩ e s = wzS k (e.set i (some (.exc c []))) s { κ with nx := fun e2 s2 => κ.nx (e2.set i none) s2, bk := fun e2 s2 => κ.bk (e2.set i none) s2, ct := fun e2 s2 => κ.ct (e2.set i none) s2, ex := fun _ _ _ => False } := by unfold tryK; rw [if_pos h]; rfl
theorem tryK0_t {C : Str} {k : SM} {κ : Kt} {c : Str} {e : Ev} {s : Store} (h : subX c C = true) : tryK0 C k κ ⟨c, []⟩ e s = wzS k e s { κ with ex := fun _ _ _ => False } := by unfold tryK0; rw [if_pos h]; rfl
theorem z_ite {c : Prop} [Decidable c] {α : Type} {m n : M α} {s : Store} {Φ : α → Store → Prop} {Ξ : Xc → Store → Prop} : wz (if c then m else n) s Φ Ξ = if c then wz m s Φ Ξ else wz n s Φ Ξ := by split <;> rfl
theorem tt_eq : (true = true) = True := eq_self _
theorem ft_eq : (false = true) = False := by simp
theorem setAll_nil (l : List (Option D)) : setAll [] l = l := rfl
theorem setAll_cons (i : Nat) (a : D) (r : List (Nat × D)) (l : List (Option D)) : setAll ((i, a) :: r) l = setAll r (l.set i (some a)) := rfl
theorem z_eFnB {e : Ev} {s : Store} {Φ : D → Store → Prop} {Ξ : Xc → Store → Prop} (f : List D → M D) (l : LM) : wz (eFnB f l e) s Φ Ξ = wz (l e) s (fun x s => wz (lendM f x) s Φ Ξ) Ξ := wp_eFnB ..
theorem startE_cc (n : Str) (N : List Str) (d : D) (ds : List D) : startE (n :: N) (d :: ds) = some d :: startE N ds := by
  unfold startE
  simp only [List.map_cons, List.cons_append, List.length_cons, Nat.add_sub_add_right]
theorem startE_cn (n : Str) (N : List Str) : startE (n :: N) [] = none :: startE N [] := by
  unfold startE
  simp only [List.map_nil, List.nil_append, List.length_cons, List.length_nil, Nat.sub_zero, List.replicate_succ]
theorem startE_nn : startE [] [] = [] := rfl
theorem evg0 (o : Option D) (r : List (Option D)) : (o :: r)[0]? = some o := rfl
theorem evgS (o : Option D) (r : List (Option D)) (n : Nat) : (o :: r)[n + 1]? = r[n]? := rfl
theorem evs0 (o p : Option D) (r : List (Option D)) : (o :: r).set 0 p = p :: r := rfl
theorem evsS (o p : Option D) (r : List (Option D)) (n : Nat) : (o :: r).set (n + 1) p = o :: r.set n p := rfl
theorem itet {d : Decidable True} (a b : Prop) : (@ite Prop True d a b) = a := if_pos trivial
theorem itef {d : Decidable False} (a b : Prop) : (@ite Prop False d a b) = b := if_neg id
/-- all steps that ask nothing -/
theorem stp : type_of% @z_bad ∧ type_of% @z_raise ∧ type_of% @zS_seq ∧ type_of% @zS_nx ∧ type_of% @zS_brk ∧ type_of% @zS_cnt ∧ type_of% @zS_drop ∧ type_of% @zS_set ∧ type_of% @zS_ret ∧ type_of% @zS_retN ∧ type_of% @zS_raise ∧ type_of% @zS_if ∧ type_of% @zS_for ∧ type_of% @zS_forNil ∧ type_of% @z_eC ∧ type_of% @z_eBin ∧ type_of% @z_eUn ∧ type_of% @z_eFn ∧ type_of% @z_lNil ∧ type_of% @z_lCons ∧ type_of% @z_eTup ∧ type_of% @z_eLst ∧ type_of% @z_eNew ∧ type_of% @z_eSl ∧ type_of% @z_pNo ∧ type_of% @z_pSome ∧ type_of% @z_tBin ∧ type_of% @z_tChn ∧ type_of% @z_eChain ∧ type_of% @z_tVal ∧ type_of% @z_tAnd ∧ type_of% @z_tOr ∧ type_of% @z_tNot ∧ type_of% @z_eAnd ∧ type_of% @z_eOr ∧ type_of% @z_eNot ∧ type_of% @z_eIf ∧ type_of% @z_eMeth ∧ type_of% @z_iSeq ∧ type_of% @z_iRng ∧ type_of% @z_iRng2 ∧ type_of% @z_iRevs ∧ type_of% @z_eComp ∧ type_of% @z_cYes ∧ type_of% @z_unB ∧ type_of% @z_asI ∧ type_of% @z_asS ∧ type_of% @z_tru_bl ∧ type_of% @z_tru_non ∧ type_of% @z_tru_int ∧ type_of% @z_tru_str ∧ type_of% @z_tru_lst ∧ type_of% @z_tru_tup ∧ type_of% @z_add_int ∧ type_of% @z_sub_int ∧ type_of% @z_neg_int ∧ type_of% @z_lt_int ∧ type_of% @z_le_int ∧ type_of% @z_gt_int ∧ type_of% @z_ge_int ∧ type_of% @z_is_non ∧ type_of% @z_is_bl ∧ type_of% @z_isnot_non ∧ type_of% @z_isnot_bl ∧ type_of% @z_in_sign ∧ type_of% @z_nin_sign ∧ type_of% @z_len_str ∧ type_of% @z_len_lst ∧ type_of% @z_len_tup ∧ type_of% @z_sl_lst ∧ type_of% @z_sl_tup ∧ type_of% @z_sl_str ∧ type_of% @z_seq_lst ∧ type_of% @z_seq_tup ∧ type_of% @z_seq_str ∧ type_of% @z_iZp ∧ type_of% @z_zip_lst ∧ type_of% @z_zip_tup ∧ type_of% @z_eMthL ∧ type_of% @z_iRngD ∧ type_of% @z_kNil ∧ type_of% @z_asT ∧ type_of% @z_kCons ∧ type_of% @z_eDisp ∧ type_of% @z_eGet ∧ type_of% @z_asD1 ∧ type_of% @z_iRngS ∧ type_of% @z_eMth0 ∧ type_of% @z_eq_int ∧ type_of% @z_eq_str ∧ type_of% @z_eq_bl ∧ type_of% @z_ne_bl ∧ type_of% @z_ne_int ∧ type_of% @z_ix_lst0 ∧ type_of% @z_ix_tup0 ∧ type_of% @z_ix_tup1 ∧ type_of% @z_ix_tup2 ∧ type_of% @z_is_str_non ∧ type_of% @z_is_str_bl ∧ type_of% @z_is_str_int ∧ type_of% @z_is_str_str ∧ type_of% @z_is_str_tup ∧ type_of% @z_is_str_lst ∧ type_of% @z_is_str_dic ∧ type_of% @z_is_int_non ∧ type_of% @z_is_int_bl ∧ type_of% @z_is_int_int ∧ type_of% @z_is_int_str ∧ type_of% @z_is_int_tup ∧ type_of% @z_is_int_lst ∧ type_of% @z_is_int_dic ∧ type_of% @z_is_bool_non ∧ type_of% @z_is_bool_bl ∧ type_of% @z_is_bool_int ∧ type_of% @z_is_bool_str ∧ type_of% @z_is_bool_tup ∧ type_of% @z_is_bool_lst ∧ type_of% @z_is_bool_dic ∧ type_of% @z_is_tuple_non ∧ type_of% @z_is_tuple_bl ∧ type_of% @z_is_tuple_int ∧ type_of% @z_is_tuple_str ∧ type_of% @z_is_tuple_tup ∧ type_of% @z_is_tuple_lst ∧ type_of% @z_is_tuple_dic ∧ type_of% @z_is_list_non ∧ type_of% @z_is_list_bl ∧ type_of% @z_is_list_int ∧ type_of% @z_is_list_str ∧ type_of% @z_is_list_tup ∧ type_of% @z_is_list_lst ∧ type_of% @z_is_list_dic ∧ type_of% @z_is2_tuplelist_non ∧ type_of% @z_is2_strbool_non ∧ type_of% @z_is2_tuplelist_bl ∧ type_of% @z_is2_strbool_bl ∧ type_of% @z_is2_tuplelist_int ∧ type_of% @z_is2_strbool_int ∧ type_of% @z_is2_tuplelist_str ∧ type_of% @z_is2_strbool_str ∧ type_of% @z_is2_tuplelist_tup ∧ type_of% @z_is2_strbool_tup ∧ type_of% @z_is2_tuplelist_lst ∧ type_of% @z_is2_strbool_lst ∧ type_of% @z_is2_tuplelist_dic ∧ type_of% @z_is2_strbool_dic ∧ type_of% @omC_some ∧ type_of% @gm_nn ∧ type_of% @gm_cc ∧ type_of% @gOne_z ∧ type_of% @wipe_n ∧ type_of% @wipe_c ∧ type_of% @fill_nil ∧ type_of% @fill_cons ∧ type_of% @z_eVar ∧ type_of% @z_le_str ∧ type_of% @z_lt_str ∧ type_of% @z_bind ∧ type_of% @z_run ∧ type_of% @lsZ_some ∧ type_of% @z_app ∧ type_of% @z_ext ∧ type_of% @inZ_some ∧ type_of% @z_ins ∧ type_of% @opZ_some ∧ type_of% @z_seti ∧ type_of% @z_rev ∧ type_of% @z_unp ∧ type_of% @z_par ∧ type_of% @z_try ∧ type_of% @z_try0 ∧ type_of% @z_pure ∧ type_of% @setAll_nil ∧ type_of% @setAll_cons ∧ type_of% @z_eFnB ∧ type_of% @startE_cc ∧ type_of% @startE_cn ∧ type_of% @startE_nn ∧ type_of% @evg0 ∧ type_of% @evgS ∧ type_of% @evs0 ∧ type_of% @evsS ∧ type_of% @tt_eq ∧ type_of% @ft_eq ∧ type_of% @itet ∧ type_of% @itef ∧ type_of% @Bool.not_true ∧ type_of% @Bool.not_false ∧ type_of% @true_and ∧ type_of% @and_true :=
  ⟨@z_bad, @z_raise, @zS_seq, @zS_nx, @zS_brk, @zS_cnt, @zS_drop, @zS_set, @zS_ret, @zS_retN, @zS_raise, @zS_if, @zS_for, @zS_forNil, @z_eC, @z_eBin, @z_eUn, @z_eFn, @z_lNil, @z_lCons, @z_eTup, @z_eLst, @z_eNew, @z_eSl, @z_pNo, @z_pSome, @z_tBin, @z_tChn, @z_eChain, @z_tVal, @z_tAnd, @z_tOr, @z_tNot, @z_eAnd, @z_eOr, @z_eNot, @z_eIf, @z_eMeth, @z_iSeq, @z_iRng, @z_iRng2, @z_iRevs, @z_eComp, @z_cYes, @z_unB, @z_asI, @z_asS, @z_tru_bl, @z_tru_non, @z_tru_int, @z_tru_str, @z_tru_lst, @z_tru_tup, @z_add_int, @z_sub_int, @z_neg_int, @z_lt_int, @z_le_int, @z_gt_int, @z_ge_int, @z_is_non, @z_is_bl, @z_isnot_non, @z_isnot_bl, @z_in_sign, @z_nin_sign, @z_len_str, @z_len_lst, @z_len_tup, @z_sl_lst, @z_sl_tup, @z_sl_str, @z_seq_lst, @z_seq_tup, @z_seq_str, @z_iZp, @z_zip_lst, @z_zip_tup, @z_eMthL, @z_iRngD, @z_kNil, @z_asT, @z_kCons, @z_eDisp, @z_eGet, @z_asD1, @z_iRngS, @z_eMth0, @z_eq_int, @z_eq_str, @z_eq_bl, @z_ne_bl, @z_ne_int, @z_ix_lst0, @z_ix_tup0, @z_ix_tup1, @z_ix_tup2, @z_is_str_non, @z_is_str_bl, @z_is_str_int, @z_is_str_str, @z_is_str_tup, @z_is_str_lst, @z_is_str_dic, @z_is_int_non, @z_is_int_bl, @z_is_int_int, @z_is_int_str, @z_is_int_tup, @z_is_int_lst, @z_is_int_dic, @z_is_bool_non, @z_is_bool_bl, @z_is_bool_int, @z_is_bool_str, @z_is_bool_tup, @z_is_bool_lst, @z_is_bool_dic, @z_is_tuple_non, @z_is_tuple_bl, @z_is_tuple_int, @z_is_tuple_str, @z_is_tuple_tup, @z_is_tuple_lst, @z_is_tuple_dic, @z_is_list_non, @z_is_list_bl, @z_is_list_int, @z_is_list_str, @z_is_list_tup, @z_is_list_lst, @z_is_list_dic, @z_is2_tuplelist_non, @z_is2_strbool_non, @z_is2_tuplelist_bl, @z_is2_strbool_bl, @z_is2_tuplelist_int, @z_is2_strbool_int, @z_is2_tuplelist_str, @z_is2_strbool_str, @z_is2_tuplelist_tup, @z_is2_strbool_tup, @z_is2_tuplelist_lst, @z_is2_strbool_lst, @z_is2_tuplelist_dic, @z_is2_strbool_dic, @omC_some, @gm_nn, @gm_cc, @gOne_z, @wipe_n, @wipe_c, @fill_nil, @fill_cons, @z_eVar, @z_le_str, @z_lt_str, @z_bind, @z_run, @lsZ_some, @z_app, @z_ext, @inZ_some, @z_ins, @opZ_some, @z_seti, @z_rev, @z_unp, @z_par, @z_try, @z_try0, @z_pure, @setAll_nil, @setAll_cons, @z_eFnB, @startE_cc, @startE_cn, @startE_nn, @evg0, @evgS, @evs0, @evsS, @tt_eq, @ft_eq, @itet, @itef, @Bool.not_true, @Bool.not_false, @true_and, @and_true⟩
end Mr
/-! Plain tools, 2: loops, comprehensions, draws. -/
namespace Mr
open PySem PySem.Spec PyProof.Rows L2
theorem Fi.refl (e : Ev) : ∀ sl : List Nat, (∀ i ∈ sl, i < e.length) → Fi e sl e := fun sl h => by
  refine ⟨fun i => (e[i]?).getD none, ?_⟩
  induction sl with
  | nil => rfl
  | cons i sl ih =>
    rw [fill_cons]
    have hi := h i (List.mem_cons_self ..)
    have e1 : e.set i ((e[i]?).getD none) = e := by
      rw [List.getElem?_eq_getElem hi]
      exact List.set_getElem_self hi
    rw [e1]
    exact ih fun j hj => h j (List.mem_cons_of_mem _ hj)
section
variable {b : SM} {e : Ev} {s : Store} {k : Kt} {i : Nat} {ds : List D} {g : GM}
/-- a loop: what is carried (x), the slots that are forgotten (sl) -/
theorem for_st {σ : Type} (put : σ → Ev) (sl : List Nat) (I : Nat → σ → Store → Prop) (x0 : σ) (he : Fi (put x0) sl e) (h0 : I 0 x0 s)
    (step : ∀ (j : Nat) (d : D) (x : σ) (v : Nat → Option D) (s : Store), ds[j]? = some d → I j x s → opZ (g d) fun l => wzS b (setAll l (fill (put x) sl v)) s { k with nx := fun e' s' => ∃ x', Fi (put x') sl e' ∧ I (j + 1) x' s', ct := fun e' s' => ∃ x', Fi (put x') sl e' ∧ I (j + 1) x' s', bk := k.nx })
    (fin : ∀ (x : σ) (v : Nat → Option D) (s : Store), I ds.length x s → k.nx (fill (put x) sl v) s) : wzS (forL g b ds) e s k :=
  for_inv (fun j e s => ∃ x, Fi (put x) sl e ∧ I j x s) ⟨x0, he, h0⟩ (fun j d e s hd ⟨x, ⟨v, hv⟩, hI⟩ => by
    subst hv
    have q := step j d x v s hd hI
    unfold opZ at q
    cases hg : g d with
    | none => rw [hg] at q; exact q.elim
    | some l => rw [hg] at q; exact ⟨l, rfl, q⟩) fun e s ⟨x, ⟨v, hv⟩, hI⟩ => by subst hv; exact fin x v s hI
/-- a loop that carries nothing but the store -/
theorem for_fr (sl : List Nat) (I : Nat → Store → Prop) (hsl : ∀ i ∈ sl, i < e.length) (h0 : I 0 s)
    (step : ∀ (j : Nat) (d : D) (v : Nat → Option D) (s : Store), ds[j]? = some d → I j s → opZ (g d) fun l => wzS b (setAll l (fill e sl v)) s { k with nx := fun e' s' => Fi e sl e' ∧ I (j + 1) s', ct := fun e' s' => Fi e sl e' ∧ I (j + 1) s', bk := k.nx })
    (fin : ∀ (v : Nat → Option D) (s : Store), I ds.length s → k.nx (fill e sl v) s) : wzS (forL g b ds) e s k :=
  for_st (fun _ : Unit => e) sl (fun j _ s => I j s) () (Fi.refl e sl hsl) h0 (fun j d _ v s hd hI => by
    have q := step j d v s hd hI
    unfold opZ at q ⊢
    cases hg : g d with
    | none => rw [hg] at q; exact q
    | some l =>
      rw [hg] at q
      exact wpS_mono q (fun e s h => ⟨(), h⟩) (fun _ _ z => z) (fun _ _ z => z) (fun e s h => ⟨(), h⟩) (fun _ _ _ z => z)) fun _ v s hI => fin v s hI
/-- a loop that looks for something -/
theorem for_look {α : Type} {f : α → D} {l : List α} (sl : List Nat) (p : α → Option D) (hsl : ∀ i ∈ sl, i < e.length)
    (step : ∀ a ∈ l, ∀ v : Nat → Option D, opZ (g (f a)) fun q => wzS b (setAll q (fill e sl v)) s { nx := fun e' s' => p a = none ∧ Fi e sl e' ∧ s' = s, rt := fun d s' => p a = some d ∧ s' = s })
    (h1 : ∀ r, l.findSome? p = some r → k.rt r s) (h2 : l.findSome? p = none → ∀ v, k.nx (fill e sl v) s) : wzS (forL g b (l.map f)) e s k := by
  have main : ∀ (l : List α) (e' : Ev), Fi e sl e' → (∀ a ∈ l, ∀ v : Nat → Option D, opZ (g (f a)) fun q => wzS b (setAll q (fill e sl v)) s { nx := fun e' s' => p a = none ∧ Fi e sl e' ∧ s' = s, rt := fun d s' => p a = some d ∧ s' = s }) →
      (∀ r, l.findSome? p = some r → k.rt r s) → (l.findSome? p = none → ∀ v, k.nx (fill e sl v) s) → wpS (forL g b (l.map f)) e' s k := by
    intro l
    induction l with
    | nil => intro e' he' _ _ h2; obtain ⟨v, rfl⟩ := he'; exact h2 rfl v
    | cons a l ih =>
      intro e' he' step h1 h2
      rw [List.map_cons, wpS_forCons]
      obtain ⟨v, rfl⟩ := he'
      have q := step a (List.mem_cons_self ..) v
      unfold opZ at q
      cases hg : g (f a) with
      | none => rw [hg] at q; exact q.elim
      | some lst =>
        rw [hg] at q
        refine wpS_mono q (fun e s' ⟨q1, q2, q3⟩ => ?_) (fun d s' ⟨q1, q2⟩ => ?_) (fun _ _ z => z.elim) (fun _ _ z => z.elim) (fun _ _ _ z => z.elim)
        · subst q3
          have e1 : (a :: l).findSome? p = l.findSome? p := by rw [List.findSome?_cons, q1]
          rw [e1] at h1 h2
          exact ih e q2 (fun a ha => step a (List.mem_cons_of_mem _ ha)) h1 h2
        · subst q2
          exact h1 d (by rw [List.findSome?_cons, q1])
  exact main l e (Fi.refl e sl hsl) step h1 h2
theorem whilez {c : TM} (I : Nat → Ev → Store → Prop) {n fuel : Nat} (hf : n < fuel) (h0 : I n e s) (step : ∀ (n : Nat) (e : Ev) (s : Store), I n e s → wz (c e) s (fun t s' => if t = true then 0 < n ∧ wzS b e s' { k with nx := I (n - 1), ct := I (n - 1), bk := k.nx } else k.nx e s') (fun x s' => k.ex x e s')) :
    wzS (sWhile c b fuel) e s k := while_inv I step fuel hf h0
end
section
variable {e : Ev} {s : Store} {Φ : D → Store → Prop} {Ψ : List D → Store → Prop} {Ξ : Xc → Store → Prop} {sl : List Nat} {g : GM} {c : TM} {t : EM} {ds : List D}
/-- a comprehension by what holds ahead of each turn -/
theorem comp_iz (I : Nat → List D → Store → Prop) (h0 : I 0 [] s) (step : ∀ (j : Nat) (d : D) (acc : List D) (s : Store), ds[j]? = some d → I j acc s →
    opZ (g d) fun l => wz (c (setAll l (wipeE e sl))) s (fun k s => if k = true then wz (t (setAll l (wipeE e sl))) s (fun y s => I (j + 1) (acc ++ [y]) s) (fun _ _ => False) else I (j + 1) acc s) (fun _ _ => False)) (fin : ∀ ys s, I ds.length ys s → Ψ ys s) : wz (compM sl g c t e ds) s Ψ Ξ :=
  comp_inv I h0 (fun j d acc s hd hI => by
    have q := step j d acc s hd hI
    unfold opZ at q
    cases hg : g d with
    | none => rw [hg] at q; exact q.elim
    | some l => rw [hg] at q; exact ⟨l, rfl, q⟩) fin
/-- .. that changes nothing: each turn's answer, or none -/
theorem comp_fm {α : Type} {f : α → D} {l : List α} (p : α → Option D) (h : ∀ a ∈ l, opZ (g (f a)) fun q => wz (c (setAll q (wipeE e sl))) s (fun k s' => s' = s ∧ if k = true then wz (t (setAll q (wipeE e sl))) s (fun y s' => s' = s ∧ p a = some y) (fun _ _ => False) else p a = none) (fun _ _ => False)) (fin : Ψ (l.filterMap p) s) : wz (compM sl g c t e (l.map f)) s Ψ Ξ := by
  refine comp_iz (fun j acc s' => s' = s ∧ acc = (l.take j).filterMap p) ⟨rfl, rfl⟩ (fun j d acc s' hd hI => ?_) fun ys s' hI => ?_
  · obtain ⟨rfl, rfl⟩ := hI
    rw [List.getElem?_map] at hd
    cases ha : l[j]? with
    | none => rw [ha] at hd; cases hd
    | some a =>
      rw [ha] at hd
      cases hd
      have hj : j < l.length := (List.getElem?_eq_some_iff.mp ha).1
      have ht : l.take (j + 1) = l.take j ++ [a] := by rw [List.take_add_one, ha]; rfl
      have q := h a (List.mem_of_getElem? ha)
      unfold opZ at q ⊢
      cases hg : g (f a) with
      | none => rw [hg] at q; exact q
      | some lst =>
        rw [hg] at q
        refine wp_mono q (fun k s2 h2 => ?_) (fun _ _ z => z)
        obtain ⟨rfl, h2⟩ := h2
        rw [ht, List.filterMap_append]
        cases k with
        | true =>
          simp only [if_true] at h2 ⊢
          refine wp_mono h2 (fun y s3 h3 => ?_) (fun _ _ z => z)
          obtain ⟨rfl, h3⟩ := h3
          exact ⟨by first | rfl | trivial, by simp [h3]⟩
        | false =>
          simp only [Bool.false_eq_true, if_false] at h2 ⊢
          exact ⟨by first | rfl | trivial, by simp [h2]⟩
  · obtain ⟨rfl, rfl⟩ := hI
    rw [List.length_map, List.take_length]
    exact fin
/-- a number is drawn -/
theorem drawz {k : Nat} {n : Int} (hp : PenOk k s) (h : ∀ (r : Int) (s' : Store), 0 ≤ r → r < n → PenOk (k + 1) s' → Φ (.int r) s') (hk : k ≤ 1000000000 := by omega) (h0 : 0 < n := by omega) (h1 : n < 1000000000 := by omega) : wz (m__law_draw [.ref 0, .int n]) s Φ Ξ := draw_ok hp h hk h0 h1
theorem ixz_any {xs : List D} {i : Int} (h0 : 0 ≤ i) (h1 : i < xs.length) (h : ∀ c ∈ xs, Φ c s) : wz (opIx (.lst xs) (.int i)) s Φ Ξ := ix_lst_any h0 h1 h
theorem ixz_str {xs : Tx} {i : Int} (h0 : 0 ≤ i) (h1 : i < xs.length) (h : ∀ c ∈ xs, Φ (.str [c]) s) : wz (opIx (.str xs) (.int i)) s Φ Ξ := ix_str_any h0 h1 h
end
theorem law_z {b : SM} {e : Ev} {s : Store} (h : wzS b e s { nx := fun _ _ => False, rt := fun d _ => d = .bl true }) : ∃ s', b e s = .ret (.bl true) s' := law_of h
end Mr
/-! Plain law: words of refusals; what is whole, a name, a worth, of whatever is asked. -/
namespace Mr
open PySem PySem.Spec PyProof.Rows L2
theorem okz {α : Type} {m : M α} {s s' : Store} {a : α} {Φ : α → Store → Prop} {Ξ : Xc → Store → Prop} (h : m s = .ok a s') : wz m s Φ Ξ = Φ a s' := wp_ok h
theorem excz {α : Type} {m : M α} {s s' : Store} {x : Xc} {Φ : α → Store → Prop} {Ξ : Xc → Store → Prop} (h : m s = .exc x s') : wz m s Φ Ξ = Ξ x s' := by unfold wz wp; rw [h]
/-! ### the words of refusals -/
def wordL : List (Str × Tx) := [("NoDeck", ['d', 'e', 'c', 'k']), ("NoDeed", ['d', 'e', 'e', 'd']), ("NoLink", ['l', 'i', 'n', 'k']), ("NoMaster", ['m', 'a', 's', 't', 'e', 'r']), ("NoName", ['n', 'a', 'm', 'e']), ("NoNumber", ['n', 'u', 'm', 'b', 'e', 'r']), ("NoPlace", ['p', 'l', 'a', 'c', 'e']), ("NoPress", ['p', 'r', 'e', 's', 's']), ("NoRoom", ['r', 'o', 'o', 'm']), ("NoRow", ['r', 'o', 'w']), ("NoSetting", ['s', 'e', 't', 't', 'i', 'n', 'g']), ("NoShow", ['s', 'h', 'o', 'w']),
  ("NoSlide", ['s', 'l', 'i', 'd', 'e']), ("NoSteps", ['s', 't', 'e', 'p', 's']), ("NoText", ['t', 'e', 'x', 't']), ("NoTime", ['t', 'i', 'm', 'e']), ("NoTrait", ['t', 'r', 'a', 'i', 't']), ("NoWord", ['w', 'o', 'r', 'd']), ("NoWorth", ['w', 'o', 'r', 't', 'h']), ("Ring", ['r', 'i', 'n', 'g']), ("Taken", ['t', 'a', 'k', 'e', 'n']), ("TooMany", ['m', 'a', 'n', 'y']), ("Used", ['u', 's', 'e', 'd'])]
theorem word_run (i : Fin 23) (s : Store) : m__law_word [.exc (wordL.getD i.val ("", [])).1 []] s = .ok (.str (wordL.getD i.val ("", [])).2) s := by
  rcases i with ⟨i, h⟩
  rcases i with _ | _ | _ | _ | _ | _ | _ | _ | _ | _ | _ | _ | _ | _ | _ | _ | _ | _ | _ | _ | _ | _ | _ | i
  iterate 23 kernel_rfl
  omega
theorem wordz {c : Str} {w : Tx} {s : Store} {Φ : D → Store → Prop} {Ξ : Xc → Store → Prop} (h : (c, w) ∈ wordL) (q : Φ (.str w) s) : wz (m__law_word [.exc c []]) s Φ Ξ := by
  obtain ⟨i, hi, e⟩ := List.mem_iff_getElem.mp h
  have hi' : i < 23 := hi
  have := word_run ⟨i, hi'⟩ s
  rw [List.getD_eq_getElem?_getD, List.getElem?_eq_getElem hi, Option.getD_some, e] at this
  exact (okz this).mpr q
/-! ### what is asked of things -/
/-- things that have a plain kind -/
def kindD (d : D) : Bool := (tyD d).isSome
def wholeD : D → Bool
  | .int _ => true
  | _ => false
theorem is_whole_run {d : D} (h : kindD d = true) (s : Store) : m_is_whole [d] s = .ok (.bl (wholeD d)) s := by
  cases d <;> first
    | rfl
    | (cases h; done)
def fromD (d : D) (lo hi : Int) : Bool := match d with
  | .int i => decide (lo ≤ i) && decide (i ≤ hi)
  | _ => false
theorem is_whole_z {d : D} {s : Store} {Φ : D → Store → Prop} {Ξ : Xc → Store → Prop} (h : kindD d = true) : wz (m_is_whole [d]) s Φ Ξ = Φ (.bl (wholeD d)) s := okz (is_whole_run h s)
theorem is_from_z {d : D} {lo hi : Int} {s : Store} {Φ : D → Store → Prop} {Ξ : Xc → Store → Prop} (h : kindD d = true) : wz (m_is_from [d, .int lo, .int hi]) s Φ Ξ = Φ (.bl (fromD d lo hi)) s := by
  simp only [m_is_from, N_is_from, b_is_from, stp, is_whole_z h]
  cases d <;> first
    | (cases h; done)
    | rfl
    | skip
  rename_i i
  simp only [wholeD, fromD, stp]
  cases decide (lo ≤ i) <;> simp only [stp, Bool.true_and, Bool.false_and]
theorem boolsOf_fm {α : Type} (f : α → Bool) (l : List α) : boolsOf (l.filterMap fun x => some (D.bl (f x))) = some (l.map f) := by
  rw [show (l.filterMap fun x => some (D.bl (f x))) = l.map fun x => D.bl (f x) from List.filterMap_eq_map ▸ rfl]
  exact bools_map f l
theorem allz {ds : List D} {bs : List Bool} {s : Store} {Φ : D → Store → Prop} {Ξ : Xc → Store → Prop} (h : boolsOf ds = some bs) (q : Φ (.bl (bs.all id)) s) : wz (fAll (.lst ds)) s Φ Ξ := (wp_all h).mpr q
theorem sign_at0 (c : Char) (cs : Tx) {s : Store} {Φ : D → Store → Prop} {Ξ : Xc → Store → Prop} : wz (opIx (.str (c :: cs)) (.int 0)) s Φ Ξ = Φ (.str [c]) s := wp_ix_str (atI_some (by omega) (by simp))
theorem all_fm {α : Type} {f : α → Bool} {l : List α} {s : Store} {Φ : D → Store → Prop} {Ξ : Xc → Store → Prop} (q : Φ (.bl (l.all f)) s) : wz (fAll (.lst (l.filterMap fun x => some (D.bl (f x))))) s Φ Ξ := by
  refine allz (boolsOf_fm f l) ?_
  rw [List.all_map]
  exact q
theorem is_name_z {t : Tx} {s : Store} {Φ : D → Store → Prop} {Ξ : Xc → Store → Prop} (q : Φ (.bl (isName t)) s) : wz (m_is_name [.str t]) s Φ Ξ := by
  simp only [m_is_name, N_is_name, b_is_name, stp]
  cases t with
  | nil => exact q
  | cons c cs =>
    have h1 : (1 : Int) ≤ ((c :: cs).length : Nat) := by simp only [List.length_cons]; omega
    have h2 : decide ((((c :: cs).length : Nat) : Int) ≤ 8) = decide (cs.length < 8) := by simp only [List.length_cons]; congr 1; exact propext ⟨fun _ => by omega, fun _ => by omega⟩
    unfold isName at q
    simp only [decide_eq_true h1, h2, sign_at0, stp]
    cases h8 : decide (cs.length < 8) with
    | false =>
      simp only [h8, Bool.false_and] at q
      simp only [stp]
      exact q
    | true =>
      simp only [h8, Bool.true_and] at q
      cases hc : decide (c ∈ lets) with
      | false =>
        have hc' : (decide (c ∈ ['a', 'b', 'c', 'd', 'e', 'f', 'g', 'h', 'i', 'j', 'k', 'l', 'm', 'n', 'o', 'p', 'q', 'r', 's', 't', 'u', 'v', 'w', 'x', 'y', 'z'])) = false := hc
        simp only [hc, Bool.false_and] at q
        simp only [hc', stp]
        exact q
      | true =>
        have hc' : (decide (c ∈ ['a', 'b', 'c', 'd', 'e', 'f', 'g', 'h', 'i', 'j', 'k', 'l', 'm', 'n', 'o', 'p', 'q', 'r', 's', 't', 'u', 'v', 'w', 'x', 'y', 'z'])) = true := hc
        simp only [hc, Bool.true_and] at q
        simp only [hc', stp]
        refine comp_fm (l := c :: cs) (fun x => some (D.bl (decide (x ∈ lets) || decide (x ∈ figs)))) (fun x _ => ?_) (all_fm q)
        simp only [gOne, wipeE, stp]
        have e : (decide (x ∈ lets) || decide (x ∈ figs)) = (decide (x ∈ ['a', 'b', 'c', 'd', 'e', 'f', 'g', 'h', 'i', 'j', 'k', 'l', 'm', 'n', 'o', 'p', 'q', 'r', 's', 't', 'u', 'v', 'w', 'x', 'y', 'z']) || decide (x ∈ ['0', '1', '2', '3', '4', '5', '6', '7', '8', '9'])) := rfl
        rw [e]
        cases hx : decide (x ∈ ['a', 'b', 'c', 'd', 'e', 'f', 'g', 'h', 'i', 'j', 'k', 'l', 'm', 'n', 'o', 'p', 'q', 'r', 's', 't', 'u', 'v', 'w', 'x', 'y', 'z'])
        · simp only [stp, Bool.false_or]
        · simp only [stp, Bool.true_or]
def nameD : D → Bool
  | .str t => isName t
  | _ => false
theorem is_name_d {d : D} {s : Store} {Φ : D → Store → Prop} {Ξ : Xc → Store → Prop} (h : kindD d = true) (q : Φ (.bl (nameD d)) s) : wz (m_is_name [d]) s Φ Ξ := by
  cases d <;> first
    | exact is_name_z q
    | (cases h; done)
    | exact q
/-! ### what stands in a list -/
theorem z_in_lst (d : D) (xs : List D) {s : Store} {Φ : D → Store → Prop} {Ξ : Xc → Store → Prop} (h : (d.okD && D.okD (.lst xs)) = true) : wz (opIn d (.lst xs)) s Φ Ξ = Φ (.bl (dIn d xs)) s := wp_in_lst d xs h
theorem z_nin_lst (d : D) (xs : List D) {s : Store} {Φ : D → Store → Prop} {Ξ : Xc → Store → Prop} (h : (d.okD && D.okD (.lst xs)) = true) : wz (opNotIn d (.lst xs)) s Φ Ξ = Φ (.bl (!dIn d xs)) s := wp_nin_lst d xs h
/-! ### worths -/
def isWorthD (t : Tx) (d : D) : Bool := if t = tInk then nameD d else if t = tLeft ∨ t = tTop then fromD d (-999) 999 else if t = tSize then fromD d 1 99 else fromD d 1 999
theorem is_worth_z {t : Tx} {d : D} {s : Store} {Φ : D → Store → Prop} {Ξ : Xc → Store → Prop} (ht : t ∈ traits) (h : kindD d = true) (q : Φ (.bl (isWorthD t d)) s) : wz (m_is_worth [.str t, d]) s Φ Ξ := by
  unfold traits at ht
  simp only [List.mem_cons, List.not_mem_nil, or_false] at ht
  have must : ∀ t ∈ traits, m_must_be_trait [.str t] s = .ok .non s := by
    intro t ht
    unfold traits at ht
    simp only [List.mem_cons, List.not_mem_nil, or_false] at ht
    rcases ht with rfl | rfl | rfl | rfl | rfl | rfl <;> kernel_rfl
  simp only [m_is_worth, N_is_worth, b_is_worth, stp]
  rcases ht with rfl | rfl | rfl | rfl | rfl | rfl
  all_goals
    rw [okz (must _ (by decide))]
    simp only [stp]
  · have e : (opInK "BOUNDS" tv_BOUNDS) (.str tLeft) (.glo "BOUNDS") s = .ok (.bl true) s := by kernel_rfl
    have e2 : (opIxK "BOUNDS" tv_BOUNDS) (.glo "BOUNDS") (.str tLeft) s = .ok (.tup [.int (-999), .int 999]) s := by kernel_rfl
    simp only [okz e, okz e2, z_ix_tup0, z_ix_tup1, is_from_z h, stp]
    exact q
  · have e : (opInK "BOUNDS" tv_BOUNDS) (.str tTop) (.glo "BOUNDS") s = .ok (.bl true) s := by kernel_rfl
    have e2 : (opIxK "BOUNDS" tv_BOUNDS) (.glo "BOUNDS") (.str tTop) s = .ok (.tup [.int (-999), .int 999]) s := by kernel_rfl
    simp only [okz e, okz e2, z_ix_tup0, z_ix_tup1, is_from_z h, stp]
    exact q
  · have e : (opInK "BOUNDS" tv_BOUNDS) (.str tWide) (.glo "BOUNDS") s = .ok (.bl true) s := by kernel_rfl
    have e2 : (opIxK "BOUNDS" tv_BOUNDS) (.glo "BOUNDS") (.str tWide) s = .ok (.tup [.int 1, .int 999]) s := by kernel_rfl
    simp only [okz e, okz e2, z_ix_tup0, z_ix_tup1, is_from_z h, stp]
    exact q
  · have e : (opInK "BOUNDS" tv_BOUNDS) (.str tHigh) (.glo "BOUNDS") s = .ok (.bl true) s := by kernel_rfl
    have e2 : (opIxK "BOUNDS" tv_BOUNDS) (.glo "BOUNDS") (.str tHigh) s = .ok (.tup [.int 1, .int 999]) s := by kernel_rfl
    simp only [okz e, okz e2, z_ix_tup0, z_ix_tup1, is_from_z h, stp]
    exact q
  · have e : (opInK "BOUNDS" tv_BOUNDS) (.str tSize) (.glo "BOUNDS") s = .ok (.bl true) s := by kernel_rfl
    have e2 : (opIxK "BOUNDS" tv_BOUNDS) (.glo "BOUNDS") (.str tSize) s = .ok (.tup [.int 1, .int 99]) s := by kernel_rfl
    simp only [okz e, okz e2, z_ix_tup0, z_ix_tup1, is_from_z h, stp]
    exact q
  · have e : (opInK "BOUNDS" tv_BOUNDS) (.str tInk) (.glo "BOUNDS") s = .ok (.bl false) s := by kernel_rfl
    simp only [okz e, stp]
    exact is_name_d h q
/-! a letter by its code -/
theorem let_code (c : Char) : (!ltT ['z'] [c] && !ltT [c] ['a']) = decide (c ∈ lets) := by
  have e1 : ltT ['z'] [c] = decide (122 < c.toNat) := by
    unfold ltT
    congr 1
    simp [List.cons_lt_cons_iff]
  have e2 : ltT [c] ['a'] = decide (c.toNat < 97) := by
    unfold ltT
    congr 1
    simp [List.cons_lt_cons_iff]
  rw [e1, e2]
  have key : ∀ n : Fin 26, Char.ofNat (97 + n.val) ∈ lets := by decide +kernel
  have back : ∀ c ∈ lets, 97 ≤ c.toNat ∧ c.toNat ≤ 122 := by decide +kernel
  by_cases h : 97 ≤ c.toNat ∧ c.toNat ≤ 122
  · have hc : c ∈ lets := by
      have := key ⟨c.toNat - 97, by omega⟩
      have e : 97 + (c.toNat - 97) = c.toNat := by omega
      simp only [e] at this
      rwa [Char.ofNat_toNat] at this
    rw [decide_eq_true hc, decide_eq_false (by omega), decide_eq_false (by omega)]
    rfl
  · have hc : c ∉ lets := fun z => h (back c z)
    rw [decide_eq_false hc]
    by_cases h1 : 97 ≤ c.toNat
    · rw [decide_eq_true (show 122 < c.toNat by omega)]
      rfl
    · rw [decide_eq_true (show c.toNat < 97 by omega)]
      simp
end Mr
/-! mirrors of defs that many laws share (printed by gen.py) -/
namespace Mr
open PySem PySem.Spec PyProof.Rows L2
def N__law_rows : List Str := ["lines", "wide", "found", "line", "rows", "word", "one", "parts", "at"]
def b__law_rows : SM := (sSeq (sSet 2 (eLst lNil))
  (sSeq (sFor (iSeq (eVar 0)) (gOne 3)
  (sSeq (sSet 4 (eLst (lCons (eC (.str [])) lNil)))
  (sSeq (sFor (iSeq (eComp [6] (iSeq (eMeth fSplit (eVar 3) (eC (.str [' '])))) (gOne 6) (tBin opNe (eVar 6) (eC (.str []))) (eVar 6))) (gOne 5)
  (sIf (tAnd' (tBin opNe (eBin opIx (eVar 4) (eUn opNeg (eC (.int (1))))) (eC (.str []))) (tBin opLe (eBin opAdd (eBin opAdd (eUn fLen (eBin opIx (eVar 4) (eUn opNeg (eC (.int (1)))))) (eC (.int (1)))) (eUn fLen (eVar 5))) (eVar 1)))
  (gd 4 (sSetI 4 (eBin opAdd (eBin opAdd (eBin opIx (eVar 4) (eUn opNeg (eC (.int (1))))) (eC (.str [' ']))) (eVar 5)) (eUn opNeg (eC (.int (1))))))
  (sSeq (sSet 7 (eComp [8] (iRngS (eC (.int (0))) (eUn fLen (eVar 5)) (eVar 1)) (gOne 8) cYes (eSl (eVar 5) (pSome (eVar 8)) (pSome (eBin opAdd (eVar 8) (eVar 1))))))
  (sSet 4 (eBin opAddL (eSl (eVar 4) pNo (pSome (eBin opSub (eUn fLen (eVar 4)) (eUn fInt (eBin opEq (eBin opIx (eVar 4) (eUn opNeg (eC (.int (1))))) (eC (.str []))))))) (eVar 7))))))
  (sSet 2 (eBin opAdd (eVar 2) (eVar 4))))))
  (sRet (eVar 2))))
def m__law_rows : List D → M D := runB false N__law_rows b__law_rows
def N__law_size : List Str := ["lines", "wide", "high", "size", "one"]
def b__law_size : SM := (sSeq (sFor (iRngD (eVar 3) (eC (.int (0)))) (gOne 4)
  (sIf (tAnd' (tBin opGe (eBin opDiv (eVar 1) (eVar 4)) (eC (.int (1)))) (tBin opLe (eUn fLen (eFn m__law_rows (lCons (eVar 0) (lCons (eBin opDiv (eVar 1) (eVar 4)) lNil)))) (eBin opDiv (eVar 2) (eVar 4))))
  (sRet (eVar 4))
  sNext))
  (sRet (eC .non)))
def m__law_size : List D → M D := runB false N__law_size b__law_size
def N_words_in : List Str := ["line", "word"]
def b_words_in : SM := (sRet (eComp [1] (iSeq (eMeth fSplit (eVar 0) (eC (.str [' '])))) (gOne 1) (tBin opNe (eVar 1) (eC (.str []))) (eVar 1)))
def m_words_in : List D → M D := runB false N_words_in b_words_in
def N_rows_in : List Str := ["line", "wide", "found", "row", "word"]
def b_rows_in : SM := (sSeq (sSet 2 (eLst lNil))
  (sSeq (sSet 3 (eC (.str [])))
  (sSeq (sFor (iSeq (eFn m_words_in (lCons (eVar 0) lNil))) (gOne 4)
  (sIf (tAnd' (tBin opNe (eVar 3) (eC (.str []))) (tBin opLe (eBin opAdd (eBin opAdd (eUn fLen (eVar 3)) (eC (.int (1)))) (eUn fLen (eVar 4))) (eVar 1)))
  (sSet 3 (eBin opAdd (eBin opAdd (eVar 3) (eC (.str [' ']))) (eVar 4)))
  (sSeq (sIf (tBin opNe (eVar 3) (eC (.str [])))
  (gd 2 (sApp 2 (eVar 3)))
  sNext)
  (sSeq (sSet 3 (eVar 4))
  (sWhile (tBin opGt (eUn fLen (eVar 3)) (eVar 1))
  (sSeq (gd 2 (sApp 2 (eSl (eVar 3) pNo (pSome (eVar 1)))))
  (sSet 3 (eSl (eVar 3) (pSome (eVar 1)) pNo))) 1000)))))
  (sRet (eBin opAdd (eVar 2) (eLst (lCons (eVar 3) lNil)))))))
def m_rows_in : List D → M D := runB false N_rows_in b_rows_in
def N_wrapped : List Str := ["lines", "wide", "found", "line"]
def b_wrapped : SM := (sSeq (sSet 2 (eLst lNil))
  (sSeq (sFor (iSeq (eVar 0)) (gOne 3)
  (gd 2 (sExt 2 (eFn m_rows_in (lCons (eVar 3) (lCons (eVar 1) lNil))))))
  (sRet (eVar 2))))
def m_wrapped : List D → M D := runB false N_wrapped b_wrapped
def N_fit : List Str := ["lines", "wide", "high", "size"]
def b_fit : SM := (sRet (eAnd (eBin opGe (eBin opDiv (eVar 1) (eVar 3)) (eC (.int (1)))) (eBin opLe (eUn fLen (eFn m_wrapped (lCons (eVar 0) (lCons (eBin opDiv (eVar 1) (eVar 3)) lNil)))) (eBin opDiv (eVar 2) (eVar 3)))))
def m_fit : List D → M D := runB false N_fit b_fit
def N_greatest_size : List Str := ["lines", "wide", "high", "size", "one"]
def b_greatest_size : SM := (sSeq (sFor (iRngD (eVar 3) (eC (.int (0)))) (gOne 4)
  (sIf (tVal (eFn m_fit (lCons (eVar 0) (lCons (eVar 1) (lCons (eVar 2) (lCons (eVar 4) lNil))))))
  (sRet (eVar 4))
  sNext))
  (sRet (eC .non)))
def m_greatest_size : List D → M D := runB false N_greatest_size b_greatest_size
end Mr
/-! Plain law, 9: rows of lines. -/
namespace Mr
open PySem PySem.Spec PyProof.Rows L2
theorem z_ne_str (a b : Tx) {s : Store} {Φ : D → Store → Prop} {Ξ : Xc → Store → Prop} : wz (opNe (.str a) (.str b)) s Φ Ξ = Φ (.bl (!(a == b))) s := by
  rw [z_ne rfl rfl]
  rfl
theorem z_split {t : Tx} {c : Char} {s : Store} {Φ : D → Store → Prop} {Ξ : Xc → Store → Prop} (h : t.length ≤ 100000) (hc : c.toNat < 256) : wz (fSplit (.str t) (.str [c])) s Φ Ξ = Φ (.lst ((splitT c t).map .str)) s := by
  refine okz (m := fSplit (.str t) (.str [c])) ?_
  show (if t.length ≤ 100000 ∧ c.toNat < 256 then (pure (.lst ((splitT c t).map .str)) : M D) else bad) s = _
  rw [if_pos ⟨h, hc⟩]
  rfl
theorem fr_z {b : SM} {N : List Str} {ds : List D} {s : Store} {Φ : D → Store → Prop} {Ξ : Xc → Store → Prop} (h : wz (runB false N b ds) s (fun d s' => d ≠ .non ∧ Φ d s') Ξ) : wz (runB true N b ds) s Φ Ξ := by
  unfold wz wp runB at h ⊢
  cases q : b (startE N ds) s with
  | nx e z =>
    rw [q] at h
    exact absurd rfl h.1
  | ret d z => rw [q] at h; exact h.2
  | exc x e z => rw [q] at h; exact h
  | brk e z => rw [q] at h; exact h.elim
  | cnt e z => rw [q] at h; exact h.elim
  | bad => rw [q] at h; exact h.elim
theorem ne_nil (a : Tx) : (!(a == ([] : Tx))) = decide (a ≠ []) := by cases a <;> rfl
theorem cut_to {α : Type} (l : List α) (n : Nat) : cutL l none (some (n : Int)) = l.take n := by
  rw [cut_take _ (by omega)]
  rfl
theorem cut_from {α : Type} (l : List α) (n : Nat) : cutL l (some (n : Int)) none = l.drop n := by
  unfold cutL
  have e1 : HT.sIx l.length l.length none = l.length := rfl
  rw [HT.sIx_nat, e1]
  by_cases h : n ≤ l.length
  · rw [Nat.min_eq_left h, List.take_of_length_le (by rw [List.length_drop]; omega)]
  · rw [Nat.min_eq_right (by omega), List.drop_of_length_le (Nat.le_refl _), List.drop_of_length_le (by omega)]
    simp
theorem cut_last {α : Type} (l : List α) (x : α) : cutL (l ++ [x]) none (some (-1)) = l := by
  unfold cutL
  have e1 : HT.sIx (l ++ [x]).length 0 none = 0 := rfl
  have e2 : HT.sIx (l ++ [x]).length (l ++ [x]).length (some (-1)) = l.length := by
    show (if (-1 : Int) < 0 then ((-1 : Int) + ((l ++ [x]).length : Int)).toNat else min (-1 : Int).toNat (l ++ [x]).length) = _
    rw [if_pos (by decide)]
    simp only [List.length_append, List.length_cons, List.length_nil]
    omega
  rw [e1, e2]
  simp
def wordT (t : Tx) : List Tx := (splitT ' ' t).filter fun x => decide (x ≠ [])
def chop (w : Nat) : Nat → List Tx → Tx → List Tx × Tx
  | 0, f, r => (f, r)
  | n + 1, f, r => if w < r.length then chop w n (f ++ [r.take w]) (r.drop w) else (f, r)
def putW (w : Nat) (st : List Tx × Tx) (x : Tx) : List Tx × Tx :=
  if st.2 ≠ [] ∧ st.2.length + 1 + x.length ≤ w then (st.1, st.2 ++ ' ' :: x)
  else chop w x.length (if st.2 = [] then st.1 else st.1 ++ [st.2]) x
def rowsL (w : Nat) (t : Tx) : List Tx := ((wordT t).foldl (putW w) ([], [])).1 ++ [((wordT t).foldl (putW w) ([], [])).2]
def wrapL (w : Nat) (ls : List Tx) : List Tx := ls.flatMap (rowsL w)
theorem words_len (t : Tx) : (wordT t).length ≤ t.length + 1 ∧ ∀ x ∈ wordT t, x.length ≤ t.length ∧ x ≠ [] := by
  obtain ⟨h1, h2⟩ := splitT_len ' ' t
  refine ⟨Nat.le_trans (List.length_filter_le ..) h1, fun x hx => ?_⟩
  obtain ⟨hx, hn⟩ := List.mem_filter.mp hx
  exact ⟨h2 x hx, by simpa using hn⟩
theorem words_in_z {t : Tx} {s : Store} {Φ : D → Store → Prop} {Ξ : Xc → Store → Prop} (h : t.length ≤ 100000) (q : Φ (.lst ((wordT t).map .str)) s) : wz (m_words_in [.str t]) s Φ Ξ := by
  simp only [m_words_in, N_words_in, b_words_in, stp]
  rw [z_split h (by decide)]
  simp only [stp]
  refine comp_fm (f := D.str) (l := splitT ' ' t) (fun x => if x ≠ [] then some (.str x) else none) (fun x _ => ?_) ?_
  · simp only [gOne, wipeE, List.foldl_cons, List.foldl_nil, stp]
    rw [z_ne_str, ne_nil]
    simp only [stp]
    by_cases hx : x = []
    · subst hx
      simp
    · simp only [decide_eq_true hx, stp, if_pos hx]
  · have e : (splitT ' ' t).filterMap (fun x => if x ≠ [] then some (D.str x) else none) = (wordT t).map D.str := by
      unfold wordT
      generalize splitT ' ' t = l
      induction l with
      | nil => rfl
      | cons x l ih =>
        rw [List.filterMap_cons, List.filter_cons, ih]
        by_cases hx : x = [] <;> simp [hx]
    rw [e]
    exact q
theorem chop_len (w : Nat) : ∀ (n : Nat) (f : List Tx) (r : Tx), (chop w n f r).1.length ≤ f.length + n ∧ (chop w n f r).2.length ≤ r.length
  | 0, f, r => ⟨Nat.le_refl _, Nat.le_refl _⟩
  | n + 1, f, r => by
    unfold chop
    split
    · obtain ⟨h1, h2⟩ := chop_len w n (f ++ [r.take w]) (r.drop w)
      simp only [List.length_append, List.length_cons, List.length_nil, List.length_drop] at h1 h2
      exact ⟨by omega, by omega⟩
    · exact ⟨by simp, by simp⟩
theorem putW_len (w : Nat) (st : List Tx × Tx) (x : Tx) : (putW w st x).1.length ≤ st.1.length + 1 + x.length ∧ (putW w st x).2.length ≤ st.2.length + 1 + x.length := by
  unfold putW
  split
  · simp only [List.length_append, List.length_cons]
    omega
  · obtain ⟨h1, h2⟩ := chop_len w x.length (if st.2 = [] then st.1 else st.1 ++ [st.2]) x
    have : (if st.2 = [] then st.1 else st.1 ++ [st.2]).length ≤ st.1.length + 1 := by split <;> simp
    omega
/-- the state ahead of a word -/
def stW (w : Nat) (l : List Tx) (j : Nat) : List Tx × Tx := (l.take j).foldl (putW w) ([], [])
theorem stW_step {w : Nat} {l : List Tx} {j : Nat} {x : Tx} (h : l[j]? = some x) : stW w l (j + 1) = putW w (stW w l j) x := by
  unfold stW
  rw [List.take_add_one, h, Option.toList_some, List.foldl_append]
  rfl
theorem stW_len {w L : Nat} {l : List Tx} (hl : ∀ x ∈ l, x.length ≤ L) : ∀ j, j ≤ l.length → (stW w l j).1.length ≤ j * (L + 1) ∧ (stW w l j).2.length ≤ j * (L + 1)
  | 0, _ => by simp [stW]
  | j + 1, h => by
    obtain ⟨h1, h2⟩ := stW_len (w := w) hl j (by omega)
    have hj : l[j]? = some l[j] := List.getElem?_eq_getElem (by omega)
    rw [stW_step hj]
    have := putW_len w (stW w l j) l[j]
    have hx := hl l[j] (List.getElem_mem _)
    rw [Nat.add_mul]
    omega
theorem set4 {α : Type} {e : List α} {i j : Nat} {a b c d : α} (h : i ≠ j) : (((e.set i a).set j c).set i b).set j d = (e.set i b).set j d := by
  have := List.set_comm (l := e.set i a) c b (Ne.symm h)
  rw [this, List.set_set, List.set_set]
theorem chop_done (w n : Nat) (f : List Tx) (r : Tx) (h : ¬ w < r.length) : chop w n f r = (f, r) := by
  cases n with
  | zero => rfl
  | succ n => rw [chop, if_neg h]
/-- a word too long is cut: the loop of both -/
theorem chop_z {w : Nat} {e : Ev} {s : Store} {k : Kt} {i j l : Nat} {f : List Tx} {r : Tx} {N : Nat} (hw : 1 ≤ w) (hN : N ≤ 999) (hr : r.length ≤ N) (hf : f.length ≤ 15000000)
    (hij : i ≠ j) (hil : i ≠ l) (hjl : j ≠ l) (hi : e[i]? = some (some (.lst (f.map .str)))) (hj : e[j]? = some (some (.str r))) (hl : e[l]? = some (some (.int (w : Int))))
    (q : k.nx ((e.set i (some (.lst ((chop w N f r).1.map .str)))).set j (some (.str (chop w N f r).2))) s) :
    wzS (sWhile (tBin opGt (eUn fLen (eVar j)) (eVar l)) (sSeq (gd i (sApp i (eSl (eVar j) pNo (pSome (eVar l))))) (sSet j (eSl (eVar j) (pSome (eVar l)) pNo))) 1000) e s k := by
  refine whilez (fun n e' s' => s' = s ∧ ∃ f' r', e' = (e.set i (some (.lst (f'.map .str)))).set j (some (.str r')) ∧ r'.length ≤ n ∧ f'.length + n ≤ 15000000 + N ∧ chop w n f' r' = chop w N f r) (n := N) (by omega) ⟨rfl, f, r, ?_, hr, by omega, rfl⟩ fun n e' s' hI => ?_
  · have e1 : e.set i (some (.lst (f.map .str))) = e := by
      refine List.ext_getElem? fun m => ?_
      by_cases hm : i = m
      · subst hm
        obtain ⟨h, _⟩ := List.getElem?_eq_some_iff.mp hi
        rw [List.getElem?_set_self h, hi]
      · rw [List.getElem?_set_ne hm]
    have e2 : e.set j (some (.str r)) = e := by
      refine List.ext_getElem? fun m => ?_
      by_cases hm : j = m
      · subst hm
        obtain ⟨h, _⟩ := List.getElem?_eq_some_iff.mp hj
        rw [List.getElem?_set_self h, hj]
      · rw [List.getElem?_set_ne hm]
    rw [e1, e2]
  · obtain ⟨rfl, f', r', rfl, h1, h2, h3⟩ := hI
    obtain ⟨li, _⟩ := List.getElem?_eq_some_iff.mp hi
    obtain ⟨lj, _⟩ := List.getElem?_eq_some_iff.mp hj
    have gj : ((e.set i (some (.lst (f'.map .str)))).set j (some (.str r')))[j]? = some (some (.str r')) := List.getElem?_set_self (by rw [List.length_set]; exact lj)
    have gl : ((e.set i (some (.lst (f'.map .str)))).set j (some (.str r')))[l]? = some (some (.int (w : Int))) := by
      rw [List.getElem?_set_ne hjl, List.getElem?_set_ne hil, hl]
    have gi : ((e.set i (some (.lst (f'.map .str)))).set j (some (.str r')))[i]? = some (some (.lst (f'.map .str))) := by
      rw [List.getElem?_set_ne (Ne.symm hij), List.getElem?_set_self li]
    simp only [stp, gj, gl]
    by_cases hq : w < r'.length
    · have hq' : ((w : Nat) : Int) < ((r'.length : Nat) : Int) := by omega
      simp only [decide_eq_true hq', stp, gj, gl, gi]
      refine ⟨by omega, ?_⟩
      obtain ⟨n, rfl⟩ : ∃ m, n = m + 1 := ⟨n - 1, by omega⟩
      rw [chop, if_pos hq] at h3
      rw [cut_to]
      refine ⟨by unfold ltZ sizeLine; simp; omega, ?_⟩
      have sj : (((e.set i (some (.lst (f'.map .str)))).set j (some (.str r'))).set i (some (.lst (f'.map .str ++ [.str (r'.take w)]))))[j]? = some (some (.str r')) := by
        rw [List.getElem?_set_ne hij, gj]
      have sl : (((e.set i (some (.lst (f'.map .str)))).set j (some (.str r'))).set i (some (.lst (f'.map .str ++ [.str (r'.take w)]))))[l]? = some (some (.int (w : Int))) := by
        rw [List.getElem?_set_ne hil, gl]
      simp only [stp, sj, sl]
      rw [cut_from]
      refine ⟨f' ++ [r'.take w], r'.drop w, ?_, ?_, ?_, h3⟩
      · rw [set4 hij, List.map_append]
        rfl
      · rw [List.length_drop]; omega
      · rw [List.length_append, List.length_cons, List.length_nil]; omega
    · have hq' : ¬ ((w : Nat) : Int) < ((r'.length : Nat) : Int) := by omega
      simp only [decide_eq_false hq', stp]
      rw [chop_done _ _ _ _ hq] at h3
      rw [← h3] at q
      exact q
theorem z_add_lst2 (a b : List Tx) {s : Store} {Φ : D → Store → Prop} {Ξ : Xc → Store → Prop} (h : a.length + b.length ≤ 16000000) : wz (opAdd (.lst (a.map .str)) (.lst (b.map .str))) s Φ Ξ = Φ (.lst ((a ++ b).map .str)) s := by
  rw [z_add_lst _ _ (by simpa using h), List.map_append]
theorem rows_in_z {w : Nat} {t : Tx} {s : Store} {Φ : D → Store → Prop} {Ξ : Xc → Store → Prop} (hw : 1 ≤ w) (h : t.length ≤ 900) (q : Φ (.lst ((rowsL w t).map .str)) s) : wz (m_rows_in [.str t, .int (w : Int)]) s Φ Ξ := by
  simp only [m_rows_in, N_rows_in, b_rows_in, stp]
  refine words_in_z (by omega) ?_
  simp only [stp]
  obtain ⟨wl, wx⟩ := words_len t
  have wl' : ∀ x ∈ wordT t, x.length ≤ 900 := fun x hx => by have := (wx x hx).1; omega
  refine for_st (fun x : List Tx × Tx => [some (.str t), some (.int (w : Int)), some (.lst (x.1.map .str)), some (.str x.2), none]) [4] (fun j x s' => s' = s ∧ j ≤ (wordT t).length ∧ x = stW w (wordT t) j) ([], []) (fl rfl) ⟨rfl, Nat.zero_le _, rfl⟩ (fun j d x v s' hj hI => ?_) fun x v s' hI => ?_
  · obtain ⟨rfl, hjl, hx⟩ := hI
    obtain ⟨y, hy, rfl⟩ : ∃ y, (wordT t)[j]? = some y ∧ D.str y = d := by
      rw [List.getElem?_map] at hj
      cases q : (wordT t)[j]? with
      | none => rw [q] at hj; cases hj
      | some y => rw [q] at hj; exact ⟨y, rfl, Option.some.inj hj⟩
    have hyl := wl' y (List.mem_of_getElem? hy)
    have hjlt : j < (wordT t).length := (List.getElem?_eq_some_iff.mp hy).1
    have st := stW_step (w := w) hy
    obtain ⟨b1, b2⟩ := stW_len (w := w) wl' j hjl
    rw [← hx] at st b1 b2
    have b3 : j * (900 + 1) ≤ 901 * 901 := Nat.mul_le_mul (by omega) (by omega)
    obtain ⟨f, r⟩ := x
    simp only at b1 b2
    simp only [gOne, fill_cons, fill_nil, stp]
    rw [z_ne_str, ne_nil]
    have pw : ¬ (r ≠ [] ∧ r.length + 1 + y.length ≤ w) → putW w (f, r) y = chop w y.length (if r = [] then f else f ++ [r]) y := fun hn => by
      unfold putW
      rw [if_neg hn]
    by_cases hr : r = []
    · subst hr
      have pw := pw (by simp)
      rw [if_pos rfl] at pw
      rw [pw] at st
      simp only [ne_eq, not_true_eq_false, decide_false, stp]
      rw [z_ne_str, ne_nil]
      simp only [ne_eq, not_true_eq_false, decide_false, stp]
      refine chop_z hw (by omega) (Nat.le_refl _) (by omega) (by decide) (by decide) (by decide) rfl rfl rfl ?_
      simp only [stp]
      exact ⟨_, fl rfl, hjlt, st.symm⟩
    · simp only [ne_eq, hr, not_false_eq_true, decide_true, stp]
      by_cases hf : r.length + 1 + y.length ≤ w
      · have hf' : ((r.length : Nat) : Int) + 1 + ((y.length : Nat) : Int) ≤ (w : Int) := by omega
        simp only [decide_eq_true hf', stp]
        rw [z_add_str _ _ (by simp; omega)]
        simp only [stp]
        rw [z_add_str _ _ (by simp; omega)]
        simp only [stp]
        have pw2 : putW w (f, r) y = (f, r ++ ' ' :: y) := by
          unfold putW
          rw [if_pos ⟨hr, hf⟩]
        rw [pw2] at st
        refine ⟨(f, r ++ ' ' :: y), fl ?_, hjlt, st.symm⟩
        rw [List.append_assoc]
        rfl
      · have hf' : ¬ ((r.length : Nat) : Int) + 1 + ((y.length : Nat) : Int) ≤ (w : Int) := by omega
        simp only [decide_eq_false hf', stp]
        have pw := pw fun z => hf z.2
        rw [if_neg hr] at pw
        rw [pw] at st
        rw [z_ne_str, ne_nil]
        simp only [ne_eq, hr, not_false_eq_true, decide_true, stp]
        refine ⟨by unfold ltZ sizeLine; simp; omega, ?_⟩
        have e : f.map D.str ++ [D.str r] = (f ++ [r]).map D.str := by rw [List.map_append]; rfl
        rw [e]
        refine chop_z hw (by omega) (Nat.le_refl _) (by rw [List.length_append, List.length_cons, List.length_nil]; omega) (by decide) (by decide) (by decide) rfl rfl rfl ?_
        simp only [stp]
        exact ⟨_, fl rfl, hjlt, st.symm⟩
  · obtain ⟨rfl, _, hx⟩ := hI
    simp only [fill_cons, fill_nil, stp]
    have hlen : ((wordT t).map D.str).length = (wordT t).length := List.length_map ..
    rw [hlen] at hx
    obtain ⟨b1, b2⟩ := stW_len (w := w) wl' (wordT t).length (Nat.le_refl _)
    have b3 : (wordT t).length * (900 + 1) ≤ 901 * 901 := Nat.mul_le_mul (by omega) (by omega)
    rw [← hx] at b1 b2
    have e1 : [D.str x.2] = [x.2].map D.str := rfl
    rw [e1, z_add_lst2 _ _ (by simp; omega)]
    have e2 : rowsL w t = x.1 ++ [x.2] := by
      unfold rowsL
      rw [hx]
      unfold stW
      rw [List.take_length]
    rw [e2] at q
    exact q
theorem rowsL_len {w : Nat} {t : Tx} (h : t.length ≤ 900) : (rowsL w t).length ≤ 811802 := by
  obtain ⟨wl, wx⟩ := words_len t
  have wl' : ∀ x ∈ wordT t, x.length ≤ 900 := fun x hx => by have := (wx x hx).1; omega
  obtain ⟨b1, b2⟩ := stW_len (w := w) wl' (wordT t).length (Nat.le_refl _)
  have b3 : (wordT t).length * (900 + 1) ≤ 901 * 901 := Nat.mul_le_mul (by omega) (by omega)
  unfold rowsL
  unfold stW at b1
  rw [List.take_length] at b1
  simp only [List.length_append, List.length_cons, List.length_nil]
  omega
theorem wrapL_len {w : Nat} : ∀ {ls : List Tx}, (∀ t ∈ ls, t.length ≤ 900) → (wrapL w ls).length ≤ ls.length * 811802
  | [], _ => by simp [wrapL]
  | t :: ls, h => by
    have h1 := rowsL_len (w := w) (h t (List.mem_cons_self ..))
    have h2 := wrapL_len (w := w) fun x hx => h x (List.mem_cons_of_mem _ hx)
    unfold wrapL at h2 ⊢
    rw [List.flatMap_cons, List.length_append, List.length_cons]
    omega
theorem wrapL_snoc {w : Nat} (ls : List Tx) (t : Tx) : wrapL w (ls ++ [t]) = wrapL w ls ++ rowsL w t := by
  unfold wrapL
  simp
theorem seq_either {b : Bool} {xs : List D} {s : Store} {Ψ : List D → Store → Prop} {Ξ : Xc → Store → Prop} (q : Ψ xs s) : wz (seqOf (if b then .tup xs else .lst xs)) s Ψ Ξ := by
  cases b
  · exact q
  · exact q
/-- lines, as a list or a tuple -/
def linD (b : Bool) (ls : List Tx) : D := if b then .tup (ls.map .str) else .lst (ls.map .str)
theorem wrapped_z {b : Bool} {w : Nat} {ls : List Tx} {s : Store} {Φ : D → Store → Prop} {Ξ : Xc → Store → Prop} (hw : 1 ≤ w) (h : ∀ t ∈ ls, t.length ≤ 900) (hl : ls.length ≤ 15) (q : Φ (.lst ((wrapL w ls).map .str)) s) : wz (m_wrapped [linD b ls, .int (w : Int)]) s Φ Ξ := by
  simp only [m_wrapped, N_wrapped, b_wrapped, stp]
  refine seq_either ?_
  refine for_st (fun j : Nat => [some (linD b ls), some (.int (w : Int)), some (.lst ((wrapL w (ls.take j)).map .str)), none]) [3] (fun j x s' => s' = s ∧ x = j) 0 (fl rfl) ⟨rfl, rfl⟩ (fun j d x v s' hj hI => ?_) fun x v s' hI => ?_
  · obtain ⟨rfl, rfl⟩ := hI
    obtain ⟨y, hy, rfl⟩ : ∃ y, ls[x]? = some y ∧ D.str y = d := by
      rw [List.getElem?_map] at hj
      cases q : ls[x]? with
      | none => rw [q] at hj; cases hj
      | some y => rw [q] at hj; exact ⟨y, rfl, Option.some.inj hj⟩
    have hlt : x < ls.length := (List.getElem?_eq_some_iff.mp hy).1
    simp only [gOne, fill_cons, fill_nil, stp]
    refine rows_in_z hw (h y (List.mem_of_getElem? hy)) ?_
    simp only [stp]
    have e : (wrapL w (ls.take x)).map D.str ++ (rowsL w y).map D.str = (wrapL w (ls.take (x + 1))).map D.str := by
      rw [List.take_add_one, hy, Option.toList_some, wrapL_snoc, List.map_append]
    have l1 := wrapL_len (w := w) (ls := ls.take (x + 1)) fun t ht => h t (List.mem_of_mem_take ht)
    rw [e]
    refine ⟨?_, x + 1, fl rfl, rfl⟩
    rw [List.length_take] at l1
    have : min (x + 1) ls.length * 811802 ≤ 15 * 811802 := Nat.mul_le_mul (by omega) (Nat.le_refl _)
    unfold ltZ sizeLine
    simp only [List.length_map]
    omega
  · obtain ⟨rfl, rfl⟩ := hI
    simp only [fill_cons, fill_nil, stp]
    rw [List.length_map, List.take_length]
    exact q
/-! ### sign by sign -/
def sgn (w : Nat) (x : List Tx × Tx × Tx) (c : Char) : List Tx × Tx × Tx :=
  if c = ' ' then (if x.2.2 = [] then x else ((putW w (x.1, x.2.1) x.2.2).1, (putW w (x.1, x.2.1) x.2.2).2, [])) else (x.1, x.2.1, x.2.2 ++ [c])
theorem chop_pre (w : Nat) (g : List Tx) : ∀ (n : Nat) (f : List Tx) (r : Tx), chop w n (g ++ f) r = (g ++ (chop w n f r).1, (chop w n f r).2)
  | 0, f, r => rfl
  | n + 1, f, r => by
    unfold chop
    split
    · rw [List.append_assoc, chop_pre w g n]
    · rfl
theorem putW_pre (w : Nat) (g f : List Tx) (r x : Tx) : putW w (g ++ f, r) x = (g ++ (putW w (f, r) x).1, (putW w (f, r) x).2) := by
  unfold putW
  by_cases h : r ≠ [] ∧ r.length + 1 + x.length ≤ w
  · rw [if_pos h, if_pos h]
  · rw [if_neg h, if_neg h]
    by_cases hr : r = []
    · rw [if_pos hr, if_pos hr, chop_pre]
    · rw [if_neg hr, if_neg hr, List.append_assoc, chop_pre]
theorem fold_pre (w : Nat) (g : List Tx) : ∀ (l : List Tx) (f : List Tx) (r : Tx), l.foldl (putW w) (g ++ f, r) = (g ++ (l.foldl (putW w) (f, r)).1, (l.foldl (putW w) (f, r)).2)
  | [], f, r => rfl
  | x :: l, f, r => by
    rw [List.foldl_cons, putW_pre, fold_pre w g l]
    rfl
def headT (u : Tx) : List Tx → List Tx
  | [] => [u]
  | p :: ps => (u ++ p) :: ps
theorem sgn_fold (w : Nat) : ∀ (t : Tx) (f : List Tx) (r u : Tx), (t ++ [' ']).foldl (sgn w) (f, r, u) = ((((headT u (splitT ' ' t)).filter fun x => decide (x ≠ [])).foldl (putW w) (f, r)).1, (((headT u (splitT ' ' t)).filter fun x => decide (x ≠ [])).foldl (putW w) (f, r)).2, [])
  | [], f, r, u => by
    have e : splitT ' ' [] = [[]] := rfl
    rw [e]
    by_cases hu : u = []
    · subst hu
      rfl
    · simp only [headT, List.append_nil, List.nil_append, List.foldl_cons, List.foldl_nil, List.filter_cons, List.filter_nil, ne_eq, hu, not_false_eq_true, decide_true, if_true]
      unfold sgn
      rw [if_pos rfl, if_neg hu]
  | c :: t, f, r, u => by
    rw [List.cons_append, List.foldl_cons]
    by_cases hc : c = ' '
    · subst hc
      have e : splitT ' ' (' ' :: t) = [] :: splitT ' ' t := by rw [splitT, if_pos rfl]
      have e2 : headT [] (splitT ' ' t) = splitT ' ' t := by
        cases q : splitT ' ' t with
        | nil =>
          have : splitT ' ' t ≠ [] := by
            cases t with
            | nil => simp [splitT]
            | cons d t =>
              unfold splitT
              split
              · simp
              · split <;> simp
          exact absurd q this
        | cons p ps => rfl
      rw [e]
      by_cases hu : u = []
      · subst hu
        have e3 : sgn w (f, r, []) ' ' = (f, r, []) := by unfold sgn; rw [if_pos rfl, if_pos rfl]
        rw [e3, sgn_fold w t, e2]
        simp [headT, List.filter_cons]
      · have e3 : sgn w (f, r, u) ' ' = ((putW w (f, r) u).1, (putW w (f, r) u).2, []) := by unfold sgn; rw [if_pos rfl, if_neg hu]
        rw [e3, sgn_fold w t, e2]
        simp [headT, List.filter_cons, hu]
    · have e3 : sgn w (f, r, u) c = (f, r, u ++ [c]) := by unfold sgn; rw [if_neg hc]
      rw [e3, sgn_fold w t]
      have e : splitT ' ' (c :: t) = (match splitT ' ' t with
        | p :: ps => (c :: p) :: ps
        | [] => [[c]]) := by (rw [splitT, if_neg hc]) <;> (cases splitT ' ' t <;> rfl)
      rw [e]
      cases splitT ' ' t with
      | nil => rfl
      | cons p ps => simp [headT]
theorem sgn_line (w : Nat) (f : List Tx) (t : Tx) : ∃ r, (t ++ [' ']).foldl (sgn w) (f, [], []) = (f ++ ((wordT t).foldl (putW w) ([], [])).1, r, []) ∧ r = ((wordT t).foldl (putW w) ([], [])).2 := by
  refine ⟨_, ?_, rfl⟩
  rw [sgn_fold]
  have e2 : headT [] (splitT ' ' t) = splitT ' ' t := by
    cases q : splitT ' ' t with
    | nil =>
      have : splitT ' ' t ≠ [] := by
        cases t with
        | nil => simp [splitT]
        | cons d t =>
          unfold splitT
          split
          · simp
          · split <;> simp
      exact absurd q this
    | cons p ps => rfl
  rw [e2]
  have := fold_pre w f (wordT t) [] []
  rw [List.append_nil] at this
  show (((wordT t).foldl (putW w) (f, [])).1, ((wordT t).foldl (putW w) (f, [])).2, ([] : Tx)) = _
  rw [this]
/-- what may be ahead of a sign -/
structure SgnOk (base i : Nat) (x : List Tx × Tx × Tx) : Prop where
  f : x.1.length ≤ base + i * 1000
  r : x.2.1.length + x.2.2.length ≤ i
theorem SgnOk.step {w base i : Nat} {x : List Tx × Tx × Tx} (h : SgnOk base i x) (hi : i ≤ 998) (c : Char) : SgnOk base (i + 1) (sgn w x c) := by
  obtain ⟨h1, h2⟩ := h
  obtain ⟨f, r, u⟩ := x
  simp only at h1 h2
  unfold sgn
  simp only
  by_cases hc : c = ' '
  · rw [if_pos hc]
    by_cases hu : u = []
    · rw [if_pos hu]
      exact ⟨by simp only; omega, by simp only; omega⟩
    · rw [if_neg hu]
      obtain ⟨p1, p2⟩ := putW_len w (f, r) u
      simp only at p1 p2
      exact ⟨by simp only; omega, by simp only [List.length_nil]; omega⟩
  · rw [if_neg hc]
    refine ⟨by simp only; omega, ?_⟩
    simp only [List.length_append, List.length_cons, List.length_nil]
    omega
end Mr
/-! Plain law, 10: rows word by word; the greatest size that fits. -/
namespace Mr
open PySem PySem.Spec PyProof.Rows L2
theorem cut_win {α : Type} (l : List α) (a b : Nat) (h : a ≤ b) : cutL l (some (a : Int)) (some (b : Int)) = (l.drop a).take (b - a) := by
  unfold cutL
  rw [HT.sIx_nat, HT.sIx_nat]
  by_cases h1 : a ≤ l.length
  · rw [Nat.min_eq_left h1]
    by_cases h2 : b ≤ l.length
    · rw [Nat.min_eq_left h2]
    · rw [Nat.min_eq_right (by omega), List.take_of_length_le (by rw [List.length_drop]; omega), List.take_of_length_le (by rw [List.length_drop]; omega)]
  · have ha : min a l.length = l.length := by omega
    rw [ha, List.drop_of_length_le (Nat.le_refl _), List.drop_of_length_le (by omega)]
    simp
/-- how many parts a word has -/
def cntP (w n : Nat) : Nat := if 0 < n then (n - 1) / w + 1 else 0
def partsL (w : Nat) (x : Tx) : List Tx := (List.range (cntP w x.length)).map fun i => (x.drop (i * w)).take w
theorem parts_one {w : Nat} {x : Tx} (h : x ≠ []) (hl : x.length ≤ w) : partsL w x = [x] := by
  have hp : 0 < x.length := List.length_pos_iff.mpr h
  unfold partsL cntP
  rw [if_pos hp, Nat.div_eq_of_lt (by omega)]
  simp only [Nat.zero_add, List.range_one, List.map_cons, List.map_nil, Nat.zero_mul, List.drop_zero]
  rw [List.take_of_length_le hl]
theorem parts_cons {w : Nat} {x : Tx} (hw : 1 ≤ w) (hl : w < x.length) : partsL w x = x.take w :: partsL w (x.drop w) := by
  have e : cntP w x.length = cntP w (x.drop w).length + 1 := by
    unfold cntP
    rw [if_pos (by omega), List.length_drop, if_pos (by omega)]
    have : x.length - 1 = x.length - w - 1 + w := by omega
    rw [this, Nat.add_div_right _ hw]
  unfold partsL
  rw [e, List.range_succ_eq_map, List.map_cons, List.map_map]
  simp only [Nat.zero_mul, List.drop_zero]
  congr 1
  refine List.map_congr_left fun i _ => ?_
  simp only [Function.comp, List.drop_drop]
  congr 2
  rw [Nat.succ_mul]
  omega
theorem chop_parts {w : Nat} (hw : 1 ≤ w) : ∀ (n : Nat) (f : List Tx) (x : Tx), x ≠ [] → x.length ≤ n → (chop w n f x).1 ++ [(chop w n f x).2] = f ++ partsL w x
  | 0, f, x, h, hl => absurd (List.length_eq_zero_iff.mp (by omega)) h
  | n + 1, f, x, h, hl => by
    unfold chop
    by_cases hx : w < x.length
    · rw [if_pos hx, chop_parts hw n _ _ (by intro e; have := congrArg List.length e; rw [List.length_drop, List.length_nil] at this; omega) (by rw [List.length_drop]; omega), parts_cons hw hx, List.append_assoc]
      rfl
    · rw [if_neg hx, parts_one h (by omega)]
/-- rows, word by word -/
theorem put_parts {w : Nat} (hw : 1 ≤ w) {f : List Tx} {r x : Tx} (hx : x ≠ []) (hn : ¬ (r ≠ [] ∧ r.length + 1 + x.length ≤ w)) :
    (putW w (f, r) x).1 ++ [(putW w (f, r) x).2] = (if r = [] then f else f ++ [r]) ++ partsL w x := by
  unfold putW
  rw [if_neg hn]
  exact chop_parts hw _ _ _ hx (Nat.le_refl _)
section
variable {s : Store} {Φ : D → Store → Prop} {Ξ : Xc → Store → Prop}
theorem z_last (xs : List D) (d : D) : wz (opIx (.lst (xs ++ [d])) (.int (-1))) s Φ Ξ = Φ d s := by
  refine z_ix_lst ?_
  unfold atI ixN
  rw [if_neg (by decide), if_pos (by simp; omega)]
  simp only [Option.bind_some, List.length_append, List.length_cons, List.length_nil]
  have : (-1 + ((xs.length + (0 + 1) : Nat) : Int)).toNat = xs.length := by omega
  rw [this, List.getElem?_append_right (Nat.le_refl _), Nat.sub_self]
  rfl
theorem setI_last (xs : List D) (d y : D) : setI (-1) y (xs ++ [d]) = some (xs ++ [y]) := by
  unfold setI ixN
  rw [if_neg (by decide), if_pos (by simp; omega)]
  simp only [Option.map_some, List.length_append, List.length_cons, List.length_nil]
  have : (-1 + ((xs.length + (0 + 1) : Nat) : Int)).toNat = xs.length := by omega
  rw [this, List.set_append_right _ _ (Nat.le_refl _), Nat.sub_self]
  rfl
theorem parts_z {w : Nat} {x : Tx} {e : Ev} {Ψ : List D → Store → Prop} {i j l : Nat} (hw : 1 ≤ w) (hw2 : w ≤ 1000) (hx : x.length ≤ 1000) (hi : e[i]? = some (some (.str x))) (hl : e[l]? = some (some (.int (w : Int)))) (hij : i ≠ j) (hlj : l ≠ j) (hj : j < e.length)
    (q : Ψ ((partsL w x).map .str) s) : wz (compM [j] (gOne j) cYes (eSl (eVar i) (pSome (eVar j)) (pSome (eBin opAdd (eVar j) (eVar l)))) e (numsS 0 (w : Int) (if (0 : Int) < ((x.length : Nat) : Int) then ((((x.length : Nat) : Int) - 0 - 1) / (w : Int) + 1).toNat else 0))) s Ψ Ξ := by
  have ec : (if (0 : Int) < ((x.length : Nat) : Int) then ((((x.length : Nat) : Int) - 0 - 1) / (w : Int) + 1).toNat else 0) = cntP w x.length := by
    unfold cntP
    by_cases h : 0 < x.length
    · rw [if_pos h, if_pos (by omega)]
      have e1 : ((x.length : Nat) : Int) - 0 - 1 = ((x.length - 1 : Nat) : Int) := by omega
      rw [e1, ← Int.natCast_ediv]
      generalize (x.length - 1) / w = m
      omega
    · rw [if_neg h, if_neg (by omega)]
  rw [ec]
  have es : numsS 0 (w : Int) (cntP w x.length) = (List.range (cntP w x.length)).map fun i => D.int ((i * w : Nat) : Int) := by
    unfold numsS
    refine List.map_congr_left fun i _ => ?_
    rw [Int.zero_add, Int.natCast_mul]
  rw [es]
  refine comp_fm (f := fun i : Nat => D.int ((i * w : Nat) : Int)) (l := List.range (cntP w x.length)) (fun i => some (.str ((x.drop (i * w)).take w))) (fun n _ => ?_) ?_
  · have gj : ∀ o : Option D, ((e.set j none).set j o)[j]? = some o := fun o => List.getElem?_set_self (by rw [List.length_set]; exact hj)
    have gi : ∀ o : Option D, ((e.set j none).set j o)[i]? = some (some (.str x)) := fun o => by
      rw [List.getElem?_set_ne (Ne.symm hij), List.getElem?_set_ne (Ne.symm hij), hi]
    have gl : ∀ o : Option D, ((e.set j none).set j o)[l]? = some (some (.int (w : Int))) := fun o => by
      rw [List.getElem?_set_ne (Ne.symm hlj), List.getElem?_set_ne (Ne.symm hlj), hl]
    simp only [gOne, wipeE, List.foldl_cons, List.foldl_nil, stp, gj, gi, gl]
    have e1 : ((n * w : Nat) : Int) + (w : Int) = ((n * w + w : Nat) : Int) := by omega
    rw [e1, cut_win _ _ _ (by omega)]
    have e2 : n * w + w - n * w = w := by omega
    rw [e2]
  · have e1 : (List.range (cntP w x.length)).filterMap (fun i => some (D.str ((x.drop (i * w)).take w))) = (partsL w x).map .str := by
      unfold partsL
      rw [List.filterMap_eq_map', List.map_map]
      rfl
    rw [e1]
    exact q
theorem law_rows_z {b : Bool} {w : Nat} {ls : List Tx} (hw : 1 ≤ w) (hw2 : w ≤ 1000) (h : ∀ t ∈ ls, t.length ≤ 900) (hl : ls.length ≤ 15) (q : Φ (.lst ((wrapL w ls).map .str)) s) : wz (m__law_rows [linD b ls, .int (w : Int)]) s Φ Ξ := by
  simp only [m__law_rows, N__law_rows, b__law_rows, stp]
  refine seq_either ?_
  refine for_st (fun j : Nat => [some (linD b ls), some (.int (w : Int)), some (.lst ((wrapL w (ls.take j)).map .str)), none, none, none, none, none, none]) [3, 4, 5, 6, 7, 8] (fun j x s' => s' = s ∧ x = j) 0 (fl rfl) ⟨rfl, rfl⟩ (fun j d x v s' hj hI => ?_) fun x v s' hI => ?_
  · obtain ⟨rfl, rfl⟩ := hI
    obtain ⟨y, hy, rfl⟩ : ∃ y, ls[x]? = some y ∧ D.str y = d := by
      rw [List.getElem?_map] at hj
      cases q : ls[x]? with
      | none => rw [q] at hj; cases hj
      | some y => rw [q] at hj; exact ⟨y, rfl, Option.some.inj hj⟩
    have hlt : x < ls.length := (List.getElem?_eq_some_iff.mp hy).1
    have hy9 := h y (List.mem_of_getElem? hy)
    simp only [gOne, fill_cons, fill_nil, stp]
    rw [z_split (by omega) (by decide)]
    try simp only [stp]
    refine comp_fm (f := D.str) (l := splitT ' ' y) (fun x => if x ≠ [] then some (.str x) else none) (fun x _ => ?_) ?_
    · simp only [gOne, wipeE, List.foldl_cons, List.foldl_nil, stp]
      rw [z_ne_str, ne_nil]
      try simp only [stp]
      by_cases hx : x = []
      · subst hx
        simp
      · simp only [decide_eq_true hx, stp, if_pos hx]
    have ew : (splitT ' ' y).filterMap (fun x => if x ≠ [] then some (D.str x) else none) = (wordT y).map D.str := by
      unfold wordT
      generalize splitT ' ' y = l
      induction l with
      | nil => rfl
      | cons x l ih =>
        rw [List.filterMap_cons, List.filter_cons, ih]
        by_cases hx : x = [] <;> simp [hx]
    rw [ew]
    try simp only [stp]
    obtain ⟨wl, wx⟩ := words_len y
    have wl' : ∀ x ∈ wordT y, x.length ≤ 900 := fun x hx => by have := (wx x hx).1; omega
    refine for_st (fun z : List Tx × Tx => [some (linD b ls), some (.int (w : Int)), some (.lst ((wrapL w (ls.take x)).map .str)), some (.str y), some (.lst (z.1.map .str ++ [.str z.2])), none, v 6, none, v 8]) [5, 7] (fun j z s2 => s2 = s' ∧ j ≤ (wordT y).length ∧ z = stW w (wordT y) j) ([], []) ⟨fun i => if i = 5 then v 5 else v 7, rfl⟩ ⟨rfl, Nat.zero_le _, rfl⟩ (fun j d z v2 s2 hj hI => ?_) fun z v2 s2 hI => ?_
    · obtain ⟨rfl, hjl, hz⟩ := hI
      obtain ⟨u, hu, rfl⟩ : ∃ y', (wordT y)[j]? = some y' ∧ D.str y' = d := by
        rw [List.getElem?_map] at hj
        cases q : (wordT y)[j]? with
        | none => rw [q] at hj; cases hj
        | some y => rw [q] at hj; exact ⟨y, rfl, Option.some.inj hj⟩
      have hul := wl' u (List.mem_of_getElem? hu)
      have hu0 : u ≠ [] := (wx u (List.mem_of_getElem? hu)).2
      have hjlt : j < (wordT y).length := (List.getElem?_eq_some_iff.mp hu).1
      have st := stW_step (w := w) hu
      obtain ⟨b1, b2⟩ := stW_len (w := w) wl' j hjl
      rw [← hz] at st b1 b2
      have b3 : j * (900 + 1) ≤ 901 * 901 := Nat.mul_le_mul (by omega) (by omega)
      obtain ⟨f, r⟩ := z
      simp only at b1 b2
      have hp0 := putW_len w (f, r) u
      simp only at hp0
      simp only [gOne, fill_cons, fill_nil, stp]
      rw [z_last]
      try simp only [stp]
      rw [z_ne_str, ne_nil]
      have pcnt : (partsL w u).length ≤ 1001 := by
        unfold partsL cntP
        rw [List.length_map, List.length_range]
        have := Nat.div_le_self (u.length - 1) w
        split <;> omega
      have els : ¬ (r ≠ [] ∧ r.length + 1 + u.length ≤ w) → (putW w (f, r) u).1.map D.str ++ [D.str (putW w (f, r) u).2] = (if r = [] then f else f ++ [r]).map D.str ++ (partsL w u).map .str := fun hn => by
        have := congrArg (List.map D.str) (put_parts hw (f := f) hu0 hn)
        rw [List.map_append, List.map_append] at this
        exact this
      by_cases hr : r = []
      · subst hr
        have els := els (by simp)
        rw [if_pos rfl] at els
        simp only [ne_eq, not_true_eq_false, decide_false, stp]
        rw [z_rngS ⟨by omega, by omega, by omega, by omega, by omega, by omega⟩]
        refine parts_z hw hw2 (by omega) rfl rfl (by decide) (by decide) (show 8 < 9 by decide) ?_
        try simp only [stp]
        rw [z_last]
        try simp only [stp]
        refine (okz (a := D.int 1) (s' := s2) rfl).mpr ?_
        try simp only [stp]
        have e5 : (((f.map D.str ++ [D.str []]).length : Nat) : Int) - 1 = ((f.length : Nat) : Int) := by simp
        rw [e5, cut_to, List.take_left' (List.length_map ..)]
        try simp only [stp]
        rw [z_addL (by simp only [List.length_map]; have := pcnt; omega), ← els]
        exact ⟨_, fl rfl, rfl, hjlt, st.symm⟩
      · simp only [ne_eq, hr, not_false_eq_true, decide_true, stp]
        rw [z_last]
        try simp only [stp]
        by_cases hf : r.length + 1 + u.length ≤ w
        · have hf' : ((r.length : Nat) : Int) + 1 + ((u.length : Nat) : Int) ≤ (w : Int) := by omega
          simp only [decide_eq_true hf', stp]
          rw [z_last]
          try simp only [stp]
          rw [z_add_str _ _ (by simp; omega)]
          try simp only [stp]
          rw [z_add_str _ _ (by simp; omega)]
          try simp only [stp]
          rw [setI_last]
          try simp only [stp]
          have pw2 : putW w (f, r) u = (f, r ++ ' ' :: u) := by
            unfold putW
            rw [if_pos ⟨hr, hf⟩]
          rw [pw2] at st
          refine ⟨(f, r ++ ' ' :: u), fl ?_, hjlt, st.symm⟩
          rw [List.append_assoc]
          rfl
        · have hf' : ¬ ((r.length : Nat) : Int) + 1 + ((u.length : Nat) : Int) ≤ (w : Int) := by omega
          have els := els fun z => hf z.2
          rw [if_neg hr] at els
          simp only [decide_eq_false hf', stp]
          rw [z_rngS ⟨by omega, by omega, by omega, by omega, by omega, by omega⟩]
          refine parts_z hw hw2 (by omega) rfl rfl (by decide) (by decide) (show 8 < 9 by decide) ?_
          try simp only [stp]
          rw [z_last]
          try simp only [stp]
          have hr' : (r == ([] : Tx)) = false := by cases r with
            | nil => exact absurd rfl hr
            | cons c r => rfl
          rw [hr']
          refine (okz (a := D.int 0) (s' := s2) rfl).mpr ?_
          try simp only [stp]
          have e5 : (((f.map D.str ++ [D.str r]).length : Nat) : Int) - 0 = (((f.map D.str ++ [D.str r]).length : Nat) : Int) := by omega
          rw [e5, cut_to, List.take_length]
          try simp only [stp]
          have e6 : f.map D.str ++ [D.str r] = (f ++ [r]).map D.str := by rw [List.map_append]; rfl
          rw [e6, z_addL (by simp only [List.length_map, List.length_append, List.length_cons, List.length_nil]; have := pcnt; omega), ← els]
          exact ⟨_, fl rfl, rfl, hjlt, st.symm⟩
    · obtain ⟨rfl, _, hz⟩ := hI
      rw [List.length_map] at hz
      simp only [fill_cons, fill_nil, stp]
      have e : z.1.map D.str ++ [D.str z.2] = (rowsL w y).map D.str := by
        rw [hz]
        unfold stW rowsL
        rw [List.take_length, List.map_append]
        rfl
      rw [e]
      have l1 := wrapL_len (w := w) (ls := ls.take x) fun t ht => h t (List.mem_of_mem_take ht)
      have l2 := rowsL_len (w := w) hy9
      have l3 : (ls.take x).length * 811802 ≤ 14 * 811802 := Nat.mul_le_mul (by rw [List.length_take]; omega) (Nat.le_refl _)
      rw [z_add_lst2 _ _ (by omega), ← wrapL_snoc]
      have e2 : ls.take x ++ [y] = ls.take (x + 1) := by rw [List.take_add_one, hy, Option.toList_some]
      rw [e2]
      exact ⟨x + 1, fl rfl, rfl, rfl⟩
  · obtain ⟨rfl, rfl⟩ := hI
    simp only [fill_cons, fill_nil, stp]
    rw [List.length_map, List.take_length]
    exact q
/-! ### the greatest size -/
def fitP (ls : List Tx) (wide high one : Nat) : Bool := decide (1 ≤ wide / one) && decide ((wrapL (wide / one) ls).length ≤ high / one)
def sizeO (ls : List Tx) (wide high size : Nat) : Option D := (List.range size).findSome? fun i => if fitP ls wide high (size - i) then some (.int (((size - i : Nat)) : Int)) else none
def sizeD (ls : List Tx) (wide high size : Nat) : D := (sizeO ls wide high size).getD .non
theorem fdiv_nat (a b : Nat) : Int.fdiv (a : Int) (b : Int) = ((a / b : Nat) : Int) := by
  rw [Int.fdiv_eq_ediv_of_nonneg _ (by omega), ← Int.natCast_ediv]
theorem ge_one {n : Nat} : decide ((1 : Int) ≤ ((n : Nat) : Int)) = decide (1 ≤ n) := by
  congr 1
  exact propext ⟨fun _ => by omega, fun _ => by omega⟩
theorem le_nat {n m : Nat} : decide (((n : Nat) : Int) ≤ ((m : Nat) : Int)) = decide (n ≤ m) := by
  congr 1
  exact propext ⟨fun _ => by omega, fun _ => by omega⟩
theorem fit_z {b : Bool} {wide high one : Nat} {ls : List Tx} (h1 : 1 ≤ one) (h2 : one ≤ 1000) (h : ∀ t ∈ ls, t.length ≤ 900) (hl : ls.length ≤ 15) (q : Φ (.bl (fitP ls wide high one)) s) : wz (m_fit [linD b ls, .int (wide : Int), .int (high : Int), .int (one : Int)]) s Φ Ξ := by
  simp only [m_fit, N_fit, b_fit, stp]
  rw [z_div_int _ _ (by omega) (by omega), fdiv_nat]
  try simp only [stp]
  rw [ge_one]
  unfold fitP at q
  by_cases hw : 1 ≤ wide / one
  · simp only [decide_eq_true hw, Bool.true_and, stp] at q ⊢
    rw [z_div_int _ _ (by omega) (by omega), fdiv_nat]
    try simp only [stp]
    refine wrapped_z hw h hl ?_
    try simp only [stp]
    rw [z_div_int _ _ (by omega) (by omega), fdiv_nat]
    try simp only [stp]
    rw [List.length_map, le_nat]
    exact q
  · simp only [decide_eq_false hw, Bool.false_and, stp] at q ⊢
    exact q
theorem numsD_map (n : Nat) : numsD (n : Int) ((n : Int) - 0).toNat = (List.range n).map fun i => D.int ((n : Int) - (i : Nat)) := by
  have e : ((n : Int) - 0).toNat = n := by omega
  rw [e]
  rfl
theorem greatest_z {b : Bool} {wide high size : Nat} {ls : List Tx} (h2 : size ≤ 1000) (h : ∀ t ∈ ls, t.length ≤ 900) (hl : ls.length ≤ 15) (q : Φ (sizeD ls wide high size) s) : wz (m_greatest_size [linD b ls, .int (wide : Int), .int (high : Int), .int (size : Int)]) s Φ Ξ := by
  simp only [m_greatest_size, N_greatest_size, b_greatest_size, stp]
  rw [z_rngD ⟨by omega, by omega⟩ ⟨by omega, by omega⟩, numsD_map]
  refine for_look [4] (fun i => if fitP ls wide high (size - i) then some (.int (((size - i : Nat)) : Int)) else none) (show ∀ i ∈ [4], i < 5 by decide) (fun i hi v => ?_) (fun r hr => ?_) fun hr v => ?_
  · have hi := List.mem_range.mp hi
    have e : (size : Int) - (i : Nat) = ((size - i : Nat) : Int) := by omega
    simp only [gOne, fill_cons, fill_nil, stp, e]
    refine fit_z (by omega) (by omega) h hl ?_
    try simp only [stp]
    cases hf : fitP ls wide high (size - i) with
    | true =>
      simp only [stp]
      exact if_pos trivial
    | false =>
      simp only [stp]
      exact ⟨if_neg fun z => z, fl rfl⟩
  · unfold sizeD sizeO at q
    rw [hr] at q
    exact q
  · unfold sizeD sizeO at q
    rw [hr] at q
    simp only [fill_cons, fill_nil, stp]
    exact q
theorem law_size_z {b : Bool} {wide high size : Nat} {ls : List Tx} (hw9 : wide ≤ 1000) (h2 : size ≤ 1000) (h : ∀ t ∈ ls, t.length ≤ 900) (hl : ls.length ≤ 15) (q : Φ (sizeD ls wide high size) s) : wz (m__law_size [linD b ls, .int (wide : Int), .int (high : Int), .int (size : Int)]) s Φ Ξ := by
  simp only [m__law_size, N__law_size, b__law_size, stp]
  rw [z_rngD ⟨by omega, by omega⟩ ⟨by omega, by omega⟩, numsD_map]
  refine for_look [4] (fun i => if fitP ls wide high (size - i) then some (.int (((size - i : Nat)) : Int)) else none) (show ∀ i ∈ [4], i < 5 by decide) (fun i hi v => ?_) (fun r hr => ?_) fun hr v => ?_
  · have hi := List.mem_range.mp hi
    have e : (size : Int) - (i : Nat) = ((size - i : Nat) : Int) := by omega
    simp only [gOne, fill_cons, fill_nil, stp, e]
    rw [z_div_int _ _ (by omega) (by omega), fdiv_nat]
    try simp only [stp]
    rw [ge_one]
    unfold fitP
    by_cases hw : 1 ≤ wide / (size - i)
    · simp only [decide_eq_true hw, Bool.true_and, stp]
      rw [z_div_int _ _ (by omega) (by omega), fdiv_nat]
      try simp only [stp]
      refine law_rows_z hw (Nat.le_trans (Nat.div_le_self ..) hw9) h hl ?_
      try simp only [stp]
      rw [z_div_int _ _ (by omega) (by omega), fdiv_nat]
      try simp only [stp]
      rw [List.length_map, le_nat]
      by_cases hf : (wrapL (wide / (size - i)) ls).length ≤ high / (size - i)
      · simp only [decide_eq_true hf, stp]
        rw [decide_eq_true hw]
        rfl
      · simp only [decide_eq_false hf, stp]
        exact ⟨by rw [decide_eq_true hw]; rfl, fl rfl⟩
    · simp only [decide_eq_false hw, Bool.false_and, stp]
      exact ⟨if_neg fun z => z, fl rfl⟩
  · unfold sizeD sizeO at q
    rw [hr] at q
    exact q
  · unfold sizeD sizeO at q
    rw [hr] at q
    simp only [fill_cons, fill_nil, stp]
    exact q
theorem sizeD_flat (ls : List Tx) (wide high size : Nat) : sizeD ls wide high size = .non ∨ ∃ i : Int, sizeD ls wide high size = .int i := by
  unfold sizeD
  cases q : sizeO ls wide high size with
  | none => exact .inl rfl
  | some d =>
    unfold sizeO at q
    obtain ⟨i, _, h⟩ := List.exists_of_findSome?_eq_some q
    split at h
    · cases h
      exact .inr ⟨_, rfl⟩
    · cases h
end
end Mr
/-! law_k34_what_fits: what its defs compute (printed by gen.py) -/
namespace Pf
open PySem PySem.Spec PyProof.Rows L2 Mr
def top (i : Nat) : Stmt := PySem.Challenge.pw_mastershow_k34_what_fits.main.body.getD i (.Pass ⟨0, 0, 0, 0⟩)
def d_is_whole : He.DefD := ⟨("is_whole", none), "is_whole", "is_whole", defArgs (top 31), defBody (top 31), defScope (top 31), [], []⟩
def d_is_from : He.DefD := ⟨("is_from", none), "is_from", "is_from", defArgs (top 32), defBody (top 32), defScope (top 32), [], []⟩
def d_is_name : He.DefD := ⟨("is_name", none), "is_name", "is_name", defArgs (top 33), defBody (top 33), defScope (top 33), [], []⟩
def d_is_trait : He.DefD := ⟨("is_trait", none), "is_trait", "is_trait", defArgs (top 34), defBody (top 34), defScope (top 34), [], []⟩
def d_must_be_trait : He.DefD := ⟨("must_be_trait", none), "must_be_trait", "must_be_trait", defArgs (top 35), defBody (top 35), defScope (top 35), [], []⟩
def d_is_worth : He.DefD := ⟨("is_worth", none), "is_worth", "is_worth", defArgs (top 36), defBody (top 36), defScope (top 36), [], []⟩
def d_words_in : He.DefD := ⟨("words_in", none), "words_in", "words_in", defArgs (top 38), defBody (top 38), defScope (top 38), [], []⟩
def d_rows_in : He.DefD := ⟨("rows_in", none), "rows_in", "rows_in", defArgs (top 39), defBody (top 39), defScope (top 39), [], []⟩
def d_wrapped : He.DefD := ⟨("wrapped", none), "wrapped", "wrapped", defArgs (top 40), defBody (top 40), defScope (top 40), [], []⟩
def d_fit : He.DefD := ⟨("fit", none), "fit", "fit", defArgs (top 41), defBody (top 41), defScope (top 41), [], []⟩
def d_greatest_size : He.DefD := ⟨("greatest_size", none), "greatest_size", "greatest_size", defArgs (top 42), defBody (top 42), defScope (top 42), [], []⟩
def d_shrunk_to : He.DefD := ⟨("shrunk_to", none), "shrunk_to", "shrunk_to", defArgs (top 43), defBody (top 43), defScope (top 43), [], []⟩
def d__law_pen : He.DefD := ⟨("_law_pen", none), "_law_pen", "_law_pen", defArgs (top 45), defBody (top 45), defScope (top 45), [], []⟩
def d__law_draw : He.DefD := ⟨("_law_draw", none), "_law_draw", "_law_draw", defArgs (top 46), defBody (top 46), defScope (top 46), [], []⟩
def d__law_line : He.DefD := ⟨("_law_line", none), "_law_line", "_law_line", defArgs (top 47), defBody (top 47), defScope (top 47), [], []⟩
def d__law_lines : He.DefD := ⟨("_law_lines", none), "_law_lines", "_law_lines", defArgs (top 48), defBody (top 48), defScope (top 48), [], []⟩
def d__law_rows : He.DefD := ⟨("_law_rows", none), "_law_rows", "_law_rows", defArgs (top 50), defBody (top 50), defScope (top 50), [], []⟩
def d__law_size : He.DefD := ⟨("_law_size", none), "_law_size", "_law_size", defArgs (top 51), defBody (top 51), defScope (top 51), [], []⟩
def d__law_word : He.DefD := ⟨("_law_word", none), "_law_word", "_law_word", defArgs (top 52), defBody (top 52), defScope (top 52), [], []⟩
def d__law_told : He.DefD := ⟨("_law_told", none), "_law_told", "_law_told", defArgs (top 53), defBody (top 53), defScope (top 53), [], []⟩
def d_law : He.DefD := ⟨("law", none), "law", "law", defArgs (top 54), defBody (top 54), defScope (top 54), [], []⟩
def fn : List He.DefD := [d_is_whole, d_is_from, d_is_name, d_is_trait, d_must_be_trait, d_is_worth, d_words_in, d_rows_in, d_wrapped, d_fit, d_greatest_size, d_shrunk_to, d__law_pen, d__law_draw, d__law_line, d__law_lines, d__law_rows, d__law_size, d__law_word, d__law_told, d_law]
def fa : List He.Fa := [.free "range", .free "list", .free "min", .free "int", .free "max", .free "len", .free "tuple", .glo "DeckError", .free "isinstance", .free "str", .free "bool", .exc "NoRoom", .glo "NoRoom", .glo "BOUNDS", .str "LETTERS" "abcdefghijklmnopqrstuvwxyz", .int "LONGEST_NAME" (8), .free "all", .str "FIGURES" "0123456789", .exc "NoTrait", .glo "NoTrait", .glo "NoMaster", .glo "NoLink", .glo "NoDeed", .glo "NoDeck", .glo "NoPress", .glo "NoPlace", .glo "NoNumber", .glo "NoName", .glo "NoShow", .glo "NoSetting", .glo "NoRow", .glo "NoTime", .glo "NoText", .glo "NoSteps", .glo "NoSlide", .glo "Ring", .glo "NoWorth", .glo "NoWord", .glo "Used", .glo "TooMany", .glo "Taken", .free "ValueError", .glo "_law_draw", .glo "_law_line", .glo "_law_lines", .glo "_law_rows", .glo "_law_size", .glo "is_whole", .glo "is_from", .glo "is_name", .glo "is_trait", .glo "must_be_trait", .glo "is_worth", .glo "words_in", .glo "rows_in", .glo "wrapped", .glo "fit", .glo "greatest_size", .glo "shrunk_to", .glo "_law_word", .glo "_law_told", .glo "_law_pen", .glo "law"]
def exs : List (Str × D) := [("TRAITS", (.tup [(.str ['l', 'e', 'f', 't']), (.str ['t', 'o', 'p']), (.str ['w', 'i', 'd', 'e']), (.str ['h', 'i', 'g', 'h']), (.str ['s', 'i', 'z', 'e']), (.str ['i', 'n', 'k'])]))]
def ts : List (Str × List (Tx × D)) := [("BOUNDS", tv_BOUNDS)]
def tf : List He.Defn := []
def xs : List Str := ["NoRoom", "NoTrait"]
def tabs : List He.Tab := [(fun K => He.ga K "BOUNDS", ["left", "top", "wide", "high", "size"])]
theorem sc__law_pen : FnScope ["script"] ["script"] (defScope (top 45)) := ⟨rfl, rfl, rfl, by decide +kernel, rfl, by decide +kernel, by decide +kernel⟩
theorem sc__law_draw : FnScope N__law_draw ["pen", "many"] (defScope (top 46)) := ⟨rfl, rfl, rfl, by decide +kernel, rfl, by decide +kernel, by decide +kernel⟩
theorem sc__law_line : FnScope N__law_line ["pen"] (defScope (top 47)) := ⟨rfl, rfl, rfl, by decide +kernel, rfl, by decide +kernel, by decide +kernel⟩
def N__law_lines : List Str := ["pen", "many", "long", "k"]
theorem sc__law_lines : FnScope N__law_lines ["pen"] (defScope (top 48)) := ⟨rfl, rfl, rfl, by decide +kernel, rfl, by decide +kernel, by decide +kernel⟩
theorem sc__law_rows : FnScope N__law_rows ["lines", "wide"] (defScope (top 50)) := ⟨rfl, rfl, rfl, by decide +kernel, rfl, by decide +kernel, by decide +kernel⟩
theorem sc__law_size : FnScope N__law_size ["lines", "wide", "high", "size"] (defScope (top 51)) := ⟨rfl, rfl, rfl, by decide +kernel, rfl, by decide +kernel, by decide +kernel⟩
theorem sc_is_whole : FnScope N_is_whole ["thing"] (defScope (top 31)) := ⟨rfl, rfl, rfl, by decide +kernel, rfl, by decide +kernel, by decide +kernel⟩
theorem sc_is_from : FnScope N_is_from ["thing", "least", "most"] (defScope (top 32)) := ⟨rfl, rfl, rfl, by decide +kernel, rfl, by decide +kernel, by decide +kernel⟩
theorem sc_is_name : FnScope N_is_name ["thing"] (defScope (top 33)) := ⟨rfl, rfl, rfl, by decide +kernel, rfl, by decide +kernel, by decide +kernel⟩
theorem sc_is_trait : FnScope N_is_trait ["thing"] (defScope (top 34)) := ⟨rfl, rfl, rfl, by decide +kernel, rfl, by decide +kernel, by decide +kernel⟩
theorem sc_must_be_trait : FnScope N_must_be_trait ["thing"] (defScope (top 35)) := ⟨rfl, rfl, rfl, by decide +kernel, rfl, by decide +kernel, by decide +kernel⟩
theorem sc_is_worth : FnScope N_is_worth ["trait", "thing"] (defScope (top 36)) := ⟨rfl, rfl, rfl, by decide +kernel, rfl, by decide +kernel, by decide +kernel⟩
theorem sc_words_in : FnScope N_words_in ["line"] (defScope (top 38)) := ⟨rfl, rfl, rfl, by decide +kernel, rfl, by decide +kernel, by decide +kernel⟩
theorem sc_rows_in : FnScope N_rows_in ["line", "wide"] (defScope (top 39)) := ⟨rfl, rfl, rfl, by decide +kernel, rfl, by decide +kernel, by decide +kernel⟩
theorem sc_wrapped : FnScope N_wrapped ["lines", "wide"] (defScope (top 40)) := ⟨rfl, rfl, rfl, by decide +kernel, rfl, by decide +kernel, by decide +kernel⟩
theorem sc_fit : FnScope N_fit ["lines", "wide", "high", "size"] (defScope (top 41)) := ⟨rfl, rfl, rfl, by decide +kernel, rfl, by decide +kernel, by decide +kernel⟩
theorem sc_greatest_size : FnScope N_greatest_size ["lines", "wide", "high", "size"] (defScope (top 42)) := ⟨rfl, rfl, rfl, by decide +kernel, rfl, by decide +kernel, by decide +kernel⟩
def N_shrunk_to : List Str := ["lines", "wide", "high", "size"]
theorem sc_shrunk_to : FnScope N_shrunk_to ["lines", "wide", "high", "size"] (defScope (top 43)) := ⟨rfl, rfl, rfl, by decide +kernel, rfl, by decide +kernel, by decide +kernel⟩
theorem sc__law_word : FnScope N__law_word ["e"] (defScope (top 52)) := ⟨rfl, rfl, rfl, by decide +kernel, rfl, by decide +kernel, by decide +kernel⟩
def N__law_told : List Str := ["lines", "wide", "high", "size", "kept", "found", "e"]
theorem sc__law_told : FnScope N__law_told ["lines", "wide", "high", "size"] (defScope (top 53)) := ⟨rfl, rfl, rfl, by decide +kernel, rfl, by decide +kernel, by decide +kernel⟩
def N_law : List Str := ["script", "pen", "k", "lines", "wide", "high", "size", "due", "handed", "some", "change", "odd", "far", "room", "most"]
theorem sc_law : FnScope N_law ["script"] (defScope (top 54)) := ⟨rfl, rfl, rfl, by decide +kernel, rfl, by decide +kernel, by decide +kernel⟩
def b__law_lines : SM := (sSeq (sIf (tBin opEq (eFn m__law_draw (lCons (eVar 0) (lCons (eC (.int (4))) lNil))) (eC (.int (0))))
  (sSeq (sSet 2 (eComp [3] (iRng (eBin opAdd (eC (.int (1))) (eFn m__law_draw (lCons (eVar 0) (lCons (eC (.int (8))) lNil))))) (gOne 3) cYes (eBin opMul (eBin opIx (eC (.str ['a', 'b', 'c', 'd', 'e', 'f', 'g', 'h'])) (eVar 3)) (eBin opAdd (eC (.int (1))) (eFn m__law_draw (lCons (eVar 0) (lCons (eC (.int (90))) lNil)))))))
  (sRet (eUn fTuple (eComp [3] (iRng (eBin opAdd (eC (.int (1))) (eFn m__law_draw (lCons (eVar 0) (lCons (eC (.int (9))) lNil))))) (gOne 3) cYes (eSl (eMeth fJoin (eC (.str [' '])) (eSl (eVar 2) pNo (pSome (eBin opAdd (eC (.int (1))) (eFn m__law_draw (lCons (eVar 0) (lCons (eC (.int (8))) lNil))))))) pNo (pSome (eC (.int (400)))))))))
  sNext)
  (sSeq (sSet 1 (eBin opIx (eLst (lCons (eFn m__law_draw (lCons (eVar 0) (lCons (eC (.int (4))) lNil))) (lCons (eFn m__law_draw (lCons (eVar 0) (lCons (eC (.int (4))) lNil))) (lCons (eC (.int (12))) lNil)))) (eFn m__law_draw (lCons (eVar 0) (lCons (eC (.int (3))) lNil)))))
  (sRet (eUn fTuple (eComp [3] (iRng (eVar 1)) (gOne 3) cYes (eSl (eFn m__law_line (lCons (eVar 0) lNil)) pNo (pSome (eBin opIx (eLst (lCons (eC (.int (60))) (lCons (eC (.int (12))) lNil))) (eUn fInt (eBin opGt (eVar 1) (eC (.int (3)))))))))))))
def m__law_lines : List D → M D := runB false N__law_lines b__law_lines
def b_shrunk_to : SM := (sSeq (sIf (tOr' (tNot' (tVal (eFn m_is_worth (lCons (eC (.str ['w', 'i', 'd', 'e'])) (lCons (eVar 1) lNil))))) (tOr' (tNot' (tVal (eFn m_is_worth (lCons (eC (.str ['h', 'i', 'g', 'h'])) (lCons (eVar 2) lNil))))) (tNot' (tVal (eFn m_is_worth (lCons (eC (.str ['s', 'i', 'z', 'e'])) (lCons (eVar 3) lNil)))))))
  (sRaise "NoRoom")
  sNext)
  (sRet (eFn m_greatest_size (lCons (eVar 0) (lCons (eVar 1) (lCons (eVar 2) (lCons (eVar 3) lNil)))))))
def m_shrunk_to : List D → M D := runB false N_shrunk_to b_shrunk_to
def b__law_told : SM := (sSeq (sSet 4 (eC .non))
  (sSeq (sSet 5 (eC .non))
  (sSeq (sTry "DeckError" 6
  (sSet 5 (eFn m_shrunk_to (lCons (eVar 0) (lCons (eVar 1) (lCons (eVar 2) (lCons (eVar 3) lNil))))))
  (sSet 4 (eVar 6)))
  (sSeq (sIf (tBin opIsNot (eVar 4) (eC .non))
  (sRet (eFn m__law_word (lCons (eVar 4) lNil)))
  sNext)
  (sRet (eIf (tVal (eUn (fIs2 "str" "bool") (eVar 5))) (eC (.str ['a', ' ', 't', 'e', 'x', 't'])) (eVar 5)))))))
def m__law_told : List D → M D := runB false N__law_told b__law_told
def b_law : SM := (sSeq (sFor (iRng (eBin opAdd (eC (.int (1))) (eFn m__law_draw (lCons (eVar 1) (lCons (eC (.int (10))) lNil))))) (gOne 2)
  (sSeq (sSet 3 (eFn m__law_lines (lCons (eVar 1) lNil)))
  (sSeq (sSet 4 (eBin opIx (eLst (lCons (eBin opAdd (eC (.int (1))) (eFn m__law_draw (lCons (eVar 1) (lCons (eC (.int (20))) lNil)))) (lCons (eBin opAdd (eC (.int (1))) (eFn m__law_draw (lCons (eVar 1) (lCons (eC (.int (999))) lNil)))) (lCons (eC (.int (999))) lNil)))) (eFn m__law_draw (lCons (eVar 1) (lCons (eC (.int (3))) lNil)))))
  (sSeq (sSet 5 (eBin opIx (eLst (lCons (eBin opAdd (eC (.int (1))) (eFn m__law_draw (lCons (eVar 1) (lCons (eC (.int (12))) lNil)))) (lCons (eBin opAdd (eC (.int (1))) (eFn m__law_draw (lCons (eVar 1) (lCons (eC (.int (999))) lNil)))) (lCons (eC (.int (999))) lNil)))) (eFn m__law_draw (lCons (eVar 1) (lCons (eC (.int (3))) lNil)))))
  (sSeq (sSet 6 (eBin opIx (eLst (lCons (eC (.int (1))) (lCons (eBin opAdd (eC (.int (1))) (eFn m__law_draw (lCons (eVar 1) (lCons (eC (.int (9))) lNil)))) (lCons (eBin opAdd (eC (.int (1))) (eFn m__law_draw (lCons (eVar 1) (lCons (eC (.int (99))) lNil)))) (lCons (eC (.int (99))) lNil))))) (eFn m__law_draw (lCons (eVar 1) (lCons (eC (.int (4))) lNil)))))
  (sSeq (sSet 7 (eFn m__law_size (lCons (eVar 3) (lCons (eVar 4) (lCons (eVar 5) (lCons (eVar 6) lNil))))))
  (sSeq (sSet 8 (eUn fList (eVar 3)))
  (sSeq (sFor (iSeq (eTup (lCons (eVar 3) (lCons (eVar 8) (lCons (eVar 3) lNil))))) (gOne 9)
  (sIf (tOr' (tBin opNe (eFn m__law_told (lCons (eVar 9) (lCons (eVar 4) (lCons (eVar 5) (lCons (eVar 6) lNil))))) (eVar 7)) (tBin opNe (eVar 8) (eUn fList (eVar 3))))
  (sRet (eC (.bl false)))
  sNext))
  (sSeq (sFor (iRng (eC (.int (4)))) (gOne 10)
  (sSeq (sSet 13 (eLst (lCons (eBin fMin (eC (.int (999))) (eBin opAdd (eVar 4) (eBin opMul (eUn fInt (eBin opEq (eVar 10) (eC (.int (0))))) (eC (.int (7)))))) (lCons (eBin fMin (eC (.int (999))) (eBin opAdd (eVar 5) (eBin opMul (eUn fInt (eBin opEq (eVar 10) (eC (.int (1))))) (eC (.int (3)))))) lNil))))
  (sSeq (sSet 14 (eBin fMax (eC (.int (1))) (eBin opSub (eVar 6) (eUn fInt (eBin opEq (eVar 10) (eC (.int (2))))))))
  (sSeq (sSet 9 (eIf (tAnd' (tBin opEq (eVar 10) (eC (.int (3)))) (tBin opLt (eUn fLen (eVar 3)) (eC (.int (12))))) (eBin opAdd (eVar 3) (eTup (lCons (eC (.str ['o', 'n', 'e', ' ', 'm', 'o', 'r', 'e'])) lNil))) (eVar 3)))
  (sIf (tBin opNe (eFn m__law_told (lCons (eVar 9) (lCons (eBin opIx (eVar 13) (eC (.int (0)))) (lCons (eBin opIx (eVar 13) (eC (.int (1)))) (lCons (eVar 14) lNil))))) (eFn m__law_size (lCons (eVar 9) (lCons (eBin opIx (eVar 13) (eC (.int (0)))) (lCons (eBin opIx (eVar 13) (eC (.int (1)))) (lCons (eVar 14) lNil))))))
  (sRet (eC (.bl false)))
  sNext)))))
  (sSeq (sSet 11 (eBin opIx (eLst (lCons (eC (.int (0))) (lCons (eUn opNeg (eC (.int (1)))) (lCons (eC (.int (1000))) (lCons (eC (.bl true)) (lCons (eC .non) (lCons (eC (.str ['5'])) (lCons (eLst (lCons (eC (.int (1))) lNil)) lNil)))))))) (eFn m__law_draw (lCons (eVar 1) (lCons (eC (.int (7))) lNil)))))
  (sSeq (sSet 12 (eBin opIx (eLst (lCons (eC (.int (0))) (lCons (eC (.int (100))) (lCons (eC (.bl true)) (lCons (eC .non) (lCons (eC (.str ['1'])) lNil)))))) (eFn m__law_draw (lCons (eVar 1) (lCons (eC (.int (5))) lNil)))))
  (sFor (iSeq (eLst (lCons (eTup (lCons (eVar 11) (lCons (eVar 5) (lCons (eVar 6) lNil)))) (lCons (eTup (lCons (eVar 4) (lCons (eVar 11) (lCons (eVar 6) lNil)))) (lCons (eTup (lCons (eVar 4) (lCons (eVar 5) (lCons (eVar 12) lNil)))) (lCons (eTup (lCons (eVar 11) (lCons (eVar 11) (lCons (eVar 12) lNil)))) lNil)))))) (gOne 9)
  (sIf (tBin opNe (eFn m__law_told (lCons (eVar 3) (lCons (eBin opIx (eVar 9) (eC (.int (0)))) (lCons (eBin opIx (eVar 9) (eC (.int (1)))) (lCons (eBin opIx (eVar 9) (eC (.int (2)))) lNil))))) (eC (.str ['r', 'o', 'o', 'm'])))
  (sRet (eC (.bl false)))
  sNext)))))))))))))
  (sRet (eC (.bl true))))
section
variable {P : Program} {w : World} {K : PySem.W.Frag} {mg : Str → Option Value} {base h : Heap}
theorem f__law_pen {fd : FuncData} (T : Tw K w mg base h fa fn exs ts tabs tf xs) (F : FunD K "_law_pen" "_law_pen" (defArgs (top 45)) (defBody (top 45)) (defScope (top 45)) [] [] (He.ga K "_law_pen") fd) : FnOk P w K mg base (L2.CX P w) 1 (He.ga K "_law_pen") fd ["script"] (spPen K) :=
  pen_ok F sc__law_pen fun cdv A outer s H E hr => pss_one (ps_ret (pe_lst (pa_cons (pe_callTy call_list_of rfl (T.u.t.free 1) (by decide +kernel) (pa_cons (pe_slice sl_list (pv 0) po_none (po_some pe_int)) pa_nil)) (pa_cons pe_int (pa_cons pe_int pa_nil)))))
theorem f__law_draw (T : Tw K w mg base h fa fn exs ts tabs tf xs) : Df P w K mg base "_law_draw" 1 false 2 m__law_draw :=
  df_of (Ωe := []) (T.u.t.glo 42) (T.u.t.c.def_ 13 (d := d__law_draw) rfl) sc__law_draw (fun _ _ _ _ _ _ us hl => match us, hl with | [_, _], _ => rfl) fun cdv A outer s H E en hr =>
  (q_cons (q_if (pt_c1 c_gt (po_V (pv_ix (po_V (pv_var 0)) (po_V pv_int))) (po_V pv_int) (by rfl))
  (q_cons (q_set sc__law_draw.nd rfl (pv_mod (po_V (pv_ix (po_V (pv_var 0)) (po_V pv_int))) (po_V (pv_var 1))))
  (q_cons (q_setr (pv_div (po_V (pv_ix (po_V (pv_var 0)) (po_V pv_int))) (po_V (pv_var 1))) (po_V (pv_var 0)) (po_V pv_int))
  (q_one (q_ret (pv_var 5)))))
  q_nil)
  (q_cons (q_set sc__law_draw.nd rfl (pv_ix (po_V (pv_var 0)) (po_V pv_int)))
  (q_cons (q_setr (pv_add (po_V (pv_var 2)) (po_V pv_int)) (po_V (pv_var 0)) (po_V pv_int))
  (q_cons (q_set sc__law_draw.nd rfl pv_int)
  (q_cons (q_if (pt_c1 c_gt (po_V (pv_len rfl (T.u.t.free 5) (po_V (pv_ix (po_V (pv_var 0)) (po_V pv_int))))) (po_V pv_int) (by rfl))
  (q_one (q_set sc__law_draw.nd rfl (pv_ix (po_V (pv_ix (po_V (pv_var 0)) (po_V pv_int))) (po_V (pv_mod (po_V (pv_var 2)) (po_V (pv_len rfl (T.u.t.free 5) (po_V (pv_ix (po_V (pv_var 0)) (po_V pv_int))))))))))
  q_nil)
  (q_cons (q_if (pt_w (pw_a (pt_c1 c_lt (po_V (pv_var 2)) (po_V (pv_len rfl (T.u.t.free 5) (po_V (pv_ix (po_V (pv_var 0)) (po_V pv_int))))) (by rfl)) (pw_a1 (pt_c1 c_ge (po_V (pv_var 3)) (po_V (pv_pow (po_V pv_int) (po_V pv_int))) (by rfl)))))
  (q_cons (q_setr (pv_div (po_V (pv_var 3)) (po_V (pv_var 1))) (po_V (pv_var 0)) (po_V pv_int))
  (q_one (q_ret (pv_mod (po_V (pv_var 3)) (po_V (pv_var 1))))))
  q_nil)
  (q_cons (q_set sc__law_draw.nd rfl (pv_mod (po_V (pv_mul (po_V (pv_add (po_V (pv_mod (po_V (pv_var 3)) (po_V pv_int))) (po_V pv_int))) (po_V (pv_add (po_V (pv_add (po_V (pv_mul (po_V (pv_var 2)) (po_V (pv_var 2)))) (po_V (pv_mul (po_V pv_int) (po_V (pv_var 2)))))) (po_V pv_int))))) (po_V pv_int)))
  (q_one (q_ret (pv_mod (po_V (pv_div (po_V (pv_mod (po_V (pv_mul (po_V (pv_mod (po_V (pv_add (po_V (pv_pow (po_V (pv_var 4)) (po_V pv_int))) (po_V (pv_mul (po_V pv_int) (po_V (pv_var 2)))))) (po_V pv_int))) (po_V pv_int))) (po_V pv_int))) (po_V pv_int))) (po_V (pv_var 1))))))))))))
theorem f__law_line (T : Tw K w mg base h fa fn exs ts tabs tf xs) : Df P w K mg base "_law_line" 2 false 1 m__law_line :=
  df_of (Ωe := []) (T.u.t.glo 43) (T.u.t.c.def_ 14 (d := d__law_line) rfl) sc__law_line (fun _ _ _ _ _ _ us hl => match us, hl with | [_], _ => rfl) fun cdv A outer s H E en hr =>
  (q_cons (q_set sc__law_line.nd rfl (pv_lst (pl_cons (pv_str ['a']) (pl_cons (pv_str ['W', 'o', 'r', 'd']) (pl_cons (pv_str ['e', 'n', 'd', '.']) (pl_cons (pv_str ['{', 'n', '}']) (pl_cons (pv_str ['{', 'a', 'l', 'l', '}']) (pl_cons (pv_str ['{', 'n', 'a', 'm', 'e', '}']) (pl_cons (pv_str ['d', 'o', 'n', '\'', 't', ';']) (pl_cons (pv_str []) (pl_cons (pv_str []) (pl_cons (pv_mul (po_V (pv_str ['x'])) (po_V pv_int)) (pl_cons (pv_str ['{', 'n']) (pl_cons (pv_str ['{', '{', 'n', '}', '}']) (pl_cons (pv_str ['{', 'N', '}', ' ', '~', '!']) (pl_cons (pv_str ['w', 'o', 'r', 'd']) pl_nil))))))))))))))))
  (q_cons (q_set sc__law_line.nd rfl (pv_join (po_V (pv_str [' '])) (po_V (pv_lc rfl sc__law_line.nd (blkOk_by (own := [("k", 3)]) (by rfl)) g_one (by decide) (pi_rng rfl (T.u.t.free 0) (po_V (p_callV (f__law_draw T) hr (takes_of rfl rfl rfl rfl) rfl (pl_cons (pv_var 0) (pl_cons pv_int pl_nil))))) (fun _ _ _ _ _ => (pg_one sc__law_line.nd rfl)) (fun _ _ _ _ _ => pts_0) (fun _ _ _ _ _ => (pv_ix (po_V (pv_var 1)) (po_V (p_callV (f__law_draw T) hr takes0 rfl (pl_cons (pv_var 0) (pl_cons pv_int pl_nil))))))))))
  (q_one (q_ret (pv_sl (po_V (pv_var 2)) pp_no (pp_some (po_V (pv_ix (po_V (pv_lst (pl_cons pv_int (pl_cons pv_int (pl_cons pv_int pl_nil))))) (po_V (p_callV (f__law_draw T) hr (takes_of rfl rfl rfl rfl) rfl (pl_cons (pv_var 0) (pl_cons pv_int pl_nil))))))))))))
theorem f__law_lines (T : Tw K w mg base h fa fn exs ts tabs tf xs) : Df P w K mg base "_law_lines" 3 false 1 m__law_lines :=
  df_of (Ωe := []) (T.u.t.glo 44) (T.u.t.c.def_ 15 (d := d__law_lines) rfl) sc__law_lines (fun _ _ _ _ _ _ us hl => match us, hl with | [_], _ => rfl) fun cdv A outer s H E en hr =>
  (q_cons (q_if (pt_c1 (c_eq hr.units) (po_V (p_callV (f__law_draw T) hr (takes_of rfl rfl rfl rfl) rfl (pl_cons (pv_var 0) (pl_cons pv_int pl_nil)))) (po_V pv_int) (by rfl))
  (q_cons (q_set sc__law_lines.nd rfl (pv_lc rfl sc__law_lines.nd (blkOk_by (own := [("k", 3)]) (by rfl)) g_one (by decide) (pi_rng rfl (T.u.t.free 0) (po_V (pv_add (po_V pv_int) (po_V (p_callV (f__law_draw T) hr (takes_of rfl rfl rfl rfl) rfl (pl_cons (pv_var 0) (pl_cons pv_int pl_nil))))))) (fun _ _ _ _ _ => (pg_one sc__law_lines.nd rfl)) (fun _ _ _ _ _ => pts_0) (fun _ _ _ _ _ => (pv_mul (po_V (pv_ix (po_V (pv_str ['a', 'b', 'c', 'd', 'e', 'f', 'g', 'h'])) (po_V (pv_var 3)))) (po_V (pv_add (po_V pv_int) (po_V (p_callV (f__law_draw T) hr takes0 rfl (pl_cons (pv_var 0) (pl_cons pv_int pl_nil))))))))))
  (q_one (q_ret (pv_tuple rfl (T.u.t.free 6) (po_V (pv_lc rfl sc__law_lines.nd (blkOk_by (own := [("k", 3)]) (by rfl)) g_one (by decide) (pi_rng rfl (T.u.t.free 0) (po_V (pv_add (po_V pv_int) (po_V (p_callV (f__law_draw T) hr (takes_of rfl rfl rfl rfl) rfl (pl_cons (pv_var 0) (pl_cons pv_int pl_nil))))))) (fun _ _ _ _ _ => (pg_one sc__law_lines.nd rfl)) (fun _ _ _ _ _ => pts_0) (fun _ _ _ _ _ => (pv_sl (po_V (pv_join (po_V (pv_str [' '])) (po_V (pv_sl (po_V (pv_var 2)) pp_no (pp_some (po_V (pv_add (po_V pv_int) (po_V (p_callV (f__law_draw T) hr takes0 rfl (pl_cons (pv_var 0) (pl_cons pv_int pl_nil))))))))))) pp_no (pp_some (po_V pv_int))))))))))
  q_nil)
  (q_cons (q_set sc__law_lines.nd rfl (pv_ix (po_V (pv_lst (pl_cons (p_callV (f__law_draw T) hr (takes_of rfl rfl rfl rfl) rfl (pl_cons (pv_var 0) (pl_cons pv_int pl_nil))) (pl_cons (p_callV (f__law_draw T) hr (takes_of rfl rfl rfl rfl) rfl (pl_cons (pv_var 0) (pl_cons pv_int pl_nil))) (pl_cons pv_int pl_nil))))) (po_V (p_callV (f__law_draw T) hr (takes_of rfl rfl rfl rfl) rfl (pl_cons (pv_var 0) (pl_cons pv_int pl_nil))))))
  (q_one (q_ret (pv_tuple rfl (T.u.t.free 6) (po_V (pv_lc rfl sc__law_lines.nd (blkOk_by (own := [("k", 3)]) (by rfl)) g_one (by decide) (pi_rng rfl (T.u.t.free 0) (po_V (pv_var 1))) (fun _ _ _ _ _ => (pg_one sc__law_lines.nd rfl)) (fun _ _ _ _ _ => pts_0) (fun _ _ _ _ _ => (pv_sl (po_V (p_callV (f__law_line T) hr takes0 rfl (pl_cons (pv_var 0) pl_nil))) pp_no (pp_some (po_V (pv_ix (po_V (pv_lst (pl_cons pv_int (pl_cons pv_int pl_nil)))) (po_V (pv_toint rfl (T.u.t.free 3) (po_V (pv_c1 c_gt (po_V (pv_var 1)) (po_V pv_int) (by rfl)))))))))))))))))
theorem f__law_rows (T : Tw K w mg base h fa fn exs ts tabs tf xs) : Df P w K mg base "_law_rows" 1 false 2 m__law_rows :=
  df_of (Ωe := []) (T.u.t.glo 45) (T.u.t.c.def_ 16 (d := d__law_rows) rfl) sc__law_rows (fun _ _ _ _ _ _ us hl => match us, hl with | [_, _], _ => rfl) fun cdv A outer s H E en hr =>
  (q_cons (q_set sc__law_rows.nd rfl (pv_lst pl_nil))
  (q_cons (q_for (sl := [3]) (passes_of rfl) rfl (pi_seq (pv_var 0)) (pg_one sc__law_rows.nd rfl) g_one
  (q_end [4] (q_cons (q_own sc__law_rows.nd rfl (pf_lst (pl_cons (pv_str []) pl_nil)) own_new)
  (q_cons (q_for (sl := [5]) (passes_of rfl) rfl (pi_seq (pv_lc rfl sc__law_rows.nd (blkOk_by (own := [("one", 6)]) (by rfl)) g_one (by decide) (pi_seq (pv_split (po_V (pv_var 3)) (po_V (pv_str [' '])))) (fun _ _ _ _ _ => (pg_one sc__law_rows.nd rfl)) (fun _ _ _ _ _ => (pts_1 (pt_c1 (c_ne hr.units) (po_V (pv_var 6)) (po_V (pv_str [])) (by rfl)))) (fun _ _ _ _ _ => (pv_var 6)))) (pg_one sc__law_rows.nd rfl) g_one
  (q_one (q_if (pt_w (pw_a (pt_c1 (c_ne hr.units) (po_V (pv_ix (po_var 4) (po_V (pv_neg (po_V pv_int))))) (po_V (pv_str [])) (by rfl)) (pw_a1 (pt_c1 c_le (po_V (pv_add (po_V (pv_add (po_V (pv_len rfl (T.u.t.free 5) (po_V (pv_ix (po_var 4) (po_V (pv_neg (po_V pv_int))))))) (po_V pv_int))) (po_V (pv_len rfl (T.u.t.free 5) (po_V (pv_var 5)))))) (po_V (pv_var 1)) (by rfl)))))
  (q_one (q_seti (i := 4) (pv_add (po_V (pv_add (po_V (pv_ix (po_var 4) (po_V (pv_neg (po_V pv_int))))) (po_V (pv_str [' '])))) (po_V (pv_var 5))) (po_V (pv_neg (po_V pv_int)))))
  (q_cons (q_setLc (own := [("at", 8)]) sc__law_rows.nd rfl rfl g_one (pi_rngS rfl (T.u.t.free 0) (po_V pv_int) (po_V (pv_len rfl (T.u.t.free 5) (po_V (pv_var 5)))) (po_V (pv_var 1))) (by decide) (fun _ _ _ _ _ => (pg_one sc__law_rows.nd rfl)) (fun _ _ _ _ _ => pts_0) (fun _ _ _ _ _ => (pv_sl (po_V (pv_var 5)) (pp_some (po_V (pv_var 8))) (pp_some (po_V (pv_add (po_V (pv_var 8)) (po_V (pv_var 1))))))))
  (q_one (q_own sc__law_rows.nd rfl (pf_add (po_V (pv_sl (po_var 4) pp_no (pp_some (po_V (pv_sub (po_V (pv_len rfl (T.u.t.free 5) (po_var 4))) (po_V (pv_toint rfl (T.u.t.free 3) (po_V (pv_c1 (c_eq hr.units) (po_V (pv_ix (po_var 4) (po_V (pv_neg (po_V pv_int))))) (po_V (pv_str [])) (by rfl)))))))))) (po_V (pv_var 7))) (own_old (by decide))))))))
  (q_one (q_set sc__law_rows.nd rfl (pv_add (po_V (pv_var 2)) (po_var 4))))))))
  (q_one (q_ret (pv_var 2)))))
theorem f__law_size (T : Tw K w mg base h fa fn exs ts tabs tf xs) : Df P w K mg base "_law_size" 2 false 4 m__law_size :=
  df_of (Ωe := []) (T.u.t.glo 46) (T.u.t.c.def_ 17 (d := d__law_size) rfl) sc__law_size (fun _ _ _ _ _ _ us hl => match us, hl with | [_, _, _, _], _ => rfl) fun cdv A outer s H E en hr =>
  (q_cons (q_for (sl := [4]) (passes_of rfl) rfl (pi_rngD rfl (T.u.t.free 0) (po_V (pv_var 3)) (po_V pv_int)) (pg_one sc__law_size.nd rfl) g_one
  (q_one (q_if (pt_w (pw_a (pt_c1 c_ge (po_V (pv_div (po_V (pv_var 1)) (po_V (pv_var 4)))) (po_V pv_int) (by rfl)) (pw_a1 (pt_c1 c_le (po_V (pv_len rfl (T.u.t.free 5) (po_V (p_callV (f__law_rows T) hr (takes_of rfl rfl rfl rfl) rfl (pl_cons (pv_var 0) (pl_cons (pv_div (po_V (pv_var 1)) (po_V (pv_var 4))) pl_nil)))))) (po_V (pv_div (po_V (pv_var 2)) (po_V (pv_var 4)))) (by rfl)))))
  (q_one (q_ret (pv_var 4)))
  q_nil)))
  (q_one (q_ret pv_non)))
theorem f_is_whole (T : Tw K w mg base h fa fn exs ts tabs tf xs) : Df P w K mg base "is_whole" 1 false 1 m_is_whole :=
  df_of (Ωe := []) (T.u.t.glo 47) (T.u.t.c.def_ 0 (d := d_is_whole) rfl) sc_is_whole (fun _ _ _ _ _ _ us hl => match us, hl with | [_], _ => rfl) fun cdv A outer s H E en hr =>
  (q_one (q_ret (pv_and (pv_isi rfl (T.u.t.free 8) rfl (T.u.t.free 3) (by decide +kernel) (po_V (pv_var 0))) (pv_b1 (pv_not (po_V (pv_isi rfl (T.u.t.free 8) rfl (T.u.t.free 10) (by decide +kernel) (po_V (pv_var 0)))))))))
theorem f_is_from (T : Tw K w mg base h fa fn exs ts tabs tf xs) : Df P w K mg base "is_from" 2 false 3 m_is_from :=
  df_of (Ωe := []) (T.u.t.glo 48) (T.u.t.c.def_ 1 (d := d_is_from) rfl) sc_is_from (fun _ _ _ _ _ _ us hl => match us, hl with | [_, _, _], _ => rfl) fun cdv A outer s H E en hr =>
  (q_one (q_ret (pv_and (p_callV (f_is_whole T) hr (takes_of rfl rfl rfl rfl) rfl (pl_cons (pv_var 0) pl_nil)) (pv_b1 (pv_chain c_le c_le (po_V (pv_var 1)) (po_V (pv_var 0)) (po_V (pv_var 2)))))))
theorem f_is_name (T : Tw K w mg base h fa fn exs ts tabs tf xs) : Df P w K mg base "is_name" 1 false 1 m_is_name :=
  df_of (Ωe := []) (T.u.t.glo 49) (T.u.t.c.def_ 2 (d := d_is_name) rfl) sc_is_name (fun _ _ _ _ _ _ us hl => match us, hl with | [_], _ => rfl) fun cdv A outer s H E en hr =>
  (q_cons (q_if (pt_w (pw_o (pt_no (pt_val' (po_V (pv_isi rfl (T.u.t.free 8) rfl (T.u.t.free 9) (by decide +kernel) (po_V (pv_var 0)))))) (pw_o (pt_no (pt_chain' c_le c_le (po_V pv_int) (po_V (pv_len rfl (T.u.t.free 5) (po_V (pv_var 0)))) (po_V (pv_gi rfl (T.u.t.gi 15))))) (pw_o1 (pt_c1 (c_nin hr.u65) (po_V (pv_ix (po_V (pv_var 0)) (po_V pv_int))) (po_V (pv_gs ['a', 'b', 'c', 'd', 'e', 'f', 'g', 'h', 'i', 'j', 'k', 'l', 'm', 'n', 'o', 'p', 'q', 'r', 's', 't', 'u', 'v', 'w', 'x', 'y', 'z'] rfl (T.u.t.gs 14))) (by rfl))))))
  (q_one (q_ret pv_bl))
  q_nil)
  (q_one (q_ret (pv_all rfl rfl (T.u.t.free 16) (po_V (pv_lc rfl sc_is_name.nd (blkOk_by (own := [("sign", 1)]) (by rfl)) g_one (by decide) (pi_seq (pv_var 0)) (fun _ _ _ _ _ => (pg_one sc_is_name.nd rfl)) (fun _ _ _ _ _ => pts_0) (fun _ _ _ _ _ => (pv_or (pv_c1 (c_in hr.u65) (po_V (pv_var 1)) (po_V (pv_gs ['a', 'b', 'c', 'd', 'e', 'f', 'g', 'h', 'i', 'j', 'k', 'l', 'm', 'n', 'o', 'p', 'q', 'r', 's', 't', 'u', 'v', 'w', 'x', 'y', 'z'] rfl (T.u.t.gs 14))) (by rfl)) (pv_b1 (pv_c1 (c_in hr.u65) (po_V (pv_var 1)) (po_V (pv_gs ['0', '1', '2', '3', '4', '5', '6', '7', '8', '9'] rfl (T.u.t.gs 17))) (by rfl)))))))))))
theorem f_is_trait (T : Tw K w mg base h fa fn exs ts tabs tf xs) : Df P w K mg base "is_trait" 1 false 1 m_is_trait :=
  df_of (Ωe := []) (T.u.t.glo 50) (T.u.t.c.def_ 3 (d := d_is_trait) rfl) sc_is_trait (fun _ _ _ _ _ _ us hl => match us, hl with | [_], _ => rfl) fun cdv A outer s H E en hr =>
  (q_one (q_ret (pv_and (pv_isi rfl (T.u.t.free 8) rfl (T.u.t.free 9) (by decide +kernel) (po_V (pv_var 0))) (pv_b1 (pv_c1 (c_in hr.u65) (po_V (pv_var 0)) (po_V (pv_con rfl (T.u.con 0))) (by rfl))))))
theorem f_must_be_trait (T : Tw K w mg base h fa fn exs ts tabs tf xs) : Df P w K mg base "must_be_trait" 2 false 1 m_must_be_trait :=
  df_of (Ωe := []) (T.u.t.glo 51) (T.u.t.c.def_ 4 (d := d_must_be_trait) rfl) sc_must_be_trait (fun _ _ _ _ _ _ us hl => match us, hl with | [_], _ => rfl) fun cdv A outer s H E en hr =>
  (q_one (q_if (pt_no (pt_val' (po_V (p_callV (f_is_trait T) hr (takes_of rfl rfl rfl rfl) rfl (pl_cons (pv_var 0) pl_nil)))))
  (q_one (q_raiseF rfl (takes_of rfl rfl rfl rfl) (T.u.t.glo 19) (T.u.t.exc 18) (T.cl 1) rfl))
  q_nil))
theorem f_is_worth (T : Tw K w mg base h fa fn exs ts tabs tf xs) : Df P w K mg base "is_worth" 3 false 2 m_is_worth :=
  df_of (Ωe := []) (T.u.t.glo 52) (T.u.t.c.def_ 5 (d := d_is_worth) rfl) sc_is_worth (fun _ _ _ _ _ _ us hl => match us, hl with | [_, _], _ => rfl) fun cdv A outer s H E en hr =>
  (q_cons (q_expr (p_callV (f_must_be_trait T) hr (takes_of rfl rfl rfl rfl) rfl (pl_cons (pv_var 0) pl_nil)))
  (q_cons (q_if (pt_c1 (c_inK (T.u.tab 0 13)) (po_V (pv_var 0)) (po_V (pv_fn rfl (T.u.t.glo 13))) (by rfl))
  (q_one (q_ret (p_callV (f_is_from T) hr (takes_of rfl rfl rfl rfl) rfl (pl_cons (pv_var 1) (pl_cons (pv_ix (po_V (pv_ixK (T.u.tab 0 13) (po_V (pv_fn rfl (T.u.t.glo 13))) (po_V (pv_var 0)))) (po_V pv_int)) (pl_cons (pv_ix (po_V (pv_ixK (T.u.tab 0 13) (po_V (pv_fn rfl (T.u.t.glo 13))) (po_V (pv_var 0)))) (po_V pv_int)) pl_nil))))))
  q_nil)
  (q_one (q_ret (p_callV (f_is_name T) hr (takes_of rfl rfl rfl rfl) rfl (pl_cons (pv_var 1) pl_nil))))))
theorem f_words_in (T : Tw K w mg base h fa fn exs ts tabs tf xs) : Df P w K mg base "words_in" 1 false 1 m_words_in :=
  df_of (Ωe := []) (T.u.t.glo 53) (T.u.t.c.def_ 6 (d := d_words_in) rfl) sc_words_in (fun _ _ _ _ _ _ us hl => match us, hl with | [_], _ => rfl) fun cdv A outer s H E en hr =>
  (q_one (q_ret (pv_lc rfl sc_words_in.nd (blkOk_by (own := [("word", 1)]) (by rfl)) g_one (by decide) (pi_seq (pv_split (po_V (pv_var 0)) (po_V (pv_str [' '])))) (fun _ _ _ _ _ => (pg_one sc_words_in.nd rfl)) (fun _ _ _ _ _ => (pts_1 (pt_c1 (c_ne hr.units) (po_V (pv_var 1)) (po_V (pv_str [])) (by rfl)))) (fun _ _ _ _ _ => (pv_var 1)))))
theorem f_rows_in (T : Tw K w mg base h fa fn exs ts tabs tf xs) : Df P w K mg base "rows_in" 2 false 2 m_rows_in :=
  df_of (Ωe := []) (T.u.t.glo 54) (T.u.t.c.def_ 7 (d := d_rows_in) rfl) sc_rows_in (fun _ _ _ _ _ _ us hl => match us, hl with | [_, _], _ => rfl) fun cdv A outer s H E en hr =>
  (q_cons (q_own sc_rows_in.nd rfl (pf_lst pl_nil) own_new)
  (q_cons (q_set sc_rows_in.nd rfl (pv_str []))
  (q_cons (q_for (sl := [4]) (passes_of rfl) rfl (pi_seq (p_callV (f_words_in T) hr (takes_of rfl rfl rfl rfl) rfl (pl_cons (pv_var 0) pl_nil))) (pg_one sc_rows_in.nd rfl) g_one
  (q_one (q_if (pt_w (pw_a (pt_c1 (c_ne hr.units) (po_V (pv_var 3)) (po_V (pv_str [])) (by rfl)) (pw_a1 (pt_c1 c_le (po_V (pv_add (po_V (pv_add (po_V (pv_len rfl (T.u.t.free 5) (po_V (pv_var 3)))) (po_V pv_int))) (po_V (pv_len rfl (T.u.t.free 5) (po_V (pv_var 4)))))) (po_V (pv_var 1)) (by rfl)))))
  (q_one (q_set sc_rows_in.nd rfl (pv_add (po_V (pv_add (po_V (pv_var 3)) (po_V (pv_str [' '])))) (po_V (pv_var 4)))))
  (q_cons (q_if (pt_c1 (c_ne hr.units) (po_V (pv_var 3)) (po_V (pv_str [])) (by rfl))
  (q_one (q_app (i := 2) (pv_var 3)))
  q_nil)
  (q_cons (q_set sc_rows_in.nd rfl (pv_var 4))
  (q_one (q_while 1000 (passes_of rfl) (pt_c1 c_gt (po_V (pv_len rfl (T.u.t.free 5) (po_V (pv_var 3)))) (po_V (pv_var 1)) (by rfl))
  (q_cons (q_app (i := 2) (pv_sl (po_V (pv_var 3)) pp_no (pp_some (po_V (pv_var 1)))))
  (q_one (q_set sc_rows_in.nd rfl (pv_sl (po_V (pv_var 3)) (pp_some (po_V (pv_var 1))) pp_no)))))))))))
  (q_one (q_ret (pv_add (po_var 2) (po_V (pv_lst (pl_cons (pv_var 3) pl_nil)))))))))
theorem f_wrapped (T : Tw K w mg base h fa fn exs ts tabs tf xs) : Df P w K mg base "wrapped" 3 false 2 m_wrapped :=
  df_of (Ωe := []) (T.u.t.glo 55) (T.u.t.c.def_ 8 (d := d_wrapped) rfl) sc_wrapped (fun _ _ _ _ _ _ us hl => match us, hl with | [_, _], _ => rfl) fun cdv A outer s H E en hr =>
  (q_cons (q_own sc_wrapped.nd rfl (pf_lst pl_nil) own_new)
  (q_cons (q_for (sl := [3]) (passes_of rfl) rfl (pi_seq (pv_var 0)) (pg_one sc_wrapped.nd rfl) g_one
  (q_one (q_ext (i := 2) (po_V (p_callV (f_rows_in T) hr (takes_of rfl rfl rfl rfl) rfl (pl_cons (pv_var 3) (pl_cons (pv_var 1) pl_nil)))))))
  (q_show [] (q_one (q_ret (pv_var 2))))))
theorem f_fit (T : Tw K w mg base h fa fn exs ts tabs tf xs) : Df P w K mg base "fit" 4 false 4 m_fit :=
  df_of (Ωe := []) (T.u.t.glo 56) (T.u.t.c.def_ 9 (d := d_fit) rfl) sc_fit (fun _ _ _ _ _ _ us hl => match us, hl with | [_, _, _, _], _ => rfl) fun cdv A outer s H E en hr =>
  (q_one (q_ret (pv_and (pv_c1 c_ge (po_V (pv_div (po_V (pv_var 1)) (po_V (pv_var 3)))) (po_V pv_int) (by rfl)) (pv_b1 (pv_c1 c_le (po_V (pv_len rfl (T.u.t.free 5) (po_V (p_callV (f_wrapped T) hr (takes_of rfl rfl rfl rfl) rfl (pl_cons (pv_var 0) (pl_cons (pv_div (po_V (pv_var 1)) (po_V (pv_var 3))) pl_nil)))))) (po_V (pv_div (po_V (pv_var 2)) (po_V (pv_var 3)))) (by rfl))))))
theorem f_greatest_size (T : Tw K w mg base h fa fn exs ts tabs tf xs) : Df P w K mg base "greatest_size" 5 false 4 m_greatest_size :=
  df_of (Ωe := []) (T.u.t.glo 57) (T.u.t.c.def_ 10 (d := d_greatest_size) rfl) sc_greatest_size (fun _ _ _ _ _ _ us hl => match us, hl with | [_, _, _, _], _ => rfl) fun cdv A outer s H E en hr =>
  (q_cons (q_for (sl := [4]) (passes_of rfl) rfl (pi_rngD rfl (T.u.t.free 0) (po_V (pv_var 3)) (po_V pv_int)) (pg_one sc_greatest_size.nd rfl) g_one
  (q_one (q_if (pt_val' (po_V (p_callV (f_fit T) hr (takes_of rfl rfl rfl rfl) rfl (pl_cons (pv_var 0) (pl_cons (pv_var 1) (pl_cons (pv_var 2) (pl_cons (pv_var 4) pl_nil)))))))
  (q_one (q_ret (pv_var 4)))
  q_nil)))
  (q_one (q_ret pv_non)))
theorem f_shrunk_to (T : Tw K w mg base h fa fn exs ts tabs tf xs) : Df P w K mg base "shrunk_to" 6 false 4 m_shrunk_to :=
  df_of (Ωe := []) (T.u.t.glo 58) (T.u.t.c.def_ 11 (d := d_shrunk_to) rfl) sc_shrunk_to (fun _ _ _ _ _ _ us hl => match us, hl with | [_, _, _, _], _ => rfl) fun cdv A outer s H E en hr =>
  (q_cons (q_if (pt_w (pw_o (pt_no (pt_val' (po_V (p_callV (f_is_worth T) hr (takes_of rfl rfl rfl rfl) rfl (pl_cons (pv_str ['w', 'i', 'd', 'e']) (pl_cons (pv_var 1) pl_nil)))))) (pw_o (pt_no (pt_val' (po_V (p_callV (f_is_worth T) hr (takes_of rfl rfl rfl rfl) rfl (pl_cons (pv_str ['h', 'i', 'g', 'h']) (pl_cons (pv_var 2) pl_nil)))))) (pw_o1 (pt_no (pt_val' (po_V (p_callV (f_is_worth T) hr (takes_of rfl rfl rfl rfl) rfl (pl_cons (pv_str ['s', 'i', 'z', 'e']) (pl_cons (pv_var 3) pl_nil))))))))))
  (q_one (q_raiseF rfl (takes_of rfl rfl rfl rfl) (T.u.t.glo 12) (T.u.t.exc 11) (T.cl 0) rfl))
  q_nil)
  (q_one (q_ret (p_callV (f_greatest_size T) hr (takes_of rfl rfl rfl rfl) rfl (pl_cons (pv_var 0) (pl_cons (pv_var 1) (pl_cons (pv_var 2) (pl_cons (pv_var 3) pl_nil))))))))
theorem f__law_word (T : Tw K w mg base h fa fn exs ts tabs tf xs) : Df P w K mg base "_law_word" 1 false 1 m__law_word :=
  df_of (Ωe := []) (T.u.t.glo 59) (T.u.t.c.def_ 18 (d := d__law_word) rfl) sc__law_word (fun _ _ _ _ _ _ us hl => match us, hl with | [_], _ => rfl) fun cdv A outer s H E en hr =>
  (q_cons (q_set sc__law_word.nd rfl (pv_lst (pl_cons (pv_str ['d', 'e', 'c', 'k']) (pl_cons (pv_str ['d', 'e', 'e', 'd']) (pl_cons (pv_str ['l', 'i', 'n', 'k']) (pl_cons (pv_str ['m', 'a', 's', 't', 'e', 'r']) (pl_cons (pv_str ['n', 'a', 'm', 'e']) (pl_cons (pv_str ['n', 'u', 'm', 'b', 'e', 'r']) (pl_cons (pv_str ['p', 'l', 'a', 'c', 'e']) (pl_cons (pv_str ['p', 'r', 'e', 's', 's']) (pl_cons (pv_str ['r', 'o', 'o', 'm']) (pl_cons (pv_str ['r', 'o', 'w']) (pl_cons (pv_str ['s', 'e', 't', 't', 'i', 'n', 'g']) (pl_cons (pv_str ['s', 'h', 'o', 'w']) pl_nil))))))))))))))
  (q_cons (q_set sc__law_word.nd rfl (pv_add (po_V (pv_var 1)) (po_V (pv_lst (pl_cons (pv_str ['s', 'l', 'i', 'd', 'e']) (pl_cons (pv_str ['s', 't', 'e', 'p', 's']) (pl_cons (pv_str ['t', 'e', 'x', 't']) (pl_cons (pv_str ['t', 'i', 'm', 'e']) (pl_cons (pv_str ['t', 'r', 'a', 'i', 't']) (pl_cons (pv_str ['w', 'o', 'r', 'd']) (pl_cons (pv_str ['w', 'o', 'r', 't', 'h']) (pl_cons (pv_str ['r', 'i', 'n', 'g']) (pl_cons (pv_str ['t', 'a', 'k', 'e', 'n']) (pl_cons (pv_str ['m', 'a', 'n', 'y']) (pl_cons (pv_str ['u', 's', 'e', 'd']) pl_nil)))))))))))))))
  (q_cons (q_set sc__law_word.nd rfl (pv_lst (pl_cons (pv_isE rfl (T.u.t.free 8) rfl (T.u.t.glo 23) (T.u.t.c.fact 23 rfl) (po_V (pv_var 0))) (pl_cons (pv_isE rfl (T.u.t.free 8) rfl (T.u.t.glo 22) (T.u.t.c.fact 22 rfl) (po_V (pv_var 0))) (pl_cons (pv_isE rfl (T.u.t.free 8) rfl (T.u.t.glo 21) (T.u.t.c.fact 21 rfl) (po_V (pv_var 0))) (pl_cons (pv_isE rfl (T.u.t.free 8) rfl (T.u.t.glo 20) (T.u.t.c.fact 20 rfl) (po_V (pv_var 0))) pl_nil))))))
  (q_cons (q_set sc__law_word.nd rfl (pv_add (po_V (pv_var 2)) (po_V (pv_lst (pl_cons (pv_isE rfl (T.u.t.free 8) rfl (T.u.t.glo 27) (T.u.t.c.fact 27 rfl) (po_V (pv_var 0))) (pl_cons (pv_isE rfl (T.u.t.free 8) rfl (T.u.t.glo 26) (T.u.t.c.fact 26 rfl) (po_V (pv_var 0))) (pl_cons (pv_isE rfl (T.u.t.free 8) rfl (T.u.t.glo 25) (T.u.t.c.fact 25 rfl) (po_V (pv_var 0))) (pl_cons (pv_isE rfl (T.u.t.free 8) rfl (T.u.t.glo 24) (T.u.t.c.fact 24 rfl) (po_V (pv_var 0))) pl_nil))))))))
  (q_cons (q_set sc__law_word.nd rfl (pv_add (po_V (pv_var 2)) (po_V (pv_lst (pl_cons (pv_isE rfl (T.u.t.free 8) rfl (T.u.t.glo 12) (T.u.t.c.fact 12 rfl) (po_V (pv_var 0))) (pl_cons (pv_isE rfl (T.u.t.free 8) rfl (T.u.t.glo 30) (T.u.t.c.fact 30 rfl) (po_V (pv_var 0))) (pl_cons (pv_isE rfl (T.u.t.free 8) rfl (T.u.t.glo 29) (T.u.t.c.fact 29 rfl) (po_V (pv_var 0))) (pl_cons (pv_isE rfl (T.u.t.free 8) rfl (T.u.t.glo 28) (T.u.t.c.fact 28 rfl) (po_V (pv_var 0))) pl_nil))))))))
  (q_cons (q_set sc__law_word.nd rfl (pv_add (po_V (pv_var 2)) (po_V (pv_lst (pl_cons (pv_isE rfl (T.u.t.free 8) rfl (T.u.t.glo 34) (T.u.t.c.fact 34 rfl) (po_V (pv_var 0))) (pl_cons (pv_isE rfl (T.u.t.free 8) rfl (T.u.t.glo 33) (T.u.t.c.fact 33 rfl) (po_V (pv_var 0))) (pl_cons (pv_isE rfl (T.u.t.free 8) rfl (T.u.t.glo 32) (T.u.t.c.fact 32 rfl) (po_V (pv_var 0))) (pl_cons (pv_isE rfl (T.u.t.free 8) rfl (T.u.t.glo 31) (T.u.t.c.fact 31 rfl) (po_V (pv_var 0))) pl_nil))))))))
  (q_cons (q_set sc__law_word.nd rfl (pv_add (po_V (pv_var 2)) (po_V (pv_lst (pl_cons (pv_isE rfl (T.u.t.free 8) rfl (T.u.t.glo 19) (T.u.t.c.fact 19 rfl) (po_V (pv_var 0))) (pl_cons (pv_isE rfl (T.u.t.free 8) rfl (T.u.t.glo 37) (T.u.t.c.fact 37 rfl) (po_V (pv_var 0))) (pl_cons (pv_isE rfl (T.u.t.free 8) rfl (T.u.t.glo 36) (T.u.t.c.fact 36 rfl) (po_V (pv_var 0))) (pl_cons (pv_isE rfl (T.u.t.free 8) rfl (T.u.t.glo 35) (T.u.t.c.fact 35 rfl) (po_V (pv_var 0))) pl_nil))))))))
  (q_cons (q_set sc__law_word.nd rfl (pv_add (po_V (pv_var 2)) (po_V (pv_lst (pl_cons (pv_isE rfl (T.u.t.free 8) rfl (T.u.t.glo 40) (T.u.t.c.fact 40 rfl) (po_V (pv_var 0))) (pl_cons (pv_isE rfl (T.u.t.free 8) rfl (T.u.t.glo 39) (T.u.t.c.fact 39 rfl) (po_V (pv_var 0))) (pl_cons (pv_isE rfl (T.u.t.free 8) rfl (T.u.t.glo 38) (T.u.t.c.fact 38 rfl) (po_V (pv_var 0))) pl_nil)))))))
  (q_cons (q_if (pt_w (pw_o (pt_c1 (c_ne hr.units) (po_V (pv_count (po_V (pv_var 2)) (po_V pv_bl))) (po_V pv_int) (by rfl)) (pw_o1 (pt_no (pt_val' (po_V (pv_isVE rfl (T.u.t.free 8) rfl (T.u.t.free 41) (po_V (pv_var 0)))))))))
  (q_one (q_ret (pv_str ['o', 't', 'h', 'e', 'r'])))
  q_nil)
  (q_one (q_ret (pv_ix (po_V (pv_var 1)) (po_V (pv_index (po_V (pv_var 2)) (po_V pv_bl)))))))))))))))
theorem f__law_told (T : Tw K w mg base h fa fn exs ts tabs tf xs) : Df P w K mg base "_law_told" 7 false 4 m__law_told :=
  df_of (Ωe := []) (T.u.t.glo 60) (T.u.t.c.def_ 19 (d := d__law_told) rfl) sc__law_told (fun _ _ _ _ _ _ us hl => match us, hl with | [_, _, _, _], _ => rfl) fun cdv A outer s H E en hr =>
  (q_cons (q_set sc__law_told.nd rfl pv_non)
  (q_cons (q_set sc__law_told.nd rfl pv_non)
  (q_cons (q_try rfl rfl rfl sc__law_told.nd rfl rfl rfl (T.u.t.glo 7) (T.u.t.c.fact 7 rfl) (takes_of rfl rfl rfl rfl) (fun W pn xe tk po =>
  (q_one (q_set sc__law_told.nd rfl (p_callV (f_shrunk_to T) hr tk rfl (pl_cons (pv_var 0) (pl_cons (pv_var 1) (pl_cons (pv_var 2) (pl_cons (pv_var 3) pl_nil)))))))) (fun a pn =>
  (q_one (q_set sc__law_told.nd rfl (pv_var 6)))))
  (q_cons (q_if (pt_c1 c_isnot (po_V (pv_var 4)) (po_V pv_non) (by rfl))
  (q_one (q_ret (p_callV (f__law_word T) hr (takes_of rfl rfl rfl rfl) rfl (pl_cons (pv_var 4) pl_nil))))
  q_nil)
  (q_one (q_ret (pv_if (pt_val' (po_V (pv_isi2 rfl (T.u.t.free 8) rfl (T.u.t.free 9) (by decide +kernel) rfl (T.u.t.free 10) (by decide +kernel) (po_V (pv_var 5))))) (pv_str ['a', ' ', 't', 'e', 'x', 't']) (pv_var 5))))))))
theorem f_law {fd fdp : FuncData} (T : Tw K w mg base h fa fn exs ts tabs tf xs) (F : FunD K "law" "law" (defArgs (top 54)) (defBody (top 54)) (defScope (top 54)) [] [] (He.ga K "law") fd)
    (Fp : FunD K "_law_pen" "_law_pen" (defArgs (top 45)) (defBody (top 45)) (defScope (top 45)) [] [] (He.ga K "_law_pen") fdp)
    (main : ∀ ns : List Int, ns.length ≤ 63 → ∃ s, b_law (startL N_law 1) (pen0 ns) = .ret (.bl true) s) : FnOk P w K mg base (L2.CX P w) 8 (He.ga K "law") fd ["script"] (spLaw K) := by
  refine law_ok (Ωe := []) F sc_law (by decide) (by decide) (fun cdv A outer s H E en hr => pss_cons (ps_set (i := 1) sc_law.nd rfl (by first | exact Or.inl rfl | exact Or.inr rfl) (pe_callS (f__law_pen T Fp) (hr.mono (by decide)) rfl (T.u.t.glo 61) Fp.kp (Fp.bindsN fun _ _ _ _ _ _ us hl => match us, hl with | [_], _ => rfl) (passAt (takes_of rfl rfl rfl rfl)) (pa_cons (pv 0) pa_nil))) ?_) main
  exact (q_cons (q_for (sl := [2]) (passes_of rfl) rfl (pi_rng rfl (T.u.t.free 0) (po_V (pv_add (po_V pv_int) (po_V (p_callV (f__law_draw T) hr (takes_of rfl rfl rfl rfl) rfl (pl_cons (pv_var 1) (pl_cons pv_int pl_nil))))))) (pg_one sc_law.nd rfl) g_one
  (q_cons (q_set sc_law.nd rfl (p_callV (f__law_lines T) hr (takes_of rfl rfl rfl rfl) rfl (pl_cons (pv_var 1) pl_nil)))
  (q_cons (q_set sc_law.nd rfl (pv_ix (po_V (pv_lst (pl_cons (pv_add (po_V pv_int) (po_V (p_callV (f__law_draw T) hr (takes_of rfl rfl rfl rfl) rfl (pl_cons (pv_var 1) (pl_cons pv_int pl_nil))))) (pl_cons (pv_add (po_V pv_int) (po_V (p_callV (f__law_draw T) hr (takes_of rfl rfl rfl rfl) rfl (pl_cons (pv_var 1) (pl_cons pv_int pl_nil))))) (pl_cons pv_int pl_nil))))) (po_V (p_callV (f__law_draw T) hr (takes_of rfl rfl rfl rfl) rfl (pl_cons (pv_var 1) (pl_cons pv_int pl_nil))))))
  (q_cons (q_set sc_law.nd rfl (pv_ix (po_V (pv_lst (pl_cons (pv_add (po_V pv_int) (po_V (p_callV (f__law_draw T) hr (takes_of rfl rfl rfl rfl) rfl (pl_cons (pv_var 1) (pl_cons pv_int pl_nil))))) (pl_cons (pv_add (po_V pv_int) (po_V (p_callV (f__law_draw T) hr (takes_of rfl rfl rfl rfl) rfl (pl_cons (pv_var 1) (pl_cons pv_int pl_nil))))) (pl_cons pv_int pl_nil))))) (po_V (p_callV (f__law_draw T) hr (takes_of rfl rfl rfl rfl) rfl (pl_cons (pv_var 1) (pl_cons pv_int pl_nil))))))
  (q_cons (q_set sc_law.nd rfl (pv_ix (po_V (pv_lst (pl_cons pv_int (pl_cons (pv_add (po_V pv_int) (po_V (p_callV (f__law_draw T) hr (takes_of rfl rfl rfl rfl) rfl (pl_cons (pv_var 1) (pl_cons pv_int pl_nil))))) (pl_cons (pv_add (po_V pv_int) (po_V (p_callV (f__law_draw T) hr (takes_of rfl rfl rfl rfl) rfl (pl_cons (pv_var 1) (pl_cons pv_int pl_nil))))) (pl_cons pv_int pl_nil)))))) (po_V (p_callV (f__law_draw T) hr (takes_of rfl rfl rfl rfl) rfl (pl_cons (pv_var 1) (pl_cons pv_int pl_nil))))))
  (q_cons (q_set sc_law.nd rfl (p_callV (f__law_size T) hr (takes_of rfl rfl rfl rfl) rfl (pl_cons (pv_var 3) (pl_cons (pv_var 4) (pl_cons (pv_var 5) (pl_cons (pv_var 6) pl_nil))))))
  (q_cons (q_set sc_law.nd rfl (pv_F (pf_list rfl (T.u.t.free 1) (po_V (pv_var 3)))))
  (q_cons (q_for (sl := [9]) (passes_of rfl) rfl (pi_seq (pv_tup (pl_cons (pv_var 3) (pl_cons (pv_var 8) (pl_cons (pv_var 3) pl_nil))))) (pg_one sc_law.nd rfl) g_one
  (q_one (q_if (pt_w (pw_o (pt_c1 (c_ne hr.units) (po_V (p_callV (f__law_told T) hr (takes_of rfl rfl rfl rfl) rfl (pl_cons (pv_var 9) (pl_cons (pv_var 4) (pl_cons (pv_var 5) (pl_cons (pv_var 6) pl_nil)))))) (po_V (pv_var 7)) (by rfl)) (pw_o1 (pt_c1 (c_ne hr.units) (po_V (pv_var 8)) (po_V (pv_F (pf_list rfl (T.u.t.free 1) (po_V (pv_var 3))))) (by rfl)))))
  (q_one (q_ret pv_bl))
  q_nil)))
  (q_cons (q_for (sl := [10]) (passes_of rfl) rfl (pi_rng rfl (T.u.t.free 0) (po_V pv_int)) (pg_one sc_law.nd rfl) g_one
  (q_cons (q_set sc_law.nd rfl (pv_lst (pl_cons (pv_min rfl rfl (T.u.t.free 2) (po_V pv_int) (po_V (pv_add (po_V (pv_var 4)) (po_V (pv_mul (po_V (pv_toint rfl (T.u.t.free 3) (po_V (pv_c1 (c_eq hr.units) (po_V (pv_var 10)) (po_V pv_int) (by rfl))))) (po_V pv_int)))))) (pl_cons (pv_min rfl rfl (T.u.t.free 2) (po_V pv_int) (po_V (pv_add (po_V (pv_var 5)) (po_V (pv_mul (po_V (pv_toint rfl (T.u.t.free 3) (po_V (pv_c1 (c_eq hr.units) (po_V (pv_var 10)) (po_V pv_int) (by rfl))))) (po_V pv_int)))))) pl_nil))))
  (q_cons (q_set sc_law.nd rfl (pv_max rfl rfl (T.u.t.free 4) (po_V pv_int) (po_V (pv_sub (po_V (pv_var 6)) (po_V (pv_toint rfl (T.u.t.free 3) (po_V (pv_c1 (c_eq hr.units) (po_V (pv_var 10)) (po_V pv_int) (by rfl)))))))))
  (q_cons (q_set sc_law.nd rfl (pv_if (pt_w (pw_a (pt_c1 (c_eq hr.units) (po_V (pv_var 10)) (po_V pv_int) (by rfl)) (pw_a1 (pt_c1 c_lt (po_V (pv_len rfl (T.u.t.free 5) (po_V (pv_var 3)))) (po_V pv_int) (by rfl))))) (pv_add (po_V (pv_var 3)) (po_V (pv_tup (pl_cons (pv_str ['o', 'n', 'e', ' ', 'm', 'o', 'r', 'e']) pl_nil)))) (pv_var 3)))
  (q_one (q_if (pt_c1 (c_ne hr.units) (po_V (p_callV (f__law_told T) hr (takes_of rfl rfl rfl rfl) rfl (pl_cons (pv_var 9) (pl_cons (pv_ix (po_V (pv_var 13)) (po_V pv_int)) (pl_cons (pv_ix (po_V (pv_var 13)) (po_V pv_int)) (pl_cons (pv_var 14) pl_nil)))))) (po_V (p_callV (f__law_size T) hr (takes_of rfl rfl rfl rfl) rfl (pl_cons (pv_var 9) (pl_cons (pv_ix (po_V (pv_var 13)) (po_V pv_int)) (pl_cons (pv_ix (po_V (pv_var 13)) (po_V pv_int)) (pl_cons (pv_var 14) pl_nil)))))) (by rfl))
  (q_one (q_ret pv_bl))
  q_nil))))))
  (q_cons (q_set sc_law.nd rfl (pv_ix (po_V (pv_lst (pl_cons pv_int (pl_cons (pv_neg (po_V pv_int)) (pl_cons pv_int (pl_cons pv_bl (pl_cons pv_non (pl_cons (pv_str ['5']) (pl_cons (pv_lst (pl_cons pv_int pl_nil)) pl_nil))))))))) (po_V (p_callV (f__law_draw T) hr (takes_of rfl rfl rfl rfl) rfl (pl_cons (pv_var 1) (pl_cons pv_int pl_nil))))))
  (q_cons (q_set sc_law.nd rfl (pv_ix (po_V (pv_lst (pl_cons pv_int (pl_cons pv_int (pl_cons pv_bl (pl_cons pv_non (pl_cons (pv_str ['1']) pl_nil))))))) (po_V (p_callV (f__law_draw T) hr (takes_of rfl rfl rfl rfl) rfl (pl_cons (pv_var 1) (pl_cons pv_int pl_nil))))))
  (q_one (q_for (sl := [9]) (passes_of rfl) rfl (pi_seq (pv_lst (pl_cons (pv_tup (pl_cons (pv_var 11) (pl_cons (pv_var 5) (pl_cons (pv_var 6) pl_nil)))) (pl_cons (pv_tup (pl_cons (pv_var 4) (pl_cons (pv_var 11) (pl_cons (pv_var 6) pl_nil)))) (pl_cons (pv_tup (pl_cons (pv_var 4) (pl_cons (pv_var 5) (pl_cons (pv_var 12) pl_nil)))) (pl_cons (pv_tup (pl_cons (pv_var 11) (pl_cons (pv_var 11) (pl_cons (pv_var 12) pl_nil)))) pl_nil)))))) (pg_one sc_law.nd rfl) g_one
  (q_one (q_if (pt_c1 (c_ne hr.units) (po_V (p_callV (f__law_told T) hr (takes_of rfl rfl rfl rfl) rfl (pl_cons (pv_var 3) (pl_cons (pv_ix (po_V (pv_var 9)) (po_V pv_int)) (pl_cons (pv_ix (po_V (pv_var 9)) (po_V pv_int)) (pl_cons (pv_ix (po_V (pv_var 9)) (po_V pv_int)) pl_nil)))))) (po_V (pv_str ['r', 'o', 'o', 'm'])) (by rfl))
  (q_one (q_ret pv_bl))
  q_nil)))))))))))))))
  (q_one (q_ret pv_bl)))
end
end Pf
namespace Pf
open PySem PySem.Spec PyProof PyProof.Rows L2 Mr
section
variable {s : Store} {Φ : D → Store → Prop} {Ξ : Xc → Store → Prop}
theorem join_z {t : Tx} {xs : List Tx} (h : joinLen t xs ≤ 1000000) (q : Φ (.str (joinT t xs)) s) : wz (fJoin (.str t) (.lst (xs.map .str))) s Φ Ξ := by
  have e : ∀ l : List Tx, textsOf (l.map D.str) = some l := fun l => by
    induction l with
    | nil => rfl
    | cons x l ih => simp [textsOf, ih]
  show wp _ _ _ _
  rw [wp_join (e xs) h]
  exact q
theorem sum_le {l : List Tx} {n : Nat} (h : ∀ t ∈ l, t.length ≤ n) : (l.map List.length).sum ≤ l.length * n := by
  induction l with
  | nil => simp
  | cons x l ih =>
    have h1 := h x (List.mem_cons_self ..)
    have h2 := ih fun t ht => h t (List.mem_cons_of_mem _ ht)
    simp only [List.map_cons, List.sum_cons, List.length_cons, Nat.add_mul]
    omega
theorem comp_tx {e : Ev} {sl : List Nat} {g : GM} {t : EM} {ds : List D} {K c L : Nat} {Ψ : List D → Store → Prop} (hp : PenOk K s)
    (step : ∀ (i : Nat) (d : D) (s : Store), ds[i]? = some d → PenOk (K + i * c) s → opZ (g d) fun l => wz (t (setAll l (wipeE e sl))) s (fun y s' => ∃ x : Tx, y = .str x ∧ x.length ≤ L ∧ PenOk (K + (i + 1) * c) s') fun _ _ => False)
    (q : ∀ (ls : List Tx) (s' : Store), ls.length = ds.length → (∀ x ∈ ls, x.length ≤ L) → PenOk (K + ds.length * c) s' → Ψ (ls.map .str) s') : wz (compM sl g cYes t e ds) s Ψ Ξ := by
  refine comp_iz (fun i acc s => PenOk (K + i * c) s ∧ ∃ ls : List Tx, acc = ls.map .str ∧ ls.length = i ∧ ∀ x ∈ ls, x.length ≤ L) ⟨by simpa using hp, [], rfl, rfl, by intro t ht; cases ht⟩ (fun i d acc s hi hI => ?_) fun ys s hI => ?_
  · obtain ⟨hp, ls, rfl, hl, ht⟩ := hI
    have h := step i d s hi hp
    unfold opZ at h ⊢
    cases hg : g d with
    | none => rw [hg] at h; exact h
    | some l =>
      rw [hg] at h
      simp only [stp] at h ⊢
      refine wp_mono h (fun y s' ⟨x, e, hx, hp'⟩ => ?_) fun _ _ z => z
      subst e
      refine ⟨hp', ls ++ [x], by rw [List.map_append]; rfl, by simp [hl], fun z hz => ?_⟩
      rcases List.mem_append.mp hz with h | h
      · exact ht z h
      · rw [List.mem_singleton.mp h]; exact hx
  · obtain ⟨hp, ls, rfl, hl, ht⟩ := hI
    exact q ls s hl ht hp
theorem lines_z {k : Nat} (hp : PenOk k s) (hk : k ≤ 800000000) (q : ∀ (ls : List Tx) (s' : Store), (∀ t ∈ ls, t.length ≤ 400) → ls.length ≤ 12 → PenOk (k + 1000) s' → Φ (.tup (ls.map .str)) s') : wz (m__law_lines [.ref 0]) s Φ Ξ := by
  simp only [m__law_lines, N__law_lines, b__law_lines, stp]
  refine drawz hp fun r s1 a b hp1 => ?_
  try simp only [stp]
  cases hr : (r == 0) with
  | true =>
    try simp only [stp]
    refine drawz hp1 fun r2 s2 a2 b2 hp2 => ?_
    try simp only [stp]
    rw [z_rng1 ⟨by omega, by omega⟩]
    refine comp_tx (K := k + 2) (c := 1) (L := 100) hp2 (fun i d s hi hp => ?_) fun ls s3 hl ht hp3 => ?_
    · obtain ⟨hin, rfl⟩ := nums_get hi
      simp only [gOne, wipeE, List.foldl_cons, List.foldl_nil, stp]
      refine ixz_str (by omega) (by simp; omega) fun c _ => ?_
      try simp only [stp]
      refine drawz hp fun r4 s4 a4 b4 hp4 => ?_
      try simp only [stp]
      rw [z_mul_str _ _ (by simp; omega)]
      refine ⟨_, rfl, by rw [flat_rep]; simp; omega, hp4.mono (by omega)⟩
    · rw [nums_length] at hl hp3
      try simp only [stp]
      refine drawz hp3 fun r4 s4 a4 b4 hp4 => ?_
      try simp only [stp]
      rw [z_rng1 ⟨by omega, by omega⟩]
      refine comp_tx (K := k + 20) (c := 1) (L := 400) (hp4.mono (by omega)) (fun i d s hi hp => ?_) fun ls s3 hl ht hp3 => ?_
      · obtain ⟨hin, rfl⟩ := nums_get hi
        simp only [gOne, wipeE, List.foldl_cons, List.foldl_nil, stp]
        refine drawz hp fun r5 s5 a5 b5 hp5 => ?_
        try simp only [stp]
        rw [cut_take _ (by omega), ← List.map_take]
        have hs := sum_le (l := ls.take (1 + r5).toNat) (n := 100) fun t h => ht t (List.mem_of_mem_take h)
        have hl2 : (ls.take (1 + r5).toNat).length ≤ 8 := by rw [List.length_take]; omega
        have jl : joinLen [' '] (ls.take (1 + r5).toNat) ≤ 10000 := by
          unfold joinLen
          have : (ls.take (1 + r5).toNat).length * 100 ≤ 8 * 100 := Nat.mul_le_mul hl2 (Nat.le_refl _)
          simp only [List.length_cons, List.length_nil]
          omega
        refine join_z (by omega) ?_
        try simp only [stp]
        rw [cut_take _ (by omega)]
        exact ⟨_, rfl, by rw [List.length_take]; simp; omega, hp5.mono (by omega)⟩
      · rw [nums_length] at hl hp3
        try simp only [stp]
        refine (okz (a := D.tup (ls.map .str)) (s' := s3) rfl).mpr ?_
        exact q ls s3 ht (by omega) (hp3.mono (by omega))
  | false =>
    try simp only [stp]
    refine drawz hp1 fun r2 s2 a2 b2 hp2 => ?_
    try simp only [stp]
    refine drawz hp2 fun r3 s3 a3 b3 hp3 => ?_
    try simp only [stp]
    refine drawz hp3 fun r4 s4 a4 b4 hp4 => ?_
    refine ixz_any a4 (by simpa using b4) fun c hc => ?_
    obtain ⟨n, rfl, n0, n12⟩ : ∃ n : Int, c = .int n ∧ 0 ≤ n ∧ n ≤ 12 := by
      simp only [List.mem_cons, List.not_mem_nil, or_false] at hc
      rcases hc with rfl | rfl | rfl
      · exact ⟨_, rfl, by omega, by omega⟩
      · exact ⟨_, rfl, by omega, by omega⟩
      · exact ⟨_, rfl, by omega, by omega⟩
    try simp only [stp]
    rw [z_rng1 ⟨by omega, by omega⟩]
    refine comp_tx (K := k + 4) (c := 20) (L := 60) (hp4.mono (by omega)) (fun i d s hi hp => ?_) fun ls s3 hl ht hp3 => ?_
    · obtain ⟨hin, rfl⟩ := nums_get hi
      simp only [gOne, wipeE, List.foldl_cons, List.foldl_nil, stp]
      refine line_ok hp (by omega) fun t s5 ht hp5 => ?_
      try simp only [stp]
      have e : wz (fInt (D.bl (decide (3 < n)))) s5 (fun y s => wz (opIx (D.lst [.int 60, .int 12]) y) s (fun d s => ∃ m : Int, d = .int m ∧ 0 ≤ m ∧ m ≤ 60 ∧ s = s5) fun _ _ => False) fun _ _ => False := by
        cases decide (3 < n) with
        | true =>
          refine (okz (a := D.int 1) (s' := s5) rfl).mpr ?_
          refine (okz (a := D.int 12) (s' := s5) rfl).mpr ⟨12, rfl, by omega, by omega, rfl⟩
        | false =>
          refine (okz (a := D.int 0) (s' := s5) rfl).mpr ?_
          refine (okz (a := D.int 60) (s' := s5) rfl).mpr ⟨60, rfl, by omega, by omega, rfl⟩
      refine wp_mono e (fun y s6 h => ?_) fun _ _ z => z
      refine wp_mono h (fun d s7 ⟨m, e, m0, m1, e2⟩ => ?_) fun _ _ z => z
      subst e e2
      show wz _ _ _ _
      try simp only [stp]
      rw [cut_take _ m0]
      exact ⟨_, rfl, by rw [List.length_take]; omega, hp5.mono (by omega)⟩
    · rw [nums_length] at hl hp3
      try simp only [stp]
      refine (okz (a := D.tup (ls.map .str)) (s' := s3) rfl).mpr ?_
      exact q ls s3 (fun t h => Nat.le_trans (ht t h) (by omega)) (by omega) (hp3.mono (by omega))
theorem worth_int {t : Tx} {i : Nat} (ht : t = tWide ∨ t = tHigh) (h1 : 1 ≤ i) (h2 : i ≤ 999) : isWorthD t (.int (i : Int)) = true := by
  have : fromD (.int (i : Int)) 1 999 = true := by
    show (decide ((1 : Int) ≤ (i : Int)) && decide ((i : Int) ≤ 999)) = true
    rw [decide_eq_true (by omega), decide_eq_true (by omega)]
    rfl
  rcases ht with rfl | rfl
  · exact this
  · exact this
theorem worth_size {i : Nat} (h1 : 1 ≤ i) (h2 : i ≤ 99) : isWorthD tSize (.int (i : Int)) = true := by
  have : fromD (.int (i : Int)) 1 99 = true := by
    show (decide ((1 : Int) ≤ (i : Int)) && decide ((i : Int) ≤ 99)) = true
    rw [decide_eq_true (by omega), decide_eq_true (by omega)]
    rfl
  exact this
theorem wide_z {d : D} (h : kindD d = true) (q : Φ (.bl (isWorthD tWide d)) s) : wz (m_is_worth [.str ['w', 'i', 'd', 'e'], d]) s Φ Ξ := is_worth_z (t := tWide) (by decide) h q
theorem high_z {d : D} (h : kindD d = true) (q : Φ (.bl (isWorthD tHigh d)) s) : wz (m_is_worth [.str ['h', 'i', 'g', 'h'], d]) s Φ Ξ := is_worth_z (t := tHigh) (by decide) h q
theorem size_z {d : D} (h : kindD d = true) (q : Φ (.bl (isWorthD tSize d)) s) : wz (m_is_worth [.str ['s', 'i', 'z', 'e'], d]) s Φ Ξ := is_worth_z (t := tSize) (by decide) h q
theorem told_ok {b : Bool} {wide high size : Nat} {ls : List Tx} (w1 : 1 ≤ wide ∧ wide ≤ 999) (h1 : 1 ≤ high ∧ high ≤ 999) (z1 : 1 ≤ size ∧ size ≤ 99) (h : ∀ t ∈ ls, t.length ≤ 900) (hl : ls.length ≤ 15) (q : Φ (sizeD ls wide high size) s) : wz (m__law_told [linD b ls, .int (wide : Int), .int (high : Int), .int (size : Int)]) s Φ Ξ := by
  simp only [m__law_told, N__law_told, b__law_told, m_shrunk_to, N_shrunk_to, b_shrunk_to, stp]
  refine wide_z rfl ?_
  rw [worth_int (.inl rfl) w1.1 w1.2]
  simp only [Bool.not_true, stp]
  refine high_z rfl ?_
  rw [worth_int (.inr rfl) h1.1 h1.2]
  simp only [Bool.not_true, stp]
  refine size_z rfl ?_
  rw [worth_size z1.1 z1.2]
  simp only [Bool.not_true, stp]
  refine greatest_z (by omega) h hl ?_
  rcases sizeD_flat ls wide high size with e | ⟨i, e⟩ <;> rw [e] at q ⊢ <;> simp only [stp, Mr.isNon] <;> exact q
theorem told_bad {d x y z : D} (hx : kindD x = true) (hy : kindD y = true) (hz : kindD z = true) (h : (isWorthD tWide x && isWorthD tHigh y && isWorthD tSize z) = false) (q : Φ (.str ['r', 'o', 'o', 'm']) s) : wz (m__law_told [d, x, y, z]) s Φ Ξ := by
  have fin : ∀ e : Ev, e.length = 7 → e[6]? = some none → True := fun _ _ _ => trivial
  simp only [m__law_told, N__law_told, b__law_told, m_shrunk_to, N_shrunk_to, b_shrunk_to, stp]
  refine wide_z hx ?_
  cases h1 : isWorthD tWide x with
  | false =>
    simp only [Bool.not_false, stp]
    rw [tryK_t rfl]
    simp only [stp, Mr.isNon, Bool.not_false]
    exact wordz (c := "NoRoom") (w := ['r', 'o', 'o', 'm']) (by decide +kernel) q
  | true =>
    simp only [Bool.not_true, stp]
    refine high_z hy ?_
    cases h2 : isWorthD tHigh y with
    | false =>
      simp only [Bool.not_false, stp]
      rw [tryK_t rfl]
      simp only [stp, Mr.isNon, Bool.not_false]
      exact wordz (c := "NoRoom") (w := ['r', 'o', 'o', 'm']) (by decide +kernel) q
    | true =>
      rw [h1, h2] at h
      have h3 : isWorthD tSize z = false := h
      simp only [Bool.not_true, stp]
      refine size_z hz ?_
      rw [h3]
      simp only [Bool.not_false, stp]
      rw [tryK_t rfl]
      simp only [stp, Mr.isNon, Bool.not_false]
      exact wordz (c := "NoRoom") (w := ['r', 'o', 'o', 'm']) (by decide +kernel) q
theorem ne_size {ls : List Tx} {w h n : Nat} (q : Φ (.bl false) s) : wz (opNe (sizeD ls w h n) (sizeD ls w h n)) s Φ Ξ := by
  rcases sizeD_flat ls w h n with e | ⟨i, e⟩
  · rw [e]
    exact (okz (a := D.bl false) (s' := s) (by kernel_rfl)).mpr q
  · rw [e, z_ne rfl rfl]
    have : D.eqv (.int i) (.int i) = true := by simp [D.eqv]
    rw [this]
    exact q
theorem list_z {b : Bool} {ls : List Tx} (q : Φ (.lst (ls.map .str)) s) : wz (fList (linD b ls)) s Φ Ξ := by
  cases b
  · exact q
  · exact q
theorem eqvL_texts : ∀ l : List Tx, D.eqvL (l.map D.str) (l.map D.str) = true
  | [] => by simp [D.eqvL]
  | x :: l => by simp [D.eqvL, D.eqv, eqvL_texts l]
theorem eqv_texts (l : List Tx) : D.eqv (.lst (l.map D.str)) (.lst (l.map D.str)) = true := by
  simp [D.eqv, eqvL_texts]
theorem plainT : ∀ l : List Tx, D.plainL (l.map D.str) = true
  | [] => by simp [D.plainL]
  | x :: l => by simp [D.plainL, D.plain, plainT l]
theorem depthT : ∀ l : List Tx, D.depthL (l.map D.str) = 0
  | [] => by simp [D.depthL]
  | x :: l => by simp [D.depthL, D.depth, depthT l]
theorem okT (l : List Tx) : D.okD (.lst (l.map D.str)) = true := by simp [D.okD, D.plain, D.depth, plainT, depthT]
/-- a number drawn of three or four -/
theorem pick_z {xs : List D} {r m : Int} (h0 : 0 ≤ r) (h1 : r < xs.length) (hx : ∀ c ∈ xs, ∃ n : Nat, c = .int (n : Int) ∧ 1 ≤ n ∧ n ≤ m) (q : ∀ n : Nat, 1 ≤ n → n ≤ m → Φ (.int (n : Int)) s) : wz (opIx (.lst xs) (.int r)) s Φ Ξ := by
  refine ixz_any h0 h1 fun c hc => ?_
  obtain ⟨n, rfl, n1, n2⟩ := hx c hc
  exact q n n1 n2
theorem bit_z {b : Bool} (q : ∀ c : Int, 0 ≤ c ∧ c ≤ 1 → Φ (.int c) s) : wz (fInt (.bl b)) s Φ Ξ := by
  cases b
  · exact (okz (a := D.int 0) (s' := s) rfl).mpr (q 0 ⟨by omega, by omega⟩)
  · exact (okz (a := D.int 1) (s' := s) rfl).mpr (q 1 ⟨by omega, by omega⟩)
theorem min_z {i : Int} (q : ∀ d : D, (1 ≤ i → i ≤ 100000 → ∃ n : Nat, d = .int (n : Int) ∧ 1 ≤ n ∧ n ≤ 999) → Φ d s) : wz (fMin (.int 999) (.int i)) s Φ Ξ := by
  refine (okz (a := D.int (if i < 999 then i else 999)) (s' := s) rfl).mpr (q _ fun h1 h2 => ?_)
  split
  · exact ⟨i.toNat, by congr 1; omega, by omega, by omega⟩
  · exact ⟨999, rfl, by omega, by omega⟩
theorem max_z {i : Int} (h0 : 0 ≤ i) (h1 : i ≤ 99) (q : ∀ n : Nat, 1 ≤ n → n ≤ 99 → Φ (.int (n : Int)) s) : wz (fMax (.int 1) (.int i)) s Φ Ξ := by
  refine (okz (a := D.int (if i > 1 then i else 1)) (s' := s) rfl).mpr ?_
  split
  · have := q i.toNat (by omega) (by omega)
    rw [Int.toNat_of_nonneg h0] at this
    exact this
  · exact q 1 (by omega) (by omega)
end
theorem main (ns : List Int) (_ : ns.length ≤ 63) : ∃ s, b_law (startL N_law 1) (pen0 ns) = .ret (.bl true) s := by
  refine law_z ?_
  have ev : startL N_law 1 = [none, some (.ref 0), none, none, none, none, none, none, none, none, none, none, none, none, none] := rfl
  rw [ev]
  simp only [b_law, stp]
  refine drawz (pen0_ok ns) fun r s a b hp => ?_
  try simp only [stp]
  rw [z_rng1 ⟨by omega, by omega⟩]
  refine for_fr [2, 3, 4, 5, 6, 7, 8, 9, 10, 11, 12, 13, 14] (fun j s => PenOk (1 + j * 2000) s) (by decide) hp (fun j d v s hj hp => ?_) fun v s hI => ?_
  · obtain ⟨hjn, rfl⟩ := nums_get hj
    simp only [gOne, fill_cons, fill_nil, stp]
    refine lines_z hp (by omega) fun ls s1 ht hl hp1 => ?_
    have ht9 : ∀ t ∈ ls, t.length ≤ 900 := fun t h => Nat.le_trans (ht t h) (by omega)
    try simp only [stp]
    refine drawz hp1 fun r2 s2 a2 b2 hp2 => ?_
    try simp only [stp]
    refine drawz hp2 fun r3 s3 a3 b3 hp3 => ?_
    try simp only [stp]
    refine drawz hp3 fun r4 s4 a4 b4 hp4 => ?_
    refine pick_z (m := 999) a4 (by simpa using b4) (fun c hc => ?_) fun wide w1 w2 => ?_
    · simp only [List.mem_cons, List.not_mem_nil, or_false] at hc
      rcases hc with rfl | rfl | rfl
      · exact ⟨(1 + r2).toNat, by congr 1; omega, by omega, by omega⟩
      · exact ⟨(1 + r3).toNat, by congr 1; omega, by omega, by omega⟩
      · exact ⟨999, rfl, by omega, by omega⟩
    try simp only [stp]
    refine drawz hp4 fun r5 s5 a5 b5 hp5 => ?_
    try simp only [stp]
    refine drawz hp5 fun r6 s6 a6 b6 hp6 => ?_
    try simp only [stp]
    refine drawz hp6 fun r7 s7 a7 b7 hp7 => ?_
    refine pick_z (m := 999) a7 (by simpa using b7) (fun c hc => ?_) fun high h1 h2 => ?_
    · simp only [List.mem_cons, List.not_mem_nil, or_false] at hc
      rcases hc with rfl | rfl | rfl
      · exact ⟨(1 + r5).toNat, by congr 1; omega, by omega, by omega⟩
      · exact ⟨(1 + r6).toNat, by congr 1; omega, by omega, by omega⟩
      · exact ⟨999, rfl, by omega, by omega⟩
    try simp only [stp]
    refine drawz hp7 fun r8 s8 a8 b8 hp8 => ?_
    try simp only [stp]
    refine drawz hp8 fun r9 s9 a9 b9 hp9 => ?_
    try simp only [stp]
    refine drawz hp9 fun r10 s10 a10 b10 hp10 => ?_
    refine pick_z (m := 99) a10 (by simpa using b10) (fun c hc => ?_) fun size z1 z2 => ?_
    · simp only [List.mem_cons, List.not_mem_nil, or_false] at hc
      rcases hc with rfl | rfl | rfl | rfl
      · exact ⟨1, rfl, by omega, by omega⟩
      · exact ⟨(1 + r8).toNat, by congr 1; omega, by omega, by omega⟩
      · exact ⟨(1 + r9).toNat, by congr 1; omega, by omega, by omega⟩
      · exact ⟨99, rfl, by omega, by omega⟩
    try simp only [stp]
    have w2 : wide ≤ 999 := by omega
    have h2 : high ≤ 999 := by omega
    have z2 : size ≤ 99 := by omega
    have hl15 : ls.length ≤ 14 := by omega
    refine law_size_z (b := true) (ls := ls) (by omega) (by omega) ht9 (by omega) ?_
    try simp only [stp]
    refine list_z (b := true) (ls := ls) ?_
    try simp only [stp]
    refine for_fr [9] (fun _ s => s = s10) (show ∀ i ∈ [9], i < 15 by decide) rfl (fun i d v2 s hi hs => ?_) fun v2 s hs => ?_
    · subst hs
      obtain ⟨bb, rfl⟩ : ∃ b, d = linD b ls := by
        have := List.mem_of_getElem? hi
        simp only [List.mem_cons, List.not_mem_nil, or_false] at this
        rcases this with rfl | rfl | rfl
        · exact ⟨true, rfl⟩
        · exact ⟨false, rfl⟩
        · exact ⟨true, rfl⟩
      simp only [gOne, fill_cons, fill_nil, stp]
      refine told_ok ⟨w1, w2⟩ ⟨h1, h2⟩ ⟨z1, z2⟩ ht9 (by omega) ?_
      try simp only [stp]
      refine ne_size ?_
      try simp only [stp]
      refine list_z (b := true) (ls := ls) ?_
      try simp only [stp]
      rw [z_ne (okT ls) (okT ls), eqv_texts]
      simp only [Bool.not_true, stp]
      exact fl rfl
    · subst hs
      simp only [fill_cons, fill_nil, stp]
      rw [z_rng1 ⟨by omega, by omega⟩]
      refine for_fr [9, 10, 13, 14] (fun _ s' => s' = s) (show ∀ i ∈ [9, 10, 13, 14], i < 15 by decide) rfl (fun i d v3 s hi hs => ?_) fun v3 s hs => ?_
      · subst hs
        obtain ⟨hi4, rfl⟩ := nums_get hi
        simp only [gOne, fill_cons, fill_nil, stp]
        refine bit_z fun c0 hc0 => ?_
        try simp only [stp]
        rw [z_mul_int _ _ (.inr ⟨by decide, by decide⟩)]
        try simp only [stp]
        refine min_z fun wide2 hw2 => ?_
        obtain ⟨x, rfl, x1, x2⟩ := hw2 (by omega) (by omega)
        try simp only [stp]
        refine bit_z fun c1 hc1 => ?_
        try simp only [stp]
        rw [z_mul_int _ _ (.inr ⟨by decide, by decide⟩)]
        try simp only [stp]
        refine min_z fun high2 hh2 => ?_
        obtain ⟨y, rfl, y1, y2⟩ := hh2 (by omega) (by omega)
        try simp only [stp]
        refine bit_z fun c2 hc2 => ?_
        try simp only [stp]
        refine max_z (by omega) (by omega) fun z z1 z2 => ?_
        try simp only [stp]
        cases h3 : (0 + ((i : Nat) : Int) == 3) with
        | false =>
          try simp only [stp]
          try simp only [stp]
          rw [z_ix_lst (d := D.int (y : Int)) rfl]
          try simp only [stp]
          refine told_ok (b := true) (ls := ls) ⟨x1, x2⟩ ⟨y1, y2⟩ ⟨z1, z2⟩ ht9 (by omega) ?_
          try simp only [stp]
          rw [z_ix_lst (d := D.int (y : Int)) rfl]
          try simp only [stp]
          refine law_size_z (b := true) (ls := ls) (by omega) (by omega) ht9 (by omega) ?_
          try simp only [stp]
          refine ne_size ?_
          try simp only [stp]
          exact fl rfl
        | true =>
          try simp only [stp]
          by_cases h12 : (((ls.map D.str).length : Nat) : Int) < 12
          · simp only [decide_eq_true h12, stp]
            rw [z_add_tup _ _ (by simp; omega)]
            have e9 : ls.map D.str ++ [D.str ['o', 'n', 'e', ' ', 'm', 'o', 'r', 'e']] = (ls ++ [['o', 'n', 'e', ' ', 'm', 'o', 'r', 'e']]).map D.str := by rw [List.map_append]; rfl
            rw [e9]
            have ht2 : ∀ t ∈ ls ++ [['o', 'n', 'e', ' ', 'm', 'o', 'r', 'e']], t.length ≤ 900 := fun t h => by
              rcases List.mem_append.mp h with h | h
              · exact ht9 t h
              · rw [List.mem_singleton.mp h]; decide
            have hl2 : (ls ++ [['o', 'n', 'e', ' ', 'm', 'o', 'r', 'e']]).length ≤ 15 := by rw [List.length_append]; simp only [List.length_cons, List.length_nil]; omega
            try simp only [stp]
            rw [z_ix_lst (d := D.int (y : Int)) rfl]
            try simp only [stp]
            refine told_ok (b := true) (ls := ls ++ [['o', 'n', 'e', ' ', 'm', 'o', 'r', 'e']]) ⟨x1, x2⟩ ⟨y1, y2⟩ ⟨z1, z2⟩ ht2 hl2 ?_
            try simp only [stp]
            rw [z_ix_lst (d := D.int (y : Int)) rfl]
            try simp only [stp]
            refine law_size_z (b := true) (ls := ls ++ [['o', 'n', 'e', ' ', 'm', 'o', 'r', 'e']]) (by omega) (by omega) ht2 hl2 ?_
            try simp only [stp]
            refine ne_size ?_
            try simp only [stp]
            exact fl rfl
          · simp only [decide_eq_false h12, stp]
            try simp only [stp]
            rw [z_ix_lst (d := D.int (y : Int)) rfl]
            try simp only [stp]
            refine told_ok (b := true) (ls := ls) ⟨x1, x2⟩ ⟨y1, y2⟩ ⟨z1, z2⟩ ht9 (by omega) ?_
            try simp only [stp]
            rw [z_ix_lst (d := D.int (y : Int)) rfl]
            try simp only [stp]
            refine law_size_z (b := true) (ls := ls) (by omega) (by omega) ht9 (by omega) ?_
            try simp only [stp]
            refine ne_size ?_
            try simp only [stp]
            exact fl rfl
      · subst hs
        simp only [fill_cons, fill_nil, stp]
        refine drawz hp10 fun r11 s11 a11 b11 hp11 => ?_
        refine ixz_any a11 (by simpa using b11) fun odd hodd => ?_
        have ho : kindD odd = true ∧ isWorthD tWide odd = false ∧ isWorthD tHigh odd = false := by
          simp only [List.mem_cons, List.not_mem_nil, or_false] at hodd
          rcases hodd with rfl | rfl | rfl | rfl | rfl | rfl | rfl <;> exact ⟨by kernel_rfl, by kernel_rfl, by kernel_rfl⟩
        try simp only [stp]
        refine drawz hp11 fun r12 s12 a12 b12 hp12 => ?_
        refine ixz_any a12 (by simpa using b12) fun far hfar => ?_
        have hf : kindD far = true ∧ isWorthD tSize far = false := by
          simp only [List.mem_cons, List.not_mem_nil, or_false] at hfar
          rcases hfar with rfl | rfl | rfl | rfl | rfl <;> exact ⟨by kernel_rfl, by kernel_rfl⟩
        try simp only [stp]
        have bad : ∀ x y z : D, kindD x = true → kindD y = true → kindD z = true → (isWorthD tWide x && isWorthD tHigh y && isWorthD tSize z) = false → ∀ (Φ : D → Store → Prop) (Ξ : Xc → Store → Prop), Φ (.str ['r', 'o', 'o', 'm']) s12 → wz (m__law_told [.tup (ls.map .str), x, y, z]) s12 Φ Ξ := fun x y z h1 h2 h3 h Φ Ξ q => told_bad h1 h2 h3 h q
        refine for_fr [9] (fun _ s => s = s12) (show ∀ i ∈ [9], i < 15 by decide) rfl (fun i d v3 s hi hs => ?_) fun v3 s hs => ?_
        · subst hs
          have := List.mem_of_getElem? hi
          simp only [List.mem_cons, List.not_mem_nil, or_false] at this
          obtain ⟨x, y, z, rfl, hh⟩ : ∃ x y z : D, d = .tup [x, y, z] ∧ ∀ (Φ : D → Store → Prop) (Ξ : Xc → Store → Prop), Φ (.str ['r', 'o', 'o', 'm']) s → wz (m__law_told [.tup (ls.map .str), x, y, z]) s Φ Ξ := by
            rcases this with rfl | rfl | rfl | rfl
            · exact ⟨_, _, _, rfl, bad _ _ _ ho.1 rfl rfl (by rw [ho.2.1]; rfl)⟩
            · exact ⟨_, _, _, rfl, bad _ _ _ rfl ho.1 rfl (by rw [ho.2.2, Bool.and_false]; rfl)⟩
            · exact ⟨_, _, _, rfl, bad _ _ _ rfl rfl hf.1 (by rw [hf.2, Bool.and_false])⟩
            · exact ⟨_, _, _, rfl, bad _ _ _ ho.1 ho.1 hf.1 (by rw [ho.2.1]; rfl)⟩
          simp only [gOne, fill_cons, fill_nil, stp]
          refine hh _ _ ?_
          try simp only [stp]
          refine (okz (m := opNe (.str ['r', 'o', 'o', 'm']) (.str ['r', 'o', 'o', 'm'])) (a := D.bl false) (s' := s) (by kernel_rfl)).mpr ?_
          try simp only [stp]
          exact fl rfl
        · subst hs
          exact ⟨fl rfl, hp12.mono (by omega)⟩
  · simp only [stp]
end Pf
namespace Pf
open PySem PySem.Spec PyProof.Rows L2 Mr
abbrev R : PySem.W.OpenRow := PySem.W.OpenLaw.row PySem.Challenge.rw_mastershow_k34_what_fits
abbrev hk : PySem.W.Hook := He.hookX 4 fa fn tabs tf (exC exs ts tf xs)
def ob (s : PySem.W.SharedT) : He.AlX := He.obsX 4 fa fn tabs tf (exC exs ts tf xs) (HandSHeadRun.getT s)
theorem ob_eq (s : PySem.W.SharedT) : ob s = hk.obs s.abs := He.obsX_eq (HandSHeadRun.getT_eq s)
def loose : List Str := (["DeckError", "NoDeck", "NoMaster", "NoSlide", "NoPlace", "NoTrait", "NoWorth", "NoSetting", "NoName", "Taken", "TooMany", "Ring", "Used", "NoRoom", "NoSteps", "NoPress", "NoTime", "NoShow", "NoLink", "NoNumber", "NoWord", "NoDeed", "NoText", "NoRow", "TRAITS", "BOUNDS", "LETTERS", "FIGURES", "LONGEST_NAME", "is_whole"] : List Str) ++ (["is_from", "is_name", "is_trait", "must_be_trait", "is_worth", "words_in", "rows_in", "wrapped", "fit", "greatest_size", "shrunk_to", "_law_pen", "_law_draw", "_law_line", "_law_lines", "_law_worth", "_law_rows", "_law_size", "_law_word", "_law_told"] : List Str)
theorem runF (w : World) : HandSHeadRun.RunEq R (PySem.W.view R.prog [54]) hk ob 40000 loose (w.withFollow "special-get-raises" false) := by
  intro os
  kernel_rfl
theorem runT (w : World) : HandSHeadRun.RunEq R (PySem.W.view R.prog [54]) hk ob 40000 loose (w.withFollow "special-get-raises" true) := by
  intro os
  kernel_rfl
theorem run (w : World) : HandSHeadRun.RunEq R (PySem.W.view R.prog [54]) hk ob 40000 loose w := PySem.W.byRow2 "special-get-raises" (P := fun w => HandSHeadRun.RunEq R (PySem.W.view R.prog [54]) hk ob 40000 loose w) runF runT w
end Pf
namespace Pf
open PySem PySem.Spec PyProof.Rows L2 Mr
theorem facts {P : Program} {w : World} {K : PySem.W.Frag} {h : Heap} {mg : Str → Option Value} {f : Addr} (X : K.In h) (G : h.Ns mainGlobals mg) (hfa : mg ("law" : Str) = some (.ref f)) (c : He.SaysX fa fn tabs tf (exC exs ts tf xs) w h K) :
    ∃ fd : FuncData, (∀ (s : Shared) (v : Value), BindsTo s fd ⟨[v], []⟩ [("script", v)]) ∧ ∀ base : Heap, K.In base → base.Ns mainGlobals mg → (∀ p ∈ tf.map (He.cT K), LamX.TabB base mg p.1 p.2) → FnOk P w K mg base (L2.CX P w) 8 f fd ["script"] (spLaw K) := by
  have T : Tu K w mg h fa fn exs ts tabs := ⟨⟨X, G, c.t.d⟩, exC_b c.more, fun i t e => c.t.tab i e⟩
  obtain ⟨fdp, Fp⟩ := T.t.c.def_ 12 (d := d__law_pen) rfl
  obtain ⟨fd, F⟩ := T.t.c.def_ 20 (d := d_law) rfl
  have e := hfa.symm.trans (T.t.glo 62 (x := "law"))
  cases e
  have b := FunD.bindsA (ps := ["script"]) F fun _ _ _ _ _ _ us hl => match us, hl with | [_], _ => rfl
  exact ⟨fd, fun s v => b s [v] rfl, fun base _ _ TB => f_law (Tw.of X G c fun p hp => TB _ (List.mem_map.mpr ⟨p, hp, rfl⟩)) F Fp main⟩
end Pf
open PySem PySem.W PySem.Calls PyProof.Rows
theorem PySem.Challenge.cw_mastershow_k34_what_fits_holds : PySem.Challenge.rw_mastershow_k34_what_fits.Holds := by
  w_on; o_law
  refine HandSHeadRun.head_any (r := OpenLaw.row PySem.Challenge.rw_mastershow_k34_what_fits) (q := view (OpenLaw.row PySem.Challenge.rw_mastershow_k34_what_fits).prog [54]) (H := Pf.hk) (ob := Pf.ob) (M := 40000) (loose := Pf.loose) (d := HandSHeadRun.topDef (OpenLaw.row PySem.Challenge.rw_mastershow_k34_what_fits).prog 54) (kwd := []) Pf.ob_eq
    (by kernel_rfl) (fun s => by kernel_rfl) Pf.run (by kernel_rfl) (by kernel_rfl) (by kernel_rfl) (by rfl) (by first | assumption | decide +kernel) (by decide +kernel) ⟨rfl, rfl, rfl, rfl, rfl, by decide +kernel⟩ ?hw ?hc
  case hw => w_witness2
  case hc =>
    refine Mr.walk_law (l := PySem.Challenge.rw_mastershow_k34_what_fits) (k := 8) rfl (by kernel_rfl) ⟨rfl, by decide, by decide⟩ ?F
    intro w mg fa h Y G hmg0
    obtain ⟨K, KX, c⟩ := Y
    have hmg : mg ("law" : PySem.Str) = some (.ref fa) := by
      have e : (HandSHeadRun.topDef (OpenLaw.row PySem.Challenge.rw_mastershow_k34_what_fits).prog 54).name = ("law" : PySem.Str) := by kernel_rfl
      rw [← e]
      exact hmg0
    obtain ⟨fd, hb, hF⟩ := Pf.facts (P := (PySem.Challenge.rw_mastershow_k34_what_fits).prog) (w := w) KX G hmg c
    have at_ : ∀ {p}, p ∈ Pf.tf.map (He.cT K) → ∃ q ∈ Pf.tf, He.cT K q = p := fun hp => List.mem_map.mp hp
    exact ⟨K, fd, _, KX, fun p hp => (by obtain ⟨q, hq, rfl⟩ := at_ hp; exact c.empty q hq), fun p hp => (by obtain ⟨q, hq, rfl⟩ := at_ hp; exact c.out q hq), fun p hp => (by obtain ⟨q, hq, rfl⟩ := at_ hp; exact codeHd_of_K KX (c.hd q hq)), fun H t => Mr.tabs_start (Mr.exC_m c.more) c.hd t, hb, hF⟩
