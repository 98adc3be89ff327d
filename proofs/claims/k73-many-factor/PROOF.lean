import PyProof.Rows.All
import Wide.All
import OpenK.AllK
import Wide.FinOn
import HandS.ForMost
import HandS.Exc
import HandS.ExcOwn
import HandS.TryOnly
import HandS.WordsExc
import HandS.IsInst
import HandS.Gcd
import HandS.Wide
import HandS.WideBits
import HandS.Property
import HandS.Style
import HandS.Zip
import HandS.TryMany
import HandS.ExcIs
import KE.GoesMore
import PySem.Challenge.RW_twicewaited_k73_many_factor
set_option Elab.async false
set_option linter.all false
set_option maxRecDepth 100000
set_option maxHeartbeats 4000000
/-! A layer over HandS in which a def's body is followed over plain data: what each slot holds is a datum (frozen) or a list or an instance that this frame alone may change. -/
namespace DL
open PySem L2

/-- plain data -/
inductive D where
  | non
  | bl (b : Bool)
  | int (i : Int)
  | str (s : Str)
  | tup (ds : List D)
  | lst (ds : List D)
  | ins (C : Addr) (ns : List Str) (ds : List D)
  | ref (a : Addr)

mutual
/-- the value v stands for the datum in the heap H -/
inductive Rep (K : PySem.W.Frag) (H : Hp) : V → D → Prop
  | non : Rep K H .non .non
  | bl (b : Bool) : Rep K H (.bl b) (.bl b)
  | int (i : Int) : Rep K H (.int i) (.int i)
  | str (s : Str) : Rep K H (.str s) (.str s)
  | tup {a : Addr} {vs : List V} {ds : List D} : SqT K H a vs → RepL K H vs ds → Rep K H (.ref a) (.tup ds)
  | lst {a : Addr} {vs : List V} {ds : List D} : SqL K H a vs → RepL K H vs ds → Rep K H (.ref a) (.lst ds)
  | ins {a C dx : Addr} {fs : List (Str × V)} {ns : List Str} {ds : List D} : H a = some (.ins C dx fs) → fs.map (·.1) = ns → RepL K H (fs.map (·.2)) ds → Rep K H (.ref a) (.ins C ns ds)
  | ref (a : Addr) : Rep K H (.ref a) (.ref a)
inductive RepL (K : PySem.W.Frag) (H : Hp) : List V → List D → Prop
  | nil : RepL K H [] []
  | cons {v : V} {vs : List V} {d : D} {ds : List D} : Rep K H v d → RepL K H vs ds → RepL K H (v :: vs) (d :: ds)
end

section
variable {K : PySem.W.Frag} {H H' : Hp}
theorem sqt_mono {a : Addr} {xs : List V} (e : Same H H') (h : SqT K H a xs) : SqT K H' a xs := by
  rcases h with (h | ⟨o, h⟩) | h
  · exact .inl (.inl (e _ _ h))
  · exact .inl (.inr ⟨o, e _ _ h⟩)
  · exact .inr h
theorem sql_mono {a : Addr} {xs : List V} (e : Same H H') (h : SqL K H a xs) : SqL K H' a xs := by
  rcases h with (h | ⟨o, h⟩) | h
  · exact .inl (.inl (e _ _ h))
  · exact .inl (.inr ⟨o, e _ _ h⟩)
  · exact .inr h
theorem rd_mono {a : Addr} {u : HO} (e : Same H H') (h : Rd H a u) : Rd H' a u := by
  rcases h with h | ⟨o, h⟩
  · exact .inl (e _ _ h)
  · exact .inr ⟨o, e _ _ h⟩
mutual
theorem Rep.mono (e : Same H H') : ∀ (d : D) (v : V), Rep K H v d → Rep K H' v d
  | .non, _, h => by cases h; exact .non
  | .bl b, _, h => by cases h; exact .bl b
  | .int i, _, h => by cases h; exact .int i
  | .str s, _, h => by cases h; exact .str s
  | .tup ds, _, h => by
    cases h with
    | tup a b => exact .tup (sqt_mono e a) (RepL.mono e ds _ b)
  | .lst ds, _, h => by
    cases h with
    | lst a b => exact .lst (sql_mono e a) (RepL.mono e ds _ b)
  | .ins C ns ds, _, h => by
    cases h with
    | ins a b c => exact .ins (e _ _ a) b (RepL.mono e ds _ c)
  | .ref a, _, h => by cases h; exact .ref a
theorem RepL.mono (e : Same H H') : ∀ (ds : List D) (vs : List V), RepL K H vs ds → RepL K H' vs ds
  | [], _, h => by cases h; exact .nil
  | d :: ds, _, h => by
    cases h with
    | cons a b => exact .cons (Rep.mono e d _ a) (RepL.mono e ds _ b)
end
theorem Rep.up {d : D} {v : V} (h : Rep K H v d) (e : Same H H') : Rep K H' v d := Rep.mono e d v h
theorem RepL.up {ds : List D} {vs : List V} (h : RepL K H vs ds) (e : Same H H') : RepL K H' vs ds := RepL.mono e ds vs h
theorem RepL.length : ∀ {ds : List D} {vs : List V}, RepL K H vs ds → vs.length = ds.length
  | [], _, h => by cases h; rfl
  | d :: ds, _, h => by
    cases h with
    | cons a b =>
      show _ + 1 = _ + 1
      rw [RepL.length b]
theorem RepL.get : ∀ {ds : List D} {vs : List V} {i : Nat} {d : D}, RepL K H vs ds → ds[i]? = some d → ∃ v, vs[i]? = some v ∧ Rep K H v d
  | [], _, i, d, h, e => by simp at e
  | x :: ds, _, 0, d, h, e => by
    cases h with
    | cons a b =>
      have e' : x = d := by simpa using e
      subst e'
      exact ⟨_, rfl, a⟩
  | x :: ds, _, i + 1, d, h, e => by
    cases h with
    | cons a b =>
      obtain ⟨v, h1, h2⟩ := RepL.get (i := i) b (by simpa using e)
      exact ⟨v, by simpa using h1, h2⟩
theorem RepL.getV : ∀ {ds : List D} {vs : List V} {i : Nat} {v : V}, RepL K H vs ds → vs[i]? = some v → ∃ d, ds[i]? = some d ∧ Rep K H v d
  | [], _, i, d, h, e => by cases h; simp at e
  | x :: ds, _, 0, v, h, e => by
    cases h with
    | cons a b =>
      have e' := Option.some.inj e
      subst e'
      exact ⟨_, rfl, a⟩
  | x :: ds, _, i + 1, v, h, e => by
    cases h with
    | cons a b =>
      obtain ⟨d, h1, h2⟩ := RepL.getV (i := i) b (by simpa using e)
      exact ⟨d, by simpa using h1, h2⟩
theorem RepL.append : ∀ {ds es : List D} {vs ws : List V}, RepL K H vs ds → RepL K H ws es → RepL K H (vs ++ ws) (ds ++ es)
  | [], es, _, ws, h, g => by cases h; exact g
  | d :: ds, es, _, ws, h, g => by
    cases h with
    | cons a b => exact .cons a (RepL.append b g)
theorem RepL.one {v : V} {d : D} (h : Rep K H v d) : RepL K H [v] [d] := .cons h .nil
theorem RepL.set {v : V} {d : D} (g : Rep K H v d) : ∀ {ds : List D} {vs : List V} (i : Nat), RepL K H vs ds → RepL K H (vs.set i v) (ds.set i d)
  | [], _, i, h => by cases h; exact .nil
  | x :: ds, _, 0, h => by
    cases h with
    | cons a b => exact .cons g b
  | x :: ds, _, i + 1, h => by
    cases h with
    | cons a b => exact .cons a (RepL.set g i b)
theorem RepL.take : ∀ {ds : List D} {vs : List V} (n : Nat), RepL K H vs ds → RepL K H (vs.take n) (ds.take n)
  | _, _, 0, _ => .nil
  | [], _, n + 1, h => by cases h; exact .nil
  | x :: ds, _, n + 1, h => by
    cases h with
    | cons a b => exact .cons a (RepL.take n b)
theorem RepL.drop : ∀ {ds : List D} {vs : List V} (n : Nat), RepL K H vs ds → RepL K H (vs.drop n) (ds.drop n)
  | _, _, 0, h => h
  | [], _, n + 1, h => by cases h; exact .nil
  | x :: ds, _, n + 1, h => by
    cases h with
    | cons a b => exact RepL.drop n b
theorem RepL.ints : ∀ (ns : List Int), RepL K H (ns.map V.int) (ns.map D.int)
  | [] => .nil
  | n :: ns => .cons (.int n) (RepL.ints ns)
theorem RepL.ints_eq : ∀ {ns : List Int} {vs : List V}, RepL K H vs (ns.map D.int) → vs = ns.map V.int
  | [], _, h => by cases h; rfl
  | n :: ns, _, h => by
    cases h with
    | cons a b =>
      cases a
      rw [RepL.ints_eq b]; rfl
theorem RepL.bls_eq : ∀ {ns : List Bool} {vs : List V}, RepL K H vs (ns.map D.bl) → vs = ns.map V.bl
  | [], _, h => by cases h; rfl
  | n :: ns, _, h => by
    cases h with
    | cons a b =>
      cases a
      rw [RepL.bls_eq b]; rfl
end

/-- what a slot holds: nothing that is known, a datum, a list or an instance that this frame may change -/
inductive Slot where
  | un
  | dat (d : D)
  | own (ds : List D)
  | obj (C : Addr) (ns : List Str) (ds : List D)
def Slot.mu : Slot → Bool
  | .own _ => true
  | .obj _ _ _ => true
  | _ => false
/-- the thing at l that may be changed -/
def Mu (K : PySem.W.Frag) (B H : Hp) (l : Addr) : Slot → Prop
  | .own ds => ∃ vs, H l = some (.lst vs) ∧ RepL K B vs ds
  | .obj C ns ds => ∃ dx fs, H l = some (.ins C dx fs) ∧ fs.map (·.1) = ns ∧ RepL K B (fs.map (·.2)) ds
  | _ => True
theorem Mu.ex {K : PySem.W.Frag} {B H : Hp} {l : Addr} {s : Slot} (h : Mu K B H l s) (m : s.mu = true) : ∃ o, H l = some o := by
  cases s with
  | un => cases m
  | dat d => cases m
  | own ds => obtain ⟨vs, e, _⟩ := h; exact ⟨_, e⟩
  | obj C ns ds => obtain ⟨dx, fs, e, _⟩ := h; exact ⟨_, e⟩
theorem Mu.up {K : PySem.W.Frag} {B B' H H' : Hp} {l : Addr} {s : Slot} (h : Mu K B H l s) (e : Same B B') (k : ∀ o, H l = some o → H' l = some o) : Mu K B' H' l s := by
  cases s with
  | un => trivial
  | dat d => trivial
  | own ds => obtain ⟨vs, q, r⟩ := h; exact ⟨vs, k _ q, r.up e⟩
  | obj C ns ds => obtain ⟨dx, fs, q, n, r⟩ := h; exact ⟨dx, fs, k _ q, n, r.up e⟩

/-- the entry of a def: its heap, the frozen part of it, which slots are lent by the caller, and where those stand -/
structure Ent where
  H0 : Hp
  B0 : Hp
  bor : List (Nat × Addr)

/-- the slots' values are as told; B is the frozen part of the heap H -/
structure Sat (K : PySem.W.Frag) (G : Ent) (δ : List Slot) (σ : St) (B H : Hp) : Prop where
  hb : Same B H
  b0 : Same G.B0 B
  fr : ∀ a o, G.H0 a = some o → a ∉ G.bor.map (·.2) → H a = some o
  nb : ∀ a o, G.H0 a = some o → B a = G.B0 a
  len : σ.length = δ.length
  dat : ∀ (i : Nat) d, δ[i]? = some (.dat d) → ∃ v, σ[i]? = some (some v) ∧ Rep K B v d
  mu : ∀ (i : Nat) s, δ[i]? = some s → s.mu = true → ∃ l, σ[i]? = some (some (.ref l)) ∧ B l = none ∧ Mu K B H l s ∧ (G.H0 l = none ∨ (i, l) ∈ G.bor)
  dis : ∀ (i j : Nat) s t l, i ≠ j → δ[i]? = some s → s.mu = true → δ[j]? = some t → t.mu = true → σ[i]? = some (some (.ref l)) → σ[j]? = some (some (.ref l)) → False
  bor : ∀ p ∈ G.bor, σ[p.1]? = some (some (.ref p.2)) ∧ ∃ s, δ[p.1]? = some s ∧ s.mu = true

section
variable {K : PySem.W.Frag} {G : Ent} {δ δ' : List Slot} {σ : St} {B B' H H' : Hp}
theorem Sat.alive (S : Sat K G δ σ B H) {a : Addr} {o : HO} (h : G.H0 a = some o) : ∃ o', H a = some o' := by
  by_cases m : a ∈ G.bor.map (·.2)
  · obtain ⟨p, hp, e⟩ := List.mem_map.mp m
    obtain ⟨h1, s, h2, h3⟩ := S.bor p hp
    obtain ⟨l, q1, q2, q3, _⟩ := S.mu _ s h2 h3
    rw [h1] at q1
    have e2 : p.2 = l := by injection q1 with q1; injection q1 with q1; injection q1
    rw [← e, e2]
    exact Mu.ex q3 h3
  · exact ⟨o, S.fr a o h m⟩
theorem Sat.h0 (S : Sat K G δ σ B H) {a : Addr} (h : H a = none) : G.H0 a = none := by
  cases e : G.H0 a with
  | none => rfl
  | some o =>
    obtain ⟨o', q⟩ := S.alive e
    rw [h] at q; cases q
theorem Same.no {H H' : Hp} (e : Same H H') {a : Addr} (h : H' a = none) : H a = none := Same.free e h
/-- more stands: the heap has grown, the frozen part too, but only by what is new -/
theorem Sat.more (S : Sat K G δ σ B H) (h : Same H H') (b : Same B B') (bh : Same B' H') (n : ∀ a o, H a = some o → B' a = B a) : Sat K G δ σ B' H' where
  hb := bh
  b0 := S.b0.trans b
  fr := fun a o e m => h _ _ (S.fr a o e m)
  nb := fun a o e => by
    obtain ⟨o', q⟩ := S.alive e
    rw [n a o' q]; exact S.nb a o e
  len := S.len
  dat := fun i d e => by
    obtain ⟨v, q, r⟩ := S.dat i d e
    exact ⟨v, q, r.up b⟩
  mu := fun i s e m => by
    obtain ⟨l, q, r, t, u⟩ := S.mu i s e m
    obtain ⟨o, z⟩ := Mu.ex t m
    exact ⟨l, q, by rw [n l o z]; exact r, Mu.up t b (fun o e => h _ _ e), u⟩
  dis := S.dis
  bor := S.bor
/-- a new thing at p, part of what is frozen -/
theorem Sat.newB (S : Sat K G δ σ B H) {p : Addr} {o : HO} (h : H p = none) : Sat K G δ σ (upd B p o) (upd H p o) ∧ Same B (upd B p o) := by
  have hB : B p = none := S.hb.free h
  have sB : Same B (upd B p o) := fun b u e => by rw [upd_ne (ne_of_none e hB)]; exact e
  refine ⟨S.more (fun b u e => by rw [upd_ne (ne_of_none e h)]; exact e) sB (fun b u e => ?_) (fun a u e => ?_), sB⟩
  · by_cases z : b = p
    · subst z; rw [upd_same] at e ⊢; exact e
    · rw [upd_ne z] at e ⊢; exact S.hb _ _ e
  · rw [upd_ne (ne_of_none e h)]
/-- a new thing at p that stays out of what is frozen -/
theorem Sat.newM (S : Sat K G δ σ B H) {p : Addr} {o : HO} (h : H p = none) : Sat K G δ σ B (upd H p o) :=
  S.more (fun b u e => by rw [upd_ne (ne_of_none e h)]; exact e) (Same.refl _) (fun b u e => by rw [upd_ne (ne_of_none (S.hb _ _ e) h)]; exact S.hb _ _ e) (fun _ _ _ => rfl)
theorem Sat.get (S : Sat K G δ σ B H) {i : Nat} {d : D} (e : δ[i]? = some (.dat d)) : ∃ v, σ[i]? = some (some v) ∧ Rep K B v d := S.dat i d e
theorem Sat.lt (S : Sat K G δ σ B H) {i : Nat} {s : Slot} (e : δ[i]? = some s) : i < σ.length := by
  rw [S.len]; exact (List.getElem?_eq_some_iff.mp e).1
end
end DL

namespace DL
open PySem L2

/-! ### what a piece of syntax can be read as -/
def cE (X : Cx) (e : Expr) : TE := fun σ H Q => ∃ t, PE X e t ∧ t σ H Q
theorem pe_cE {X : Cx} {e : Expr} : PE X e (cE X e) := ⟨fun pins s σ H Q I ⟨_, p, h⟩ => p.run pins s σ H Q I h⟩
def cT (X : Cx) (e : Expr) : TT := fun σ H Q => ∃ t, PT X e t ∧ t σ H Q
theorem pt_cT {X : Cx} {e : Expr} : PT X e (cT X e) := ⟨fun pins s σ H Q I ⟨_, p, h⟩ => p.run pins s σ H Q I h⟩
def cW (X : Cx) (e : Expr) : TT := fun σ H Q => ∃ t, PW X e t ∧ t σ H Q
theorem pw_cW {X : Cx} {e : Expr} : PW X e (cW X e) := ⟨fun wh pins s σ H Q I ⟨_, p, h⟩ => p.run wh pins s σ H Q I h⟩
def cA (X : Cx) (es : List Expr) : TA := fun σ H Q => ∃ t, PA X es t ∧ t σ H Q
theorem pa_cA {X : Cx} {es : List Expr} : PA X es (cA X es) := ⟨fun pos pins s σ H Q I ⟨_, p, h⟩ => p.run pos pins s σ H Q I h⟩
def cO (X : Cx) (e : Option Expr) : TO := fun σ H Q => ∃ t, PO X e t ∧ t σ H Q

/-- the module's side of a context -/
structure Md where
  P : Program
  w : World
  K : PySem.W.Frag
  mg : Str → Option Value
  base : Heap
/-- a context in which a body of the module M runs: its names, its scope, which cells are its own, how deep it may call -/
structure Good (X : Cx) (M : Md) (N : List Str) (sc : Scope) (fb : Str → Bool) (k : Nat) : Prop where
  P : X.prog = M.P
  w : X.w = M.w
  K : X.K = M.K
  mg : X.mg = M.mg
  base : X.base = M.base
  nm : X.N = N
  sc : X.env.scope = sc
  calm : X.calm = true
  nd : N.Nodup
  fn : ∀ x, fb x = true → X.fn x = true
  room : Room k X.A
  po : PassesOwn (model X.prog X.w) X.A X.env X.xe

/-- what a value that was made is: a datum of the frozen part, or a new list or instance beside it, which no slot holds -/
structure Fresh (G : Ent) (δ : List Slot) (σ : St) (B : Hp) (l : Addr) : Prop where
  nb : B l = none
  n0 : G.H0 l = none
  ap : ∀ (i : Nat) s, δ[i]? = some s → s.mu = true → σ[i]? ≠ some (some (.ref l))
def ResR (K : PySem.W.Frag) (G : Ent) (δ : List Slot) (σ : St) (B H : Hp) (v : V) : Slot → Prop
  | .un => True
  | .dat d => Rep K B v d
  | .own ds => ∃ l vs, v = .ref l ∧ H l = some (.lst vs) ∧ RepL K B vs ds ∧ Fresh G δ σ B l
  | .obj C ns ds => ∃ l dx fs, v = .ref l ∧ H l = some (.ins C dx fs) ∧ fs.map (·.1) = ns ∧ RepL K B (fs.map (·.2)) ds ∧ Fresh G δ σ B l
theorem Sat.fresh {K : PySem.W.Frag} {G : Ent} {δ : List Slot} {σ : St} {B H : Hp} (S : Sat K G δ σ B H) {l : Addr} (h : H l = none) : Fresh G δ σ B l :=
  ⟨S.hb.free h, S.h0 h, fun i s e m z => by
    obtain ⟨l', q1, _, q3, _⟩ := S.mu i s e m
    rw [z] at q1
    have el : l = l' := by injection q1 with q1; injection q1 with q1; injection q1
    subst el
    obtain ⟨o, po⟩ := Mu.ex q3 m
    rw [h] at po; cases po⟩

/-- the expression gives r, the slots are then δ' -/
def EV (X : Cx) (G : Ent) (e : Expr) (δ : List Slot) (r : Slot) (δ' : List Slot) : Prop :=
  ∀ σ B H, Sat X.K G δ σ B H → ∀ Q : VK, (∀ v B' H', Sat X.K G δ' σ B' H' → Same B B' → ResR X.K G δ' σ B' H' v r → Q v H') → cE X e σ H Q
def ET (X : Cx) (G : Ent) (e : Expr) (δ : List Slot) (b : Bool) (δ' : List Slot) : Prop :=
  ∀ σ B H, Sat X.K G δ σ B H → ∀ Q : Bool → Hp → Prop, (∀ B' H', Sat X.K G δ' σ B' H' → Same B B' → Q b H') → cT X e σ H Q
def EW (X : Cx) (G : Ent) (e : Expr) (δ : List Slot) (b : Bool) (δ' : List Slot) : Prop :=
  ∀ σ B H, Sat X.K G δ σ B H → ∀ Q : Bool → Hp → Prop, (∀ B' H', Sat X.K G δ' σ B' H' → Same B B' → Q b H') → cW X e σ H Q
def EA (X : Cx) (G : Ent) (es : List Expr) (δ : List Slot) (ds : List D) (δ' : List Slot) : Prop :=
  ∀ σ B H, Sat X.K G δ σ B H → ∀ Q : List V → Hp → Prop, (∀ vs B' H', Sat X.K G δ' σ B' H' → Same B B' → RepL X.K B' vs ds → Q vs H') → cA X es σ H Q
def EO (X : Cx) (G : Ent) (e : Option Expr) (δ : List Slot) (o : Option Int) (δ' : List Slot) : Prop :=
  ∀ σ B H, Sat X.K G δ σ B H → ∀ Q : Option Int → Hp → Prop, (∀ B' H', Sat X.K G δ' σ B' H' → Same B B' → Q o H') → cO X e σ H Q

/-! ### names and constants -/
def visB (sc : Scope) (x : Str) : Bool := match sc.names.lookup x with
  | some .local => true
  | some .cell => true
  | some .free => true
  | _ => false
theorem vis_of {sc : Scope} {x : Str} (h : visB sc x = true) : Vis sc x := by
  unfold visB at h
  unfold Vis
  split at h <;> first | (rename_i e; rw [e]; simp) | cases h
section
variable {X : Cx} {G : Ent} {M : Md} {N : List Str} {sc : Scope} {fb : Str → Bool} {k : Nat} {δ δ1 δ2 δ3 : List Slot} {e a b c : Expr} {d : D} {pos : Pos}
theorem ev_con {v : V} (hp : PE X e (tC v)) (hr : ∀ B, Rep X.K B v d) : EV X G e δ (.dat d) δ := fun σ B H S Q q => ⟨_, hp, q v B H S (Same.refl _) (hr B)⟩
theorem ev_int {i : Int} {j} : EV X G (.Constant (.int i) j pos) δ (.dat (.int i)) δ := ev_con pe_int fun _ => .int i
theorem ev_bl {i : Bool} {j} : EV X G (.Constant (.bool i) j pos) δ (.dat (.bl i)) δ := ev_con pe_bl fun _ => .bl i
theorem ev_non {j} : EV X G (.Constant .none j pos) δ (.dat .non) δ := ev_con pe_non fun _ => .non
theorem ev_str {i : Str} {j} : EV X G (.Constant (.str i) j pos) δ (.dat (.str i)) δ := ev_con pe_str fun _ => .str i
theorem pe_slot (g : Good X M N sc fb k) (i : Nat) {x : Str} (hN : N[i]? = some x) (hv : visB sc x = true) (hd : (x == ("__debug__" : Str)) = false) (hc : (x == ("__classdict__" : Str)) = false) : PE X (.Name x pos) (tVar i) :=
  pe_var (by rw [g.nm]; exact hN) (by rw [g.sc]; exact vis_of hv) hd hc
/-- a name whose slot holds a datum -/
theorem ev_var (g : Good X M N sc fb k) (i : Nat) {x : Str} (hδ : δ[i]? = some (.dat d) := by rfl) (hN : N[i]? = some x := by rfl) (hv : visB sc x = true := by rfl) (hd : (x == ("__debug__" : Str)) = false := by decide) (hc : (x == ("__classdict__" : Str)) = false := by decide) :
    EV X G (.Name x pos) δ (.dat d) δ := fun σ B H S Q q => by
  obtain ⟨v, h1, h2⟩ := S.dat i d hδ
  exact ⟨_, pe_slot g i hN hv hd hc, v, h1, q v B H S (Same.refl _) h2⟩
/-- a module's constant -/
theorem ev_glob (g : Good X M N sc fb k) {x : Str} {v : V} {u : Value} (hm : M.mg x = some u) (r : RelV v u) (hr : ∀ B, Rep M.K B v d) (hg : sc.names.lookup x = some .globalImplicit := by rfl) (hd : (x == ("__debug__" : Str)) = false := by decide) :
    EV X G (.Name x pos) δ (.dat d) δ := ev_con (pe_glob (by unfold Gl Env.kindOf; rw [g.sc]; exact hg) (by rw [g.mg]; exact hm) r hd) (by rw [g.K]; exact hr)
end

/-! ### what a list or an instance that one holds becomes when it is let go: a datum -/
section
variable {K : PySem.W.Frag} {G : Ent} {δ : List Slot} {σ : St} {B H : Hp}
theorem sat_freeze (S : Sat K G δ σ B H) {l : Addr} {o : HO} (hl : H l = some o) (hB : B l = none) (h0 : G.H0 l = none) (hn : ∀ (i : Nat) s, δ[i]? = some s → s.mu = true → σ[i]? ≠ some (some (.ref l))) :
    Sat K G δ σ (upd B l o) H ∧ Same B (upd B l o) := by
  have sB : Same B (upd B l o) := fun b u e => by rw [upd_ne (ne_of_none e hB)]; exact e
  refine ⟨⟨fun b u e => ?_, S.b0.trans sB, S.fr, fun a u e => ?_, S.len, fun i d e => ?_, fun i s e m => ?_, S.dis, S.bor⟩, sB⟩
  · by_cases z : b = l
    · subst z; rw [upd_same] at e; rw [hl]; exact e
    · rw [upd_ne z] at e; exact S.hb _ _ e
  · rw [upd_ne (ne_of_none e h0)]; exact S.nb a u e
  · obtain ⟨v, q, r⟩ := S.dat i d e
    exact ⟨v, q, r.up sB⟩
  · obtain ⟨l', q, r, t, u⟩ := S.mu i s e m
    have ne : l' ≠ l := fun z => hn i s e m (by rw [q, z])
    exact ⟨l', q, by rw [upd_ne ne]; exact r, Mu.up t sB (fun _ h => h), u⟩
end
/-- the datum of a slot's content -/
def Slot.d : Slot → D
  | .own ds => .lst ds
  | .obj C ns ds => .ins C ns ds
  | .dat d => d
  | .un => .non
section
variable {X : Cx} {G : Ent} {M : Md} {N : List Str} {sc : Scope} {fb : Str → Bool} {k : Nat} {δ δ1 δ2 δ3 : List Slot} {e a b c : Expr} {d : D} {pos : Pos}
/-- a list or an instance that one has just made is let go: a datum -/
theorem EV.frz {s : Slot} (m : s.mu = true) (h : EV X G e δ s δ1) : EV X G e δ (.dat s.d) δ1 := fun σ B H S Q q => h σ B H S _ fun v B' H' S' sB r => by
  cases s with
  | un => cases m
  | dat d => cases m
  | own ds =>
    obtain ⟨l, vs, rfl, h1, h4, F⟩ := r
    obtain ⟨S2, s2⟩ := sat_freeze S' h1 F.nb F.n0 F.ap
    exact q _ _ H' S2 (sB.trans s2) (.lst (.inl (.inl upd_same)) (h4.up s2))
  | obj C ns ds =>
    obtain ⟨l, dx, fs, rfl, h1, h2, h4, F⟩ := r
    obtain ⟨S2, s2⟩ := sat_freeze S' h1 F.nb F.n0 F.ap
    exact q _ _ H' S2 (sB.trans s2) (.ins upd_same h2 (h4.up s2))
/-- a name whose slot holds a list or an instance of one's own is read as a value: it is let go -/
theorem ev_let (g : Good X M N sc fb k) (i : Nat) {x : Str} {s : Slot} (hδ : δ[i]? = some s := by rfl) (hb : i ∉ G.bor.map (·.1)) (m : s.mu = true := by rfl) (hN : N[i]? = some x := by rfl) (hv : visB sc x = true := by rfl) (hd : (x == ("__debug__" : Str)) = false := by decide) (hc : (x == ("__classdict__" : Str)) = false := by decide) :
    EV X G (.Name x pos) δ (.dat s.d) (δ.set i (.dat s.d)) := fun σ B H S Q q => by
  obtain ⟨l, h1, h2, h3, h4⟩ := S.mu i s hδ m
  have n0 : G.H0 l = none := by
    rcases h4 with h4 | h4
    · exact h4
    · exact absurd (List.mem_map.mpr ⟨_, h4, rfl⟩) hb
  obtain ⟨o, ho⟩ := Mu.ex h3 m
  have sB : Same B (upd B l o) := fun b u e => by rw [upd_ne (ne_of_none e h2)]; exact e
  have hi : i < δ.length := (List.getElem?_eq_some_iff.mp hδ).1
  have hr : Rep X.K (upd B l o) (.ref l) s.d := by
    cases s with
    | un => cases m
    | dat d => cases m
    | own ds =>
      obtain ⟨vs, e, r⟩ := h3
      rw [ho] at e; cases e
      exact .lst (.inl (.inl upd_same)) (r.up sB)
    | obj C ns ds =>
      obtain ⟨dx, fs, e, n, r⟩ := h3
      rw [ho] at e; cases e
      exact .ins upd_same n (r.up sB)
  refine ⟨_, pe_slot g i hN hv hd hc, _, h1, q _ (upd B l o) H ⟨fun b u e => ?_, S.b0.trans sB, S.fr, fun a u e => ?_, by rw [List.length_set]; exact S.len, fun j d e => ?_, fun j t e mt => ?_, fun j j2 t t2 l2 ne e mt e2 mt2 => ?_, fun p hp => ?_⟩ sB hr⟩
  · by_cases z : b = l
    · subst z; rw [upd_same] at e; rw [ho]; exact e
    · rw [upd_ne z] at e; exact S.hb _ _ e
  · rw [upd_ne (ne_of_none e n0)]; exact S.nb a u e
  · by_cases z : j = i
    · subst z
      rw [List.getElem?_set_self hi] at e
      cases e
      exact ⟨_, h1, hr⟩
    · rw [List.getElem?_set_ne (Ne.symm z)] at e
      obtain ⟨v, q, r⟩ := S.dat j d e
      exact ⟨v, q, r.up sB⟩
  · by_cases z : j = i
    · subst z
      rw [List.getElem?_set_self hi] at e
      cases e; cases mt
    · rw [List.getElem?_set_ne (Ne.symm z)] at e
      obtain ⟨l', p1, p2, p3, p4⟩ := S.mu j t e mt
      have ne : l' ≠ l := fun w => S.dis j i t s l z e mt hδ m (by rw [p1, w]) h1
      exact ⟨l', p1, by rw [upd_ne ne]; exact p2, Mu.up p3 sB (fun _ h => h), p4⟩
  · have z1 : j ≠ i := fun w => by
      subst w
      rw [List.getElem?_set_self hi] at e
      cases e; cases mt
    have z2 : j2 ≠ i := fun w => by
      subst w
      rw [List.getElem?_set_self hi] at e2
      cases e2; cases mt2
    rw [List.getElem?_set_ne (Ne.symm z1)] at e
    rw [List.getElem?_set_ne (Ne.symm z2)] at e2
    exact S.dis j j2 t t2 l2 ne e mt e2 mt2
  · obtain ⟨p1, t, p2, p3⟩ := S.bor p hp
    have z : p.1 ≠ i := fun w => hb (List.mem_map.mpr ⟨p, hp, w⟩)
    exact ⟨p1, t, by rw [List.getElem?_set_ne (Ne.symm z)]; exact p2, p3⟩

/-! ### operators -/
theorem behind (op : CmpOp) (h : op ≠ .In) (h2 : op ≠ .NotIn) : behindInMarks op b = false := nobehind b h h2
theorem ev_bin {op : Operator} {r : R2} {d1 d2 : D} (ho : OpR X (binaryOp op) r) (ha : EV X G a δ (.dat d1) δ1) (hb : EV X G b δ1 (.dat d2) δ2)
    (hr : ∀ σ x y B H, Sat X.K G δ2 σ B H → Rep X.K B x d1 → Rep X.K B y d2 → ∀ Q : VK, (∀ v B' H', Sat X.K G δ3 σ B' H' → Same B B' → ResR X.K G δ3 σ B' H' v (.dat d) → Q v H') → r x y H Q) : EV X G (.BinOp a op b pos) δ (.dat d) δ3 := fun σ B H S Q q =>
  ⟨_, pe_op ho pe_cE pe_cE, ha σ B H S _ fun x B1 H1 S1 s1 r1 => hb σ B1 H1 S1 _ fun y B2 H2 S2 s2 r2 => hr σ x y B2 H2 S2 (Rep.up r1 s2) r2 Q fun v B' H' S' s3 r3 => q v B' H' S' ((s1.trans s2).trans s3) r3⟩
theorem ev_cmp {op : CmpOp} {r : R2} {d1 d2 : D} (ho : OpR X (compareOp op) r) (hm : behindInMarks op b = false) (ha : EV X G a δ (.dat d1) δ1) (hb : EV X G b δ1 (.dat d2) δ2)
    (hr : ∀ σ x y B H, Sat X.K G δ2 σ B H → Rep X.K B x d1 → Rep X.K B y d2 → ∀ Q : VK, (∀ v, Rep X.K B v d → Q v H) → r x y H Q) : EV X G (.Compare a [op] [b] pos) δ (.dat d) δ2 := fun σ B H S Q q =>
  ⟨_, pe_cmpR ho pe_cE pe_cE hm, ha σ B H S _ fun x B1 H1 S1 s1 r1 => hb σ B1 H1 S1 _ fun y B2 H2 S2 s2 r2 => hr σ x y B2 H2 S2 (Rep.up r1 s2) r2 Q fun v r3 => q v B2 H2 S2 (s1.trans s2) r3⟩
theorem et_cmp {op : CmpOp} {r : R2} {d1 d2 : D} {x : Bool} (ho : OpR X (compareOp op) r) (hm : behindInMarks op b = false) (ha : EV X G a δ (.dat d1) δ1) (hb : EV X G b δ1 (.dat d2) δ2)
    (hr : ∀ σ u v B H, Sat X.K G δ2 σ B H → Rep X.K B u d1 → Rep X.K B v d2 → ∀ Q : VK, (∀ w, Rep X.K B w (.bl x) → Q w H) → r u v H Q) : ET X G (.Compare a [op] [b] pos) δ x δ2 := fun σ B H S Q q =>
  ⟨_, pt_cmpR ho pe_cE pe_cE hm, ha σ B H S _ fun u B1 H1 S1 s1 r1 => hb σ B1 H1 S1 _ fun v B2 H2 S2 s2 r2 => hr σ u v B2 H2 S2 (Rep.up r1 s2) r2 _ fun w r3 => ⟨x, by cases r3; rfl, q B2 H2 S2 (s1.trans s2)⟩⟩
theorem int_of {K : PySem.W.Frag} {B : Hp} {x : V} {i : Int} (h : Rep K B x (.int i)) : x = .int i := by cases h; rfl
theorem bl_of {K : PySem.W.Frag} {B : Hp} {x : V} {i : Bool} (h : Rep K B x (.bl i)) : x = .bl i := by cases h; rfl
theorem str_of {K : PySem.W.Frag} {B : Hp} {x : V} {i : Str} (h : Rep K B x (.str i)) : x = .str i := by cases h; rfl
theorem tup_of {K : PySem.W.Frag} {B : Hp} {x : V} {ds : List D} (h : Rep K B x (.tup ds)) : ∃ a vs, x = .ref a ∧ SqT K B a vs ∧ RepL K B vs ds := by cases h with | tup a b => exact ⟨_, _, rfl, a, b⟩
theorem lst_of {K : PySem.W.Frag} {B : Hp} {x : V} {ds : List D} (h : Rep K B x (.lst ds)) : ∃ a vs, x = .ref a ∧ SqL K B a vs ∧ RepL K B vs ds := by cases h with | lst a b => exact ⟨_, _, rfl, a, b⟩
theorem ins_of {K : PySem.W.Frag} {B : Hp} {x : V} {C : Addr} {ns : List Str} {ds : List D} (h : Rep K B x (.ins C ns ds)) : ∃ a dx fs, x = .ref a ∧ B a = some (.ins C dx fs) ∧ fs.map (·.1) = ns ∧ RepL K B (fs.map (·.2)) ds := by cases h with | ins a b c => exact ⟨_, _, _, rfl, a, b, c⟩
/-- two whole numbers -/
theorem ev_bin_i {op : Operator} {r : R2} {i j : Int} {z : V} (ho : OpR X (binaryOp op) r) (hr : ∀ (H : Hp) (Q : VK), Q z H → r (.int i) (.int j) H Q) (hz : ∀ B, Rep X.K B z d) (ha : EV X G a δ (.dat (.int i)) δ1) (hb : EV X G b δ1 (.dat (.int j)) δ2) :
    EV X G (.BinOp a op b pos) δ (.dat d) δ2 := ev_bin ho ha hb fun σ x y B H S rx ry Q q => by
  cases int_of rx; cases int_of ry
  exact hr H Q (q _ B H S (Same.refl _) (hz B))
variable {i j : Int}
theorem ev_add (ha : EV X G a δ (.dat (.int i)) δ1) (hb : EV X G b δ1 (.dat (.int j)) δ2) : EV X G (.BinOp a .Add b pos) δ (.dat (.int (i + j))) δ2 := ev_bin_i op_add (fun _ _ q => ⟨_, _, rfl, rfl, q⟩) (fun _ => .int _) ha hb
theorem ev_sub (ha : EV X G a δ (.dat (.int i)) δ1) (hb : EV X G b δ1 (.dat (.int j)) δ2) : EV X G (.BinOp a .Sub b pos) δ (.dat (.int (i - j))) δ2 := ev_bin_i op_sub (fun _ _ q => ⟨_, _, rfl, rfl, q⟩) (fun _ => .int _) ha hb
/-- the factors together at most 2 ^ 27 bits -/
def MulOk (i j : Int) : Prop := CMulX i j
theorem ev_mul (ha : EV X G a δ (.dat (.int i)) δ1) (hb : EV X G b δ1 (.dat (.int j)) δ2) (h : MulOk i j) : EV X G (.BinOp a .Mult b pos) δ (.dat (.int (i * j))) δ2 := ev_bin_i op_mulX (fun _ _ q => ⟨_, _, rfl, rfl, h, q⟩) (fun _ => .int _) ha hb
theorem ev_fdiv (ha : EV X G a δ (.dat (.int i)) δ1) (hb : EV X G b δ1 (.dat (.int j)) δ2) (h : CDivW i j) : EV X G (.BinOp a .FloorDiv b pos) δ (.dat (.int (i / j))) δ2 := ev_bin_i op_fdivW (fun _ _ q => ⟨_, _, rfl, rfl, h, q⟩) (fun _ => .int _) ha hb
theorem ev_mod (ha : EV X G a δ (.dat (.int i)) δ1) (hb : EV X G b δ1 (.dat (.int j)) δ2) (h : 0 < j) : EV X G (.BinOp a .Mod b pos) δ (.dat (.int (i % j))) δ2 := ev_bin_i op_mod (fun _ _ q => ⟨_, _, rfl, rfl, h, q⟩) (fun _ => .int _) ha hb
theorem ev_pow (ha : EV X G a δ (.dat (.int i)) δ1) (hb : EV X G b δ1 (.dat (.int j)) δ2) (h : CPow i j) : EV X G (.BinOp a .Pow b pos) δ (.dat (.int (i ^ j.toNat))) δ2 := ev_bin_i op_pow (fun _ _ q => ⟨_, _, rfl, rfl, h, q⟩) (fun _ => .int _) ha hb
theorem ev_un {op : UnaryOp} {r : V → Hp → VK → Prop} {d1 : D} (ho : UnR X (unaryOp op) r) (ha : EV X G a δ (.dat d1) δ1) (hr : ∀ x B H, Rep X.K B x d1 → ∀ Q : VK, (∀ v, Rep X.K B v d → Q v H) → r x H Q) : EV X G (.UnaryOp op a pos) δ (.dat d) δ1 := fun σ B H S Q q =>
  ⟨_, pe_un ho pe_cE, ha σ B H S _ fun x B1 H1 S1 s1 r1 => hr x B1 H1 r1 Q fun v r3 => q v B1 H1 S1 s1 r3⟩
theorem ev_neg (ha : EV X G a δ (.dat (.int i)) δ1) : EV X G (.UnaryOp .USub a pos) δ (.dat (.int (-i))) δ1 := ev_un un_neg ha fun x B H r Q q => by
  cases int_of r
  exact ⟨_, rfl, q _ (.int _)⟩
theorem ev_cmp_i {op : CmpOp} {r : R2} {z : Bool} (ho : OpR X (compareOp op) r) (hm : behindInMarks op b = false) (hr : ∀ (H : Hp) (Q : VK), Q (.bl z) H → r (.int i) (.int j) H Q) (ha : EV X G a δ (.dat (.int i)) δ1) (hb : EV X G b δ1 (.dat (.int j)) δ2) :
    EV X G (.Compare a [op] [b] pos) δ (.dat (.bl z)) δ2 := ev_cmp ho hm ha hb fun σ x y B H S rx ry Q q => by
  cases int_of rx; cases int_of ry
  exact hr H Q (q _ (.bl _))
theorem et_cmp_i {op : CmpOp} {r : R2} {z : Bool} (ho : OpR X (compareOp op) r) (hm : behindInMarks op b = false) (hr : ∀ (H : Hp) (Q : VK), Q (.bl z) H → r (.int i) (.int j) H Q) (ha : EV X G a δ (.dat (.int i)) δ1) (hb : EV X G b δ1 (.dat (.int j)) δ2) :
    ET X G (.Compare a [op] [b] pos) δ z δ2 := et_cmp ho hm ha hb fun σ x y B H S rx ry Q q => by
  cases int_of rx; cases int_of ry
  exact hr H Q (q _ (.bl _))
theorem ev_lt (ha : EV X G a δ (.dat (.int i)) δ1) (hb : EV X G b δ1 (.dat (.int j)) δ2) : EV X G (.Compare a [.Lt] [b] pos) δ (.dat (.bl (decide (i < j)))) δ2 := ev_cmp_i op_lt (behind _ (by decide) (by decide)) (fun _ _ q => ⟨_, _, rfl, rfl, q⟩) ha hb
theorem et_lt (ha : EV X G a δ (.dat (.int i)) δ1) (hb : EV X G b δ1 (.dat (.int j)) δ2) : ET X G (.Compare a [.Lt] [b] pos) δ (decide (i < j)) δ2 := et_cmp_i op_lt (behind _ (by decide) (by decide)) (fun _ _ q => ⟨_, _, rfl, rfl, q⟩) ha hb
theorem ev_le (ha : EV X G a δ (.dat (.int i)) δ1) (hb : EV X G b δ1 (.dat (.int j)) δ2) : EV X G (.Compare a [.LtE] [b] pos) δ (.dat (.bl (decide (i ≤ j)))) δ2 := ev_cmp_i op_le (behind _ (by decide) (by decide)) (fun _ _ q => ⟨_, _, rfl, rfl, q⟩) ha hb
theorem et_le (ha : EV X G a δ (.dat (.int i)) δ1) (hb : EV X G b δ1 (.dat (.int j)) δ2) : ET X G (.Compare a [.LtE] [b] pos) δ (decide (i ≤ j)) δ2 := et_cmp_i op_le (behind _ (by decide) (by decide)) (fun _ _ q => ⟨_, _, rfl, rfl, q⟩) ha hb
theorem ev_gt (ha : EV X G a δ (.dat (.int i)) δ1) (hb : EV X G b δ1 (.dat (.int j)) δ2) : EV X G (.Compare a [.Gt] [b] pos) δ (.dat (.bl (decide (j < i)))) δ2 := ev_cmp_i op_gt (behind _ (by decide) (by decide)) (fun _ _ q => ⟨_, _, rfl, rfl, q⟩) ha hb
theorem et_gt (ha : EV X G a δ (.dat (.int i)) δ1) (hb : EV X G b δ1 (.dat (.int j)) δ2) : ET X G (.Compare a [.Gt] [b] pos) δ (decide (j < i)) δ2 := et_cmp_i op_gt (behind _ (by decide) (by decide)) (fun _ _ q => ⟨_, _, rfl, rfl, q⟩) ha hb
theorem ev_ge (ha : EV X G a δ (.dat (.int i)) δ1) (hb : EV X G b δ1 (.dat (.int j)) δ2) : EV X G (.Compare a [.GtE] [b] pos) δ (.dat (.bl (decide (j ≤ i)))) δ2 := ev_cmp_i op_ge (behind _ (by decide) (by decide)) (fun _ _ q => ⟨_, _, rfl, rfl, q⟩) ha hb
theorem et_ge (ha : EV X G a δ (.dat (.int i)) δ1) (hb : EV X G b δ1 (.dat (.int j)) δ2) : ET X G (.Compare a [.GtE] [b] pos) δ (decide (j ≤ i)) δ2 := et_cmp_i op_ge (behind _ (by decide) (by decide)) (fun _ _ q => ⟨_, _, rfl, rfl, q⟩) ha hb
theorem ev_eqI (ha : EV X G a δ (.dat (.int i)) δ1) (hb : EV X G b δ1 (.dat (.int j)) δ2) : EV X G (.Compare a [.Eq] [b] pos) δ (.dat (.bl (decide (i = j)))) δ2 :=
  ev_cmp_i op_eq (behind _ (by decide) (by decide)) (fun _ _ q => ⟨rfl, by rw [show decide (V.int i = V.int j) = decide (i = j) from by simp]; exact q⟩) ha hb
theorem et_eqI (ha : EV X G a δ (.dat (.int i)) δ1) (hb : EV X G b δ1 (.dat (.int j)) δ2) : ET X G (.Compare a [.Eq] [b] pos) δ (decide (i = j)) δ2 :=
  et_cmp_i op_eq (behind _ (by decide) (by decide)) (fun _ _ q => ⟨rfl, by rw [show decide (V.int i = V.int j) = decide (i = j) from by simp]; exact q⟩) ha hb
theorem ev_neI (ha : EV X G a δ (.dat (.int i)) δ1) (hb : EV X G b δ1 (.dat (.int j)) δ2) : EV X G (.Compare a [.NotEq] [b] pos) δ (.dat (.bl (!decide (i = j)))) δ2 :=
  ev_cmp_i op_ne (behind _ (by decide) (by decide)) (fun _ _ q => ⟨rfl, by rw [show decide (V.int i = V.int j) = decide (i = j) from by simp]; exact q⟩) ha hb
theorem et_neI (ha : EV X G a δ (.dat (.int i)) δ1) (hb : EV X G b δ1 (.dat (.int j)) δ2) : ET X G (.Compare a [.NotEq] [b] pos) δ (!decide (i = j)) δ2 :=
  et_cmp_i op_ne (behind _ (by decide) (by decide)) (fun _ _ q => ⟨rfl, by rw [show decide (V.int i = V.int j) = decide (i = j) from by simp]; exact q⟩) ha hb
end
end DL

namespace DL
open PySem L2
section
variable {X : Cx} {G : Ent} {M : Md} {N : List Str} {sc : Scope} {fb : Str → Bool} {k : Nat} {δ δ1 δ2 δ3 : List Slot} {e a b c : Expr} {es rest : List Expr} {d : D} {ds : List D} {pos : Pos} {r : Slot} {x y z : Bool} {op : BoolOp}

/-! ### tests -/
theorem et_val (h : EV X G e δ (.dat (.bl x)) δ1) (he : ∀ whole, isTrue e X.env whole = (do let v ← whole; standAt e.pos; holding [v] (truthy v)) := by intro _; rfl) : ET X G e δ x δ1 := fun σ B H S Q q =>
  ⟨_, pt_val pe_cE he, h σ B H S _ fun v B' H' S' sB rv => ⟨x, bl_of rv, q B' H' S' sB⟩⟩
theorem et_not (h : ET X G e δ x δ1) : ET X G (.UnaryOp .Not e pos) δ (!x) δ1 := fun σ B H S Q q => ⟨_, pt_not pt_cT, h σ B H S _ fun B' H' S' sB => q B' H' S' sB⟩
theorem et_w (h : EW X G e δ x δ1) : ET X G e δ x δ1 := fun σ B H S Q q => ⟨_, PW.pt pw_cW, h σ B H S _ q⟩
theorem ew_a1 (h : ET X G a δ x δ1) : EW X G (.BoolOp .And [a] pos) δ x δ1 := fun σ B H S Q q => ⟨_, pw_and1 pt_cT, h σ B H S _ q⟩
theorem ew_o1 (h : ET X G a δ x δ1) : EW X G (.BoolOp .Or [a] pos) δ x δ1 := fun σ B H S Q q => ⟨_, pw_or1 pt_cT, h σ B H S _ q⟩
theorem ew_and (h : ET X G a δ x δ1) (h2 : x = true → EW X G (.BoolOp .And (b :: rest) pos) δ1 y δ1) : EW X G (.BoolOp .And (a :: b :: rest) pos) δ (x && y) δ1 := fun σ B H S Q q =>
  ⟨_, pw_and pt_cT pw_cW, h σ B H S _ fun B' H' S' sB => by
    cases x with
    | true =>
      rw [if_pos rfl]
      exact h2 rfl σ B' H' S' Q fun B2 H2 S2 s2 => q B2 H2 S2 (sB.trans s2)
    | false =>
      rw [if_neg Bool.false_ne_true]
      exact q B' H' S' sB⟩
theorem ew_or (h : ET X G a δ x δ1) (h2 : x = false → EW X G (.BoolOp .Or (b :: rest) pos) δ1 y δ1) : EW X G (.BoolOp .Or (a :: b :: rest) pos) δ (x || y) δ1 := fun σ B H S Q q =>
  ⟨_, pw_or pt_cT pw_cW, h σ B H S _ fun B' H' S' sB => by
    cases x with
    | true =>
      rw [if_pos rfl]
      exact q B' H' S' sB
    | false =>
      rw [if_neg Bool.false_ne_true]
      exact h2 rfl σ B' H' S' Q fun B2 H2 S2 s2 => q B2 H2 S2 (sB.trans s2)⟩
theorem ew_aT (h : ET X G a δ true δ1) (h2 : EW X G (.BoolOp .And (b :: rest) pos) δ1 y δ2) : EW X G (.BoolOp .And (a :: b :: rest) pos) δ y δ2 := fun σ B H S Q q =>
  ⟨_, pw_and pt_cT pw_cW, h σ B H S _ fun B' H' S' sB => by
    rw [if_pos rfl]
    exact h2 σ B' H' S' Q fun B2 H2 S2 s2 => q B2 H2 S2 (sB.trans s2)⟩
theorem ew_aF (h : ET X G a δ false δ1) : EW X G (.BoolOp .And (a :: b :: rest) pos) δ false δ1 := fun σ B H S Q q =>
  ⟨_, pw_and pt_cT pw_cW, h σ B H S _ fun B' H' S' sB => by
    rw [if_neg Bool.false_ne_true]
    exact q B' H' S' sB⟩
theorem ew_oF (h : ET X G a δ false δ1) (h2 : EW X G (.BoolOp .Or (b :: rest) pos) δ1 y δ2) : EW X G (.BoolOp .Or (a :: b :: rest) pos) δ y δ2 := fun σ B H S Q q =>
  ⟨_, pw_or pt_cT pw_cW, h σ B H S _ fun B' H' S' sB => by
    rw [if_neg Bool.false_ne_true]
    exact h2 σ B' H' S' Q fun B2 H2 S2 s2 => q B2 H2 S2 (sB.trans s2)⟩
theorem ew_oT (h : ET X G a δ true δ1) : EW X G (.BoolOp .Or (a :: b :: rest) pos) δ true δ1 := fun σ B H S Q q =>
  ⟨_, pw_or pt_cT pw_cW, h σ B H S _ fun B' H' S' sB => by
    rw [if_pos rfl]
    exact q B' H' S' sB⟩
theorem ET.eq (h : ET X G e δ x δ1) (q : x = y) : ET X G e δ y δ1 := q ▸ h
theorem EV.eq {d d' : D} (h : EV X G e δ (.dat d) δ1) (q : d = d') : EV X G e δ (.dat d') δ1 := q ▸ h

/-! ### and, or, not, if as values -/
theorem ev_b1 (h : EV X G a δ r δ1) : EV X G (.BoolOp op [a] pos) δ r δ1 := fun σ B H S Q q => ⟨_, pe_one pe_cE, h σ B H S _ q⟩
theorem ev_and (h : EV X G a δ (.dat (.bl x)) δ1) (h2 : x = true → EV X G (.BoolOp .And (b :: rest) pos) δ1 (.dat (.bl y)) δ1) : EV X G (.BoolOp .And (a :: b :: rest) pos) δ (.dat (.bl (x && y))) δ1 := fun σ B H S Q q =>
  ⟨_, pe_and pe_cE pe_cE, h σ B H S _ fun v B' H' S' sB rv => ⟨x, bl_of rv, by
    cases x with
    | true =>
      rw [if_pos rfl]
      exact h2 rfl σ B' H' S' Q fun v B2 H2 S2 s2 => q v B2 H2 S2 (sB.trans s2)
    | false =>
      rw [if_neg Bool.false_ne_true]
      exact q _ B' H' S' sB (.bl false)⟩⟩
theorem ev_or (h : EV X G a δ (.dat (.bl x)) δ1) (h2 : x = false → EV X G (.BoolOp .Or (b :: rest) pos) δ1 (.dat (.bl y)) δ1) : EV X G (.BoolOp .Or (a :: b :: rest) pos) δ (.dat (.bl (x || y))) δ1 := fun σ B H S Q q =>
  ⟨_, pe_or pe_cE pe_cE, h σ B H S _ fun v B' H' S' sB rv => ⟨x, bl_of rv, by
    cases x with
    | true =>
      rw [if_pos rfl]
      exact q _ B' H' S' sB (.bl true)
    | false =>
      rw [if_neg Bool.false_ne_true]
      exact h2 rfl σ B' H' S' Q fun v B2 H2 S2 s2 => q v B2 H2 S2 (sB.trans s2)⟩⟩
theorem ev_aT (h : EV X G a δ (.dat (.bl true)) δ1) (h2 : EV X G (.BoolOp .And (b :: rest) pos) δ1 r δ2) : EV X G (.BoolOp .And (a :: b :: rest) pos) δ r δ2 := fun σ B H S Q q =>
  ⟨_, pe_and pe_cE pe_cE, h σ B H S _ fun v B' H' S' sB rv => ⟨true, bl_of rv, by
    rw [if_pos rfl]
    exact h2 σ B' H' S' Q fun v B2 H2 S2 s2 => q v B2 H2 S2 (sB.trans s2)⟩⟩
theorem ev_not (h : EV X G a δ (.dat (.bl x)) δ1) : EV X G (.UnaryOp .Not a pos) δ (.dat (.bl (!x))) δ1 := fun σ B H S Q q => ⟨_, pe_not pe_cE, h σ B H S _ fun v B' H' S' sB rv => ⟨x, bl_of rv, q _ B' H' S' sB (.bl _)⟩⟩
theorem ev_if (h : ET X G c δ x δ1) (h1 : x = true → EV X G a δ1 r δ2) (h2 : x = false → EV X G b δ1 r δ2) : EV X G (.IfExp c a b pos) δ r δ2 := fun σ B H S Q q =>
  ⟨_, pe_ifExp pt_cT pe_cE pe_cE, h σ B H S _ fun B' H' S' sB => by
    cases x with
    | true =>
      rw [if_pos rfl]
      exact h1 rfl σ B' H' S' Q fun v B2 H2 S2 s2 => q v B2 H2 S2 (sB.trans s2)
    | false =>
      rw [if_neg Bool.false_ne_true]
      exact h2 rfl σ B' H' S' Q fun v B2 H2 S2 s2 => q v B2 H2 S2 (sB.trans s2)⟩
theorem ev_ite {d1 d2 : D} (h : ET X G c δ x δ1) (h1 : x = true → EV X G a δ1 (.dat d1) δ2) (h2 : x = false → EV X G b δ1 (.dat d2) δ2) : EV X G (.IfExp c a b pos) δ (.dat (if x then d1 else d2)) δ2 :=
  ev_if h (fun q => by rw [q, if_pos rfl]; exact h1 q) (fun q => by rw [q, if_neg Bool.false_ne_true]; exact h2 q)

/-! ### rows of expressions, displays -/
theorem ea_nil : EA X G [] δ [] δ := fun σ B H S Q q => ⟨_, pa_nil, q [] B H S (Same.refl _) .nil⟩
theorem ea_cons (h : EV X G e δ (.dat d) δ1) (hr : EA X G es δ1 ds δ2) (hs : starEach (e :: es) X.env = (false, eval e X.env) :: starEach es X.env := by rfl) : EA X G (e :: es) δ (d :: ds) δ2 := fun σ B H S Q q =>
  ⟨_, pa_cons pe_cE pa_cA hs, h σ B H S _ fun v B1 H1 S1 s1 r1 => hr σ B1 H1 S1 _ fun vs B2 H2 S2 s2 r2 => q _ B2 H2 S2 (s1.trans s2) (.cons (Rep.up r1 s2) r2)⟩
theorem sz100 {n : Nat} (h : n ≤ 1000) : n ≤ sizeLine := Nat.le_trans h (by decide)
theorem ev_tup {x1} (h : EA X G es δ ds δ1) (hl : ds.length ≤ 1000 := by exact Nat.le_of_ble_eq_true rfl) : EV X G (.Tuple es x1 pos) δ (.dat (.tup ds)) δ1 := fun σ B H S Q q =>
  ⟨_, pe_tup pa_cA, h σ B H S _ fun vs B1 H1 S1 s1 r1 => ⟨sz100 (by rw [r1.length]; exact hl), fun p hp => by
    obtain ⟨S2, s2⟩ := S1.newB (o := .tup vs) hp
    exact q _ _ _ S2 (s1.trans s2) (.tup (.of upd_same) (r1.up s2))⟩⟩
/-- a new list that is one's own -/
theorem own_new {K : PySem.W.Frag} {σ : St} {B H : Hp} {p : Addr} {vs : List V} (S : Sat K G δ σ B H) (hp : H p = none) (r1 : RepL K B vs ds) : Sat K G δ σ B (upd H p (.lst vs)) ∧ ResR K G δ σ B (upd H p (.lst vs)) (.ref p) (.own ds) :=
  ⟨S.newM hp, p, vs, rfl, upd_same, r1, S.fresh hp⟩
theorem ev_lst (h : EA X G es δ ds δ1) (hl : ds.length ≤ 1000 := by exact Nat.le_of_ble_eq_true rfl) : EV X G (.List es pos) δ (.own ds) δ1 := fun σ B H S Q q =>
  ⟨_, pe_lst pa_cA, h σ B H S _ fun vs B1 H1 S1 s1 r1 => ⟨sz100 (by rw [r1.length]; exact hl), fun p hp => by
    obtain ⟨S2, r2⟩ := own_new S1 hp r1
    exact q _ _ _ S2 s1 r2⟩⟩
theorem EV.ls {ds : List D} (h : EV X G e δ (.own ds) δ1) : EV X G e δ (.dat (.lst ds)) δ1 := EV.frz (s := .own ds) rfl h

/-! ### items -/
theorem atI_rep {K : PySem.W.Frag} {B : Hp} {vs : List V} {i : Int} (h : RepL K B vs ds) (ha : atI ds i = some d) : ∃ v, atI vs i = some v ∧ Rep K B v d := by
  unfold atI at ha ⊢
  rw [h.length]
  cases e : ixN ds.length i with
  | none => rw [e] at ha; cases ha
  | some j =>
    rw [e] at ha
    exact h.get (i := j) ha
variable {i : Int}
theorem ev_ixT (ha : EV X G a δ (.dat (.tup ds)) δ1) (hb : EV X G b δ1 (.dat (.int i)) δ2) (hi : atI ds i = some d) (hp : PlainIx b := by exact fun _ _ => rfl) : EV X G (.Subscript a b pos) δ (.dat d) δ2 := fun σ B H S Q q =>
  ⟨_, pe_ix ix_tup pe_cE pe_cE hp, ha σ B H S _ fun v1 B1 H1 S1 s1 r1 => hb σ B1 H1 S1 _ fun v2 B2 H2 S2 s2 r2 => by
    cases int_of r2
    obtain ⟨p, vs, rfl, h1, h2⟩ := tup_of (Rep.up r1 s2)
    obtain ⟨v, h3, h4⟩ := atI_rep h2 hi
    exact ⟨p, vs, i, v, rfl, rfl, sqt_mono S2.hb h1, h3, q v B2 H2 S2 (s1.trans s2) h4⟩⟩
theorem ev_ixL (ha : EV X G a δ (.dat (.lst ds)) δ1) (hb : EV X G b δ1 (.dat (.int i)) δ2) (hi : atI ds i = some d) (hp : PlainIx b := by exact fun _ _ => rfl) : EV X G (.Subscript a b pos) δ (.dat d) δ2 := fun σ B H S Q q =>
  ⟨_, pe_ix ix_list pe_cE pe_cE hp, ha σ B H S _ fun v1 B1 H1 S1 s1 r1 => hb σ B1 H1 S1 _ fun v2 B2 H2 S2 s2 r2 => by
    cases int_of r2
    obtain ⟨p, vs, rfl, h1, h2⟩ := lst_of (Rep.up r1 s2)
    obtain ⟨v, h3, h4⟩ := atI_rep h2 hi
    exact ⟨p, vs, i, v, rfl, rfl, S2.hb.seq h1, h3, q v B2 H2 S2 (s1.trans s2) h4⟩⟩
/-- an item of one's own list, which stays one's own -/
theorem ev_ixO (g : Good X M N sc fb k) (n : Nat) {x : Str} {px : Pos} (hb : EV X G b δ (.dat (.int i)) δ1) (hi : atI ds i = some d) (h0 : ∃ ds0, δ[n]? = some (.own ds0)) (h1 : δ1[n]? = some (.own ds) := by rfl) (hp : PlainIx b := by exact fun _ _ => rfl)
    (hN : N[n]? = some x := by rfl) (hv : visB sc x = true := by rfl) (hd : (x == ("__debug__" : Str)) = false := by decide) (hc : (x == ("__classdict__" : Str)) = false := by decide) : EV X G (.Subscript (.Name x px) b pos) δ (.dat d) δ1 := fun σ B H S Q q =>
  ⟨_, pe_ix ix_list (pe_slot g n hN hv hd hc) pe_cE hp, by
    obtain ⟨ds0, h0⟩ := h0
    obtain ⟨l, p1, p2, p3, p4⟩ := S.mu n _ h0 rfl
    refine ⟨_, p1, hb σ B H S _ fun v2 B2 H2 S2 s2 r2 => ?_⟩
    cases int_of r2
    obtain ⟨l', q1, q2, ⟨vs, q3, q4⟩, _⟩ := S2.mu n _ h1 rfl
    rw [p1] at q1
    have el : l = l' := by injection q1 with q1; injection q1 with q1; injection q1
    subst el
    obtain ⟨v, h3, h4⟩ := atI_rep q4 hi
    exact ⟨l, vs, i, v, rfl, rfl, .of q3, h3, q v B2 H2 S2 s2 h4⟩⟩
/-- a sign of a text -/
theorem ev_ixS {s : Str} {ch : Nat} (ha : EV X G a δ (.dat (.str s)) δ1) (hb : EV X G b δ1 (.dat (.int i)) δ2) (hl : s.length ≤ 1000) (hi : atI s.cps.toList i = some ch) (hp : PlainIx b := by exact fun _ _ => rfl) :
    EV X G (.Subscript a b pos) δ (.dat (.str ⟨#[ch]⟩)) δ2 := fun σ B H S Q q =>
  ⟨_, pe_ix ix_str pe_cE pe_cE hp, ha σ B H S _ fun v1 B1 H1 S1 s1 r1 => hb σ B1 H1 S1 _ fun v2 B2 H2 S2 s2 r2 => by
    cases int_of r2
    cases str_of r1
    exact ⟨s, i, ch, rfl, rfl, sz100 hl, hi, q _ B2 H2 S2 (s1.trans s2) (.str _)⟩⟩

/-! ### slices -/
theorem eo_none : EO X G none δ none δ := fun σ B H S Q q => ⟨_, po_none, q B H S (Same.refl _)⟩
theorem eo_some (h : EV X G e δ (.dat (.int i)) δ1) : EO X G (some e) δ (some i) δ1 := fun σ B H S Q q => ⟨_, po_some pe_cE, h σ B H S _ fun v B1 H1 S1 s1 r1 => ⟨i, int_of r1, q B1 H1 S1 s1⟩⟩
theorem po_cO {o : Option Expr} : PO X o (cO X o) := ⟨fun pins s σ H Q I ⟨_, p, h⟩ => p.run pins s σ H Q I h⟩
def cutD (ds : List D) (lo hi : Option Int) : List D := (ds.drop (HT.sIx ds.length 0 lo)).take (HT.sIx ds.length ds.length hi - HT.sIx ds.length 0 lo)
theorem cut_rep {K : PySem.W.Frag} {B : Hp} {vs : List V} {lo hi : Option Int} (h : RepL K B vs ds) : RepL K B (cutV vs lo hi) (cutD ds lo hi) := by
  unfold cutV cutD
  rw [h.length]
  exact (h.drop _).take _
theorem ev_slL {lo hi : Option Expr} {l u : Option Int} {p2 : Pos} (ha : EV X G a δ (.dat (.lst ds)) δ1) (hl : EO X G lo δ1 l δ2) (hu : EO X G hi δ2 u δ3) : EV X G (.Subscript a (.Slice lo hi none p2) pos) δ (.own (cutD ds l u)) δ3 := fun σ B H S Q q =>
  ⟨_, pe_slice sl_list pe_cE po_cO po_cO, ha σ B H S _ fun v1 B1 H1 S1 s1 r1 => hl σ B1 H1 S1 _ fun B2 H2 S2 s2 => hu σ B2 H2 S2 _ fun B3 H3 S3 s3 => by
    obtain ⟨p, vs, rfl, h1, h2⟩ := lst_of (Rep.up r1 (s2.trans s3))
    refine ⟨p, vs, rfl, S3.hb.seq h1, fun p hp => ?_⟩
    obtain ⟨S4, r4⟩ := own_new S3 hp (cut_rep h2)
    exact q _ _ _ S4 ((s1.trans s2).trans s3) r4⟩

/-! ### calls of what is built in -/
theorem gl_of (g : Good X M N sc fb k) {x : Str} (hg : sc.names.lookup x = some .globalImplicit) : Gl X x := by unfold Gl Env.kindOf; rw [g.sc]; exact hg
theorem mn_of (g : Good X M N sc fb k) {x : Str} {o : Option Value} (h : M.mg x = o) : X.mg x = o := by rw [g.mg]; exact h
section
variable {x : Str} {p : Pos} {bid T : String} {rr : List V → Hp → VK → Prop}
theorem ev_cb (g : Good X M N sc fb k) (hc : CallR X (.builtin bid) rr) (hm : M.mg x = none) (hv : bootBuiltins x = some (.builtin bid)) (ha : EA X G (e :: es) δ ds δ1)
    (hr : ∀ σ vs B H, Sat X.K G δ1 σ B H → RepL X.K B vs ds → ∀ Q : VK, (∀ v B' H', Sat X.K G δ2 σ B' H' → Same B B' → ResR X.K G δ2 σ B' H' v r → Q v H') → rr vs H Q)
    (hg : sc.names.lookup x = some .globalImplicit := by rfl) (hn : x ≠ "__name__" := by decide) (hdb : (x == ("__debug__" : Str)) = false := by decide)
    (he : starEach (e :: es) X.env = (false, eval e X.env) :: starEach es X.env := by rfl) (hpl : (backTo pos (starEach es X.env)).any (·.1) = false := by rfl) : EV X G (.Call (.Name x p) (e :: es) [] pos) δ r δ2 := fun σ B H S Q q =>
  ⟨_, pe_callB hc (gl_of g hg) (mn_of g hm) hv pa_cA hn hdb he hpl, ha σ B H S _ fun vs B1 H1 S1 s1 r1 => hr σ vs B1 H1 S1 r1 Q fun v B2 H2 S2 s2 r2 => q v B2 H2 S2 (s1.trans s2) r2⟩
theorem ev_ct (g : Good X M N sc fb k) (hc : CallR X (.type T) rr) (hm : M.mg x = none) (hv : bootBuiltins x = some (.type T)) (ha : EA X G (e :: es) δ ds δ1)
    (hr : ∀ σ vs B H, Sat X.K G δ1 σ B H → RepL X.K B vs ds → ∀ Q : VK, (∀ v B' H', Sat X.K G δ2 σ B' H' → Same B B' → ResR X.K G δ2 σ B' H' v r → Q v H') → rr vs H Q)
    (hg : sc.names.lookup x = some .globalImplicit := by rfl) (hn : x ≠ "__name__" := by decide) (hdb : (x == ("__debug__" : Str)) = false := by decide)
    (he : starEach (e :: es) X.env = (false, eval e X.env) :: starEach es X.env := by rfl) (hpl : (backTo pos (starEach es X.env)).any (·.1) = false := by rfl) : EV X G (.Call (.Name x p) (e :: es) [] pos) δ r δ2 := fun σ B H S Q q =>
  ⟨_, pe_callTy hc (gl_of g hg) (mn_of g hm) hv pa_cA hn hdb he hpl, ha σ B H S _ fun vs B1 H1 S1 s1 r1 => hr σ vs B1 H1 S1 r1 Q fun v B2 H2 S2 s2 r2 => q v B2 H2 S2 (s1.trans s2) r2⟩
theorem one_of {K : PySem.W.Frag} {B : Hp} {vs : List V} (h : RepL K B vs [d]) : ∃ v, vs = [v] ∧ Rep K B v d := by
  cases h with
  | cons a b => cases b; exact ⟨_, rfl, a⟩
theorem two_of {K : PySem.W.Frag} {B : Hp} {vs : List V} {d2 : D} (h : RepL K B vs [d, d2]) : ∃ v u, vs = [v, u] ∧ Rep K B v d ∧ Rep K B u d2 := by
  cases h with
  | cons a b =>
    obtain ⟨u, rfl, c⟩ := one_of b
    exact ⟨_, _, rfl, a, c⟩
/-- len of a list, of a tuple -/
theorem ev_lenL (g : Good X M N sc fb k) (hm : M.mg "len" = none) (ha : EV X G e δ (.dat (.lst ds)) δ1) (hg : sc.names.lookup ("len" : Str) = some .globalImplicit := by rfl)
    (he : starEach [e] X.env = (false, eval e X.env) :: starEach [] X.env := by rfl) : EV X G (.Call (.Name "len" p) [e] [] pos) δ (.dat (.int ds.length)) δ1 :=
  ev_cb g call_len_seq hm (by decide +kernel) (ea_cons ha ea_nil he) (fun σ vs B H S rv Q q => by
    obtain ⟨v, rfl, h⟩ := one_of rv
    obtain ⟨a, ws, rfl, h1, h2⟩ := lst_of h
    exact ⟨a, ws, rfl, .inl (S.hb.seq h1), by rw [h2.length]; exact q _ B H S (Same.refl _) (.int _)⟩) hg (by decide) (by decide) he rfl
theorem ev_lenT (g : Good X M N sc fb k) (hm : M.mg "len" = none) (ha : EV X G e δ (.dat (.tup ds)) δ1) (hg : sc.names.lookup ("len" : Str) = some .globalImplicit := by rfl)
    (he : starEach [e] X.env = (false, eval e X.env) :: starEach [] X.env := by rfl) : EV X G (.Call (.Name "len" p) [e] [] pos) δ (.dat (.int ds.length)) δ1 :=
  ev_cb g call_len_seq hm (by decide +kernel) (ea_cons ha ea_nil he) (fun σ vs B H S rv Q q => by
    obtain ⟨v, rfl, h⟩ := one_of rv
    obtain ⟨a, ws, rfl, h1, h2⟩ := tup_of h
    exact ⟨a, ws, rfl, .inr (sqt_mono S.hb h1), by rw [h2.length]; exact q _ B H S (Same.refl _) (.int _)⟩) hg (by decide) (by decide) he rfl
theorem ev_lenS (g : Good X M N sc fb k) (hm : M.mg "len" = none) {s : Str} (ha : EV X G e δ (.dat (.str s)) δ1) (hs : s.length ≤ 1000) (hg : sc.names.lookup ("len" : Str) = some .globalImplicit := by rfl)
    (he : starEach [e] X.env = (false, eval e X.env) :: starEach [] X.env := by rfl) : EV X G (.Call (.Name "len" p) [e] [] pos) δ (.dat (.int s.length)) δ1 :=
  ev_cb g call_len_str hm (by decide +kernel) (ea_cons ha ea_nil he) (fun σ vs B H S rv Q q => by
    obtain ⟨v, rfl, h⟩ := one_of rv
    cases str_of h
    exact ⟨s, rfl, sz100 hs, q _ B H S (Same.refl _) (.int _)⟩) hg (by decide) (by decide) he rfl
/-- len of one's own list -/
theorem ev_lenO (g : Good X M N sc fb k) (hm : M.mg "len" = none) (n : Nat) {px : Pos} (h0 : δ[n]? = some (.own ds) := by rfl) (hg : sc.names.lookup ("len" : Str) = some .globalImplicit := by rfl)
    (hN : N[n]? = some x := by rfl) (hv : visB sc x = true := by rfl) (hd : (x == ("__debug__" : Str)) = false := by decide) (hc : (x == ("__classdict__" : Str)) = false := by decide) : EV X G (.Call (.Name "len" p) [.Name x px] [] pos) δ (.dat (.int ds.length)) δ := fun σ B H S Q q =>
  ⟨_, pe_callB call_len_seq (gl_of g hg) (mn_of g hm) (by decide +kernel) (pa_cons (pe_slot g n hN hv hd hc) pa_nil), by
    obtain ⟨l, p1, p2, ⟨vs, p3, p4⟩, _⟩ := S.mu n _ h0 rfl
    exact ⟨_, p1, l, vs, rfl, .inl (.of p3), by rw [p4.length]; exact q _ B H S (Same.refl _) (.int _)⟩⟩
theorem ev_abs (g : Good X M N sc fb k) (hm : M.mg "abs" = none) (ha : EV X G e δ (.dat (.int i)) δ1) (hg : sc.names.lookup ("abs" : Str) = some .globalImplicit := by rfl)
    (he : starEach [e] X.env = (false, eval e X.env) :: starEach [] X.env := by rfl) : EV X G (.Call (.Name "abs" p) [e] [] pos) δ (.dat (.int (if i < 0 then -i else i))) δ1 :=
  ev_cb g call_abs hm (by decide +kernel) (ea_cons ha ea_nil he) (fun σ vs B H S rv Q q => by
    obtain ⟨v, rfl, h⟩ := one_of rv
    cases int_of h
    exact ⟨i, rfl, q _ B H S (Same.refl _) (.int _)⟩) hg (by decide) (by decide) he rfl
theorem ev_toInt (g : Good X M N sc fb k) (hm : M.mg "int" = none) (ha : EV X G e δ (.dat (.int i)) δ1) (hg : sc.names.lookup ("int" : Str) = some .globalImplicit := by rfl)
    (he : starEach [e] X.env = (false, eval e X.env) :: starEach [] X.env := by rfl) : EV X G (.Call (.Name "int" p) [e] [] pos) δ (.dat (.int i)) δ1 :=
  ev_ct g call_int1 hm (by decide +kernel) (ea_cons ha ea_nil he) (fun σ vs B H S rv Q q => by
    obtain ⟨v, rfl, h⟩ := one_of rv
    cases int_of h
    exact .inl ⟨i, rfl, q _ B H S (Same.refl _) (.int _)⟩) hg (by decide) (by decide) he rfl
theorem ev_toIntB (g : Good X M N sc fb k) (hm : M.mg "int" = none) {y : Bool} (ha : EV X G e δ (.dat (.bl y)) δ1) (hg : sc.names.lookup ("int" : Str) = some .globalImplicit := by rfl)
    (he : starEach [e] X.env = (false, eval e X.env) :: starEach [] X.env := by rfl) : EV X G (.Call (.Name "int" p) [e] [] pos) δ (.dat (.int (if y then 1 else 0))) δ1 :=
  ev_ct g call_int1 hm (by decide +kernel) (ea_cons ha ea_nil he) (fun σ vs B H S rv Q q => by
    obtain ⟨v, rfl, h⟩ := one_of rv
    cases bl_of h
    exact .inr ⟨y, rfl, q _ B H S (Same.refl _) (.int _)⟩) hg (by decide) (by decide) he rfl
theorem ev_min (g : Good X M N sc fb k) (hm : M.mg "min" = none) {j : Int} {e2 : Expr} (ha : EA X G [e, e2] δ [.int i, .int j] δ1) (hg : sc.names.lookup ("min" : Str) = some .globalImplicit := by rfl)
    (he : starEach [e, e2] X.env = (false, eval e X.env) :: starEach [e2] X.env := by rfl) (hpl : (backTo pos (starEach [e2] X.env)).any (·.1) = false := by rfl) : EV X G (.Call (.Name "min" p) [e, e2] [] pos) δ (.dat (.int (if j < i then j else i))) δ1 :=
  ev_cb g (call_min2 g.calm) hm (by decide +kernel) ha (fun σ vs B H S rv Q q => by
    obtain ⟨v, u, rfl, h, h2⟩ := two_of rv
    cases int_of h; cases int_of h2
    exact ⟨i, j, rfl, q _ B H S (Same.refl _) (.int _)⟩) hg (by decide) (by decide) he hpl
theorem ev_sum (g : Good X M N sc fb k) (hm : M.mg "sum" = none) {ns : List Int} (ha : EV X G e δ (.dat (.lst (ns.map .int))) δ1) (hg : sc.names.lookup ("sum" : Str) = some .globalImplicit := by rfl)
    (he : starEach [e] X.env = (false, eval e X.env) :: starEach [] X.env := by rfl) : EV X G (.Call (.Name "sum" p) [e] [] pos) δ (.dat (.int ns.sum)) δ1 :=
  ev_cb g (cr_sum g.calm) hm (by decide +kernel) (ea_cons ha ea_nil he) (fun σ vs B H S rv Q q => by
    obtain ⟨v, rfl, h⟩ := one_of rv
    obtain ⟨a, ws, rfl, h1, h2⟩ := lst_of h
    have e := RepL.ints_eq h2
    subst e
    exact ⟨a, ns, rfl, S.hb.seq h1, q _ B H S (Same.refl _) (.int _)⟩) hg (by decide) (by decide) he rfl
theorem ev_all (g : Good X M N sc fb k) (hm : M.mg "all" = none) {bs : List Bool} (ha : EV X G e δ (.dat (.lst (bs.map .bl))) δ1) (hg : sc.names.lookup ("all" : Str) = some .globalImplicit := by rfl)
    (he : starEach [e] X.env = (false, eval e X.env) :: starEach [] X.env := by rfl) : EV X G (.Call (.Name "all" p) [e] [] pos) δ (.dat (.bl (bs.all id))) δ1 :=
  ev_cb g (cr_all g.calm) hm (by decide +kernel) (ea_cons ha ea_nil he) (fun σ vs B H S rv Q q => by
    obtain ⟨v, rfl, h⟩ := one_of rv
    obtain ⟨a, ws, rfl, h1, h2⟩ := lst_of h
    have e := RepL.bls_eq h2
    subst e
    exact ⟨a, bs, rfl, S.hb.seq h1, q _ B H S (Same.refl _) (.bl _)⟩) hg (by decide) (by decide) he rfl
theorem ev_any (g : Good X M N sc fb k) (hm : M.mg "any" = none) {bs : List Bool} (ha : EV X G e δ (.dat (.lst (bs.map .bl))) δ1) (hg : sc.names.lookup ("any" : Str) = some .globalImplicit := by rfl)
    (he : starEach [e] X.env = (false, eval e X.env) :: starEach [] X.env := by rfl) : EV X G (.Call (.Name "any" p) [e] [] pos) δ (.dat (.bl (bs.any id))) δ1 :=
  ev_cb g (cr_any g.calm) hm (by decide +kernel) (ea_cons ha ea_nil he) (fun σ vs B H S rv Q q => by
    obtain ⟨v, rfl, h⟩ := one_of rv
    obtain ⟨a, ws, rfl, h1, h2⟩ := lst_of h
    have e := RepL.bls_eq h2
    subst e
    exact ⟨a, bs, rfl, S.hb.seq h1, q _ B H S (Same.refl _) (.bl _)⟩) hg (by decide) (by decide) he rfl
theorem ev_tuple (g : Good X M N sc fb k) (hm : M.mg "tuple" = none) (ha : EV X G e δ (.dat (.lst ds)) δ1) (hg : sc.names.lookup ("tuple" : Str) = some .globalImplicit := by rfl)
    (he : starEach [e] X.env = (false, eval e X.env) :: starEach [] X.env := by rfl) : EV X G (.Call (.Name "tuple" p) [e] [] pos) δ (.dat (.tup ds)) δ1 :=
  ev_ct g call_tuple_of hm (by decide +kernel) (ea_cons ha ea_nil he) (fun σ vs B H S rv Q q => by
    obtain ⟨v, rfl, h⟩ := one_of rv
    obtain ⟨a, ws, rfl, h1, h2⟩ := lst_of h
    refine ⟨a, ws, rfl, .inl ⟨S.hb.seq h1, fun l hl => ?_⟩⟩
    obtain ⟨S2, s2⟩ := S.newB (o := .tup ws) hl
    exact q _ _ _ S2 s2 (.tup (.of upd_same) (h2.up s2))) hg (by decide) (by decide) he rfl
theorem ev_list (g : Good X M N sc fb k) (hm : M.mg "list" = none) (ha : EV X G e δ (.dat (.tup ds)) δ1) (hg : sc.names.lookup ("list" : Str) = some .globalImplicit := by rfl)
    (he : starEach [e] X.env = (false, eval e X.env) :: starEach [] X.env := by rfl) : EV X G (.Call (.Name "list" p) [e] [] pos) δ (.own ds) δ1 :=
  ev_ct g call_list_of hm (by decide +kernel) (ea_cons ha ea_nil he) (fun σ vs B H S rv Q q => by
    obtain ⟨v, rfl, h⟩ := one_of rv
    obtain ⟨a, ws, rfl, h1, h2⟩ := tup_of h
    refine ⟨a, ws, rfl, .inr (sqt_mono S.hb h1), fun l hl => ?_⟩
    obtain ⟨S2, r2⟩ := own_new S hl h2
    exact q _ _ _ S2 (Same.refl _) r2) hg (by decide) (by decide) he rfl
theorem ev_listL (g : Good X M N sc fb k) (hm : M.mg "list" = none) (ha : EV X G e δ (.dat (.lst ds)) δ1) (hg : sc.names.lookup ("list" : Str) = some .globalImplicit := by rfl)
    (he : starEach [e] X.env = (false, eval e X.env) :: starEach [] X.env := by rfl) : EV X G (.Call (.Name "list" p) [e] [] pos) δ (.own ds) δ1 :=
  ev_ct g call_list_of hm (by decide +kernel) (ea_cons ha ea_nil he) (fun σ vs B H S rv Q q => by
    obtain ⟨v, rfl, h⟩ := one_of rv
    obtain ⟨a, ws, rfl, h1, h2⟩ := lst_of h
    refine ⟨a, ws, rfl, .inl (S.hb.seq h1), fun l hl => ?_⟩
    obtain ⟨S2, r2⟩ := own_new S hl h2
    exact q _ _ _ S2 (Same.refl _) r2) hg (by decide) (by decide) he rfl
/-- gcd, by the name that the module gives it -/
theorem ev_gcd (g : Good X M N sc fb k) (hm : M.mg x = some (.builtin "math.gcd")) {j : Int} {e2 : Expr} (ha : EA X G [e, e2] δ [.int i, .int j] δ1) (hg : sc.names.lookup x = some .globalImplicit := by rfl) (hdb : (x == ("__debug__" : Str)) = false := by decide)
    (he : starEach [e, e2] X.env = (false, eval e X.env) :: starEach [e2] X.env := by rfl) (hpl : (backTo pos (starEach [e2] X.env)).any (·.1) = false := by rfl) :
    EV X G (.Call (.Name x p) [e, e2] [] pos) δ (.dat (.int ((Nat.gcd i.natAbs j.natAbs : Nat) : Int))) δ1 := fun σ B H S Q q =>
  ⟨_, pe_callBfun cr_gcd (gl_of g hg) (mn_of g hm) pa_cA hdb he hpl, ha σ B H S _ fun vs B1 H1 S1 s1 r1 => by
    obtain ⟨v, u, rfl, h, h2⟩ := two_of r1
    cases int_of h; cases int_of h2
    exact ⟨i, j, rfl, q _ B1 H1 S1 s1 (.int _)⟩⟩
end
end
end DL

namespace DL
open PySem L2

/-! ### storing -/
section
variable {K : PySem.W.Frag} {G : Ent} {δ δ' : List Slot} {σ : St} {B H : Hp} {i : Nat} {d : D} {v : V}
theorem Sat.setD (S : Sat K G δ σ B H) (r : Rep K B v d) (hb : i ∉ G.bor.map (·.1)) : Sat K G (δ.set i (.dat d)) (σ.set i (some v)) B H := by
  refine ⟨S.hb, S.b0, S.fr, S.nb, by rw [List.length_set, List.length_set]; exact S.len, fun j e h => ?_, fun j s h m => ?_, fun j j2 s t l ne h m h2 m2 q q2 => ?_, fun p hp => ?_⟩
  · by_cases z : i = j
    · subst z
      by_cases hi : i < δ.length
      · rw [List.getElem?_set_self hi] at h
        cases h
        exact ⟨v, by rw [List.getElem?_set_self (by rw [S.len]; exact hi)], r⟩
      · rw [List.getElem?_eq_none (by rw [List.length_set]; omega)] at h; cases h
    · rw [List.getElem?_set_ne z] at h
      obtain ⟨w, p, q⟩ := S.dat j e h
      exact ⟨w, by rw [List.getElem?_set_ne z]; exact p, q⟩
  · by_cases z : i = j
    · subst z
      by_cases hi : i < δ.length
      · rw [List.getElem?_set_self hi] at h; cases h; cases m
      · rw [List.getElem?_eq_none (by rw [List.length_set]; omega)] at h; cases h
    · rw [List.getElem?_set_ne z] at h
      obtain ⟨l, p, q⟩ := S.mu j s h m
      exact ⟨l, by rw [List.getElem?_set_ne z]; exact p, q⟩
  · have z : i ≠ j := fun z => by
      subst z
      by_cases hi : i < δ.length
      · rw [List.getElem?_set_self hi] at h; cases h; cases m
      · rw [List.getElem?_eq_none (by rw [List.length_set]; omega)] at h; cases h
    have z2 : i ≠ j2 := fun z => by
      subst z
      by_cases hi : i < δ.length
      · rw [List.getElem?_set_self hi] at h2; cases h2; cases m2
      · rw [List.getElem?_eq_none (by rw [List.length_set]; omega)] at h2; cases h2
    rw [List.getElem?_set_ne z] at h q
    rw [List.getElem?_set_ne z2] at h2 q2
    exact S.dis j j2 s t l ne h m h2 m2 q q2
  · obtain ⟨p1, s, p2, p3⟩ := S.bor p hp
    have z : i ≠ p.1 := fun w => hb (List.mem_map.mpr ⟨p, hp, w.symm⟩)
    exact ⟨by rw [List.getElem?_set_ne z]; exact p1, s, by rw [List.getElem?_set_ne z]; exact p2, p3⟩
/-- a list or an instance that no slot holds is given to a slot -/
theorem Sat.setM (S : Sat K G δ σ B H) {l : Addr} {s : Slot} (m : s.mu = true) (r : Mu K B H l s) (F : Fresh G δ σ B l) (hb : i ∉ G.bor.map (·.1)) : Sat K G (δ.set i s) (σ.set i (some (.ref l))) B H := by
  refine ⟨S.hb, S.b0, S.fr, S.nb, by rw [List.length_set, List.length_set]; exact S.len, fun j e h => ?_, fun j t h mt => ?_, fun j j2 t t2 l2 ne h m h2 m2 q q2 => ?_, fun p hp => ?_⟩
  · by_cases z : i = j
    · subst z
      by_cases hi : i < δ.length
      · rw [List.getElem?_set_self hi] at h
        cases h; cases m
      · rw [List.getElem?_eq_none (by rw [List.length_set]; omega)] at h; cases h
    · rw [List.getElem?_set_ne z] at h
      obtain ⟨w, p, q⟩ := S.dat j e h
      exact ⟨w, by rw [List.getElem?_set_ne z]; exact p, q⟩
  · by_cases z : i = j
    · subst z
      by_cases hi : i < δ.length
      · rw [List.getElem?_set_self hi] at h
        cases h
        exact ⟨l, by rw [List.getElem?_set_self (by rw [S.len]; exact hi)], F.nb, r, .inl F.n0⟩
      · rw [List.getElem?_eq_none (by rw [List.length_set]; omega)] at h; cases h
    · rw [List.getElem?_set_ne z] at h
      obtain ⟨l', p, q⟩ := S.mu j t h mt
      exact ⟨l', by rw [List.getElem?_set_ne z]; exact p, q⟩
  · by_cases z : i = j
    · subst z
      have z2 : i ≠ j2 := ne
      rw [List.getElem?_set_ne z2] at h2 q2
      by_cases hi : i < δ.length
      · rw [List.getElem?_set_self (by rw [S.len]; exact hi)] at q
        have e : l = l2 := by injection q with q; injection q with q; injection q
        subst e
        exact F.ap j2 t2 h2 m2 q2
      · rw [List.getElem?_eq_none (by rw [List.length_set]; omega)] at h; cases h
    · by_cases z2 : i = j2
      · subst z2
        rw [List.getElem?_set_ne z] at h q
        by_cases hi : i < δ.length
        · rw [List.getElem?_set_self (by rw [S.len]; exact hi)] at q2
          have e : l = l2 := by injection q2 with q2; injection q2 with q2; injection q2
          subst e
          exact F.ap j t h m q
        · rw [List.getElem?_eq_none (by rw [List.length_set]; omega)] at h2; cases h2
      · rw [List.getElem?_set_ne z] at h q
        rw [List.getElem?_set_ne z2] at h2 q2
        exact S.dis j j2 t t2 l2 ne h m h2 m2 q q2
  · obtain ⟨p1, t, p2, p3⟩ := S.bor p hp
    have z : i ≠ p.1 := fun w => hb (List.mem_map.mpr ⟨p, hp, w.symm⟩)
    exact ⟨by rw [List.getElem?_set_ne z]; exact p1, t, by rw [List.getElem?_set_ne z]; exact p2, p3⟩
/-- the thing of a slot is changed in its place -/
theorem Sat.write (S : Sat K G δ σ B H) {l : Addr} {s t : Slot} {o : HO} (hi : δ[i]? = some s) (m : s.mu = true) (hl : σ[i]? = some (some (.ref l))) (mt : t.mu = true) (r : Mu K B (upd H l o) l t) : Sat K G (δ.set i t) σ B (upd H l o) := by
  have il : i < δ.length := (List.getElem?_eq_some_iff.mp hi).1
  have hBl : B l = none := by
    obtain ⟨l', p, q, _⟩ := S.mu i s hi m
    rw [hl] at p
    have e : l = l' := by injection p with p; injection p with p; injection p
    subst e; exact q
  have hor : G.H0 l = none ∨ (i, l) ∈ G.bor := by
    obtain ⟨l', p, _, _, q⟩ := S.mu i s hi m
    rw [hl] at p
    have e : l = l' := by injection p with p; injection p with p; injection p
    subst e; exact q
  refine ⟨fun b u e => ?_, S.b0, fun a u e h => ?_, S.nb, by rw [List.length_set]; exact S.len, fun j e h => ?_, fun j u h mu => ?_, fun j j2 u u2 l2 ne h m1 h2 m2 q q2 => ?_, fun p hp => ?_⟩
  · rw [upd_ne (ne_of_none e hBl)]; exact S.hb _ _ e
  · have ne : a ≠ l := fun z => by
      subst z
      rcases hor with q | q
      · rw [q] at e; cases e
      · exact h (List.mem_map.mpr ⟨_, q, rfl⟩)
    rw [upd_ne ne]; exact S.fr a u e h
  · by_cases z : i = j
    · subst z
      rw [List.getElem?_set_self il] at h
      cases h; cases mt
    · rw [List.getElem?_set_ne z] at h
      exact S.dat j e h
  · by_cases z : i = j
    · subst z
      rw [List.getElem?_set_self il] at h
      cases h
      exact ⟨l, hl, hBl, r, hor⟩
    · rw [List.getElem?_set_ne z] at h
      obtain ⟨l', p, q, q2, q3⟩ := S.mu j u h mu
      have ne : l' ≠ l := fun w => S.dis i j s u l z hi m h mu hl (by rw [p, w])
      exact ⟨l', p, q, Mu.up q2 (Same.refl _) (fun o e => by rw [upd_ne ne]; exact e), q3⟩
  · have f : ∀ (j : Nat) u, (δ.set i t)[j]? = some u → u.mu = true → ∃ w, δ[j]? = some w ∧ w.mu = true := fun j u h m => by
      by_cases z : i = j
      · subst z; exact ⟨s, hi, by assumption⟩
      · rw [List.getElem?_set_ne z] at h; exact ⟨u, h, m⟩
    obtain ⟨w, a1, a2⟩ := f j u h m1
    obtain ⟨w2, b1, b2⟩ := f j2 u2 h2 m2
    exact S.dis j j2 w w2 l2 ne a1 a2 b1 b2 q q2
  · obtain ⟨p1, u, p2, p3⟩ := S.bor p hp
    refine ⟨p1, ?_⟩
    by_cases z : i = p.1
    · rw [← z, List.getElem?_set_self il]; exact ⟨t, rfl, mt⟩
    · rw [List.getElem?_set_ne z]; exact ⟨u, p2, p3⟩
/-- less is told: a slot's content is forgotten -/
def forget : List Slot → List Slot → Prop
  | [], [] => True
  | a :: as, b :: bs => (b = a ∨ b = .un) ∧ forget as bs
  | _, _ => False
theorem forget.get : ∀ {δ δ' : List Slot}, forget δ δ' → δ.length = δ'.length ∧ ∀ (i : Nat) s, δ'[i]? = some s → s = .un ∨ δ[i]? = some s
  | [], [], _ => ⟨rfl, fun i s h => by simp at h⟩
  | [], _ :: _, h => h.elim
  | _ :: _, [], h => h.elim
  | a :: as, b :: bs, h => by
    obtain ⟨h1, h2⟩ := h
    obtain ⟨l, g⟩ := forget.get h2
    refine ⟨by rw [List.length_cons, List.length_cons, l], fun i s e => ?_⟩
    cases i with
    | zero =>
      simp at e
      subst e
      rcases h1 with h1 | h1
      · right; rw [h1]; rfl
      · left; exact h1
    | succ n =>
      simp at e ⊢
      exact g n s e
theorem forget.refl : ∀ δ : List Slot, forget δ δ
  | [] => trivial
  | a :: as => ⟨.inl rfl, forget.refl as⟩
theorem Sat.forget (S : Sat K G δ σ B H) (f : DL.forget δ δ') (hb : ∀ i ∈ G.bor.map (·.1), δ'[i]? = δ[i]?) : Sat K G δ' σ B H := by
  obtain ⟨l, g⟩ := f.get
  have g2 : ∀ (i : Nat) s, δ'[i]? = some s → s.mu = true → δ[i]? = some s := fun i s h m => by
    rcases g i s h with e | e
    · subst e; cases m
    · exact e
  refine ⟨S.hb, S.b0, S.fr, S.nb, S.len.trans l, fun i d h => ?_, fun i s h m => S.mu i s (g2 i s h m) m, fun i j s t l ne h m h2 m2 => S.dis i j s t l ne (g2 i s h m) m (g2 j t h2 m2) m2, fun p hp => ?_⟩
  · rcases g i _ h with e | e
    · cases e
    · exact S.dat i d e
  · obtain ⟨p1, s, p2, p3⟩ := S.bor p hp
    exact ⟨p1, s, by rw [hb p.1 (List.mem_map.mpr ⟨p, hp, rfl⟩)]; exact p2, p3⟩
end

/-! ### targets -/
def cG (X : Cx) (tg : Expr) : TG := fun v σ H Q => ∃ t, PG X tg t ∧ t v σ H Q
theorem pg_cG {X : Cx} {tg : Expr} : PG X tg (cG X tg) := ⟨fun pins s σ H v u Q I r ⟨_, p, h⟩ => p.run pins s σ H v u Q I r h⟩
def cGs (X : Cx) (ts : List Expr) : TGs := fun vs σ H Q => ∃ t, PGs X ts t ∧ t vs σ H Q
theorem pgs_cGs {X : Cx} {ts : List Expr} : PGs X ts (cGs X ts) := ⟨fun pins s σ H v u Q I r ⟨_, p, h⟩ => p.run pins s σ H v u Q I r h⟩
/-- σ' differs from σ at the slots js alone -/
def Only (js : List Nat) (σ σ' : St) : Prop := σ'.length = σ.length ∧ ∀ i, i ∉ js → σ'[i]? = σ[i]?
def AG (X : Cx) (G : Ent) (tg : Expr) (d : D) (δ δ' : List Slot) (js : List Nat) : Prop :=
  ∀ σ B H v, Sat X.K G δ σ B H → Rep X.K B v d → ∀ Q : St → Hp → Prop, (∀ σ', Sat X.K G δ' σ' B H → Only js σ σ' → Q σ' H) → cG X tg v σ H Q
def AGs (X : Cx) (G : Ent) (ts : List Expr) (ds : List D) (δ δ' : List Slot) (js : List Nat) : Prop :=
  ∀ σ B H vs, Sat X.K G δ σ B H → RepL X.K B vs ds → ∀ Q : St → Hp → Prop, (∀ σ', Sat X.K G δ' σ' B H → Only js σ σ' → Q σ' H) → cGs X ts vs σ H Q
def locB (sc : Scope) (fb : Str → Bool) (x : Str) : Bool := match sc.names.lookup x with
  | some .local => true
  | some .cell => fb x
  | _ => false
section
variable {X : Cx} {G : Ent} {M : Md} {N : List Str} {sc : Scope} {fb : Str → Bool} {k : Nat} {δ δ1 δ2 : List Slot} {pos : Pos} {d : D} {ds : List D} {js js2 : List Nat}
theorem loc_of (g : Good X M N sc fb k) {x : Str} (h : locB sc fb x = true) : L2.Loc X.env.scope x ∧ (X.fn x = true ∨ X.env.scope.names.lookup x = some .local) := by
  rw [g.sc]
  unfold locB at h
  unfold L2.Loc
  split at h
  · rename_i e; rw [e]; exact ⟨.inl rfl, .inr rfl⟩
  · rename_i e; rw [e]; exact ⟨.inr rfl, .inl (g.fn x h)⟩
  · cases h
theorem pg_slot (g : Good X M N sc fb k) (i : Nat) {x : Str} (hN : N[i]? = some x) (hl : locB sc fb x = true) : PG X (.Name x pos) (gName i) :=
  pg_name (by rw [g.nm]; exact g.nd) (by rw [g.nm]; exact hN) (loc_of g hl).1 (loc_of g hl).2
theorem only_set (σ : St) (i : Nat) (v : Option V) : Only [i] σ (σ.set i v) := ⟨List.length_set .., fun j h => List.getElem?_set_ne (by simp at h; exact fun e => h e.symm)⟩
theorem Only.trans {σ σ1 σ2 : St} (a : Only js σ σ1) (b : Only js2 σ1 σ2) : Only (js ++ js2) σ σ2 := ⟨b.1.trans a.1, fun i h => by
  rw [List.mem_append, not_or] at h
  rw [b.2 i h.2, a.2 i h.1]⟩
theorem ag_name (g : Good X M N sc fb k) (i : Nat) {x : Str} (hb : i ∉ G.bor.map (·.1)) (hN : N[i]? = some x := by rfl) (hl : locB sc fb x = true := by rfl) : AG X G (.Name x pos) d δ (δ.set i (.dat d)) [i] := fun σ B H v S r Q q =>
  ⟨_, pg_slot g i hN hl, q _ (S.setD r hb) (only_set _ _ _)⟩
theorem ags_nil : AGs X G [] [] δ δ [] := fun σ B H vs S r Q q => ⟨_, pgs_nil, by cases r; exact ⟨rfl, q σ S ⟨rfl, fun _ _ => rfl⟩⟩⟩
theorem ags_cons {e : Expr} {es : List Expr} (h : AG X G e d δ δ1 js) (h2 : AGs X G es ds δ1 δ2 js2) (hs : (assignEach (e :: es) X.env).map (·.2) = assign e X.env :: (assignEach es X.env).map (·.2) := by rfl) : AGs X G (e :: es) (d :: ds) δ δ2 (js ++ js2) := fun σ B H vs S r Q q =>
  ⟨_, pgs_cons pg_cG pgs_cGs hs, by
    cases r with
    | cons a b => exact ⟨_, _, rfl, h σ B H _ S a _ fun σ1 S1 o1 => h2 σ1 B H _ S1 b _ fun σ2 S2 o2 => q σ2 S2 (o1.trans o2)⟩⟩
/-- (a, b, ..) = a tuple -/
theorem ag_tup (g : Good X M N sc fb k) {es : List Expr} {kk : Nat} (h : AGs X G es ds δ δ1 js) (hn : (assignEach es X.env).length = ds.length := by rfl) (hst : (assignEach es X.env).findIdx? (·.1) = none := by rfl) : AG X G (.Tuple es kk pos) (.tup ds) δ δ1 js := fun σ B H v S r Q q =>
  ⟨_, pg_tup g.calm pgs_cGs hn hst, by
    obtain ⟨a, vs, rfl, h1, h2⟩ := tup_of r
    exact ⟨a, vs, rfl, sqt_mono S.hb h1, h2.length, h σ B H vs S h2 Q q⟩⟩
end

/-! ### what a for walks -/
def cI (X : Cx) (tg it : Expr) : TI := fun σ H R => ∃ t, PI X tg it t ∧ t σ H R
theorem pi_cI {X : Cx} {tg it : Expr} : PI X tg it (cI X tg it) := ⟨fun pins s σ H R I ⟨_, p, h⟩ => p.run pins s σ H R I h⟩
/-- the iterator gives the data ds, one after the other, as long as what is frozen stays so -/
def Ext (G G' : Ent) : Prop := (∀ a o, G.H0 a = some o → G'.H0 a = some o) ∧ G'.bor = G.bor
theorem Ext.rfl_ {G : Ent} : Ext G G := ⟨fun _ _ h => h, rfl⟩
def Serves (K : PySem.W.Frag) (G0 : Ent) (J : It) (B1 : Hp) (ds : List D) : Prop :=
  ∀ (i : Nat) (G : Ent) δ σ B H, Ext G0 G → Sat K G δ σ B H → Same B1 B →
    (∀ d, ds[i]? = some d → J.go i H ∧ ∀ x H', J.yld i H x H' → ∃ B', Sat K G δ σ B' H' ∧ Same B B' ∧ Rep K B' x d ∧ (∀ a o, H a = some o → H' a = some o)) ∧ (ds.length ≤ i → J.stop i H)
def EI (X : Cx) (G : Ent) (tg it : Expr) (δ : List Slot) (ds : List D) (δ1 : List Slot) : Prop :=
  ∀ σ B H, Sat X.K G δ σ B H → ∀ R : It → Hp → Prop, (∀ J B1 H1, Sat X.K G δ1 σ B1 H1 → Same B B1 → Serves X.K G J B1 ds → R J H1) → cI X tg it σ H R
section
variable {X : Cx} {G : Ent} {M : Md} {N : List Str} {sc : Scope} {fb : Str → Bool} {k : Nat} {δ δ1 δ2 : List Slot} {pos p : Pos} {ds : List D} {tg e e2 : Expr} {i j : Int}
theorem serves_list {K : PySem.W.Frag} {B1 : Hp} {a : Addr} {vs : List V} (h1 : SqL K B1 a vs) (h2 : RepL K B1 vs ds) : Serves K G (Itl K a) B1 ds := fun n G' δ σ B H _ S s => by
  have q : SqL K H a vs := (s.trans S.hb).seq h1
  refine ⟨fun d hd => ?_, fun hl => ⟨vs, q, by rw [h2.length]; exact hl⟩⟩
  obtain ⟨v, g1, g2⟩ := h2.get hd
  refine ⟨⟨vs, v, q, g1⟩, fun x H' y => ?_⟩
  obtain ⟨e, y⟩ := y
  subst e
  have z := y vs q
  rw [g1] at z
  have e : v = x := Option.some.inj z
  subst e
  exact ⟨B, S, Same.refl _, g2.up s, fun _ _ h => h⟩
theorem serves_tup {K : PySem.W.Frag} {B1 : Hp} {a : Addr} {vs : List V} (h1 : SqT K B1 a vs) (h2 : RepL K B1 vs ds) : Serves K G (Itt K a) B1 ds := fun n G' δ σ B H _ S s => by
  have q : SqT K H a vs := sqt_mono (s.trans S.hb) h1
  refine ⟨fun d hd => ?_, fun hl => ⟨vs, q, by rw [h2.length]; exact hl⟩⟩
  obtain ⟨v, g1, g2⟩ := h2.get hd
  refine ⟨⟨vs, v, q, g1⟩, fun x H' y => ?_⟩
  obtain ⟨e, y⟩ := y
  subst e
  have z := y vs q
  rw [g1] at z
  have e : v = x := Option.some.inj z
  subst e
  exact ⟨B, S, Same.refl _, g2.up s, fun _ _ h => h⟩
theorem ei_list (h : EV X G e δ (.dat (.lst ds)) δ1) : EI X G tg e δ ds δ1 := fun σ B H S R q =>
  ⟨_, pi_list pe_cE, h σ B H S _ fun v B1 H1 S1 s1 r1 => by
    obtain ⟨a, vs, rfl, h1, h2⟩ := lst_of r1
    exact ⟨a, rfl, ⟨vs, S1.hb.seq h1⟩, q _ B1 H1 S1 s1 (serves_list h1 h2)⟩⟩
theorem ei_tup (h : EV X G e δ (.dat (.tup ds)) δ1) : EI X G tg e δ ds δ1 := fun σ B H S R q =>
  ⟨_, pi_tup pe_cE, h σ B H S _ fun v B1 H1 S1 s1 r1 => by
    obtain ⟨a, vs, rfl, h1, h2⟩ := tup_of r1
    exact ⟨a, rfl, ⟨vs, sqt_mono S1.hb h1⟩, q _ B1 H1 S1 s1 (serves_tup h1 h2)⟩⟩
/-- lo, lo + 1, .. -/
def rangeD (lo : Int) (n : Nat) : List D := (List.range n).map fun (q : Nat) => D.int (lo + q)
theorem rangeD_len (lo : Int) (n : Nat) : (rangeD lo n).length = n := by unfold rangeD; rw [List.length_map, List.length_range]
theorem rangeD_get {lo : Int} {n q : Nat} {d : D} (h : (rangeD lo n)[q]? = some d) : q < n ∧ d = .int (lo + q) := by
  unfold rangeD at h
  rw [List.getElem?_map] at h
  by_cases hq : q < n
  · rw [List.getElem?_range hq] at h
    exact ⟨hq, (Option.some.inj h).symm⟩
  · rw [List.getElem?_eq_none (by rw [List.length_range]; omega)] at h; cases h
theorem serves_range {K : PySem.W.Frag} {B1 : Hp} {lo : Int} {n : Nat} : Serves K G (Itr lo n) B1 (rangeD lo n) := fun q G' δ σ B H _ S s => by
  refine ⟨fun d hd => ?_, fun hl => by rw [rangeD_len] at hl; exact hl⟩
  obtain ⟨g1, rfl⟩ := rangeD_get hd
  refine ⟨g1, fun x H' y => ?_⟩
  obtain ⟨e, y⟩ := y
  subst e y
  exact ⟨B, S, Same.refl _, .int _, fun _ _ h => h⟩
theorem ei_range1 (g : Good X M N sc fb k) (hm : M.mg "range" = none) (h : EV X G e δ (.dat (.int i)) δ1) (hi : -(2 ^ 62) ≤ i ∧ i < 2 ^ 62) (hg : sc.names.lookup ("range" : Str) = some .globalImplicit := by rfl)
    (hs : starEach [e] X.env = [(false, eval e X.env)] := by rfl) (hs2 : starEach [e] X.env = (false, eval e X.env) :: starEach [] X.env := by rfl) : EI X G tg (.Call (.Name "range" p) [e] [] pos) δ (rangeD 0 i.toNat) δ1 := fun σ B H S R q =>
  ⟨_, pi_range1 (gl_of g hg) (mn_of g hm) pa_cA hs, ea_cons h ea_nil hs2 σ B H S _ fun vs B1 H1 S1 s1 r1 => by
    obtain ⟨v, rfl, r⟩ := one_of r1
    cases int_of r
    exact ⟨i, rfl, hi.1, hi.2, q _ B1 H1 S1 s1 serves_range⟩⟩
theorem ei_range2 (g : Good X M N sc fb k) (hm : M.mg "range" = none) (h : EA X G [e, e2] δ [.int i, .int j] δ1) (hi : -(2 ^ 62) ≤ i ∧ i < 2 ^ 62 ∧ -(2 ^ 62) ≤ j ∧ j < 2 ^ 62) (hg : sc.names.lookup ("range" : Str) = some .globalImplicit := by rfl)
    (hs : starEach [e, e2] X.env = [(false, eval e X.env), (false, eval e2 X.env)] := by rfl) (hs2 : starEach [e2] X.env = [(false, eval e2 X.env)] := by rfl) : EI X G tg (.Call (.Name "range" p) [e, e2] [] pos) δ (rangeD i (j - i).toNat) δ1 := fun σ B H S R q =>
  ⟨_, pi_range2 (gl_of g hg) (mn_of g hm) pa_cA hs hs2, h σ B H S _ fun vs B1 H1 S1 s1 r1 => by
    obtain ⟨v, u, rfl, r, r2⟩ := two_of r1
    cases int_of r; cases int_of r2
    exact ⟨i, j, rfl, hi, q _ B1 H1 S1 s1 serves_range⟩⟩
/-- (0, d), (1, d'), .. -/
def enumD (n : Nat) : List D → List D
  | [] => []
  | d :: ds => .tup [.int n, d] :: enumD (n + 1) ds
theorem enumD_len : ∀ (ds : List D) (n : Nat), (enumD n ds).length = ds.length
  | [], _ => rfl
  | d :: ds, n => by show _ + 1 = _ + 1; rw [enumD_len ds]
theorem enumD_get : ∀ {ds : List D} {n q : Nat} {d : D}, (enumD n ds)[q]? = some d → ∃ e, ds[q]? = some e ∧ d = .tup [.int ((n + q : Nat) : Int), e]
  | [], _, q, d, h => by simp [enumD] at h
  | x :: ds, n, 0, d, h => by
    have h' : D.tup [.int n, x] = d := by simpa [enumD] using h
    exact ⟨x, rfl, h'.symm⟩
  | x :: ds, n, q + 1, d, h => by
    have h' : (enumD (n + 1) ds)[q]? = some d := by simpa [enumD] using h
    obtain ⟨e, h1, h2⟩ := enumD_get h'
    exact ⟨e, by simpa using h1, by rw [h2, show n + 1 + q = n + (q + 1) from by omega]⟩
theorem serves_enum {K : PySem.W.Frag} {B1 : Hp} {a : Addr} {vs : List V} (h1 : SqL K B1 a vs) (h2 : RepL K B1 vs ds) : Serves K G (Ite K a) B1 (enumD 0 ds) := fun n G' δ σ B H _ S s => by
  have q : SqL K H a vs := (s.trans S.hb).seq h1
  refine ⟨fun d hd => ?_, fun hl => ⟨vs, q, by rw [h2.length]; rw [enumD_len] at hl; exact hl⟩⟩
  obtain ⟨u, hu, rfl⟩ := enumD_get hd
  obtain ⟨v, g1, g2⟩ := h2.get hu
  refine ⟨⟨vs, v, q, g1⟩, fun x H' y => ?_⟩
  obtain ⟨T, w, e, hT, eH, y⟩ := y
  subst e eH
  have z := y vs q
  rw [g1] at z
  have e : v = w := Option.some.inj z
  subst e
  obtain ⟨S2, s2⟩ := S.newB (o := .tup [.int (n : Nat), v]) hT
  refine ⟨_, S2, s2, .tup (.of upd_same) (.cons ?_ (.one ((g2.up s).up s2))), fun a o e => by rw [upd_ne (ne_of_none e hT)]; exact e⟩
  rw [Nat.zero_add]
  exact .int _
theorem ei_enum (g : Good X M N sc fb k) (hm : M.mg "enumerate" = none) {tpos : Pos} {elts : List Expr} {kk : Nat} (h : EV X G e δ (.dat (.lst ds)) δ1) (hg : sc.names.lookup ("enumerate" : Str) = some .globalImplicit := by rfl)
    (hs : starEach [e] X.env = [(false, eval e X.env)] := by rfl) (hs2 : starEach [e] X.env = (false, eval e X.env) :: starEach [] X.env := by rfl) : EI X G (.Tuple elts kk tpos) (.Call (.Name "enumerate" p) [e] [] pos) δ (enumD 0 ds) δ1 := fun σ B H S R q =>
  ⟨_, pi_enum (gl_of g hg) (mn_of g hm) pa_cA hs, ea_cons h ea_nil hs2 σ B H S _ fun vs B1 H1 S1 s1 r1 => by
    obtain ⟨v, rfl, r⟩ := one_of r1
    obtain ⟨a, ws, rfl, h1, h2⟩ := lst_of r
    exact ⟨a, ws, rfl, S1.hb.seq h1, q _ B1 H1 S1 s1 (serves_enum h1 h2)⟩⟩
end
end DL

namespace DL
open PySem L2

/-! ### statements -/
def cS (X : Cx) (s : Stmt) : TS := fun E σ H => ∃ t, PS X s t ∧ t E σ H
theorem ps_cS {X : Cx} {s : Stmt} : PS X s (cS X s) := ⟨fun pins s σ H E I ⟨_, p, h⟩ => p.run pins s σ H E I h⟩
def cB (X : Cx) (s : List Stmt) : TS := fun E σ H => ∃ t, PSs X s t ∧ t E σ H
theorem pss_cB {X : Cx} {s : List Stmt} : PSs X s (cB X s) := ⟨fun pins s σ H E I ⟨_, p, h⟩ => p.run pins s σ H E I h⟩
/-- how a statement may end -/
inductive Out where
  | nx (δ : List Slot)
  | rt (r : Slot) (δ : List Slot)
  | bk (δ : List Slot)
  | ct (δ : List Slot)
  | ex (C : Addr) (ns : List Str) (ds : List D) (δ : List Slot)
/-- the own dict of an exception: none, or its fields -/
def ExcR (K : PySem.W.Frag) (B H : Hp) (d : Option Addr) (ns : List Str) (ds : List D) : Prop :=
  (ns = [] ∧ ds = [] ∧ d = none) ∨ ns ≠ [] ∧ ∃ dd fs, d = some dd ∧ H dd = some (.xd fs) ∧ fs.map (·.1) = ns ∧ RepL K B (fs.map (·.2)) ds
/-- what stands behind (E, W) takes every end that P lets -/
structure Fits (K : PySem.W.Frag) (G : Ent) (W : WX) (B0 : Hp) (P : Out → Prop) (E : Ends) : Prop where
  nx : ∀ δ σ B H, P (.nx δ) → Sat K G δ σ B H → Same B0 B → E.nx σ H
  rt : ∀ r δ σ B H v, P (.rt r δ) → Sat K G δ σ B H → Same B0 B → ResR K G δ σ B H v r → E.rt v H
  bk : ∀ δ σ B H, P (.bk δ) → Sat K G δ σ B H → Same B0 B → E.bk σ H
  ct : ∀ δ σ B H, P (.ct δ) → Sat K G δ σ B H → Same B0 B → E.ct σ H
  ex : ∀ C ns ds δ σ B H d, P (.ex C ns ds δ) → Sat K G δ σ B H → Same B0 B → ExcR K B H d ns ds → W (.ref C) d σ H
theorem Fits.up {K : PySem.W.Frag} {G : Ent} {W : WX} {B0 B1 : Hp} {P : Out → Prop} {E : Ends} (F : Fits K G W B0 P E) (s : Same B0 B1) : Fits K G W B1 P E :=
  ⟨fun δ σ B H p S e => F.nx δ σ B H p S (s.trans e), fun r δ σ B H v p S e => F.rt r δ σ B H v p S (s.trans e), fun δ σ B H p S e => F.bk δ σ B H p S (s.trans e), fun δ σ B H p S e => F.ct δ σ B H p S (s.trans e),
    fun C ns ds δ σ B H d p S e => F.ex C ns ds δ σ B H d p S (s.trans e)⟩
def SV1 (X : Cx) (W : WX) (G : Ent) (s : Stmt) (δ : List Slot) (P : Out → Prop) : Prop :=
  ∀ σ B H, Sat X.K G δ σ B H → ∀ E, Fits X.K G W B P E → cS X s E σ H
def SV (X : Cx) (W : WX) (G : Ent) (s : List Stmt) (δ : List Slot) (P : Out → Prop) : Prop :=
  ∀ σ B H, Sat X.K G δ σ B H → ∀ E, Fits X.K G W B P E → cB X s E σ H
/-- then the rest -/
def Bef (X : Cx) (W : WX) (G : Ent) (rest : List Stmt) (P : Out → Prop) : Out → Prop
  | .nx δ => SV X W G rest δ P
  | .rt r δ => P (.rt r δ)
  | .bk δ => P (.bk δ)
  | .ct δ => P (.ct δ)
  | .ex C ns ds δ => P (.ex C ns ds δ)
/-- a loop's turn -/
def LoopP (I : List Slot → Prop) (P : Out → Prop) : Out → Prop
  | .nx δ => I δ
  | .rt r δ => P (.rt r δ)
  | .bk δ => P (.nx δ)
  | .ct δ => I δ
  | .ex C ns ds δ => P (.ex C ns ds δ)
section
variable {X : Cx} {W : WX} {G : Ent} {M : Md} {N : List Str} {sc : Scope} {fb : Str → Bool} {k : Nat} {δ δ1 δ2 : List Slot} {pos : Pos} {d : D} {ds : List D} {P : Out → Prop} {s : Stmt} {rest body orelse : List Stmt} {e c tg it : Expr} {r : Slot} {x : Str} {b : Bool}
theorem sv_nil (h : P (.nx δ)) : SV X W G [] δ P := fun σ B H S E F => ⟨_, pss_nil, F.nx δ σ B H h S (Same.refl _)⟩
theorem sv_cons (h : SV1 X W G s δ (Bef X W G rest P)) : SV X W G (s :: rest) δ P := fun σ B H S E F =>
  ⟨_, pss_cons ps_cS pss_cB, h σ B H S { E with nx := cB X rest E } ⟨fun δ' σ' B' H' p S' e => p σ' B' H' S' E (F.up e), fun r δ' σ' B' H' v p => F.rt r δ' σ' B' H' v p, fun δ' σ' B' H' p => F.bk δ' σ' B' H' p, fun δ' σ' B' H' p => F.ct δ' σ' B' H' p, fun C ns ds δ' σ' B' H' d p => F.ex C ns ds δ' σ' B' H' d p⟩⟩
theorem sv_one (h : SV1 X W G s δ P) : SV X W G [s] δ P := fun σ B H S E F => ⟨_, pss_one ps_cS, h σ B H S E F⟩
theorem SV1.imp {P' : Out → Prop} (h : SV1 X W G s δ P) (i : ∀ o, P o → P' o) : SV1 X W G s δ P' := fun σ B H S E F =>
  h σ B H S E ⟨fun δ σ B H p => F.nx δ σ B H (i _ p), fun r δ σ B H v p => F.rt r δ σ B H v (i _ p), fun δ σ B H p => F.bk δ σ B H (i _ p), fun δ σ B H p => F.ct δ σ B H (i _ p), fun C ns ds δ σ B H d p => F.ex C ns ds δ σ B H d (i _ p)⟩
theorem SV.imp {ss : List Stmt} {P' : Out → Prop} (h : SV X W G ss δ P) (i : ∀ o, P o → P' o) : SV X W G ss δ P' := fun σ B H S E F =>
  h σ B H S E ⟨fun δ σ B H p => F.nx δ σ B H (i _ p), fun r δ σ B H v p => F.rt r δ σ B H v (i _ p), fun δ σ B H p => F.bk δ σ B H (i _ p), fun δ σ B H p => F.ct δ σ B H (i _ p), fun C ns ds δ σ B H d p => F.ex C ns ds δ σ B H d (i _ p)⟩
/-- less is told of the slots -/
theorem SV.weak {ss : List Stmt} (h : SV X W G ss δ1 P) (f : forget δ δ1) (hb : ∀ i ∈ G.bor.map (·.1), δ1[i]? = δ[i]?) : SV X W G ss δ P := fun σ B H S E F => h σ B H (S.forget f hb) E F
theorem forget_set : ∀ (l : List Slot) (n : Nat), forget l (l.set n .un)
  | [], _ => trivial
  | a :: as, 0 => ⟨.inr rfl, forget.refl as⟩
  | a :: as, n + 1 => ⟨.inl rfl, forget_set as n⟩
/-- name = e -/
theorem s_asg (g : Good X M N sc fb k) (i : Nat) {px : Pos} (h : EV X G e δ (.dat d) δ1) (hb : i ∉ G.bor.map (·.1)) (p : P (.nx (δ1.set i (.dat d)))) (hN : N[i]? = some x := by rfl) (hl : locB sc fb x = true := by rfl)
    (hs : swapsWith e (some (.Name x px)) pos.line X.env = pure false := by rfl) : SV1 X W G (.Assign [.Name x px] e pos) δ P := fun σ B H S E F =>
  ⟨_, ps_set (i := i) (by rw [g.nm]; exact g.nd) (by rw [g.nm]; exact hN) (loc_of g hl).1 pe_cE hs (loc_of g hl).2, h σ B H S _ fun v B1 H1 S1 s1 r1 => F.nx _ _ B1 H1 p (S1.setD r1 hb) s1⟩
/-- name = e, a new list or instance, which is then one's own -/
theorem s_asgM (g : Good X M N sc fb k) (i : Nat) {px : Pos} (h : EV X G e δ r δ1) (hb : i ∉ G.bor.map (·.1)) (p : P (.nx (δ1.set i r))) (hm : r.mu = true := by rfl) (hN : N[i]? = some x := by rfl) (hl : locB sc fb x = true := by rfl)
    (hs : swapsWith e (some (.Name x px)) pos.line X.env = pure false := by rfl) : SV1 X W G (.Assign [.Name x px] e pos) δ P := fun σ B H S E F =>
  ⟨_, ps_set (i := i) (by rw [g.nm]; exact g.nd) (by rw [g.nm]; exact hN) (loc_of g hl).1 pe_cE hs (loc_of g hl).2, h σ B H S _ fun v B1 H1 S1 s1 r1 => by
    cases r with
    | un => cases hm
    | dat d => cases hm
    | own ds =>
      obtain ⟨l, vs, rfl, h1, h2, F1⟩ := r1
      exact F.nx _ _ B1 H1 p (S1.setM (s := .own ds) rfl ⟨vs, h1, h2⟩ F1 hb) s1
    | obj C ns ds =>
      obtain ⟨l, dx, fs, rfl, h1, h2, h3, F1⟩ := r1
      exact F.nx _ _ B1 H1 p (S1.setM (s := .obj C ns ds) rfl ⟨dx, fs, h1, h2, h3⟩ F1 hb) s1⟩
/-- a, b, .. = e, or any other target -/
theorem s_asgT (g : Good X M N sc fb k) {js : List Nat} (h : EV X G e δ (.dat d) δ1) (ht : AG X G tg d δ1 δ2 js) (p : P (.nx δ2)) (hs : swapsWithSole [tg] e pos.line X.env = pure false := by rfl) (hw : swappedStores [tg] e X.env = pure none := by rfl)
    (h1 : (assignEach [tg] X.env).map (·.2) = [assign tg X.env] := by rfl) : SV1 X W G (.Assign [tg] e pos) δ P := fun σ B H S E F =>
  ⟨_, ps_asg pe_cE pg_cG hs hw h1, h σ B H S _ fun v B1 H1 S1 s1 r1 => ht σ B1 H1 v S1 r1 _ fun σ' S2 _ => F.nx _ _ B1 H1 p S2 s1⟩
theorem s_ret (h : EV X G e δ r δ1) (p : P (.rt r δ1)) : SV1 X W G (.Return (some e) pos) δ P := fun σ B H S E F =>
  ⟨_, ps_ret pe_cE, h σ B H S _ fun v B1 H1 S1 s1 r1 => F.rt r δ1 σ B1 H1 v p S1 s1 r1⟩
/-- return name, whose list or instance is one's own: it is handed over -/
theorem s_retM (g : Good X M N sc fb k) (i : Nat) {px : Pos} (hb : i ∉ G.bor.map (·.1)) (p : P (.rt r (δ.set i .un))) (hδ : δ[i]? = some r := by rfl) (hm : r.mu = true := by rfl) (hN : N[i]? = some x := by rfl) (hv : visB sc x = true := by rfl)
    (hd : (x == ("__debug__" : Str)) = false := by decide) (hc : (x == ("__classdict__" : Str)) = false := by decide) : SV1 X W G (.Return (some (.Name x px)) pos) δ P := fun σ B H S E F =>
  ⟨_, ps_ret (pe_slot g i hN hv hd hc), by
    obtain ⟨l, h1, h2, h3, h4⟩ := S.mu i r hδ hm
    have il : i < δ.length := (List.getElem?_eq_some_iff.mp hδ).1
    have n0 : G.H0 l = none := by
      rcases h4 with h4 | h4
      · exact h4
      · exact absurd (List.mem_map.mpr ⟨_, h4, rfl⟩) hb
    have f : forget δ (δ.set i .un) := forget_set δ i
    have S2 : Sat X.K G (δ.set i .un) σ B H := S.forget f fun j hj => List.getElem?_set_ne (fun z => hb (by rw [z]; exact hj))
    have F1 : Fresh G (δ.set i .un) σ B l := ⟨h2, n0, fun j s e m z => by
      by_cases w : i = j
      · subst w
        rw [List.getElem?_set_self il] at e; cases e; cases m
      · rw [List.getElem?_set_ne w] at e
        exact S.dis i j r s l w hδ hm e m h1 z⟩
    refine ⟨_, h1, F.rt r _ σ B H _ p S2 (Same.refl _) ?_⟩
    cases r with
    | un => cases hm
    | dat d => cases hm
    | own ds =>
      obtain ⟨vs, e, q⟩ := h3
      exact ⟨l, vs, rfl, e, q, F1⟩
    | obj C ns ds =>
      obtain ⟨dx, fs, e, q1, q2⟩ := h3
      exact ⟨l, dx, fs, rfl, e, q1, q2, F1⟩⟩
theorem s_retN (p : P (.rt (.dat .non) δ)) : SV1 X W G (.Return none pos) δ P := fun σ B H S E F => ⟨_, ps_retN, F.rt _ δ σ B H _ p S (Same.refl _) .non⟩
theorem s_expr (h : EV X G e δ r δ1) (p : P (.nx δ1)) (hs : swapsWith e none pos.line X.env = pure false := by rfl) : SV1 X W G (.Expr e pos) δ P := fun σ B H S E F =>
  ⟨_, ps_expr pe_cE hs, h σ B H S _ fun v B1 H1 S1 s1 r1 => F.nx _ _ B1 H1 p S1 s1⟩
theorem s_pass (p : P (.nx δ)) : SV1 X W G (.Pass pos) δ P := fun σ B H S E F => ⟨_, ps_pass, F.nx _ _ B H p S (Same.refl _)⟩
theorem s_break (p : P (.bk δ)) : SV1 X W G (.Break pos) δ P := fun σ B H S E F => ⟨_, ps_break, F.bk _ _ B H p S (Same.refl _)⟩
theorem s_cont (p : P (.ct δ)) : SV1 X W G (.Continue pos) δ P := fun σ B H S E F => ⟨_, ps_continue, F.ct _ _ B H p S (Same.refl _)⟩
theorem s_if (h : ET X G c δ b δ1) (h1 : b = true → SV X W G body δ1 P) (h2 : b = false → SV X W G orelse δ1 P) : SV1 X W G (.If c body orelse pos) δ P := fun σ B H S E F =>
  ⟨_, ps_if pt_cT pss_cB pss_cB, h σ B H S _ fun B1 H1 S1 s1 => by
    cases b with
    | true =>
      rw [if_pos rfl]
      exact h1 rfl σ B1 H1 S1 E (F.up s1)
    | false =>
      rw [if_neg Bool.false_ne_true]
      exact h2 rfl σ B1 H1 S1 E (F.up s1)⟩
/-- names.append(e) on one's own list -/
theorem s_app (g : Good X M N sc fb k) (i : Nat) {px pa pc : Pos} {e : Expr} (h : EV X G e δ (.dat d) δ1) (hz : ds.length < 100000) (p : P (.nx (δ1.set i (.own (ds ++ [d]))))) (h0 : ∃ ds0, δ[i]? = some (.own ds0)) (h1 : δ1[i]? = some (.own ds) := by rfl)
    (hN : N[i]? = some x := by rfl) (hv : visB sc x = true := by rfl) (hd : (x == ("__debug__" : Str)) = false := by decide) (hc : (x == ("__classdict__" : Str)) = false := by decide)
    (hst : starEach [e] X.env = (false, eval e X.env) :: starEach [] X.env := by rfl)
    (hfw : ((backTo pc (starEach [e] X.env)).all (fun x => !x.1) && (backToKw pc (keywordEach [] X.env)).all (fun x => x.1.isSome) && decide ([e].length + ([] : List Keyword).length + (if ([] : List Keyword).isEmpty then 0 else 1) < 30)) = true := by rfl) (hln : (pa.endLine == pc.line) = true := by rfl)
    (hs : swapsWith (.Call (.Attribute (.Name x px) "append" pa) [e] [] pc) none pos.line X.env = pure false := by rfl) : SV1 X W G (.Expr (.Call (.Attribute (.Name x px) "append" pa) [e] [] pc) pos) δ P := fun σ B H S E F =>
  ⟨_, ps_expr (pe_bm PySem.F.plainAttrs_list PySem.F.slot_list_append PySem.F.type_list_append mt_append (pe_slot g i hN hv hd hc) (pa_cons pe_cE pa_nil hst) rfl hfw hln hst rfl) hs, by
    obtain ⟨ds0, h0⟩ := h0
    obtain ⟨l, p1, p2, ⟨vs0, p3, p4⟩, _⟩ := S.mu i _ h0 rfl
    refine ⟨_, p1, .inl ⟨rfl, vs0, .of p3⟩, h σ B H S _ fun v B1 H1 S1 s1 r1 => ?_⟩
    obtain ⟨l', q1, q2, ⟨vs, q3, q4⟩, _⟩ := S1.mu i _ h1 rfl
    rw [p1] at q1
    have el : l = l' := by injection q1 with q1; injection q1 with q1; injection q1
    subst el
    refine ⟨l, vs, v, rfl, rfl, q3, Nat.lt_of_lt_of_le (by rw [q4.length]; exact hz) (by decide : 100000 ≤ sizeLine), ?_⟩
    exact F.nx _ _ B1 _ p (S1.write (t := .own (ds ++ [d])) h1 rfl p1 rfl ⟨_, upd_same, q4.append (.one r1)⟩) s1⟩
/-- names[i] = e on one's own list -/
theorem s_setI (g : Good X M N sc fb k) (i : Nat) {px ps : Pos} {e ix : Expr} {j : Int} {n : Nat} (h : EV X G e δ (.dat d) δ1) (hi : EV X G ix δ1 (.dat (.int j)) δ2) (hj : ixN ds.length j = some n) (p : P (.nx (δ2.set i (.own (ds.set n d))))) (h0 : ∃ ds0, δ1[i]? = some (.own ds0)) (h1 : δ2[i]? = some (.own ds) := by rfl)
    (hN : N[i]? = some x := by rfl) (hv : visB sc x = true := by rfl) (hd : (x == ("__debug__" : Str)) = false := by decide) (hc : (x == ("__classdict__" : Str)) = false := by decide)
    (hs : swapsWithSole [.Subscript (.Name x px) ix ps] e pos.line X.env = pure false := by rfl) (hw : swappedStores [.Subscript (.Name x px) ix ps] e X.env = pure none := by rfl)
    (ha : ∀ v, assign (.Subscript (.Name x px) ix ps) X.env v = (do
      let ov ← holding [v] (eval (.Name x px) X.env)
      let iv ← holding [v, ov] (eval ix X.env)
      standAt ps
      holding [v, ov, iv] (setItem ov iv v)
      release [v, ov, iv] []) := by intro _; rfl)
    (he : (assignEach [.Subscript (.Name x px) ix ps] X.env).map (·.2) = [assign (.Subscript (.Name x px) ix ps) X.env] := by rfl) : SV1 X W G (.Assign [.Subscript (.Name x px) ix ps] e pos) δ P := fun σ B H S E F =>
  ⟨_, ps_asg pe_cE (pg_sub (pe_slot g i hN hv hd hc) pe_cE set_list ha) hs hw he, h σ B H S _ fun v B1 H1 S1 s1 r1 => by
    obtain ⟨ds0, h0⟩ := h0
    obtain ⟨l, p1, p2, _, _⟩ := S1.mu i _ h0 rfl
    refine ⟨_, p1, hi σ B1 H1 S1 _ fun w B2 H2 S2 s2 r2 => ?_⟩
    cases int_of r2
    obtain ⟨l', q1, q2, ⟨vs, q3, q4⟩, _⟩ := S2.mu i _ h1 rfl
    rw [p1] at q1
    have el : l = l' := by injection q1 with q1; injection q1 with q1; injection q1
    subst el
    refine ⟨l, vs, j, n, rfl, rfl, q3, by rw [q4.length]; exact hj, ?_⟩
    exact F.nx _ _ B2 _ p (S2.write (t := .own (ds.set n d)) h1 rfl p1 rfl ⟨_, upd_same, q4.set (Rep.up r1 s2) n⟩) (s1.trans s2)⟩
/-- for .. in ..: I is what holds behind i turns -/
theorem s_for (g : Good X M N sc fb k) (hi : EI X G tg it δ ds δ1) (I : Nat → List Slot → Prop) (h0 : I 0 δ1)
    (hs : ∀ (i : Nat) d δi, ds[i]? = some d → I i δi → ∃ δt js, AG X G tg d δi δt js ∧ SV X W G body δt (LoopP (I (i + 1)) P)) (hd : ∀ δ', I ds.length δ' → P (.nx δ'))
    (hf : ∀ x, foldedSetIterable it X.env x = pure x := by intro _; rfl) : SV1 X W G (.For tg it body [] pos) δ P := fun σ B H S E F =>
  ⟨_, ps_for g.po g.calm pi_cI pg_cG pss_cB hf, hi σ B H S _ fun J B1 H1 S1 s1 sv => by
    refine ⟨fun i m σ' H' => m = ds.length - i ∧ i ≤ ds.length ∧ ∃ δi B', I i δi ∧ Sat X.K G δi σ' B' H' ∧ Same B1 B', ⟨ds.length, by simp, Nat.zero_le _, δ1, B1, h0, S1, Same.refl _⟩, ?_⟩
    rintro i m σ' H' ⟨rfl, hl, δi, B', inv, S', s'⟩
    obtain ⟨go, stop⟩ := sv i G δi σ' B' H' Ext.rfl_ S' s'
    by_cases hlt : i < ds.length
    · obtain ⟨g1, g2⟩ := go ds[i] (by simp [hlt])
      refine .inr ⟨g1, fun σ2 H2 => ∃ δi B2, I (i + 1) δi ∧ Sat X.K G δi σ2 B2 H2 ∧ Same B1 B2, fun σ2 H2 ⟨δ2, B2, a, b, c⟩ => ⟨ds.length - (i + 1), by omega, rfl, hlt, δ2, B2, a, b, c⟩, fun x H2 y => ?_⟩
      obtain ⟨B2, S2, s2, r2, _⟩ := g2 x H2 y
      obtain ⟨δt, js, ag, svb⟩ := hs i ds[i] δi (by simp [hlt]) inv
      refine ag σ' B2 H2 x S2 r2 _ fun σ3 S3 _ => svb σ3 B2 H2 S3 _ ⟨fun δ4 σ4 B4 H4 p S4 e => ⟨δ4, B4, p, S4, (s'.trans s2).trans e⟩, fun r δ4 σ4 B4 H4 v p S4 e => F.rt r δ4 σ4 B4 H4 v p S4 (((s1.trans s').trans s2).trans e),
        fun δ4 σ4 B4 H4 p S4 e => F.nx δ4 σ4 B4 H4 p S4 (((s1.trans s').trans s2).trans e), fun δ4 σ4 B4 H4 p S4 e => ⟨δ4, B4, p, S4, (s'.trans s2).trans e⟩, fun C ns ds δ4 σ4 B4 H4 d p S4 e => F.ex C ns ds δ4 σ4 B4 H4 d p S4 (((s1.trans s').trans s2).trans e)⟩
    · exact .inl ⟨stop (by omega), F.nx δi σ' B' H' (hd δi (by rw [show ds.length = i from by omega]; exact inv)) S' (s1.trans s')⟩⟩
/-- while ..: I holds at each test, with a measure -/
theorem s_while (g : Good X M N sc fb k) (I : Nat → List Slot → Prop) (m0 : Nat) (h0 : I m0 δ)
    (hs : ∀ m δi, I m δi → ∃ b δt, ET X G c δi b δt ∧ (b = true → SV X W G body δt (LoopP (fun δ' => ∃ m', m' < m ∧ I m' δ') P)) ∧ (b = false → P (.nx δt))) : SV1 X W G (.While c body [] pos) δ P := fun σ B H S E F =>
  ⟨_, ps_while g.po pt_cT pss_cB, by
    refine ⟨fun m σ' H' => ∃ δi B', I m δi ∧ Sat X.K G δi σ' B' H' ∧ Same B B', ⟨m0, δ, B, h0, S, Same.refl _⟩, ?_⟩
    rintro m σ' H' ⟨δi, B', inv, S', s'⟩
    obtain ⟨b, δt, et, h1, h2⟩ := hs m δi inv
    refine et σ' B' H' S' _ fun B2 H2 S2 s2 => ?_
    cases b with
    | true =>
      rw [if_pos rfl]
      refine ⟨fun σ4 H4 => ∃ m', m' < m ∧ ∃ δ4 B4, I m' δ4 ∧ Sat X.K G δ4 σ4 B4 H4 ∧ Same B B4, fun σ4 H4 ⟨m', l, δ4, B4, a, b, c⟩ => ⟨m', l, δ4, B4, a, b, c⟩, ?_⟩
      exact h1 rfl σ' B2 H2 S2 _ ⟨fun δ4 σ4 B4 H4 ⟨m', l, p⟩ S4 e => ⟨m', l, δ4, B4, p, S4, (s'.trans s2).trans e⟩, fun r δ4 σ4 B4 H4 v p S4 e => F.rt r δ4 σ4 B4 H4 v p S4 ((s'.trans s2).trans e),
        fun δ4 σ4 B4 H4 p S4 e => F.nx δ4 σ4 B4 H4 p S4 ((s'.trans s2).trans e), fun δ4 σ4 B4 H4 ⟨m', l, p⟩ S4 e => ⟨m', l, δ4, B4, p, S4, (s'.trans s2).trans e⟩, fun C ns ds δ4 σ4 B4 H4 d p S4 e => F.ex C ns ds δ4 σ4 B4 H4 d p S4 ((s'.trans s2).trans e)⟩
    | false =>
      rw [if_neg Bool.false_ne_true]
      exact F.nx δt σ' B2 H2 (h2 rfl) S2 (s'.trans s2)⟩
end
end DL

namespace DL
open PySem L2

/-! ### what a def promises, over data -/
/-- how a call ends: what it hands back, or an exception of the class at C with its fields; os: what the lent things then are -/
inductive Res where
  | ret (r : Slot) (os : List Slot)
  | exc (C : Addr) (ns : List Str) (ds : List D) (os : List Slot)
abbrev PSpec := List Slot → Res → Prop
structure Start (K : PySem.W.Frag) (B H : Hp) (as : List Slot) (vs : List V) : Prop where
  sb : Same B H
  len : vs.length = as.length
  dat : ∀ (i : Nat) d, as[i]? = some (.dat d) → ∃ v, vs[i]? = some v ∧ Rep K B v d
  mu : ∀ (i : Nat) s, as[i]? = some s → s.mu = true → ∃ l, vs[i]? = some (.ref l) ∧ B l = none ∧ Mu K B H l s
  dis : ∀ (i j : Nat) s t l, i ≠ j → as[i]? = some s → s.mu = true → as[j]? = some t → t.mu = true → vs[i]? = some (.ref l) → vs[j]? = some (.ref l) → False
structure Post (K : PySem.W.Frag) (B H : Hp) (as : List Slot) (vs : List V) (os : List Slot) (B' H' : Hp) : Prop where
  b : Same B B'
  bh : Same B' H'
  fr : ∀ a o, H a = some o → (∀ (i : Nat) s, as[i]? = some s → s.mu = true → vs[i]? ≠ some (.ref a)) → H' a = some o
  nb : ∀ a o, H a = some o → B' a = B a
  mu : ∀ (i : Nat) s, as[i]? = some s → s.mu = true → ∃ t l, os[i]? = some t ∧ t.mu = true ∧ vs[i]? = some (.ref l) ∧ Mu K B' H' l t
def RetR (K : PySem.W.Frag) (B' H H' : Hp) (v : V) : Slot → Prop
  | .un => True
  | .dat d => Rep K B' v d
  | .own ds => ∃ l vs, v = .ref l ∧ H' l = some (.lst vs) ∧ RepL K B' vs ds ∧ B' l = none ∧ H l = none
  | .obj C ns ds => ∃ l dx fs, v = .ref l ∧ H' l = some (.ins C dx fs) ∧ fs.map (·.1) = ns ∧ RepL K B' (fs.map (·.2)) ds ∧ B' l = none ∧ H l = none
def spOf (K : PySem.W.Frag) (S : PSpec) : Sp := fun vs H Q E => ∃ B as res, S as res ∧ Start K B H as vs ∧ match res with
  | .ret r os => ∀ v B' H', Post K B H as vs os B' H' → RetR K B' H H' v r → Q v H'
  | .exc C ns ds os => ∀ d B' H', Post K B H as vs os B' H' → ExcR K B' H' d ns ds → E (.ref C) d H'
/-- the module's name x is a def that keeps S, by at most j calls one in another; CX: which exceptions may leave it -/
structure Fn (M : Md) (CX : CXT) (x : Str) (j : Nat) (S : PSpec) : Prop where
  ex : ∃ (f : Addr) (fd : FuncData) (ps : List Str), FnOk M.P M.w M.K M.mg M.base CX j f fd ps (spOf M.K S) ∧ M.mg x = some (.ref f) ∧ PySem.W.keepIn M.K (.ref f) = true ∧ Binds M.K fd ps []
  px : ∀ X : Cx, X.prog = M.P → X.w = M.w → Passes CX X E0
theorem Fn.mono {M : Md} {CX : CXT} {x : Str} {j j' : Nat} {S : PSpec} (F : Fn M CX x j S) (h : j ≤ j') : Fn M CX x j' S := by
  obtain ⟨f, fd, ps, a, b⟩ := F.ex
  exact ⟨⟨f, fd, ps, a.mono h, b⟩, F.px⟩
theorem Fn.mk0 {M : Md} {x : Str} {j : Nat} {S : PSpec} {f : Addr} {fd : FuncData} {ps : List Str} (a : FnOk M.P M.w M.K M.mg M.base CX0 j f fd ps (spOf M.K S)) (b : M.mg x = some (.ref f)) (c : PySem.W.keepIn M.K (.ref f) = true) (d : Binds M.K fd ps []) : Fn M CX0 x j S := ⟨⟨f, fd, ps, a, b, c, d⟩, fun _ _ _ => pass0⟩
theorem Fn.mkX {M : Md} {x : Str} {j : Nat} {S : PSpec} {f : Addr} {fd : FuncData} {ps : List Str} (a : FnOk M.P M.w M.K M.mg M.base (L2.CX M.P M.w) j f fd ps (spOf M.K S)) (b : M.mg x = some (.ref f)) (c : PySem.W.keepIn M.K (.ref f) = true) (d : Binds M.K fd ps []) : Fn M (L2.CX M.P M.w) x j S := ⟨⟨f, fd, ps, a, b, c, d⟩, fun X h1 h2 => by rw [← h1, ← h2]; exact passL⟩

/-! ### a row of arguments, some of them lent -/
inductive Arg where
  | val (d : D)
  | bor (n : Nat)
def ArgR (K : PySem.W.Frag) (B : Hp) (σ : St) (v : V) : Arg → Prop
  | .val d => Rep K B v d
  | .bor n => σ[n]? = some (some v)
inductive ArgsR (K : PySem.W.Frag) (B : Hp) (σ : St) : List V → List Arg → Prop
  | nil : ArgsR K B σ [] []
  | cons {v : V} {vs : List V} {a : Arg} {as : List Arg} : ArgR K B σ v a → ArgsR K B σ vs as → ArgsR K B σ (v :: vs) (a :: as)
def EL (X : Cx) (G : Ent) (es : List Expr) (δ : List Slot) (as : List Arg) (δ' : List Slot) : Prop :=
  ∀ σ B H, Sat X.K G δ σ B H → ∀ Q : List V → Hp → Prop, (∀ vs B' H', Sat X.K G δ' σ B' H' → Same B B' → ArgsR X.K B' σ vs as → Q vs H') → cA X es σ H Q
theorem ArgsR.of {K : PySem.W.Frag} {B : Hp} {σ : St} : ∀ {ds : List D} {vs : List V}, RepL K B vs ds → ArgsR K B σ vs (ds.map .val)
  | [], _, h => by cases h; exact .nil
  | d :: ds, _, h => by
    cases h with
    | cons a b => exact .cons a (ArgsR.of b)
theorem ArgsR.len {K : PySem.W.Frag} {B : Hp} {σ : St} : ∀ {as : List Arg} {vs : List V}, ArgsR K B σ vs as → vs.length = as.length
  | [], _, h => by cases h; rfl
  | a :: as, _, h => by
    cases h with
    | cons a b => show _ + 1 = _ + 1; rw [ArgsR.len b]
theorem ArgsR.get {K : PySem.W.Frag} {B : Hp} {σ : St} : ∀ {as : List Arg} {vs : List V} {i : Nat} {a : Arg}, ArgsR K B σ vs as → as[i]? = some a → ∃ v, vs[i]? = some v ∧ ArgR K B σ v a
  | [], _, i, a, h, e => by simp at e
  | x :: as, _, 0, a, h, e => by
    cases h with
    | cons p q =>
      have e' := Option.some.inj e
      subst e'
      exact ⟨_, rfl, p⟩
  | x :: as, _, i + 1, a, h, e => by
    cases h with
    | cons p q =>
      obtain ⟨v, h1, h2⟩ := ArgsR.get (i := i) q (by simpa using e)
      exact ⟨v, by simpa using h1, h2⟩
theorem EL.of {X : Cx} {G : Ent} {es : List Expr} {δ δ1 : List Slot} {ds : List D} (h : EA X G es δ ds δ1) : EL X G es δ (ds.map .val) δ1 := fun σ B H S Q q => h σ B H S Q fun vs B' H' S' s r => q vs B' H' S' s (.of r)
/-- the slots that a call sees -/
def seen (δ : List Slot) : Arg → Slot
  | .val d => .dat d
  | .bor n => δ[n]?.getD .un
section
variable {X : Cx} {W : WX} {G : Ent} {M : Md} {N : List Str} {sc : Scope} {fb : Str → Bool} {k j : Nat} {δ δ1 δ2 : List Slot} {pos p : Pos} {d : D} {ds : List D} {e : Expr} {es : List Expr} {x y : Str} {r : Slot} {os : List Slot} {S : PSpec} {as : List Arg} {CX : CXT}
theorem el_nil : EL X G [] δ [] δ := fun σ B H S Q q => ⟨_, pa_nil, q [] B H S (Same.refl _) .nil⟩
theorem ArgsR.up {K : PySem.W.Frag} {B B' : Hp} {σ : St} (e : Same B B') : ∀ {as : List Arg} {vs : List V}, ArgsR K B σ vs as → ArgsR K B' σ vs as
  | [], _, h => by cases h; exact .nil
  | a :: as, _, h => by
    cases h with
    | cons p q =>
      refine .cons ?_ (ArgsR.up e q)
      cases a with
      | val d => exact Rep.up p e
      | bor n => exact p
theorem el_cons (h : EV X G e δ (.dat d) δ1) (hr : EL X G es δ1 as δ2) (hs : starEach (e :: es) X.env = (false, eval e X.env) :: starEach es X.env := by rfl) : EL X G (e :: es) δ (.val d :: as) δ2 := fun σ B H S Q q =>
  ⟨_, pa_cons pe_cE pa_cA hs, h σ B H S _ fun v B1 H1 S1 s1 r1 => hr σ B1 H1 S1 _ fun vs B2 H2 S2 s2 r2 => q _ B2 H2 S2 (s1.trans s2) (.cons (Rep.up r1 s2) r2)⟩
/-- a name whose list or instance is lent to the callee -/
theorem el_bor (g : Good X M N sc fb k) (n : Nat) (hr : EL X G es δ as δ2) {s : Slot} (h0 : δ[n]? = some s := by rfl) (hm : s.mu = true := by rfl) (hN : N[n]? = some x := by rfl) (hv : visB sc x = true := by rfl) (hd : (x == ("__debug__" : Str)) = false := by decide) (hc : (x == ("__classdict__" : Str)) = false := by decide)
    (hs : starEach (.Name x p :: es) X.env = (false, eval (.Name x p) X.env) :: starEach es X.env := by rfl) : EL X G (.Name x p :: es) δ (.bor n :: as) δ2 := fun σ B H S Q q =>
  ⟨_, pa_cons (pe_slot g n hN hv hd hc) pa_cA hs, by
    obtain ⟨l, h1, _⟩ := S.mu n s h0 hm
    exact ⟨_, h1, hr σ B H S _ fun vs B2 H2 S2 s2 r2 => q _ B2 H2 S2 s2 (.cons h1 r2)⟩⟩

/-- what a call leaves -/
theorem sat_post {K : PySem.W.Frag} {σ : St} {B H B' H' : Hp} {vs : List V} (S : Sat K G δ1 σ B H) (ra : ArgsR K B σ vs as) (po : Post K B H (as.map (seen δ1)) vs os B' H')
    (hb : ∀ n, Arg.bor n ∈ as → ∃ s, δ1[n]? = some s ∧ s.mu = true) (hl : δ2.length = δ1.length) (h1 : ∀ n, Arg.bor n ∉ as → δ2[n]? = δ1[n]?) (h2 : ∀ (i n : Nat), as[i]? = some (.bor n) → δ2[n]? = os[i]?) : Sat K G δ2 σ B' H' := by
  -- the lent slots
  have lent : ∀ (i n : Nat), as[i]? = some (.bor n) → ∃ s l, δ1[n]? = some s ∧ s.mu = true ∧ σ[n]? = some (some (.ref l)) ∧ vs[i]? = some (.ref l) ∧ B l = none ∧ Mu K B H l s ∧ (G.H0 l = none ∨ (n, l) ∈ G.bor) := fun i n e => by
    obtain ⟨s, q1, q2⟩ := hb n (List.mem_of_getElem? e)
    obtain ⟨l, p1, p2, p3, p4⟩ := S.mu n s q1 q2
    obtain ⟨v, z1, z2⟩ := ra.get e
    have z3 : σ[n]? = some (some v) := z2
    rw [p1] at z3
    have z4 : V.ref l = v := by injection z3 with z3; injection z3
    exact ⟨s, l, q1, q2, p1, by rw [z1, ← z4], p2, p3, p4⟩
  have seenAt : ∀ (i n : Nat) s, as[i]? = some (.bor n) → δ1[n]? = some s → (as.map (seen δ1))[i]? = some s := fun i n s e q => by
    rw [List.getElem?_map, e]
    show some (δ1[n]?.getD .un) = some s
    rw [q]; rfl
  have muSeen : ∀ (i : Nat) s, (as.map (seen δ1))[i]? = some s → s.mu = true → ∃ n, as[i]? = some (.bor n) ∧ δ1[n]? = some s := fun i s e m => by
    rw [List.getElem?_map] at e
    cases q : as[i]? with
    | none => rw [q] at e; cases e
    | some a =>
      rw [q] at e
      have e' : seen δ1 a = s := Option.some.inj e
      cases a with
      | val d => subst e'; cases m
      | bor n =>
        obtain ⟨s', z1, z2⟩ := hb n (List.mem_of_getElem? q)
        refine ⟨n, rfl, ?_⟩
        have : δ1[n]?.getD .un = s := e'
        rw [z1] at this
        rw [z1]; exact congrArg some this
  -- addresses of slots that are not lent
  have keep : ∀ (n : Nat) s l, δ1[n]? = some s → s.mu = true → σ[n]? = some (some (.ref l)) → Arg.bor n ∉ as → ∀ (i : Nat) t, (as.map (seen δ1))[i]? = some t → t.mu = true → vs[i]? ≠ some (.ref l) := fun n s l q m hl hn i t e mt z => by
    obtain ⟨n', z1, z2⟩ := muSeen i t e mt
    obtain ⟨s', l', y1, y2, y3, y4, _⟩ := lent i n' z1
    rw [z] at y4
    have el : l = l' := by injection y4 with y4; injection y4
    subst el
    by_cases w : n = n'
    · subst w; exact hn (List.mem_of_getElem? z1)
    · exact S.dis n n' s s' l w q m y1 y2 hl y3
  have muOf : ∀ (n : Nat) s, δ2[n]? = some s → s.mu = true → ∃ s1 l, δ1[n]? = some s1 ∧ s1.mu = true ∧ σ[n]? = some (some (.ref l)) ∧ B l = none ∧ Mu K B' H' l s ∧ (G.H0 l = none ∨ (n, l) ∈ G.bor) := fun n s e m => by
    by_cases w : Arg.bor n ∈ as
    · obtain ⟨i, hi⟩ := List.mem_iff_getElem?.mp w
      obtain ⟨s1, l, y1, y2, y3, y4, y5, y6, y7⟩ := lent i n hi
      obtain ⟨t, l', z1, z2, z3, z4⟩ := po.mu i s1 (seenAt i n s1 hi y1) y2
      rw [y4] at z3
      have el : l = l' := by injection z3 with z3; injection z3
      subst el
      rw [h2 i n hi, z1] at e
      have e' := Option.some.inj e
      subst e'
      exact ⟨s1, l, y1, y2, y3, y5, z4, y7⟩
    · rw [h1 n w] at e
      obtain ⟨l, y1, y2, y3, y4⟩ := S.mu n s e m
      refine ⟨s, l, e, m, y1, y2, Mu.up y3 po.b fun o ho => po.fr l o ho (keep n s l e m y1 w), y4⟩
  refine ⟨po.bh, S.b0.trans po.b, fun a o e h => ?_, fun a o e => ?_, S.len.trans hl.symm, fun n d e => ?_, fun n s e m => ?_, fun n n2 s t l ne e m e2 m2 q q2 => ?_, fun q hq => ?_⟩
  · refine po.fr a o (S.fr a o e h) fun i s z m w => ?_
    obtain ⟨n, z1, z2⟩ := muSeen i s z m
    obtain ⟨s', l', y1, y2, y3, y4, y5, y6, y7⟩ := lent i n z1
    rw [w] at y4
    have el : a = l' := by injection y4 with y4; injection y4
    subst el
    rcases y7 with y7 | y7
    · rw [y7] at e; cases e
    · exact h (List.mem_map.mpr ⟨_, y7, rfl⟩)
  · obtain ⟨o', q⟩ := S.alive e
    rw [po.nb a o' q]; exact S.nb a o e
  · by_cases w : Arg.bor n ∈ as
    · obtain ⟨i, hi⟩ := List.mem_iff_getElem?.mp w
      obtain ⟨s1, l, y1, y2, _⟩ := lent i n hi
      obtain ⟨t, l', z1, z2, _⟩ := po.mu i s1 (seenAt i n s1 hi y1) y2
      rw [h2 i n hi, z1] at e
      cases e; cases z2
    · rw [h1 n w] at e
      obtain ⟨v, q, r⟩ := S.dat n d e
      exact ⟨v, q, r.up po.b⟩
  · obtain ⟨s1, l, y1, y2, y3, y4, y5, y6⟩ := muOf n s e m
    refine ⟨l, y3, ?_, y5, y6⟩
    obtain ⟨_, _, _, y7, _⟩ := S.mu n s1 y1 y2
    obtain ⟨l0, p1, _, p3, _⟩ := S.mu n s1 y1 y2
    rw [y3] at p1
    have el : l = l0 := by injection p1 with p1; injection p1 with p1; injection p1
    subst el
    obtain ⟨o, po'⟩ := Mu.ex p3 y2
    rw [po.nb l o po']; exact y4
  · obtain ⟨s1, l1, y1, y2, y3, _⟩ := muOf n s e m
    obtain ⟨s2, l2, z1, z2, z3, _⟩ := muOf n2 t e2 m2
    exact S.dis n n2 s1 s2 l ne y1 y2 z1 z2 q q2
  · obtain ⟨p1, s, p2, p3⟩ := S.bor q hq
    refine ⟨p1, ?_⟩
    by_cases w : Arg.bor q.1 ∈ as
    · obtain ⟨i, hi⟩ := List.mem_iff_getElem?.mp w
      obtain ⟨s1, l, y1, y2, _⟩ := lent i q.1 hi
      obtain ⟨t, l', z1, z2, _⟩ := po.mu i s1 (seenAt i q.1 s1 hi y1) y2
      exact ⟨t, by rw [h2 i q.1 hi]; exact z1, z2⟩
    · exact ⟨s, by rw [h1 q.1 w]; exact p2, p3⟩
theorem start_of {K : PySem.W.Frag} {σ : St} {B H : Hp} {vs : List V} (S : Sat K G δ1 σ B H) (ra : ArgsR K B σ vs as) (hb : ∀ n, Arg.bor n ∈ as → ∃ s, δ1[n]? = some s ∧ s.mu = true)
    (nd : ∀ (i j n : Nat), as[i]? = some (.bor n) → as[j]? = some (.bor n) → i = j) : Start K B H (as.map (seen δ1)) vs := by
  have at_ : ∀ (i : Nat) s, (as.map (seen δ1))[i]? = some s → ∃ a, as[i]? = some a ∧ seen δ1 a = s := fun i s e => by
    rw [List.getElem?_map] at e
    cases q : as[i]? with
    | none => rw [q] at e; cases e
    | some a => rw [q] at e; exact ⟨a, rfl, Option.some.inj e⟩
  have mu_ : ∀ (i : Nat) s, (as.map (seen δ1))[i]? = some s → s.mu = true → ∃ n l, as[i]? = some (.bor n) ∧ δ1[n]? = some s ∧ σ[n]? = some (some (.ref l)) ∧ vs[i]? = some (.ref l) ∧ B l = none ∧ Mu K B H l s := fun i s e m => by
    obtain ⟨a, q, z⟩ := at_ i s e
    cases a with
    | val d => subst z; cases m
    | bor n =>
      obtain ⟨s', y1, y2⟩ := hb n (List.mem_of_getElem? q)
      have z' : δ1[n]?.getD .un = s := z
      rw [y1] at z'
      have z'' : s' = s := z'
      subst z''
      obtain ⟨l, p1, p2, p3, _⟩ := S.mu n s' y1 y2
      obtain ⟨v, w1, w2⟩ := ra.get q
      have w3 : σ[n]? = some (some v) := w2
      rw [p1] at w3
      have w4 : V.ref l = v := by injection w3 with w3; injection w3
      exact ⟨n, l, q, y1, p1, by rw [w1, ← w4], p2, p3⟩
  refine ⟨S.hb, by rw [List.length_map]; exact ra.len, fun i d e => ?_, fun i s e m => ?_, fun i j s t l ne e m e2 m2 q q2 => ?_⟩
  · obtain ⟨a, q, z⟩ := at_ i _ e
    cases a with
    | val d' =>
      cases z
      obtain ⟨v, w1, w2⟩ := ra.get q
      exact ⟨v, w1, w2⟩
    | bor n =>
      obtain ⟨s', y1, y2⟩ := hb n (List.mem_of_getElem? q)
      have z' : δ1[n]?.getD .un = .dat d := z
      rw [y1] at z'
      have z'' : s' = .dat d := z'
      subst z''; cases y2
  · obtain ⟨n, l, _, _, _, a, b, c⟩ := mu_ i s e m
    exact ⟨l, a, b, c⟩
  · obtain ⟨n, l1, a1, a2, a3, a4, _⟩ := mu_ i s e m
    obtain ⟨n2, l2, b1, b2, b3, b4, _⟩ := mu_ j t e2 m2
    rw [q] at a4; rw [q2] at b4
    have e1 : l = l1 := by injection a4 with a4; injection a4
    have e2' : l = l2 := by injection b4 with b4; injection b4
    subst e1; subst e2'
    by_cases w : n = n2
    · subst w; exact ne (nd i j n a1 b1)
    · exact S.dis n n2 s t l w a2 m b2 m2 a3 b3
theorem ret_of {K : PySem.W.Frag} {σ : St} {B H B' H' : Hp} {v : V} (S : Sat K G δ1 σ B H) (S2 : Sat K G δ2 σ B' H') (hm : ∀ (n : Nat) s, δ2[n]? = some s → s.mu = true → ∃ s1, δ1[n]? = some s1 ∧ s1.mu = true) (r1 : RetR K B' H H' v r) : ResR K G δ2 σ B' H' v r := by
  have fr : ∀ l, H l = none → B' l = none → Fresh G δ2 σ B' l := fun l h b => ⟨b, S.h0 h, fun n s e m z => by
    obtain ⟨s1, q1, q2⟩ := hm n s e m
    exact (S.fresh h).ap n s1 q1 q2 z⟩
  cases r with
  | un => trivial
  | dat d => exact r1
  | own ds =>
    obtain ⟨l, vs, a, b, c, d, e⟩ := r1
    exact ⟨l, vs, a, b, c, fr l e d⟩
  | obj C ns ds =>
    obtain ⟨l, dx, fs, a, b, c, d, e, f⟩ := r1
    exact ⟨l, dx, fs, a, b, c, d, fr l f e⟩
/-- f(e, ..), the arguments data, some of them lent -/
theorem ev_callL (g : Good X M N sc fb k) (c : Fn M CX x j S) (hj : j ≤ k) (ha : EL X G (e :: es) δ as δ1) (hs : S (as.map (seen δ1)) (.ret r os))
    (hb : ∀ n, Arg.bor n ∈ as → ∃ s, δ1[n]? = some s ∧ s.mu = true) (nd : ∀ (i j n : Nat), as[i]? = some (.bor n) → as[j]? = some (.bor n) → i = j)
    (hl : δ2.length = δ1.length) (h1 : ∀ n, Arg.bor n ∉ as → δ2[n]? = δ1[n]?) (h2 : ∀ (i n : Nat), as[i]? = some (.bor n) → δ2[n]? = os[i]?)
    (hg : sc.names.lookup x = some .globalImplicit := by rfl) (hdb : (x == ("__debug__" : Str)) = false := by decide)
    (he : starEach (e :: es) X.env = (false, eval e X.env) :: starEach es X.env := by rfl) (hpl : (backTo pos (starEach es X.env)).any (·.1) = false := by rfl) : EV X G (.Call (.Name x p) (e :: es) [] pos) δ r δ2 := fun σ B H S0 Q q => by
  obtain ⟨f, fd, ps, F, m1, m2, m3⟩ := c.ex
  have F' : FnOk X.prog X.w X.K X.mg X.base CX j f fd ps (spOf X.K S) := by rw [g.P, g.w, g.K, g.mg, g.base]; exact F
  refine ⟨_, pe_call (E := E0) F' (g.room.mono hj) (gl_of g hg) (mn_of g m1) (by rw [g.K]; exact m2) (by rw [g.K]; exact m3) .nil (c.px X g.P g.w) pa_cA hdb he hpl, ha σ B H S0 _ fun vs B1 H1 S1 s1 r1 => ?_⟩
  show spOf X.K S (vs ++ []) H1 Q E0
  rw [List.append_nil]
  refine ⟨B1, _, _, hs, start_of S1 r1 hb nd, fun v B' H' po rr => ?_⟩
  have S2 := sat_post S1 r1 po hb hl h1 h2
  refine q v B' H' S2 (s1.trans po.b) (ret_of S1 S2 (fun n s e m => ?_) rr)
  by_cases w : Arg.bor n ∈ as
  · exact hb n w
  · rw [h1 n w] at e; exact ⟨s, e, m⟩
/-- f(e, ..), the arguments data -/
theorem ev_call (g : Good X M N sc fb k) (c : Fn M CX x j S) (hj : j ≤ k) (ha : EA X G (e :: es) δ ds δ1) (hs : S (ds.map .dat) (.ret r os))
    (hg : sc.names.lookup x = some .globalImplicit := by rfl) (hdb : (x == ("__debug__" : Str)) = false := by decide)
    (he : starEach (e :: es) X.env = (false, eval e X.env) :: starEach es X.env := by rfl) (hpl : (backTo pos (starEach es X.env)).any (·.1) = false := by rfl) : EV X G (.Call (.Name x p) (e :: es) [] pos) δ r δ1 := by
  have nb : ∀ n, Arg.bor n ∉ ds.map Arg.val := fun n h => by
    obtain ⟨d, _, e⟩ := List.mem_map.mp h
    cases e
  have ng : ∀ (i n : Nat), (ds.map Arg.val)[i]? ≠ some (.bor n) := fun i n h => nb n (List.mem_of_getElem? h)
  refine ev_callL (os := os) g c hj (EL.of ha) ?_ (fun n h => absurd h (nb n)) (fun i j n h => absurd h (ng i n)) rfl (fun _ _ => rfl) (fun i n h => absurd h (ng i n)) hg hdb he hpl
  rw [List.map_map]
  exact hs
end

/-! ### a def's body keeps its promise -/
def muIdx : List Slot → Nat → List Nat
  | [], _ => []
  | s :: as, n => (if s.mu = true then [n] else []) ++ muIdx as (n + 1)
def bor1 (s : Slot) (n : Nat) : V → List (Nat × Addr)
  | .ref l => if s.mu = true then [(n, l)] else []
  | _ => []
theorem mem_bor1 {s : Slot} {n m : Nat} {v : V} {l : Addr} : (m, l) ∈ bor1 s n v ↔ m = n ∧ s.mu = true ∧ v = .ref l := by
  cases v <;> simp only [bor1, List.not_mem_nil, reduceCtorEq, and_false]
  split
  · rename_i h
    simp only [List.mem_singleton, Prod.mk.injEq, h, true_and, V.ref.injEq]
    exact ⟨fun ⟨a, b⟩ => ⟨a, b.symm⟩, fun ⟨a, b⟩ => ⟨a, b.symm⟩⟩
  · rename_i h
    simp [h]
def borOf : List Slot → List V → Nat → List (Nat × Addr)
  | s :: as, v :: vs, n => bor1 s n v ++ borOf as vs (n + 1)
  | _, _, _ => []
theorem mem_borOf : ∀ {as : List Slot} {vs : List V} {n m : Nat} {l : Addr}, (m, l) ∈ borOf as vs n ↔ ∃ i s, m = n + i ∧ as[i]? = some s ∧ s.mu = true ∧ vs[i]? = some (.ref l)
  | [], vs, n, m, l => by
    unfold borOf
    constructor
    · intro h; simp at h
    · rintro ⟨i, s, _, h, _⟩; simp at h
  | _ :: _, [], n, m, l => by
    unfold borOf
    constructor
    · intro h; simp at h
    · rintro ⟨i, s, _, _, _, h⟩; simp at h
  | s :: as, v :: vs, n, m, l => by
    have ih := @mem_borOf as vs (n + 1) m l
    have sh : (∃ i t, m = n + i ∧ (s :: as)[i]? = some t ∧ t.mu = true ∧ (v :: vs)[i]? = some (.ref l)) ↔ (m = n ∧ s.mu = true ∧ v = .ref l) ∨ ∃ i t, m = n + 1 + i ∧ as[i]? = some t ∧ t.mu = true ∧ vs[i]? = some (.ref l) := by
      constructor
      · rintro ⟨i, t, h1, h2, h3, h4⟩
        cases i with
        | zero =>
          simp at h2 h4
          subst h2
          exact .inl ⟨h1, h3, h4⟩
        | succ i =>
          simp at h2 h4
          exact .inr ⟨i, t, by omega, h2, h3, h4⟩
      · rintro (⟨h1, h2, h3⟩ | ⟨i, t, h1, h2, h3, h4⟩)
        · exact ⟨0, s, by omega, rfl, h2, by rw [h3]; rfl⟩
        · exact ⟨i + 1, t, by omega, by simpa using h2, h3, by simpa using h4⟩
    rw [sh, ← ih]
    show (m, l) ∈ bor1 s n v ++ borOf as vs (n + 1) ↔ _
    rw [List.mem_append, mem_bor1]
theorem mem_muIdx : ∀ {as : List Slot} {n m : Nat}, m ∈ muIdx as n ↔ ∃ i s, m = n + i ∧ as[i]? = some s ∧ s.mu = true
  | [], n, m => by
    unfold muIdx
    constructor
    · intro h; simp at h
    · rintro ⟨i, s, _, h, _⟩; simp at h
  | s :: as, n, m => by
    have ih := @mem_muIdx as (n + 1) m
    have sh : (∃ i t, m = n + i ∧ (s :: as)[i]? = some t ∧ t.mu = true) ↔ (m = n ∧ s.mu = true) ∨ ∃ i t, m = n + 1 + i ∧ as[i]? = some t ∧ t.mu = true := by
      constructor
      · rintro ⟨i, t, h1, h2, h3⟩
        cases i with
        | zero =>
          simp at h2
          subst h2
          exact .inl ⟨h1, h3⟩
        | succ i =>
          simp at h2
          exact .inr ⟨i, t, by omega, h2, h3⟩
      · rintro (⟨h1, h2⟩ | ⟨i, t, h1, h2, h3⟩)
        · exact ⟨0, s, by omega, rfl, h2⟩
        · exact ⟨i + 1, t, by omega, by simpa using h2, h3⟩
    rw [sh, ← ih]
    show m ∈ (if s.mu = true then [n] else []) ++ muIdx as (n + 1) ↔ _
    cases hs : s.mu with
    | false => simp
    | true => simp
/-- the slots at the entry -/
def slots (N : List Str) (as : List Slot) : List Slot := as ++ List.replicate (N.length - as.length) .un
/-- the ends that res lets -/
def Ends0 (as : List Slot) (res : Res) : Out → Prop
  | .nx δ => match res with
    | .ret r os => r = .dat .non ∧ ∀ i ∈ muIdx as 0, os[i]? = δ[i]?
    | _ => False
  | .rt r δ => match res with
    | .ret r' os => r' = r ∧ ∀ i ∈ muIdx as 0, os[i]? = δ[i]?
    | _ => False
  | .ex C ns ds δ => match res with
    | .exc C' ns' ds' os => (C' = C ∧ ns' = ns ∧ ds' = ds) ∧ ∀ i ∈ muIdx as 0, os[i]? = δ[i]?
    | _ => False
  | _ => False
theorem sat_start {K : PySem.W.Frag} {B H : Hp} {as : List Slot} {vs : List V} {N : List Str} (S : Start K B H as vs) (hn : as.length ≤ N.length) : Sat K ⟨H, B, borOf as vs 0⟩ (slots N as) (start N vs) B H := by
  have lv := S.len
  have sl : ∀ (i : Nat) s, (slots N as)[i]? = some s → as[i]? = some s ∨ s = .un := fun i s h => by
    unfold slots at h
    by_cases hi : i < as.length
    · rw [List.getElem?_append_left hi] at h; exact .inl h
    · rw [List.getElem?_append_right (by omega), List.getElem?_replicate] at h
      split at h
      · exact .inr (Option.some.inj h).symm
      · cases h
  have st : ∀ (i : Nat) v, vs[i]? = some v → (start N vs)[i]? = some (some v) := fun i v h => by
    have hi := (List.getElem?_eq_some_iff.mp h).1
    unfold L2.start
    rw [List.getElem?_append_left (by rw [List.length_map]; exact hi), List.getElem?_map, h]; rfl
  have sm : ∀ (i : Nat) s, (slots N as)[i]? = some s → s.mu = true → as[i]? = some s := fun i s h m => by
    rcases sl i s h with e | e
    · exact e
    · subst e; cases m
  have inj : ∀ (i : Nat) l s, as[i]? = some s → s.mu = true → (start N vs)[i]? = some (some (.ref l)) → vs[i]? = some (.ref l) := fun i l s e m h => by
    obtain ⟨l', q, _⟩ := S.mu i s e m
    rw [st i _ q] at h
    have el : l' = l := by injection h with h; injection h with h; injection h
    rw [q, el]
  refine ⟨S.sb, Same.refl _, fun _ _ e _ => e, fun _ _ _ => rfl, ?_, fun i d h => ?_, fun i s h m => ?_, fun i j s t l ne h m h2 m2 q q2 => ?_, fun p hp => ?_⟩
  · unfold L2.start slots
    rw [List.length_append, List.length_map, List.length_replicate, List.length_append, List.length_replicate, lv]
  · rcases sl i _ h with e | e
    · obtain ⟨v, q, r⟩ := S.dat i d e
      exact ⟨v, st i v q, r⟩
    · cases e
  · have e := sm i s h m
    obtain ⟨l, q, b, r⟩ := S.mu i s e m
    exact ⟨l, st i _ q, b, r, .inr (mem_borOf.mpr ⟨i, s, by omega, e, m, q⟩)⟩
  · have e := sm i s h m
    have e2 := sm j t h2 m2
    exact S.dis i j s t l ne e m e2 m2 (inj i l s e m q) (inj j l t e2 m2 q2)
  · obtain ⟨i, s, h1, h2, h3, h4⟩ := mem_borOf.mp (show (p.1, p.2) ∈ borOf as vs 0 from hp)
    have h1' : p.1 = i := by omega
    rw [h1']
    refine ⟨st i _ h4, s, ?_, h3⟩
    unfold slots
    rw [List.getElem?_append_left (List.getElem?_eq_some_iff.mp h2).1]
    exact h2
theorem post_of {K : PySem.W.Frag} {B H B' H' : Hp} {as os δ : List Slot} {vs : List V} {σ : St} (S : Start K B H as vs) (S' : Sat K ⟨H, B, borOf as vs 0⟩ δ σ B' H') (ho : ∀ i ∈ muIdx as 0, os[i]? = δ[i]?) : Post K B H as vs os B' H' := by
  refine ⟨S'.b0, S'.hb, fun a o e h => S'.fr a o e fun m => ?_, fun a o e => S'.nb a o e, fun i s e m => ?_⟩
  · obtain ⟨p, hp, rfl⟩ := List.mem_map.mp m
    obtain ⟨i, s, h1, h2, h3, h4⟩ := mem_borOf.mp (show (p.1, p.2) ∈ borOf as vs 0 from hp)
    exact h i s h2 h3 h4
  · obtain ⟨l, q, _, _⟩ := S.mu i s e m
    have hb : (i, l) ∈ borOf as vs 0 := mem_borOf.mpr ⟨i, s, by omega, e, m, q⟩
    obtain ⟨p1, t, p2, p3⟩ := S'.bor (i, l) hb
    obtain ⟨l', q1, q2, q3, _⟩ := S'.mu i t p2 p3
    have p1' : σ[i]? = some (some (.ref l)) := p1
    rw [p1'] at q1
    have el : l = l' := by injection q1 with q1; injection q1 with q1; injection q1
    subst el
    exact ⟨t, l, by rw [ho i (mem_muIdx.mpr ⟨i, s, by omega, e, m⟩)]; exact p2, p3, q, q3⟩
theorem retR_of {K : PySem.W.Frag} {B H B' H' : Hp} {δ : List Slot} {bor : List (Nat × Addr)} {σ : St} {v : V} {r : Slot} (h : ResR K ⟨H, B, bor⟩ δ σ B' H' v r) : RetR K B' H H' v r := by
  cases r with
  | un => trivial
  | dat d => exact h
  | own ds =>
    obtain ⟨l, vs, a, b, c, F⟩ := h
    exact ⟨l, vs, a, b, c, F.nb, F.n0⟩
  | obj C ns ds =>
    obtain ⟨l, dx, fs, a, b, c, d, F⟩ := h
    exact ⟨l, dx, fs, a, b, c, d, F.nb, F.n0⟩
theorem bor_idx {as : List Slot} {vs : List V} {K : PySem.W.Frag} {B H : Hp} (S : Start K B H as vs) {i : Nat} (h : i ∈ (borOf as vs 0).map (·.1)) : i ∈ muIdx as 0 := by
  obtain ⟨p, hp, rfl⟩ := List.mem_map.mp h
  obtain ⟨i, s, h1, h2, h3, _⟩ := mem_borOf.mp (show (p.1, p.2) ∈ borOf as vs 0 from hp)
  exact mem_muIdx.mpr ⟨i, s, h1, h2, h3⟩
section
variable {M : Md} {q x : Str} {st : Stmt} {f : Addr} {fd : FuncData} {N ps : List Str} {j : Nat} {S : PSpec}
/-- THE RULE for a def that raises nothing -/
theorem fn_ok (F : Fun M.K x q st f fd) (Sc : FnScope N ps (defScope st)) (hl : ∀ as res, S as res → as.length = ps.length) (hx : ∀ as C ns ds os, ¬ S as (.exc C ns ds os))
    (h : ∀ (X : Cx) (W : WX) (G : Ent) (as : List Slot) (res : Res), Good X M N (defScope st) (fun _ => true) j → S as res → (∀ i ∈ G.bor.map (·.1), i ∈ muIdx as 0) → SV X W G (defBody st) (slots N as) (Ends0 as res)) :
    FnOk M.P M.w M.K M.mg M.base CX0 (j + 1) f fd ps (spOf M.K S) := by
  have hN : ps.length ≤ N.length := by have := congrArg List.length Sc.pre; rw [List.length_take] at this; omega
  refine F.ok Sc (fun vs H Q E h => ?_) (fun cdv A outer s H vs Q E hr hsp => ?_)
  · obtain ⟨B, as, res, h1, h2, _⟩ := h
    rw [h2.len]; exact hl as res h1
  · obtain ⟨B, as, res, h1, h2, h3⟩ := hsp
    cases res with
    | exc C ns ds os => exact absurd h1 (hx as C ns ds os)
    | ret r os =>
      have S0 := sat_start (N := N) h2 (by rw [hl _ _ h1]; exact hN)
      refine h _ (fun _ _ _ _ => True) ⟨H, B, borOf as vs 0⟩ as (.ret r os) ⟨rfl, rfl, rfl, rfl, rfl, rfl, rfl, rfl, Sc.nd, fun _ _ => rfl, hr, .never⟩ h1 (fun i hi => bor_idx h2 hi) _ B H S0 _ ⟨fun δ σ B' H' p S' e => ?_, fun r' δ σ B' H' v p S' e rr => ?_, fun δ σ B' H' p S' e => p.elim, fun δ σ B' H' p S' e => p.elim, fun _ _ _ _ _ _ _ _ _ _ _ _ => trivial⟩
      · obtain ⟨p1, p2⟩ := p
        subst p1
        exact h3 .non B' H' (post_of h2 S' p2) .non
      · obtain ⟨p1, p2⟩ := p
        subst p1
        exact h3 v B' H' (post_of h2 S' p2) (retR_of rr)
/-- .. that may raise -/
theorem fn_okX (F : Fun M.K x q st f fd) (Sc : FnScope N ps (defScope st)) (hl : ∀ as res, S as res → as.length = ps.length)
    (h : ∀ (X : Cx) (W : WX) (G : Ent) (as : List Slot) (res : Res), Good X M N (defScope st) (fun _ => true) j → Takes X W → S as res → (∀ i ∈ G.bor.map (·.1), i ∈ muIdx as 0) → SV X W G (defBody st) (slots N as) (Ends0 as res)) :
    FnOk M.P M.w M.K M.mg M.base (L2.CX M.P M.w) (j + 1) f fd ps (spOf M.K S) := by
  have hN : ps.length ≤ N.length := by have := congrArg List.length Sc.pre; rw [List.length_take] at this; omega
  refine F.okX Sc (fun vs H Q E h => ?_) (fun cdv A outer s H vs Q E hr hsp => ?_)
  · obtain ⟨B, as, res, h1, h2, _⟩ := h
    rw [h2.len]; exact hl as res h1
  · obtain ⟨B, as, res, h1, h2, h3⟩ := hsp
    have S0 := sat_start (N := N) h2 (by rw [hl _ _ h1]; exact hN)
    refine h _ (fun cls d _ H => E cls d H) ⟨H, B, borOf as vs 0⟩ as res ⟨rfl, rfl, rfl, rfl, rfl, rfl, rfl, rfl, Sc.nd, fun _ _ => rfl, hr, passes_of rfl⟩ (takes_of rfl rfl rfl rfl) h1 (fun i hi => bor_idx h2 hi) _ B H S0 _ ⟨fun δ σ B' H' p S' e => ?_, fun r' δ σ B' H' v p S' e rr => ?_, fun δ σ B' H' p S' e => p.elim, fun δ σ B' H' p S' e => p.elim, fun C ns ds δ σ B' H' d p S' e rr => ?_⟩
    · cases res with
      | exc C ns ds os => exact p.elim
      | ret r os =>
        obtain ⟨p1, p2⟩ := p
        subst p1
        exact h3 .non B' H' (post_of h2 S' p2) .non
    · cases res with
      | exc C ns ds os => exact p.elim
      | ret r os =>
        obtain ⟨p1, p2⟩ := p
        subst p1
        exact h3 v B' H' (post_of h2 S' p2) (retR_of rr)
    · cases res with
      | ret r os => exact p.elim
      | exc C' ns' ds' os =>
        obtain ⟨⟨p1, p2, p3⟩, p4⟩ := p
        subst p1 p2 p3
        exact h3 d B' H' (post_of h2 S' p4) rr
end
end DL

namespace DL
open PySem L2

/-! ### list comprehensions -/
theorem Good.blk {X : Cx} {M : Md} {N : List Str} {sc : Scope} {fb : Str → Bool} {k : Nat} (g : Good X M N sc fb k) (scope : Scope) (s : Shared) (H : Hp) (C : Addr) (cl : List (Str × Addr)) (fp : List Addr) :
    Good (X.blk s H scope (compEnvC scope cl C X.env) fp) M N (relS scope sc) (fun x => scope.names.lookup x == some .cell) k :=
  ⟨g.P, g.w, g.K, g.mg, g.base, g.nm, by show relS scope X.env.scope = _; rw [g.sc], g.calm, g.nd, fun _ h => h, g.room, .never⟩
def wipeS (δ : List Slot) : List Nat → List Slot
  | [] => δ
  | v :: vs => (wipeS δ vs).set v .un
theorem wipeS_len (δ : List Slot) : ∀ vs : List Nat, (wipeS δ vs).length = δ.length
  | [] => rfl
  | v :: vs => by show ((wipeS δ vs).set v .un).length = _; rw [List.length_set, wipeS_len δ vs]
theorem wipeS_out {δ : List Slot} {i : Nat} : ∀ {vs : List Nat}, i ∉ vs → (wipeS δ vs)[i]? = δ[i]?
  | [], _ => rfl
  | v :: vs, h => by
    rw [List.mem_cons, not_or] at h
    show ((wipeS δ vs).set v .un)[i]? = _
    rw [List.getElem?_set_ne (fun e => h.1 e.symm), wipeS_out h.2]
theorem wipeS_in {δ : List Slot} {i : Nat} {s : Slot} : ∀ {vs : List Nat}, i ∈ vs → (wipeS δ vs)[i]? = some s → s = .un
  | [], h, _ => by cases h
  | v :: vs, h, e => by
    have e' : ((wipeS δ vs).set v .un)[i]? = some s := e
    by_cases q : v = i
    · subst q
      by_cases hv : v < (wipeS δ vs).length
      · rw [List.getElem?_set_self hv] at e'; exact (Option.some.inj e').symm
      · rw [List.getElem?_eq_none (by rw [List.length_set]; omega)] at e'; cases e'
    · rw [List.getElem?_set_ne q] at e'
      rcases List.mem_cons.mp h with w | w
      · exact absurd w.symm q
      · exact wipeS_in w e'
theorem wipe_out' {σ : St} {i : Nat} : ∀ {vs : List Nat}, i ∉ vs → (wipe σ vs)[i]? = σ[i]?
  | [], _ => rfl
  | v :: vs, h => by
    rw [List.mem_cons, not_or] at h
    show ((wipe σ vs).set v none)[i]? = _
    rw [List.getElem?_set_ne (fun e => h.1 e.symm), wipe_out' h.2]
theorem wipe_in' {σ : St} {i : Nat} : ∀ {vs : List Nat}, i ∈ vs → i < σ.length → (wipe σ vs)[i]? = some none
  | [], h, _ => by cases h
  | v :: vs, h, hi => by
    show ((wipe σ vs).set v none)[i]? = _
    by_cases q : v = i
    · subst q
      rw [List.getElem?_set_self (by rw [wipe_length]; exact hi)]
    · rw [List.getElem?_set_ne q]
      rcases List.mem_cons.mp h with w | w
      · exact absurd w.symm q
      · exact wipe_in' w hi
theorem wipe_eq {σ σ2 : St} {vs js : List Nat} (o : Only js (wipe σ vs) σ2) (hj : ∀ j ∈ js, j ∈ vs) : wipe σ2 vs = wipe σ vs := by
  have hl : σ2.length = σ.length := by rw [o.1, wipe_length]
  refine List.ext_getElem? fun i => ?_
  by_cases h : i ∈ vs
  · by_cases hi : i < σ.length
    · rw [wipe_in' h hi, wipe_in' h (by omega)]
    · rw [List.getElem?_eq_none (by rw [wipe_length]; omega), List.getElem?_eq_none (by rw [wipe_length]; omega)]
  · rw [wipe_out' h, o.2 i fun q => h (hj i q)]
section
variable {K : PySem.W.Frag} {G : Ent} {δ δ' : List Slot} {σ : St} {B H : Hp} {vs : List Nat} {L : Addr} {o o2 : HO}
theorem Sat.wipe (S : Sat K G δ σ B H) (hb : ∀ v ∈ vs, v ∉ G.bor.map (·.1)) : Sat K G (wipeS δ vs) (L2.wipe σ vs) B H := by
  have at_ : ∀ (i : Nat) s, (wipeS δ vs)[i]? = some s → s ≠ .un → i ∉ vs ∧ δ[i]? = some s := fun i s e h => by
    by_cases q : i ∈ vs
    · exact absurd (wipeS_in q e) h
    · rw [wipeS_out q] at e; exact ⟨q, e⟩
  have nu : ∀ s : Slot, s.mu = true → s ≠ .un := fun s m h => by subst h; cases m
  refine ⟨S.hb, S.b0, S.fr, S.nb, by rw [wipe_length, wipeS_len]; exact S.len, fun i d e => ?_, fun i s e m => ?_, fun i j s t l ne e m e2 m2 q q2 => ?_, fun p hp => ?_⟩
  · obtain ⟨q, e'⟩ := at_ i _ e (fun h => by cases h)
    obtain ⟨v, a, b⟩ := S.dat i d e'
    exact ⟨v, by rw [wipe_out' q]; exact a, b⟩
  · obtain ⟨q, e'⟩ := at_ i _ e (nu s m)
    obtain ⟨l, a, b⟩ := S.mu i s e' m
    exact ⟨l, by rw [wipe_out' q]; exact a, b⟩
  · obtain ⟨n1, e1⟩ := at_ i _ e (nu s m)
    obtain ⟨n2, e2'⟩ := at_ j _ e2 (nu t m2)
    rw [wipe_out' n1] at q; rw [wipe_out' n2] at q2
    exact S.dis i j s t l ne e1 m e2' m2 q q2
  · obtain ⟨a, s, b, c⟩ := S.bor p hp
    have n : p.1 ∉ vs := fun q => hb p.1 q (List.mem_map.mpr ⟨p, hp, rfl⟩)
    exact ⟨by rw [wipe_out' n]; exact a, s, by rw [wipeS_out n]; exact b, c⟩
theorem Sat.unwipe (S : Sat K G δ (L2.wipe σ vs) B H) (hw : ∀ v ∈ vs, ∀ s, δ[v]? = some s → s = .un) : Sat K G δ σ B H := by
  have nin : ∀ (i : Nat) s, δ[i]? = some s → s ≠ .un → i ∉ vs := fun i s e h q => h (hw i q s e)
  have nu : ∀ s : Slot, s.mu = true → s ≠ .un := fun s m h => by subst h; cases m
  refine ⟨S.hb, S.b0, S.fr, S.nb, by have := S.len; rw [wipe_length] at this; exact this, fun i d e => ?_, fun i s e m => ?_, fun i j s t l ne e m e2 m2 q q2 => ?_, fun p hp => ?_⟩
  · obtain ⟨v, a, b⟩ := S.dat i d e
    exact ⟨v, by rw [wipe_out' (nin i _ e fun h => by cases h)] at a; exact a, b⟩
  · obtain ⟨l, a, b⟩ := S.mu i s e m
    exact ⟨l, by rw [wipe_out' (nin i _ e (nu s m))] at a; exact a, b⟩
  · exact S.dis i j s t l ne e m e2 m2 (by rw [wipe_out' (nin i _ e (nu s m))]; exact q) (by rw [wipe_out' (nin j _ e2 (nu t m2))]; exact q2)
  · obtain ⟨a, s, b, c⟩ := S.bor p hp
    exact ⟨by rw [wipe_out' (nin _ _ b (nu s c))] at a; exact a, s, b, c⟩
/-- the entry with a thing at L besides -/
def Ent.add (G : Ent) (L : Addr) (o : HO) : Ent := ⟨upd G.H0 L o, G.B0, G.bor⟩
theorem ext_add {G : Ent} {L : Addr} {o : HO} (h : G.H0 L = none) : Ext G (G.add L o) := ⟨fun a u e => by show upd G.H0 L o a = some u; rw [upd_ne (ne_of_none e h)]; exact e, rfl⟩
theorem Sat.nobor (S : Sat K G δ σ B H) (h : H L = none) : L ∉ G.bor.map (·.2) := fun m => by
  obtain ⟨p, hp, e⟩ := List.mem_map.mp m
  obtain ⟨a, s, b, c⟩ := S.bor p hp
  obtain ⟨l, q1, _, q3, _⟩ := S.mu _ s b c
  rw [a] at q1
  have el : p.2 = l := by injection q1 with q1; injection q1 with q1; injection q1
  subst el
  obtain ⟨o, po⟩ := Mu.ex q3 c
  rw [e, h] at po; cases po
theorem Sat.open_ (S : Sat K G δ σ B H) (h : H L = none) : Sat K (G.add L o) δ σ B (upd H L o) := by
  have S2 := S.newM (o := o) h
  refine ⟨S2.hb, S2.b0, fun a u e m => ?_, fun a u e => ?_, S2.len, S2.dat, fun i s e m => ?_, S2.dis, S2.bor⟩
  · by_cases z : a = L
    · subst z
      have e' : upd G.H0 a o a = some u := e
      rw [upd_same] at e' ⊢; exact e'
    · have e' : upd G.H0 L o a = some u := e
      rw [upd_ne z] at e'; exact S2.fr a u e' m
  · by_cases z : a = L
    · subst z
      have n1 : B a = none := S.hb.free h
      have n2 : G.B0 a = none := S.b0.free n1
      show B a = G.B0 a
      rw [n1, n2]
    · have e' : upd G.H0 L o a = some u := e
      rw [upd_ne z] at e'; exact S2.nb a u e'
  · obtain ⟨l, a, b, c, d⟩ := S2.mu i s e m
    refine ⟨l, a, b, c, ?_⟩
    rcases d with d | d
    · left
      have z : l ≠ L := fun z => by
        subst z
        exact (S.fresh h).ap i s e m a
      show upd G.H0 L o l = none
      rw [upd_ne z]; exact d
    · exact .inr d
theorem Sat.change (S : Sat K (G.add L o) δ σ B H) (hL : L ∉ G.bor.map (·.2)) (n0 : G.B0 L = none) : Sat K (G.add L o2) δ σ B (upd H L o2) := by
  have nB : B L = none := by rw [S.nb L o (by show upd G.H0 L o L = _; rw [upd_same])]; exact n0
  refine ⟨fun a u e => ?_, S.b0, fun a u e m => ?_, fun a u e => ?_, S.len, S.dat, fun i s e m => ?_, S.dis, S.bor⟩
  · rw [upd_ne (ne_of_none e nB)]; exact S.hb a u e
  · have e' : upd G.H0 L o2 a = some u := e
    by_cases z : a = L
    · subst z; rw [upd_same] at e' ⊢; exact e'
    · rw [upd_ne z] at e' ⊢
      exact S.fr a u (by show upd G.H0 L o a = _; rw [upd_ne z]; exact e') m
  · have e' : upd G.H0 L o2 a = some u := e
    by_cases z : a = L
    · subst z; show B a = G.B0 a; rw [nB, n0]
    · rw [upd_ne z] at e'
      exact S.nb a u (by show upd G.H0 L o a = _; rw [upd_ne z]; exact e')
  · obtain ⟨l, a, b, c, d⟩ := S.mu i s e m
    have z : l ≠ L := fun z => by
      subst z
      rcases d with d | d
      · have d' : upd G.H0 l o l = none := d
        rw [upd_same] at d'; cases d'
      · exact hL (List.mem_map.mpr ⟨_, d, rfl⟩)
    refine ⟨l, a, b, Mu.up c (Same.refl _) (fun u e => by rw [upd_ne z]; exact e), ?_⟩
    rcases d with d | d
    · left
      have d' : upd G.H0 L o l = none := d
      show upd G.H0 L o2 l = none
      rw [upd_ne z] at d' ⊢; exact d'
    · exact .inr d
theorem Sat.close (S : Sat K (G.add L o) δ σ B H) (hL : L ∉ G.bor.map (·.2)) (h0 : G.H0 L = none) (n0 : G.B0 L = none) : Sat K G δ σ B H ∧ Fresh G δ σ B L := by
  have nB : B L = none := by rw [S.nb L o (by show upd G.H0 L o L = _; rw [upd_same])]; exact n0
  have lift : ∀ a u, G.H0 a = some u → (G.add L o).H0 a = some u := fun a u e => by
    have z : a ≠ L := ne_of_none e h0
    show upd G.H0 L o a = _; rw [upd_ne z]; exact e
  refine ⟨⟨S.hb, S.b0, fun a u e m => S.fr a u (lift a u e) m, fun a u e => S.nb a u (lift a u e), S.len, S.dat, fun i s e m => ?_, S.dis, S.bor⟩, nB, h0, fun i s e m z => ?_⟩
  · obtain ⟨l, a, b, c, d⟩ := S.mu i s e m
    refine ⟨l, a, b, c, ?_⟩
    rcases d with d | d
    · left
      cases q : G.H0 l with
      | none => rfl
      | some u => rw [lift l u q] at d; cases d
    · exact .inr d
  · obtain ⟨l, a, b, c, d⟩ := S.mu i s e m
    rw [a] at z
    have el : l = L := by injection z with z; injection z with z; injection z
    subst el
    rcases d with d | d
    · have d' : upd G.H0 l o l = none := d
      rw [upd_same] at d'; cases d'
    · exact hL (List.mem_map.mpr ⟨_, d, rfl⟩)
end
def cQ (X : Cx) (ifs : List Expr) : TT := fun σ H Q => ∃ t, PTs X ifs t ∧ t σ H Q
theorem pts_cQ {X : Cx} {ifs : List Expr} : PTs X ifs (cQ X ifs) := ⟨fun pins s σ H Q I ⟨_, p, h⟩ => p.run pins s σ H Q I h⟩
def EQ (X : Cx) (G : Ent) (ifs : List Expr) (δ : List Slot) (b : Bool) (δ' : List Slot) : Prop :=
  ∀ σ B H, Sat X.K G δ σ B H → ∀ Q : Bool → Hp → Prop, (∀ B' H', Sat X.K G δ' σ B' H' → Same B B' → Q b H') → cQ X ifs σ H Q
theorem eq_nil {X : Cx} {G : Ent} {δ : List Slot} : EQ X G [] δ true δ := fun σ B H S Q q => ⟨_, pts_nil, q B H S (Same.refl _)⟩
theorem eq_one {X : Cx} {G : Ent} {δ δ' : List Slot} {c : Expr} {b : Bool} (h : ET X G c δ b δ') : EQ X G [c] δ b δ' := fun σ B H S Q q => ⟨_, pts_one pt_cT, h σ B H S Q q⟩
section
variable {X : Cx} {W : WX} {G : Ent} {M : Md} {N : List Str} {sc scope : Scope} {fb : Str → Bool} {k : Nat} {δ δ1 δ2 : List Slot} {pos : Pos} {ds out : List D} {tg it elt : Expr} {ifs : List Expr} {own : List (Str × Nat)} {js : List Nat}
/-- a turn of a comprehension: from what holds behind i turns (the list so far, the slots) to the next -/
def Blk (M : Md) (N : List Str) (sc scope : Scope) (k : Nat) (bor : List (Nat × Addr)) (p : Cx → Ent → Prop) : Prop := ∀ (Y : Cx) (G' : Ent), Good Y M N (relS scope sc) (fun x => scope.names.lookup x == some .cell) k → G'.bor = bor → p Y G'
def Step (M : Md) (N : List Str) (sc scope : Scope) (k : Nat) (bor : List (Nat × Addr)) (tg elt : Expr) (ifs : List Expr) (js vs : List Nat) (ds : List D) (I : Nat → List D → List Slot → Prop) : Prop :=
  ∀ (i : Nat) d acc δi, ds[i]? = some d → I i acc δi →
    ∃ δt b δu, Blk M N sc scope k bor (fun Y G' => AG Y G' tg d δi δt js ∧ EQ Y G' ifs δt b δu) ∧ (b = false → I (i + 1) acc (wipeS δu vs)) ∧ (b = true → ∃ y δw, Blk M N sc scope k bor (fun Y G' => EV Y G' elt δu (.dat y) δw) ∧ I (i + 1) (acc ++ [y]) (wipeS δw vs))
def bG (X : Cx) (scope : Scope) (tg : Expr) : TG := fun v σ H Q => ∀ s H' C cl fp, cG (X.blk s H' scope (compEnvC scope cl C X.env) fp) tg v σ H Q
def bQ (X : Cx) (scope : Scope) (ifs : List Expr) : TT := fun σ H Q => ∀ s H' C cl fp, cQ (X.blk s H' scope (compEnvC scope cl C X.env) fp) ifs σ H Q
def bE (X : Cx) (scope : Scope) (e : Expr) : TE := fun σ H Q => ∀ s H' C cl fp, cE (X.blk s H' scope (compEnvC scope cl C X.env) fp) e σ H Q
/-- what the reading of a comprehension asks, from its turns -/
theorem lc_read (g : Good X M N sc fb k) (hv : ∀ v ∈ own.map (·.2), v ∉ G.bor.map (·.1)) (hi : EI X G tg it δ ds δ1) (hjs : ∀ j ∈ js, j ∈ own.map (·.2)) (I : Nat → List D → List Slot → Prop)
    (h0 : I 0 [] (wipeS δ1 (own.map (·.2)))) (hs : Step M N sc scope k G.bor tg elt ifs js (own.map (·.2)) ds I) (hd : ∀ acc δ', I ds.length acc δ' → acc = out ∧ δ' = δ2) (hw : ∀ v ∈ own.map (·.2), ∀ s, δ2[v]? = some s → s = .un) (hn : ds.length ≤ 100000)
    {σ : St} {B H : Hp} (S : Sat X.K G δ σ B H) (Q : VK) (q : ∀ v B' H', Sat X.K G δ2 σ B' H' → Same B B' → ResR X.K G δ2 σ B' H' v (.own out) → Q v H') : tLc (cI X tg it) (bG X scope tg) (bQ X scope ifs) (bE X scope elt) (own.map (·.2)) σ H Q :=
  hi σ B H S _ fun J B1 H1 S1 s1 sv L hL => by
    generalize own.map (·.2) = vs at *
    have nb := S1.nobor hL
    have h0L : G.H0 L = none := S1.h0 hL
    have b0L : G.B0 L = none := S1.b0.free (S1.hb.free hL)
    refine ⟨fun i m H => m = ds.length - i ∧ i ≤ ds.length ∧ ∃ acc ws δi B', I i acc δi ∧ Sat X.K (G.add L (.lst ws)) δi (wipe σ vs) B' H ∧ Same B1 B' ∧ H L = some (.lst ws) ∧ RepL X.K B' ws acc ∧ acc.length ≤ i, ⟨ds.length, by simp, Nat.zero_le _, [], [], _, B1, h0, (S1.open_ hL).wipe hv, Same.refl _, upd_same, .nil, Nat.le_refl _⟩, ?_⟩
    rintro i m H2 ⟨rfl, hl, acc, ws, δi, B2, inv, S2, s2, hL2, r2, ln⟩
    obtain ⟨go, stop⟩ := sv i (G.add L (.lst ws)) δi (wipe σ vs) B2 H2 (ext_add h0L) S2 s2
    by_cases hlt : i < ds.length
    · obtain ⟨g1, g2⟩ := go ds[i] (by simp [hlt])
      refine .inr ⟨g1, fun H' => ∃ acc ws δi B', I (i + 1) acc δi ∧ Sat X.K (G.add L (.lst ws)) δi (wipe σ vs) B' H' ∧ Same B1 B' ∧ H' L = some (.lst ws) ∧ RepL X.K B' ws acc ∧ acc.length ≤ i + 1, fun H' ⟨a, b, c, d, e⟩ => ⟨ds.length - (i + 1), by omega, rfl, hlt, a, b, c, d, e⟩, fun x H3 y => ?_⟩
      obtain ⟨B3, S3, s3, r3, k3⟩ := g2 x H3 y
      obtain ⟨δt, b, δu, hab, hF, hT⟩ := hs i ds[i] acc δi (by simp [hlt]) inv
      intro s H' C cl fp
      refine (hab _ (G.add L (.lst ws)) (g.blk scope s H' C cl fp) rfl).1 (wipe σ vs) B3 H3 x S3 r3 _ fun σ4 S4 o4 => ⟨wipe_eq o4 hjs, ?_⟩
      have we : wipe σ4 vs = wipe σ vs := wipe_eq o4 hjs
      intro s H' C cl fp
      refine (hab _ (G.add L (.lst ws)) (g.blk scope s H' C cl fp) rfl).2 σ4 B3 H3 S4 _ fun B5 H5 S5 s5 => ?_
      cases b with
      | false =>
        rw [if_neg Bool.false_ne_true]
        refine ⟨acc, ws, _, B5, hF rfl, by rw [← we]; exact S5.wipe hv, ((s2.trans s3).trans s5), ?_, r2.up (s3.trans s5), by omega⟩
        exact S5.fr L _ (by show upd G.H0 L _ L = _; rw [upd_same]) nb
      | true =>
        rw [if_pos rfl]
        obtain ⟨y, δw, hev, hI⟩ := hT rfl
        intro s H' C cl fp
        refine hev _ (G.add L (.lst ws)) (g.blk scope s H' C cl fp) rfl σ4 B5 H5 S5 _ fun v B6 H6 S6 s6 r6 => ?_
        have hL6 : H6 L = some (.lst ws) := S6.fr L _ (by show upd G.H0 L _ L = _; rw [upd_same]) nb
        refine ⟨ws, hL6, Nat.lt_of_lt_of_le (show ws.length < 100001 by rw [r2.length]; omega) (by decide : 100001 ≤ sizeLine), acc ++ [y], ws ++ [v], _, B6, hI, ?_, ((s2.trans s3).trans s5).trans s6, upd_same, (r2.up ((s3.trans s5).trans s6)).append (.one r6), by rw [List.length_append, List.length_singleton]; omega⟩
        rw [← we]
        exact (S6.change nb b0L).wipe hv
    · have e : i = ds.length := by omega
      subst e
      obtain ⟨e1, e2⟩ := hd acc δi inv
      subst e1 e2
      obtain ⟨S3, F3⟩ := S2.close nb h0L b0L
      have F4 : Fresh G δi σ B2 L := ⟨F3.nb, F3.n0, fun n s e m z => F3.ap n s e m (by
        have n1 : n ∉ vs := fun w => by
          have := hw n w s e
          subst this; cases m
        rw [wipe_out' n1]; exact z)⟩
      exact .inl ⟨stop (Nat.le_refl _), q _ B2 H2 (S3.unwipe hw) (s1.trans s2) ⟨L, ws, rfl, hL2, r2, F4⟩⟩
theorem ev_lc (g : Good X M N sc fb k) (own : List (Str × Nat)) (hv : ∀ v ∈ own.map (·.2), v ∉ G.bor.map (·.1)) (hi : EI X G tg it δ ds δ1) (hjs : ∀ j ∈ js, j ∈ own.map (·.2)) (I : Nat → List D → List Slot → Prop)
    (h0 : I 0 [] (wipeS δ1 (own.map (·.2)))) (hs : Step M N sc scope k G.bor tg elt ifs js (own.map (·.2)) ds I) (hd : ∀ acc δ', I ds.length acc δ' → acc = out ∧ δ' = δ2) (hw : ∀ v ∈ own.map (·.2), ∀ s, δ2[v]? = some s → s = .un) (hn : ds.length ≤ 100000)
    (ok : blkC N sc scope own = true := by decide +kernel) (hf : ∀ x, foldedSetIterable it X.env x = pure x := by intro _; rfl) : EV X G (.ListComp elt [⟨tg, it, ifs, 0⟩] scope pos) δ (.own out) δ2 := fun σ B H S Q q =>
  ⟨_, pe_lc g.calm (by rw [g.nm]; exact g.nd) pi_cI (blkOk_by (by rw [g.nm, g.sc]; exact ok)) (fun s H C cl fp => (⟨fun pins s1 σ H1 v u Q I r h => (pg_cG (X := X.blk s H scope (compEnvC scope cl C X.env) fp)).run pins s1 σ H1 v u Q I r (h s H C cl fp)⟩ : PG _ tg (bG X scope tg)))
    (fun s H C cl fp => (⟨fun pins s1 σ H1 Q I h => (pts_cQ (X := X.blk s H scope (compEnvC scope cl C X.env) fp)).run pins s1 σ H1 Q I (h s H C cl fp)⟩ : PTs _ ifs (bQ X scope ifs)))
    (fun s H C cl fp => (⟨fun pins s1 σ H1 Q I h => (pe_cE (X := X.blk s H scope (compEnvC scope cl C X.env) fp)).run pins s1 σ H1 Q I (h s H C cl fp)⟩ : PE _ elt (bE X scope elt))) hf,
    lc_read g hv hi hjs I h0 hs hd hw hn S Q q⟩
/-- name = [..], the name a plain local -/
theorem s_asgLc {P : Out → Prop} {x : Str} {px spos : Pos} (g : Good X M N sc fb k) (n : Nat) (own : List (Str × Nat)) (hb : n ∉ G.bor.map (·.1)) (p : P (.nx (δ2.set n (.own out)))) (hv : ∀ v ∈ own.map (·.2), v ∉ G.bor.map (·.1)) (hi : EI X G tg it δ ds δ1) (hjs : ∀ j ∈ js, j ∈ own.map (·.2)) (I : Nat → List D → List Slot → Prop)
    (h0 : I 0 [] (wipeS δ1 (own.map (·.2)))) (hs : Step M N sc scope k G.bor tg elt ifs js (own.map (·.2)) ds I) (hd : ∀ acc δ', I ds.length acc δ' → acc = out ∧ δ' = δ2) (hw : ∀ v ∈ own.map (·.2), ∀ s, δ2[v]? = some s → s = .un) (hn : ds.length ≤ 100000)
    (ok : blkC N sc scope own = true := by decide +kernel) (hN : N[n]? = some x := by rfl) (hk : sc.kind = .function := by rfl) (hl : sc.names.lookup x = some .local := by rfl) (hli : (px.line == pos.line) = true := by rfl) (ha : (scope.names.any fun (m, k) => m == x && (k == .local || k == .cell)) = false := by decide +kernel) (hsl : spos.line = pos.line := by rfl)
    (hf : ∀ x, foldedSetIterable it X.env x = pure x := by intro _; rfl) : SV1 X W G (.Assign [.Name x px] (.ListComp elt [⟨tg, it, ifs, 0⟩] scope pos) spos) δ P := fun σ B H S E F =>
  ⟨_, ps_setLc (i := n) g.calm (by rw [g.nm]; exact g.nd) (by rw [g.nm]; exact hN) (by rw [g.sc]; exact hl) (by rw [hsl]; exact sw_true (by rw [g.sc]; exact hk) (by rw [g.sc]; exact hl) hli ha) pi_cI (blkOk_by (by rw [g.nm, g.sc]; exact ok)) (fun s H C cl fp => (⟨fun pins s1 σ H1 v u Q I r h => (pg_cG (X := X.blk s H scope (compEnvC scope cl C X.env) fp)).run pins s1 σ H1 v u Q I r (h s H C cl fp)⟩ : PG _ tg (bG X scope tg)))
    (fun s H C cl fp => (⟨fun pins s1 σ H1 Q I h => (pts_cQ (X := X.blk s H scope (compEnvC scope cl C X.env) fp)).run pins s1 σ H1 Q I (h s H C cl fp)⟩ : PTs _ ifs (bQ X scope ifs)))
    (fun s H C cl fp => (⟨fun pins s1 σ H1 Q I h => (pe_cE (X := X.blk s H scope (compEnvC scope cl C X.env) fp)).run pins s1 σ H1 Q I (h s H C cl fp)⟩ : PE _ elt (bE X scope elt))) hf, by
    have rd := lc_read g hv hi hjs I h0 hs hd hw hn S (fun v H' => E.nx (σ.set n (some v)) H') fun v B' H' S' s' r' => by
      obtain ⟨l, ws, rfl, h1, h2, F1⟩ := r'
      exact F.nx _ _ B' H' p (S'.setM (s := .own out) rfl ⟨ws, h1, h2⟩ F1 hb) s'
    exact rd⟩
end
end DL

namespace DL
open PySem L2
section
variable {X : Cx} {W : WX} {G : Ent} {M : Md} {N : List Str} {sc scope : Scope} {fb : Str → Bool} {k : Nat} {δ δ0 δ1 δ2 : List Slot} {pos : Pos} {ds ys : List D} {tg it elt c : Expr} {own : List (Str × Nat)} {js : List Nat}
theorem take_succ_of {α : Type} {l : List α} {i : Nat} {x : α} (h : l[i]? = some x) : l.take (i + 1) = l.take i ++ [x] := by
  rw [List.take_add_one, h]; rfl
/-- [elt for tg in it], which leaves the slots as they are: ys the items made -/
theorem step_map (hl : ys.length = ds.length) (hs : ∀ (i : Nat) d, ds[i]? = some d → ∃ δt y, ys[i]? = some y ∧ wipeS δt (own.map (·.2)) = δ0 ∧ Blk M N sc scope k G.bor (fun Y G' => AG Y G' tg d δ0 δt js ∧ EV Y G' elt δt (.dat y) δt)) :
    Step M N sc scope k G.bor tg elt [] js (own.map (·.2)) ds (fun i acc δ => acc = ys.take i ∧ δ = δ0) := by
  rintro i d acc δi hd ⟨rfl, rfl⟩
  obtain ⟨δt, y, h1, h2, h3⟩ := hs i d hd
  refine ⟨δt, true, δt, fun Y G' g b => ⟨(h3 Y G' g b).1, eq_nil⟩, (fun q => by cases q), fun _ => ⟨y, δt, fun Y G' g b => (h3 Y G' g b).2, ?_, h2⟩⟩
  rw [take_succ_of h1]
theorem ev_lcM (g : Good X M N sc fb k) (own : List (Str × Nat)) (js : List Nat) (ys : List D) (hv : ∀ v ∈ own.map (·.2), v ∉ G.bor.map (·.1)) (hi : EI X G tg it δ ds δ1) (h0 : wipeS δ1 (own.map (·.2)) = δ0) (hl : ys.length = ds.length) (hn : ds.length ≤ 100000)
    (hs : ∀ (i : Nat) d, ds[i]? = some d → ∃ δt y, ys[i]? = some y ∧ wipeS δt (own.map (·.2)) = δ0 ∧ Blk M N sc scope k G.bor (fun Y G' => AG Y G' tg d δ0 δt js ∧ EV Y G' elt δt (.dat y) δt))
    (hjs : ∀ j ∈ js, j ∈ own.map (·.2) := by decide) (ok : blkC N sc scope own = true := by decide +kernel) (hf : ∀ x, foldedSetIterable it X.env x = pure x := by intro _; rfl) : EV X G (.ListComp elt [⟨tg, it, [], 0⟩] scope pos) δ (.own ys) δ0 :=
  ev_lc g own hv hi hjs _ ⟨rfl, h0⟩ (step_map hl hs) (fun acc δ' ⟨a, b⟩ => ⟨by rw [a, ← hl, List.take_length], b⟩) (fun v hv s e => by subst h0; exact wipeS_in hv e) hn ok hf
theorem s_asgLcM {P : Out → Prop} {x : Str} {px spos : Pos} (g : Good X M N sc fb k) (n : Nat) (own : List (Str × Nat)) (js : List Nat) (ys : List D) (hb : n ∉ G.bor.map (·.1)) (p : P (.nx (δ0.set n (.own ys)))) (hv : ∀ v ∈ own.map (·.2), v ∉ G.bor.map (·.1)) (hi : EI X G tg it δ ds δ1) (h0 : wipeS δ1 (own.map (·.2)) = δ0) (hl : ys.length = ds.length) (hn : ds.length ≤ 100000)
    (hs : ∀ (i : Nat) d, ds[i]? = some d → ∃ δt y, ys[i]? = some y ∧ wipeS δt (own.map (·.2)) = δ0 ∧ Blk M N sc scope k G.bor (fun Y G' => AG Y G' tg d δ0 δt js ∧ EV Y G' elt δt (.dat y) δt))
    (hjs : ∀ j ∈ js, j ∈ own.map (·.2) := by decide) (ok : blkC N sc scope own = true := by decide +kernel) (hN : N[n]? = some x := by rfl) (hk : sc.kind = .function := by rfl) (hlo : sc.names.lookup x = some .local := by rfl) (hli : (px.line == pos.line) = true := by rfl) (ha : (scope.names.any fun (m, k) => m == x && (k == .local || k == .cell)) = false := by decide +kernel) (hsl : spos.line = pos.line := by rfl)
    (hf : ∀ x, foldedSetIterable it X.env x = pure x := by intro _; rfl) : SV1 X W G (.Assign [.Name x px] (.ListComp elt [⟨tg, it, [], 0⟩] scope pos) spos) δ P :=
  s_asgLc g n own hb p hv hi hjs _ ⟨rfl, h0⟩ (step_map hl hs) (fun acc δ' ⟨a, b⟩ => ⟨by rw [a, ← hl, List.take_length], b⟩) (fun v hv s e => by subst h0; exact wipeS_in hv e) hn ok hN hk hlo hli ha hsl hf
/-- [elt for tg in it if c]: f tells which items are kept, as what -/
theorem step_filter (f : D → Option D) (hs : ∀ (i : Nat) d, ds[i]? = some d → ∃ δt, wipeS δt (own.map (·.2)) = δ0 ∧ Blk M N sc scope k G.bor (fun Y G' => AG Y G' tg d δ0 δt js ∧ ET Y G' c δt (f d).isSome δt) ∧ ∀ y, f d = some y → Blk M N sc scope k G.bor (fun Y G' => EV Y G' elt δt (.dat y) δt)) :
    Step M N sc scope k G.bor tg elt [c] js (own.map (·.2)) ds (fun i acc δ => acc = (ds.take i).filterMap f ∧ δ = δ0) := by
  rintro i d acc δi hd ⟨rfl, rfl⟩
  obtain ⟨δt, h1, h2, h3⟩ := hs i d hd
  refine ⟨δt, (f d).isSome, δt, fun Y G' g b => ⟨(h2 Y G' g b).1, eq_one (h2 Y G' g b).2⟩, fun q => ⟨?_, h1⟩, fun q => ?_⟩
  · rw [take_succ_of hd, List.filterMap_append]
    cases e : f d with
    | none => simp [e]
    | some y => rw [e] at q; cases q
  · cases e : f d with
    | none => rw [e] at q; cases q
    | some y =>
      refine ⟨y, δt, h3 y e, ?_, h1⟩
      rw [take_succ_of hd, List.filterMap_append]
      simp [e]
theorem ev_lcF (g : Good X M N sc fb k) (own : List (Str × Nat)) (js : List Nat) (f : D → Option D) (hv : ∀ v ∈ own.map (·.2), v ∉ G.bor.map (·.1)) (hi : EI X G tg it δ ds δ1) (h0 : wipeS δ1 (own.map (·.2)) = δ0) (hn : ds.length ≤ 100000)
    (hs : ∀ (i : Nat) d, ds[i]? = some d → ∃ δt, wipeS δt (own.map (·.2)) = δ0 ∧ Blk M N sc scope k G.bor (fun Y G' => AG Y G' tg d δ0 δt js ∧ ET Y G' c δt (f d).isSome δt) ∧ ∀ y, f d = some y → Blk M N sc scope k G.bor (fun Y G' => EV Y G' elt δt (.dat y) δt))
    (hjs : ∀ j ∈ js, j ∈ own.map (·.2) := by decide) (ok : blkC N sc scope own = true := by decide +kernel) (hf : ∀ x, foldedSetIterable it X.env x = pure x := by intro _; rfl) : EV X G (.ListComp elt [⟨tg, it, [c], 0⟩] scope pos) δ (.own (ds.filterMap f)) δ0 :=
  ev_lc g own hv hi hjs _ ⟨rfl, h0⟩ (step_filter f hs) (fun acc δ' ⟨a, b⟩ => ⟨by rw [a, List.take_length], b⟩) (fun v hv s e => by subst h0; exact wipeS_in hv e) hn ok hf
theorem s_asgLcF {P : Out → Prop} {x : Str} {px spos : Pos} (g : Good X M N sc fb k) (n : Nat) (own : List (Str × Nat)) (js : List Nat) (f : D → Option D) (hb : n ∉ G.bor.map (·.1)) (p : P (.nx (δ0.set n (.own (ds.filterMap f))))) (hv : ∀ v ∈ own.map (·.2), v ∉ G.bor.map (·.1)) (hi : EI X G tg it δ ds δ1) (h0 : wipeS δ1 (own.map (·.2)) = δ0) (hn : ds.length ≤ 100000)
    (hs : ∀ (i : Nat) d, ds[i]? = some d → ∃ δt, wipeS δt (own.map (·.2)) = δ0 ∧ Blk M N sc scope k G.bor (fun Y G' => AG Y G' tg d δ0 δt js ∧ ET Y G' c δt (f d).isSome δt) ∧ ∀ y, f d = some y → Blk M N sc scope k G.bor (fun Y G' => EV Y G' elt δt (.dat y) δt))
    (hjs : ∀ j ∈ js, j ∈ own.map (·.2) := by decide) (ok : blkC N sc scope own = true := by decide +kernel) (hN : N[n]? = some x := by rfl) (hk : sc.kind = .function := by rfl) (hlo : sc.names.lookup x = some .local := by rfl) (hli : (px.line == pos.line) = true := by rfl) (ha : (scope.names.any fun (m, k) => m == x && (k == .local || k == .cell)) = false := by decide +kernel) (hsl : spos.line = pos.line := by rfl)
    (hf : ∀ x, foldedSetIterable it X.env x = pure x := by intro _; rfl) : SV1 X W G (.Assign [.Name x px] (.ListComp elt [⟨tg, it, [c], 0⟩] scope pos) spos) δ P :=
  s_asgLc g n own hb p hv hi hjs _ ⟨rfl, h0⟩ (step_filter f hs) (fun acc δ' ⟨a, b⟩ => ⟨by rw [a, List.take_length], b⟩) (fun v hv s e => by subst h0; exact wipeS_in hv e) hn ok hN hk hlo hli ha hsl hf
end

/-! ### == of data -/
mutual
def D.py : D → PyData
  | .non => .none
  | .bl b => .bool b
  | .int i => .int i
  | .str s => .str s
  | .tup ds => .tuple (D.pys ds)
  | .lst ds => .list (D.pys ds)
  | .ins _ _ _ => .none
  | .ref _ => .none
def D.pys : List D → List PyData
  | [] => []
  | d :: ds => d.py :: D.pys ds
end
mutual
def D.flat : D → Bool
  | .tup ds => D.flats ds
  | .lst ds => D.flats ds
  | .ins _ _ _ => false
  | .ref _ => false
  | _ => true
def D.flats : List D → Bool
  | [] => true
  | d :: ds => d.flat && D.flats ds
end
mutual
theorem dp_of {K : PySem.W.Frag} {H : Hp} : ∀ (d : D) (v : V), d.flat = true → Rep K H v d → Dp K H v d.py
  | .non, _, _, h => by cases h; exact .non
  | .bl b, _, _, h => by cases h; exact .bl b
  | .int i, _, _, h => by cases h; exact .int i
  | .str s, _, _, h => by cases h; exact .str s
  | .tup ds, _, f, h => by
    cases h with
    | tup a b => exact .tup a (dps_of ds _ f b)
  | .lst ds, _, f, h => by
    cases h with
    | lst a b => exact .lst a (dps_of ds _ f b)
  | .ins _ _ _, _, f, _ => by cases f
  | .ref _, _, f, _ => by cases f
theorem dps_of {K : PySem.W.Frag} {H : Hp} : ∀ (ds : List D) (vs : List V), D.flats ds = true → RepL K H vs ds → DpAll K H vs (D.pys ds)
  | [], _, _, h => by cases h; exact .nil
  | d :: ds, _, f, h => by
    cases h with
    | cons a b =>
      have f' : (d.flat && D.flats ds) = true := f
      rw [Bool.and_eq_true] at f'
      exact .cons (dp_of d _ f'.1 a) (dps_of ds _ f'.2 b)
end
/-- d may be compared: no instance in it, its texts' signs are code points, nested at most 64 deep -/
def D.ok (d : D) : Prop := d.flat = true ∧ SeqAt.shaped d.py = true
section
variable {X : Cx} {G : Ent} {M : Md} {N : List Str} {sc : Scope} {fb : Str → Bool} {k : Nat} {δ δ1 δ2 δ3 : List Slot} {e a b c e2 : Expr} {d d1 d2 : D} {ds es : List D} {pos p px : Pos} {i j l : Int} {x y : Bool} {r : Slot}
theorem units_of (g : Good X M N sc fb k) : X.A.units + 64 < cLine := g.room.units
theorem ev_eqD (g : Good X M N sc fb k) (ha : EV X G a δ (.dat d1) δ1) (hb : EV X G b δ1 (.dat d2) δ2) (h1 : d1.ok) (h2 : d2.ok) : EV X G (.Compare a [.Eq] [b] pos) δ (.dat (.bl (PyData.eqv d1.py d2.py))) δ2 :=
  ev_cmp (op_eqD (units_of g)) (behind _ (by decide) (by decide)) ha hb fun σ x y B H S rx ry Q q =>
    ⟨_, _, dp_of _ _ h1.1 (rx.up S.hb), dp_of _ _ h2.1 (ry.up S.hb), h1.2, h2.2, q _ (.bl _)⟩
theorem et_eqD (g : Good X M N sc fb k) (ha : EV X G a δ (.dat d1) δ1) (hb : EV X G b δ1 (.dat d2) δ2) (h1 : d1.ok) (h2 : d2.ok) : ET X G (.Compare a [.Eq] [b] pos) δ (PyData.eqv d1.py d2.py) δ2 :=
  et_cmp (op_eqD (units_of g)) (behind _ (by decide) (by decide)) ha hb fun σ x y B H S rx ry Q q =>
    ⟨_, _, dp_of _ _ h1.1 (rx.up S.hb), dp_of _ _ h2.1 (ry.up S.hb), h1.2, h2.2, q _ (.bl _)⟩
theorem ev_neD (g : Good X M N sc fb k) (ha : EV X G a δ (.dat d1) δ1) (hb : EV X G b δ1 (.dat d2) δ2) (h1 : d1.ok) (h2 : d2.ok) : EV X G (.Compare a [.NotEq] [b] pos) δ (.dat (.bl (!PyData.eqv d1.py d2.py))) δ2 :=
  ev_cmp (op_neD (units_of g)) (behind _ (by decide) (by decide)) ha hb fun σ x y B H S rx ry Q q =>
    ⟨_, _, dp_of _ _ h1.1 (rx.up S.hb), dp_of _ _ h2.1 (ry.up S.hb), h1.2, h2.2, q _ (.bl _)⟩
theorem et_neD (g : Good X M N sc fb k) (ha : EV X G a δ (.dat d1) δ1) (hb : EV X G b δ1 (.dat d2) δ2) (h1 : d1.ok) (h2 : d2.ok) : ET X G (.Compare a [.NotEq] [b] pos) δ (!PyData.eqv d1.py d2.py) δ2 :=
  et_cmp (op_neD (units_of g)) (behind _ (by decide) (by decide)) ha hb fun σ x y B H S rx ry Q q =>
    ⟨_, _, dp_of _ _ h1.1 (rx.up S.hb), dp_of _ _ h2.1 (ry.up S.hb), h1.2, h2.2, q _ (.bl _)⟩
/-- is True, is False, is not .. -/
theorem ev_isB (ha : EV X G a δ (.dat (.bl x)) δ1) (hb : EV X G b δ1 (.dat (.bl y)) δ2) : EV X G (.Compare a [.Is] [b] pos) δ (.dat (.bl (decide (x = y)))) δ2 :=
  ev_cmp op_isBl (behind _ (by decide) (by decide)) ha hb fun σ u v B H S ru rv Q q => by
    cases bl_of ru; cases bl_of rv
    exact ⟨x, y, rfl, rfl, q _ (.bl _)⟩
theorem et_isB (ha : EV X G a δ (.dat (.bl x)) δ1) (hb : EV X G b δ1 (.dat (.bl y)) δ2) : ET X G (.Compare a [.Is] [b] pos) δ (decide (x = y)) δ2 :=
  et_cmp op_isBl (behind _ (by decide) (by decide)) ha hb fun σ u v B H S ru rv Q q => by
    cases bl_of ru; cases bl_of rv
    exact ⟨x, y, rfl, rfl, q _ (.bl _)⟩
theorem ev_notB (ha : EV X G a δ (.dat (.bl x)) δ1) (hb : EV X G b δ1 (.dat (.bl y)) δ2) : EV X G (.Compare a [.IsNot] [b] pos) δ (.dat (.bl (!decide (x = y)))) δ2 :=
  ev_cmp op_notBl (behind _ (by decide) (by decide)) ha hb fun σ u v B H S ru rv Q q => by
    cases bl_of ru; cases bl_of rv
    exact ⟨x, y, rfl, rfl, q _ (.bl _)⟩
theorem et_notB (ha : EV X G a δ (.dat (.bl x)) δ1) (hb : EV X G b δ1 (.dat (.bl y)) δ2) : ET X G (.Compare a [.IsNot] [b] pos) δ (!decide (x = y)) δ2 :=
  et_cmp op_notBl (behind _ (by decide) (by decide)) ha hb fun σ u v B H S ru rv Q q => by
    cases bl_of ru; cases bl_of rv
    exact ⟨x, y, rfl, rfl, q _ (.bl _)⟩
/-- a ? b ? c of whole numbers, what is asked behind the first answer leaving the slots -/
theorem ev_chain {op op' : CmpOp} {r1 r2 : R2} {f1 f2 : Int → Int → Bool} (h1 : OpR X (compareOp op) r1) (h2 : OpR X (compareOp op') r2) (e1 : ∀ i j (H : Hp) (Q : VK), Q (.bl (f1 i j)) H → r1 (.int i) (.int j) H Q) (e2 : ∀ i j (H : Hp) (Q : VK), Q (.bl (f2 i j)) H → r2 (.int i) (.int j) H Q)
    (ha : EV X G a δ (.dat (.int i)) δ1) (hb : EV X G b δ1 (.dat (.int j)) δ2) (hc : f1 i j = true → EV X G c δ2 (.dat (.int l)) δ2) (hm : lastMarks [op, op'] [b, c] = false := by with_unfolding_all rfl) : EV X G (.Compare a [op, op'] [b, c] pos) δ (.dat (.bl (f1 i j && f2 j l))) δ2 := fun σ B H S Q q =>
  ⟨_, pe_chain h1 h2 pe_cE pe_cE pe_cE hm, ha σ B H S _ fun u B1 H1 S1 s1 r1' => hb σ B1 H1 S1 _ fun v B2 H2 S2 s2 r2' => by
    cases int_of r1'; cases int_of r2'
    refine e1 _ _ _ _ ⟨_, rfl, ?_⟩
    cases h : f1 i j with
    | true =>
      rw [if_pos rfl]
      refine hc h σ B2 H2 S2 _ fun w B3 H3 S3 s3 r3 => ?_
      cases int_of r3
      refine e2 _ _ _ _ (q _ B3 H3 S3 ((s1.trans s2).trans s3) ?_)
      rw [h]
      exact .bl _
    | false =>
      rw [if_neg Bool.false_ne_true]
      refine q _ B2 H2 S2 (s1.trans s2) ?_
      rw [h]
      exact .bl _⟩
theorem et_chain {op op' : CmpOp} {r1 r2 : R2} {f1 f2 : Int → Int → Bool} (h1 : OpR X (compareOp op) r1) (h2 : OpR X (compareOp op') r2) (e1 : ∀ i j (H : Hp) (Q : VK), Q (.bl (f1 i j)) H → r1 (.int i) (.int j) H Q) (e2 : ∀ i j (H : Hp) (Q : VK), Q (.bl (f2 i j)) H → r2 (.int i) (.int j) H Q)
    (ha : EV X G a δ (.dat (.int i)) δ1) (hb : EV X G b δ1 (.dat (.int j)) δ2) (hc : f1 i j = true → EV X G c δ2 (.dat (.int l)) δ2) (hm : lastMarks [op, op'] [b, c] = false := by with_unfolding_all rfl) : ET X G (.Compare a [op, op'] [b, c] pos) δ (f1 i j && f2 j l) δ2 := fun σ B H S Q q =>
  ⟨_, pt_chain h1 h2 pe_cE pe_cE pe_cE hm, ha σ B H S _ fun u B1 H1 S1 s1 r1' => hb σ B1 H1 S1 _ fun v B2 H2 S2 s2 r2' => by
    cases int_of r1'; cases int_of r2'
    refine e1 _ _ _ _ ⟨_, rfl, ?_⟩
    cases h : f1 i j with
    | true =>
      rw [if_pos rfl]
      refine hc h σ B2 H2 S2 _ fun w B3 H3 S3 s3 r3 => ?_
      cases int_of r3
      refine e2 _ _ _ _ ⟨_, rfl, ?_⟩
      have := q B3 H3 S3 ((s1.trans s2).trans s3)
      rw [h] at this
      exact this
    | false =>
      rw [if_neg Bool.false_ne_true]
      have := q B2 H2 S2 (s1.trans s2)
      rw [h] at this
      exact ⟨_, rfl, this⟩⟩
theorem et_leLt (ha : EV X G a δ (.dat (.int i)) δ1) (hb : EV X G b δ1 (.dat (.int j)) δ2) (hc : i ≤ j → EV X G c δ2 (.dat (.int l)) δ2) (hm : lastMarks [.LtE, .Lt] [b, c] = false := by with_unfolding_all rfl) : ET X G (.Compare a [.LtE, .Lt] [b, c] pos) δ (decide (i ≤ j) && decide (j < l)) δ2 :=
  et_chain (f1 := fun i j => decide (i ≤ j)) (f2 := fun i j => decide (i < j)) op_le op_lt (fun _ _ _ _ q => ⟨_, _, rfl, rfl, q⟩) (fun _ _ _ _ q => ⟨_, _, rfl, rfl, q⟩) ha hb (fun h => hc (of_decide_eq_true h)) hm
theorem et_leLe (ha : EV X G a δ (.dat (.int i)) δ1) (hb : EV X G b δ1 (.dat (.int j)) δ2) (hc : i ≤ j → EV X G c δ2 (.dat (.int l)) δ2) (hm : lastMarks [.LtE, .LtE] [b, c] = false := by with_unfolding_all rfl) : ET X G (.Compare a [.LtE, .LtE] [b, c] pos) δ (decide (i ≤ j) && decide (j ≤ l)) δ2 :=
  et_chain (f1 := fun i j => decide (i ≤ j)) (f2 := fun i j => decide (i ≤ j)) op_le op_le (fun _ _ _ _ q => ⟨_, _, rfl, rfl, q⟩) (fun _ _ _ _ q => ⟨_, _, rfl, rfl, q⟩) ha hb (fun h => hc (of_decide_eq_true h)) hm
theorem ev_leLt (ha : EV X G a δ (.dat (.int i)) δ1) (hb : EV X G b δ1 (.dat (.int j)) δ2) (hc : i ≤ j → EV X G c δ2 (.dat (.int l)) δ2) (hm : lastMarks [.LtE, .Lt] [b, c] = false := by with_unfolding_all rfl) : EV X G (.Compare a [.LtE, .Lt] [b, c] pos) δ (.dat (.bl (decide (i ≤ j) && decide (j < l)))) δ2 :=
  ev_chain (f1 := fun i j => decide (i ≤ j)) (f2 := fun i j => decide (i < j)) op_le op_lt (fun _ _ _ _ q => ⟨_, _, rfl, rfl, q⟩) (fun _ _ _ _ q => ⟨_, _, rfl, rfl, q⟩) ha hb (fun h => hc (of_decide_eq_true h)) hm
theorem ev_leLe (ha : EV X G a δ (.dat (.int i)) δ1) (hb : EV X G b δ1 (.dat (.int j)) δ2) (hc : i ≤ j → EV X G c δ2 (.dat (.int l)) δ2) (hm : lastMarks [.LtE, .LtE] [b, c] = false := by with_unfolding_all rfl) : EV X G (.Compare a [.LtE, .LtE] [b, c] pos) δ (.dat (.bl (decide (i ≤ j) && decide (j ≤ l)))) δ2 :=
  ev_chain (f1 := fun i j => decide (i ≤ j)) (f2 := fun i j => decide (i ≤ j)) op_le op_le (fun _ _ _ _ q => ⟨_, _, rfl, rfl, q⟩) (fun _ _ _ _ q => ⟨_, _, rfl, rfl, q⟩) ha hb (fun h => hc (of_decide_eq_true h)) hm

/-! ### lists by operators -/
def rCatR (K : PySem.W.Frag) : R2 := fun x y H Q => ∃ l b xs zs, x = .ref l ∧ y = .ref b ∧ SqL K H l xs ∧ SqL K H b zs ∧ xs.length + zs.length ≤ sizeLine ∧ ∀ p, H p = none → Q (.ref p) (upd H p (.lst (xs ++ zs)))
open PyProof.Rows in
theorem op_catR : OpR X (binaryOp .Add) (rCatR X.K) := by
  rintro pins s σ H x y v u Q I rx ry ⟨l, b, xs, zs, rfl, rfl, hH, hB, hz, q⟩
  cases rx; cases ry
  obtain ⟨its, r, pl, _⟩ := I.list hH
  obtain ⟨its2, r2, pl2, _⟩ := I.list hB
  have l1 := r.length
  have l2 := r2.length
  obtain ⟨⟨cls, dd, data, sl⟩, ho, hc, n, hd⟩ := pl.isList
  obtain ⟨⟨cls2, dd2, data2, sl2⟩, ho2, hc2, n2, hd2⟩ := pl2.isList
  simp only at hc hd hc2 hd2
  subst hc hd hc2 hd2
  refine concat_meets ⟨_, ho, rfl⟩ ⟨_, ho2, rfl⟩ noFill_list_add seq_list_add PySem.F.slot_list_add PySem.F.entry_list_add (PySem.F.args_list_add_2 _ _) (list_addW l b its.toArray its2.toArray n n2 dd dd2 sl sl2 (by simp only [List.size_toArray]; omega)) ⟨ho, ho2, ?_⟩
  rw [show its.toArray ++ its2.toArray = (its ++ its2).toArray from by simp]
  exact ⟨.ref _, _, I.lnew (t' := s.toks) (r.append r2) (by simp only [List.length_append]; omega), rfl, q _ I.fresh⟩
theorem ev_cat (ha : EV X G a δ (.dat (.lst ds)) δ1) (hb : EV X G b δ1 (.dat (.lst es)) δ2) (hn : ds.length + es.length ≤ 100000) : EV X G (.BinOp a .Add b pos) δ (.own (ds ++ es)) δ2 := fun σ B H S Q q =>
  ⟨_, pe_op op_catR pe_cE pe_cE, ha σ B H S _ fun x B1 H1 S1 s1 r1 => hb σ B1 H1 S1 _ fun y B2 H2 S2 s2 r2 => by
    obtain ⟨l, vs, rfl, h1, h2⟩ := lst_of (Rep.up r1 s2)
    obtain ⟨m, ws, rfl, h3, h4⟩ := lst_of r2
    refine ⟨l, m, vs, ws, rfl, rfl, sql_mono S2.hb h1, sql_mono S2.hb h3, Nat.le_trans (show vs.length + ws.length ≤ 100000 by rw [h2.length, h4.length]; exact hn) (by decide), fun p hp => ?_⟩
    obtain ⟨S3, r3⟩ := own_new S2 hp (h2.append h4)
    exact q _ _ _ S3 (s1.trans s2) r3⟩
theorem Sat.hold {K : PySem.W.Frag} {σ : St} {B H : Hp} {L : Addr} {o : HO} (S : Sat K G δ σ B H) (F : Fresh G δ σ B L) (h : H L = some o) : Sat K (G.add L o) δ σ B H ∧ L ∉ G.bor.map (·.2) ∧ G.B0 L = none := by
  have nb : L ∉ G.bor.map (·.2) := fun m => by
    obtain ⟨p, hp, e⟩ := List.mem_map.mp m
    obtain ⟨a, s, b, c⟩ := S.bor p hp
    exact F.ap _ s b c (by rw [a, e])
  have b0 : G.B0 L = none := S.b0.free F.nb
  refine ⟨⟨S.hb, S.b0, fun a u e m => ?_, fun a u e => ?_, S.len, S.dat, fun i s e m => ?_, S.dis, S.bor⟩, nb, b0⟩
  · have e' : upd G.H0 L o a = some u := e
    by_cases z : a = L
    · subst z; rw [upd_same] at e'; rw [h]; exact e'
    · rw [upd_ne z] at e'; exact S.fr a u e' m
  · have e' : upd G.H0 L o a = some u := e
    by_cases z : a = L
    · subst z; show B a = G.B0 a; rw [F.nb, b0]
    · rw [upd_ne z] at e'; exact S.nb a u e'
  · obtain ⟨l, a, b, c, d⟩ := S.mu i s e m
    refine ⟨l, a, b, c, ?_⟩
    rcases d with d | d
    · left
      have z : l ≠ L := fun z => by subst z; exact F.ap i s e m a
      show upd G.H0 L o l = none
      rw [upd_ne z]; exact d
    · exact .inr d
/-- a new list times a number -/
theorem ev_rep (ha : EV X G a δ (.own ds) δ1) (hb : ∀ G' : Ent, G'.bor = G.bor → EV X G' b δ1 (.dat (.int i)) δ2) (hn : 0 ≤ i ∧ i ≤ 100000) (hl : ds.length * i.toNat ≤ 100000) : EV X G (.BinOp a .Mult b pos) δ (.own (List.replicate i.toNat ds).flatten) δ2 := fun σ B H S Q q =>
  ⟨_, pe_op op_rep pe_cE pe_cE, ha σ B H S _ fun x B1 H1 S1 s1 r1 => by
    obtain ⟨l, vs, rfl, h1, h2, F⟩ := r1
    obtain ⟨S2, nb, b0⟩ := S1.hold F h1
    refine hb (G.add l (.lst vs)) rfl σ B1 H1 S2 _ fun y B3 H3 S3 s3 r3 => ?_
    cases int_of r3
    have hl3 : H3 l = some (.lst vs) := S3.fr l _ (by show upd G.H0 l _ l = _; rw [upd_same]) nb
    refine ⟨l, i, vs, rfl, rfl, hl3, by omega, by omega, Nat.le_trans (show vs.length * i.toNat ≤ 100000 by rw [h2.length]; exact hl) (by decide), fun p hp => ?_⟩
    obtain ⟨S4, r4⟩ := own_new (S3.close nb F.n0 b0).1 hp (reps h2.length (h2.up s3) i.toNat)
    exact q _ _ _ S4 (s1.trans s3) r4⟩
where
  reps {K : PySem.W.Frag} {B : Hp} {vs : List V} {ds : List D} (hl : vs.length = ds.length) (h : RepL K B vs ds) : ∀ n : Nat, RepL K B (List.replicate n vs).flatten (List.replicate n ds).flatten
    | 0 => .nil
    | n + 1 => by
      rw [List.replicate_succ, List.replicate_succ, List.flatten_cons, List.flatten_cons]
      exact h.append (reps hl h n)

/-! ### in -/
theorem ev_inS {ch : Nat} {z : Str} (ha : EV X G a δ (.dat (.str ⟨#[ch]⟩)) δ1) (hb : EV X G b δ1 (.dat (.str z)) δ2) (hm : behindInMarks .In b = false := by rfl) : EV X G (.Compare a [.In] [b] pos) δ (.dat (.bl (decide (ch ∈ z.cps.toList)))) δ2 :=
  ev_cmp op_in_sign hm ha hb fun σ x y B H S rx ry Q q => by
    cases str_of rx; cases str_of ry
    exact ⟨ch, z, rfl, rfl, q _ (.bl _)⟩
theorem et_inS {ch : Nat} {z : Str} (ha : EV X G a δ (.dat (.str ⟨#[ch]⟩)) δ1) (hb : EV X G b δ1 (.dat (.str z)) δ2) (hm : behindInMarks .In b = false := by rfl) : ET X G (.Compare a [.In] [b] pos) δ (decide (ch ∈ z.cps.toList)) δ2 :=
  et_cmp op_in_sign hm ha hb fun σ x y B H S rx ry Q q => by
    cases str_of rx; cases str_of ry
    exact ⟨ch, z, rfl, rfl, q _ (.bl _)⟩
theorem ev_niS {ch : Nat} {z : Str} (ha : EV X G a δ (.dat (.str ⟨#[ch]⟩)) δ1) (hb : EV X G b δ1 (.dat (.str z)) δ2) (hm : behindInMarks .NotIn b = false := by rfl) : EV X G (.Compare a [.NotIn] [b] pos) δ (.dat (.bl (!decide (ch ∈ z.cps.toList)))) δ2 :=
  ev_cmp op_notIn_sign hm ha hb fun σ x y B H S rx ry Q q => by
    cases str_of rx; cases str_of ry
    exact ⟨ch, z, rfl, rfl, q _ (.bl _)⟩
theorem et_niS {ch : Nat} {z : Str} (ha : EV X G a δ (.dat (.str ⟨#[ch]⟩)) δ1) (hb : EV X G b δ1 (.dat (.str z)) δ2) (hm : behindInMarks .NotIn b = false := by rfl) : ET X G (.Compare a [.NotIn] [b] pos) δ (!decide (ch ∈ z.cps.toList)) δ2 :=
  et_cmp op_notIn_sign hm ha hb fun σ x y B H S rx ry Q q => by
    cases str_of rx; cases str_of ry
    exact ⟨ch, z, rfl, rfl, q _ (.bl _)⟩
/-- a text in a list of texts -/
theorem strs_eq {K : PySem.W.Frag} {B : Hp} : ∀ {zs : List Str} {vs : List V}, RepL K B vs (zs.map D.str) → vs = zs.map V.str
  | [], _, h => by cases h; rfl
  | z :: zs, _, h => by
    cases h with
    | cons a b =>
      cases a
      rw [strs_eq b]; rfl
theorem inV_strs (z : Str) (zs : List Str) : inV (.str z) (zs.map V.str) = decide (z ∈ zs) ∧ (zs.map V.str).all flatV = true := by
  constructor
  · unfold inV
    rw [List.any_map]
    induction zs with
    | nil => simp
    | cons y ys ih =>
      rw [List.any_cons, ih]
      show (decide (y = z) || _) = _
      by_cases h : z = y
      · subst h; simp
      · have h' : ¬ y = z := fun e => h e.symm
        simp [h, h']
  · rw [List.all_map]
    exact List.all_eq_true.mpr fun y _ => rfl
theorem ev_inL {z : Str} {zs : List Str} (ha : EV X G a δ (.dat (.str z)) δ1) (hb : EV X G b δ1 (.dat (.lst (zs.map D.str))) δ2) (hm : behindInMarks .In b = false := by rfl) : EV X G (.Compare a [.In] [b] pos) δ (.dat (.bl (decide (z ∈ zs)))) δ2 :=
  ev_cmp op_in_seq hm ha hb fun σ x y B H S rx ry Q q => by
    cases str_of rx
    obtain ⟨p, vs, rfl, h1, h2⟩ := lst_of ry
    have e := strs_eq h2
    subst e
    refine ⟨p, _, rfl, .inl (S.hb.seq h1), rfl, (inV_strs z zs).2, ?_⟩
    show Q (.bl (inV (.str z) (zs.map V.str))) H
    rw [(inV_strs z zs).1]
    exact q _ (.bl _)
theorem et_inL {z : Str} {zs : List Str} (ha : EV X G a δ (.dat (.str z)) δ1) (hb : EV X G b δ1 (.dat (.lst (zs.map D.str))) δ2) (hm : behindInMarks .In b = false := by rfl) : ET X G (.Compare a [.In] [b] pos) δ (decide (z ∈ zs)) δ2 :=
  et_cmp op_in_seq hm ha hb fun σ x y B H S rx ry Q q => by
    cases str_of rx
    obtain ⟨p, vs, rfl, h1, h2⟩ := lst_of ry
    have e := strs_eq h2
    subst e
    refine ⟨p, _, rfl, .inl (S.hb.seq h1), rfl, (inV_strs z zs).2, ?_⟩
    show Q (.bl (inV (.str z) (zs.map V.str))) H
    rw [(inV_strs z zs).1]
    exact q _ (.bl _)
theorem inV_ints (z : Int) (zs : List Int) : inV (.int z) (zs.map V.int) = decide (z ∈ zs) ∧ (zs.map V.int).all flatV = true := by
  constructor
  · unfold inV
    rw [List.any_map]
    induction zs with
    | nil => simp
    | cons y ys ih =>
      rw [List.any_cons, ih]
      show (decide (y = z) || _) = _
      by_cases h : z = y
      · subst h; simp
      · have h' : ¬ y = z := fun e => h e.symm
        simp [h, h']
  · rw [List.all_map]
    exact List.all_eq_true.mpr fun y _ => rfl
theorem ev_niT {z : Int} {zs : List Int} (ha : EV X G a δ (.dat (.int z)) δ1) (hb : EV X G b δ1 (.dat (.tup (zs.map D.int))) δ2) (hm : behindInMarks .NotIn b = false := by rfl) : EV X G (.Compare a [.NotIn] [b] pos) δ (.dat (.bl (!decide (z ∈ zs)))) δ2 :=
  ev_cmp op_notIn_seq hm ha hb fun σ x y B H S rx ry Q q => by
    cases int_of rx
    obtain ⟨p, vs, rfl, h1, h2⟩ := tup_of ry
    have e := RepL.ints_eq h2
    subst e
    refine ⟨p, _, rfl, .inr (sqt_mono S.hb h1), rfl, (inV_ints z zs).2, ?_⟩
    show Q (.bl (!inV (.int z) (zs.map V.int))) H
    rw [(inV_ints z zs).1]
    exact q _ (.bl _)

theorem et_niT {z : Int} {zs : List Int} (ha : EV X G a δ (.dat (.int z)) δ1) (hb : EV X G b δ1 (.dat (.tup (zs.map D.int))) δ2) (hm : behindInMarks .NotIn b = false := by rfl) : ET X G (.Compare a [.NotIn] [b] pos) δ (!decide (z ∈ zs)) δ2 :=
  et_cmp op_notIn_seq hm ha hb fun σ x y B H S rx ry Q q => by
    cases int_of rx
    obtain ⟨p, vs, rfl, h1, h2⟩ := tup_of ry
    have e := RepL.ints_eq h2
    subst e
    refine ⟨p, _, rfl, .inr (sqt_mono S.hb h1), rfl, (inV_ints z zs).2, ?_⟩
    show Q (.bl (!inV (.int z) (zs.map V.int))) H
    rw [(inV_ints z zs).1]
    exact q _ (.bl _)

/-! ### isinstance, against built-in types -/
def tyD : D → String
  | .non => "NoneType"
  | .bl _ => "bool"
  | .int _ => "int"
  | .str _ => "str"
  | .tup _ => "tuple"
  | .lst _ => "list"
  | .ins _ _ _ => ""
  | .ref _ => ""
def D.noIns : D → Bool
  | .ins _ _ _ => false
  | .ref _ => false
  | _ => true
theorem tyx_of {K : PySem.W.Frag} {H : Hp} {v : V} (h : Rep K H v d) (n : d.noIns = true) : TyX K H v (.type (tyD d)) := by
  cases h with
  | non => exact .base .non
  | bl b => exact .base (.bl b)
  | int i => exact .base (.int i)
  | str s => exact .base (.str s)
  | tup a b =>
    rcases a with (a | ⟨o, a⟩) | ⟨o, its, n, a1, a2, _⟩
    · exact .base (.tup a)
    · exact .fTuple a
    · exact .kTuple a1 a2
  | lst a b =>
    rcases a with (a | ⟨o, a⟩) | ⟨o, its, n, a1, a2, _⟩
    · exact .base (.lst a)
    · exact .base (.frz a)
    · exact .kList a1 a2
  | ins a b c => cases n
  | ref a => cases n
/-- isinstance(e, T), T the name of a built-in type -/
theorem ev_isi (g : Good X M N sc fb k) {T : Str} {tn : String} (hm : M.mg "isinstance" = none) (hT : M.mg T = none) (hv : bootBuiltins T = some (.type tn)) (ha : EV X G e δ (.dat d) δ1) (hn : d.noIns = true) (hk : kitB (tyD d) tn = some x)
    (hg : sc.names.lookup ("isinstance" : Str) = some .globalImplicit := by rfl) (hg2 : sc.names.lookup T = some .globalImplicit := by rfl) (hn2 : T ≠ "__name__" := by decide) (hd2 : (T == ("__debug__" : Str)) = false := by decide)
    (he : starEach [e, .Name T px] X.env = (false, eval e X.env) :: starEach [.Name T px] X.env := by rfl) (he2 : starEach [.Name T px] X.env = (false, eval (.Name T px) X.env) :: starEach [] X.env := by rfl) (hpl : (backTo pos (starEach [.Name T px] X.env)).any (·.1) = false := by rfl) :
    EV X G (.Call (.Name "isinstance" p) [e, .Name T px] [] pos) δ (.dat (.bl x)) δ1 := fun σ B H S Q q =>
  ⟨_, pe_callB call_isi (gl_of g hg) (mn_of g hm) (by decide +kernel) (pa_cons pe_cE (pa_cons (pe_bltn (v := .ty tn) (gl_of g hg2) (mn_of g hT) hv rfl hn2 hd2) pa_nil he2) he) (by decide) (by decide) he hpl, ha σ B H S _ fun v B1 H1 S1 s1 r1 =>
    ⟨v, .ty tn, _, _, x, rfl, .ty tn, tyx_of (Rep.up r1 S1.hb) hn, kit_ty hk, q _ B1 H1 S1 s1 (.bl _)⟩⟩
/-- isinstance(e, (T, U)) -/
theorem ev_isi2 (g : Good X M N sc fb k) {T U : Str} {tn un : String} {kk : Nat} {pt px2 : Pos} (hm : M.mg "isinstance" = none) (hT : M.mg T = none) (hU : M.mg U = none) (hv : bootBuiltins T = some (.type tn)) (hv2 : bootBuiltins U = some (.type un)) (ha : EV X G e δ (.dat d) δ1) (hn : d.noIns = true)
    (hk : kitB (tyD d) tn = some x) (hk2 : kitB (tyD d) un = some y)
    (hg : sc.names.lookup ("isinstance" : Str) = some .globalImplicit := by rfl) (hg2 : sc.names.lookup T = some .globalImplicit := by rfl) (hg3 : sc.names.lookup U = some .globalImplicit := by rfl) (hn2 : T ≠ "__name__" := by decide) (hd2 : (T == ("__debug__" : Str)) = false := by decide) (hn3 : U ≠ "__name__" := by decide) (hd3 : (U == ("__debug__" : Str)) = false := by decide)
    (he : starEach [e, .Tuple [.Name T px, .Name U px2] kk pt] X.env = (false, eval e X.env) :: starEach [.Tuple [.Name T px, .Name U px2] kk pt] X.env := by rfl) (he2 : starEach [.Tuple [.Name T px, .Name U px2] kk pt] X.env = (false, eval (.Tuple [.Name T px, .Name U px2] kk pt) X.env) :: starEach [] X.env := by rfl)
    (he3 : starEach [.Name T px, .Name U px2] X.env = (false, eval (.Name T px) X.env) :: starEach [.Name U px2] X.env := by rfl) (he4 : starEach [.Name U px2] X.env = (false, eval (.Name U px2) X.env) :: starEach [] X.env := by rfl)
    (hpl : (backTo pos (starEach [.Tuple [.Name T px, .Name U px2] kk pt] X.env)).any (·.1) = false := by rfl) :
    EV X G (.Call (.Name "isinstance" p) [e, .Tuple [.Name T px, .Name U px2] kk pt] [] pos) δ (.dat (.bl (x || y))) δ1 := fun σ B H S Q q =>
  ⟨_, pe_callB call_isiT (gl_of g hg) (mn_of g hm) (by decide +kernel) (pa_cons pe_cE (pa_cons (pe_tup (pa_cons (pe_bltn (v := .ty tn) (gl_of g hg2) (mn_of g hT) hv rfl hn2 hd2) (pa_cons (pe_bltn (v := .ty un) (gl_of g hg3) (mn_of g hU) hv2 rfl hn3 hd3) pa_nil he4) he3)) pa_nil he2) he) (by decide) (by decide) he hpl, ha σ B H S _ fun v B1 H1 S1 s1 r1 =>
    ⟨by show 2 ≤ sizeLine; decide, fun p hp => by
      obtain ⟨S2, s2⟩ := S1.newB (o := .tup [.ty tn, .ty un]) hp
      refine ⟨v, p, _, _, [.type tn, .type un], x || y, rfl, upd_same, .cons (.ty tn) (.cons (.ty un) .nil), tyx_of (Rep.up (Rep.up r1 s2) S2.hb) hn, kitAny_cons (kit_ty hk) (fun e => kitAny_cons (kit_ty hk2) (fun e2 => ?_) (fun e2 => ?_)) (fun e => ?_), q _ _ _ S2 (s1.trans s2) (.bl _)⟩
      · subst e e2; rfl
      · subst e2; simp
      · subst e; rfl⟩⟩
end
end DL

namespace DL
open PySem L2
/-- the built-in names that the module leaves as they are; gcd is math's -/
structure Bn (M : Md) : Prop where
  len : M.mg "len" = none
  int : M.mg "int" = none
  abs : M.mg "abs" = none
  min : M.mg "min" = none
  sum : M.mg "sum" = none
  all : M.mg "all" = none
  any : M.mg "any" = none
  tuple : M.mg "tuple" = none
  list : M.mg "list" = none
  bool : M.mg "bool" = none
  str : M.mg "str" = none
  isinstance : M.mg "isinstance" = none
  range : M.mg "range" = none
  enumerate : M.mg "enumerate" = none
  zip : M.mg "zip" = none
  gcd : M.mg "gcd" = some (.builtin "math.gcd")
  max : M.mg "max" = none
  sorted : M.mg "sorted" = none
theorem nob {G : Ent} {as : List Slot} (h : ∀ i ∈ G.bor.map (·.1), i ∈ muIdx as 0) (e : muIdx as 0 = []) : ∀ i, i ∉ G.bor.map (·.1) := fun i hi => by
  have := h i hi
  rw [e] at this
  cases this
theorem endD {as os δ : List Slot} {r r' : Slot} (h : r' = r) (e : muIdx as 0 = [] := by rfl) : Ends0 as (.ret r' os) (.rt r δ) := ⟨h, fun i hi => by rw [e] at hi; cases hi⟩
theorem endN {as os δ : List Slot} (e : muIdx as 0 = [] := by rfl) : Ends0 as (.ret (.dat .non) os) (.nx δ) := ⟨rfl, fun i hi => by rw [e] at hi; cases hi⟩
section
variable {X : Cx} {G : Ent} {M : Md} {N : List Str} {sc : Scope} {fb : Str → Bool} {k j : Nat} {δ δ1 δ2 δ3 δ4 δ5 δ6 : List Slot} {a b c d e f : Expr} {d1 d2 d3 d4 d5 d6 : D} {pos p : Pos} {x : Str} {S : PSpec} {r : Slot} {os : List Slot} {CX : CXT}
theorem ev_call1 (g : Good X M N sc fb k) (cf : Fn M CX x j S) (ha : EV X G a δ (.dat d1) δ1) (hs : S [.dat d1] (.ret r os)) (hj : j ≤ k := by decide) (hg : sc.names.lookup x = some .globalImplicit := by rfl) (hdb : (x == ("__debug__" : Str)) = false := by decide)
    (e1 : starEach [a] X.env = (false, eval a X.env) :: starEach [] X.env := by rfl) (hpl : (backTo pos (starEach [] X.env)).any (·.1) = false := by rfl) : EV X G (.Call (.Name x p) [a] [] pos) δ r δ1 :=
  ev_call g cf hj (ea_cons ha ea_nil e1) hs hg hdb e1 hpl
theorem ev_call2 (g : Good X M N sc fb k) (cf : Fn M CX x j S) (ha : EV X G a δ (.dat d1) δ1) (hb : EV X G b δ1 (.dat d2) δ2) (hs : S [.dat d1, .dat d2] (.ret r os)) (hj : j ≤ k := by decide) (hg : sc.names.lookup x = some .globalImplicit := by rfl) (hdb : (x == ("__debug__" : Str)) = false := by decide)
    (e1 : starEach [a, b] X.env = (false, eval a X.env) :: starEach [b] X.env := by rfl) (e2 : starEach [b] X.env = (false, eval b X.env) :: starEach [] X.env := by rfl) (hpl : (backTo pos (starEach [b] X.env)).any (·.1) = false := by rfl) : EV X G (.Call (.Name x p) [a, b] [] pos) δ r δ2 :=
  ev_call g cf hj (ea_cons ha (ea_cons hb ea_nil e2) e1) hs hg hdb e1 hpl
theorem ev_call3 (g : Good X M N sc fb k) (cf : Fn M CX x j S) (ha : EV X G a δ (.dat d1) δ1) (hb : EV X G b δ1 (.dat d2) δ2) (hc : EV X G c δ2 (.dat d3) δ3) (hs : S [.dat d1, .dat d2, .dat d3] (.ret r os)) (hj : j ≤ k := by decide) (hg : sc.names.lookup x = some .globalImplicit := by rfl) (hdb : (x == ("__debug__" : Str)) = false := by decide)
    (e1 : starEach [a, b, c] X.env = (false, eval a X.env) :: starEach [b, c] X.env := by rfl) (e2 : starEach [b, c] X.env = (false, eval b X.env) :: starEach [c] X.env := by rfl) (e3 : starEach [c] X.env = (false, eval c X.env) :: starEach [] X.env := by rfl) (hpl : (backTo pos (starEach [b, c] X.env)).any (·.1) = false := by rfl) : EV X G (.Call (.Name x p) [a, b, c] [] pos) δ r δ3 :=
  ev_call g cf hj (ea_cons ha (ea_cons hb (ea_cons hc ea_nil e3) e2) e1) hs hg hdb e1 hpl
theorem ev_call4 (g : Good X M N sc fb k) (cf : Fn M CX x j S) (ha : EV X G a δ (.dat d1) δ1) (hb : EV X G b δ1 (.dat d2) δ2) (hc : EV X G c δ2 (.dat d3) δ3) (hd : EV X G d δ3 (.dat d4) δ4) (hs : S [.dat d1, .dat d2, .dat d3, .dat d4] (.ret r os)) (hj : j ≤ k := by decide) (hg : sc.names.lookup x = some .globalImplicit := by rfl) (hdb : (x == ("__debug__" : Str)) = false := by decide)
    (e1 : starEach [a, b, c, d] X.env = (false, eval a X.env) :: starEach [b, c, d] X.env := by rfl) (e2 : starEach [b, c, d] X.env = (false, eval b X.env) :: starEach [c, d] X.env := by rfl) (e3 : starEach [c, d] X.env = (false, eval c X.env) :: starEach [d] X.env := by rfl) (e4 : starEach [d] X.env = (false, eval d X.env) :: starEach [] X.env := by rfl) (hpl : (backTo pos (starEach [b, c, d] X.env)).any (·.1) = false := by rfl) : EV X G (.Call (.Name x p) [a, b, c, d] [] pos) δ r δ4 :=
  ev_call g cf hj (ea_cons ha (ea_cons hb (ea_cons hc (ea_cons hd ea_nil e4) e3) e2) e1) hs hg hdb e1 hpl
theorem ev_call5 (g : Good X M N sc fb k) (cf : Fn M CX x j S) (ha : EV X G a δ (.dat d1) δ1) (hb : EV X G b δ1 (.dat d2) δ2) (hc : EV X G c δ2 (.dat d3) δ3) (hd : EV X G d δ3 (.dat d4) δ4) (h5 : EV X G e δ4 (.dat d5) δ5) (hs : S [.dat d1, .dat d2, .dat d3, .dat d4, .dat d5] (.ret r os)) (hj : j ≤ k := by decide) (hg : sc.names.lookup x = some .globalImplicit := by rfl) (hdb : (x == ("__debug__" : Str)) = false := by decide)
    (e1 : starEach [a, b, c, d, e] X.env = (false, eval a X.env) :: starEach [b, c, d, e] X.env := by rfl) (e2 : starEach [b, c, d, e] X.env = (false, eval b X.env) :: starEach [c, d, e] X.env := by rfl) (e3 : starEach [c, d, e] X.env = (false, eval c X.env) :: starEach [d, e] X.env := by rfl) (e4 : starEach [d, e] X.env = (false, eval d X.env) :: starEach [e] X.env := by rfl) (e5 : starEach [e] X.env = (false, eval e X.env) :: starEach [] X.env := by rfl) (hpl : (backTo pos (starEach [b, c, d, e] X.env)).any (·.1) = false := by rfl) : EV X G (.Call (.Name x p) [a, b, c, d, e] [] pos) δ r δ5 :=
  ev_call g cf hj (ea_cons ha (ea_cons hb (ea_cons hc (ea_cons hd (ea_cons h5 ea_nil e5) e4) e3) e2) e1) hs hg hdb e1 hpl
end

/-- the module's name x is a constant that stands for d -/
def GlobD (M : Md) (x : Str) (d : D) : Prop := ∃ v u, M.mg x = some u ∧ RelV v u ∧ ∀ B, Rep M.K B v d
theorem ev_gd {X : Cx} {G : Ent} {M : Md} {N : List Str} {sc : Scope} {fb : Str → Bool} {k : Nat} {δ : List Slot} {d : D} {pos : Pos} {x : Str} (g : Good X M N sc fb k) (h : GlobD M x d) (hg : sc.names.lookup x = some .globalImplicit := by rfl) (hd : (x == ("__debug__" : Str)) = false := by decide) : EV X G (.Name x pos) δ (.dat d) δ := by
  obtain ⟨v, u, a, b, c⟩ := h
  exact ev_glob g a b c hg hd

/-! ### fractions -/
def fr (q : Rat) : D := .tup [.int q.num, .int q.den]
/-- small enough for the model's arithmetic -/
def Sz (q : Rat) : Prop := q.num.natAbs < 2 ^ 4000 ∧ q.den < 2 ^ 4000
theorem mok {i j : Int} (hi : i.natAbs < 2 ^ 4000) (hj : j.natAbs < 2 ^ 4000) : MulOk i j := mulx_ok hi hj (by decide)
theorem Sz.n {q : Rat} (h : Sz q) : q.num.natAbs < 2 ^ 4000 := h.1
theorem Sz.d {q : Rat} (h : Sz q) : (q.den : Int).natAbs < 2 ^ 4000 := h.2
/-- a product of small ones: how great the whole is -/
theorem mul_lt {i j : Int} {a b : Nat} (hi : i.natAbs < 2 ^ a) (hj : j.natAbs < 2 ^ b) : (i * j).natAbs < 2 ^ (a + b) := wide_lt hi hj
theorem low_eq {a b : Int} (hb : 0 < b) : (mkRat a b.toNat).num = a / ((Nat.gcd a.natAbs b.natAbs : Nat) : Int) ∧ ((mkRat a b.toNat).den : Int) = b / ((Nat.gcd a.natAbs b.natAbs : Nat) : Int) := by
  have h : b.toNat ≠ 0 := by omega
  have e : b.natAbs = b.toNat := by omega
  unfold mkRat
  rw [dif_neg h, Rat.normalize_eq, e]
  refine ⟨rfl, ?_⟩
  show ((b.toNat / a.natAbs.gcd b.toNat : Nat) : Int) = _
  rw [Int.natCast_ediv, Int.toNat_of_nonneg (by omega)]
theorem den_pos (q : Rat) : (0 : Int) < q.den := by have := q.den_pos; omega
theorem fr_add (a b : Rat) : mkRat (a.num * b.den + b.num * a.den) ((a.den : Int) * b.den).toNat = a + b := by
  rw [Rat.add_def, Rat.normalize_eq_mkRat]
  congr 1
theorem fr_sub (a b : Rat) : mkRat (a.num * b.den - b.num * a.den) ((a.den : Int) * b.den).toNat = a - b := by
  rw [Rat.sub_def, Rat.normalize_eq_mkRat]
  congr 1
theorem fr_mul (a b : Rat) : mkRat (a.num * b.num) ((a.den : Int) * b.den).toNat = a * b := by
  rw [Rat.mul_def, Rat.normalize_eq_mkRat]
  congr 1
theorem fr_lt (a b : Rat) : decide (a.num * b.den < b.num * a.den) = decide (a < b) := by rw [decide_eq_decide, Rat.lt_iff]
theorem fr_le (a b : Rat) : decide (a.num * b.den ≤ b.num * a.den) = decide (a ≤ b) := by rw [decide_eq_decide, Rat.le_iff]
theorem fr_self (a : Rat) : mkRat a.num (a.den : Int).toNat = a := by
  rw [Int.toNat_natCast, Rat.mkRat_self]
theorem fr_inj {a b : Rat} (h : fr a = fr b) : a = b := by
  unfold fr at h
  injection h with h
  injection h with h1 h2
  injection h2 with h2 _
  injection h1 with h1
  injection h2 with h2
  exact Rat.ext h1 (by omega)
end DL

namespace DL
open PySem L2
mutual
/-- numbers, tuples and lists of such -/
def D.pu : D → Bool
  | .int _ => true
  | .tup ds => D.pus ds
  | .lst ds => D.pus ds
  | _ => false
def D.pus : List D → Bool
  | [] => true
  | d :: ds => d.pu && D.pus ds
end
mutual
def D.dep : D → Nat
  | .tup ds => D.deps ds + 1
  | .lst ds => D.deps ds + 1
  | _ => 0
def D.deps : List D → Nat
  | [] => 0
  | d :: ds => max d.dep (D.deps ds)
end
mutual
theorem flat_pu : ∀ d : D, d.pu = true → d.flat = true
  | .int _, _ => rfl
  | .tup ds, h => by show D.flats ds = true; exact flats_pu ds h
  | .lst ds, h => by show D.flats ds = true; exact flats_pu ds h
  | .non, h => by cases h
  | .bl _, h => by cases h
  | .str _, h => by cases h
  | .ins _ _ _, h => by cases h
  | .ref _, h => by cases h
theorem flats_pu : ∀ ds : List D, D.pus ds = true → D.flats ds = true
  | [], _ => rfl
  | d :: ds, h => by
    have h' : (d.pu && D.pus ds) = true := h
    rw [Bool.and_eq_true] at h'
    show (d.flat && D.flats ds) = true
    rw [flat_pu d h'.1, flats_pu ds h'.2]; rfl
end
mutual
theorem lay_pu : ∀ d : D, d.pu = true → d.py.canLay0 = true ∧ d.py.depth = d.dep
  | .int _, _ => by unfold D.py PyData.canLay0 PyData.depth D.dep; exact ⟨rfl, rfl⟩
  | .tup ds, h => by
    have q := lays_pu ds h
    unfold D.py PyData.canLay0 PyData.depth D.dep
    exact ⟨q.1, by rw [q.2]⟩
  | .lst ds, h => by
    have q := lays_pu ds h
    unfold D.py PyData.canLay0 PyData.depth D.dep
    exact ⟨q.1, by rw [q.2]⟩
  | .non, h => by cases h
  | .bl _, h => by cases h
  | .str _, h => by cases h
  | .ins _ _ _, h => by cases h
  | .ref _, h => by cases h
theorem lays_pu : ∀ ds : List D, D.pus ds = true → PyData.canLayAll0 (D.pys ds) = true ∧ PyData.depthAll (D.pys ds) = D.deps ds
  | [], _ => by unfold D.pys PyData.canLayAll0 PyData.depthAll D.deps; exact ⟨rfl, rfl⟩
  | d :: ds, h => by
    have h' : (d.pu && D.pus ds) = true := h
    rw [Bool.and_eq_true] at h'
    have q1 := lay_pu d h'.1
    have q2 := lays_pu ds h'.2
    unfold D.pys PyData.canLayAll0 PyData.depthAll D.deps
    exact ⟨by rw [q1.1, q2.1]; rfl, by rw [q1.2, q2.2]⟩
end
theorem D.ok_pu {d : D} (h : d.pu = true) (hd : d.dep ≤ 64) : d.ok := by
  refine ⟨flat_pu d h, ?_⟩
  have q := lay_pu d h
  unfold SeqAt.shaped
  rw [q.1, q.2, decide_eq_true hd]; rfl
mutual
theorem eqv_pu : ∀ d e : D, d.pu = true → e.pu = true → (PyData.eqv d.py e.py = true ↔ d = e)
  | .int i, .int j, _, _ => by
    unfold D.py PyData.eqv
    rw [beq_iff_eq]
    exact ⟨fun h => by rw [h], fun h => by injection h⟩
  | .tup a, .tup b, h, h' => by
    have q := eqvs_pu a b h h'
    unfold D.py PyData.eqv
    exact ⟨fun h => by rw [q.mp h], fun h => q.mpr (by injection h)⟩
  | .lst a, .lst b, h, h' => by
    have q := eqvs_pu a b h h'
    unfold D.py PyData.eqv
    exact ⟨fun h => by rw [q.mp h], fun h => q.mpr (by injection h)⟩
  | .int _, .tup _, _, _ => by simp [D.py, PyData.eqv]
  | .int _, .lst _, _, _ => by simp [D.py, PyData.eqv]
  | .tup _, .int _, _, _ => by simp [D.py, PyData.eqv]
  | .tup _, .lst _, _, _ => by simp [D.py, PyData.eqv]
  | .lst _, .int _, _, _ => by simp [D.py, PyData.eqv]
  | .lst _, .tup _, _, _ => by simp [D.py, PyData.eqv]
  | .non, _, h, _ => by cases h
  | .bl _, _, h, _ => by cases h
  | .str _, _, h, _ => by cases h
  | .ins _ _ _, _, h, _ => by cases h
  | .ref _, _, h, _ => by cases h
  | .int _, .non, _, h => by cases h
  | .int _, .bl _, _, h => by cases h
  | .int _, .str _, _, h => by cases h
  | .int _, .ins _ _ _, _, h => by cases h
  | .int _, .ref _, _, h => by cases h
  | .tup _, .non, _, h => by cases h
  | .tup _, .bl _, _, h => by cases h
  | .tup _, .str _, _, h => by cases h
  | .tup _, .ins _ _ _, _, h => by cases h
  | .tup _, .ref _, _, h => by cases h
  | .lst _, .non, _, h => by cases h
  | .lst _, .bl _, _, h => by cases h
  | .lst _, .str _, _, h => by cases h
  | .lst _, .ins _ _ _, _, h => by cases h
  | .lst _, .ref _, _, h => by cases h
theorem eqvs_pu : ∀ ds es : List D, D.pus ds = true → D.pus es = true → (PyData.eqvAll (D.pys ds) (D.pys es) = true ↔ ds = es)
  | [], [], _, _ => by simp [D.pys, PyData.eqvAll]
  | [], _ :: _, _, _ => by simp [D.pys, PyData.eqvAll]
  | _ :: _, [], _, _ => by simp [D.pys, PyData.eqvAll]
  | d :: ds, e :: es, h, h' => by
    have h1 : (d.pu && D.pus ds) = true := h
    have h2 : (e.pu && D.pus es) = true := h'
    rw [Bool.and_eq_true] at h1 h2
    have q1 := eqv_pu d e h1.1 h2.1
    have q2 := eqvs_pu ds es h1.2 h2.2
    simp [D.pys, PyData.eqvAll, q1, q2]
end
theorem pus_of {ds : List D} (h : ∀ d ∈ ds, d.pu = true) : D.pus ds = true := by
  induction ds with
  | nil => rfl
  | cons d ds ih =>
    show (d.pu && D.pus ds) = true
    rw [h d (List.mem_cons_self ..), ih fun x hx => h x (List.mem_cons_of_mem _ hx)]; rfl
theorem deps_le {ds : List D} {n : Nat} (h : ∀ d ∈ ds, d.dep ≤ n) : D.deps ds ≤ n := by
  induction ds with
  | nil => exact Nat.zero_le _
  | cons d ds ih =>
    show max d.dep (D.deps ds) ≤ n
    exact Nat.max_le.mpr ⟨h d (List.mem_cons_self ..), ih fun x hx => h x (List.mem_cons_of_mem _ hx)⟩
theorem fr_pu (q : Rat) : (fr q).pu = true := rfl
theorem fr_dep (q : Rat) : (fr q).dep ≤ 1 := by show max 0 (max 0 0) + 1 ≤ 1; decide
theorem fr_ok (q : Rat) : (fr q).ok := D.ok_pu rfl (Nat.le_trans (fr_dep q) (by decide))
theorem bool_eq {a b : Bool} (h : a = true ↔ b = true) : a = b := by cases a <;> cases b <;> simp_all
theorem eqv_fr (x y : Rat) : PyData.eqv (fr x).py (fr y).py = decide (x = y) := by
  refine bool_eq ?_
  rw [eqv_pu _ _ rfl rfl, decide_eq_true_eq]
  exact ⟨fr_inj, fun h => by rw [h]⟩
section
variable {X : Cx} {G : Ent} {M : Md} {N : List Str} {sc : Scope} {fb : Str → Bool} {k : Nat} {δ δ1 δ2 : List Slot} {a b : Expr} {pos : Pos} {x y : Rat}
theorem et_eqF (g : Good X M N sc fb k) (ha : EV X G a δ (.dat (fr x)) δ1) (hb : EV X G b δ1 (.dat (fr y)) δ2) : ET X G (.Compare a [.Eq] [b] pos) δ (decide (x = y)) δ2 := by
  have h := et_eqD (pos := pos) g ha hb (fr_ok x) (fr_ok y)
  rw [eqv_fr] at h
  exact h
theorem et_neF (g : Good X M N sc fb k) (ha : EV X G a δ (.dat (fr x)) δ1) (hb : EV X G b δ1 (.dat (fr y)) δ2) : ET X G (.Compare a [.NotEq] [b] pos) δ (!decide (x = y)) δ2 := by
  have h := et_neD (pos := pos) g ha hb (fr_ok x) (fr_ok y)
  rw [eqv_fr] at h
  exact h
theorem ev_eqF (g : Good X M N sc fb k) (ha : EV X G a δ (.dat (fr x)) δ1) (hb : EV X G b δ1 (.dat (fr y)) δ2) : EV X G (.Compare a [.Eq] [b] pos) δ (.dat (.bl (decide (x = y)))) δ2 := by
  have h := ev_eqD (pos := pos) g ha hb (fr_ok x) (fr_ok y)
  rw [eqv_fr] at h
  exact h
end
theorem kit_tt {ds : List D} : kitB (tyD (.tup ds)) "tuple" = some true := by show kitB "tuple" "tuple" = _; decide +kernel
theorem kit_tl {ds : List D} : kitB (tyD (.tup ds)) "list" = some false := by show kitB "tuple" "list" = _; decide +kernel
theorem kit_ll {ds : List D} : kitB (tyD (.lst ds)) "list" = some true := by show kitB "list" "list" = _; decide +kernel
theorem kit_lt {ds : List D} : kitB (tyD (.lst ds)) "tuple" = some false := by show kitB "list" "tuple" = _; decide +kernel
theorem kit_bb {b : Bool} : kitB (tyD (.bl b)) "bool" = some true := by show kitB "bool" "bool" = _; decide +kernel
theorem mokS {i j : Int} (hi : i.natAbs < 2 ^ 64) (hj : j.natAbs < 2 ^ 64) : MulOk i j := mok (Nat.lt_of_lt_of_le hi (Nat.pow_le_pow_right (by decide) (by decide))) (Nat.lt_of_lt_of_le hj (Nat.pow_le_pow_right (by decide) (by decide)))
theorem cp_ok {i j : Int} (h : 0 ≤ j ∧ j ≤ 1000000 ∧ i.natAbs < 2 ^ 64 := by decide) : CPow i j := h
end DL
namespace DL
open PySem L2
theorem cutD_from (ds : List D) (n : Nat) : cutD ds (some (n : Int)) none = ds.drop n := by
  unfold cutD
  rw [HT.sIx_nat, HT.sIx_none]
  rcases Nat.le_total n ds.length with h | h
  · rw [Nat.min_eq_left h, List.take_of_length_le (by rw [List.length_drop]; omega)]
  · rw [Nat.min_eq_right h, List.drop_eq_nil_of_le (Nat.le_refl _), List.drop_eq_nil_of_le h, List.take_nil]
theorem cutD_to (ds : List D) (n : Nat) : cutD ds none (some (n : Int)) = ds.take n := by
  unfold cutD
  rw [HT.sIx_nat, HT.sIx_none, List.drop_zero, Nat.sub_zero]
  rcases Nat.le_total n ds.length with h | h
  · rw [Nat.min_eq_left h]
  · rw [Nat.min_eq_right h, List.take_of_length_le (Nat.le_refl _), List.take_of_length_le h]
section
variable {X : Cx} {G : Ent} {M : Md} {N : List Str} {sc : Scope} {fb : Str → Bool} {k : Nat} {δ δ1 : List Slot} {pos : Pos} {ds : List D} {js : List Nat}
theorem ei_lt {tg e : Expr} {h : D} (hh : h = .lst ds ∨ h = .tup ds) (ev : EV X G e δ (.dat h) δ1) : EI X G tg e δ ds δ1 := by
  rcases hh with rfl | rfl
  · exact ei_list ev
  · exact ei_tup ev
/-- (a, b, ..) = a list -/
theorem ag_lst (g : Good X M N sc fb k) {es : List Expr} {kk : Nat} (h : AGs X G es ds δ δ1 js) (hn : (assignEach es X.env).length = ds.length := by rfl) (hst : (assignEach es X.env).findIdx? (·.1) = none := by rfl) : AG X G (.Tuple es kk pos) (.lst ds) δ δ1 js := fun σ B H v S r Q q =>
  ⟨_, pg_lst g.calm pgs_cGs hn hst, by
    obtain ⟨a, vs, rfl, h1, h2⟩ := lst_of r
    exact ⟨a, vs, rfl, S.hb.seq h1, h2.length, h σ B H vs S h2 Q q⟩⟩
end
/-! ### comprehensions with one name -/
theorem wipe_one {δ : List Slot} {v : Nat} : wipeS δ [v] = δ.set v .un := rfl
theorem set_two {α : Type} (l : List α) (v : Nat) (a b : α) : (l.set v a).set v b = l.set v b := List.set_set ..
section
variable {X : Cx} {G : Ent} {M : Md} {N : List Str} {sc scope : Scope} {fb : Str → Bool} {k : Nat} {δ δ1 : List Slot} {pos xp : Pos} {elt it c : Expr} {ds : List D} {x : Str}
theorem ev_lcM1 (g : Good X M N sc fb k) (v : Nat) (ys : List D) (hb : v ∉ G.bor.map (·.1)) (hi : EI X G (.Name x xp) it δ ds δ1) (hl : ys.length = ds.length) (hn : ds.length ≤ 100000)
    (hs : ∀ (i : Nat) d, ds[i]? = some d → ∃ y, ys[i]? = some y ∧ Blk M N sc scope k G.bor (fun Y G' => EV Y G' elt (δ1.set v (.dat d)) (.dat y) (δ1.set v (.dat d))))
    (hN : N[v]? = some x := by rfl) (hlo : locB (relS scope sc) (fun x => scope.names.lookup x == some .cell) x = true := by rfl) (ok : blkC N sc scope [(x, v)] = true := by decide +kernel) (hf : ∀ x, foldedSetIterable it X.env x = pure x := by intro _; rfl) : EV X G (.ListComp elt [⟨.Name x xp, it, [], 0⟩] scope pos) δ (.own ys) (δ1.set v .un) := by
  refine ev_lcM g [(x, v)] [v] ys (fun w hw => ?_) hi rfl hl hn (fun i d hd => ?_) (fun j hj => by simpa using hj) ok hf
  · have : w = v := by simpa using hw
    rw [this]; exact hb
  · obtain ⟨y, h1, h2⟩ := hs i d hd
    refine ⟨δ1.set v (.dat d), y, h1, ?_, fun Y G' gy hG => ⟨?_, h2 Y G' gy hG⟩⟩
    · show (δ1.set v (.dat d)).set v .un = δ1.set v .un
      rw [set_two]
    · have := ag_name (pos := xp) (d := d) (δ := δ1.set v .un) gy v (by rw [hG]; exact hb) hN hlo
      rw [set_two] at this
      exact this
theorem ev_lcF1 (g : Good X M N sc fb k) (v : Nat) (f : D → Option D) (hb : v ∉ G.bor.map (·.1)) (hi : EI X G (.Name x xp) it δ ds δ1) (hn : ds.length ≤ 100000)
    (hs : ∀ (i : Nat) d, ds[i]? = some d → Blk M N sc scope k G.bor (fun Y G' => ET Y G' c (δ1.set v (.dat d)) (f d).isSome (δ1.set v (.dat d))) ∧ ∀ y, f d = some y → Blk M N sc scope k G.bor (fun Y G' => EV Y G' elt (δ1.set v (.dat d)) (.dat y) (δ1.set v (.dat d))))
    (hN : N[v]? = some x := by rfl) (hlo : locB (relS scope sc) (fun x => scope.names.lookup x == some .cell) x = true := by rfl) (ok : blkC N sc scope [(x, v)] = true := by decide +kernel) (hf : ∀ x, foldedSetIterable it X.env x = pure x := by intro _; rfl) : EV X G (.ListComp elt [⟨.Name x xp, it, [c], 0⟩] scope pos) δ (.own (ds.filterMap f)) (δ1.set v .un) := by
  refine ev_lcF g [(x, v)] [v] f (fun w hw => ?_) hi rfl hn (fun i d hd => ?_) (fun j hj => by simpa using hj) ok hf
  · have : w = v := by simpa using hw
    rw [this]; exact hb
  · obtain ⟨h1, h2⟩ := hs i d hd
    refine ⟨δ1.set v (.dat d), ?_, fun Y G' gy hG => ⟨?_, h1 Y G' gy hG⟩, h2⟩
    · show (δ1.set v (.dat d)).set v .un = δ1.set v .un
      rw [set_two]
    · have := ag_name (pos := xp) (d := d) (δ := δ1.set v .un) gy v (by rw [hG]; exact hb) hN hlo
      rw [set_two] at this
      exact this
variable {W : WX} {P : Out → Prop} {y : Str} {px spos : Pos}
theorem s_asgLcM1 (g : Good X M N sc fb k) (n v : Nat) (ys : List D) (hbn : ∀ i, i ∉ G.bor.map (·.1)) (p : P (.nx ((δ1.set v .un).set n (.own ys)))) (hi : EI X G (.Name x xp) it δ ds δ1) (hl : ys.length = ds.length) (hn : ds.length ≤ 100000)
    (hs : ∀ (i : Nat) d, ds[i]? = some d → ∃ y, ys[i]? = some y ∧ Blk M N sc scope k G.bor (fun Y G' => EV Y G' elt (δ1.set v (.dat d)) (.dat y) (δ1.set v (.dat d))))
    (hN2 : N[v]? = some x := by rfl) (hlo2 : locB (relS scope sc) (fun x => scope.names.lookup x == some .cell) x = true := by rfl) (ok : blkC N sc scope [(x, v)] = true := by decide +kernel)
    (hN : N[n]? = some y := by rfl) (hk : sc.kind = .function := by rfl) (hlo : sc.names.lookup y = some .local := by rfl) (hli : (px.line == pos.line) = true := by rfl) (ha : (scope.names.any fun (m, k) => m == y && (k == .local || k == .cell)) = false := by decide +kernel) (hsl : spos.line = pos.line := by rfl)
    (hf : ∀ x, foldedSetIterable it X.env x = pure x := by intro _; rfl) : SV1 X W G (.Assign [.Name y px] (.ListComp elt [⟨.Name x xp, it, [], 0⟩] scope pos) spos) δ P := by
  refine s_asgLcM g n [(x, v)] [v] ys (hbn n) p (fun w _ => hbn w) hi rfl hl hn (fun i d hd => ?_) (fun j hj => by simpa using hj) ok hN hk hlo hli ha hsl hf
  obtain ⟨y, h1, h2⟩ := hs i d hd
  refine ⟨δ1.set v (.dat d), y, h1, ?_, fun Y G' gy hG => ⟨?_, h2 Y G' gy hG⟩⟩
  · show (δ1.set v (.dat d)).set v .un = δ1.set v .un
    rw [set_two]
  · have := ag_name (pos := xp) (d := d) (δ := δ1.set v .un) gy v (by rw [hG]; exact hbn v) hN2 hlo2
    rw [set_two] at this
    exact this
end
section
variable {X : Cx} {G : Ent} {M : Md} {N : List Str} {sc scope : Scope} {fb : Str → Bool} {k : Nat} {δ δ1 δ2 : List Slot} {pos xp : Pos} {elt it c a b : Expr} {ds : List D} {x : Str} {i : Int} {d : D} {α : Type}
/-- the row's items stand for xs, one for each; those with q are kept, as y -/
theorem ev_lcFx (g : Good X M N sc fb k) (v : Nat) (xs : List α) (e : α → D) (q : α → Bool) (y : α → D) (inj : ∀ x y, e x = e y → x = y) (hb : v ∉ G.bor.map (·.1)) (hi : EI X G (.Name x xp) it δ (xs.map e) δ1) (hn : xs.length ≤ 100000)
    (hs : ∀ z ∈ xs, Blk M N sc scope k G.bor (fun Y G' => ET Y G' c (δ1.set v (.dat (e z))) (q z) (δ1.set v (.dat (e z)))) ∧ (q z = true → Blk M N sc scope k G.bor (fun Y G' => EV Y G' elt (δ1.set v (.dat (e z))) (.dat (y z)) (δ1.set v (.dat (e z))))))
    (hN : N[v]? = some x := by rfl) (hlo : locB (relS scope sc) (fun x => scope.names.lookup x == some .cell) x = true := by rfl) (ok : blkC N sc scope [(x, v)] = true := by decide +kernel) (hf : ∀ x, foldedSetIterable it X.env x = pure x := by intro _; rfl) : EV X G (.ListComp elt [⟨.Name x xp, it, [c], 0⟩] scope pos) δ (.own ((xs.filter q).map y)) (δ1.set v .un) := by
  classical
  let f : D → Option D := fun d => if h : ∃ z, e z = d then (if q (Classical.choose h) then some (y (Classical.choose h)) else none) else none
  have fe : ∀ z, f (e z) = if q z then some (y z) else none := fun z => by
    have h : ∃ w, e w = e z := ⟨z, rfl⟩
    show (if h : ∃ w, e w = e z then _ else _) = _
    rw [dif_pos h, inj _ _ (Classical.choose_spec h)]
  have key : (xs.map e).filterMap f = (xs.filter q).map y := by
    clear hs hi hn
    induction xs with
    | nil => rfl
    | cons z zs ih =>
      rw [List.map_cons, List.filterMap_cons, fe z]
      by_cases hq : q z = true
      · rw [if_pos hq, List.filter_cons_of_pos hq]; simp only []; rw [ih]; rfl
      · rw [if_neg hq, List.filter_cons_of_neg hq]; exact ih
  have r := ev_lcF1 (elt := elt) (pos := pos) (c := c) (scope := scope) g v f hb hi (by rw [List.length_map]; exact hn) (fun j d hd => by
    rw [List.getElem?_map] at hd
    cases ez : xs[j]? with
    | none => rw [ez] at hd; cases hd
    | some z =>
      rw [ez] at hd
      obtain rfl : e z = d := Option.some.inj hd
      obtain ⟨h1, h2⟩ := hs z (List.mem_of_getElem? ez)
      have es : (f (e z)).isSome = q z := by rw [fe]; by_cases hq : q z = true <;> simp [hq]
      refine ⟨by rw [es]; exact h1, fun w hw => ?_⟩
      rw [fe] at hw
      by_cases hq : q z = true
      · rw [if_pos hq] at hw
        obtain rfl := Option.some.inj hw
        exact h2 hq
      · rw [if_neg hq] at hw; cases hw) hN hlo ok hf
  rw [key] at r
  exact r
/-- an own list's name, read as a value -/
theorem ev_lst_of (g : Good X M N sc fb k) (n : Nat) {x : Str} (hb : n ∉ G.bor.map (·.1)) (hδ : δ[n]? = some (.own ds) := by rfl) (hN : N[n]? = some x := by rfl) (hv : visB sc x = true := by rfl) (hd : (x == ("__debug__" : Str)) = false := by decide) (hc : (x == ("__classdict__" : Str)) = false := by decide) :
    EV X G (.Name x pos) δ (.dat (.lst ds)) (δ.set n (.dat (.lst ds))) := ev_let (s := .own ds) g n hδ hb rfl hN hv hd hc
/-- an item of a list or a tuple -/
theorem ev_ixLT {h : D} (hh : h = .lst ds ∨ h = .tup ds) (ha : EV X G a δ (.dat h) δ1) (hb : EV X G b δ1 (.dat (.int i)) δ2) (hi : atI ds i = some d) (hp : PlainIx b := by exact fun _ _ => rfl) : EV X G (.Subscript a b pos) δ (.dat d) δ2 := by
  rcases hh with rfl | rfl
  · exact ev_ixL ha hb hi hp
  · exact ev_ixT ha hb hi hp
end
/-- a statement in the midst: what holds behind it -/
def MidP (I : List Slot → Prop) (P : Out → Prop) : Out → Prop
  | .nx δ => I δ
  | .rt r δ => P (.rt r δ)
  | .bk δ => P (.bk δ)
  | .ct δ => P (.ct δ)
  | .ex C ns ds δ => P (.ex C ns ds δ)
theorem sv_mid {X : Cx} {W : WX} {G : Ent} {δ : List Slot} {P : Out → Prop} {s : Stmt} {rest : List Stmt} (I : List Slot → Prop) (h : SV1 X W G s δ (MidP I P)) (k : ∀ δ', I δ' → SV X W G rest δ' P) : SV X W G (s :: rest) δ P :=
  sv_cons (h.imp fun o ho => by cases o <;> first | exact ho | exact k _ ho)
end DL

namespace DL
open PySem L2 PySem.Spec PyProof.Rows
section
variable {X : Cx} {C : Addr} {bmB : List Value} {B newId initId : String} {x : Str} {p pos : Pos}
/-- an own error without own __init__, made with nothing -/
theorem pmk_none (FB : ExcBaseFacts B newId initId bmB) (hx : PySem.W.excIn X.K C bmB newId = true) (hm : X.mg x = some (.ref C)) (hk : PySem.W.keepIn X.K (.ref C) = true) (hr : Raises X (.ref C)) (hg : Gl X x) (hd : (x == ("__debug__" : Str)) = false) :
    PMk X (.Call (.Name x p) [] [] pos) (fun _ H Q => Q (.ref C) none H) := fun pins s σ H Q J hq => by
  refine wpAny_Call_Name_kw (ld_glob J hg hm ?_ hd)
  refine PySem.W.callWith_K0 (K := X.K) J.kIn hk ?_
  obtain ⟨_, _, _, _, _, _, _, _, _, _, _, _, _, _, _, _, _, c2, c3, c4, c5⟩ := exc_obj J.kIn hx
  show wpAny _ _ (call (.ref C) []) _ _ _
  exact wpAny_call_exc_subT FB c5 c2 c3 c4 (fun _ _ mk => mk_of J mk hr hq (J.hok.gone mk.new)) (Nat.zero_le _)
end

/-! ### try: the first clause takes what the body raises -/
/-- the clause's wish: it does take it, and the suite runs with the error in slot i -/
def wFirst (K : PySem.W.Frag) (c : Value) (i : Nat) (ts : Addr → Value → Option Addr → TS) (D : Ends) : WX := fun cls d σ H =>
  PySem.W.exmOne K cls c = some true ∧ ∀ a, H a = none → ts a cls d ⟨fun σ1 H1 => D.nx (σ1.set i none) H1, D.rt, fun σ1 H1 => D.bk (σ1.set i none) H1, fun σ1 H1 => D.ct (σ1.set i none) H1⟩ (σ.set i (some (.ref a))) H
section
variable {X : Cx} {x n : Str} {c : Value} {i : Nat} {body suite : List Stmt} {st : Stmt} {np pos cpos : Pos} {tb : WX → TS} {ts : Addr → Value → Option Addr → TS} {more : List ExceptHandler}
theorem ps_try_first (h1 : X.stack = X.env :: X.outer) (h2 : X.env.frame = some X.env.locals) (h3 : X.N.Nodup) (h4 : X.N[i]? = some n) (h5 : X.env.kindOf n = some .local) (h6 : Names X x c)
    (hb : ∀ (W1 : WX) (pn : List (Addr × Obj)) (xe : Value → Shared → Prop), Takes (X.tr pn xe) W1 → PassesOwn (model X.prog X.w) X.A X.env xe → PSs (X.tr pn xe) body (tb W1))
    (hs : ∀ (a : Addr) (oe : Obj) (cls : Value) (d : Option Addr) (pn : List (Addr × Obj)), Zc cls d oe → (∃ vs, oe.data = .fields vs) → PSs (X.suite a ((a, oe) :: pn)) (st :: suite) (ts a cls d)) :
    PS X (.Try body (.ExceptHandler (some (.Name x np)) (some n) (st :: suite) cpos :: more) [] [] pos) (fun D σ H => tb (wFirst X.K c i ts D) D σ H) := by
  refine ⟨fun pins s σ H D J0 hw => wpAny_Try_except ?_⟩
  have okX := J0.ok
  have frm : X.A.frames = some (X.env :: X.outer) := okX.frames.trans (congrArg some h1)
  have run := (hb (wFirst X.K c i ts D) (X.pn ++ pins) (fun e r => wpAny (model X.prog X.w) X.A (noteFrame e X.env) (fun _ r2 => wpAny (model X.prog X.w) X.A (setFlight e none) (fun _ r3 =>
    wpAny (model X.prog X.w) X.A (handleBy e X.env (.ExceptHandler (some (.Name x np)) (some n) (st :: suite) cpos :: more)) (SP X pins D) X.xe r3) X.xe r2) X.xe r) (fun u q ev => ?_) PassesOwn.looking).run [] s σ H D (J0.toTry _) hw
  · refine wpAny_mono run (fun fl t ht => ?_) fun _ _ z => z
    cases fl with
    | ret u => obtain ⟨v, σ1, H1, J1, rv, w⟩ := ht; exact ⟨v, σ1, H1, J1.ofTry okX, rv, w⟩
    | brk => obtain ⟨σ1, H1, J1, w⟩ := ht; exact ⟨σ1, H1, J1.ofTry okX, w⟩
    | cont => obtain ⟨σ1, H1, J1, w⟩ := ht; exact ⟨σ1, H1, J1.ofTry okX, w⟩
    | next => obtain ⟨σ1, H1, J1, w⟩ := ht; exact wpAny_execs_nil ⟨σ1, H1, J1.ofTry okX, w⟩
  · obtain ⟨a, G0, sG, pins1, σ1, H1, cls, d, rfl, J1, nbb, upp, sky, free, oss, ags, yes, goes⟩ := ev
    have K1 : Inv X pins σ1 H1 sG := J1.ofTry okX
    have sky1 : Sky G0 (X.env :: X.outer) a (Zc cls d) X.env.locals q.heap := h1 ▸ sky
    show wpAny (model X.prog X.w) X.A (noteFrame (.ref a) X.env) _ _ _
    refine Sky.land Zc.steady frm h2 sky1 fun hA flA upA => ?_
    have KA : Inv X pins σ1 H1 { q with heap := hA } := K1.landed nbb flA.1 (upp.trans upA) oss ags
    obtain ⟨oA, vA, gA, zA, dA⟩ := flA.there
    have off : a ∉ frs (X.env :: X.outer) := fun hm => by
      obtain ⟨_, o2, g2, nf⟩ := flA.2.2.1.mem hm
      rw [gA] at g2
      cases g2
      exact nf _ dA
    have offL : a ≠ X.env.locals := fun z => off (List.mem_filterMap.mpr ⟨X.env, List.mem_cons_self, by rw [z]; exact h2⟩)
    have offF : a ∉ X.fs := fun hm => by
      obtain ⟨e, he, w⟩ := List.mem_filterMap.mp hm
      exact off (List.mem_filterMap.mpr ⟨e, List.mem_cons_of_mem _ he, w⟩)
    have SA := KA.suite gA dA free offL offF
    refine wpAny_handleBy_cons (codeAny_handlers_test ?_) (fun w => by cases w)
    have look : PySem.W.Looks (model X.prog X.w) hA (typeOf (.ref a)) cls := fun _ _ _ _ k w => wpAny_typeOf_ref (k _ _ gA) (by rw [zA.1]; exact w)
    have named : ∀ {Q E : Value → Shared → Prop}, Q c { q with heap := hA } → wpAny (model X.prog X.w) (X.A.mark (some (.ref a))) (eval (.Name x np) X.env) Q E { q with heap := hA } := fun {_ _} w => by
      rcases h6 with ⟨g1, g2, g3 | ⟨g3, g4, g5⟩⟩
      · exact ld_glob (X := X.suite a ((a, oA) :: (X.pn ++ pins))) SA g1 g3 w g2
      · exact ld_blt (X := X.suite a ((a, oA) :: (X.pn ++ pins))) SA g1 g3 g4 w g5 g2
    refine named ((PySem.W.exm_one (M := model X.prog X.w) KA.kIn look yes).here (codeAny_handlers_suite_as ?_))
    refine HandSPX.lands_againZ flA fun hB flB upB => ?_
    have KB : Inv X pins σ1 H1 { q with heap := hB } := K1.landed nbb flB.1 ((upp.trans upA).trans upB) oss ags
    obtain ⟨oB, vB, gB, zB, dB⟩ := flB.there
    refine store_ok (X := X.suite a ((a, oB) :: (X.pn ++ pins))) (v := .ref a) (KB.suite gB dB free offL offF) h3 h4 (.inl h5) rfl (fun t5 S5 => ?_) (.inr h5)
    refine wpAny_mono ((hs a oB cls d (X.pn ++ pins) zB ⟨_, dB⟩).run [] t5 _ H1 _ S5 (goes a free)) (fun fl t6 ht => ?_) (fun _ _ z => z.elim)
    have fin : ∀ {σ6 : L2.St} {H6 : Hp} {Q : Shared → Prop}, Inv (X.suite a ((a, oB) :: (X.pn ++ pins))) [] σ6 H6 t6 → (∀ t7, Inv X pins (σ6.set i none) H6 t7 → Q t7) →
        wpAny (model X.prog X.w) X.A (do bindName X.env n .none; unbindBehindTheSuite X.env n cpos) (fun _ t7 => Q t7) X.xe t6 := fun {_ _ _} S6 w => gone_ok (S6.unsuite okX) h3 h4 h5 w
    cases fl with
    | ret u => obtain ⟨v6, σ6, H6, S6, r6, w6⟩ := ht; exact fin S6 fun t7 K7 => ⟨_, _, _, K7, r6, w6⟩
    | brk => obtain ⟨σ6, H6, S6, w6⟩ := ht; exact fin S6 fun t7 K7 => ⟨_, _, K7, w6⟩
    | cont => obtain ⟨σ6, H6, S6, w6⟩ := ht; exact fin S6 fun t7 K7 => ⟨_, _, K7, w6⟩
    | next => obtain ⟨σ6, H6, S6, w6⟩ := ht; exact fin S6 fun t7 K7 => ⟨_, _, K7, w6⟩
end

section
variable {X : Cx} {W : WX} {G : Ent} {M : Md} {N : List Str} {sc : Scope} {fb : Str → Bool} {k : Nat} {δ δ1 δ2 : List Slot} {P : Out → Prop} {x n : Str} {e : Expr} {es : List Expr} {pos p px npos rpos cpos : Pos} {S : PSpec} {C : Addr} {ns : List Str} {ds ds' : List D} {os : List Slot} {j : Nat} {body suite : List Stmt} {st : Stmt} {more : List ExceptHandler}
/-- the module's class x is an error of its own without own __init__ that may be raised with nothing -/
structure ErrC (M : Md) (x : Str) (C : Addr) : Prop where
  gl : M.mg x = some (.ref C)
  kp : PySem.W.keepIn M.K (.ref C) = true
  ex : PySem.W.excIn M.K C [.type "ValueError", .type "Exception", .type "BaseException", .type "object"] "ValueError.__new__" = true
  sb : PySem.W.subIn M.K (.ref C) (.type "BaseException") = some true
  ty : PySem.W.typeIn M.K (.ref C) = some (.type "type")
/-- raise X() -/
theorem s_raise0 (g : Good X M N sc fb k) (tk : Takes X W) (c : ErrC M x C) (q : P (.ex C [] [] δ)) (hg : sc.names.lookup x = some .globalImplicit := by rfl) (hd : (x == ("__debug__" : Str)) = false := by decide) : SV1 X W G (.Raise (some (.Call (.Name x p) [] [] pos)) none rpos) δ P := fun σ B H S E F =>
  ⟨_, ps_raise g.calm tk (pmk_none PySem.F.excBase_ValueError (by rw [g.K]; exact c.ex) (mn_of g c.gl) (by rw [g.K]; exact c.kp) (raises_own (by rw [g.K]; exact c.sb) (by rw [g.K]; exact c.ty)) (gl_of g hg) hd), F.ex C [] [] δ σ B H none q S (Same.refl _) (.inl ⟨rfl, rfl, rfl⟩)⟩
/-- f(e, ..), a def that raises -/
theorem s_callX (g : Good X M N sc fb k) (tk : Takes X W) (c : Fn M (L2.CX M.P M.w) x j S) (hj : j ≤ k) (ha : EA X G (e :: es) δ ds δ1) (hs : S (ds.map .dat) (.exc C ns ds' os)) (q : P (.ex C ns ds' δ1))
    (hg : sc.names.lookup x = some .globalImplicit := by rfl) (hdb : (x == ("__debug__" : Str)) = false := by decide)
    (he : starEach (e :: es) X.env = (false, eval e X.env) :: starEach es X.env := by rfl) (hpl : (backTo pos (starEach es X.env)).any (·.1) = false := by rfl) (hsw : swapsWith (.Call (.Name x p) (e :: es) [] pos) none rpos.line X.env = pure false := by rfl) :
    SV1 X W G (.Expr (.Call (.Name x p) (e :: es) [] pos) rpos) δ P := fun σ B H S0 E F => by
  obtain ⟨f, fd, ps, Fk, m1, m2, m3⟩ := c.ex
  have F' : FnOk X.prog X.w X.K X.mg X.base (L2.CX X.prog X.w) j f fd ps (spOf X.K S) := by rw [g.P, g.w, g.K, g.mg, g.base]; exact Fk
  have nb : ∀ n, Arg.bor n ∉ ds.map Arg.val := fun n h => by
    obtain ⟨d, _, e⟩ := List.mem_map.mp h
    cases e
  have ng : ∀ (i n : Nat), (ds.map Arg.val)[i]? ≠ some (.bor n) := fun i n h => nb n (List.mem_of_getElem? h)
  have es1 : (ds.map Arg.val).map (seen δ1) = ds.map .dat := by rw [List.map_map]; rfl
  refine ⟨_, ps_expr (pe_callS (E := WE W) F' (g.room.mono hj) (gl_of g hg) (mn_of g m1) (by rw [g.K]; exact m2) (by rw [g.K]; exact m3) (fun τ => passAt tk τ) pa_cA hdb he hpl) hsw, ha σ B H S0 _ fun vs B1 H1 S1 s1 r1 => ?_⟩
  refine ⟨B1, (ds.map Arg.val).map (seen δ1), .exc C ns ds' os, by rw [es1]; exact hs, start_of S1 (ArgsR.of r1) (fun n h => absurd h (nb n)) (fun i _ n h => absurd h (ng i n)), fun d B' H' po rr => ?_⟩
  have S2 := sat_post (δ2 := δ1) S1 (ArgsR.of r1) po (fun n h => absurd h (nb n)) rfl (fun _ _ => rfl) (fun i n h => absurd h (ng i n))
  exact F.ex C ns ds' δ1 σ B' H' d q S2 (s1.trans po.b) rr
theorem pss_if {X : Cx} {b : List Stmt} {t : TS} {q : Prop} (h : q → PSs X b t) : PSs X b (fun D σ H => q ∧ t D σ H) := ⟨fun pins s σ H E I ⟨hq, ht⟩ => (h hq).run pins s σ H E I ht⟩
theorem Sat.unset (S : Sat M.K G δ σ B H) {i : Nat} (hb : i ∉ G.bor.map (·.1)) : Sat M.K G (δ.set i .un) (σ.set i none) B H := Sat.wipe (vs := [i]) S fun v hv => by rw [List.mem_singleton.mp hv]; exact hb
/-- how the suite's ends go on -/
def UnP (i : Nat) (P : Out → Prop) : Out → Prop
  | .nx δ => P (.nx (δ.set i .un))
  | .rt r δ => P (.rt r δ) ∧ r.mu = false
  | .bk δ => P (.bk (δ.set i .un))
  | .ct δ => P (.ct (δ.set i .un))
  | .ex _ _ _ _ => False
/-- what the body may do -/
def TryP (C : Addr) (R : List Slot → Prop) (P : Out → Prop) : Out → Prop
  | .nx δ => P (.nx δ)
  | .rt r δ => P (.rt r δ)
  | .bk δ => P (.bk δ)
  | .ct δ => P (.ct δ)
  | .ex C' ns _ δ => C' = C ∧ ns = [] ∧ R δ
/-- try: .. except c as n: ..; the body raises nothing but C, which the first clause takes -/
theorem s_try1 (g : Good X M N sc fb k) (hs : X.stack = X.env :: X.outer) (hf : X.env.frame = some X.env.locals) (i : Nat) (c : Value) (C : Addr) (R : List Slot → Prop) (hb : i ∉ G.bor.map (·.1)) (hm : M.mg x = some c) (ym : PySem.W.exmOne M.K (.ref C) c = some true)
    (hbody : ∀ (Y : Cx) (V : WX), Good Y M N sc fb k → Takes Y V → SV Y V G body δ (TryP C R P))
    (hsuite : ∀ (δ' : List Slot) (a : Addr) (oe : Obj) (pn : List (Addr × Obj)) (V : WX), R δ' → Zc (.ref C) none oe → (∃ vs, oe.data = .fields vs) → SV (X.suite a ((a, oe) :: pn)) V G (st :: suite) (δ'.set i (.dat (.ref a))) (UnP i P))
    (hN : N[i]? = some n := by rfl) (hl : sc.names.lookup n = some .local := by rfl) (hg : sc.names.lookup x = some .globalImplicit := by rfl) (hdb : (x == ("__debug__" : Str)) = false := by decide) :
    SV1 X W G (.Try body (.ExceptHandler (some (.Name x npos)) (some n) (st :: suite) cpos :: more) [] [] pos) δ P := fun σ B H S E F => by
  let tb : WX → TS := fun V D σ H => ∀ pn xe, Takes (X.tr pn xe) V → PassesOwn (model X.prog X.w) X.A X.env xe → cB (X.tr pn xe) body D σ H
  let ts : Addr → Value → Option Addr → TS := fun a cls d D σ1 H1 => (cls = .ref C ∧ d = none) ∧ ∀ (oe : Obj) (pn : List (Addr × Obj)), Zc (.ref C) none oe → (∃ vs, oe.data = .fields vs) → cB (X.suite a ((a, oe) :: pn)) (st :: suite) D σ1 H1
  refine ⟨_, ps_try_first (tb := tb) (ts := ts) hs hf (by rw [g.nm]; exact g.nd) (by rw [g.nm]; exact hN) (by unfold Env.kindOf; rw [g.sc]; exact hl) ⟨gl_of g hg, hdb, .inl (mn_of g hm)⟩ (fun V pn xe tk po => ⟨fun pins s σ H E I h => pss_cB.run pins s σ H E I (h pn xe tk po)⟩) (fun a oe cls d pn hz hv => pss_if fun ⟨h1, h2⟩ => ⟨fun pins s σ H E I h => pss_cB.run pins s σ H E I (h oe pn (by rw [← h1, ← h2]; exact hz) hv)⟩), ?_⟩
  intro pn xe tk po
  have gY : Good (X.tr pn xe) M N sc fb k := ⟨g.P, g.w, g.K, g.mg, g.base, g.nm, g.sc, g.calm, g.nd, g.fn, g.room, po⟩
  refine hbody (X.tr pn xe) _ gY tk σ B H S E ⟨fun δ1 σ1 B1 H1 q S1 s1 => F.nx δ1 σ1 B1 H1 q S1 s1, fun r δ1 σ1 B1 H1 v q S1 s1 rr => F.rt r δ1 σ1 B1 H1 v q S1 s1 rr, fun δ1 σ1 B1 H1 q S1 s1 => F.bk δ1 σ1 B1 H1 q S1 s1, fun δ1 σ1 B1 H1 q S1 s1 => F.ct δ1 σ1 B1 H1 q S1 s1, fun C' ns ds δ1 σ1 B1 H1 d q S1 s1 rr => ?_⟩
  obtain ⟨rfl, rfl, hR⟩ := q
  have dn : d = none := by
    rcases rr with ⟨_, _, z⟩ | ⟨z, _⟩
    · exact z
    · exact absurd rfl z
  subst dn
  refine ⟨by show PySem.W.exmOne X.K (.ref C') c = some true; rw [g.K]; exact ym, fun a na => ⟨⟨rfl, rfl⟩, fun oe pn2 hz hv => ?_⟩⟩
  have S2 : Sat X.K G (δ1.set i (.dat (.ref a))) (σ1.set i (some (.ref a))) B1 H1 := S1.setD (.ref a) hb
  refine hsuite δ1 a oe pn2 (fun _ _ _ _ => True) hR hz hv _ B1 H1 S2 _ ⟨fun δ3 σ3 B3 H3 q S3 s3 => ?_, fun r δ3 σ3 B3 H3 v q S3 s3 rr => ?_, fun δ3 σ3 B3 H3 q S3 s3 => ?_, fun δ3 σ3 B3 H3 q S3 s3 => ?_, fun _ _ _ _ _ _ _ _ q _ _ _ => q.elim⟩
  · exact F.nx _ _ B3 H3 q (by have := S3; exact Sat.wipe (vs := [i]) this fun v hv => by rw [List.mem_singleton.mp hv]; exact hb) (s1.trans s3)
  · exact F.rt r δ3 σ3 B3 H3 v q.1 S3 (s1.trans s3) rr
  · exact F.bk _ _ B3 H3 q (by have := S3; exact Sat.wipe (vs := [i]) this fun v hv => by rw [List.mem_singleton.mp hv]; exact hb) (s1.trans s3)
  · exact F.ct _ _ B3 H3 q (by have := S3; exact Sat.wipe (vs := [i]) this fun v hv => by rw [List.mem_singleton.mp hv]; exact hb) (s1.trans s3)
end
end DL

namespace DL
open PySem L2
section
variable {X : Cx} {G : Ent} {M : Md} {N : List Str} {sc : Scope} {fb : Str → Bool} {k : Nat} {δ δ1 δ2 : List Slot} {n T : Str} {e : Expr} {es : List Expr} {pos p p1 p2 : Pos} {C D2 a : Addr} {oe : Obj} {pn : List (Addr × Obj)} {b : Bool} {tn : String}
/-- isinstance(e, T), e the error that was caught, T an own class -/
theorem ev_isEo (g : Good X M N sc fb k) (cc : ExcC M.K C) (hz : Zc (.ref C) none oe) (hf : ∃ vs, oe.data = .fields vs) (i : Nat) (hm : M.mg "isinstance" = none) (hT : M.mg T = some (.ref D2)) (hk : PySem.W.kitOne M.K (.ref C) (.ref D2) = some b)
    (hδ : δ[i]? = some (.dat (.ref a)) := by rfl) (hN : N[i]? = some n := by rfl) (hv : visB sc n = true := by rfl) (hd : (n == ("__debug__" : Str)) = false := by decide) (hc : (n == ("__classdict__" : Str)) = false := by decide)
    (hg : sc.names.lookup ("isinstance" : Str) = some .globalImplicit := by rfl) (hg2 : sc.names.lookup T = some .globalImplicit := by rfl) (hd2 : (T == ("__debug__" : Str)) = false := by decide)
    (he : starEach [.Name n p1, .Name T p2] X.env = (false, eval (.Name n p1) X.env) :: starEach [.Name T p2] X.env := by rfl) (he2 : starEach [.Name T p2] X.env = (false, eval (.Name T p2) X.env) :: starEach [] X.env := by rfl) (hpl : (backTo pos (starEach [.Name T p2] X.env)).any (·.1) = false := by rfl) :
    EV (X.suite a ((a, oe) :: pn)) G (.Call (.Name "isinstance" p) [.Name n p1, .Name T p2] [] pos) δ (.dat (.bl b)) δ := fun σ B H S Q q => by
  obtain ⟨v, h1, h2⟩ := S.dat i _ hδ
  cases h2
  refine ⟨_, pe_callB (call_isE (by show ExcC X.K C; rw [g.K]; exact cc) hz hf) (gl_of g hg) (mn_of g hm) (by decide +kernel) (pa_cons (pe_var (X := X.suite a ((a, oe) :: pn)) (by show X.N[i]? = some n; rw [g.nm]; exact hN) (by show Vis X.env.scope n; rw [g.sc]; exact vis_of hv) hd hc) (pa_cons (pe_glob (v := .ref D2) (gl_of g hg2) (mn_of g hT) rfl hd2) pa_nil he2) he) (by decide) (by decide) he hpl, ?_⟩
  refine ⟨.ref a, h1, .ref D2, .ref D2, b, rfl, fun u r => by cases r; rfl, by show PySem.W.kitOne X.K _ _ = _; rw [g.K]; exact hk, q _ B H S (Same.refl _) (.bl _)⟩
/-- .. T a built-in class -/
theorem ev_isEb (g : Good X M N sc fb k) (cc : ExcC M.K C) (hz : Zc (.ref C) none oe) (hf : ∃ vs, oe.data = .fields vs) (i : Nat) (hm : M.mg "isinstance" = none) (hT : M.mg T = none) (hv2 : bootBuiltins T = some (.type tn)) (hk : PySem.W.kitOne M.K (.ref C) (.type tn) = some b)
    (hδ : δ[i]? = some (.dat (.ref a)) := by rfl) (hN : N[i]? = some n := by rfl) (hv : visB sc n = true := by rfl) (hd : (n == ("__debug__" : Str)) = false := by decide) (hc : (n == ("__classdict__" : Str)) = false := by decide)
    (hg : sc.names.lookup ("isinstance" : Str) = some .globalImplicit := by rfl) (hg2 : sc.names.lookup T = some .globalImplicit := by rfl) (hn2 : T ≠ "__name__" := by decide) (hd2 : (T == ("__debug__" : Str)) = false := by decide)
    (he : starEach [.Name n p1, .Name T p2] X.env = (false, eval (.Name n p1) X.env) :: starEach [.Name T p2] X.env := by rfl) (he2 : starEach [.Name T p2] X.env = (false, eval (.Name T p2) X.env) :: starEach [] X.env := by rfl) (hpl : (backTo pos (starEach [.Name T p2] X.env)).any (·.1) = false := by rfl) :
    EV (X.suite a ((a, oe) :: pn)) G (.Call (.Name "isinstance" p) [.Name n p1, .Name T p2] [] pos) δ (.dat (.bl b)) δ := fun σ B H S Q q => by
  obtain ⟨v, h1, h2⟩ := S.dat i _ hδ
  cases h2
  refine ⟨_, pe_callB (call_isE (by show ExcC X.K C; rw [g.K]; exact cc) hz hf) (gl_of g hg) (mn_of g hm) (by decide +kernel) (pa_cons (pe_var (X := X.suite a ((a, oe) :: pn)) (by show X.N[i]? = some n; rw [g.nm]; exact hN) (by show Vis X.env.scope n; rw [g.sc]; exact vis_of hv) hd hc) (pa_cons (pe_bltn (v := .ty tn) (gl_of g hg2) (mn_of g hT) hv2 rfl hn2 hd2) pa_nil he2) he) (by decide) (by decide) he hpl, ?_⟩
  refine ⟨.ref a, h1, .ty tn, .type tn, b, rfl, fun u r => by cases r; rfl, by show PySem.W.kitOne X.K _ _ = _; rw [g.K]; exact hk, q _ B H S (Same.refl _) (.bl _)⟩
/-- int(a bool) in a suite -/
theorem ev_toIntE (g : Good X M N sc fb k) (hm : M.mg "int" = none) {y : Bool} (ha : EV (X.suite a pn) G e δ (.dat (.bl y)) δ1) (hg : sc.names.lookup ("int" : Str) = some .globalImplicit := by rfl)
    (he : starEach [e] X.env = (false, eval e X.env) :: starEach [] X.env := by rfl) (hpl : (backTo pos (starEach [] X.env)).any (·.1) = false := by rfl) : EV (X.suite a pn) G (.Call (.Name "int" p) [e] [] pos) δ (.dat (.int (if y then 1 else 0))) δ1 := fun σ B H S Q q =>
  ⟨_, pe_callTy call_int1 (gl_of g hg) (mn_of g hm) (by decide +kernel) (pa_cons pe_cE pa_nil he) (by decide) (by decide) he hpl, ha σ B H S _ fun v B1 H1 S1 s1 r1 => by
    cases bl_of r1
    exact .inr ⟨y, rfl, q _ B1 H1 S1 s1 (.int _)⟩⟩
end
section
variable {M : Md} {q x : Str} {st : Stmt} {f : Addr} {fd : FuncData} {N ps : List Str} {j : Nat} {S : PSpec}
/-- a def that raises nothing, and where it stands on the stack: for a try -/
theorem fn_okT (F : Fun M.K x q st f fd) (Sc : FnScope N ps (defScope st)) (hl : ∀ as res, S as res → as.length = ps.length) (hx : ∀ as C ns ds os, ¬ S as (.exc C ns ds os))
    (h : ∀ (X : Cx) (W : WX) (G : Ent) (as : List Slot) (res : Res), Good X M N (defScope st) (fun _ => true) j → X.stack = X.env :: X.outer → X.env.frame = some X.env.locals → S as res → (∀ i ∈ G.bor.map (·.1), i ∈ muIdx as 0) → SV X W G (defBody st) (slots N as) (Ends0 as res)) :
    FnOk M.P M.w M.K M.mg M.base CX0 (j + 1) f fd ps (spOf M.K S) := by
  have hN : ps.length ≤ N.length := by have := congrArg List.length Sc.pre; rw [List.length_take] at this; omega
  refine F.ok Sc (fun vs H Q E ⟨B, as, res, h1, h2, _⟩ => by rw [h2.len]; exact hl as res h1) (fun cdv A outer s H vs Q E hr ⟨B, as, res, h1, h2, h3⟩ => ?_)
  cases res with
  | exc C ns ds os => exact absurd h1 (hx as C ns ds os)
  | ret r os =>
    have S0 := sat_start (N := N) h2 (by rw [hl _ _ h1]; exact hN)
    refine h _ (fun _ _ _ _ => True) ⟨H, B, borOf as vs 0⟩ as (.ret r os) ⟨rfl, rfl, rfl, rfl, rfl, rfl, rfl, rfl, Sc.nd, fun _ _ => rfl, hr, .never⟩ rfl rfl h1 (fun i hi => bor_idx h2 hi) _ B H S0 _ ⟨fun δ σ B' H' p S' e => ?_, fun r' δ σ B' H' v p S' e rr => ?_, fun δ σ B' H' p S' e => p.elim, fun δ σ B' H' p S' e => p.elim, fun _ _ _ _ _ _ _ _ _ _ _ _ => trivial⟩
    · obtain ⟨p1, p2⟩ := p
      subst p1
      exact h3 .non B' H' (post_of h2 S' p2) .non
    · obtain ⟨p1, p2⟩ := p
      subst p1
      exact h3 v B' H' (post_of h2 S' p2) (retR_of rr)
end
section
variable {X : Cx} {G : Ent} {M : Md} {N : List Str} {sc : Scope} {fb : Str → Bool} {k j : Nat} {δ δ1 δ2 : List Slot} {a : Expr} {es : List Expr} {d1 : D} {ds l l' : List D} {pos p py : Pos} {x y : Str} {S : PSpec} {r : Slot} {os : List Slot} {CX : CXT}
/-- f(a, y, ..), y a list that is lent, the others data -/
theorem ev_call_b2 (g : Good X M N sc fb k) (c : Fn M CX x j S) (n : Nat) (ha : EV X G a δ (.dat d1) δ1) (hr : EA X G es δ1 ds δ2) (hs : S (.dat d1 :: .own l :: ds.map .dat) (.ret r os)) (ho : os[1]? = some (.own l'))
    (h0 : ∃ l0, δ1[n]? = some (.own l0)) (h1 : δ2[n]? = some (.own l) := by rfl) (hj : j ≤ k := by decide)
    (hN : N[n]? = some y := by rfl) (hv : visB sc y = true := by rfl) (hd : (y == ("__debug__" : Str)) = false := by decide) (hc : (y == ("__classdict__" : Str)) = false := by decide)
    (hg : sc.names.lookup x = some .globalImplicit := by rfl) (hdb : (x == ("__debug__" : Str)) = false := by decide)
    (he : starEach (a :: .Name y py :: es) X.env = (false, eval a X.env) :: starEach (.Name y py :: es) X.env := by rfl) (he2 : starEach (.Name y py :: es) X.env = (false, eval (.Name y py) X.env) :: starEach es X.env := by rfl) (hpl : (backTo pos (starEach (.Name y py :: es) X.env)).any (·.1) = false := by rfl) :
    EV X G (.Call (.Name x p) (a :: .Name y py :: es) [] pos) δ r (δ2.set n (.own l')) := by
  obtain ⟨l0, h0⟩ := h0
  have nb : ∀ m, Arg.bor m ∉ ds.map Arg.val := fun m h => by
    obtain ⟨d, _, e⟩ := List.mem_map.mp h
    cases e
  have only : ∀ {i m : Nat}, (Arg.val d1 :: Arg.bor n :: ds.map Arg.val)[i]? = some (.bor m) → i = 1 ∧ m = n := fun {i m} h => by
    match i, h with
    | 0, h => simp at h
    | 1, h => simp at h; exact ⟨rfl, h.symm⟩
    | i + 2, h =>
      have h' : (ds.map Arg.val)[i]? = some (.bor m) := by simpa using h
      exact absurd (List.mem_of_getElem? h') (nb m)
  have seen1 : (Arg.val d1 :: Arg.bor n :: ds.map Arg.val).map (seen δ2) = .dat d1 :: .own l :: ds.map .dat := by
    rw [List.map_cons, List.map_cons, List.map_map]
    show Slot.dat d1 :: (δ2[n]?.getD .un) :: _ = _
    rw [h1]; rfl
  have hlen : n < δ2.length := (List.getElem?_eq_some_iff.mp h1).1
  refine ev_callL (os := os) g c hj (el_cons ha (el_bor g n (EL.of hr) h0 rfl hN hv hd hc he2) he) (by rw [seen1]; exact hs) (fun m hm => ?_) (fun i i' m h h' => by rw [(only h).1, (only h').1]) (List.length_set ..) (fun m hm => ?_) (fun i m h => ?_) hg hdb he hpl
  · rcases List.mem_cons.mp hm with e | hm
    · cases e
    · rcases List.mem_cons.mp hm with e | hm
      · cases e; exact ⟨_, h1, rfl⟩
      · exact absurd hm (nb m)
  · have ne : n ≠ m := fun e => hm (by rw [e]; exact List.mem_cons_of_mem _ (List.mem_cons_self ..))
    exact List.getElem?_set_ne ne
  · obtain ⟨rfl, rfl⟩ := only h
    rw [List.getElem?_set_self hlen, ho]
end
end DL
namespace DL
open PySem L2
section
variable {K : PySem.W.Frag} {G : Ent} {δ : List Slot} {σ : St} {B H : Hp}
/-- a list or an instance of one's own may be let go at any time -/
theorem Sat.frz (S : Sat K G δ σ B H) (i : Nat) {s : Slot} (hδ : δ[i]? = some s) (hb : i ∉ G.bor.map (·.1)) (m : s.mu = true) : ∃ B', Same B B' ∧ Sat K G (δ.set i (.dat s.d)) σ B' H := by
  obtain ⟨l, h1, h2, h3, h4⟩ := S.mu i s hδ m
  have n0 : G.H0 l = none := by
    rcases h4 with h4 | h4
    · exact h4
    · exact absurd (List.mem_map.mpr ⟨_, h4, rfl⟩) hb
  obtain ⟨o, ho⟩ := Mu.ex h3 m
  have sB : Same B (upd B l o) := fun b u e => by rw [upd_ne (ne_of_none e h2)]; exact e
  have hi : i < δ.length := (List.getElem?_eq_some_iff.mp hδ).1
  have hr : Rep K (upd B l o) (.ref l) s.d := by
    cases s with
    | un => cases m
    | dat d => cases m
    | own ds =>
      obtain ⟨vs, e, r⟩ := h3
      rw [ho] at e; cases e
      exact .lst (.inl (.inl upd_same)) (r.up sB)
    | obj C ns ds =>
      obtain ⟨dx, fs, e, n, r⟩ := h3
      rw [ho] at e; cases e
      exact .ins upd_same n (r.up sB)
  refine ⟨upd B l o, sB, ⟨fun b u e => ?_, S.b0.trans sB, S.fr, fun a u e => ?_, by rw [List.length_set]; exact S.len, fun j d e => ?_, fun j t e mt => ?_, fun j j2 t t2 l2 ne e mt e2 mt2 => ?_, fun p hp => ?_⟩⟩
  · by_cases z : b = l
    · subst z; rw [upd_same] at e; rw [ho]; exact e
    · rw [upd_ne z] at e; exact S.hb _ _ e
  · rw [upd_ne (ne_of_none e n0)]; exact S.nb a u e
  · by_cases z : j = i
    · subst z
      rw [List.getElem?_set_self hi] at e
      cases e
      exact ⟨_, h1, hr⟩
    · rw [List.getElem?_set_ne (Ne.symm z)] at e
      obtain ⟨v, q, r⟩ := S.dat j d e
      exact ⟨v, q, r.up sB⟩
  · by_cases z : j = i
    · subst z
      rw [List.getElem?_set_self hi] at e
      cases e; cases mt
    · rw [List.getElem?_set_ne (Ne.symm z)] at e
      obtain ⟨l', p1, p2, p3, p4⟩ := S.mu j t e mt
      have ne : l' ≠ l := fun w => S.dis j i t s l z e mt hδ m (by rw [p1, w]) h1
      exact ⟨l', p1, by rw [upd_ne ne]; exact p2, Mu.up p3 sB (fun _ h => h), p4⟩
  · have z1 : j ≠ i := fun w => by
      subst w
      rw [List.getElem?_set_self hi] at e
      cases e; cases mt
    have z2 : j2 ≠ i := fun w => by
      subst w
      rw [List.getElem?_set_self hi] at e2
      cases e2; cases mt2
    rw [List.getElem?_set_ne (Ne.symm z1)] at e
    rw [List.getElem?_set_ne (Ne.symm z2)] at e2
    exact S.dis j j2 t t2 l2 ne e mt e2 mt2
  · obtain ⟨p1, t, p2, p3⟩ := S.bor p hp
    have z : p.1 ≠ i := fun w => hb (List.mem_map.mpr ⟨p, hp, w⟩)
    exact ⟨p1, t, by rw [List.getElem?_set_ne (Ne.symm z)]; exact p2, p3⟩
theorem sv_freeze {X : Cx} {W : WX} {G : Ent} {δ : List Slot} {P : Out → Prop} {ss : List Stmt} {ds : List D} (i : Nat) (hb : i ∉ G.bor.map (·.1)) (h : SV X W G ss (δ.set i (.dat (.lst ds))) P) (hδ : δ[i]? = some (.own ds) := by rfl) : SV X W G ss δ P := fun σ B H S E F => by
  obtain ⟨B', s, S'⟩ := S.frz i hδ hb rfl
  exact h σ B' H S' E (F.up s)
end
end DL
namespace DL
open PySem L2
/-- the same slots, written out -/
theorem sv_at {X : Cx} {W : WX} {G : Ent} {δ δ' : List Slot} {P : Out → Prop} {ss : List Stmt} (e : δ = δ') (h : SV X W G ss δ' P) : SV X W G ss δ P := e ▸ h
end DL
namespace DL
open PySem L2
/-- isinstance's answer about an own class / a built-in class -/
theorem kit_ref {K : PySem.W.Frag} {A C : Addr} {b : Bool} (ne : (Value.ref A == Value.ref C) = false) (hd : PySem.W.hasDictIn K C = true) (ty : PySem.W.typeIn K (.ref C) = some (.type "type")) (sb : PySem.W.subIn K (.ref A) (.ref C) = some b) : PySem.W.kitOne K (.ref A) (.ref C) = some b := by
  obtain ⟨cd, hc, _⟩ := PySem.W.any_some hd
  unfold PySem.W.kitOne PySem.W.kitCls
  rw [if_neg (by rw [ne]; exact Bool.false_ne_true)]
  have e : ((PySem.W.clsIn K C).isSome && PySem.W.typeIn K (.ref C) == some (.type "type")) = true := by rw [hc, ty] <;> rfl
  simp only []
  rw [if_pos e]
  exact sb
theorem kit_typ {K : PySem.W.Frag} {A : Addr} {T : String} {b : Bool} (km : PySem.W.kitMeta T = true) (sb : PySem.W.subIn K (.ref A) (.type T) = some b) : PySem.W.kitOne K (.ref A) (.type T) = some b := by
  unfold PySem.W.kitOne PySem.W.kitCls
  rw [if_neg (by intro h; have := beq_iff_eq.mp h; cases this)]
  simp only []
  rw [if_pos km]
  exact sb
end DL
namespace DL
open PySem L2
/-! ### a list of one's own that an expression walks without changing it -/
section
variable {K : PySem.W.Frag} {G : Ent} {δ : List Slot} {σ : St} {B H : Hp}
theorem Sat.hide (S : Sat K G δ σ B H) (n : Nat) {l : Addr} {o : HO} {s : Slot} (hδ : δ[n]? = some s) (m : s.mu = true) (hb : n ∉ G.bor.map (·.1)) (hl : σ[n]? = some (some (.ref l))) (ho : H l = some o) : Sat K ⟨upd G.H0 l o, B, G.bor⟩ (δ.set n (.dat (.ref l))) σ B H ∧ G.H0 l = none ∧ B l = none ∧ l ∉ G.bor.map (·.2) := by
  obtain ⟨l', h1, h2, h3, h4⟩ := S.mu n s hδ m
  rw [hl] at h1
  have el : l = l' := by injection h1 with h1; injection h1 with h1; injection h1
  subst el
  have n0 : G.H0 l = none := by
    rcases h4 with h4 | h4
    · exact h4
    · exact absurd (List.mem_map.mpr ⟨_, h4, rfl⟩) hb
  have hn : n < δ.length := (List.getElem?_eq_some_iff.mp hδ).1
  have nb : l ∉ G.bor.map (·.2) := fun hm => by
    obtain ⟨p, hp, e⟩ := List.mem_map.mp hm
    obtain ⟨a, t, b, c⟩ := S.bor p hp
    have hne : p.1 ≠ n := fun z => hb (List.mem_map.mpr ⟨p, hp, z⟩)
    exact S.dis p.1 n t s l hne b c hδ m (by rw [a, e]) hl
  refine ⟨⟨S.hb, Same.refl _, fun a u e q => ?_, fun a u e => rfl, by rw [List.length_set]; exact S.len, fun i d e => ?_, fun i t e mt => ?_, fun i j t u z ne e mt e2 mt2 q q2 => ?_, fun p hp => ?_⟩, n0, h2, nb⟩
  · by_cases z : a = l
    · subst z
      have e' : upd G.H0 a o a = some u := e
      rw [upd_same] at e'; cases e'; exact ho
    · have e' : upd G.H0 l o a = some u := e
      rw [upd_ne z] at e'; exact S.fr a u e' q
  · by_cases z : n = i
    · subst z
      rw [List.getElem?_set_self hn] at e; cases e
      exact ⟨_, hl, .ref l⟩
    · rw [List.getElem?_set_ne z] at e; exact S.dat i d e
  · by_cases z : n = i
    · subst z
      rw [List.getElem?_set_self hn] at e; cases e; cases mt
    · rw [List.getElem?_set_ne z] at e
      obtain ⟨l', p1, p2, p3, p4⟩ := S.mu i t e mt
      have ne : l' ≠ l := fun w => S.dis i n t s l (Ne.symm z) e mt hδ m (by rw [p1, w]) hl
      exact ⟨l', p1, p2, p3, by
        rcases p4 with p4 | p4
        · exact .inl (by show upd G.H0 l o l' = none; rw [upd_ne ne]; exact p4)
        · exact .inr p4⟩
  · by_cases z : n = i
    · subst z; rw [List.getElem?_set_self hn] at e; cases e; cases mt
    · by_cases z2 : n = j
      · subst z2; rw [List.getElem?_set_self hn] at e2; cases e2; cases mt2
      · rw [List.getElem?_set_ne z] at e; rw [List.getElem?_set_ne z2] at e2
        exact S.dis i j t u _ ne e mt e2 mt2 q q2
  · obtain ⟨a, t, b, c⟩ := S.bor p hp
    have z : n ≠ p.1 := fun w => hb (List.mem_map.mpr ⟨p, hp, w.symm⟩)
    exact ⟨a, t, by rw [List.getElem?_set_ne z]; exact b, c⟩
theorem Sat.unhide {Bh : Hp} (n : Nat) {l : Addr} {o : HO} {s : Slot} (S : Sat K ⟨upd G.H0 l o, Bh, G.bor⟩ (δ.set n (.dat (.ref l))) σ B H) (hn : n < δ.length) (hb : n ∉ G.bor.map (·.1)) (n0 : G.H0 l = none) (bl : Bh l = none) (nb : l ∉ G.bor.map (·.2)) (hm : s.mu = true) (b0 : Same G.B0 Bh) (bn : ∀ a u, G.H0 a = some u → Bh a = G.B0 a) (hr : H l = some o → Mu K B H l s) : Sat K G (δ.set n s) σ B H := by
  have hH : H l = some o := S.fr l o upd_same nb
  have hB : B l = none := by rw [S.nb l o upd_same]; exact bl
  have hσ : σ[n]? = some (some (.ref l)) := by
    obtain ⟨v, h1, h2⟩ := S.dat n (.ref l) (List.getElem?_set_self hn)
    cases h2; exact h1
  have up : ∀ {i : Nat}, n ≠ i → (δ.set n s)[i]? = (δ.set n (.dat (.ref l)))[i]? := fun {i} z => by rw [List.getElem?_set_ne z, List.getElem?_set_ne z]
  have far : ∀ {i : Nat} {t : Slot} {l' : Addr}, n ≠ i → (δ.set n (.dat (.ref l)))[i]? = some t → t.mu = true → σ[i]? = some (some (.ref l')) → l' ≠ l := fun {i t l'} z e mt q w => by
    subst w
    obtain ⟨l2, p1, p2, p3, p4⟩ := S.mu i t e mt
    rw [q] at p1
    have el : l' = l2 := by injection p1 with p1; injection p1 with p1; injection p1
    subst el
    rcases p4 with p4 | p4
    · have : upd G.H0 l' o l' = none := p4
      rw [upd_same] at this; cases this
    · exact nb (List.mem_map.mpr ⟨_, p4, rfl⟩)
  have old : ∀ {a : Addr} {u : HO}, G.H0 a = some u → upd G.H0 l o a = some u := fun {a u} e => by rw [upd_ne (ne_of_none e n0)]; exact e
  refine ⟨S.hb, b0.trans S.b0, fun a u e q => S.fr a u (old e) q, fun a u e => (S.nb a u (old e)).trans (bn a u e), by have := S.len; rw [List.length_set] at this ⊢; exact this, fun i d e => ?_, fun i t e mt => ?_, fun i j t u z ne e mt e2 mt2 q q2 => ?_, fun p hp => ?_⟩
  · by_cases z : n = i
    · subst z; rw [List.getElem?_set_self hn] at e; cases e; cases hm
    · rw [up z] at e; exact S.dat i d e
  · by_cases z : n = i
    · subst z; rw [List.getElem?_set_self hn] at e; cases e
      exact ⟨l, hσ, hB, hr hH, .inl n0⟩
    · rw [up z] at e
      obtain ⟨l', p1, p2, p3, p4⟩ := S.mu i t e mt
      have ne := far z e mt p1
      exact ⟨l', p1, p2, p3, by
        rcases p4 with p4 | p4
        · have : upd G.H0 l o l' = none := p4
          rw [upd_ne ne] at this; exact .inl this
        · exact .inr p4⟩
  · by_cases z1 : n = i
    · subst z1
      have z2 : n ≠ j := ne
      rw [up z2] at e2
      rw [hσ] at q
      have el : l = z := by injection q with q; injection q with q; injection q
      subst el
      exact absurd rfl (far z2 e2 mt2 q2)
    · by_cases z2 : n = j
      · subst z2
        rw [up z1] at e
        rw [hσ] at q2
        have el : l = z := by injection q2 with q2; injection q2 with q2; injection q2
        subst el
        exact absurd rfl (far z1 e mt q)
      · rw [up z1] at e; rw [up z2] at e2
        exact S.dis i j t u z ne e mt e2 mt2 q q2
  · obtain ⟨a, t, b, c⟩ := S.bor p hp
    have z : n ≠ p.1 := fun w => hb (List.mem_map.mpr ⟨p, hp, w.symm⟩)
    exact ⟨a, t, by rw [up z]; exact b, c⟩
end
section
variable {X : Cx} {G : Ent} {M : Md} {N : List Str} {sc : Scope} {fb : Str → Bool} {k : Nat} {δ δ1 : List Slot} {e : Expr} {d : D} {ds : List D} {pos : Pos} {x : Str}
theorem serves_own {K : PySem.W.Frag} {G : Ent} {B1 : Hp} {l : Addr} {vs : List V} (hG : G.H0 l = some (.lst vs)) (nb : l ∉ G.bor.map (·.2)) (h2 : RepL K B1 vs ds) : Serves K G (Itl K l) B1 ds := fun n G' δ σ B H x S s => by
  have q : SqL K H l vs := .of (S.fr l _ (x.1 _ _ hG) (by rw [x.2]; exact nb))
  refine ⟨fun d hd => ?_, fun hl => ⟨vs, q, by rw [h2.length]; exact hl⟩⟩
  obtain ⟨v, g1, g2⟩ := h2.get hd
  refine ⟨⟨vs, v, q, g1⟩, fun x H' y => ?_⟩
  obtain ⟨e, y⟩ := y
  subst e
  have z := y vs q
  rw [g1] at z
  have e : v = x := Option.some.inj z
  subst e
  exact ⟨B, S, Same.refl _, g2.up s, fun _ _ h => h⟩
/-- e walks the list of one's own in slot n (by its name x alone) and gives a datum; the list stays one's own -/
theorem ev_hide (n : Nat) (hb : n ∉ G.bor.map (·.1)) (hδ : δ[n]? = some (.own ds)) (hp : ∀ p : Pos, PE X (.Name x p) (tVar n)) (hl : n < δ1.length)
    (h : ∀ (G' : Ent) (l : Addr), G'.bor = G.bor → (∀ (tg : Expr) (p : Pos) (δ' : List Slot), δ'[n]? = some (.dat (.ref l)) → EI X G' tg (.Name x p) δ' ds δ') → EV X G' e (δ.set n (.dat (.ref l))) (.dat d) (δ1.set n (.dat (.ref l)))) : EV X G e δ (.dat d) (δ1.set n (.own ds)) := fun σ B H S Q q => by
  obtain ⟨l, h1, h2, ⟨vs, h3, h4⟩, h5⟩ := S.mu n _ hδ rfl
  obtain ⟨S1, n0, bl, nb⟩ := S.hide n hδ rfl hb h1 h3
  refine h ⟨upd G.H0 l (.lst vs), B, G.bor⟩ l rfl (fun tg p δ' hd σ2 B2 H2 S2 R r => ?_) σ B H S1 Q fun v B' H' S' s rr => ?_
  · obtain ⟨v, e1, e2⟩ := S2.dat n _ hd
    cases e2
    have ho : H2 l = some (.lst vs) := S2.fr l _ upd_same nb
    exact ⟨_, pi_list (hp p), _, e1, l, rfl, ⟨vs, .of ho⟩, r _ B2 H2 S2 (Same.refl _) (serves_own upd_same nb (h4.up S2.b0))⟩
  · exact q v B' H' (S'.unhide n hl hb n0 bl nb rfl S.b0 S.nb fun hH => ⟨vs, hH, h4.up s⟩) s rr
end
end DL

namespace DL
open PySem L2
/-! ### instances -/
def lookD : List Str → List D → Str → Option D
  | n :: ns, d :: ds, f => if n = f then some d else lookD ns ds f
  | _, _, _ => none
theorem look_rep {K : PySem.W.Frag} {B : Hp} {f : Str} {d : D} : ∀ {fs : List (Str × V)} {ns : List Str} {ds : List D}, fs.map (·.1) = ns → RepL K B (fs.map (·.2)) ds → lookD ns ds f = some d → ∃ v, fs.lookup f = some v ∧ Rep K B v d
  | [], ns, ds, e, r, h => by cases e; cases r; cases h
  | (n, v) :: fs, ns, ds, e, r, h => by
    cases e
    cases r with
    | cons a b =>
      have h' : (if n = f then some _ else lookD (fs.map (·.1)) _ f) = some d := h
      by_cases z : n = f
      · rw [if_pos z] at h'
        cases h'
        subst z
        exact ⟨v, by rw [List.lookup_cons, beq_self_eq_true], a⟩
      · rw [if_neg z] at h'
        obtain ⟨u, h1, h2⟩ := look_rep rfl b h'
        refine ⟨u, ?_, h2⟩
        rw [List.lookup_cons, show (f == n) = false from by simpa using fun q => z q.symm]
        exact h1
theorem putF_new {f : Str} {v : V} : ∀ {fs : List (Str × V)}, f ∉ fs.map (·.1) → putF f v fs = fs ++ [(f, v)]
  | [], _ => rfl
  | (g, x) :: fs, h => by
    have h1 : g ≠ f := fun e => h (by rw [e]; exact List.mem_cons_self ..)
    show (if g = f then (g, v) :: fs else (g, x) :: putF f v fs) = _
    rw [if_neg h1, putF_new fun q => h (List.mem_cons_of_mem _ q)]; rfl
section
variable {X : Cx} {W : WX} {G : Ent} {M : Md} {N : List Str} {sc : Scope} {fb : Str → Bool} {k j : Nat} {δ δ1 : List Slot} {e : Expr} {es : List Expr} {d : D} {ds ds' : List D} {pos p px apos : Pos} {f x : Str} {C : Addr} {ns : List Str} {P : Out → Prop} {S : PSpec}
/-- e.f -/
theorem ev_fld (g : Good X M N sc fb k) (cc : Cls M.K C) (na : NoAttr M.K C f) (h : EV X G e δ (.dat (.ins C ns ds)) δ1) (hl : lookD ns ds f = some d := by rfl) (hab : attributeBase e f X.env (eval e X.env) = eval e X.env := by rfl) : EV X G (.Attribute e f pos) δ (.dat d) δ1 := fun σ B H S Q q =>
  ⟨_, pe_fld pe_cE hab, h σ B H S _ fun v B1 H1 S1 s1 r1 => by
    obtain ⟨a, dx, fs, rfl, h1, h2, h3⟩ := ins_of r1
    obtain ⟨u, g1, g2⟩ := look_rep h2 h3 hl
    exact ⟨a, C, dx, fs, u, rfl, S1.hb _ _ h1, by rw [g.K]; exact cc, by rw [g.K]; exact na, g1, q u B1 H1 S1 s1 g2⟩⟩
/-- x.f = e, x one's own instance, f a new field -/
theorem s_fld (g : Good X M N sc fb k) (n : Nat) (cc : Cls M.K C) (na : NoAttr M.K C f) (h : EV X G e δ (.dat d) δ1) (q : P (.nx (δ1.set n (.obj C (ns ++ [f]) (ds ++ [d]))))) (h1 : δ1[n]? = some (.obj C ns ds) := by rfl) (hf : f ∉ ns := by decide +kernel) (hs : ns.length < 1000 := by decide)
    (hN : N[n]? = some x := by rfl) (hv : visB sc x = true := by rfl) (hd : (x == ("__debug__" : Str)) = false := by decide) (hc : (x == ("__classdict__" : Str)) = false := by decide)
    (hsw : swapsWith e (some (.Attribute (.Name x px) f apos)) pos.line X.env = pure false := by rfl) : SV1 X W G (.Assign [.Attribute (.Name x px) f apos] e pos) δ P := fun σ B H S E F =>
  ⟨_, ps_fld (pe_slot g n hN hv hd hc) pe_cE hsw, h σ B H S _ fun y B1 H1 S1 s1 r1 => by
    obtain ⟨l, a1, a2, ⟨dx, fs, a3, a4, a5⟩, a6⟩ := S1.mu n _ h1 rfl
    have hl : fs.length = ns.length := by rw [← a4, List.length_map]
    refine ⟨.ref l, a1, l, C, dx, fs, rfl, a3, by rw [g.K]; exact cc, by rw [g.K]; exact na, by rw [hl]; exact hs, ?_⟩
    have e1 : putF f y fs = fs ++ [(f, y)] := putF_new (by rw [a4]; exact hf)
    rw [e1]
    refine F.nx _ _ B1 _ q (S1.write (t := .obj C (ns ++ [f]) (ds ++ [d])) h1 rfl a1 rfl ⟨dx, fs ++ [(f, y)], upd_same, by rw [List.map_append, a4]; rfl, by rw [List.map_append]; exact a5.append (.one r1)⟩) s1⟩
/-- behind a call that was given a new instance, the others data -/
theorem sat_make {K : PySem.W.Frag} {σ : L2.St} {B H B' H' : Hp} {a dx : Addr} {vs : List V} {os : List Slot} {ds : List D} (S : Sat K G δ σ B H) (ha : H a = none) (hx : H dx = none) (ne : dx ≠ a) (po : Post K B (upd (upd H dx (.own a)) a (.ins C dx [])) (.obj C [] [] :: ds.map .dat) (.ref a :: vs) os B' H') : Sat K G δ σ B' H' ∧ Fresh G δ σ B' a := by
  have keep : ∀ {b : Addr} {o : HO}, H b = some o → upd (upd H dx (.own a)) a (.ins C dx []) b = some o := fun {b o} e => by rw [upd_ne (ne_of_none e ha), upd_ne (ne_of_none e hx)]; exact e
  have free : ∀ {b : Addr} {o : HO}, H b = some o → H' b = some o := fun {b o} e => po.fr b o (keep e) fun i s hs m w => by
    match i, hs with
    | 0, _ =>
      have : V.ref a = V.ref b := Option.some.inj w
      have : a = b := by injection this
      subst this
      rw [ha] at e; cases e
    | i + 1, hs =>
      have hs' : (ds.map Slot.dat)[i]? = some s := by simpa using hs
      rw [List.getElem?_map] at hs'
      cases q : ds[i]? with
      | none => rw [q] at hs'; cases hs'
      | some d => rw [q] at hs'; cases hs'; cases m
  have fr0 := S.fresh ha
  have ba : B' a = B a := po.nb a _ upd_same
  refine ⟨⟨po.bh, S.b0.trans po.b, fun b o e q => free (S.fr b o e q), fun b o e => ?_, S.len, fun i d e => ?_, fun i s e m => ?_, S.dis, S.bor⟩, ⟨by rw [ba]; exact fr0.nb, fr0.n0, fr0.ap⟩⟩
  · obtain ⟨o', h'⟩ := S.alive e
    rw [po.nb b o' (keep h')]; exact S.nb b o e
  · obtain ⟨v, q, r⟩ := S.dat i d e
    exact ⟨v, q, r.up po.b⟩
  · obtain ⟨l, p1, p2, p3, p4⟩ := S.mu i s e m
    obtain ⟨o, ho⟩ := Mu.ex p3 m
    exact ⟨l, p1, by rw [po.nb l o (keep ho)]; exact p2, Mu.up p3 po.b (fun _ h => free h), p4⟩
/-- C(e, ..): the class has its own __init__, the arguments data -/
structure MkC (M : Md) (CX : CXT) (x : Str) (C : Addr) (j : Nat) (S : PSpec) : Prop where
  ex : ∃ (f : Addr) (fd : FuncData) (ps : List Str), FnOk M.P M.w M.K M.mg M.base CX j f fd ps (spOf M.K S) ∧ Mk M.K C f ∧ M.mg x = some (.ref C) ∧ Binds M.K fd ps []
  px : ∀ X : Cx, X.prog = M.P → X.w = M.w → Passes CX X E0
theorem ev_make {CX : CXT} {os : List Slot} (g : Good X M N sc fb k) (c : MkC M CX x C j S) (hj : j + 1 ≤ k) (ha : EA X G (e :: es) δ ds δ1) (hs : S (.obj C [] [] :: ds.map .dat) (.ret (.dat .non) os)) (ho : os[0]? = some (.obj C ns ds'))
    (hg : sc.names.lookup x = some .globalImplicit := by rfl) (hdb : (x == ("__debug__" : Str)) = false := by decide)
    (he : starEach (e :: es) X.env = (false, eval e X.env) :: starEach es X.env := by rfl) (hpl : (backTo pos (starEach es X.env)).any (·.1) = false := by rfl) : EV X G (.Call (.Name x p) (e :: es) [] pos) δ (.obj C ns ds') δ1 := fun σ B H S0 Q q => by
  obtain ⟨f, fd, ps, Fk, mk, m1, m3⟩ := c.ex
  have F' : FnOk X.prog X.w X.K X.mg X.base CX j f fd ps (spOf X.K S) := by rw [g.P, g.w, g.K, g.mg, g.base]; exact Fk
  refine ⟨_, pe_make (E := E0) (by rw [g.K]; exact mk) F' (g.room.mono hj) (gl_of g hg) (mn_of g m1) (by rw [g.K]; exact m3) .nil (c.px X g.P g.w) pa_cA hdb he hpl, ha σ B H S0 _ fun vs B1 H1 S1 s1 r1 a dx na nx ne => ?_⟩
  rw [List.append_nil]
  have up : Same H1 (upd (upd H1 dx (.own a)) a (.ins C dx [])) := fun b o e => by rw [upd_ne (ne_of_none e na), upd_ne (ne_of_none e nx)]; exact e
  refine ⟨B1, _, _, hs, ⟨S1.hb.trans up, by rw [List.length_cons, List.length_cons, List.length_map, r1.length], fun i d h => ?_, fun i s h m => ?_, fun i i2 s t l hne h m h2 m2 _ _ => ?_⟩, fun v B' H' po rr => ?_⟩
  · match i, h with
    | 0, h => cases h
    | i + 1, h =>
      have h' : (ds.map Slot.dat)[i]? = some (.dat d) := by simpa using h
      obtain ⟨d', h1, h2⟩ : ∃ d', ds[i]? = some d' ∧ Slot.dat d' = .dat d := by
        rw [List.getElem?_map] at h'
        cases z : ds[i]? with
        | none => rw [z] at h'; cases h'
        | some d' => rw [z] at h'; exact ⟨d', rfl, Option.some.inj h'⟩
      cases h2
      obtain ⟨v, g1, g2⟩ := r1.get h1
      exact ⟨v, by simpa using g1, g2⟩
  · match i, h with
    | 0, h => cases h; exact ⟨a, rfl, S1.hb.free na, ⟨dx, [], upd_same, rfl, .nil⟩⟩
    | i + 1, h =>
      have h' : (ds.map Slot.dat)[i]? = some s := by simpa using h
      rw [List.getElem?_map] at h'
      cases z : ds[i]? with
      | none => rw [z] at h'; cases h'
      | some d' => rw [z] at h'; cases h'; cases m
  · have only0 : ∀ {i : Nat} {s : Slot}, (Slot.obj C [] [] :: ds.map Slot.dat)[i]? = some s → s.mu = true → i = 0 := fun {i s} h m => by
      match i, h with
      | 0, _ => rfl
      | i + 1, h =>
        have h' : (ds.map Slot.dat)[i]? = some s := by simpa using h
        rw [List.getElem?_map] at h'
        cases z : ds[i]? with
        | none => rw [z] at h'; cases h'
        | some d' => rw [z] at h'; cases h'; cases m
    exact hne (by rw [only0 h m, only0 h2 m2])
  · have rv : v = .non := by cases rr; rfl
    obtain ⟨S2, fr⟩ := sat_make S1 na nx ne po
    obtain ⟨t, l, o1, o2, o3, o4⟩ := po.mu 0 (.obj C [] []) rfl rfl
    rw [ho] at o1
    cases o1
    have el : a = l := by have := Option.some.inj o3; injection this
    subst el
    obtain ⟨dx', fs, w1, w2, w3⟩ := o4
    exact ⟨rv, q _ B' H' S2 (s1.trans po.b) ⟨a, dx', fs, rfl, w1, w2, w3, fr⟩⟩
/-- the class has the property f, its getter keeps S -/
structure PropC (M : Md) (CX : CXT) (C : Addr) (f : Str) (j : Nat) (S : PSpec) : Prop where
  ex : ∃ (p h : Addr) (fd : FuncData) (ps : List Str), FnOk M.P M.w M.K M.mg M.base CX j h fd ps (spOf M.K S) ∧ Cls M.K C ∧ PropOf M.K C f p h ∧ Binds M.K fd ps []
  px : ∀ X : Cx, X.prog = M.P → X.w = M.w → Passes CX X.nox E0
/-- e.f, f a property -/
theorem ev_prop {CX : CXT} {os : List Slot} (g : Good X M N sc fb k) (c : PropC M CX C f j S) (hj : j + 1 ≤ k) (h : EV X G e δ (.dat (.ins C ns ds)) δ1) (hs : S [.dat (.ins C ns ds)] (.ret (.dat d) os)) (hab : attributeBase e f X.env (eval e X.env) = eval e X.env := by rfl) : EV X G (.Attribute e f pos) δ (.dat d) δ1 := fun σ B H S0 Q q => by
  obtain ⟨p, h2, fd, ps, Fk, cl, pr, bi⟩ := c.ex
  have F' : FnOk X.prog X.w X.K X.mg X.base CX j h2 fd ps (spOf X.K S) := by rw [g.P, g.w, g.K, g.mg, g.base]; exact Fk
  refine ⟨_, pe_prop (E := E0) pe_cE (by rw [g.K]; exact cl) (by rw [g.K]; exact pr) F' (g.room.mono hj) (by rw [g.K]; exact bi) .nil (c.px X g.P g.w) hab, h σ B H S0 _ fun v B1 H1 S1 s1 r1 => ?_⟩
  obtain ⟨a, dx, fs, rfl, h3, h4, h5⟩ := ins_of r1
  have ra : ArgsR X.K B1 σ [.ref a] [.val (.ins C ns ds)] := .cons (show ArgR X.K B1 σ (.ref a) (.val (.ins C ns ds)) from r1) .nil
  have nb : ∀ n, Arg.bor n ∉ [Arg.val (.ins C ns ds)] := fun n hn => by simp at hn
  have ng : ∀ (i n : Nat), [Arg.val (.ins C ns ds)][i]? ≠ some (.bor n) := fun i n hn => nb n (List.mem_of_getElem? hn)
  refine ⟨a, dx, fs, rfl, S1.hb _ _ h3, B1, _, _, hs, start_of (as := [.val (.ins C ns ds)]) S1 ra (fun n hn => absurd hn (nb n)) (fun i i2 n hn => absurd hn (ng i n)), fun v B' H' po rr => ?_⟩
  have S2 := sat_post (δ2 := δ1) (as := [.val (.ins C ns ds)]) S1 ra po (fun n hn => absurd hn (nb n)) rfl (fun _ _ => rfl) (fun i n hn => absurd hn (ng i n))
  exact q v B' H' S2 (s1.trans po.b) rr
end
end DL

namespace DL
open PySem L2 PySem.Spec PyProof.Rows
/-! ### enumerate(tuple) -/
theorem enum_tup_new (tp : Addr) (xs : Array Value) :
    Meets (Builtin.«enumerate.__new__» ⟨[.type "enumerate", .ref tp], []⟩) (fun _ R s => s.heap.IsTuple tp xs ∧
      R (.ok (.ret (.ref (s.heap.push { cls := .type "tuple_iterator", data := .fields #[.ref tp, .int 0 0] }).objs.size)))
        { s with heap := (s.heap.push { cls := .type "tuple_iterator", data := .fields #[.ref tp, .int 0 0] }).push { cls := .type "enumerate", data := .fields #[.none, .bool false, .ref s.heap.objs.size, rawInt 0, .none, .none] } }) :=
  .of_wp fun prog w A R s hh => by
    obtain ⟨hp0, gs, dr, tks, oss⟩ := s
    obtain ⟨hT, hR⟩ := hh
    have hsub := sub_enumerate
    wp_walk using wpAny_pyIter_tuple hT
    refine wpAny_stack_any fun stk => wpAny_pure ?_
    split
    · rename_i cc _ _ _ _ _
      cases (cc == Value.type "enumerate") <;> (wp_walk using wpAny_pyIter_tuple hT; exact ⟨_, rfl, hR⟩)
    · wp_walk using wpAny_pyIter_tuple hT
      exact ⟨_, rfl, hR⟩
theorem enum_tup_call {prog : Program} {w : World} {A : Around} {E : Value → Shared → Prop} {s : Shared} {tp : Addr} {xs : Array Value} {Q : Value → Shared → Prop} (hT : s.heap.IsTuple tp xs)
    (fin : ∀ h2, IsEnum h2 (s.heap.objs.size + 1) s.heap.objs.size 0 .none → h2.IsTupleIter s.heap.objs.size tp 0 → (∀ b u, s.heap.get? b = some u → h2.get? b = some u) → Q (.ref (s.heap.objs.size + 1)) { s with heap := h2 }) :
    wpAny (model prog w) A (call (.type "enumerate") [.ref tp]) Q E s := by
  refine callType_new F.called_enumerate (by decide) (F.typeCall_enumerate_1 _) (F.newCall_enumerate_1 _) (fun ob => F.args_object_init_2 ob _) F.entry_enumerate_new (enum_tup_new tp xs) ⟨hT, ?_⟩
  have sz : (s.heap.push { cls := .type "tuple_iterator", data := .fields #[.ref tp, .int 0 0] }).objs.size = s.heap.objs.size + 1 := Heap.size_push ..
  show _ ∧ _
  rw [sz]
  have en : IsEnum ((s.heap.push { cls := .type "tuple_iterator", data := .fields #[.ref tp, .int 0 0] }).push { cls := .type "enumerate", data := .fields #[.none, .bool false, .ref s.heap.objs.size, rawInt 0, .none, .none] }) (s.heap.objs.size + 1) s.heap.objs.size 0 .none := by
    have q := Heap.get?_push_size (s.heap.push { cls := .type "tuple_iterator", data := .fields #[.ref tp, .int 0 0] }) (o := { cls := .type "enumerate", data := .fields #[.none, .bool false, .ref s.heap.objs.size, rawInt 0, .none, .none] }) rfl
    rw [sz] at q
    exact q
  exact ⟨⟨_, en, rfl⟩, fin _ en ⟨_, Heap.get?_push_of_some _ (Heap.get?_push_size _ rfl), rfl, rfl⟩ fun b u q => Heap.get?_push_of_some _ (Heap.get?_push_of_some _ q)⟩
/-- the tuple at a, item by item in new pairs with their places -/
def IteT (K : PySem.W.Frag) (a : Addr) : It :=
  ⟨fun i H => ∃ (us : List V) (u : V), SqT K H a us ∧ us[i]? = some u,
    fun i H v H' => ∃ T u, v = .ref T ∧ H T = none ∧ H' = upd H T (.tup [.int (i : Nat), u]) ∧ ∀ us, SqT K H a us → us[i]? = some u,
    fun i H => ∃ us : List V, SqT K H a us ∧ us.length ≤ i⟩
theorem turn_enumT {P : Program} {w : World} {K : PySem.W.Frag} {els : List Expr} {kq : Nat} {tp : Pos} (a en ti : Addr) :
    Turn P w K (.Tuple els kq tp) (IteT K a) [en, ti] en (fun i h => (∃ was, IsEnum h en ti ((i : Nat) : Int) was) ∧ h.IsTupleIter ti a i ∧ en ≠ ti ∧ a ≠ ti ∧ a ≠ en) where
  mem := List.mem_cons_self ..
  obj := fun i h tn c hc => by
    obtain ⟨⟨was, q1⟩, ⟨o1, q2, _, q3⟩, _⟩ := tn
    rcases (show c = en ∨ c = ti by simpa using hc) with rfl | rfl
    · exact ⟨_, q1, fun v z => nomatch z⟩
    · exact ⟨o1, q2, fun v z => by rw [q3] at z; cases z⟩
  keep := fun i h h2 tn kk => by
    obtain ⟨⟨was, q1⟩, q2, q3⟩ := tn
    exact ⟨⟨was, kk en (by simp) _ q1⟩, q2.at fun o q => kk ti (by simp) o q, q3⟩
  item := by
    intro X e1 e2 e3 hcm i pins s τ H E I fpo tn hgo
    subst e1 e2 e3
    obtain ⟨⟨was, q1⟩, q2, ne1, ne2, ne3⟩ := tn
    obtain ⟨us, u, sq, hu⟩ := hgo
    obtain ⟨raw, rel, pt, _⟩ := I.tuple sq
    obtain ⟨r, hr, rr⟩ := rel.get hu
    have ltE : en < s.heap.objs.size := Heap.lt_size q1
    have ltT : ti < s.heap.objs.size := by obtain ⟨_, z, _⟩ := q2; exact Heap.lt_size z
    have hi : i < raw.toArray.size := by
      have := (List.getElem?_eq_some_iff.mp hr).1
      simpa using this
    refine wpAny_pyNext_enum_itemD (Draws.tuple (A := X.A.in1) (I.ok.hd hcm) ti a ne2 raw.toArray) q1 ⟨q2, pt⟩ hi ne1 (by simp only [List.mem_cons, List.not_mem_nil, or_false, not_or]; exact ⟨ne1, fun z => ne3 z.symm⟩) fun x h1 tk hx out st1 tup sz old => ?_
    have xr : x = r := by
      have z : raw[i]? = some x := by simpa using hx
      rw [hr] at z; exact (Option.some.inj z).symm
    subst xr
    refine ⟨_, rfl, wpAny_letOwnedTupleGo_enum (s := { s with heap := h1, toks := tk + 1 }) out fun h2 again same => ?_⟩
    have there : h2.get? s.heap.objs.size = some { cls := .type "tuple", data := .seq #[.int i tk, x] } := (same.2 _ (Nat.ne_of_gt ltE)).trans tup
    have obT : ObjOk X.prog X.w (upd H s.heap.objs.size (.tup [.int (i : Nat), u])) h2 s.heap.objs.size (.tup [.int (i : Nat), u]) :=
      ⟨by show 2 ≤ sizeLine; rw [sizeLine_eq]; omega, [.int i tk, x], .cons ⟨tk, rfl⟩ (.cons rr .nil), ⟨_, there, rfl, _, rfl⟩⟩
    have stay : ∀ b ob, b ∉ [en, ti] → s.heap.get? b = some ob → h2.get? b = some ob := fun b ob nb z => by
      have n1 : b ≠ en := fun y => nb (by rw [y]; simp)
      have n2 : b ≠ ti := fun y => nb (by rw [y]; simp)
      exact (same.2 b n1).trans (old b ob n1 n2 z)
    have J : Inv X pins τ (upd H s.heap.objs.size (.tup [.int (i : Nat), u])) { s with heap := h2, toks := tk + 1 } := I.turnedNew (ch := [en, ti]) stay fpo (Nat.le_refl _) obT
    refine ⟨.ref s.heap.objs.size, _, J, rfl, ⟨_, u, rfl, I.hok.fresh (Nat.le_refl _), rfl, fun ws hw => by rw [I.tuple_inj hw sq]; exact hu⟩, ⟨⟨x, ?_⟩, st1.1.at fun o z => (same.2 ti (Ne.symm ne1)).trans z, ne1, ne2, ne3⟩, fun b hb => ?_⟩
    · rw [show ((i + 1 : Nat) : Int) = (i : Int) + 1 from by omega]; exact again
    · have lt : b < s.heap.objs.size := by
        rcases (show b = en ∨ b = ti by simpa using hb) with rfl | rfl
        · exact ltE
        · exact ltT
      rw [upd_ne (Nat.ne_of_lt lt)]
      exact (fpo b hb).1
  done := by
    intro X e1 e2 e3 hcm i pins s τ H E I fpo tn hst
    subst e1 e2 e3
    obtain ⟨⟨was, q1⟩, q2, ne1, ne2, ne3⟩ := tn
    obtain ⟨us, sq, hle⟩ := hst
    obtain ⟨raw, rel, pt, _⟩ := I.tuple sq
    obtain ⟨g0, g1, g2, g3, g4, g5⟩ := fpo ti (by simp)
    have ln := rel.length
    have D := Draws.tuple (prog := X.prog) (w := X.w) (A := X.A.in1) (I.ok.hd hcm) ti a ne2 raw.toArray
    unfold pyNext
    refine wpAny_bind (wpAny_attempt (wpAny_callSpecial?_slot (name := Str.ofString "__next__") ⟨_, q1, rfl⟩ F.slot_enumerate_next (wpAny_call_entry F.slot_enumerate_next ⟨_, q1, rfl⟩ F.entry_enumerate_next ?_ (F.args_enumerate_next_1 _))))
    show wpAny _ _ (field (.ref en) 2 >>= _) _ _ _
    refine wpAny_bind (wpAny_field q1 rfl (x := .ref ti) rfl (wpAny_bind (wpAny_nextOf_tuple_end (I.ok.hd hcm) q2 pt (by simp; omega) fun h1 x eb hx => ?_)))
    obtain ⟨ob, ho, hc⟩ := hx
    refine wpAny_bind (wpAny_isInstance (T := "StopIteration") (b := true) ⟨ob, ho, hc⟩ isSubtype_stop ?_)
    exact wpAny_pure ⟨rfl, I.turned (t' := s.toks) (fun b o hb z => eb b o hb z) g0 g1 g3 g4 g5⟩
  self := fun A i s Q E tn h => by
    obtain ⟨⟨was, q1⟩, _⟩ := tn
    exact wpAny_pyIter_enum q1 h
def iEnumT (K : PySem.W.Frag) (ta : TA) : TI := fun σ H R => ta σ H fun vs H1 => ∃ a us, vs = [.ref a] ∧ SqT K H1 a us ∧ R (IteT K a) H1
theorem pi_enumT {X : Cx} {e : Expr} {ta : TA} {p pos tpos : Pos} {elts : List Expr} {kk : Nat} (hg : Gl X "enumerate") (hm : X.mg "enumerate" = none) (ha : PA X [e] ta) (he : starEach [e] X.env = [(false, eval e X.env)] := by rfl) :
    PI X (.Tuple elts kk tpos) (.Call (.Name "enumerate" p) [e] [] pos) (iEnumT X.K ta) := ⟨fun pins s σ H R I h => by
  refine Call_ (ld_blt I hg hm boot_enumerate (callWith_type1 (thn (ha.run pos pins s σ H _ I h) fun us s1 ⟨vs, H1, I1, r1, q1⟩ => ?_) he rfl))
  obtain ⟨a, xs, rfl, sq, q⟩ := q1
  cases r1 with
  | cons r rr =>
    cases rr
    cases r
    obtain ⟨raw, rel, pt, _⟩ := I1.tuple sq
    have lta : a < s1.heap.objs.size := by obtain ⟨ob, ho, _⟩ := pt; exact Heap.lt_size ho
    refine enum_tup_call pt fun h2 en ti keep => wpAny_pyIter_enum en ?_
    have I2 : Inv X pins σ H1 { s1 with heap := h2 } := I1.kept (t' := s1.toks) keep
    refine ⟨s1.heap.objs.size + 1, [s1.heap.objs.size + 1, s1.heap.objs.size], _, _, H1, rfl, I2, turn_enumT a (s1.heap.objs.size + 1) s1.heap.objs.size, ⟨⟨.none, en⟩, ti, Nat.succ_ne_self _, Nat.ne_of_lt lta, Nat.ne_of_lt (Nat.lt_succ_of_lt lta)⟩, fun b hb => ?_, q⟩
    have hle : s1.heap.objs.size ≤ b := by
      rcases (show b = s1.heap.objs.size + 1 ∨ b = s1.heap.objs.size by simpa using hb) with z | z
      · rw [z]; exact Nat.le_succ _
      · rw [z]; exact Nat.le_refl _
    exact I1.fpOk hle (I1.hok.fresh hle)⟩
section
variable {X : Cx} {G : Ent} {M : Md} {N : List Str} {sc : Scope} {fb : Str → Bool} {k : Nat} {δ δ1 δ2 : List Slot} {pos p : Pos} {ds es : List D} {e e2 : Expr}
theorem serves_enumT {K : PySem.W.Frag} {B1 : Hp} {a : Addr} {vs : List V} (h1 : SqT K B1 a vs) (h2 : RepL K B1 vs ds) : Serves K G (IteT K a) B1 (enumD 0 ds) := fun n G' δ σ B H _ S s => by
  have q : SqT K H a vs := sqt_mono (s.trans S.hb) h1
  refine ⟨fun d hd => ?_, fun hl => ⟨vs, q, by rw [h2.length]; rw [enumD_len] at hl; exact hl⟩⟩
  obtain ⟨u, hu, rfl⟩ := enumD_get hd
  obtain ⟨v, g1, g2⟩ := h2.get hu
  refine ⟨⟨vs, v, q, g1⟩, fun x H' y => ?_⟩
  obtain ⟨T, w, e, hT, eH, y⟩ := y
  subst e eH
  have z := y vs q
  rw [g1] at z
  have e : v = w := Option.some.inj z
  subst e
  obtain ⟨S2, s2⟩ := S.newB (o := .tup [.int (n : Nat), v]) hT
  refine ⟨_, S2, s2, .tup (.of upd_same) (.cons ?_ (.one ((g2.up s).up s2))), fun a o e => by rw [upd_ne (ne_of_none e hT)]; exact e⟩
  rw [Nat.zero_add]
  exact .int _
theorem ei_enumT (g : Good X M N sc fb k) (hm : M.mg "enumerate" = none) {tpos : Pos} {elts : List Expr} {kk : Nat} (h : EV X G e δ (.dat (.tup ds)) δ1) (hg : sc.names.lookup ("enumerate" : Str) = some .globalImplicit := by rfl)
    (hs : starEach [e] X.env = [(false, eval e X.env)] := by rfl) (hs2 : starEach [e] X.env = (false, eval e X.env) :: starEach [] X.env := by rfl) : EI X G (.Tuple elts kk tpos) (.Call (.Name "enumerate" p) [e] [] pos) δ (enumD 0 ds) δ1 := fun σ B H S R q =>
  ⟨_, pi_enumT (gl_of g hg) (mn_of g hm) pa_cA hs, ea_cons h ea_nil hs2 σ B H S _ fun vs B1 H1 S1 s1 r1 => by
    obtain ⟨v, rfl, r⟩ := one_of r1
    obtain ⟨a, ws, rfl, h1, h2⟩ := tup_of r
    exact ⟨a, ws, rfl, sqt_mono S1.hb h1, q _ B1 H1 S1 s1 (serves_enumT h1 h2)⟩⟩
/-- pairs, as many as the shorter has -/
def zipD (ds es : List D) : List D := List.zipWith (fun d e => D.tup [d, e]) ds es
theorem zipD_get {i : Nat} {d : D} (h : (zipD ds es)[i]? = some d) : ∃ a b, ds[i]? = some a ∧ es[i]? = some b ∧ d = .tup [a, b] := by
  unfold zipD at h
  rw [List.getElem?_zipWith] at h
  cases h1 : ds[i]? with
  | none => rw [h1] at h; cases h
  | some a =>
    cases h2 : es[i]? with
    | none => rw [h1, h2] at h; cases h
    | some b => rw [h1, h2] at h; exact ⟨a, b, rfl, rfl, (Option.some.inj h).symm⟩
theorem zipD_len : (zipD ds es).length = min ds.length es.length := by unfold zipD; rw [List.length_zipWith]
theorem serves_zipT {K : PySem.W.Frag} {B1 : Hp} {a b : Addr} {vs ws : List V} (h1 : SqT K B1 a vs) (h2 : RepL K B1 vs ds) (h3 : SqT K B1 b ws) (h4 : RepL K B1 ws es) : Serves K G (RZ.ItzT K a b) B1 (zipD ds es) := fun n G' δ σ B H _ S s => by
  have q : SqT K H a vs := sqt_mono (s.trans S.hb) h1
  have q2 : SqT K H b ws := sqt_mono (s.trans S.hb) h3
  refine ⟨fun d hd => ?_, fun hl => ⟨vs, ws, q, q2, by rw [h2.length, h4.length]; rw [zipD_len] at hl; omega⟩⟩
  obtain ⟨u, u2, hu, hu2, rfl⟩ := zipD_get hd
  obtain ⟨v, g1, g2⟩ := h2.get hu
  obtain ⟨v2, g3, g4⟩ := h4.get hu2
  refine ⟨⟨vs, ws, v, v2, q, q2, g1, g3⟩, fun x H' y => ?_⟩
  obtain ⟨T, w, w2, e, hT, eH, y, y2⟩ := y
  subst e eH
  have z := y vs q
  rw [g1] at z
  have e : v = w := Option.some.inj z
  subst e
  have z := y2 ws q2
  rw [g3] at z
  have e : v2 = w2 := Option.some.inj z
  subst e
  obtain ⟨S2, s2⟩ := S.newB (o := .tup [v, v2]) hT
  exact ⟨_, S2, s2, .tup (.of upd_same) (.cons ((g2.up s).up s2) (.one ((g4.up s).up s2))), fun a o e => by rw [upd_ne (ne_of_none e hT)]; exact e⟩
/-- zip of two tuples -/
theorem ei_zipT (g : Good X M N sc fb k) (hm : M.mg "zip" = none) {tpos : Pos} {elts : List Expr} {kk : Nat} (h : EA X G [e, e2] δ [.tup ds, .tup es] δ1) (hg : sc.names.lookup ("zip" : Str) = some .globalImplicit := by rfl)
    (hs : starEach [e, e2] X.env = (false, eval e X.env) :: starEach [e2] X.env := by rfl) (hpl : (backTo pos (starEach [e2] X.env)).any (·.1) = false := by rfl) : EI X G (.Tuple elts kk tpos) (.Call (.Name "zip" p) [e, e2] [] pos) δ (zipD ds es) δ1 := fun σ B H S R q =>
  ⟨_, RZ.pi_zipA (gl_of g hg) (mn_of g hm) pa_cA hs hpl, h σ B H S _ fun vs B1 H1 S1 s1 r1 => by
    obtain ⟨v, u, rfl, r, r2⟩ := two_of r1
    obtain ⟨a, xs, rfl, h1, h2⟩ := tup_of r
    obtain ⟨b, ys, rfl, h3, h4⟩ := tup_of r2
    exact ⟨a, b, xs, ys, rfl, .inr ⟨sqt_mono S1.hb h1, sqt_mono S1.hb h3, q _ B1 H1 S1 s1 (serves_zipT h1 h2 h3 h4)⟩⟩⟩
end
end DL

namespace DL
open PySem L2 PySem.Spec PyProof.Rows
/-! ### len of an instance -/
/-- the class has its own __len__, at the def h -/
structure LenOf (K : PySem.W.Frag) (C h : Addr) : Prop where
  at_ : PySem.W.findIn K (.ref C) "__len__" = some (some (.ref h))
  fn : PySem.W.isFn K (.ref h) = true
structure LenC (M : Md) (CX : CXT) (C : Addr) (j : Nat) (S : PSpec) : Prop where
  ex : ∃ (h : Addr) (fd : FuncData) (ps : List Str), FnOk M.P M.w M.K M.mg M.base CX j h fd ps (spOf M.K S) ∧ LenOf M.K C h ∧ Binds M.K fd ps []
  px : ∀ X : Cx, X.prog = M.P → X.w = M.w → Passes CX X.nox E0
def rLen (C : Addr) (sp : Sp) : List V → Hp → VK → Prop := fun xs H Q => ∃ a dx fs, xs = [.ref a] ∧ H a = some (.ins C dx fs) ∧ sp [.ref a] H (fun v H' => ∃ n : Int, v = .int n ∧ 0 ≤ n ∧ n < 2 ^ 63 ∧ Q (.int n) H') E0
theorem call_lenI {X : Cx} {CX : CXT} {k : Nat} {C h : Addr} {fd : FuncData} {ps : List Str} {sp : Sp} (F : FnOk X.prog X.w X.K X.mg X.base CX k h fd ps sp) (hr : Room (k + 1) X.A) (lo : LenOf X.K C h) (hb : Binds X.K fd ps []) (hx : Passes CX X.nox E0) : CallR X (.builtin "len") (rLen C sp) := by
  intro pins s σ H xs us Q I r hh
  obtain ⟨a, dx, fs, rfl, ea, q⟩ := hh
  cases r with
  | cons ra rr =>
    cases rr
    cases ra
    refine Calls.call_function_entry kind_len plain_len entry_len (args_len1 _) ?_
    unfold Builtin.«len»
    refine wpAny_bind (m := oneArg "len" _) (wpAny_pure ?_)
    obtain ⟨mA, O, _, _, _, _⟩ := ins_get I.hok ea
    obtain ⟨od, J, _⟩ := O.look
    have ln : ([Value.ref a] ++ []).length = ps.length := by rw [← F.len _ _ _ _ q]; rfl
    have run : wpAny (model X.prog X.w) X.A.in1 (call (.ref h) [.ref a]) (EP X pins σ (fun v H' => ∃ n : Int, v = .int n ∧ 0 ≤ n ∧ n < 2 ^ 63 ∧ Q (.int n) H')) X.xe s := by
      refine wpAny_call (codeAny_mono (F.run X.A.in1 X.stack s H ⟨[.ref a], []⟩ [.ref a] [.ref a] _ E0 hr.in1 I.env0.in1 (hb s [.ref a] I.kIn ln) (.cons rfl .nil) q) fun r s' hq => ?_)
      cases r with
      | error er => exact False.elim (hx pins σ H s er s' (I.wish _) hq)
      | ok fl =>
        cases fl with
        | ret u => exact I.after hq
        | next => exact False.elim hq
        | brk => exact False.elim hq
        | cont => exact False.elim hq
    refine wpAny_bind (m := callSpecial? (.ref a) (Str.ofString "__len__")) (PySem.W.special_fn I.kIn J lo.at_ (beq_iff_eq.mp lo.fn) (wpAny_mono run (fun u s' hu => ?_) fun _ _ z => z))
    obtain ⟨v, H', I', rv, n, rfl, n0, n1, qq⟩ := hu
    obtain ⟨tk, rfl⟩ := rv
    refine wpAny_bind (wpAny_holding (wpAny_pure (wpAny_bind (wpAny_letGo ?_))))
    show wpAny _ _ (if n < 0 then _ else _) _ _ _
    rw [if_neg (show ¬ n < 0 by omega)]
    show wpAny _ _ (if n ≥ 2 ^ 63 then _ else _) _ _ _
    rw [if_neg (show ¬ n ≥ 2 ^ 63 by omega)]
    exact wpAny_bind (wpAny_mkInt (wpAny_pure ⟨_, rfl, .int n, H', I'.tok (s'.toks + 1), ⟨_, rfl⟩, qq⟩))
section
variable {X : Cx} {G : Ent} {M : Md} {N : List Str} {sc : Scope} {fb : Str → Bool} {k j : Nat} {δ δ1 : List Slot} {e : Expr} {n : Int} {ds : List D} {pos p : Pos} {C : Addr} {ns : List Str} {S : PSpec}
/-- len(e), e an instance whose class has its own __len__ -/
theorem ev_lenI {CX : CXT} {os : List Slot} (g : Good X M N sc fb k) (hm : M.mg "len" = none) (c : LenC M CX C j S) (hj : j + 1 ≤ k) (h : EV X G e δ (.dat (.ins C ns ds)) δ1) (hs : S [.dat (.ins C ns ds)] (.ret (.dat (.int n)) os)) (h0 : 0 ≤ n ∧ n < 2 ^ 63)
    (hg : sc.names.lookup ("len" : Str) = some .globalImplicit := by rfl) (he : starEach [e] X.env = (false, eval e X.env) :: starEach [] X.env := by rfl) (hpl : (backTo pos (starEach [] X.env)).any (·.1) = false := by rfl) : EV X G (.Call (.Name "len" p) [e] [] pos) δ (.dat (.int n)) δ1 := fun σ B H S0 Q q => by
  obtain ⟨h2, fd, ps, Fk, lo, bi⟩ := c.ex
  have F' : FnOk X.prog X.w X.K X.mg X.base CX j h2 fd ps (spOf X.K S) := by rw [g.P, g.w, g.K, g.mg, g.base]; exact Fk
  refine ⟨_, pe_callB (call_lenI F' (g.room.mono hj) (by rw [g.K]; exact lo) (by rw [g.K]; exact bi) (c.px X g.P g.w)) (gl_of g hg) (mn_of g hm) (by decide +kernel) (pa_cons pe_cE pa_nil he) (by decide) (by decide) he hpl, h σ B H S0 _ fun v B1 H1 S1 s1 r1 => ?_⟩
  obtain ⟨a, dx, fs, rfl, h3, h4, h5⟩ := ins_of r1
  have ra : ArgsR X.K B1 σ [.ref a] [.val (.ins C ns ds)] := .cons (show ArgR X.K B1 σ (.ref a) (.val (.ins C ns ds)) from r1) .nil
  have nb : ∀ n, Arg.bor n ∉ [Arg.val (.ins C ns ds)] := fun n hn => by simp at hn
  have ng : ∀ (i n : Nat), [Arg.val (.ins C ns ds)][i]? ≠ some (.bor n) := fun i n hn => nb n (List.mem_of_getElem? hn)
  refine ⟨a, dx, fs, rfl, S1.hb _ _ h3, B1, _, _, hs, start_of (as := [.val (.ins C ns ds)]) S1 ra (fun n hn => absurd hn (nb n)) (fun i i2 n hn => absurd hn (ng i n)), fun v B' H' po rr => ?_⟩
  have S2 := sat_post (δ2 := δ1) (as := [.val (.ins C ns ds)]) S1 ra po (fun n hn => absurd hn (nb n)) rfl (fun _ _ => rfl) (fun i n hn => absurd hn (ng i n))
  have rv : v = .int n := int_of rr
  exact ⟨n, rv, h0.1, h0.2, q _ B' H' S2 (s1.trans po.b) (.int n)⟩
end
/-! ### the signs of a text -/
def strD (z : Str) : List D := z.cps.toList.map fun (ch : Nat) => D.str ⟨#[ch]⟩
section
variable {X : Cx} {G : Ent} {δ δ1 : List Slot} {e tg : Expr} {z : Str}
theorem serves_str {K : PySem.W.Frag} {B1 : Hp} : Serves K G (Its z) B1 (strD z) := fun n G' δ σ B H _ S s => by
  have hl : (strD z).length = z.cps.size := by unfold strD; rw [List.length_map, Array.length_toList]
  refine ⟨fun d hd => ?_, fun h => by show z.cps.size ≤ n; rw [hl] at h; exact h⟩
  unfold strD at hd
  rw [List.getElem?_map] at hd
  cases q : z.cps.toList[n]? with
  | none => rw [q] at hd; cases hd
  | some ch =>
    rw [q] at hd
    cases hd
    have q' : z.cps[n]? = some ch := by rw [← Array.getElem?_toList]; exact q
    refine ⟨?_, fun x H' y => ?_⟩
    · show n < z.cps.size
      exact (Array.getElem?_eq_some_iff.mp q').1
    · obtain ⟨e, c, hc, hv⟩ := y
      rw [q'] at hc
      cases hc
      subst e hv
      exact ⟨B, S, Same.refl _, .str _, fun _ _ h => h⟩
theorem ei_str (h : EV X G e δ (.dat (.str z)) δ1) : EI X G tg e δ (strD z) δ1 := fun σ B H S R q =>
  ⟨_, pi_str pe_cE, h σ B H S _ fun v B1 H1 S1 s1 r1 => by
    cases r1
    exact ⟨z, rfl, q _ B1 H1 S1 s1 serves_str⟩⟩
end
section
variable {X : Cx} {W : WX} {G : Ent} {M : Md} {N : List Str} {sc scope : Scope} {fb : Str → Bool} {k : Nat} {δ δ1 : List Slot} {P : Out → Prop} {pos xp px spos : Pos} {elt it c : Expr} {x y : Str} {α : Type}
theorem pick_map {e : α → D} {q : α → Bool} {z : α → D} (inj : ∀ x y, e x = e y → x = y) : ∃ f : D → Option D, (∀ w, f (e w) = if q w then some (z w) else none) ∧ ∀ xs : List α, (xs.map e).filterMap f = (xs.filter q).map z := by
  classical
  let f : D → Option D := fun d => if h : ∃ w, e w = d then (if q (Classical.choose h) then some (z (Classical.choose h)) else none) else none
  have fe : ∀ w, f (e w) = if q w then some (z w) else none := fun w => by
    have h : ∃ v, e v = e w := ⟨w, rfl⟩
    show (if h : ∃ v, e v = e w then _ else _) = _
    rw [dif_pos h, inj _ _ (Classical.choose_spec h)]
  refine ⟨f, fe, fun xs => ?_⟩
  induction xs with
  | nil => rfl
  | cons w ws ih =>
    rw [List.map_cons, List.filterMap_cons, fe w]
    by_cases hq : q w = true
    · rw [if_pos hq, List.filter_cons_of_pos hq]; simp only []; rw [ih]; rfl
    · rw [if_neg hq, List.filter_cons_of_neg hq]; exact ih
/-- y = [elt for x in it if c], the row's items stand for xs -/
theorem s_asgLcFx (g : Good X M N sc fb k) (n v : Nat) (xs : List α) (e : α → D) (q : α → Bool) (z : α → D) (inj : ∀ x y, e x = e y → x = y) (hbn : ∀ i, i ∉ G.bor.map (·.1)) (p : P (.nx ((δ1.set v .un).set n (.own ((xs.filter q).map z))))) (hi : EI X G (.Name x xp) it δ (xs.map e) δ1) (hn : xs.length ≤ 100000)
    (hs : ∀ w ∈ xs, Blk M N sc scope k G.bor (fun Y G' => ET Y G' c (δ1.set v (.dat (e w))) (q w) (δ1.set v (.dat (e w)))) ∧ (q w = true → Blk M N sc scope k G.bor (fun Y G' => EV Y G' elt (δ1.set v (.dat (e w))) (.dat (z w)) (δ1.set v (.dat (e w))))))
    (hN2 : N[v]? = some x := by rfl) (hlo2 : locB (relS scope sc) (fun x => scope.names.lookup x == some .cell) x = true := by rfl) (ok : blkC N sc scope [(x, v)] = true := by decide +kernel)
    (hN : N[n]? = some y := by rfl) (hk : sc.kind = .function := by rfl) (hlo : sc.names.lookup y = some .local := by rfl) (hli : (px.line == pos.line) = true := by rfl) (ha : (scope.names.any fun (m, k) => m == y && (k == .local || k == .cell)) = false := by decide +kernel) (hsl : spos.line = pos.line := by rfl)
    (hf : ∀ x, foldedSetIterable it X.env x = pure x := by intro _; rfl) : SV1 X W G (.Assign [.Name y px] (.ListComp elt [⟨.Name x xp, it, [c], 0⟩] scope pos) spos) δ P := by
  obtain ⟨f, fe, key⟩ := pick_map (q := q) (z := z) inj
  refine s_asgLcF g n [(x, v)] [v] f (hbn n) (by rw [key]; exact p) (fun w _ => hbn w) hi rfl (by rw [List.length_map]; exact hn) (fun i d hd => ?_) (fun j hj => by simpa using hj) ok hN hk hlo hli ha hsl hf
  rw [List.getElem?_map] at hd
  cases ez : xs[i]? with
  | none => rw [ez] at hd; cases hd
  | some w =>
    rw [ez] at hd
    obtain rfl : e w = d := Option.some.inj hd
    obtain ⟨h1, h2⟩ := hs w (List.mem_of_getElem? ez)
    have es : (f (e w)).isSome = q w := by rw [fe]; by_cases hq : q w = true <;> simp [hq]
    refine ⟨δ1.set v (.dat (e w)), ?_, fun Y G' gy hG => ⟨?_, by rw [es]; exact h1 Y G' gy hG⟩, fun u hu => ?_⟩
    · show (δ1.set v (.dat (e w))).set v .un = δ1.set v .un
      rw [set_two]
    · have := ag_name (pos := xp) (d := e w) (δ := δ1.set v .un) gy v (by rw [hG]; exact hbn v) hN2 hlo2
      rw [set_two] at this
      exact this
    · rw [fe] at hu
      by_cases hq : q w = true
      · rw [if_pos hq] at hu
        obtain rfl := Option.some.inj hu
        exact h2 hq
      · rw [if_neg hq] at hu; cases hu
end
end DL

/-! Computations over plain values that may get stuck or raise, and the rules that tie a def's body to one of them. -/
namespace VC
open PySem L2 DL

inductive Ex where
  | stuck
  | exc (c : Str) (ns : List Str) (ds : List D)
abbrev Mo (α : Type) := Except Ex α
section
variable {α β σ ρ : Type}
theorem bind_ok {m : Mo α} {k : α → Mo β} {r : β} (h : (m >>= k) = .ok r) : ∃ v, m = .ok v ∧ k v = .ok r := by
  cases m with
  | error e => cases h
  | ok v => exact ⟨v, rfl, h⟩
theorem pure_ok {a b : α} (h : (Except.ok a : Mo α) = .ok b) : a = b := Except.ok.inj h
theorem ok_bind (a : α) (k : α → Mo β) : ((.ok a : Mo α) >>= k) = k a := rfl
theorem pure_bind_ (a : α) (k : α → Mo β) : ((pure a : Mo α) >>= k) = k a := rfl
theorem cond_t {c : Bool} {a b x : α} (hc : c = true) (h : (bif c then a else b) = x) : a = x := by subst hc; exact h
theorem cond_f {c : Bool} {a b x : α} (hc : c = false) (h : (bif c then a else b) = x) : b = x := by subst hc; exact h
open Classical in
noncomputable def grd (p : Prop) (a : α) : Mo α := if p then .ok a else .error .stuck
theorem grd_ok {p : Prop} {a b : α} (h : grd p a = .ok b) : p ∧ a = b := by
  unfold grd at h
  by_cases hp : p
  · rw [if_pos hp] at h; exact ⟨hp, Except.ok.inj h⟩
  · rw [if_neg hp] at h; cases h
theorem grd_pos {p : Prop} {a : α} (h : p) : grd p a = .ok a := if_pos h

noncomputable def mulM (i j : Int) : Mo Int := grd (MulOk i j) (i * j)
noncomputable def fdivM (i j : Int) : Mo Int := grd (CDivW i j) (i / j)
noncomputable def modM (i j : Int) : Mo Int := grd (0 < j) (i % j)
noncomputable def powM (i j : Int) : Mo Int := grd (CPow i j) (i ^ j.toNat)
def idxM (xs : List α) (i : Int) : Mo α := match atI xs i with
  | some x => .ok x
  | none => .error .stuck
theorem idxM_ok {xs : List α} {i : Int} {x : α} (h : idxM xs i = .ok x) : atI xs i = some x := by
  unfold idxM at h
  cases e : atI xs i with
  | none => rw [e] at h; cases h
  | some y => rw [e] at h; exact congrArg some (Except.ok.inj h)
theorem idxM_nat {xs : List α} {i : Nat} (h : i < xs.length) : idxM xs (i : Int) = .ok xs[i] := by
  have e : atI xs (i : Int) = some xs[i] := by
    unfold atI ixN
    rw [if_pos (by omega), if_pos (by omega)]
    show xs[((i : Int)).toNat]? = _
    rw [Int.toNat_natCast, List.getElem?_eq_getElem h]
  unfold idxM; rw [e]
def setM (xs : List α) (i : Int) (x : α) : Mo (List α) := match ixN xs.length i with
  | some n => .ok (xs.set n x)
  | none => .error .stuck
theorem setM_ok {xs ys : List α} {i : Int} {x : α} (h : setM xs i x = .ok ys) : ∃ n, ixN xs.length i = some n ∧ ys = xs.set n x := by
  unfold setM at h
  cases e : ixN xs.length i with
  | none => rw [e] at h; cases h
  | some n => rw [e] at h; exact ⟨n, rfl, (Except.ok.inj h).symm⟩
theorem setM_nat {xs : List α} {i : Nat} {x : α} (h : i < xs.length) : setM xs (i : Int) x = .ok (xs.set i x) := by
  have e : ixN xs.length (i : Int) = some i := by
    unfold ixN
    rw [if_pos (by omega), if_pos (by omega), Int.toNat_natCast]
  unfold setM; rw [e]
noncomputable def appM (xs : List α) (x : α) : Mo (List α) := grd (xs.length < 100000) (xs ++ [x])
noncomputable def catM (xs ys : List α) : Mo (List α) := grd (xs.length + ys.length ≤ 100000) (xs ++ ys)
noncomputable def repM (xs : List α) (i : Int) : Mo (List α) := grd (0 ≤ i ∧ i ≤ 100000 ∧ xs.length * i.toNat ≤ 100000) (List.replicate i.toNat xs).flatten
def rangeI (lo : Int) (n : Nat) : List Int := (List.range n).map fun (q : Nat) => lo + (q : Int)
noncomputable def rangeM (i : Int) : Mo (List Int) := grd (-(2 ^ 62) ≤ i ∧ i < 2 ^ 62) (rangeI 0 i.toNat)
noncomputable def rangeM2 (i j : Int) : Mo (List Int) := grd (-(2 ^ 62) ≤ i ∧ i < 2 ^ 62 ∧ -(2 ^ 62) ≤ j ∧ j < 2 ^ 62) (rangeI i (j - i).toNat)
def cutL (xs : List α) (lo hi : Option Int) : List α := (xs.drop (HT.sIx xs.length 0 lo)).take (HT.sIx xs.length xs.length hi - HT.sIx xs.length 0 lo)
def enumL (xs : List α) : List (Int × α) := (List.range xs.length).zipWith (fun (q : Nat) x => ((q : Int), x)) xs
open Classical in
noncomputable def eqD (d e : D) : Mo Bool := grd (d.ok ∧ e.ok) (PyData.eqv d.py e.py)
/-- a row's items, one after the other -/
def mapMo0 (f : α → Mo β) : List α → Mo (List β)
  | [] => .ok []
  | x :: xs => f x >>= fun y => mapMo0 f xs >>= fun ys => .ok (y :: ys)
noncomputable def mapMo (f : α → Mo β) (xs : List α) : Mo (List β) := grd (xs.length ≤ 100000) () >>= fun _ => mapMo0 f xs
def compMo0 (f : α → Mo (Option β)) : List α → Mo (List β)
  | [] => .ok []
  | x :: xs => f x >>= fun y => compMo0 f xs >>= fun ys => .ok (y.toList ++ ys)
noncomputable def compMo (f : α → Mo (Option β)) (xs : List α) : Mo (List β) := grd (xs.length ≤ 100000) () >>= fun _ => compMo0 f xs
/-- .. a state going along -/
def mapMoS0 (f : σ → α → Mo (β × σ)) : σ → List α → Mo (List β × σ)
  | s, [] => .ok ([], s)
  | s, x :: xs => f s x >>= fun y => mapMoS0 f y.2 xs >>= fun ys => .ok (y.1 :: ys.1, ys.2)
noncomputable def mapMoS (f : σ → α → Mo (β × σ)) (s : σ) (xs : List α) : Mo (List β × σ) := grd (xs.length ≤ 100000) () >>= fun _ => mapMoS0 f s xs
def foldMo (f : σ → α → Mo σ) : σ → List α → Mo σ
  | s, [] => .ok s
  | s, x :: xs => f s x >>= fun s' => foldMo f s' xs
inductive Stp (ρ σ : Type) where
  | nx (s : σ)
  | bk (s : σ)
  | rt (r : ρ)
def loopMo (f : σ → α → Mo (Stp ρ σ)) : σ → List α → Mo (ρ ⊕ σ)
  | s, [] => .ok (.inr s)
  | s, x :: xs => f s x >>= fun t => match t with
    | .nx s' => loopMo f s' xs
    | .bk s' => .ok (.inr s')
    | .rt r => .ok (.inl r)
def whileMo (c : σ → Mo Bool) (f : σ → Mo (Stp ρ σ)) : Nat → σ → Mo (ρ ⊕ σ)
  | 0, _ => .error .stuck
  | n + 1, s => c s >>= fun b => bif b then (f s >>= fun t => match t with
    | .nx s' => whileMo c f n s'
    | .bk s' => .ok (.inr s')
    | .rt r => .ok (.inl r)) else .ok (.inr s)
def fuel : Nat := 1000000000
end

/-! ### how the data of a typed list look -/
section
variable {α β : Type} {E : α → D} {E2 : β → D}
theorem atI_map {α β : Type} (E : α → β) (xs : List α) (i : Int) : atI (xs.map E) i = (atI xs i).map E := by
  unfold atI
  rw [List.length_map]
  cases ixN xs.length i with
  | none => rfl
  | some n => show (xs.map E)[n]? = (xs[n]?).map E; rw [List.getElem?_map]
theorem cut_map (xs : List α) (lo hi : Option Int) : cutD (xs.map E) lo hi = (cutL xs lo hi).map E := by
  unfold cutD cutL
  rw [List.length_map, List.map_take, List.map_drop]
theorem range_map (lo : Int) (n : Nat) : rangeD lo n = (rangeI lo n).map D.int := by
  unfold rangeD rangeI; rw [List.map_map]; rfl
theorem enum_map0 : ∀ (xs : List α) (n : Nat), enumD n (xs.map E) = ((List.range' n xs.length).zipWith (fun (q : Nat) x => ((q : Int), x)) xs).map fun p => D.tup [.int p.1, E p.2]
  | [], n => rfl
  | x :: xs, n => by
    show D.tup [.int (n : Int), E x] :: enumD (n + 1) (xs.map E) = _
    rw [enum_map0 xs (n + 1), List.length_cons, List.range'_succ, List.zipWith_cons_cons, List.map_cons]
theorem enum_map (xs : List α) : enumD 0 (xs.map E) = (enumL xs).map fun p => D.tup [.int p.1, E p.2] := by
  rw [enum_map0, enumL, List.range_eq_range']
theorem zip_map (xs : List α) (ys : List β) : zipD (xs.map E) (ys.map E2) = (xs.zip ys).map fun p => D.tup [E p.1, E2 p.2] := by
  unfold zipD
  induction xs generalizing ys with
  | nil => rfl
  | cons x xs ih =>
    cases ys with
    | nil => rfl
    | cons y ys =>
      rw [List.map_cons, List.map_cons, List.zipWith_cons_cons, List.zip_cons_cons, List.map_cons, ih]
end

/-! ### rules -/
section
variable {X : Cx} {W : WX} {G : Ent} {M : Md} {N : List Str} {sc : Scope} {fb : Str → Bool} {k : Nat} {δ δ1 δ2 δ3 : List Slot} {a b e c tg it elt : Expr} {pos p px apos : Pos} {d : D} {ds : List D} {x y : Str} {i j z : Int} {α β : Type} {E : α → D} {E2 : β → D} {P : Out → Prop} {rest body orelse : List Stmt}
theorem ev_mulM (ha : EV X G a δ (.dat (.int i)) δ1) (hb : EV X G b δ1 (.dat (.int j)) δ2) (q : mulM i j = .ok z) : EV X G (.BinOp a .Mult b pos) δ (.dat (.int z)) δ2 := by
  obtain ⟨h, rfl⟩ := grd_ok q; exact ev_mul ha hb h
theorem ev_fdivM (ha : EV X G a δ (.dat (.int i)) δ1) (hb : EV X G b δ1 (.dat (.int j)) δ2) (q : fdivM i j = .ok z) : EV X G (.BinOp a .FloorDiv b pos) δ (.dat (.int z)) δ2 := by
  obtain ⟨h, rfl⟩ := grd_ok q; exact ev_fdiv ha hb h
theorem ev_modM (ha : EV X G a δ (.dat (.int i)) δ1) (hb : EV X G b δ1 (.dat (.int j)) δ2) (q : modM i j = .ok z) : EV X G (.BinOp a .Mod b pos) δ (.dat (.int z)) δ2 := by
  obtain ⟨h, rfl⟩ := grd_ok q; exact ev_mod ha hb h
theorem ev_powM (ha : EV X G a δ (.dat (.int i)) δ1) (hb : EV X G b δ1 (.dat (.int j)) δ2) (q : powM i j = .ok z) : EV X G (.BinOp a .Pow b pos) δ (.dat (.int z)) δ2 := by
  obtain ⟨h, rfl⟩ := grd_ok q; exact ev_pow ha hb h
theorem ev_ixLM {xs : List α} {x : α} (ha : EV X G a δ (.dat (.lst (xs.map E))) δ1) (hb : EV X G b δ1 (.dat (.int i)) δ2) (q : idxM xs i = .ok x) (hp : PlainIx b := by exact fun _ _ => rfl) : EV X G (.Subscript a b pos) δ (.dat (E x)) δ2 :=
  ev_ixL ha hb (by rw [atI_map, idxM_ok q]; rfl) hp
theorem ev_ixTM {xs : List α} {x : α} (ha : EV X G a δ (.dat (.tup (xs.map E))) δ1) (hb : EV X G b δ1 (.dat (.int i)) δ2) (q : idxM xs i = .ok x) (hp : PlainIx b := by exact fun _ _ => rfl) : EV X G (.Subscript a b pos) δ (.dat (E x)) δ2 :=
  ev_ixT ha hb (by rw [atI_map, idxM_ok q]; rfl) hp
theorem ev_ixOM {xs : List α} {v : α} (g : Good X M N sc fb k) (n : Nat) (E : α → D) (hb : EV X G b δ (.dat (.int i)) δ1) (q : idxM xs i = .ok v) (h0 : ∃ ds0, δ[n]? = some (.own ds0)) (h1 : δ1[n]? = some (.own (xs.map E)) := by rfl) (hp : PlainIx b := by exact fun _ _ => rfl)
    (hN : N[n]? = some x := by rfl) (hv : visB sc x = true := by rfl) (hd : (x == ("__debug__" : Str)) = false := by decide) (hc : (x == ("__classdict__" : Str)) = false := by decide) : EV X G (.Subscript (.Name x px) b pos) δ (.dat (E v)) δ1 :=
  ev_ixO g n hb (by rw [atI_map, idxM_ok q]; rfl) h0 h1 hp hN hv hd hc
theorem EV.eqO {ds ds' : List D} (h : EV X G e δ (.own ds) δ1) (q : ds = ds') : EV X G e δ (.own ds') δ1 := q ▸ h
theorem ev_slLM {xs : List α} {lo hi : Option Expr} {l u : Option Int} {p2 : Pos} (ha : EV X G a δ (.dat (.lst (xs.map E))) δ1) (hl : EO X G lo δ1 l δ2) (hu : EO X G hi δ2 u δ3) : EV X G (.Subscript a (.Slice lo hi none p2) pos) δ (.own ((cutL xs l u).map E)) δ3 :=
  EV.eqO (ev_slL ha hl hu) (cut_map xs l u)
theorem ev_catM {xs ys zs : List α} (ha : EV X G a δ (.dat (.lst (xs.map E))) δ1) (hb : EV X G b δ1 (.dat (.lst (ys.map E))) δ2) (q : catM xs ys = .ok zs) : EV X G (.BinOp a .Add b pos) δ (.own (zs.map E)) δ2 := by
  obtain ⟨h, rfl⟩ := grd_ok q
  rw [List.map_append]
  exact ev_cat ha hb (by rw [List.length_map, List.length_map]; exact h)
theorem ev_repM {xs zs : List α} (ha : EV X G a δ (.own (xs.map E)) δ1) (hb : ∀ G' : Ent, G'.bor = G.bor → EV X G' b δ1 (.dat (.int i)) δ2) (q : repM xs i = .ok zs) : EV X G (.BinOp a .Mult b pos) δ (.own (zs.map E)) δ2 := by
  obtain ⟨⟨h0, h1, h2⟩, rfl⟩ := grd_ok q
  have := ev_rep (pos := pos) ha hb ⟨h0, h1⟩ (by rw [List.length_map]; exact h2)
  rw [List.map_flatten, List.map_replicate]
  exact this
theorem ev_eqDM {d1 d2 : D} {z : Bool} (g : Good X M N sc fb k) (ha : EV X G a δ (.dat d1) δ1) (hb : EV X G b δ1 (.dat d2) δ2) (q : eqD d1 d2 = .ok z) : EV X G (.Compare a [.Eq] [b] pos) δ (.dat (.bl z)) δ2 := by
  obtain ⟨⟨h1, h2⟩, rfl⟩ := grd_ok q; exact ev_eqD g ha hb h1 h2
theorem ev_neDM {d1 d2 : D} {z : Bool} (g : Good X M N sc fb k) (ha : EV X G a δ (.dat d1) δ1) (hb : EV X G b δ1 (.dat d2) δ2) (q : eqD d1 d2 = .ok z) : EV X G (.Compare a [.NotEq] [b] pos) δ (.dat (.bl (!z))) δ2 := by
  obtain ⟨⟨h1, h2⟩, rfl⟩ := grd_ok q; exact ev_neD g ha hb h1 h2
theorem ev_neF (g : Good X M N sc fb k) {x y : Rat} (ha : EV X G a δ (.dat (fr x)) δ1) (hb : EV X G b δ1 (.dat (fr y)) δ2) : EV X G (.Compare a [.NotEq] [b] pos) δ (.dat (.bl (!decide (x = y)))) δ2 := by
  have h := ev_neD (pos := pos) g ha hb (fr_ok x) (fr_ok y)
  rw [eqv_fr] at h
  exact h
/-- and, or: what stands behind the first part is asked only if it must -/
def andM (x : Bool) (m : Mo Bool) : Mo Bool := bif x then m else .ok false
def orM (x : Bool) (m : Mo Bool) : Mo Bool := bif x then .ok true else m
theorem andM_ok {x : Bool} {m : Mo Bool} {t : Bool} (h : andM x m = .ok t) : ∃ y, t = (x && y) ∧ (x = true → m = .ok y) := by
  cases x with
  | true => exact ⟨t, rfl, fun _ => h⟩
  | false => exact ⟨false, (Except.ok.inj h).symm, fun e => by cases e⟩
theorem orM_ok {x : Bool} {m : Mo Bool} {t : Bool} (h : orM x m = .ok t) : ∃ y, t = (x || y) ∧ (x = false → m = .ok y) := by
  cases x with
  | false => exact ⟨t, rfl, fun _ => h⟩
  | true => exact ⟨false, (Except.ok.inj h).symm, fun e => by cases e⟩
section
variable {es : List Expr} {u v t : Bool} {m : Mo Bool}
theorem ev_andM (h : EV X G a δ (.dat (.bl u)) δ1) (q : andM u m = .ok t) (h2 : ∀ v, m = .ok v → EV X G (.BoolOp .And (b :: es) pos) δ1 (.dat (.bl v)) δ1) : EV X G (.BoolOp .And (a :: b :: es) pos) δ (.dat (.bl t)) δ1 := by
  obtain ⟨y, rfl, hy⟩ := andM_ok q
  exact ev_and h fun hu => h2 y (hy hu)
theorem ev_orM (h : EV X G a δ (.dat (.bl u)) δ1) (q : orM u m = .ok t) (h2 : ∀ v, m = .ok v → EV X G (.BoolOp .Or (b :: es) pos) δ1 (.dat (.bl v)) δ1) : EV X G (.BoolOp .Or (a :: b :: es) pos) δ (.dat (.bl t)) δ1 := by
  obtain ⟨y, rfl, hy⟩ := orM_ok q
  exact ev_or h fun hu => h2 y (hy hu)
theorem ew_andM (h : ET X G a δ u δ1) (q : andM u m = .ok t) (h2 : ∀ v, m = .ok v → EW X G (.BoolOp .And (b :: es) pos) δ1 v δ1) : EW X G (.BoolOp .And (a :: b :: es) pos) δ t δ1 := by
  obtain ⟨y, rfl, hy⟩ := andM_ok q
  exact ew_and h fun hu => h2 y (hy hu)
theorem ew_orM (h : ET X G a δ u δ1) (q : orM u m = .ok t) (h2 : ∀ v, m = .ok v → EW X G (.BoolOp .Or (b :: es) pos) δ1 v δ1) : EW X G (.BoolOp .Or (a :: b :: es) pos) δ t δ1 := by
  obtain ⟨y, rfl, hy⟩ := orM_ok q
  exact ew_or h fun hu => h2 y (hy hu)
theorem EW.eq (h : EW X G e δ u δ1) (q : u = v) : EW X G e δ v δ1 := q ▸ h
/-- one of two values -/
theorem ev_ifM (E : α → D) {m1 m2 : Mo α} {r : α} (h : ET X G c δ u δ1) (q : (bif u then m1 else m2) = .ok r) (h1 : ∀ v, m1 = .ok v → EV X G a δ1 (.dat (E v)) δ2) (h2 : ∀ v, m2 = .ok v → EV X G b δ1 (.dat (E v)) δ2) : EV X G (.IfExp c a b pos) δ (.dat (E r)) δ2 :=
  ev_if h (fun hu => h1 r (cond_t hu q)) (fun hu => h2 r (cond_f hu q))
end
theorem ev_ifP (E : α → D) {u : Bool} {x y : α} (h : ET X G c δ u δ1) (h1 : EV X G a δ1 (.dat (E x)) δ2) (h2 : EV X G b δ1 (.dat (E y)) δ2) : EV X G (.IfExp c a b pos) δ (.dat (E (bif u then x else y))) δ2 :=
  ev_if h (fun hu => by subst hu; exact h1) (fun hu => by subst hu; exact h2)
/-! ### what a for walks -/
theorem ei_rangeM {xs : List Int} (g : Good X M N sc fb k) (hm : M.mg "range" = none) (h : EV X G e δ (.dat (.int i)) δ1) (q : rangeM i = .ok xs) (hg : sc.names.lookup ("range" : Str) = some .globalImplicit := by rfl)
    (hs : starEach [e] X.env = [(false, eval e X.env)] := by rfl) (hs2 : starEach [e] X.env = (false, eval e X.env) :: starEach [] X.env := by rfl) : EI X G tg (.Call (.Name "range" p) [e] [] pos) δ (xs.map .int) δ1 := by
  obtain ⟨h1, rfl⟩ := grd_ok q
  rw [← range_map]
  exact ei_range1 g hm h h1 hg hs hs2
theorem ei_rangeM2 {xs : List Int} (g : Good X M N sc fb k) (hm : M.mg "range" = none) (h : EA X G [a, b] δ [.int i, .int j] δ1) (q : rangeM2 i j = .ok xs) (hg : sc.names.lookup ("range" : Str) = some .globalImplicit := by rfl)
    (hs : starEach [a, b] X.env = [(false, eval a X.env), (false, eval b X.env)] := by rfl) (hs2 : starEach [b] X.env = [(false, eval b X.env)] := by rfl) : EI X G tg (.Call (.Name "range" p) [a, b] [] pos) δ (xs.map .int) δ1 := by
  obtain ⟨h1, rfl⟩ := grd_ok q
  rw [← range_map]
  exact ei_range2 g hm h h1 hg hs hs2
theorem EI.eq {ds ds' : List D} (h : EI X G tg it δ ds δ1) (q : ds = ds') : EI X G tg it δ ds' δ1 := q ▸ h

/-! ### comprehensions -/
theorem mapMo_ok {f : α → Mo β} {xs : List α} {ys : List β} (h : mapMo f xs = .ok ys) : xs.length ≤ 100000 ∧ mapMo0 f xs = .ok ys := by
  obtain ⟨_, q, h⟩ := bind_ok h
  exact ⟨(grd_ok q).1, h⟩
theorem mapMo0_get {f : α → Mo β} : ∀ {xs : List α} {ys : List β}, mapMo0 f xs = .ok ys → ys.length = xs.length ∧ ∀ (i : Nat) x, xs[i]? = some x → ∃ y, ys[i]? = some y ∧ f x = .ok y
  | [], ys, h => by
    obtain rfl := Except.ok.inj h
    exact ⟨rfl, fun i x h => by simp at h⟩
  | x :: xs, ys, h => by
    obtain ⟨y, q1, h⟩ := bind_ok h
    obtain ⟨zs, q2, h⟩ := bind_ok h
    obtain rfl := Except.ok.inj h
    obtain ⟨l, r⟩ := mapMo0_get q2
    refine ⟨by rw [List.length_cons, List.length_cons, l], fun i w hw => ?_⟩
    cases i with
    | zero => cases hw; exact ⟨y, rfl, q1⟩
    | succ i => exact r i w (by simpa using hw)
theorem compMo_ok {f : α → Mo (Option β)} {xs : List α} {ys : List β} (h : compMo f xs = .ok ys) : xs.length ≤ 100000 ∧ compMo0 f xs = .ok ys := by
  obtain ⟨_, q, h⟩ := bind_ok h
  exact ⟨(grd_ok q).1, h⟩
theorem compMo0_snoc {f : α → Mo (Option β)} : ∀ {xs : List α} {x : α} {ys : List β}, compMo0 f (xs ++ [x]) = .ok ys ↔ ∃ zs o, compMo0 f xs = .ok zs ∧ f x = .ok o ∧ ys = zs ++ o.toList
  | [], x, ys => by
    constructor
    · intro h
      obtain ⟨o, q1, h⟩ := bind_ok (show (f x >>= fun y => compMo0 f [] >>= fun ys => .ok (y.toList ++ ys)) = .ok ys from h)
      refine ⟨[], o, rfl, q1, ?_⟩
      have := Except.ok.inj h
      rw [← this]; simp
    · rintro ⟨zs, o, h1, h2, rfl⟩
      obtain rfl := Except.ok.inj h1
      show (f x >>= fun y => compMo0 f [] >>= fun ys => .ok (y.toList ++ ys)) = _
      rw [h2]
      show Except.ok (o.toList ++ []) = _
      simp
  | w :: xs, x, ys => by
    have ih := @compMo0_snoc f xs x
    constructor
    · intro h
      obtain ⟨o, q1, h⟩ := bind_ok (show (f w >>= fun y => compMo0 f (xs ++ [x]) >>= fun ys => .ok (y.toList ++ ys)) = .ok ys from h)
      obtain ⟨us, q2, h⟩ := bind_ok h
      obtain ⟨zs, o2, h1, h2, rfl⟩ := ih.mp q2
      refine ⟨o.toList ++ zs, o2, ?_, h2, ?_⟩
      · show (f w >>= fun y => compMo0 f xs >>= fun ys => .ok (y.toList ++ ys)) = _
        rw [q1]
        show (compMo0 f xs >>= fun ys => .ok (o.toList ++ ys)) = _
        rw [h1]; rfl
      · have := Except.ok.inj h
        rw [← this, List.append_assoc]
    · rintro ⟨zs, o, h1, h2, rfl⟩
      obtain ⟨o1, q1, h1⟩ := bind_ok (show (f w >>= fun y => compMo0 f xs >>= fun ys => .ok (y.toList ++ ys)) = .ok zs from h1)
      obtain ⟨us, q2, h1⟩ := bind_ok h1
      obtain rfl := Except.ok.inj h1
      show (f w >>= fun y => compMo0 f (xs ++ [x]) >>= fun ys => .ok (y.toList ++ ys)) = _
      rw [q1]
      show (compMo0 f (xs ++ [x]) >>= fun ys => .ok (o1.toList ++ ys)) = _
      rw [ih.mpr ⟨us, o, q2, h2, rfl⟩]
      show Except.ok (o1.toList ++ (us ++ o.toList)) = _
      rw [List.append_assoc]
theorem compMo0_take {f : α → Mo (Option β)} {xs : List α} {ys : List β} (h : compMo0 f xs = .ok ys) : ∀ i, ∃ zs, compMo0 f (xs.take i) = .ok zs := by
  intro i
  induction xs generalizing i ys with
  | nil => exact ⟨[], by rw [List.take_nil]; rfl⟩
  | cons x xs ih =>
    obtain ⟨o, q1, h⟩ := bind_ok (show (f x >>= fun y => compMo0 f xs >>= fun ys => .ok (y.toList ++ ys)) = .ok ys from h)
    obtain ⟨us, q2, h⟩ := bind_ok h
    cases i with
    | zero => exact ⟨[], rfl⟩
    | succ i =>
      obtain ⟨zs, q3⟩ := ih q2 i
      refine ⟨o.toList ++ zs, ?_⟩
      show (f x >>= fun y => compMo0 f (xs.take i) >>= fun ys => .ok (y.toList ++ ys)) = _
      rw [q1]
      show (compMo0 f (xs.take i) >>= fun ys => .ok (o.toList ++ ys)) = _
      rw [q3]; rfl
theorem mapMoS_ok {σ : Type} {f : σ → α → Mo (β × σ)} {s : σ} {xs : List α} {r : List β × σ} (h : mapMoS f s xs = .ok r) : xs.length ≤ 100000 ∧ mapMoS0 f s xs = .ok r := by
  obtain ⟨_, q, h⟩ := bind_ok h
  exact ⟨(grd_ok q).1, h⟩
end
end VC

namespace VC
open PySem L2 DL
/-! ### comprehensions -/
section
variable {X : Cx} {W : WX} {G : Ent} {M : Md} {N : List Str} {sc scope : Scope} {fb : Str → Bool} {k : Nat} {δ δ0 δ1 δ2 δ3 : List Slot} {a b e c tg it elt : Expr} {pos p px apos spos : Pos} {d : D} {ds : List D} {x y : Str} {i j z : Int} {α β σ ρ : Type} {E : α → D} {E2 : β → D} {P : Out → Prop} {rest body orelse : List Stmt} {own : List (Str × Nat)} {js : List Nat}
/-- the turns of [elt for tg in it] -/
theorem turns_map (δt : α → List Slot) {f : α → Mo β} {xs : List α} {ys : List β} (q : mapMo f xs = .ok ys) (hw : ∀ x, wipeS (δt x) (own.map (·.2)) = δ0)
    (hs : ∀ (x : α) (y : β), f x = .ok y → Blk M N sc scope k G.bor (fun Y G' => AG Y G' tg (E x) δ0 (δt x) js ∧ EV Y G' elt (δt x) (.dat (E2 y)) (δt x))) :
    ∀ (i : Nat) d, (xs.map E)[i]? = some d → ∃ δt y, (ys.map E2)[i]? = some y ∧ wipeS δt (own.map (·.2)) = δ0 ∧ Blk M N sc scope k G.bor (fun Y G' => AG Y G' tg d δ0 δt js ∧ EV Y G' elt δt (.dat y) δt) := fun i d hd => by
  obtain ⟨l, r⟩ := mapMo0_get (mapMo_ok q).2
  rw [List.getElem?_map] at hd
  cases ex : xs[i]? with
  | none => rw [ex] at hd; cases hd
  | some x =>
    rw [ex] at hd
    obtain rfl : E x = d := Option.some.inj hd
    obtain ⟨y, h1, h2⟩ := r i x ex
    exact ⟨δt x, E2 y, by rw [List.getElem?_map, h1]; rfl, hw x, hs x y h2⟩
theorem ev_lcMo (g : Good X M N sc fb k) (E2 : β → D) (own : List (Str × Nat)) (js : List Nat) (δ0 : List Slot) (δt : α → List Slot) {f : α → Mo β} {xs : List α} {ys : List β} (hv : ∀ v ∈ own.map (·.2), v ∉ G.bor.map (·.1)) (hi : EI X G tg it δ (xs.map E) δ1) (q : mapMo f xs = .ok ys) (h0 : wipeS δ1 (own.map (·.2)) = δ0) (hw : ∀ x, wipeS (δt x) (own.map (·.2)) = δ0)
    (hs : ∀ (x : α) (y : β), f x = .ok y → Blk M N sc scope k G.bor (fun Y G' => AG Y G' tg (E x) δ0 (δt x) js ∧ EV Y G' elt (δt x) (.dat (E2 y)) (δt x)))
    (hjs : ∀ j ∈ js, j ∈ own.map (·.2) := by decide) (ok : blkC N sc scope own = true := by decide +kernel) (hf : ∀ x, foldedSetIterable it X.env x = pure x := by intro _; rfl) : EV X G (.ListComp elt [⟨tg, it, [], 0⟩] scope pos) δ (.own (ys.map E2)) δ0 :=
  ev_lcM g own js (ys.map E2) hv hi h0 (by rw [List.length_map, List.length_map, (mapMo0_get (mapMo_ok q).2).1]) (by rw [List.length_map]; exact (mapMo_ok q).1) (turns_map δt q hw hs) hjs ok hf
theorem s_asgLcMo (g : Good X M N sc fb k) (n : Nat) (E2 : β → D) (own : List (Str × Nat)) (js : List Nat) (δ0 : List Slot) (δt : α → List Slot) {f : α → Mo β} {xs : List α} {ys : List β} (hb : n ∉ G.bor.map (·.1)) (hv : ∀ v ∈ own.map (·.2), v ∉ G.bor.map (·.1)) (hi : EI X G tg it δ (xs.map E) δ1) (q : mapMo f xs = .ok ys) (h0 : wipeS δ1 (own.map (·.2)) = δ0) (hw : ∀ x, wipeS (δt x) (own.map (·.2)) = δ0)
    (hs : ∀ (x : α) (y : β), f x = .ok y → Blk M N sc scope k G.bor (fun Y G' => AG Y G' tg (E x) δ0 (δt x) js ∧ EV Y G' elt (δt x) (.dat (E2 y)) (δt x))) (p : P (.nx (δ0.set n (.own (ys.map E2)))))
    (hjs : ∀ j ∈ js, j ∈ own.map (·.2) := by decide) (ok : blkC N sc scope own = true := by decide +kernel) (hN : N[n]? = some x := by rfl) (hk : sc.kind = .function := by rfl) (hlo : sc.names.lookup x = some .local := by rfl) (hli : (px.line == pos.line) = true := by rfl) (ha : (scope.names.any fun (m, k) => m == x && (k == .local || k == .cell)) = false := by decide +kernel) (hsl : spos.line = pos.line := by rfl)
    (hf : ∀ x, foldedSetIterable it X.env x = pure x := by intro _; rfl) : SV1 X W G (.Assign [.Name x px] (.ListComp elt [⟨tg, it, [], 0⟩] scope pos) spos) δ P :=
  s_asgLcM g n own js (ys.map E2) hb p hv hi h0 (by rw [List.length_map, List.length_map, (mapMo0_get (mapMo_ok q).2).1]) (by rw [List.length_map]; exact (mapMo_ok q).1) (turns_map δt q hw hs) hjs ok hN hk hlo hli ha hsl hf
/-- the turns of [elt for tg in it if c]: f x is none where x is left out -/
theorem turns_comp (δt : α → List Slot) {f : α → Mo (Option β)} {xs : List α} {ys : List β} (q : compMo f xs = .ok ys) (hw : ∀ x, wipeS (δt x) (own.map (·.2)) = δ0)
    (hs : ∀ (x : α) (o : Option β), f x = .ok o → Blk M N sc scope k G.bor (fun Y G' => AG Y G' tg (E x) δ0 (δt x) js ∧ ET Y G' c (δt x) o.isSome (δt x)) ∧ ∀ y, o = some y → Blk M N sc scope k G.bor (fun Y G' => EV Y G' elt (δt x) (.dat (E2 y)) (δt x))) :
    Step M N sc scope k G.bor tg elt [c] js (own.map (·.2)) (xs.map E) (fun i acc δ => (∃ zs, compMo0 f (xs.take i) = .ok zs ∧ acc = zs.map E2) ∧ δ = δ0) := by
  rintro i d acc δi hd ⟨⟨zs, hz, rfl⟩, rfl⟩
  rw [List.getElem?_map] at hd
  cases ex : xs[i]? with
  | none => rw [ex] at hd; cases hd
  | some x =>
    rw [ex] at hd
    obtain rfl : E x = d := Option.some.inj hd
    obtain ⟨us, hu⟩ := compMo0_take (compMo_ok q).2 (i + 1)
    rw [take_succ_of ex] at hu
    obtain ⟨zs', o, h1, h2, h3⟩ := compMo0_snoc.mp hu
    rw [hz] at h1
    obtain rfl := Except.ok.inj h1
    obtain ⟨k1, k2⟩ := hs x o h2
    refine ⟨δt x, o.isSome, δt x, fun Y G' gy hG => ⟨(k1 Y G' gy hG).1, eq_one (k1 Y G' gy hG).2⟩, fun ho => ?_, fun ho => ?_⟩
    · cases o with
      | some y => cases ho
      | none =>
        refine ⟨⟨us, by rw [take_succ_of ex]; exact hu, ?_⟩, hw x⟩
        rw [h3]; simp
    · cases o with
      | none => cases ho
      | some y =>
        refine ⟨E2 y, δt x, k2 y rfl, ⟨us, by rw [take_succ_of ex]; exact hu, ?_⟩, hw x⟩
        rw [h3, List.map_append]; rfl
theorem comp_end {f : α → Mo (Option β)} {xs : List α} {ys : List β} (q : compMo f xs = .ok ys) : ∀ acc δ', ((∃ zs, compMo0 f (xs.take (xs.map E).length) = .ok zs ∧ acc = zs.map E2) ∧ δ' = δ0) → acc = ys.map E2 ∧ δ' = δ0 := by
  rintro acc δ' ⟨⟨zs, hz, rfl⟩, rfl⟩
  rw [List.length_map, List.take_length, (compMo_ok q).2] at hz
  obtain rfl := Except.ok.inj hz
  exact ⟨rfl, rfl⟩
theorem wipe_un {δ0 δ1 : List Slot} {vs : List Nat} (h0 : wipeS δ1 vs = δ0) : ∀ v ∈ vs, ∀ s, δ0[v]? = some s → s = .un := fun v hv s e => by rw [← h0] at e; exact wipeS_in hv e
theorem ev_lcFo (g : Good X M N sc fb k) (E2 : β → D) (own : List (Str × Nat)) (js : List Nat) (δ0 : List Slot) (δt : α → List Slot) {f : α → Mo (Option β)} {xs : List α} {ys : List β} (hv : ∀ v ∈ own.map (·.2), v ∉ G.bor.map (·.1)) (hi : EI X G tg it δ (xs.map E) δ1) (q : compMo f xs = .ok ys) (h0 : wipeS δ1 (own.map (·.2)) = δ0) (hw : ∀ x, wipeS (δt x) (own.map (·.2)) = δ0)
    (hs : ∀ (x : α) (o : Option β), f x = .ok o → Blk M N sc scope k G.bor (fun Y G' => AG Y G' tg (E x) δ0 (δt x) js ∧ ET Y G' c (δt x) o.isSome (δt x)) ∧ ∀ y, o = some y → Blk M N sc scope k G.bor (fun Y G' => EV Y G' elt (δt x) (.dat (E2 y)) (δt x)))
    (hjs : ∀ j ∈ js, j ∈ own.map (·.2) := by decide) (ok : blkC N sc scope own = true := by decide +kernel) (hf : ∀ x, foldedSetIterable it X.env x = pure x := by intro _; rfl) : EV X G (.ListComp elt [⟨tg, it, [c], 0⟩] scope pos) δ (.own (ys.map E2)) δ0 :=
  ev_lc g own hv hi hjs _ ⟨⟨[], rfl, rfl⟩, h0⟩ (turns_comp δt q hw hs) (comp_end q) (wipe_un h0) (by rw [List.length_map]; exact (compMo_ok q).1) ok hf
theorem s_asgLcFo (g : Good X M N sc fb k) (n : Nat) (E2 : β → D) (own : List (Str × Nat)) (js : List Nat) (δ0 : List Slot) (δt : α → List Slot) {f : α → Mo (Option β)} {xs : List α} {ys : List β} (hb : n ∉ G.bor.map (·.1)) (hv : ∀ v ∈ own.map (·.2), v ∉ G.bor.map (·.1)) (hi : EI X G tg it δ (xs.map E) δ1) (q : compMo f xs = .ok ys) (h0 : wipeS δ1 (own.map (·.2)) = δ0) (hw : ∀ x, wipeS (δt x) (own.map (·.2)) = δ0)
    (hs : ∀ (x : α) (o : Option β), f x = .ok o → Blk M N sc scope k G.bor (fun Y G' => AG Y G' tg (E x) δ0 (δt x) js ∧ ET Y G' c (δt x) o.isSome (δt x)) ∧ ∀ y, o = some y → Blk M N sc scope k G.bor (fun Y G' => EV Y G' elt (δt x) (.dat (E2 y)) (δt x))) (p : P (.nx (δ0.set n (.own (ys.map E2)))))
    (hjs : ∀ j ∈ js, j ∈ own.map (·.2) := by decide) (ok : blkC N sc scope own = true := by decide +kernel) (hN : N[n]? = some x := by rfl) (hk : sc.kind = .function := by rfl) (hlo : sc.names.lookup x = some .local := by rfl) (hli : (px.line == pos.line) = true := by rfl) (ha : (scope.names.any fun (m, k) => m == x && (k == .local || k == .cell)) = false := by decide +kernel) (hsl : spos.line = pos.line := by rfl)
    (hf : ∀ x, foldedSetIterable it X.env x = pure x := by intro _; rfl) : SV1 X W G (.Assign [.Name x px] (.ListComp elt [⟨tg, it, [c], 0⟩] scope pos) spos) δ P :=
  s_asgLc g n own hb p hv hi hjs _ ⟨⟨[], rfl, rfl⟩, h0⟩ (turns_comp δt q hw hs) (comp_end q) (wipe_un h0) (by rw [List.length_map]; exact (compMo_ok q).1) ok hN hk hlo hli ha hsl hf
/-- a state goes along: the turns of [elt for tg in it] in which elt changes slots -/
theorem mapMoS0_snoc {f : σ → α → Mo (β × σ)} : ∀ {xs : List α} {s : σ} {r : List β × σ} {i : Nat} {x : α}, mapMoS0 f s xs = .ok r → xs[i]? = some x → ∃ ys t y, mapMoS0 f s (xs.take i) = .ok (ys, t) ∧ f t x = .ok y ∧ mapMoS0 f s (xs.take (i + 1)) = .ok (ys ++ [y.1], y.2)
  | [], s, r, i, x, h, e => by simp at e
  | w :: xs, s, r, i, x, h, e => by
    obtain ⟨y, q1, h⟩ := bind_ok (show (f s w >>= fun y => mapMoS0 f y.2 xs >>= fun ys => .ok (y.1 :: ys.1, ys.2)) = .ok r from h)
    obtain ⟨zs, q2, h⟩ := bind_ok h
    cases i with
    | zero =>
      cases e
      refine ⟨[], s, y, rfl, q1, ?_⟩
      show (f s w >>= fun y => mapMoS0 f y.2 [] >>= fun ys => .ok (y.1 :: ys.1, ys.2)) = _
      rw [q1]; rfl
    | succ i =>
      obtain ⟨ys, t, u, h1, h2, h3⟩ := mapMoS0_snoc (i := i) (x := x) q2 (by simpa using e)
      refine ⟨y.1 :: ys, t, u, ?_, h2, ?_⟩
      · show (f s w >>= fun y => mapMoS0 f y.2 (xs.take i) >>= fun ys => .ok (y.1 :: ys.1, ys.2)) = _
        rw [q1]
        show (mapMoS0 f y.2 (xs.take i) >>= fun ys => .ok (y.1 :: ys.1, ys.2)) = _
        rw [h1]; rfl
      · show (f s w >>= fun y => mapMoS0 f y.2 (xs.take (i + 1)) >>= fun ys => .ok (y.1 :: ys.1, ys.2)) = _
        rw [q1]
        show (mapMoS0 f y.2 (xs.take (i + 1)) >>= fun ys => .ok (y.1 :: ys.1, ys.2)) = _
        rw [h3]; rfl
theorem turns_state (δz : σ → List Slot) (δt : σ → α → List Slot) {f : σ → α → Mo (β × σ)} {s0 : σ} {xs : List α} {r : List β × σ} (q : mapMoS f s0 xs = .ok r)
    (hs : ∀ (s : σ) (x : α) (y : β) (s' : σ), f s x = .ok (y, s') → ∃ δu, wipeS δu (own.map (·.2)) = δz s' ∧ Blk M N sc scope k G.bor (fun Y G' => AG Y G' tg (E x) (δz s) (δt s x) js ∧ EV Y G' elt (δt s x) (.dat (E2 y)) δu)) :
    Step M N sc scope k G.bor tg elt [] js (own.map (·.2)) (xs.map E) (fun i acc δ => ∃ ys t, mapMoS0 f s0 (xs.take i) = .ok (ys, t) ∧ acc = ys.map E2 ∧ δ = δz t) := by
  rintro i d acc δi hd ⟨ys, t, hz, rfl, rfl⟩
  rw [List.getElem?_map] at hd
  cases ex : xs[i]? with
  | none => rw [ex] at hd; cases hd
  | some x =>
    rw [ex] at hd
    obtain rfl : E x = d := Option.some.inj hd
    obtain ⟨ys', t', y, h1, h2, h3⟩ := mapMoS0_snoc (mapMoS_ok q).2 ex
    rw [hz] at h1
    obtain ⟨rfl, rfl⟩ := Prod.mk.inj (Except.ok.inj h1)
    obtain ⟨δu, w1, w2⟩ := hs t x y.1 y.2 h2
    refine ⟨δt t x, true, δt t x, fun Y G' gy hG => ⟨(w2 Y G' gy hG).1, eq_nil⟩, fun e => (by cases e), fun _ => ⟨E2 y.1, δu, fun Y G' gy hG => (w2 Y G' gy hG).2, ys ++ [y.1], y.2, h3, ?_, w1⟩⟩
    rw [List.map_append]; rfl
theorem state_end (δz : σ → List Slot) {f : σ → α → Mo (β × σ)} {s0 : σ} {xs : List α} {r : List β × σ} (q : mapMoS f s0 xs = .ok r) : ∀ acc δ', (∃ ys t, mapMoS0 f s0 (xs.take (xs.map E).length) = .ok (ys, t) ∧ acc = ys.map E2 ∧ δ' = δz t) → acc = r.1.map E2 ∧ δ' = δz r.2 := by
  rintro acc δ' ⟨ys, t, hz, rfl, rfl⟩
  rw [List.length_map, List.take_length, (mapMoS_ok q).2] at hz
  obtain rfl := Except.ok.inj hz
  exact ⟨rfl, rfl⟩
theorem ev_lcSo (g : Good X M N sc fb k) (E2 : β → D) (own : List (Str × Nat)) (js : List Nat) (δz : σ → List Slot) (δt : σ → α → List Slot) {f : σ → α → Mo (β × σ)} {s0 : σ} {xs : List α} {r : List β × σ} (hv : ∀ v ∈ own.map (·.2), v ∉ G.bor.map (·.1)) (hi : EI X G tg it δ (xs.map E) δ1) (q : mapMoS f s0 xs = .ok r) (h0 : wipeS δ1 (own.map (·.2)) = δz s0) (hz : ∀ v ∈ own.map (·.2), ∀ s, (δz r.2)[v]? = some s → s = .un)
    (hs : ∀ (s : σ) (x : α) (y : β) (s' : σ), f s x = .ok (y, s') → ∃ δu, wipeS δu (own.map (·.2)) = δz s' ∧ Blk M N sc scope k G.bor (fun Y G' => AG Y G' tg (E x) (δz s) (δt s x) js ∧ EV Y G' elt (δt s x) (.dat (E2 y)) δu))
    (hjs : ∀ j ∈ js, j ∈ own.map (·.2) := by decide) (ok : blkC N sc scope own = true := by decide +kernel) (hf : ∀ x, foldedSetIterable it X.env x = pure x := by intro _; rfl) : EV X G (.ListComp elt [⟨tg, it, [], 0⟩] scope pos) δ (.own (r.1.map E2)) (δz r.2) :=
  ev_lc g own hv hi hjs _ ⟨[], s0, rfl, rfl, h0⟩ (turns_state δz δt q hs) (state_end δz q) hz (by rw [List.length_map]; exact (mapMoS_ok q).1) ok hf
theorem s_asgLcSo (g : Good X M N sc fb k) (n : Nat) (E2 : β → D) (own : List (Str × Nat)) (js : List Nat) (δz : σ → List Slot) (δt : σ → α → List Slot) {f : σ → α → Mo (β × σ)} {s0 : σ} {xs : List α} {r : List β × σ} (hb : n ∉ G.bor.map (·.1)) (hv : ∀ v ∈ own.map (·.2), v ∉ G.bor.map (·.1)) (hi : EI X G tg it δ (xs.map E) δ1) (q : mapMoS f s0 xs = .ok r) (h0 : wipeS δ1 (own.map (·.2)) = δz s0) (hz : ∀ v ∈ own.map (·.2), ∀ s, (δz r.2)[v]? = some s → s = .un)
    (hs : ∀ (s : σ) (x : α) (y : β) (s' : σ), f s x = .ok (y, s') → ∃ δu, wipeS δu (own.map (·.2)) = δz s' ∧ Blk M N sc scope k G.bor (fun Y G' => AG Y G' tg (E x) (δz s) (δt s x) js ∧ EV Y G' elt (δt s x) (.dat (E2 y)) δu)) (p : P (.nx ((δz r.2).set n (.own (r.1.map E2)))))
    (hjs : ∀ j ∈ js, j ∈ own.map (·.2) := by decide) (ok : blkC N sc scope own = true := by decide +kernel) (hN : N[n]? = some x := by rfl) (hk : sc.kind = .function := by rfl) (hlo : sc.names.lookup x = some .local := by rfl) (hli : (px.line == pos.line) = true := by rfl) (ha : (scope.names.any fun (m, k) => m == x && (k == .local || k == .cell)) = false := by decide +kernel) (hsl : spos.line = pos.line := by rfl)
    (hf : ∀ x, foldedSetIterable it X.env x = pure x := by intro _; rfl) : SV1 X W G (.Assign [.Name x px] (.ListComp elt [⟨tg, it, [], 0⟩] scope pos) spos) δ P :=
  s_asgLc g n own hb p hv hi hjs _ ⟨[], s0, rfl, rfl, h0⟩ (turns_state δz δt q hs) (state_end δz q) hz (by rw [List.length_map]; exact (mapMoS_ok q).1) ok hN hk hlo hli ha hsl hf

/-! ### ends of blocks, ifs, loops -/
theorem sv_endW (δ1 : List Slot) (f : forget δ δ1) (hb : ∀ i ∈ G.bor.map (·.1), δ1[i]? = δ[i]?) (h : P (.nx δ1)) : SV X W G [] δ P := SV.weak (sv_nil h) f hb
theorem sv_contW {cp : Pos} (δ1 : List Slot) (f : forget δ δ1) (hb : ∀ i ∈ G.bor.map (·.1), δ1[i]? = δ[i]?) (h : P (.ct δ1)) : SV X W G (.Continue cp :: rest) δ P := SV.weak (sv_cons (s_cont (P := Bef X W G rest P) h)) f hb
theorem sv_breakW {cp : Pos} (δ1 : List Slot) (f : forget δ δ1) (hb : ∀ i ∈ G.bor.map (·.1), δ1[i]? = δ[i]?) (h : P (.bk δ1)) : SV X W G (.Break cp :: rest) δ P := SV.weak (sv_cons (s_break (P := Bef X W G rest P) h)) f hb
/-- both ways go on, to the same slots -/
theorem sv_ifJ (b : Bool) (δ2 : List Slot) (h : ET X G c δ b δ1) (h1 : b = true → SV X W G body δ1 (MidP (· = δ2) P)) (h2 : b = false → SV X W G orelse δ1 (MidP (· = δ2) P)) (hr : SV X W G rest δ2 P) : SV X W G (.If c body orelse pos :: rest) δ P :=
  sv_mid (· = δ2) (s_if h h1 h2) fun δ' e => by subst e; exact hr
/-- the block goes on to the slots δ2 -/
theorem sv_midB {ss : List Stmt} (δ2 : List Slot) (h : SV X W G ss δ (MidP (· = δ2) P)) (hr : SV X W G rest δ2 P) : SV X W G ss δ (Bef X W G rest P) :=
  h.imp fun o ho => by
    cases o with
    | nx δ' => obtain rfl : δ' = δ2 := ho; exact hr
    | rt r δ' => exact ho
    | bk δ' => exact ho
    | ct δ' => exact ho
    | ex C ns ds δ' => exact ho
theorem foldMo_step {f : σ → α → Mo σ} : ∀ {xs : List α} {s r : σ} {i : Nat} {x : α}, foldMo f s xs = .ok r → xs[i]? = some x → ∃ t t', foldMo f s (xs.take i) = .ok t ∧ f t x = .ok t' ∧ foldMo f s (xs.take (i + 1)) = .ok t'
  | [], s, r, i, x, h, e => by simp at e
  | w :: xs, s, r, i, x, h, e => by
    obtain ⟨y, q1, h⟩ := bind_ok (show (f s w >>= fun s' => foldMo f s' xs) = .ok r from h)
    cases i with
    | zero =>
      cases e
      refine ⟨s, y, rfl, q1, ?_⟩
      show (f s w >>= fun s' => foldMo f s' []) = _
      rw [q1]; rfl
    | succ i =>
      obtain ⟨t, t', h1, h2, h3⟩ := foldMo_step (i := i) (x := x) h (by simpa using e)
      refine ⟨t, t', ?_, h2, ?_⟩
      · show (f s w >>= fun s' => foldMo f s' (xs.take i)) = _
        rw [q1]; exact h1
      · show (f s w >>= fun s' => foldMo f s' (xs.take (i + 1))) = _
        rw [q1]; exact h3
/-- for, without a way out -/
theorem sv_forM (g : Good X M N sc fb k) (sh : σ → List Slot) {f : σ → α → Mo σ} {s0 s1 : σ} {xs : List α} (hi : EI X G tg it δ (xs.map E) δ1) (q : foldMo f s0 xs = .ok s1) (h0 : δ1 = sh s0)
    (hs : ∀ (s : σ) (x : α) (s' : σ), f s x = .ok s' → ∃ δt js, AG X G tg (E x) (sh s) δt js ∧ SV X W G body δt (LoopP (· = sh s') (Bef X W G rest P)))
    (hr : SV X W G rest (sh s1) P) (hf : ∀ x, foldedSetIterable it X.env x = pure x := by intro _; rfl) : SV X W G (.For tg it body [] pos :: rest) δ P := by
  refine sv_cons (s_for g hi (fun i δ' => ∃ t, foldMo f s0 (xs.take i) = .ok t ∧ δ' = sh t) ⟨s0, rfl, h0⟩ ?_ ?_ hf)
  · rintro i d δi hd ⟨t, ht, rfl⟩
    rw [List.getElem?_map] at hd
    cases ex : xs[i]? with
    | none => rw [ex] at hd; cases hd
    | some x =>
      rw [ex] at hd
      obtain rfl : E x = d := Option.some.inj hd
      obtain ⟨u, u', h1, h2, h3⟩ := foldMo_step q ex
      rw [ht] at h1
      obtain rfl := Except.ok.inj h1
      obtain ⟨δt, js, ag, sv⟩ := hs t x u' h2
      refine ⟨δt, js, ag, sv.imp fun o ho => ?_⟩
      cases o with
      | nx δ' => exact ⟨u', h3, ho⟩
      | ct δ' => exact ⟨u', h3, ho⟩
      | rt r δ' => exact ho
      | bk δ' => exact ho
      | ex C ns ds δ' => exact ho
  · rintro δ' ⟨t, ht, rfl⟩
    rw [List.length_map, List.take_length, q] at ht
    obtain rfl := Except.ok.inj ht
    exact hr
/-- how a turn may end -/
def StpP (sh : σ → List Slot) (st : Stp ρ σ) (P : Out → Prop) : Out → Prop
  | .nx δ => ∃ s, st = .nx s ∧ δ = sh s
  | .ct δ => ∃ s, st = .nx s ∧ δ = sh s
  | .bk δ => ∃ s, st = .bk s ∧ δ = sh s
  | .rt r δ => P (.rt r δ)
  | .ex C ns ds δ => P (.ex C ns ds δ)
/-- what stands behind the first turns: on the way -/
def onWay (f : σ → α → Mo (Stp ρ σ)) : σ → List α → Option σ
  | s, [] => some s
  | s, x :: xs => match f s x with
    | .ok (.nx s') => onWay f s' xs
    | _ => none
theorem loopMo_step {f : σ → α → Mo (Stp ρ σ)} : ∀ {xs : List α} {s t : σ} {r : ρ ⊕ σ} {i : Nat} {x : α}, loopMo f s xs = .ok r → xs[i]? = some x → onWay f s (xs.take i) = some t →
    ∃ st, f t x = .ok st ∧ (∀ v, st = .rt v → r = .inl v) ∧ (∀ s', st = .bk s' → r = .inr s') ∧ ∀ s', st = .nx s' → onWay f s (xs.take (i + 1)) = some s'
  | [], s, t, r, i, x, h, e, w => by simp at e
  | y :: xs, s, t, r, i, x, h, e, w => by
    obtain ⟨u, q1, h⟩ := bind_ok (show (f s y >>= fun t => match t with | .nx s' => loopMo f s' xs | .bk s' => .ok (.inr s') | .rt r => .ok (.inl r)) = .ok r from h)
    cases i with
    | zero =>
      cases e
      have e2 : s = t := Option.some.inj w
      subst e2
      refine ⟨u, q1, fun v hv => ?_, fun s' hv => ?_, fun s' hv => ?_⟩
      · subst hv; exact (Except.ok.inj h).symm
      · subst hv; exact (Except.ok.inj h).symm
      · subst hv
        show (match f s y with | .ok (.nx s') => onWay f s' [] | _ => none) = _
        rw [q1]; rfl
    | succ i =>
      have w' : (match f s y with | .ok (.nx s') => onWay f s' (xs.take i) | _ => none) = some t := w
      rw [q1] at w'
      cases u with
      | bk s' => cases w'
      | rt r' => cases w'
      | nx s' =>
        obtain ⟨st, h1, h2, h3, h4⟩ := loopMo_step (i := i) (x := x) h (by simpa using e) w'
        refine ⟨st, h1, h2, h3, fun v hv => ?_⟩
        show (match f s y with | .ok (.nx s') => onWay f s' (xs.take (i + 1)) | _ => none) = _
        rw [q1]; exact h4 v hv
theorem loopMo_end {f : σ → α → Mo (Stp ρ σ)} : ∀ {xs : List α} {s t : σ} {r : ρ ⊕ σ}, loopMo f s xs = .ok r → onWay f s xs = some t → r = .inr t
  | [], s, t, r, h, w => by
    have e : s = t := Option.some.inj w
    subst e
    exact (Except.ok.inj h).symm
  | y :: xs, s, t, r, h, w => by
    obtain ⟨u, q1, h⟩ := bind_ok (show (f s y >>= fun t => match t with | .nx s' => loopMo f s' xs | .bk s' => .ok (.inr s') | .rt r => .ok (.inl r)) = .ok r from h)
    have w' : (match f s y with | .ok (.nx s') => onWay f s' xs | _ => none) = some t := w
    rw [q1] at w'
    cases u with
    | bk s' => cases w'
    | rt r' => cases w'
    | nx s' => exact loopMo_end h w'
/-- for, with ways out -/
theorem sv_forC (g : Good X M N sc fb k) (sh : σ → List Slot) {f : σ → α → Mo (Stp ρ σ)} {s0 : σ} {t : ρ ⊕ σ} {xs : List α} (hi : EI X G tg it δ (xs.map E) δ1) (q : loopMo f s0 xs = .ok t) (h0 : δ1 = sh s0)
    (hs : ∀ (s : σ) (x : α) (st : Stp ρ σ), f s x = .ok st → (∀ r, st = .rt r → t = .inl r) → ∃ δt js, AG X G tg (E x) (sh s) δt js ∧ SV X W G body δt (StpP sh st (Bef X W G rest P)))
    (hr : ∀ s, t = .inr s → SV X W G rest (sh s) P) (hf : ∀ x, foldedSetIterable it X.env x = pure x := by intro _; rfl) : SV X W G (.For tg it body [] pos :: rest) δ P := by
  refine sv_cons (s_for g hi (fun i δ' => ∃ u, onWay f s0 (xs.take i) = some u ∧ δ' = sh u) ⟨s0, rfl, h0⟩ ?_ ?_ hf)
  · rintro i d δi hd ⟨u, hu, rfl⟩
    rw [List.getElem?_map] at hd
    cases ex : xs[i]? with
    | none => rw [ex] at hd; cases hd
    | some x =>
      rw [ex] at hd
      obtain rfl : E x = d := Option.some.inj hd
      obtain ⟨st, h1, h2, h3, h4⟩ := loopMo_step q ex hu
      obtain ⟨δt, js, ag, sv⟩ := hs u x st h1 h2
      refine ⟨δt, js, ag, sv.imp fun o ho => ?_⟩
      cases o with
      | nx δ' => obtain ⟨s', e1, e2⟩ := ho; exact ⟨s', h4 s' e1, e2⟩
      | ct δ' => obtain ⟨s', e1, e2⟩ := ho; exact ⟨s', h4 s' e1, e2⟩
      | rt r δ' => exact ho
      | bk δ' => obtain ⟨s', e1, e2⟩ := ho; subst e2; exact hr s' (h3 s' e1)
      | ex C ns ds δ' => exact ho
  · rintro δ' ⟨u, hu, rfl⟩
    rw [List.length_map, List.take_length] at hu
    exact hr u (loopMo_end q hu)
theorem whileMo_of {c : σ → Mo Bool} {f : σ → Mo (Stp ρ σ)} {n : Nat} {s : σ} {t : ρ ⊕ σ} (h : whileMo c f n s = .ok t) : ∃ m b, n = m + 1 ∧ c s = .ok b ∧ (b = false → t = .inr s) ∧ (b = true → ∃ st, f s = .ok st ∧ (∀ v, st = .rt v → t = .inl v) ∧ (∀ s', st = .bk s' → t = .inr s') ∧ ∀ s', st = .nx s' → whileMo c f m s' = .ok t) := by
  cases n with
  | zero => cases h
  | succ n =>
    obtain ⟨b, q1, h⟩ := bind_ok (show (c s >>= fun b => bif b then (f s >>= fun t => match t with | .nx s' => whileMo c f n s' | .bk s' => .ok (.inr s') | .rt r => .ok (.inl r)) else .ok (.inr s)) = .ok t from h)
    refine ⟨n, b, rfl, q1, fun e => ?_, fun e => ?_⟩
    · subst e; exact (Except.ok.inj h).symm
    · subst e
      obtain ⟨st, q2, h⟩ := bind_ok (show (f s >>= fun t => match t with | .nx s' => whileMo c f n s' | .bk s' => .ok (.inr s') | .rt r => .ok (.inl r)) = .ok t from h)
      refine ⟨st, q2, fun v e => ?_, fun s' e => ?_, fun s' e => ?_⟩
      · subst e; exact (Except.ok.inj h).symm
      · subst e; exact (Except.ok.inj h).symm
      · subst e; exact h
/-- while -/
theorem sv_whileC (g : Good X M N sc fb k) (sh : σ → List Slot) {cf : σ → Mo Bool} {f : σ → Mo (Stp ρ σ)} {n : Nat} {s0 : σ} {t : ρ ⊕ σ} (q : whileMo cf f n s0 = .ok t) (h0 : δ = sh s0)
    (hc : ∀ (s : σ) (b : Bool), cf s = .ok b → ET X G c (sh s) b (sh s))
    (hs : ∀ (s : σ) (st : Stp ρ σ), f s = .ok st → (∀ r, st = .rt r → t = .inl r) → SV X W G body (sh s) (StpP sh st (Bef X W G rest P)))
    (hr : ∀ s, t = .inr s → SV X W G rest (sh s) P) : SV X W G (.While c body [] pos :: rest) δ P := by
  refine sv_cons (s_while g (fun m δ' => ∃ u, whileMo cf f m u = .ok t ∧ δ' = sh u) n ⟨s0, q, h0⟩ ?_)
  rintro m δi ⟨u, hu, rfl⟩
  obtain ⟨m', b, rfl, h1, h2, h3⟩ := whileMo_of hu
  refine ⟨b, sh u, hc u b h1, fun e => ?_, fun e => hr u (h2 e)⟩
  obtain ⟨st, k1, k2, k3, k4⟩ := h3 e
  refine (hs u st k1 k2).imp fun o ho => ?_
  cases o with
  | nx δ' => obtain ⟨s', e1, e2⟩ := ho; exact ⟨m', Nat.lt_succ_self _, s', k4 s' e1, e2⟩
  | ct δ' => obtain ⟨s', e1, e2⟩ := ho; exact ⟨m', Nat.lt_succ_self _, s', k4 s' e1, e2⟩
  | rt r δ' => exact ho
  | bk δ' => obtain ⟨s', e1, e2⟩ := ho; subst e2; exact hr s' (k3 s' e1)
  | ex C ns ds δ' => exact ho
end
/-! ### what a computation gives -/
section
variable {α β σ ρ : Type}
/-- it ends well, with a value of which Q holds -/
def Gv (m : Mo α) (Q : α → Prop) : Prop := ∃ v, m = .ok v ∧ Q v
theorem Gv.bind {m : Mo α} {k : α → Mo β} {Q : α → Prop} {R : β → Prop} (h : Gv m Q) (hk : ∀ v, Q v → Gv (k v) R) : Gv (m >>= k) R := by
  obtain ⟨v, e, q⟩ := h
  rw [e]; exact hk v q
theorem Gv.pure {a : α} {Q : α → Prop} (h : Q a) : Gv (Pure.pure a : Mo α) Q := ⟨a, rfl, h⟩
theorem Gv.ok {a : α} {Q : α → Prop} (h : Q a) : Gv (.ok a : Mo α) Q := ⟨a, rfl, h⟩
theorem Gv.imp {m : Mo α} {Q R : α → Prop} (h : Gv m Q) (i : ∀ v, Q v → R v) : Gv m R := by
  obtain ⟨v, e, q⟩ := h
  exact ⟨v, e, i v q⟩
theorem Gv.eq {m : Mo α} {a : α} (h : Gv m (· = a)) : m = .ok a := by
  obtain ⟨v, e, q⟩ := h
  rw [e, q]
theorem Gv.of {m : Mo α} {a : α} (h : m = .ok a) : Gv m (· = a) := ⟨a, h, rfl⟩
theorem gv_grd {p : Prop} {a : α} {Q : α → Prop} (h : p) (q : Q a) : Gv (grd p a) Q := ⟨a, grd_pos h, q⟩
theorem gv_cond {c : Bool} {a b : Mo α} {Q : α → Prop} (h1 : c = true → Gv a Q) (h2 : c = false → Gv b Q) : Gv (bif c then a else b) Q := by
  cases c with
  | true => exact h1 rfl
  | false => exact h2 rfl
theorem foldMo_inv {f : σ → α → Mo σ} (I : Nat → σ → Prop) : ∀ {xs : List α} {s : σ} {n : Nat}, I n s → (∀ (i : Nat) x t, xs[i]? = some x → I (n + i) t → Gv (f t x) (I (n + i + 1))) → Gv (foldMo f s xs) (I (n + xs.length))
  | [], s, n, h, _ => ⟨s, rfl, h⟩
  | x :: xs, s, n, h, hs => by
    refine Gv.bind (hs 0 x s rfl h) fun t ht => ?_
    have := foldMo_inv (f := f) I (xs := xs) (s := t) (n := n + 1) ht fun i y u hy hu => by
      have := hs (i + 1) y u (by simpa using hy) (by rw [show n + (i + 1) = n + 1 + i from by omega]; exact hu)
      rw [show n + (i + 1) + 1 = n + 1 + i + 1 from by omega] at this
      exact this
    rw [List.length_cons, show n + (xs.length + 1) = n + 1 + xs.length from by omega]
    exact this
theorem gv_fold {f : σ → α → Mo σ} {xs : List α} {s : σ} {Q : σ → Prop} (I : Nat → σ → Prop) (h0 : I 0 s) (hs : ∀ (i : Nat) x t, xs[i]? = some x → I i t → Gv (f t x) (I (i + 1))) (hq : ∀ t, I xs.length t → Q t) : Gv (foldMo f s xs) Q := by
  have := foldMo_inv (f := f) I (xs := xs) (s := s) (n := 0) h0 fun i x t hx ht => by
    rw [Nat.zero_add] at ht ⊢
    exact hs i x t hx ht
  rw [Nat.zero_add] at this
  exact this.imp hq
theorem gv_loop {f : σ → α → Mo (Stp ρ σ)} {Q : ρ ⊕ σ → Prop} : ∀ {xs : List α} {s : σ} (I : Nat → σ → Prop), I 0 s →
    (∀ (i : Nat) x t, xs[i]? = some x → I i t → Gv (f t x) fun st => match st with | .nx t' => I (i + 1) t' | .bk t' => Q (.inr t') | .rt r => Q (.inl r)) → (∀ t, I xs.length t → Q (.inr t)) → Gv (loopMo f s xs) Q
  | [], s, I, h, _, hq => ⟨_, rfl, hq s h⟩
  | x :: xs, s, I, h, hs, hq => by
    obtain ⟨st, e, w⟩ := hs 0 x s rfl h
    show Gv (f s x >>= fun t => match t with | .nx s' => loopMo f s' xs | .bk s' => .ok (.inr s') | .rt r => .ok (.inl r)) Q
    rw [e]
    cases st with
    | nx t => exact gv_loop (f := f) (Q := Q) (xs := xs) (s := t) (fun i => I (i + 1)) w (fun i y u hy hu => hs (i + 1) y u (by simpa using hy) hu) hq
    | bk t => exact ⟨_, rfl, w⟩
    | rt r => exact ⟨_, rfl, w⟩
theorem gv_map {f : α → Mo β} {g : α → β} {xs : List α} {Q : List β → Prop} (hl : xs.length ≤ 100000) (h : ∀ x ∈ xs, f x = .ok (g x)) (q : Q (xs.map g)) : Gv (mapMo f xs) Q := by
  refine Gv.bind (gv_grd (Q := fun _ => True) hl trivial) fun _ _ => ⟨xs.map g, ?_, q⟩
  clear hl q
  induction xs with
  | nil => rfl
  | cons x xs ih =>
    show (f x >>= fun y => mapMo0 f xs >>= fun ys => .ok (y :: ys)) = _
    rw [h x (List.mem_cons_self ..)]
    show (mapMo0 f xs >>= fun ys => .ok (g x :: ys)) = _
    rw [ih fun y hy => h y (List.mem_cons_of_mem _ hy)]; rfl
theorem map_eq {f : α → Mo β} {g : α → β} {xs : List α} (hl : xs.length ≤ 100000) (h : ∀ x ∈ xs, f x = .ok (g x)) : mapMo f xs = .ok (xs.map g) := (gv_map (Q := (· = xs.map g)) hl h rfl).eq
/-- each item has what R says -/
theorem gv_mapR {f : α → Mo β} {xs : List α} {Q : List β → Prop} (R : Nat → α → β → Prop) (hl : xs.length ≤ 100000) (h : ∀ (i : Nat) x, xs[i]? = some x → Gv (f x) (R i x)) (q : ∀ ys : List β, ys.length = xs.length → (∀ (i : Nat) x y, xs[i]? = some x → ys[i]? = some y → R i x y) → Q ys) : Gv (mapMo f xs) Q := by
  refine Gv.bind (gv_grd (Q := fun _ => True) hl trivial) fun _ _ => ?_
  clear hl
  induction xs generalizing Q R with
  | nil => exact ⟨[], rfl, q [] rfl fun i x y hx => by simp at hx⟩
  | cons x xs ih =>
    refine Gv.bind (h 0 x rfl) fun y hy => ?_
    refine Gv.bind (ih (R := fun i => R (i + 1)) (Q := fun ys => Q (y :: ys)) (fun i w hw => h (i + 1) w (by simpa using hw)) fun ys l hr => q (y :: ys) (by rw [List.length_cons, List.length_cons, l]) fun i w z hw hz => ?_) fun ys hq => ⟨_, rfl, hq⟩
    cases i with
    | zero => cases hw; cases hz; exact hy
    | succ i => exact hr i w z (by simpa using hw) (by simpa using hz)
theorem comp_eq {f : α → Mo (Option β)} {g : α → Option β} {xs : List α} (hl : xs.length ≤ 100000) (h : ∀ x ∈ xs, f x = .ok (g x)) : compMo f xs = .ok (xs.filterMap g) := by
  unfold compMo
  rw [grd_pos hl, ok_bind]
  clear hl
  induction xs with
  | nil => rfl
  | cons x xs ih =>
    show (f x >>= fun y => compMo0 f xs >>= fun ys => .ok (y.toList ++ ys)) = _
    rw [h x (List.mem_cons_self ..)]
    show (compMo0 f xs >>= fun ys => .ok ((g x).toList ++ ys)) = _
    rw [ih fun y hy => h y (List.mem_cons_of_mem _ hy), List.filterMap_cons]
    cases g x <;> rfl
theorem andM_t (m : Mo Bool) : andM true m = m := rfl
theorem andM_f (m : Mo Bool) : andM false m = .ok false := rfl
theorem orM_t (m : Mo Bool) : orM true m = .ok true := rfl
theorem orM_f (m : Mo Bool) : orM false m = m := rfl
theorem andM_eq {x y : Bool} {m : Mo Bool} (h : x = true → m = .ok y) : andM x m = .ok (x && y) := by
  cases x with
  | true => exact h rfl
  | false => rfl
theorem orM_eq {x y : Bool} {m : Mo Bool} (h : x = false → m = .ok y) : orM x m = .ok (x || y) := by
  cases x with
  | false => exact h rfl
  | true => rfl
end
end VC

namespace VC
open PySem L2 DL
section
variable {X : Cx} {W : WX} {G : Ent} {M : Md} {N : List Str} {sc : Scope} {fb : Str → Bool} {k : Nat} {δ δ1 δ2 δ3 : List Slot} {a b e e2 c tg it elt : Expr} {es : List Expr} {pos p px apos : Pos} {d : D} {ds : List D} {x y : Str} {i j z : Int} {α β σ : Type} {E : α → D} {E2 : β → D} {P : Out → Prop} {rest body orelse : List Stmt}
theorem fr_lit {a b : Int} {q : Rat} (h : q.num = a ∧ (q.den : Int) = b) : D.tup [.int a, .int b] = fr q := by unfold fr; rw [h.1, h.2]
theorem fr_int (n : Int) : D.tup [.int n, .int 1] = fr (n : Rat) := rfl
theorem ev_lenLM {xs : List α} (g : Good X M N sc fb k) (hm : M.mg "len" = none) (ha : EV X G e δ (.dat (.lst (xs.map E))) δ1) (hg : sc.names.lookup ("len" : Str) = some .globalImplicit := by rfl)
    (he : starEach [e] X.env = (false, eval e X.env) :: starEach [] X.env := by rfl) : EV X G (.Call (.Name "len" p) [e] [] pos) δ (.dat (.int xs.length)) δ1 := by
  have := ev_lenL (p := p) (pos := pos) g hm ha hg he
  rw [List.length_map] at this; exact this
theorem ev_lenTM {xs : List α} (g : Good X M N sc fb k) (hm : M.mg "len" = none) (ha : EV X G e δ (.dat (.tup (xs.map E))) δ1) (hg : sc.names.lookup ("len" : Str) = some .globalImplicit := by rfl)
    (he : starEach [e] X.env = (false, eval e X.env) :: starEach [] X.env := by rfl) : EV X G (.Call (.Name "len" p) [e] [] pos) δ (.dat (.int xs.length)) δ1 := by
  have := ev_lenT (p := p) (pos := pos) g hm ha hg he
  rw [List.length_map] at this; exact this
theorem ev_lenOM {xs : List α} (g : Good X M N sc fb k) (hm : M.mg "len" = none) (n : Nat) (h0 : δ[n]? = some (.own (xs.map E)) := by rfl) (hg : sc.names.lookup ("len" : Str) = some .globalImplicit := by rfl)
    (hN : N[n]? = some x := by rfl) (hv : visB sc x = true := by rfl) (hd : (x == ("__debug__" : Str)) = false := by decide) (hc : (x == ("__classdict__" : Str)) = false := by decide) : EV X G (.Call (.Name "len" p) [.Name x px] [] pos) δ (.dat (.int xs.length)) δ := by
  have := ev_lenO (G := G) (p := p) (pos := pos) (px := px) g hm n h0 hg hN hv hd hc
  rw [List.length_map] at this; exact this
noncomputable def lenS (s : Str) : Mo Int := grd (s.length ≤ 1000) (s.length : Int)
theorem ev_lenSM {s : Str} (g : Good X M N sc fb k) (hm : M.mg "len" = none) (ha : EV X G e δ (.dat (.str s)) δ1) (q : lenS s = .ok z) (hg : sc.names.lookup ("len" : Str) = some .globalImplicit := by rfl)
    (he : starEach [e] X.env = (false, eval e X.env) :: starEach [] X.env := by rfl) : EV X G (.Call (.Name "len" p) [e] [] pos) δ (.dat (.int z)) δ1 := by
  obtain ⟨h, rfl⟩ := grd_ok q
  exact ev_lenS g hm ha h hg he
theorem ev_max (g : Good X M N sc fb k) (hm : M.mg "max" = none) {j : Int} {e2 : Expr} (ha : EA X G [e, e2] δ [.int i, .int j] δ1) (hg : sc.names.lookup ("max" : Str) = some .globalImplicit := by rfl)
    (he : starEach [e, e2] X.env = (false, eval e X.env) :: starEach [e2] X.env := by rfl) (hpl : (backTo pos (starEach [e2] X.env)).any (·.1) = false := by rfl) : EV X G (.Call (.Name "max" p) [e, e2] [] pos) δ (.dat (.int (if j > i then j else i))) δ1 :=
  ev_cb g (call_max2 g.calm) hm (by decide +kernel) ha (fun σ vs B H S rv Q q => by
    obtain ⟨v, u, rfl, h, h2⟩ := two_of rv
    cases int_of h; cases int_of h2
    exact ⟨i, j, rfl, q _ B H S (Same.refl _) (.int _)⟩) hg (by decide) (by decide) he hpl
theorem ei_enumLM {xs : List α} (g : Good X M N sc fb k) (hm : M.mg "enumerate" = none) {tpos : Pos} {elts : List Expr} {kk : Nat} (h : EV X G e δ (.dat (.lst (xs.map E))) δ1) (hg : sc.names.lookup ("enumerate" : Str) = some .globalImplicit := by rfl)
    (hs : starEach [e] X.env = [(false, eval e X.env)] := by rfl) (hs2 : starEach [e] X.env = (false, eval e X.env) :: starEach [] X.env := by rfl) : EI X G (.Tuple elts kk tpos) (.Call (.Name "enumerate" p) [e] [] pos) δ ((enumL xs).map fun p => D.tup [.int p.1, E p.2]) δ1 :=
  EI.eq (ei_enum g hm h hg hs hs2) (enum_map xs)
theorem ei_enumTM {xs : List α} (g : Good X M N sc fb k) (hm : M.mg "enumerate" = none) {tpos : Pos} {elts : List Expr} {kk : Nat} (h : EV X G e δ (.dat (.tup (xs.map E))) δ1) (hg : sc.names.lookup ("enumerate" : Str) = some .globalImplicit := by rfl)
    (hs : starEach [e] X.env = [(false, eval e X.env)] := by rfl) (hs2 : starEach [e] X.env = (false, eval e X.env) :: starEach [] X.env := by rfl) : EI X G (.Tuple elts kk tpos) (.Call (.Name "enumerate" p) [e] [] pos) δ ((enumL xs).map fun p => D.tup [.int p.1, E p.2]) δ1 :=
  EI.eq (ei_enumT g hm h hg hs hs2) (enum_map xs)
theorem ei_zipTM {xs : List α} {ys : List β} (g : Good X M N sc fb k) (hm : M.mg "zip" = none) {tpos : Pos} {elts : List Expr} {kk : Nat} (h : EA X G [e, e2] δ [.tup (xs.map E), .tup (ys.map E2)] δ1) (hg : sc.names.lookup ("zip" : Str) = some .globalImplicit := by rfl)
    (hs : starEach [e, e2] X.env = (false, eval e X.env) :: starEach [e2] X.env := by rfl) (hpl : (backTo pos (starEach [e2] X.env)).any (·.1) = false := by rfl) : EI X G (.Tuple elts kk tpos) (.Call (.Name "zip" p) [e, e2] [] pos) δ ((xs.zip ys).map fun p => D.tup [E p.1, E2 p.2]) δ1 :=
  EI.eq (ei_zipT g hm h hg hs hpl) (zip_map xs ys)
theorem s_appM {xs ys : List α} {v : α} (g : Good X M N sc fb k) (n : Nat) (E : α → D) {px pa pc : Pos} {e : Expr} (h : EV X G e δ (.dat (E v)) δ1) (q : appM xs v = .ok ys) (p : P (.nx (δ1.set n (.own (ys.map E))))) (h0 : ∃ ds0, δ[n]? = some (.own ds0)) (h1 : δ1[n]? = some (.own (xs.map E)) := by rfl)
    (hN : N[n]? = some x := by rfl) (hv : visB sc x = true := by rfl) (hd : (x == ("__debug__" : Str)) = false := by decide) (hc : (x == ("__classdict__" : Str)) = false := by decide)
    (hst : starEach [e] X.env = (false, eval e X.env) :: starEach [] X.env := by rfl)
    (hfw : ((backTo pc (starEach [e] X.env)).all (fun x => !x.1) && (backToKw pc (keywordEach [] X.env)).all (fun x => x.1.isSome) && decide ([e].length + ([] : List Keyword).length + (if ([] : List Keyword).isEmpty then 0 else 1) < 30)) = true := by rfl) (hln : (pa.endLine == pc.line) = true := by rfl)
    (hs : swapsWith (.Call (.Attribute (.Name x px) "append" pa) [e] [] pc) none pos.line X.env = pure false := by rfl) : SV1 X W G (.Expr (.Call (.Attribute (.Name x px) "append" pa) [e] [] pc) pos) δ P := by
  obtain ⟨hl, rfl⟩ := grd_ok q
  refine s_app g n h (by rw [List.length_map]; exact hl) ?_ h0 h1 hN hv hd hc hst hfw hln hs
  rw [List.map_append] at p; exact p
theorem s_setIM {xs ys : List α} {v : α} (g : Good X M N sc fb k) (n : Nat) (E : α → D) {px ps : Pos} {e ix : Expr} {j : Int} (h : EV X G e δ (.dat (E v)) δ1) (hi : EV X G ix δ1 (.dat (.int j)) δ2) (q : setM xs j v = .ok ys) (p : P (.nx (δ2.set n (.own (ys.map E))))) (h0 : ∃ ds0, δ1[n]? = some (.own ds0)) (h1 : δ2[n]? = some (.own (xs.map E)) := by rfl)
    (hN : N[n]? = some x := by rfl) (hv : visB sc x = true := by rfl) (hd : (x == ("__debug__" : Str)) = false := by decide) (hc : (x == ("__classdict__" : Str)) = false := by decide)
    (hs : swapsWithSole [.Subscript (.Name x px) ix ps] e pos.line X.env = pure false := by rfl) (hw : swappedStores [.Subscript (.Name x px) ix ps] e X.env = pure none := by rfl)
    (ha : ∀ v, assign (.Subscript (.Name x px) ix ps) X.env v = (do
      let ov ← holding [v] (eval (.Name x px) X.env)
      let iv ← holding [v, ov] (eval ix X.env)
      standAt ps
      holding [v, ov, iv] (setItem ov iv v)
      release [v, ov, iv] []) := by intro _; rfl)
    (he : (assignEach [.Subscript (.Name x px) ix ps] X.env).map (·.2) = [assign (.Subscript (.Name x px) ix ps) X.env] := by rfl) : SV1 X W G (.Assign [.Subscript (.Name x px) ix ps] e pos) δ P := by
  obtain ⟨m, hm, rfl⟩ := setM_ok q
  refine s_setI g n (n := m) h hi (by rw [List.length_map]; exact hm) ?_ h0 h1 hN hv hd hc hs hw ha he
  rw [List.map_set] at p; exact p
theorem EV.eqS {r r' : Slot} (h : EV X G e δ r δ1) (q : r = r') : EV X G e δ r' δ1 := q ▸ h
/-- a way out of a block: the value that leaves it, or the state that goes on -/
def exitC {ρ : Type} (t : ρ ⊕ σ) (k : σ → Mo ρ) : Mo ρ := match t with
  | .inl v => .ok v
  | .inr s => k s
theorem exitC_l {ρ : Type} {v r : ρ} {k : σ → Mo ρ} (h : exitC (.inl v) k = .ok r) : v = r := Except.ok.inj h
theorem exitC_r {ρ : Type} {s : σ} {x : Mo ρ} {k : σ → Mo ρ} (h : exitC (.inr s) k = x) : k s = x := h
def CtlP {ρ : Type} (sh : σ → List Slot) (t : ρ ⊕ σ) (P : Out → Prop) : Out → Prop
  | .nx δ => ∃ s, t = .inr s ∧ δ = sh s
  | .rt r δ => P (.rt r δ)
  | .bk δ => P (.bk δ)
  | .ct δ => P (.ct δ)
  | .ex C ns ds δ => P (.ex C ns ds δ)
/-- both ways may leave the block -/
theorem sv_ifC {ρ : Type} (b : Bool) (sh : σ → List Slot) (t : ρ ⊕ σ) (h : ET X G c δ b δ1) (h1 : b = true → SV X W G body δ1 (CtlP sh t (Bef X W G rest P))) (h2 : b = false → SV X W G orelse δ1 (CtlP sh t (Bef X W G rest P))) (hr : ∀ s, t = .inr s → SV X W G rest (sh s) P) : SV X W G (.If c body orelse pos :: rest) δ P := by
  have go : ∀ ss, SV X W G ss δ1 (CtlP sh t (Bef X W G rest P)) → SV X W G ss δ1 (Bef X W G rest P) := fun ss h => h.imp fun o ho => by
    cases o with
    | nx δ' => obtain ⟨s, e1, e2⟩ := ho; subst e2; exact hr s e1
    | rt r δ' => exact ho
    | bk δ' => exact ho
    | ct δ' => exact ho
    | ex C ns ds δ' => exact ho
  exact sv_cons (s_if h (fun e => go _ (h1 e)) (fun e => go _ (h2 e)))
/-! or, and: what stands behind the first part changes slots -/
section
variable {u : Bool} {m : Mo (Bool × σ)} {r : Bool × σ} {s : σ}
def orS (u : Bool) (s : σ) (m : Mo (Bool × σ)) : Mo (Bool × σ) := bif u then .ok (true, s) else m
def andS (u : Bool) (s : σ) (m : Mo (Bool × σ)) : Mo (Bool × σ) := bif u then m else .ok (false, s)
theorem EW.at (h : EW X G e δ u δ1) (q : δ1 = δ2) : EW X G e δ u δ2 := q ▸ h
theorem ET.at (h : ET X G e δ u δ1) (q : δ1 = δ2) : ET X G e δ u δ2 := q ▸ h
theorem ew_oF' (h : ET X G a δ u δ1) (hu : u = false) {t : Bool} (h2 : EW X G (.BoolOp .Or (b :: es) pos) δ1 t δ2) : EW X G (.BoolOp .Or (a :: b :: es) pos) δ t δ2 := by subst hu; exact ew_oF h h2
theorem ew_orS (dl : σ → List Slot) (h : ET X G a δ u (dl s)) (q : orS u s m = .ok r) (h2 : ∀ v, m = .ok v → EW X G (.BoolOp .Or (b :: es) pos) (dl s) v.1 (dl v.2)) : EW X G (.BoolOp .Or (a :: b :: es) pos) δ r.1 (dl r.2) := by
  cases u with
  | true =>
    obtain rfl : (true, s) = r := Except.ok.inj q
    exact ew_oT h
  | false => exact ew_oF h (h2 r q)
theorem ew_andS (dl : σ → List Slot) (h : ET X G a δ u (dl s)) (q : andS u s m = .ok r) (h2 : ∀ v, m = .ok v → EW X G (.BoolOp .And (b :: es) pos) (dl s) v.1 (dl v.2)) : EW X G (.BoolOp .And (a :: b :: es) pos) δ r.1 (dl r.2) := by
  cases u with
  | true => exact ew_aT h (h2 r q)
  | false =>
    obtain rfl : (false, s) = r := Except.ok.inj q
    exact ew_aF h
end
theorem bor_of {G2 : Ent} {n : Nat} (hG : G2.bor = G.bor) (h : n ∉ G.bor.map (·.1)) : n ∉ G2.bor.map (·.1) := by rw [hG]; exact h
theorem endB {as os δ : List Slot} {r r' : Slot} (n : Nat) (h : r' = r) (e : muIdx as 0 = [n] := by rfl) (ho : os[n]? = δ[n]? := by rfl) : Ends0 as (.ret r' os) (.rt r δ) := ⟨h, fun i hi => by
  rw [e] at hi
  obtain rfl := List.mem_singleton.mp hi
  exact ho⟩
theorem endBN {as os δ : List Slot} (n : Nat) (e : muIdx as 0 = [n] := by rfl) (ho : os[n]? = δ[n]? := by rfl) : Ends0 as (.ret (.dat .non) os) (.nx δ) := ⟨rfl, fun i hi => by
  rw [e] at hi
  obtain rfl := List.mem_singleton.mp hi
  exact ho⟩
theorem nob1 {G : Ent} {as : List DL.Slot} {v : Nat} (h : ∀ i ∈ G.bor.map (·.1), i ∈ muIdx as 0) (e : muIdx as 0 = [v]) : ∀ i, i ≠ v → i ∉ G.bor.map (·.1) := fun i hi hb => hi (by
  have := h i hb
  rw [e] at this
  exact List.mem_singleton.mp this)
theorem wk0 (hbn : ∀ i, i ∉ G.bor.map (·.1)) (δ δ1 : List Slot) (_ : True) : ∀ i ∈ G.bor.map (·.1), δ1[i]? = δ[i]? := fun i hi => absurd hi (hbn i)
theorem wk1 {n : Nat} (hbn : ∀ i, i ≠ n → i ∉ G.bor.map (·.1)) (δ δ1 : List Slot) (e : δ1[n]? = δ[n]?) : ∀ i ∈ G.bor.map (·.1), δ1[i]? = δ[i]? := fun i hi => by
  by_cases z : i = n
  · subst z; exact e
  · exact absurd hi (hbn i z)
end
end VC

namespace LW
open PySem L2 DL
def topS (i : Nat) : Stmt := PySem.Challenge.pw_twicewaited_k73_many_factor.main.body.getD i (.Pass ⟨0, 0, 0, 0⟩)
abbrev s__wall : Stmt := topS 1
abbrev n__wall : List Str := ["k"]
theorem sc__wall : FnScope n__wall ["k"] (defScope s__wall) := ⟨rfl, rfl, rfl, by decide +kernel, rfl, by decide +kernel, by decide +kernel⟩
abbrev s_frozen : Stmt := topS 3
abbrev n_frozen : List Str := ["value", "item"]
theorem sc_frozen : FnScope n_frozen ["value"] (defScope s_frozen) := ⟨rfl, rfl, rfl, by decide +kernel, rfl, by decide +kernel, by decide +kernel⟩
abbrev s_BadAmount___init__ : Stmt := inClass (topS 5) 0
abbrev n_BadAmount___init__ : List Str := ["self", "value"]
theorem sc_BadAmount___init__ : FnScope n_BadAmount___init__ ["self", "value"] (defScope s_BadAmount___init__) := ⟨rfl, rfl, rfl, by decide +kernel, rfl, by decide +kernel, by decide +kernel⟩
abbrev s_TooManyJobs___init__ : Stmt := inClass (topS 6) 0
abbrev n_TooManyJobs___init__ : List Str := ["self", "count"]
theorem sc_TooManyJobs___init__ : FnScope n_TooManyJobs___init__ ["self", "count"] (defScope s_TooManyJobs___init__) := ⟨rfl, rfl, rfl, by decide +kernel, rfl, by decide +kernel, by decide +kernel⟩
abbrev s_BadJob___init__ : Stmt := inClass (topS 7) 0
abbrev n_BadJob___init__ : List Str := ["self", "place"]
theorem sc_BadJob___init__ : FnScope n_BadJob___init__ ["self", "place"] (defScope s_BadJob___init__) := ⟨rfl, rfl, rfl, by decide +kernel, rfl, by decide +kernel, by decide +kernel⟩
abbrev s_BadName___init__ : Stmt := inClass (topS 8) 0
abbrev n_BadName___init__ : List Str := ["self", "place"]
theorem sc_BadName___init__ : FnScope n_BadName___init__ ["self", "place"] (defScope s_BadName___init__) := ⟨rfl, rfl, rfl, by decide +kernel, rfl, by decide +kernel, by decide +kernel⟩
abbrev s_SameName___init__ : Stmt := inClass (topS 9) 0
abbrev n_SameName___init__ : List Str := ["self", "place"]
theorem sc_SameName___init__ : FnScope n_SameName___init__ ["self", "place"] (defScope s_SameName___init__) := ⟨rfl, rfl, rfl, by decide +kernel, rfl, by decide +kernel, by decide +kernel⟩
abbrev s_BadWeight___init__ : Stmt := inClass (topS 10) 0
abbrev n_BadWeight___init__ : List Str := ["self", "place"]
theorem sc_BadWeight___init__ : FnScope n_BadWeight___init__ ["self", "place"] (defScope s_BadWeight___init__) := ⟨rfl, rfl, rfl, by decide +kernel, rfl, by decide +kernel, by decide +kernel⟩
abbrev s_BadLength___init__ : Stmt := inClass (topS 11) 0
abbrev n_BadLength___init__ : List Str := ["self", "place"]
theorem sc_BadLength___init__ : FnScope n_BadLength___init__ ["self", "place"] (defScope s_BadLength___init__) := ⟨rfl, rfl, rfl, by decide +kernel, rfl, by decide +kernel, by decide +kernel⟩
abbrev s_BadCome___init__ : Stmt := inClass (topS 12) 0
abbrev n_BadCome___init__ : List Str := ["self", "place"]
theorem sc_BadCome___init__ : FnScope n_BadCome___init__ ["self", "place"] (defScope s_BadCome___init__) := ⟨rfl, rfl, rfl, by decide +kernel, rfl, by decide +kernel, by decide +kernel⟩
abbrev s_BadTold___init__ : Stmt := inClass (topS 13) 0
abbrev n_BadTold___init__ : List Str := ["self", "place"]
theorem sc_BadTold___init__ : FnScope n_BadTold___init__ ["self", "place"] (defScope s_BadTold___init__) := ⟨rfl, rfl, rfl, by decide +kernel, rfl, by decide +kernel, by decide +kernel⟩
abbrev s_is_number : Stmt := topS 19
abbrev n_is_number : List Str := ["value"]
theorem sc_is_number : FnScope n_is_number ["value"] (defScope s_is_number) := ⟨rfl, rfl, rfl, by decide +kernel, rfl, by decide +kernel, by decide +kernel⟩
abbrev s_is_number_from : Stmt := topS 20
abbrev n_is_number_from : List Str := ["value", "least", "most"]
theorem sc_is_number_from : FnScope n_is_number_from ["value", "least", "most"] (defScope s_is_number_from) := ⟨rfl, rfl, rfl, by decide +kernel, rfl, by decide +kernel, by decide +kernel⟩
abbrev s_is_amount : Stmt := topS 21
abbrev n_is_amount : List Str := ["value"]
theorem sc_is_amount : FnScope n_is_amount ["value"] (defScope s_is_amount) := ⟨rfl, rfl, rfl, by decide +kernel, rfl, by decide +kernel, by decide +kernel⟩
abbrev s_lowest : Stmt := topS 22
abbrev n_lowest : List Str := ["top", "bottom", "divisor"]
theorem sc_lowest : FnScope n_lowest ["top", "bottom"] (defScope s_lowest) := ⟨rfl, rfl, rfl, by decide +kernel, rfl, by decide +kernel, by decide +kernel⟩
abbrev s_amount : Stmt := topS 23
abbrev n_amount : List Str := ["value"]
theorem sc_amount : FnScope n_amount ["value"] (defScope s_amount) := ⟨rfl, rfl, rfl, by decide +kernel, rfl, by decide +kernel, by decide +kernel⟩
abbrev s_ratio : Stmt := topS 24
abbrev n_ratio : List Str := ["top", "bottom"]
theorem sc_ratio : FnScope n_ratio ["top", "bottom"] (defScope s_ratio) := ⟨rfl, rfl, rfl, by decide +kernel, rfl, by decide +kernel, by decide +kernel⟩
abbrev s_plus : Stmt := topS 25
abbrev n_plus : List Str := ["one", "two"]
theorem sc_plus : FnScope n_plus ["one", "two"] (defScope s_plus) := ⟨rfl, rfl, rfl, by decide +kernel, rfl, by decide +kernel, by decide +kernel⟩
abbrev s_minus : Stmt := topS 26
abbrev n_minus : List Str := ["one", "two"]
theorem sc_minus : FnScope n_minus ["one", "two"] (defScope s_minus) := ⟨rfl, rfl, rfl, by decide +kernel, rfl, by decide +kernel, by decide +kernel⟩
abbrev s_times : Stmt := topS 27
abbrev n_times : List Str := ["one", "two"]
theorem sc_times : FnScope n_times ["one", "two"] (defScope s_times) := ⟨rfl, rfl, rfl, by decide +kernel, rfl, by decide +kernel, by decide +kernel⟩
abbrev s_less : Stmt := topS 28
abbrev n_less : List Str := ["one", "two"]
theorem sc_less : FnScope n_less ["one", "two"] (defScope s_less) := ⟨rfl, rfl, rfl, by decide +kernel, rfl, by decide +kernel, by decide +kernel⟩
abbrev s_at_most : Stmt := topS 29
abbrev n_at_most : List Str := ["one", "two"]
theorem sc_at_most : FnScope n_at_most ["one", "two"] (defScope s_at_most) := ⟨rfl, rfl, rfl, by decide +kernel, rfl, by decide +kernel, by decide +kernel⟩
abbrev s_greater : Stmt := topS 30
abbrev n_greater : List Str := ["one", "two", "chosen"]
theorem sc_greater : FnScope n_greater ["one", "two"] (defScope s_greater) := ⟨rfl, rfl, rfl, by decide +kernel, rfl, by decide +kernel, by decide +kernel⟩
abbrev s_sum_of : Stmt := topS 31
abbrev n_sum_of : List Str := ["row", "total", "part"]
theorem sc_sum_of : FnScope n_sum_of ["row"] (defScope s_sum_of) := ⟨rfl, rfl, rfl, by decide +kernel, rfl, by decide +kernel, by decide +kernel⟩
abbrev s_ascending : Stmt := topS 32
abbrev n_ascending : List Str := ["values", "order", "place", "value", "ahead", "known"]
theorem sc_ascending : FnScope n_ascending ["values"] (defScope s_ascending) := ⟨rfl, rfl, rfl, by decide +kernel, rfl, by decide +kernel, by decide +kernel⟩
abbrev s_scaled : Stmt := topS 33
abbrev n_scaled : List Str := ["number", "value"]
theorem sc_scaled : FnScope n_scaled ["number", "value"] (defScope s_scaled) := ⟨rfl, rfl, rfl, by decide +kernel, rfl, by decide +kernel, by decide +kernel⟩
abbrev s_is_name : Stmt := topS 38
abbrev n_is_name : List Str := ["value", "sign"]
theorem sc_is_name : FnScope n_is_name ["value"] (defScope s_is_name) := ⟨rfl, rfl, rfl, by decide +kernel, rfl, by decide +kernel, by decide +kernel⟩
abbrev s_is_length : Stmt := topS 39
abbrev n_is_length : List Str := ["value"]
theorem sc_is_length : FnScope n_is_length ["value"] (defScope s_is_length) := ⟨rfl, rfl, rfl, by decide +kernel, rfl, by decide +kernel, by decide +kernel⟩
abbrev s_checked_job : Stmt := topS 40
abbrev n_checked_job : List Str := ["place", "job", "names", "come", "told"]
theorem sc_checked_job : FnScope n_checked_job ["place", "job", "names"] (defScope s_checked_job) := ⟨rfl, rfl, rfl, by decide +kernel, rfl, by decide +kernel, by decide +kernel⟩
abbrev s_checked_jobs : Stmt := topS 41
abbrev n_checked_jobs : List Str := ["jobs", "rows", "place", "job", "row"]
theorem sc_checked_jobs : FnScope n_checked_jobs ["jobs"] (defScope s_checked_jobs) := ⟨rfl, rfl, rfl, by decide +kernel, rfl, by decide +kernel, by decide +kernel⟩
abbrev s_Day___init__ : Stmt := inClass (topS 42) 0
abbrev n_Day___init__ : List Str := ["self", "jobs", "rows", "row"]
theorem sc_Day___init__ : FnScope n_Day___init__ ["self", "jobs"] (defScope s_Day___init__) := ⟨rfl, rfl, rfl, by decide +kernel, rfl, by decide +kernel, by decide +kernel⟩
abbrev s_Day___len__ : Stmt := inClass (topS 42) 1
abbrev n_Day___len__ : List Str := ["self"]
theorem sc_Day___len__ : FnScope n_Day___len__ ["self"] (defScope s_Day___len__) := ⟨rfl, rfl, rfl, by decide +kernel, rfl, by decide +kernel, by decide +kernel⟩
abbrev s_Day___eq__ : Stmt := inClass (topS 42) 2
abbrev n_Day___eq__ : List Str := ["self", "other"]
theorem sc_Day___eq__ : FnScope n_Day___eq__ ["self", "other"] (defScope s_Day___eq__) := ⟨rfl, rfl, rfl, by decide +kernel, rfl, by decide +kernel, by decide +kernel⟩
abbrev s_Day_jobs : Stmt := inClass (topS 42) 3
abbrev n_Day_jobs : List Str := ["self"]
theorem sc_Day_jobs : FnScope n_Day_jobs ["self"] (defScope s_Day_jobs) := ⟨rfl, rfl, rfl, by decide +kernel, rfl, by decide +kernel, by decide +kernel⟩
abbrev s_Day_depths : Stmt := inClass (topS 42) 4
abbrev n_Day_depths : List Str := ["self"]
theorem sc_Day_depths : FnScope n_Day_depths ["self"] (defScope s_Day_depths) := ⟨rfl, rfl, rfl, by decide +kernel, rfl, by decide +kernel, by decide +kernel⟩
abbrev s_Day_weight : Stmt := inClass (topS 42) 5
abbrev n_Day_weight : List Str := ["self"]
theorem sc_Day_weight : FnScope n_Day_weight ["self"] (defScope s_Day_weight) := ⟨rfl, rfl, rfl, by decide +kernel, rfl, by decide +kernel, by decide +kernel⟩
abbrev s_Day_work : Stmt := inClass (topS 42) 6
abbrev n_Day_work : List Str := ["self"]
theorem sc_Day_work : FnScope n_Day_work ["self"] (defScope s_Day_work) := ⟨rfl, rfl, rfl, by decide +kernel, rfl, by decide +kernel, by decide +kernel⟩
abbrev s_Day_at_once : Stmt := inClass (topS 42) 7
abbrev n_Day_at_once : List Str := ["self", "come"]
theorem sc_Day_at_once : FnScope n_Day_at_once ["self"] (defScope s_Day_at_once) := ⟨rfl, rfl, rfl, by decide +kernel, rfl, by decide +kernel, by decide +kernel⟩
abbrev s_Day_place_of : Stmt := inClass (topS 42) 8
abbrev n_Day_place_of : List Str := ["self", "name"]
theorem sc_Day_place_of : FnScope n_Day_place_of ["self", "name"] (defScope s_Day_place_of) := ⟨rfl, rfl, rfl, by decide +kernel, rfl, by decide +kernel, by decide +kernel⟩
abbrev s_need_at_once : Stmt := topS 43
abbrev n_need_at_once : List Str := ["day"]
theorem sc_need_at_once : FnScope n_need_at_once ["day"] (defScope s_need_at_once) := ⟨rfl, rfl, rfl, by decide +kernel, rfl, by decide +kernel, by decide +kernel⟩
abbrev s_bill_of : Stmt := topS 44
abbrev n_bill_of : List Str := ["day", "ends", "weight", "end"]
theorem sc_bill_of : FnScope n_bill_of ["day", "ends"] (defScope s_bill_of) := ⟨rfl, rfl, rfl, by decide +kernel, rfl, by decide +kernel, by decide +kernel⟩
abbrev s_need_even : Stmt := topS 46
abbrev n_need_even : List Str := ["day", "weight"]
theorem sc_need_even : FnScope n_need_even ["day"] (defScope s_need_even) := ⟨rfl, rfl, rfl, by decide +kernel, rfl, by decide +kernel, by decide +kernel⟩
abbrev s_rounds : Stmt := topS 47
abbrev n_rounds : List Str := ["count", "counters", "k"]
theorem sc_rounds : FnScope n_rounds ["count", "counters"] (defScope s_rounds) := ⟨rfl, rfl, rfl, by decide +kernel, rfl, by decide +kernel, by decide +kernel⟩
abbrev s_many_best : Stmt := topS 48
abbrev n_many_best : List Str := ["day", "counters", "costs", "rank", "place"]
theorem sc_many_best : FnScope n_many_best ["day", "counters"] (defScope s_many_best) := ⟨rfl, rfl, rfl, by decide +kernel, rfl, by decide +kernel, by decide +kernel⟩
abbrev s_many_factor : Stmt := topS 50
abbrev n_many_factor : List Str := ["count", "counters"]
theorem sc_many_factor : FnScope n_many_factor ["count", "counters"] (defScope s_many_factor) := ⟨rfl, rfl, rfl, by decide +kernel, rfl, by decide +kernel, by decide +kernel⟩
abbrev s_even_ends : Stmt := topS 52
abbrev n_even_ends : List Str := ["day", "counters", "ends", "name", "time", "low", "left", "place", "piece"]
theorem sc_even_ends : FnScope n_even_ends ["day", "counters"] (defScope s_even_ends) := ⟨rfl, rfl, rfl, by decide +kernel, rfl, by decide +kernel, by decide +kernel⟩
abbrev s_even_bill : Stmt := topS 53
abbrev n_even_bill : List Str := ["day", "counters"]
theorem sc_even_bill : FnScope n_even_bill ["day", "counters"] (defScope s_even_bill) := ⟨rfl, rfl, rfl, by decide +kernel, rfl, by decide +kernel, by decide +kernel⟩
abbrev s__law_whole : Stmt := topS 55
abbrev n__law_whole : List Str := ["value"]
theorem sc__law_whole : FnScope n__law_whole ["value"] (defScope s__law_whole) := ⟨rfl, rfl, rfl, by decide +kernel, rfl, by decide +kernel, by decide +kernel⟩
abbrev s__law_cell : Stmt := topS 56
abbrev n__law_cell : List Str := ["script", "k", "seed", "cell"]
theorem sc__law_cell : FnScope n__law_cell ["script", "k"] (defScope s__law_cell) := ⟨rfl, rfl, rfl, by decide +kernel, rfl, by decide +kernel, by decide +kernel⟩
abbrev s__law_digits : Stmt := topS 57
abbrev n__law_digits : List Str := ["cell", "sizes", "row", "rest", "size", "seed", "k", "twice"]
theorem sc__law_digits : FnScope n__law_digits ["cell", "sizes"] (defScope s__law_digits) := ⟨rfl, rfl, rfl, by decide +kernel, rfl, by decide +kernel, by decide +kernel⟩
abbrev s__law_low : Stmt := topS 58
abbrev n__law_low : List Str := ["top", "bottom", "one", "other", "rest"]
theorem sc__law_low : FnScope n__law_low ["top", "bottom"] (defScope s__law_low) := ⟨rfl, rfl, rfl, by decide +kernel, rfl, by decide +kernel, by decide +kernel⟩
abbrev s__law_add : Stmt := topS 59
abbrev n__law_add : List Str := ["a", "b"]
theorem sc__law_add : FnScope n__law_add ["a", "b"] (defScope s__law_add) := ⟨rfl, rfl, rfl, by decide +kernel, rfl, by decide +kernel, by decide +kernel⟩
abbrev s__law_sub : Stmt := topS 60
abbrev n__law_sub : List Str := ["a", "b"]
theorem sc__law_sub : FnScope n__law_sub ["a", "b"] (defScope s__law_sub) := ⟨rfl, rfl, rfl, by decide +kernel, rfl, by decide +kernel, by decide +kernel⟩
abbrev s__law_mul : Stmt := topS 61
abbrev n__law_mul : List Str := ["a", "b"]
theorem sc__law_mul : FnScope n__law_mul ["a", "b"] (defScope s__law_mul) := ⟨rfl, rfl, rfl, by decide +kernel, rfl, by decide +kernel, by decide +kernel⟩
abbrev s__law_div : Stmt := topS 62
abbrev n__law_div : List Str := ["a", "b"]
theorem sc__law_div : FnScope n__law_div ["a", "b"] (defScope s__law_div) := ⟨rfl, rfl, rfl, by decide +kernel, rfl, by decide +kernel, by decide +kernel⟩
abbrev s__law_lt : Stmt := topS 63
abbrev n__law_lt : List Str := ["a", "b"]
theorem sc__law_lt : FnScope n__law_lt ["a", "b"] (defScope s__law_lt) := ⟨rfl, rfl, rfl, by decide +kernel, rfl, by decide +kernel, by decide +kernel⟩
abbrev s__law_le : Stmt := topS 64
abbrev n__law_le : List Str := ["a", "b"]
theorem sc__law_le : FnScope n__law_le ["a", "b"] (defScope s__law_le) := ⟨rfl, rfl, rfl, by decide +kernel, rfl, by decide +kernel, by decide +kernel⟩
abbrev s__law_lesser : Stmt := topS 65
abbrev n__law_lesser : List Str := ["a", "b"]
theorem sc__law_lesser : FnScope n__law_lesser ["a", "b"] (defScope s__law_lesser) := ⟨rfl, rfl, rfl, by decide +kernel, rfl, by decide +kernel, by decide +kernel⟩
abbrev s__law_total : Stmt := topS 66
abbrev n__law_total : List Str := ["row", "total", "part"]
theorem sc__law_total : FnScope n__law_total ["row"] (defScope s__law_total) := ⟨rfl, rfl, rfl, by decide +kernel, rfl, by decide +kernel, by decide +kernel⟩
abbrev s__law_is_fraction : Stmt := topS 67
abbrev n__law_is_fraction : List Str := ["value"]
theorem sc__law_is_fraction : FnScope n__law_is_fraction ["value"] (defScope s__law_is_fraction) := ⟨rfl, rfl, rfl, by decide +kernel, rfl, by decide +kernel, by decide +kernel⟩
abbrev s__law_are_fractions : Stmt := topS 68
abbrev n__law_are_fractions : List Str := ["value", "count", "part"]
theorem sc__law_are_fractions : FnScope n__law_are_fractions ["value", "count"] (defScope s__law_are_fractions) := ⟨rfl, rfl, rfl, by decide +kernel, rfl, by decide +kernel, by decide +kernel⟩
abbrev s__law_names : Stmt := topS 69
abbrev n__law_names : List Str := ["digit", "count", "menu", "k"]
theorem sc__law_names : FnScope n__law_names ["digit", "count"] (defScope s__law_names) := ⟨rfl, rfl, rfl, by decide +kernel, rfl, by decide +kernel, by decide +kernel⟩
abbrev s__law_jobs : Stmt := topS 70
abbrev n__law_jobs : List Str := ["names", "world", "k"]
theorem sc__law_jobs : FnScope n__law_jobs ["names", "world"] (defScope s__law_jobs) := ⟨rfl, rfl, rfl, by decide +kernel, rfl, by decide +kernel, by decide +kernel⟩
abbrev s__law_digit : Stmt := topS 71
abbrev n__law_digit : List Str := ["row", "at", "size"]
theorem sc__law_digit : FnScope n__law_digit ["row", "at", "size"] (defScope s__law_digit) := ⟨rfl, rfl, rfl, by decide +kernel, rfl, by decide +kernel, by decide +kernel⟩
abbrev s__law_even_world : Stmt := topS 72
abbrev n__law_even_world : List Str := ["row", "at", "upto", "count", "weight", "alike", "great", "first", "lengths", "k", "part", "tolds"]
theorem sc__law_even_world : FnScope n__law_even_world ["row", "at", "upto"] (defScope s__law_even_world) := ⟨rfl, rfl, rfl, by decide +kernel, rfl, by decide +kernel, by decide +kernel⟩
abbrev s__law_rounds : Stmt := topS 73
abbrev n__law_rounds : List Str := ["count", "tables", "total", "k"]
theorem sc__law_rounds : FnScope n__law_rounds ["count", "tables"] (defScope s__law_rounds) := ⟨rfl, rfl, rfl, by decide +kernel, rfl, by decide +kernel, by decide +kernel⟩
abbrev s__law_many_best : Stmt := topS 74
abbrev n__law_many_best : List Str := ["world", "tables", "lengths", "length", "total", "k", "great", "j"]
theorem sc__law_many_best : FnScope n__law_many_best ["world", "tables"] (defScope s__law_many_best) := ⟨rfl, rfl, rfl, by decide +kernel, rfl, by decide +kernel, by decide +kernel⟩
abbrev s__law_many_factor : Stmt := topS 75
abbrev n__law_many_factor : List Str := ["count", "tables", "best", "total", "k"]
theorem sc__law_many_factor : FnScope n__law_many_factor ["count", "tables"] (defScope s__law_many_factor) := ⟨rfl, rfl, rfl, by decide +kernel, rfl, by decide +kernel, by decide +kernel⟩
abbrev s__law_even_bill : Stmt := topS 76
abbrev n__law_even_bill : List Str := ["world", "tables", "total", "low", "step", "here", "length", "least", "cost"]
theorem sc__law_even_bill : FnScope n__law_even_bill ["world", "tables"] (defScope s__law_even_bill) := ⟨rfl, rfl, rfl, by decide +kernel, rfl, by decide +kernel, by decide +kernel⟩
abbrev s_law : Stmt := topS 77
abbrev n_law : List Str := ["script", "row", "at", "tables", "number", "told", "world", "count", "one", "k", "names", "day", "factor", "paid", "best", "length", "alike", "other"]
theorem sc_law : FnScope n_law ["script"] (defScope s_law) := ⟨rfl, rfl, rfl, by decide +kernel, rfl, by decide +kernel, by decide +kernel⟩
end LW

namespace LW
open PySem L2 DL VC
/-! ### the program's fractions -/
def Sp_lowest : PSpec := fun as res => ∃ a b : Int, as = [.dat (.int a), .dat (.int b)] ∧ 0 < b ∧ b.natAbs < 2 ^ 8900 ∧ res = .ret (.dat (fr (mkRat a b.toNat))) []
theorem sp_lowest {a b : Int} (h : 0 < b) (hs : b.natAbs < 2 ^ 8900) : Sp_lowest [.dat (.int a), .dat (.int b)] (.ret (.dat (fr (mkRat a b.toNat))) []) := ⟨a, b, rfl, h, hs, rfl⟩
theorem gcd_ok {a b : Int} (h0 : 0 < b) (h2 : b.natAbs < 2 ^ 8900) : ∀ z : Int, CDivW z ((Nat.gcd a.natAbs b.natAbs : Nat) : Int) := fun z => by
  have hp := Nat.gcd_pos_of_pos_right a.natAbs (show 0 < b.natAbs by omega)
  refine wide_div (b := 8900) (by omega) ?_ (by decide) (by decide)
  have hl := Nat.gcd_le_right a.natAbs (show 0 < b.natAbs by omega)
  exact Nat.lt_of_le_of_lt (by omega) h2
section
variable {M : Md} (T : Bn M) {f : Addr} {fd : FuncData}
include T
theorem ok_lowest (F : Fun M.K "lowest" "lowest" s_lowest f fd) : FnOk M.P M.w M.K M.mg M.base CX0 1 f fd ["top", "bottom"] (spOf M.K Sp_lowest) := by
  refine fn_ok F sc_lowest ?_ ?_ ?_
  · rintro as res ⟨a, b, rfl, _⟩; rfl
  · rintro as C ns ds os ⟨a, b, _, _, _, h⟩; cases h
  · rintro X W G as res g ⟨a, b, rfl, h0, h2, rfl⟩ hbi
    have hbn := nob hbi rfl
    have hd := gcd_ok (a := a) h0 h2
    obtain ⟨e1, e2⟩ := low_eq (a := a) h0
    refine sv_cons (s_asg g 2 (ev_gcd g T.gcd (ea_cons (ev_var g 0) (ea_cons (ev_var g 1) ea_nil))) (hbn 2) ?_)
    refine sv_one (s_ret (ev_tup (ea_cons (ev_fdiv (ev_var g 0) (ev_var g 2) (hd _)) (ea_cons (ev_fdiv (ev_var g 1) (ev_var g 2) (hd _)) ea_nil))) (endD ?_))
    unfold fr
    rw [e1, e2]
end
def Sp_plus : PSpec := fun as res => ∃ x y : Rat, as = [.dat (fr x), .dat (fr y)] ∧ Sz x ∧ Sz y ∧ res = .ret (.dat (fr (x + y))) []
theorem sp_plus {x y : Rat} (hx : Sz x) (hy : Sz y) : Sp_plus [.dat (fr x), .dat (fr y)] (.ret (.dat (fr (x + y))) []) := ⟨x, y, rfl, hx, hy, rfl⟩
def Sp_minus : PSpec := fun as res => ∃ x y : Rat, as = [.dat (fr x), .dat (fr y)] ∧ Sz x ∧ Sz y ∧ res = .ret (.dat (fr (x - y))) []
theorem sp_minus {x y : Rat} (hx : Sz x) (hy : Sz y) : Sp_minus [.dat (fr x), .dat (fr y)] (.ret (.dat (fr (x - y))) []) := ⟨x, y, rfl, hx, hy, rfl⟩
def Sp_times : PSpec := fun as res => ∃ x y : Rat, as = [.dat (fr x), .dat (fr y)] ∧ Sz x ∧ Sz y ∧ res = .ret (.dat (fr (x * y))) []
theorem sp_times {x y : Rat} (hx : Sz x) (hy : Sz y) : Sp_times [.dat (fr x), .dat (fr y)] (.ret (.dat (fr (x * y))) []) := ⟨x, y, rfl, hx, hy, rfl⟩
def Sp_lt : PSpec := fun as res => ∃ x y : Rat, as = [.dat (fr x), .dat (fr y)] ∧ Sz x ∧ Sz y ∧ res = .ret (.dat (.bl (decide (x < y)))) []
theorem sp_less {x y : Rat} (hx : Sz x) (hy : Sz y) : Sp_lt [.dat (fr x), .dat (fr y)] (.ret (.dat (.bl (decide (x < y)))) []) := ⟨x, y, rfl, hx, hy, rfl⟩
theorem sp__law_lt {x y : Rat} (hx : Sz x) (hy : Sz y) : Sp_lt [.dat (fr x), .dat (fr y)] (.ret (.dat (.bl (decide (x < y)))) []) := ⟨x, y, rfl, hx, hy, rfl⟩
def Sp_le : PSpec := fun as res => ∃ x y : Rat, as = [.dat (fr x), .dat (fr y)] ∧ Sz x ∧ Sz y ∧ res = .ret (.dat (.bl (decide (x ≤ y)))) []
theorem sp_at_most {x y : Rat} (hx : Sz x) (hy : Sz y) : Sp_le [.dat (fr x), .dat (fr y)] (.ret (.dat (.bl (decide (x ≤ y)))) []) := ⟨x, y, rfl, hx, hy, rfl⟩
theorem sp__law_le {x y : Rat} (hx : Sz x) (hy : Sz y) : Sp_le [.dat (fr x), .dat (fr y)] (.ret (.dat (.bl (decide (x ≤ y)))) []) := ⟨x, y, rfl, hx, hy, rfl⟩
/-- the lesser; of equal ones it does not matter which -/
def rmin (x y : Rat) : Rat := if y < x then y else x
def rmax (x y : Rat) : Rat := if x < y then y else x
def Sp_min : PSpec := fun as res => ∃ x y : Rat, as = [.dat (fr x), .dat (fr y)] ∧ Sz x ∧ Sz y ∧ res = .ret (.dat (fr (rmin x y))) []
theorem sp_lesser {x y : Rat} (hx : Sz x) (hy : Sz y) : Sp_min [.dat (fr x), .dat (fr y)] (.ret (.dat (fr (rmin x y))) []) := ⟨x, y, rfl, hx, hy, rfl⟩
theorem sp__law_lesser {x y : Rat} (hx : Sz x) (hy : Sz y) : Sp_min [.dat (fr x), .dat (fr y)] (.ret (.dat (fr (rmin x y))) []) := ⟨x, y, rfl, hx, hy, rfl⟩
def Sp_max : PSpec := fun as res => ∃ x y : Rat, as = [.dat (fr x), .dat (fr y)] ∧ Sz x ∧ Sz y ∧ res = .ret (.dat (fr (rmax x y))) []
theorem sp_greater {x y : Rat} (hx : Sz x) (hy : Sz y) : Sp_max [.dat (fr x), .dat (fr y)] (.ret (.dat (fr (rmax x y))) []) := ⟨x, y, rfl, hx, hy, rfl⟩
theorem bot_ok {x y : Rat} (hx : Sz x) (hy : Sz y) : (0 : Int) < (x.den : Int) * y.den ∧ ((x.den : Int) * y.den).natAbs < 2 ^ 8900 :=
  ⟨Int.mul_pos (den_pos x) (den_pos y), Nat.lt_of_lt_of_le (mul_lt hx.d hy.d) (Nat.pow_le_pow_right (by decide) (by decide))⟩
theorem sz_bot {x : Rat} (hx : Sz x) : ((x.den : Int)).natAbs < 2 ^ 8900 := Nat.lt_of_lt_of_le hx.d (Nat.pow_le_pow_right (by decide) (by decide))
/-- how a def over two fractions begins -/
theorem two_len {S : PSpec} {N ps : List Str} (hp : ps.length = 2) (h : ∀ as res, S as res → ∃ a b, as = [a, b]) : ∀ as res, S as res → as.length = ps.length := fun as res s => by
  obtain ⟨a, b, rfl⟩ := h as res s
  rw [hp]; rfl
section
variable {M : Md} (T : Bn M) {f : Addr} {fd : FuncData}
include T
theorem ok_plus (c_lowest : Fn M CX0 "lowest" 1 Sp_lowest) (F : Fun M.K "plus" "plus" s_plus f fd) : FnOk M.P M.w M.K M.mg M.base CX0 2 f fd ["one", "two"] (spOf M.K Sp_plus) := by
  refine fn_ok F sc_plus ?_ ?_ ?_
  · rintro as res ⟨a, b, rfl, _⟩; rfl
  · rintro as C ns ds os ⟨a, b, _, _, _, h⟩; cases h
  · rintro X W G as res g ⟨x, y, rfl, hx, hy, rfl⟩ hbi
    refine sv_one (s_ret (ev_call2 g c_lowest (ev_add (ev_mul (ev_ixT (ev_var g 0) ev_int rfl) (ev_ixT (ev_var g 1) ev_int rfl) (mok hx.n hy.d)) (ev_mul (ev_ixT (ev_var g 1) ev_int rfl) (ev_ixT (ev_var g 0) ev_int rfl) (mok hy.n hx.d))) (ev_mul (ev_ixT (ev_var g 0) ev_int rfl) (ev_ixT (ev_var g 1) ev_int rfl) (mok hx.d hy.d)) (sp_lowest (bot_ok hx hy).1 (bot_ok hx hy).2)) (endD ?_))
    rw [fr_add]
theorem ok_minus (c_lowest : Fn M CX0 "lowest" 1 Sp_lowest) (F : Fun M.K "minus" "minus" s_minus f fd) : FnOk M.P M.w M.K M.mg M.base CX0 2 f fd ["one", "two"] (spOf M.K Sp_minus) := by
  refine fn_ok F sc_minus ?_ ?_ ?_
  · rintro as res ⟨a, b, rfl, _⟩; rfl
  · rintro as C ns ds os ⟨a, b, _, _, _, h⟩; cases h
  · rintro X W G as res g ⟨x, y, rfl, hx, hy, rfl⟩ hbi
    refine sv_one (s_ret (ev_call2 g c_lowest (ev_sub (ev_mul (ev_ixT (ev_var g 0) ev_int rfl) (ev_ixT (ev_var g 1) ev_int rfl) (mok hx.n hy.d)) (ev_mul (ev_ixT (ev_var g 1) ev_int rfl) (ev_ixT (ev_var g 0) ev_int rfl) (mok hy.n hx.d))) (ev_mul (ev_ixT (ev_var g 0) ev_int rfl) (ev_ixT (ev_var g 1) ev_int rfl) (mok hx.d hy.d)) (sp_lowest (bot_ok hx hy).1 (bot_ok hx hy).2)) (endD ?_))
    rw [fr_sub]
theorem ok_times (c_lowest : Fn M CX0 "lowest" 1 Sp_lowest) (F : Fun M.K "times" "times" s_times f fd) : FnOk M.P M.w M.K M.mg M.base CX0 2 f fd ["one", "two"] (spOf M.K Sp_times) := by
  refine fn_ok F sc_times ?_ ?_ ?_
  · rintro as res ⟨a, b, rfl, _⟩; rfl
  · rintro as C ns ds os ⟨a, b, _, _, _, h⟩; cases h
  · rintro X W G as res g ⟨x, y, rfl, hx, hy, rfl⟩ hbi
    refine sv_one (s_ret (ev_call2 g c_lowest (ev_mul (ev_ixT (ev_var g 0) ev_int rfl) (ev_ixT (ev_var g 1) ev_int rfl) (mok hx.n hy.n)) (ev_mul (ev_ixT (ev_var g 0) ev_int rfl) (ev_ixT (ev_var g 1) ev_int rfl) (mok hx.d hy.d)) (sp_lowest (bot_ok hx hy).1 (bot_ok hx hy).2)) (endD ?_))
    rw [fr_mul]
theorem ok_less (F : Fun M.K "less" "less" s_less f fd) : FnOk M.P M.w M.K M.mg M.base CX0 1 f fd ["one", "two"] (spOf M.K Sp_lt) := by
  refine fn_ok F sc_less ?_ ?_ ?_
  · rintro as res ⟨a, b, rfl, _⟩; rfl
  · rintro as C ns ds os ⟨a, b, _, _, _, h⟩; cases h
  · rintro X W G as res g ⟨x, y, rfl, hx, hy, rfl⟩ hbi
    refine sv_one (s_ret (ev_lt (ev_mul (ev_ixT (ev_var g 0) ev_int rfl) (ev_ixT (ev_var g 1) ev_int rfl) (mok hx.n hy.d)) (ev_mul (ev_ixT (ev_var g 1) ev_int rfl) (ev_ixT (ev_var g 0) ev_int rfl) (mok hy.n hx.d))) (endD ?_))
    rw [fr_lt]
theorem ok_at_most (F : Fun M.K "at_most" "at_most" s_at_most f fd) : FnOk M.P M.w M.K M.mg M.base CX0 1 f fd ["one", "two"] (spOf M.K Sp_le) := by
  refine fn_ok F sc_at_most ?_ ?_ ?_
  · rintro as res ⟨a, b, rfl, _⟩; rfl
  · rintro as C ns ds os ⟨a, b, _, _, _, h⟩; cases h
  · rintro X W G as res g ⟨x, y, rfl, hx, hy, rfl⟩ hbi
    refine sv_one (s_ret (ev_le (ev_mul (ev_ixT (ev_var g 0) ev_int rfl) (ev_ixT (ev_var g 1) ev_int rfl) (mok hx.n hy.d)) (ev_mul (ev_ixT (ev_var g 1) ev_int rfl) (ev_ixT (ev_var g 0) ev_int rfl) (mok hy.n hx.d))) (endD ?_))
    rw [fr_le]
end


end LW

namespace LW
open PySem L2 DL VC
theorem rmin_frd (x y : Rat) : (if decide (y < x) then fr y else fr x) = fr (rmin x y) := by
  unfold rmin
  by_cases h : y < x
  · rw [if_pos (decide_eq_true h), if_pos h]
  · rw [if_neg (by simp [h]), if_neg h]
theorem rmax_frd (x y : Rat) : (if decide (x < y) then fr y else fr x) = fr (rmax x y) := by
  unfold rmax
  by_cases h : x < y
  · rw [if_pos (decide_eq_true h), if_pos h]
  · rw [if_neg (by simp [h]), if_neg h]
theorem sz_rmin {x y : Rat} (hx : Sz x) (hy : Sz y) : Sz (rmin x y) := by
  unfold rmin
  split <;> assumption
theorem sz_rmax {x y : Rat} (hx : Sz x) (hy : Sz y) : Sz (rmax x y) := by
  unfold rmax
  split <;> assumption
/-- a sum from the left -/
def rsum (xs : List Rat) : Rat := xs.foldl (· + ·) 0
theorem rsum_snoc (xs : List Rat) (x : Rat) : rsum (xs ++ [x]) = rsum xs + x := by unfold rsum; rw [List.foldl_append]; rfl
theorem rsum_nil : rsum [] = 0 := rfl
theorem foldl_add (xs : List Rat) : ∀ a : Rat, xs.foldl (· + ·) a = a + xs.foldl (· + ·) 0 := by
  induction xs with
  | nil => intro a; show a = a + 0; rw [Rat.add_zero]
  | cons x xs ih =>
    intro a
    show xs.foldl (· + ·) (a + x) = a + xs.foldl (· + ·) (0 + x)
    rw [ih (a + x), ih (0 + x), Rat.zero_add, Rat.add_assoc]
theorem rsum_cons (x : Rat) (xs : List Rat) : rsum (x :: xs) = x + rsum xs := by
  show xs.foldl (· + ·) (0 + x) = _
  rw [foldl_add, Rat.zero_add]; rfl
theorem rsum_append (xs ys : List Rat) : rsum (xs ++ ys) = rsum xs + rsum ys := by
  induction xs with
  | nil => show rsum ys = rsum [] + rsum ys; rw [rsum_nil, Rat.zero_add]
  | cons x xs ih => rw [List.cons_append, rsum_cons, rsum_cons, ih, Rat.add_assoc]
/-- every sum of a beginning is small, and so is every part -/
def Sums (xs : List Rat) : Prop := (∀ x ∈ xs, Sz x) ∧ ∀ i, Sz (rsum (xs.take i))
def Sp_sum : PSpec := fun as res => ∃ xs : List Rat, as = [.dat (.lst (xs.map fr))] ∧ Sums xs ∧ xs.length ≤ 100000 ∧ res = .ret (.dat (fr (rsum xs))) []
theorem sp_sum_of {xs : List Rat} (h : Sums xs) (hl : xs.length ≤ 100000) : Sp_sum [.dat (.lst (xs.map fr))] (.ret (.dat (fr (rsum xs))) []) := ⟨xs, rfl, h, hl, rfl⟩
theorem sp__law_total {xs : List Rat} (h : Sums xs) (hl : xs.length ≤ 100000) : Sp_sum [.dat (.lst (xs.map fr))] (.ret (.dat (fr (rsum xs))) []) := ⟨xs, rfl, h, hl, rfl⟩
theorem map_get {α β : Type} {f : α → β} {xs : List α} {i : Nat} {d : β} (h : (xs.map f)[i]? = some d) : ∃ x, xs[i]? = some x ∧ d = f x := by
  rw [List.getElem?_map] at h
  cases e : xs[i]? with
  | none => rw [e] at h; cases h
  | some x => rw [e] at h; exact ⟨x, rfl, (Option.some.inj h).symm⟩
theorem fr_zero : D.tup [.int 0, .int 1] = fr 0 := rfl
theorem fr_one : D.tup [.int 1, .int 1] = fr 1 := rfl
section
variable {M : Md} (T : Bn M) {f : Addr} {fd : FuncData}
include T
theorem ok_sum_of (c_plus : Fn M CX0 "plus" 2 Sp_plus) (gl_ZERO : GlobD M "ZERO" (fr 0)) (F : Fun M.K "sum_of" "sum_of" s_sum_of f fd) : FnOk M.P M.w M.K M.mg M.base CX0 3 f fd ["row"] (spOf M.K Sp_sum) := by
  refine fn_ok F sc_sum_of ?_ ?_ ?_
  · rintro as res ⟨a, rfl, _⟩; rfl
  · rintro as C ns ds os ⟨a, _, _, _, h⟩; cases h
  · rintro X W G as res g ⟨xs, rfl, hs, hl, rfl⟩ hbi
    have hbn := nob hbi rfl
    refine sv_cons (s_asg g 1 (ev_gd g gl_ZERO) (hbn 1) ?_)
    refine sv_cons (s_for g (ei_list (ev_var g 0)) (fun i δ => ∃ s, δ = [.dat (.lst (xs.map fr)), .dat (fr (rsum (xs.take i))), s]) ⟨_, rfl⟩ ?_ ?_)
    · rintro i d δi hd ⟨s, rfl⟩
      obtain ⟨x, hx, rfl⟩ := map_get hd
      refine ⟨_, _, ag_name g 2 (hbn 2), ?_⟩
      refine sv_one (s_asg g 1 (ev_call2 g c_plus (ev_var g 1) (ev_var g 2) (sp_plus (hs.2 i) (hs.1 x (List.mem_of_getElem? hx)))) (hbn 1) ⟨.dat (fr x), ?_⟩)
      rw [take_succ_of hx, rsum_snoc]; rfl
    · rintro δ' ⟨s, rfl⟩
      refine sv_one (s_ret (ev_var g 1) (endD ?_))
      rw [List.length_map, List.take_length]
end

/-! ### the law's own fractions and draws -/
def Sp_low : PSpec := fun as res => ∃ a b : Int, as = [.dat (.int a), .dat (.int b)] ∧ 0 < b ∧ b.natAbs < 2 ^ 8900 ∧ res = .ret (.dat (fr (mkRat a b.toNat))) []
theorem sp__law_low {a b : Int} (h : 0 < b) (hs : b.natAbs < 2 ^ 8900) : Sp_low [.dat (.int a), .dat (.int b)] (.ret (.dat (fr (mkRat a b.toNat))) []) := ⟨a, b, rfl, h, hs, rfl⟩
theorem sp__law_add {x y : Rat} (hx : Sz x) (hy : Sz y) : Sp_plus [.dat (fr x), .dat (fr y)] (.ret (.dat (fr (x + y))) []) := ⟨x, y, rfl, hx, hy, rfl⟩
theorem sp__law_sub {x y : Rat} (hx : Sz x) (hy : Sz y) : Sp_minus [.dat (fr x), .dat (fr y)] (.ret (.dat (fr (x - y))) []) := ⟨x, y, rfl, hx, hy, rfl⟩
theorem sp__law_mul {x y : Rat} (hx : Sz x) (hy : Sz y) : Sp_times [.dat (fr x), .dat (fr y)] (.ret (.dat (fr (x * y))) []) := ⟨x, y, rfl, hx, hy, rfl⟩
section
variable {M : Md} (T : Bn M) {f : Addr} {fd : FuncData}
include T
theorem ok__law_low (F : Fun M.K "_law_low" "_law_low" s__law_low f fd) : FnOk M.P M.w M.K M.mg M.base CX0 1 f fd ["top", "bottom"] (spOf M.K Sp_low) := by
  refine fn_ok F sc__law_low ?_ ?_ ?_
  · rintro as res ⟨a, b, rfl, _⟩; rfl
  · rintro as C ns ds os ⟨a, b, _, _, _, h⟩; cases h
  · rintro X W G as res g ⟨a, b, rfl, h0, h2, rfl⟩ hbi
    have hbn := nob hbi rfl
    have hd := gcd_ok (a := a) h0 h2
    obtain ⟨e1, e2⟩ := low_eq (a := a) h0
    refine sv_cons (s_asg g 2 (ev_abs g T.abs (ev_var g 0)) (hbn 2) ?_)
    refine sv_cons (s_asg g 3 (ev_var g 1) (hbn 3) ?_)
    refine sv_cons (s_while g (fun m δ => ∃ o r : Nat, ∃ s : Slot, δ = [.dat (.int a), .dat (.int b), .dat (.int o), .dat (.int r), s] ∧ m = r ∧ Nat.gcd o r = Nat.gcd a.natAbs b.natAbs) b.natAbs ⟨a.natAbs, b.natAbs, .un, ?_, rfl, rfl⟩ ?_)
    · show [Slot.dat (.int a), Slot.dat (.int b), Slot.dat (.int (if a < 0 then -a else a)), Slot.dat (.int b), Slot.un] = _
      have q1 : (if a < 0 then -a else a) = (a.natAbs : Int) := by split <;> omega
      have q2 : b = (b.natAbs : Int) := by omega
      rw [q1, ← q2]
    · rintro m δi ⟨o, r, s, rfl, hm, hg⟩
      cases hm
      refine ⟨_, _, et_neI (ev_var g 3) ev_int, fun hb => ?_, fun hb => ?_⟩
      · have hr : 0 < m := by simp at hb; omega
        refine sv_cons (s_asg g 4 (ev_mod (ev_toInt g T.int (ev_var g 2)) (ev_var g 3) (by omega)) (hbn 4) ?_)
        refine sv_cons (s_asg g 2 (ev_var g 3) (hbn 2) ?_)
        refine sv_one (s_asg g 3 (ev_var g 4) (hbn 3) ⟨o % m, Nat.mod_lt _ hr, m, o % m, .dat (.int ((o % m : Nat) : Int)), ?_, rfl, ?_⟩)
        · show [Slot.dat (.int a), Slot.dat (.int b), Slot.dat (.int m), Slot.dat (.int ((o : Int) % m)), Slot.dat (.int ((o : Int) % m))] = _
          rw [← Int.natCast_emod]
        · rw [← hg, Nat.gcd_comm m, ← Nat.gcd_rec, Nat.gcd_comm]
      · have hr : m = 0 := by simp at hb; omega
        subst hr
        rw [Nat.gcd_zero_right] at hg
        subst hg
        refine sv_one (s_ret (ev_tup (ea_cons (ev_fdiv (ev_var g 0) (ev_var g 2) (hd _)) (ea_cons (ev_fdiv (ev_var g 1) (ev_var g 2) (hd _)) ea_nil))) (endD ?_))
        unfold fr
        rw [e1, e2]
theorem ok__law_add (c__law_low : Fn M CX0 "_law_low" 1 Sp_low) (F : Fun M.K "_law_add" "_law_add" s__law_add f fd) : FnOk M.P M.w M.K M.mg M.base CX0 2 f fd ["a", "b"] (spOf M.K Sp_plus) := by
  refine fn_ok F sc__law_add ?_ ?_ ?_
  · rintro as res ⟨a, b, rfl, _⟩; rfl
  · rintro as C ns ds os ⟨a, b, _, _, _, h⟩; cases h
  · rintro X W G as res g ⟨x, y, rfl, hx, hy, rfl⟩ hbi
    refine sv_one (s_ret (ev_call2 g c__law_low (ev_add (ev_mul (ev_ixT (ev_var g 0) ev_int rfl) (ev_ixT (ev_var g 1) ev_int rfl) (mok hx.n hy.d)) (ev_mul (ev_ixT (ev_var g 1) ev_int rfl) (ev_ixT (ev_var g 0) ev_int rfl) (mok hy.n hx.d))) (ev_mul (ev_ixT (ev_var g 0) ev_int rfl) (ev_ixT (ev_var g 1) ev_int rfl) (mok hx.d hy.d)) (sp__law_low (bot_ok hx hy).1 (bot_ok hx hy).2)) (endD ?_))
    rw [fr_add]
theorem ok__law_sub (c__law_low : Fn M CX0 "_law_low" 1 Sp_low) (F : Fun M.K "_law_sub" "_law_sub" s__law_sub f fd) : FnOk M.P M.w M.K M.mg M.base CX0 2 f fd ["a", "b"] (spOf M.K Sp_minus) := by
  refine fn_ok F sc__law_sub ?_ ?_ ?_
  · rintro as res ⟨a, b, rfl, _⟩; rfl
  · rintro as C ns ds os ⟨a, b, _, _, _, h⟩; cases h
  · rintro X W G as res g ⟨x, y, rfl, hx, hy, rfl⟩ hbi
    refine sv_one (s_ret (ev_call2 g c__law_low (ev_sub (ev_mul (ev_ixT (ev_var g 0) ev_int rfl) (ev_ixT (ev_var g 1) ev_int rfl) (mok hx.n hy.d)) (ev_mul (ev_ixT (ev_var g 1) ev_int rfl) (ev_ixT (ev_var g 0) ev_int rfl) (mok hy.n hx.d))) (ev_mul (ev_ixT (ev_var g 0) ev_int rfl) (ev_ixT (ev_var g 1) ev_int rfl) (mok hx.d hy.d)) (sp__law_low (bot_ok hx hy).1 (bot_ok hx hy).2)) (endD ?_))
    rw [fr_sub]
theorem ok__law_mul (c__law_low : Fn M CX0 "_law_low" 1 Sp_low) (F : Fun M.K "_law_mul" "_law_mul" s__law_mul f fd) : FnOk M.P M.w M.K M.mg M.base CX0 2 f fd ["a", "b"] (spOf M.K Sp_times) := by
  refine fn_ok F sc__law_mul ?_ ?_ ?_
  · rintro as res ⟨a, b, rfl, _⟩; rfl
  · rintro as C ns ds os ⟨a, b, _, _, _, h⟩; cases h
  · rintro X W G as res g ⟨x, y, rfl, hx, hy, rfl⟩ hbi
    refine sv_one (s_ret (ev_call2 g c__law_low (ev_mul (ev_ixT (ev_var g 0) ev_int rfl) (ev_ixT (ev_var g 1) ev_int rfl) (mok hx.n hy.n)) (ev_mul (ev_ixT (ev_var g 0) ev_int rfl) (ev_ixT (ev_var g 1) ev_int rfl) (mok hx.d hy.d)) (sp__law_low (bot_ok hx hy).1 (bot_ok hx hy).2)) (endD ?_))
    rw [fr_mul]
theorem ok__law_lt (F : Fun M.K "_law_lt" "_law_lt" s__law_lt f fd) : FnOk M.P M.w M.K M.mg M.base CX0 1 f fd ["a", "b"] (spOf M.K Sp_lt) := by
  refine fn_ok F sc__law_lt ?_ ?_ ?_
  · rintro as res ⟨a, b, rfl, _⟩; rfl
  · rintro as C ns ds os ⟨a, b, _, _, _, h⟩; cases h
  · rintro X W G as res g ⟨x, y, rfl, hx, hy, rfl⟩ hbi
    refine sv_one (s_ret (ev_lt (ev_mul (ev_ixT (ev_var g 0) ev_int rfl) (ev_ixT (ev_var g 1) ev_int rfl) (mok hx.n hy.d)) (ev_mul (ev_ixT (ev_var g 1) ev_int rfl) (ev_ixT (ev_var g 0) ev_int rfl) (mok hy.n hx.d))) (endD ?_))
    rw [fr_lt]
theorem ok__law_le (F : Fun M.K "_law_le" "_law_le" s__law_le f fd) : FnOk M.P M.w M.K M.mg M.base CX0 1 f fd ["a", "b"] (spOf M.K Sp_le) := by
  refine fn_ok F sc__law_le ?_ ?_ ?_
  · rintro as res ⟨a, b, rfl, _⟩; rfl
  · rintro as C ns ds os ⟨a, b, _, _, _, h⟩; cases h
  · rintro X W G as res g ⟨x, y, rfl, hx, hy, rfl⟩ hbi
    refine sv_one (s_ret (ev_le (ev_mul (ev_ixT (ev_var g 0) ev_int rfl) (ev_ixT (ev_var g 1) ev_int rfl) (mok hx.n hy.d)) (ev_mul (ev_ixT (ev_var g 1) ev_int rfl) (ev_ixT (ev_var g 0) ev_int rfl) (mok hy.n hx.d))) (endD ?_))
    rw [fr_le]
theorem ok__law_lesser (c__law_lt : Fn M CX0 "_law_lt" 1 Sp_lt) (F : Fun M.K "_law_lesser" "_law_lesser" s__law_lesser f fd) : FnOk M.P M.w M.K M.mg M.base CX0 2 f fd ["a", "b"] (spOf M.K Sp_min) := by
  refine fn_ok F sc__law_lesser ?_ ?_ ?_
  · rintro as res ⟨a, b, rfl, _⟩; rfl
  · rintro as C ns ds os ⟨a, b, _, _, _, h⟩; cases h
  · rintro X W G as res g ⟨x, y, rfl, hx, hy, rfl⟩ hbi
    refine sv_cons (s_if (et_val (ev_call2 g c__law_lt (ev_var g 1) (ev_var g 0) (sp__law_lt hy hx))) (fun hc => ?_) (fun hc => ?_))
    · refine sv_one (s_ret (ev_var g 1) (endD ?_))
      unfold rmin
      rw [if_pos (of_decide_eq_true hc)]
    · refine sv_nil (sv_one (s_ret (ev_var g 0) (endD ?_)))
      unfold rmin
      rw [if_neg (of_decide_eq_false hc)]
theorem ok__law_total (c__law_add : Fn M CX0 "_law_add" 2 Sp_plus) (F : Fun M.K "_law_total" "_law_total" s__law_total f fd) : FnOk M.P M.w M.K M.mg M.base CX0 3 f fd ["row"] (spOf M.K Sp_sum) := by
  refine fn_ok F sc__law_total ?_ ?_ ?_
  · rintro as res ⟨a, rfl, _⟩; rfl
  · rintro as C ns ds os ⟨a, _, _, _, h⟩; cases h
  · rintro X W G as res g ⟨xs, rfl, hs, hl, rfl⟩ hbi
    have hbn := nob hbi rfl
    refine sv_cons (s_asg g 1 ((ev_tup (ea_cons ev_int (ea_cons ev_int ea_nil))).eq fr_zero) (hbn 1) ?_)
    refine sv_cons (s_for g (ei_list (ev_var g 0)) (fun i δ => ∃ s, δ = [.dat (.lst (xs.map fr)), .dat (fr (rsum (xs.take i))), s]) ⟨_, rfl⟩ ?_ ?_)
    · rintro i d δi hd ⟨s, rfl⟩
      obtain ⟨x, hx, rfl⟩ := map_get hd
      refine ⟨_, _, ag_name g 2 (hbn 2), ?_⟩
      refine sv_one (s_asg g 1 (ev_call2 g c__law_add (ev_var g 1) (ev_var g 2) (sp__law_add (hs.2 i) (hs.1 x (List.mem_of_getElem? hx)))) (hbn 1) ⟨.dat (fr x), ?_⟩)
      rw [take_succ_of hx, rsum_snoc]; rfl
    · rintro δ' ⟨s, rfl⟩
      refine sv_one (s_ret (ev_var g 1) (endD ?_))
      rw [List.length_map, List.take_length]
end


end LW

namespace LW
open PySem L2 DL VC
/-! ### what a number is -/
def isIntD : D → Bool
  | .int _ => true
  | _ => false
def Sp_num : PSpec := fun as res => ∃ d : D, as = [.dat d] ∧ d.noIns = true ∧ res = .ret (.dat (.bl (isIntD d))) []
theorem sp_is_number {d : D} (h : d.noIns = true) : Sp_num [.dat d] (.ret (.dat (.bl (isIntD d))) []) := ⟨d, rfl, h, rfl⟩
theorem sp__law_whole {d : D} (h : d.noIns = true) : Sp_num [.dat d] (.ret (.dat (.bl (isIntD d))) []) := ⟨d, rfl, h, rfl⟩
theorem ki_int (d : D) (h : d.noIns = true) : kitB (tyD d) "int" = some (isIntD d || kitB (tyD d) "bool" == some true) := by
  cases d <;> first | rfl | cases h
theorem ki_bool (d : D) (h : d.noIns = true) : kitB (tyD d) "bool" = some (kitB (tyD d) "bool" == some true) := by
  cases d <;> first | rfl | cases h
theorem ki_num (d : D) (h : d.noIns = true) : ((isIntD d || kitB (tyD d) "bool" == some true) && !(kitB (tyD d) "bool" == some true)) = isIntD d := by
  cases d <;> first | rfl | cases h
def isLTD : D → Bool
  | .tup _ => true
  | .lst _ => true
  | _ => false
theorem atI0 {α : Type} (a : α) (l : List α) : atI (a :: l) 0 = some a := atI_nat (j := 0) rfl
theorem atI1 {α : Type} (a b : α) (l : List α) : atI (a :: b :: l) 1 = some b := atI_nat (j := 1) rfl
/-- is_amount and amount are only asked about fractions -/
def Sp_isam : PSpec := fun as res => ∃ x : Rat, as = [.dat (fr x)] ∧ res = .ret (.dat (.bl true)) []
theorem sp_is_amount {x : Rat} : Sp_isam [.dat (fr x)] (.ret (.dat (.bl true)) []) := ⟨x, rfl, rfl⟩
def Sp_am : PSpec := fun as res => ∃ x : Rat, as = [.dat (fr x)] ∧ Sz x ∧ res = .ret (.dat (fr x)) []
theorem sp_amount {x : Rat} (hx : Sz x) : Sp_am [.dat (fr x)] (.ret (.dat (fr x)) []) := ⟨x, rfl, hx, rfl⟩
section
variable {M : Md} (T : Bn M) {f : Addr} {fd : FuncData}
include T
theorem ok_is_number (F : Fun M.K "is_number" "is_number" s_is_number f fd) : FnOk M.P M.w M.K M.mg M.base CX0 1 f fd ["value"] (spOf M.K Sp_num) := by
  refine fn_ok F sc_is_number ?_ ?_ ?_
  · rintro as res ⟨a, rfl, _⟩; rfl
  · rintro as C ns ds os ⟨a, _, _, h⟩; cases h
  · rintro X W G as res g ⟨d, rfl, hd, rfl⟩ hbi
    refine sv_one (s_ret (ev_and (ev_isi g T.isinstance T.int (by decide +kernel) (ev_var g 0) hd (ki_int d hd)) (fun _ => (ev_b1 (ev_not (ev_isi g T.isinstance T.bool (by decide +kernel) (ev_var g 0) hd (ki_bool d hd)))))) (endD ?_))
    rw [ki_num d hd]
theorem ok__law_whole (F : Fun M.K "_law_whole" "_law_whole" s__law_whole f fd) : FnOk M.P M.w M.K M.mg M.base CX0 1 f fd ["value"] (spOf M.K Sp_num) := by
  refine fn_ok F sc__law_whole ?_ ?_ ?_
  · rintro as res ⟨a, rfl, _⟩; rfl
  · rintro as C ns ds os ⟨a, _, _, h⟩; cases h
  · rintro X W G as res g ⟨d, rfl, hd, rfl⟩ hbi
    refine sv_one (s_ret (ev_and (ev_isi g T.isinstance T.int (by decide +kernel) (ev_var g 0) hd (ki_int d hd)) (fun _ => (ev_b1 (ev_not (ev_isi g T.isinstance T.bool (by decide +kernel) (ev_var g 0) hd (ki_bool d hd)))))) (endD ?_))
    rw [ki_num d hd]
theorem ok_is_amount (c_is_number : Fn M CX0 "is_number" 1 Sp_num) (F : Fun M.K "is_amount" "is_amount" s_is_amount f fd) : FnOk M.P M.w M.K M.mg M.base CX0 2 f fd ["value"] (spOf M.K Sp_isam) := by
  refine fn_ok F sc_is_amount ?_ ?_ ?_
  · rintro as res ⟨a, rfl, _⟩; rfl
  · rintro as C ns ds os ⟨a, _, h⟩; cases h
  · rintro X W G as res g ⟨x, rfl, rfl⟩ hbi
    refine sv_cons (s_if (et_val (ev_call1 g c_is_number (ev_var g 0) (sp_is_number rfl))) (fun hc => by cases hc) (fun hc => sv_nil ?_))
    refine sv_cons (s_if (et_w (ew_or (et_not (et_val (ev_isi2 g (tn := "list") (un := "tuple") T.isinstance T.list T.tuple (by decide +kernel) (by decide +kernel) (ev_var g 0) rfl kit_tl kit_tt))) (fun _ => (ew_o1 (et_neI (ev_lenT g T.len (ev_var g 0)) ev_int))))) (fun hc => by cases hc) (fun hc => sv_nil ?_))
    refine sv_one (s_ret (ev_and (ev_call1 g c_is_number (ev_ixT (ev_var g 0) ev_int rfl) (sp_is_number rfl)) (fun _ => (ev_and (ev_call1 g c_is_number (ev_ixT (ev_var g 0) ev_int rfl) (sp_is_number rfl)) (fun _ => (ev_b1 (ev_ge (ev_ixT (ev_var g 0) ev_int rfl) ev_int)))))) (endD ?_))
    have := den_pos x
    show Slot.dat (.bl true) = Slot.dat (.bl (true && (true && decide ((1 : Int) ≤ x.den))))
    rw [decide_eq_true (by omega)]; rfl
theorem ok_amount (c_is_number : Fn M CX0 "is_number" 1 Sp_num) (c_is_amount : Fn M CX0 "is_amount" 2 Sp_isam) (c_lowest : Fn M CX0 "lowest" 1 Sp_lowest) (F : Fun M.K "amount" "amount" s_amount f fd) : FnOk M.P M.w M.K M.mg M.base CX0 3 f fd ["value"] (spOf M.K Sp_am) := by
  refine fn_ok F sc_amount ?_ ?_ ?_
  · rintro as res ⟨a, rfl, _⟩; rfl
  · rintro as C ns ds os ⟨a, _, _, h⟩; cases h
  · rintro X W G as res g ⟨x, rfl, hx, rfl⟩ hbi
    refine sv_cons (s_if (et_not (et_val (ev_call1 g c_is_amount (ev_var g 0) (sp_is_amount)))) (fun hc => by cases hc) (fun hc => sv_nil ?_))
    refine sv_cons (s_if (et_val (ev_call1 g c_is_number (ev_var g 0) (sp_is_number rfl))) (fun hc => by cases hc) (fun hc => sv_nil ?_))
    refine sv_one (s_ret (ev_call2 g c_lowest (ev_ixT (ev_var g 0) ev_int rfl) (ev_ixT (ev_var g 0) ev_int rfl) (sp_lowest (den_pos _) (sz_bot hx))) (endD ?_))
    rw [fr_self]
end
def Sp_isfr : PSpec := fun as res => ∃ x : Rat, as = [.dat (fr x)] ∧ Sz x ∧ res = .ret (.dat (.bl true)) []
theorem sp__law_is_fraction {x : Rat} (hx : Sz x) : Sp_isfr [.dat (fr x)] (.ret (.dat (.bl true)) []) := ⟨x, rfl, hx, rfl⟩
/-! ### the script -/
def cellSeed (sc : List Int) : Int := sc.foldl (fun s c => (s * 31 + c % 1000003) % 1000003) 17
def cellV (sc : List Int) (k : Nat) : Int := if h : k < sc.length then sc[k] else ((cellSeed sc + 7) * (k + 3) * 69621) % 2147483647
def Sp_cell : PSpec := fun as res => ∃ (sc : List Int) (k : Nat), as = [.dat (.lst (sc.map .int)), .dat (.int k)] ∧ k ≤ 1000 ∧ res = .ret (.dat (.int (cellV sc k))) []
theorem sp__law_cell {sc : List Int} {k : Nat} (h : k ≤ 1000) : Sp_cell [.dat (.lst (sc.map .int)), .dat (.int k)] (.ret (.dat (.int (cellV sc k))) []) := ⟨sc, k, rfl, h, rfl⟩
def digA (st : List Int × Int) (s : Int) : List Int × Int := (st.1 ++ [st.2 % s], st.2 / s)
def seedB (seed : Int) (k : Nat) : Int := (seed * 48271 + 974711 * k + 12345) % 2147483647
def twiceB (seed : Int) : Int := (seed * (seed / 65537 + 3)) % 2147483629
def digB (sizes : List Int) (st : List Int × Int) (k : Nat) : List Int × Int := (st.1 ++ [twiceB (seedB st.2 k) / 19 % sizes.getD k 1], seedB st.2 k)
def digsV (c : Int) (sizes : List Int) : List Int := if (10 : Int) ^ 18 ≤ c then (sizes.foldl digA ([], c - 10 ^ 18)).1 else ((List.range sizes.length).foldl (digB sizes) ([], c % 2147483629)).1
theorem digA_len (l : List Int) : ∀ st : List Int × Int, (l.foldl digA st).1.length = st.1.length + l.length := by
  induction l with
  | nil => intro st; rfl
  | cons s l ih => intro st; show (l.foldl digA (digA st s)).1.length = _; rw [ih]; show (st.1 ++ [_]).length + _ = _; rw [List.length_append]; simp; omega
theorem digB_len (sizes : List Int) (l : List Nat) : ∀ st : List Int × Int, (l.foldl (digB sizes) st).1.length = st.1.length + l.length := by
  induction l with
  | nil => intro st; rfl
  | cons s l ih => intro st; show (l.foldl (digB sizes) (digB sizes st s)).1.length = _; rw [ih]; show (st.1 ++ [_]).length + _ = _; rw [List.length_append]; simp; omega
theorem digsV_len (c : Int) (sizes : List Int) : (digsV c sizes).length = sizes.length := by
  unfold digsV
  split
  · rw [digA_len]; simp
  · rw [digB_len]; simp
def Sp_digs : PSpec := fun as res => ∃ (c : Int) (sizes : List Int), as = [.dat (.int c), .dat (.lst (sizes.map .int))] ∧ (∀ s ∈ sizes, 0 < s ∧ s.natAbs < 2 ^ 8900) ∧ sizes.length ≤ 10000 ∧ res = .ret (.own ((digsV c sizes).map .int)) []
theorem sp__law_digits {c : Int} {sizes : List Int} (h : ∀ s ∈ sizes, 0 < s ∧ s.natAbs < 2 ^ 8900) (hl : sizes.length ≤ 10000) : Sp_digs [.dat (.int c), .dat (.lst (sizes.map .int))] (.ret (.own ((digsV c sizes).map .int)) []) := ⟨c, sizes, rfl, h, hl, rfl⟩
/-- one digit of the row, the next place counted -/
def dg (r : List Int) (k : Nat) (s : Int) : Int := r.getD ((k + 1) % r.length) 0 % s
def Sp_dig : PSpec := fun as res => ∃ (r : List Int) (k : Nat) (s : Int), as = [.dat (.lst (r.map .int)), .own [.int k], .dat (.int s)] ∧ 0 < s ∧ 0 < r.length ∧ res = .ret (.dat (.int (dg r k s))) [.un, .own [.int ((k + 1 : Nat) : Int)], .un]
theorem dg_lo {r : List Int} {k : Nat} {s : Int} (h : 0 < s) : 0 ≤ dg r k s := Int.emod_nonneg _ (by omega)
theorem dg_hi {r : List Int} {k : Nat} {s : Int} (h : 0 < s) : dg r k s < s := Int.emod_lt_of_pos _ h
theorem wd {z s : Int} (h : 0 < s) (h2 : s.natAbs < 2 ^ 8900) : CDivW z s := wide_div (b := 8900) h h2 (by decide) (by decide)
section
variable {M : Md} (T : Bn M) {f : Addr} {fd : FuncData}
include T
theorem ok__law_is_fraction (c__law_whole : Fn M CX0 "_law_whole" 1 Sp_num) (c__law_low : Fn M CX0 "_law_low" 1 Sp_low) (F : Fun M.K "_law_is_fraction" "_law_is_fraction" s__law_is_fraction f fd) : FnOk M.P M.w M.K M.mg M.base CX0 2 f fd ["value"] (spOf M.K Sp_isfr) := by
  refine fn_ok F sc__law_is_fraction ?_ ?_ ?_
  · rintro as res ⟨a, rfl, _⟩; rfl
  · rintro as C ns ds os ⟨a, _, _, h⟩; cases h
  · rintro X W G as res g ⟨x, rfl, hx, rfl⟩ hbi
    have hp := den_pos x
    refine sv_cons (s_if (et_w (ew_or (et_not (et_val (ev_isi g (tn := "tuple") T.isinstance T.tuple (by decide +kernel) (ev_var g 0) rfl kit_tt))) (fun _ => (ew_o1 (et_neI (ev_lenT g T.len (ev_var g 0)) ev_int))))) (fun hc => by cases hc) (fun hc => sv_nil ?_))
    refine sv_cons (s_if (et_w (ew_or (et_not (et_val (ev_call1 g c__law_whole (ev_ixT (ev_var g 0) ev_int rfl) (sp__law_whole rfl)))) (fun _ => (ew_or (et_not (et_val (ev_call1 g c__law_whole (ev_ixT (ev_var g 0) ev_int rfl) (sp__law_whole rfl)))) (fun _ => (ew_o1 (et_lt (ev_ixT (ev_var g 0) ev_int rfl) ev_int))))))) (fun hc => ?_) (fun hc => sv_nil ?_))
    · have hc' : (false || (false || decide ((x.den : Int) < 1))) = true := hc
      rw [decide_eq_false (by omega)] at hc'
      cases hc'
    · refine sv_one (s_ret (ev_eqF g ((ev_call2 g c__law_low (ev_ixT (ev_var g 0) ev_int rfl) (ev_ixT (ev_var g 0) ev_int rfl) (sp__law_low hp (sz_bot hx))).eq (by rw [fr_self])) (ev_var g 0)) (endD ?_))
      rw [decide_eq_true rfl]
theorem ok__law_cell (F : Fun M.K "_law_cell" "_law_cell" s__law_cell f fd) : FnOk M.P M.w M.K M.mg M.base CX0 1 f fd ["script", "k"] (spOf M.K Sp_cell) := by
  refine fn_ok F sc__law_cell ?_ ?_ ?_
  · rintro as res ⟨a, b, rfl, _⟩; rfl
  · rintro as C ns ds os ⟨a, b, _, _, h⟩; cases h
  · rintro X W G as res g ⟨sc, k, rfl, hk, rfl⟩ hbi
    have hbn := nob hbi rfl
    refine sv_cons (s_if (et_lt (ev_var g 1) (ev_lenL g T.len (ev_var g 0))) (fun hc => ?_) (fun hc => sv_nil ?_))
    · have hc' := of_decide_eq_true hc
      rw [List.length_map] at hc'
      have hk' : k < sc.length := by omega
      refine sv_one (s_ret (ev_ixL (ev_var g 0) (ev_var g 1) (atI_nat (v := D.int sc[k]) (by rw [List.getElem?_map, List.getElem?_eq_getElem hk']; rfl))) (endD ?_))
      unfold cellV
      rw [dif_pos hk']
    · have hc' := of_decide_eq_false hc
      rw [List.length_map] at hc'
      have hk' : ¬ k < sc.length := by omega
      refine sv_cons (s_asg g 2 ev_int (hbn 2) ?_)
      refine sv_cons (s_for g (ei_list (ev_var g 0)) (fun i δ => ∃ s, δ = [.dat (.lst (sc.map .int)), .dat (.int k), .dat (.int (cellSeed (sc.take i))), s] ∧ 0 ≤ cellSeed (sc.take i) ∧ cellSeed (sc.take i) < 1000003) ⟨_, rfl, by show (0:Int) ≤ 17; decide, by show (17:Int) < 1000003; decide⟩ ?_ ?_)
      · rintro i d δi hd ⟨s, rfl, h0, h1⟩
        obtain ⟨c, hc, rfl⟩ := map_get hd
        refine ⟨_, _, ag_name g 3 (hbn 3), ?_⟩
        have e : cellSeed (sc.take (i + 1)) = (cellSeed (sc.take i) * 31 + c % 1000003) % 1000003 := by
          rw [take_succ_of hc]; unfold cellSeed; rw [List.foldl_append]; rfl
        refine sv_one (s_asg g 2 (ev_mod (ev_toInt g T.int (ev_add (ev_mul (ev_var g 2) ev_int (mokS (by omega) (by decide))) (ev_mod (ev_toInt g T.int (ev_var g 3)) ev_int (by decide)))) ev_int (by decide)) (hbn 2) ⟨.dat (.int c), ?_, ?_, ?_⟩)
        · rw [e]; rfl
        · rw [e]; omega
        · rw [e]; omega
      · rintro δ' ⟨s, rfl, h0, h1⟩
        rw [List.length_map, List.take_length] at h0 h1 ⊢
        refine sv_one (s_ret (ev_mod (ev_toInt g T.int (ev_mul (ev_mul (ev_add (ev_var g 2) ev_int) (ev_add (ev_var g 1) ev_int) (mokS (by omega) (by omega))) ev_int (mok ?_ (by decide)))) ev_int (by decide)) (endD ?_))
        · refine Nat.lt_of_lt_of_le (mul_lt (a := 30) (b := 30) ?_ ?_) (Nat.pow_le_pow_right (by decide) (by decide)) <;> omega
        · unfold cellV
          rw [dif_neg hk']
theorem ok__law_digits (F : Fun M.K "_law_digits" "_law_digits" s__law_digits f fd) : FnOk M.P M.w M.K M.mg M.base CX0 1 f fd ["cell", "sizes"] (spOf M.K Sp_digs) := by
  refine fn_ok F sc__law_digits ?_ ?_ ?_
  · rintro as res ⟨a, b, rfl, _⟩; rfl
  · rintro as C ns ds os ⟨a, b, _, _, _, h⟩; cases h
  · rintro X W G as res g ⟨c, sizes, rfl, hs, hl, rfl⟩ hbi
    have hbn := nob hbi rfl
    refine sv_cons (s_asgM g 2 (ev_lst ea_nil) (hbn 2) ?_)
    refine sv_cons (s_asg g 3 (ev_toInt g T.int (ev_var g 0)) (hbn 3) ?_)
    refine sv_cons (s_if (et_ge (ev_var g 3) (ev_pow ev_int ev_int cp_ok)) (fun hc => ?_) (fun hc => sv_nil ?_))
    · refine sv_cons (s_asg g 3 (ev_sub (ev_var g 3) (ev_pow ev_int ev_int cp_ok)) (hbn 3) ?_)
      refine sv_cons (s_for g (ei_list (ev_var g 1)) (fun i δ => ∃ s1, δ = [.dat (.int c), .dat (.lst (sizes.map .int)), .own (((sizes.take i).foldl digA ([], c - 10 ^ 18)).1.map .int), .dat (.int ((sizes.take i).foldl digA ([], c - 10 ^ 18)).2), s1, .un, .un, .un]) ⟨_, rfl⟩ ?_ ?_)
      · rintro i d δi hd ⟨s1, rfl⟩
        obtain ⟨s, hsz, rfl⟩ := map_get hd
        have hi := (List.getElem?_eq_some_iff.mp hsz).1
        refine ⟨_, _, ag_name g 4 (hbn 4), ?_⟩
        obtain ⟨p1, p2⟩ := hs s (List.mem_of_getElem? hsz)
        refine sv_cons (s_app g 2 (ev_mod (ev_toInt g T.int (ev_var g 3)) (ev_var g 4) p1) ?_ ?_ ⟨_, rfl⟩)
        · rw [List.length_map, digA_len, List.length_take]; simp; omega
        · refine sv_one (s_asg g 3 (ev_fdiv (ev_toInt g T.int (ev_var g 3)) (ev_var g 4) (wd p1 p2)) (hbn 3) ⟨.dat (.int s), ?_⟩)
          rw [take_succ_of hsz, List.foldl_append]
          simp [digA, List.set]
      · rintro δ' ⟨s1, rfl⟩
        refine sv_one (s_retM g 2 (hbn 2) (endD ?_))
        rw [List.length_map, List.take_length]
        unfold digsV
        have hc' : (10 : Int) ^ 18 ≤ c := of_decide_eq_true hc
        rw [if_pos hc']
    · refine sv_cons (s_asg g 5 (ev_mod (ev_toInt g T.int (ev_var g 3)) ev_int (by decide)) (hbn 5) ?_)
      refine sv_cons (s_for g (ei_range1 g T.range (ev_lenL g T.len (ev_var g 1)) (by rw [List.length_map]; omega)) (fun i δ => ∃ s1 s2, δ = [.dat (.int c), .dat (.lst (sizes.map .int)), .own (((List.range i).foldl (digB sizes) ([], c % 2147483629)).1.map .int), .dat (.int c), .un, .dat (.int ((List.range i).foldl (digB sizes) ([], c % 2147483629)).2), s1, s2] ∧ 0 ≤ ((List.range i).foldl (digB sizes) ([], c % 2147483629)).2 ∧ ((List.range i).foldl (digB sizes) ([], c % 2147483629)).2 < 2147483647) ⟨.un, .un, rfl, ?_, ?_⟩ ?_ ?_)
      · show 0 ≤ c % 2147483629; omega
      · show c % 2147483629 < _; omega
      · rintro i d δi hd ⟨s1, s2, rfl, h0, h1⟩
        obtain ⟨hi, rfl⟩ := rangeD_get hd
        rw [List.length_map] at hi
        have hi2 : i < sizes.length := by omega
        refine ⟨_, _, ag_name g 6 (hbn 6), ?_⟩
        obtain ⟨p1, p2⟩ := hs sizes[i] (List.getElem_mem hi2)
        generalize hS : ((List.range i).foldl (digB sizes) ([], c % 2147483629)) = st at h0 h1 ⊢
        have hlen : st.1.length = i := by rw [← hS, digB_len]; simp
        have e : (List.range (i + 1)).foldl (digB sizes) ([], c % 2147483629) = digB sizes st i := by
          rw [List.range_succ, List.foldl_append, hS]; rfl
        have ez : (0 : Int) + (i : Int) = i := by omega
        rw [ez]
        refine sv_cons (s_asg g 5 ((ev_mod (ev_toInt g T.int (ev_add (ev_add (ev_mul (ev_var g 5) ev_int (mokS (by omega) (by decide))) (ev_mul ev_int (ev_var g 6) (mokS (by decide) (by omega)))) ev_int)) ev_int (by decide)).eq (d' := D.int (seedB st.2 i)) rfl) (hbn 5) ?_)
        have q0 : 0 ≤ seedB st.2 i := by unfold seedB; omega
        have q1 : seedB st.2 i < 2147483647 := by unfold seedB; omega
        refine sv_cons (s_asg g 7 ((ev_mod (ev_toInt g T.int (ev_mul (ev_var g 5) (ev_add (ev_fdiv (ev_var g 5) ev_int (wd (by decide) (by decide))) ev_int) (mokS (by omega) (by omega)))) ev_int (by decide)).eq (d' := D.int (twiceB (seedB st.2 i))) rfl) (hbn 7) ?_)
        refine sv_one (s_app g 2 (ev_mod (ev_fdiv (ev_var g 7) ev_int (wd (by decide) (by decide))) (ev_ixL (ev_var g 1) (ev_var g 6) (atI_nat (v := D.int sizes[i]) (by rw [List.getElem?_map, List.getElem?_eq_getElem hi2]; rfl))) p1) ?_ ⟨.dat (.int i), .dat (.int (twiceB (seedB st.2 i))), ?_, ?_, ?_⟩ ⟨_, rfl⟩)
        · rw [List.length_map, hlen]; omega
        · rw [e]
          unfold digB
          rw [List.getD_eq_getElem?_getD, List.getElem?_eq_getElem hi2]
          simp [List.set]
        · rw [e]; exact q0
        · rw [e]; exact q1
      · rintro δ' ⟨s1, s2, rfl, _⟩
        refine sv_one (s_retM g 2 (hbn 2) (endD ?_))
        rw [rangeD_len, List.length_map, Int.toNat_natCast]
        unfold digsV
        have hc' : ¬ (10 : Int) ^ 18 ≤ c := of_decide_eq_false hc
        rw [if_neg hc']
theorem ok__law_digit (F : Fun M.K "_law_digit" "_law_digit" s__law_digit f fd) : FnOk M.P M.w M.K M.mg M.base CX0 1 f fd ["row", "at", "size"] (spOf M.K Sp_dig) := by
  refine fn_ok F sc__law_digit ?_ ?_ ?_
  · rintro as res ⟨a, b, c, rfl, _⟩; rfl
  · rintro as C ns ds os ⟨a, b, c, _, _, _, h⟩; cases h
  · rintro X W G as res g ⟨r, k, s, rfl, h0, h1, rfl⟩ hbi
    refine sv_cons (s_setI g 1 (ev_add (ev_ixO g 1 ev_int rfl ⟨_, rfl⟩) ev_int) ev_int rfl ?_ ⟨_, rfl⟩)
    have hm : (k + 1) % r.length < r.length := Nat.mod_lt _ h1
    refine sv_one (s_ret (ev_mod (ev_toInt g T.int (ev_ixL (ev_var g 0) ((ev_mod (ev_toInt g T.int (ev_ixO g 1 ev_int rfl ⟨_, rfl⟩)) (ev_lenL g T.len (ev_var g 0)) (by rw [List.length_map]; omega)).eq (show D.int (((k : Int) + 1) % ((r.map D.int).length : Int)) = D.int (((k + 1) % r.length : Nat) : Int) by rw [List.length_map]; simp)) (atI_nat (v := D.int (r.getD ((k + 1) % r.length) 0)) (by rw [List.getElem?_map, List.getD_eq_getElem?_getD, List.getElem?_eq_getElem hm]; rfl)))) (ev_var g 2) h0) ⟨rfl, ?_⟩)
    intro i hi
    have hi' : i ∈ ([1] : List Nat) := hi
    rw [List.mem_singleton] at hi'
    subst hi'
    rfl
end


end LW

namespace LW
open PySem L2 DL VC
/-! ### amounts on a grid -/
/-- a multiple of 1/n, not above B in size -/
def Am (n B : Nat) (x : Rat) : Prop := (∃ z : Int, x * (n : Rat) = (z : Rat)) ∧ -(B : Rat) ≤ x ∧ x ≤ (B : Rat)
theorem am_int {n B : Nat} (z : Int) (h : z.natAbs ≤ B) : Am n B (z : Rat) := by
  refine ⟨⟨z * n, by rw [Rat.intCast_mul, Rat.intCast_natCast]⟩, ?_, ?_⟩
  · have : (-(B : Int)) ≤ z := by omega
    have := Rat.intCast_le_intCast.mpr this
    rw [Rat.intCast_neg, Rat.intCast_natCast] at this
    exact this
  · have : z ≤ (B : Int) := by omega
    have := Rat.intCast_le_intCast.mpr this
    rw [Rat.intCast_natCast] at this
    exact this
theorem natCast_le' {a b : Nat} (h : a ≤ b) : (a : Rat) ≤ b := Rat.natCast_le_natCast.mpr h
theorem Am.up {n B n' B' : Nat} {x : Rat} (h : Am n B x) (hn : n ∣ n') (hB : B ≤ B') : Am n' B' x := by
  obtain ⟨⟨z, h0⟩, h1, h2⟩ := h
  obtain ⟨c, rfl⟩ := hn
  have hb := natCast_le' hB
  refine ⟨⟨z * c, ?_⟩, by grind, by grind⟩
  rw [Rat.intCast_mul, ← h0, Rat.natCast_mul, Rat.intCast_natCast, Rat.mul_assoc]
theorem Am.add {n B C : Nat} {x y : Rat} (h : Am n B x) (k : Am n C y) : Am n (B + C) (x + y) := by
  obtain ⟨⟨z, h0⟩, h1, h2⟩ := h
  obtain ⟨⟨w, k0⟩, k1, k2⟩ := k
  refine ⟨⟨z + w, ?_⟩, ?_, ?_⟩
  · rw [Rat.intCast_add, ← h0, ← k0, Rat.add_mul]
  · rw [Rat.natCast_add]; grind
  · rw [Rat.natCast_add]; grind
theorem Am.sub {n B C : Nat} {x y : Rat} (h : Am n B x) (k : Am n C y) : Am n (B + C) (x - y) := by
  obtain ⟨⟨z, h0⟩, h1, h2⟩ := h
  obtain ⟨⟨w, k0⟩, k1, k2⟩ := k
  refine ⟨⟨z - w, ?_⟩, ?_, ?_⟩
  · rw [Rat.intCast_sub, ← h0, ← k0]; grind
  · rw [Rat.natCast_add]; grind
  · rw [Rat.natCast_add]; grind
theorem Am.rmin {n B : Nat} {x y : Rat} (h : Am n B x) (k : Am n B y) : Am n B (rmin x y) := by
  unfold LW.rmin; split <;> assumption
theorem mul_bound {x y B C : Rat} (h1 : -B ≤ x) (h2 : x ≤ B) (k1 : -C ≤ y) (k2 : y ≤ C) (hB : 0 ≤ B) (hC : 0 ≤ C) : x * y ≤ B * C := by
  have a1 : 0 ≤ (B - x) * (C + y) := Rat.mul_nonneg (by grind) (by grind)
  have a2 : 0 ≤ (B + x) * (C - y) := Rat.mul_nonneg (by grind) (by grind)
  grind
theorem Am.mul {n m B C : Nat} {x y : Rat} (h : Am n B x) (k : Am m C y) : Am (n * m) (B * C) (x * y) := by
  obtain ⟨⟨z, h0⟩, h1, h2⟩ := h
  obtain ⟨⟨w, k0⟩, k1, k2⟩ := k
  have hB : (0 : Rat) ≤ (B : Rat) := Rat.natCast_nonneg
  have hC : (0 : Rat) ≤ (C : Rat) := Rat.natCast_nonneg
  refine ⟨⟨z * w, ?_⟩, ?_, ?_⟩
  · rw [Rat.intCast_mul, ← h0, ← k0, Rat.natCast_mul]; grind
  · rw [Rat.natCast_mul]
    have := mul_bound (x := -x) (B := B) (by grind) (by grind) k1 k2 hB hC
    grind
  · rw [Rat.natCast_mul]
    exact mul_bound h1 h2 k1 k2 hB hC
theorem Am.sz {n B : Nat} {x : Rat} (h : Am n B x) (hn : 0 < n) (h1 : n < 2 ^ 1000) (h2 : B < 2 ^ 1000) : Sz x := by
  obtain ⟨⟨z, h0⟩, l1, l2⟩ := h
  have hd := x.den_pos
  have e : x.num * n = z * x.den := by
    rw [Rat.mul_def'] at h0
    have e1 : (z : Rat) = mkRat z 1 := (Rat.mkRat_self (z : Rat)).symm
    rw [e1, Rat.mkRat_eq_iff (by show x.den * 1 ≠ 0; omega) (by decide)] at h0
    have h0' : x.num * n * ((1 : Nat) : Int) = z * ((x.den * 1 : Nat) : Int) := h0
    simpa using h0'
  have dv : x.den ∣ n := by
    have q : x.den ∣ x.num.natAbs * n := by
      have := congrArg Int.natAbs e
      rw [Int.natAbs_mul, Int.natAbs_mul, Int.natAbs_natCast, Int.natAbs_natCast] at this
      exact ⟨z.natAbs, by rw [this, Nat.mul_comm]⟩
    exact (Nat.Coprime.symm x.reduced).dvd_of_dvd_mul_left q
  have dl : x.den ≤ n := Nat.le_of_dvd hn dv
  have u1 : x.num ≤ B * x.den := by
    have := (Rat.le_iff _ _).mp l2
    have eB : ((B : Rat)).num = B := rfl
    have eD : ((B : Rat)).den = 1 := rfl
    rw [eB, eD] at this
    omega
  have u2 : -(B * x.den : Int) ≤ x.num := by
    have := (Rat.le_iff _ _).mp l1
    have eB : (-(B : Rat)).num = -B := rfl
    have eD : (-(B : Rat)).den = 1 := rfl
    rw [eB, eD, Int.neg_mul] at this
    omega
  have u3 : x.num.natAbs ≤ B * x.den := by
    have : ((B * x.den : Nat) : Int) = (B : Int) * x.den := by simp
    omega
  have u4 : x.num.natAbs < 2 ^ (1000 + 1000) := by
    have : B * x.den < 2 ^ 1000 * 2 ^ 1000 := Nat.mul_lt_mul_of_lt_of_le h2 (Nat.le_of_lt (Nat.lt_of_le_of_lt dl h1)) (Nat.pow_pos (by decide))
    rw [Nat.pow_add]
    omega
  exact ⟨Nat.lt_of_lt_of_le u4 (Nat.pow_le_pow_right (by decide) (by decide)), Nat.lt_of_lt_of_le (Nat.lt_of_le_of_lt dl h1) (Nat.pow_le_pow_right (by decide) (by decide))⟩


end LW

namespace LW
open PySem L2 DL VC
/-! ### days -/
theorem kit_ss {z : Str} : kitB (tyD (.str z)) "str" = some true := by show kitB "str" "str" = _; decide +kernel
def lettersZ : Str := "abcdefghijklmnopqrstuvwxyz"
def figuresZ : Str := "0123456789"
/-- a text that may be a name -/
def NameOk (z : Str) : Prop := 1 ≤ z.length ∧ z.length ≤ 8 ∧ (∀ ch, z.cps.toList[0]? = some ch → ch ∈ lettersZ.cps.toList) ∧ ∀ ch ∈ z.cps.toList, ch ∈ lettersZ.cps.toList ∨ ch ∈ figuresZ.cps.toList
def Sp_name : PSpec := fun as res => ∃ z : Str, as = [.dat (.str z)] ∧ NameOk z ∧ res = .ret (.dat (.bl true)) []
theorem sp_is_name {z : Str} (h : NameOk z) : Sp_name [.dat (.str z)] (.ret (.dat (.bl true)) []) := ⟨z, rfl, h, rfl⟩
def Sp_from : PSpec := fun as res => ∃ i lo hi : Int, as = [.dat (.int i), .dat (.int lo), .dat (.int hi)] ∧ res = .ret (.dat (.bl (decide (lo ≤ i) && decide (i ≤ hi)))) []
theorem sp_is_number_from {i lo hi : Int} : Sp_from [.dat (.int i), .dat (.int lo), .dat (.int hi)] (.ret (.dat (.bl (decide (lo ≤ i) && decide (i ≤ hi)))) []) := ⟨i, lo, hi, rfl, rfl⟩
def Sp_islen : PSpec := fun as res => ∃ x : Rat, as = [.dat (fr x)] ∧ Sz x ∧ 0 ≤ x ∧ res = .ret (.dat (.bl true)) []
theorem sp_is_length {x : Rat} (h : Sz x) (h0 : 0 ≤ x) : Sp_islen [.dat (fr x)] (.ret (.dat (.bl true)) []) := ⟨x, rfl, h, h0, rfl⟩
structure Jb where
  nm : Str
  w : Int
  l : Rat
  c : Rat
  t : Int
def Jb.d (j : Jb) : D := .tup [.str j.nm, .int j.w, fr j.l, fr j.c, .int j.t]
structure JbOk (j : Jb) : Prop where
  nm : NameOk j.nm
  w : 1 ≤ j.w ∧ j.w ≤ 999
  l : Sz j.l ∧ 0 ≤ j.l
  c : Sz j.c ∧ 0 ≤ j.c
  t : 0 ≤ j.t ∧ j.t ≤ 999
def Sp_job : PSpec := fun as res => ∃ (p : Int) (j : Jb) (ns : List Str), as = [.dat (.int p), .dat (Jb.d j), .dat (.lst (ns.map .str))] ∧ JbOk j ∧ j.nm ∉ ns ∧ ns.length ≤ 100 ∧ res = .ret (.dat (Jb.d j)) []
theorem sp_checked_job {p : Int} {j : Jb} {ns : List Str} (h : JbOk j) (hn : j.nm ∉ ns) (hl : ns.length ≤ 100) : Sp_job [.dat (.int p), .dat (Jb.d j), .dat (.lst (ns.map .str))] (.ret (.dat (Jb.d j)) []) := ⟨p, j, ns, rfl, h, hn, hl, rfl⟩
def JobsOk (js : List Jb) : Prop := (∀ j ∈ js, JbOk j) ∧ (js.map (·.nm)).Nodup ∧ js.length ≤ 8
def Sp_jobs : PSpec := fun as res => ∃ js : List Jb, as = [.dat (.lst (js.map Jb.d))] ∧ JobsOk js ∧ res = .ret (.own (js.map Jb.d)) []
theorem sp_checked_jobs {js : List Jb} (h : JobsOk js) : Sp_jobs [.dat (.lst (js.map Jb.d))] (.ret (.own (js.map Jb.d)) []) := ⟨js, rfl, h, rfl⟩
section
variable {M : Md} (T : Bn M) {f : Addr} {fd : FuncData}
include T
theorem ok_is_name (gl_LETTERS : GlobD M "LETTERS" (.str lettersZ)) (gl_FIGURES : GlobD M "FIGURES" (.str figuresZ)) (F : Fun M.K "is_name" "is_name" s_is_name f fd) : FnOk M.P M.w M.K M.mg M.base CX0 1 f fd ["value"] (spOf M.K Sp_name) := by
  refine fn_ok F sc_is_name ?_ ?_ ?_
  · rintro as res ⟨_, rfl, _⟩; rfl
  · rintro as C ns ds os ⟨_, _, _, h⟩; cases h
  · rintro X W G as res g ⟨z, rfl, ⟨h1, h8, h0, ha⟩, rfl⟩ hbi
    have hbn := nob hbi rfl
    have hzl : z.length = z.cps.toList.length := (Array.length_toList).symm
    have hz0 : z.cps.toList[0]? = some (z.cps.toList[0]'(by omega)) := List.getElem?_eq_getElem (by omega)
    generalize (z.cps.toList[0]'(by omega)) = c0 at hz0
    have hc0 := h0 c0 hz0
    refine sv_cons (s_if (et_w (ew_or (et_not (et_val (ev_isi g (tn := "str") T.isinstance T.str (by decide +kernel) (ev_var g 0) rfl kit_ss))) (fun _ => (ew_o1 (et_not (et_leLe ev_int (ev_lenS g T.len (ev_var g 0) (by omega)) (fun _ => ev_int))))))) (fun hc => ?_) (fun hc => sv_nil ?_))
    · exfalso
      have hc' : (false || !(decide ((1 : Int) ≤ z.length) && decide ((z.length : Int) ≤ 8))) = true := hc
      rw [decide_eq_true (by omega), decide_eq_true (by omega)] at hc'
      cases hc'
    refine sv_cons (s_if (et_niS (ev_ixS (ev_var g 0) ev_int (by omega) (atI_nat (j := 0) hz0)) (ev_gd g gl_LETTERS)) (fun hc => ?_) (fun hc => sv_nil ?_))
    · exfalso
      rw [decide_eq_true hc0] at hc
      cases hc
    refine sv_one (s_ret (ev_all g T.all (EV.ls (ev_lcM1 g 1 ((z.cps.toList.map fun ch => decide (ch ∈ lettersZ.cps.toList) || decide (ch ∈ figuresZ.cps.toList)).map D.bl) (hbn 1) (ei_str (ev_var g 0)) (by unfold strD; simp) (by unfold strD; rw [List.length_map]; omega) ?_))) (endD ?_))
    · intro i d hd
      unfold strD at hd
      obtain ⟨ch, hch, rfl⟩ := map_get hd
      refine ⟨.bl (decide (ch ∈ lettersZ.cps.toList) || decide (ch ∈ figuresZ.cps.toList)), by rw [List.getElem?_map, List.getElem?_map, hch]; rfl, fun Y G2 gy hG => ?_⟩
      exact ev_or (ev_inS (ev_var gy 1) (ev_gd gy gl_LETTERS)) (fun _ => ev_b1 (ev_inS (ev_var gy 1) (ev_gd gy gl_FIGURES)))
    · have : (z.cps.toList.map fun ch => decide (ch ∈ lettersZ.cps.toList) || decide (ch ∈ figuresZ.cps.toList)).all id = true := by
        rw [List.all_eq_true]
        intro b hb
        obtain ⟨ch, hch, rfl⟩ := List.mem_map.mp hb
        rcases ha ch hch with h | h <;> simp [h]
      rw [this]
theorem ok_is_number_from (c_is_number : Fn M CX0 "is_number" 1 Sp_num) (F : Fun M.K "is_number_from" "is_number_from" s_is_number_from f fd) : FnOk M.P M.w M.K M.mg M.base CX0 2 f fd ["value", "least", "most"] (spOf M.K Sp_from) := by
  refine fn_ok F sc_is_number_from ?_ ?_ ?_
  · rintro as res ⟨_, _, _, rfl, _⟩; rfl
  · rintro as C ns ds os ⟨_, _, _, _, h⟩; cases h
  · rintro X W G as res g ⟨i, lo, hi, rfl, rfl⟩ hbi
    exact sv_one (s_ret (ev_and (ev_call1 g c_is_number (ev_var g 0) (sp_is_number rfl)) (fun _ => ev_b1 (ev_leLe (ev_var g 1) (ev_var g 0) (fun _ => ev_var g 2)))) (endD rfl))
theorem ok_is_length (c_is_amount : Fn M CX0 "is_amount" 2 Sp_isam) (c_amount : Fn M CX0 "amount" 3 Sp_am) (F : Fun M.K "is_length" "is_length" s_is_length f fd) : FnOk M.P M.w M.K M.mg M.base CX0 4 f fd ["value"] (spOf M.K Sp_islen) := by
  refine fn_ok F sc_is_length ?_ ?_ ?_
  · rintro as res ⟨_, rfl, _⟩; rfl
  · rintro as C ns ds os ⟨_, _, _, _, h⟩; cases h
  · rintro X W G as res g ⟨x, rfl, hx, h0, rfl⟩ hbi
    refine sv_one (s_ret (ev_and (ev_call1 g c_is_amount (ev_var g 0) sp_is_amount) (fun _ => ev_b1 (ev_ge (ev_ixT (ev_call1 g c_amount (ev_var g 0) (sp_amount hx)) ev_int rfl) ev_int))) (endD ?_))
    have : 0 ≤ x.num := Rat.num_nonneg.mpr h0
    show Slot.dat (.bl true) = Slot.dat (.bl (true && decide ((0 : Int) ≤ x.num)))
    rw [decide_eq_true this]; rfl
theorem ok_checked_job (c_is_name : Fn M CX0 "is_name" 1 Sp_name) (c_is_number_from : Fn M CX0 "is_number_from" 2 Sp_from) (c_is_length : Fn M CX0 "is_length" 4 Sp_islen) (c_amount : Fn M CX0 "amount" 3 Sp_am) (F : Fun M.K "checked_job" "checked_job" s_checked_job f fd) : FnOk M.P M.w M.K M.mg M.base CX0 5 f fd ["place", "job", "names"] (spOf M.K Sp_job) := by
  refine fn_ok F sc_checked_job ?_ ?_ ?_
  · rintro as res ⟨_, _, _, rfl, _⟩; rfl
  · rintro as C ns ds os ⟨_, _, _, _, _, _, _, h⟩; cases h
  · rintro X W G as res g ⟨p, j, ns, rfl, hj, hn, hl, rfl⟩ hbi
    have hbn := nob hbi rfl
    refine sv_cons (s_if (et_w (ew_or (et_not (et_val (ev_isi2 g (tn := "list") (un := "tuple") T.isinstance T.list T.tuple (by decide +kernel) (by decide +kernel) (ev_var g 1) rfl kit_tl kit_tt))) (fun _ => (ew_o1 (et_niT (zs := [3, 4, 5]) (ev_lenT g T.len (ev_var g 1)) (ev_tup (ea_cons ev_int (ea_cons ev_int (ea_cons ev_int ea_nil))))))))) (fun hc => ?_) (fun hc => sv_nil ?_))
    · exfalso
      revert hc
      simp
    refine sv_cons (s_asg g 3 (ev_ite (et_gt (ev_lenT g T.len (ev_var g 1)) ev_int) (fun _ => ev_ixT (ev_var g 1) ev_int rfl) (fun _ => ev_int)) (hbn 3) ?_)
    refine sv_cons (s_asg g 4 (ev_ite (et_gt (ev_lenT g T.len (ev_var g 1)) ev_int) (fun _ => ev_ixT (ev_var g 1) ev_int rfl) (fun _ => ev_int)) (hbn 4) ?_)
    show SV X W G _ [.dat (.int p), .dat (Jb.d j), .dat (.lst (ns.map .str)), .dat (fr j.c), .dat (.int j.t)] _
    refine sv_cons (s_if (et_not (et_val (ev_call1 g c_is_name (ev_ixT (ev_var g 1) ev_int rfl) (sp_is_name hj.nm)))) (fun hc => by cases hc) (fun hc => sv_nil ?_))
    refine sv_cons (s_if (et_inL (ev_ixT (ev_var g 1) ev_int rfl) (ev_var g 2)) (fun hc => absurd (of_decide_eq_true hc) hn) (fun hc => sv_nil ?_))
    refine sv_cons (s_if (et_not (et_val (ev_call3 g c_is_number_from (ev_ixT (ev_var g 1) ev_int rfl) ev_int ev_int sp_is_number_from))) (fun hc => ?_) (fun hc => sv_nil ?_))
    · exfalso
      rw [decide_eq_true hj.w.1, decide_eq_true hj.w.2] at hc
      cases hc
    refine sv_cons (s_if (et_not (et_val (ev_call1 g c_is_length (ev_ixT (ev_var g 1) ev_int rfl) (sp_is_length hj.l.1 hj.l.2)))) (fun hc => by cases hc) (fun hc => sv_nil ?_))
    refine sv_cons (s_if (et_not (et_val (ev_call1 g c_is_length (ev_var g 3) (sp_is_length hj.c.1 hj.c.2)))) (fun hc => by cases hc) (fun hc => sv_nil ?_))
    refine sv_cons (s_if (et_not (et_val (ev_call3 g c_is_number_from (ev_var g 4) ev_int ev_int sp_is_number_from))) (fun hc => ?_) (fun hc => sv_nil ?_))
    · exfalso
      rw [decide_eq_true hj.t.1, decide_eq_true hj.t.2] at hc
      cases hc
    exact sv_one (s_ret (ev_tup (ea_cons (ev_ixT (ev_var g 1) ev_int rfl) (ea_cons (ev_ixT (ev_var g 1) ev_int rfl) (ea_cons (ev_call1 g c_amount (ev_ixT (ev_var g 1) ev_int rfl) (sp_amount hj.l.1)) (ea_cons (ev_call1 g c_amount (ev_var g 3) (sp_amount hj.c.1)) (ea_cons (ev_var g 4) ea_nil)))))) (endD rfl))
end

end LW

namespace LW
open PySem L2 DL VC
theorem jbd_nm {js : List Jb} {i : Nat} {d : D} (h : (js.map Jb.d)[i]? = some d) : ∃ j, js[i]? = some j ∧ d = Jb.d j := map_get h
def dayN : List Str := ["names", "weights", "lengths", "comes", "tolds"]
def dayV (js : List Jb) : List D := [.tup (js.map fun j => .str j.nm), .tup (js.map fun j => .int j.w), .tup (js.map fun j => fr j.l), .tup (js.map fun j => fr j.c), .tup (js.map fun j => .int j.t)]
def dayD (CD : Addr) (js : List Jb) : D := .ins CD dayN (dayV js)
/-- what the class Day must be -/
structure DayC (M : Md) (CD : Addr) : Prop where
  cls : Cls M.K CD
  n1 : NoAttr M.K CD "names"
  n2 : NoAttr M.K CD "weights"
  n3 : NoAttr M.K CD "lengths"
  n4 : NoAttr M.K CD "comes"
  n5 : NoAttr M.K CD "tolds"
def Sp_init (CD : Addr) : PSpec := fun as res => ∃ js : List Jb, as = [.obj CD [] [], .dat (.lst (js.map Jb.d))] ∧ JobsOk js ∧ res = .ret (.dat .non) [.obj CD dayN (dayV js), .un]
theorem sp_init {CD : Addr} {js : List Jb} (h : JobsOk js) : Sp_init CD [.obj CD [] [], .dat (.lst (js.map Jb.d))] (.ret (.dat .non) [.obj CD dayN (dayV js), .un]) := ⟨js, rfl, h, rfl⟩
def Sp_daylen (CD : Addr) : PSpec := fun as res => ∃ js : List Jb, as = [.dat (dayD CD js)] ∧ res = .ret (.dat (.int js.length)) []
theorem sp_daylen {CD : Addr} {js : List Jb} : Sp_daylen CD [.dat (dayD CD js)] (.ret (.dat (.int js.length)) []) := ⟨js, rfl, rfl⟩
def onceB (js : List Jb) : Bool := js.all fun j => decide (j.c = 0)
def Sp_once (CD : Addr) : PSpec := fun as res => ∃ js : List Jb, as = [.dat (dayD CD js)] ∧ js.length ≤ 1000 ∧ res = .ret (.dat (.bl (onceB js))) []
theorem sp_once {CD : Addr} {js : List Jb} (h : js.length ≤ 1000) : Sp_once CD [.dat (dayD CD js)] (.ret (.dat (.bl (onceB js))) []) := ⟨js, rfl, h, rfl⟩
def Sp_needonce (CD CN : Addr) : PSpec := fun as res => ∃ js : List Jb, as = [.dat (dayD CD js)] ∧ js.length ≤ 1000 ∧ ((onceB js = true ∧ res = .ret (.dat .non) []) ∨ (onceB js = false ∧ res = .exc CN [] [] []))
theorem sp_needonce_ok {CD CN : Addr} {js : List Jb} (h : js.length ≤ 1000) (h2 : onceB js = true) : Sp_needonce CD CN [.dat (dayD CD js)] (.ret (.dat .non) []) := ⟨js, rfl, h, .inl ⟨h2, rfl⟩⟩
def evenB (js : List Jb) : Bool := js.all fun j => decide (j.w = (js.map (·.w)).getD 0 0)
def Sp_needeven (CD CU : Addr) : PSpec := fun as res => ∃ js : List Jb, as = [.dat (dayD CD js)] ∧ js.length ≤ 1000 ∧ ((evenB js = true ∧ res = .ret (.dat .non) []) ∨ (evenB js = false ∧ res = .exc CU [] [] []))
theorem sp_needeven_ok {CD CU : Addr} {js : List Jb} (h : js.length ≤ 1000) (h2 : evenB js = true) : Sp_needeven CD CU [.dat (dayD CD js)] (.ret (.dat .non) []) := ⟨js, rfl, h, .inl ⟨h2, rfl⟩⟩
theorem endX2 {as os δ : List DL.Slot} {C : Addr} (e : muIdx as 0 = [] := by rfl) : Ends0 as (.exc C [] [] os) (.ex C [] [] δ) := ⟨⟨rfl, rfl, rfl⟩, fun i hi => by rw [e] at hi; cases hi⟩
theorem nob_1 {G : Ent} {as : List DL.Slot} {v : Nat} (h : ∀ i ∈ G.bor.map (·.1), i ∈ muIdx as 0) (e : muIdx as 0 = [v]) : ∀ i, i ≠ v → i ∉ G.bor.map (·.1) := fun i ne hi => by
  have := h i hi
  rw [e, List.mem_singleton] at this
  exact ne this
section
variable {M : Md} (T : Bn M) {f CD CN CU : Addr} {fd : FuncData}
include T
theorem ok_checked_jobs (gl_MOST_JOBS : GlobD M "MOST_JOBS" (.int 8)) (c_checked_job : Fn M CX0 "checked_job" 5 Sp_job) (F : Fun M.K "checked_jobs" "checked_jobs" s_checked_jobs f fd) : FnOk M.P M.w M.K M.mg M.base CX0 6 f fd ["jobs"] (spOf M.K Sp_jobs) := by
  refine fn_ok F sc_checked_jobs ?_ ?_ ?_
  · rintro as res ⟨_, rfl, _⟩; rfl
  · rintro as C ns ds os ⟨_, _, _, h⟩; cases h
  · rintro X W G as res g ⟨js, rfl, ⟨hj, hnd, hl⟩, rfl⟩ hbi
    have hbn := nob hbi rfl
    refine sv_cons (s_if (et_gt (ev_lenL g T.len (ev_var g 0)) (ev_gd g gl_MOST_JOBS)) (fun hc => ?_) (fun hc => sv_nil ?_))
    · exfalso
      have := of_decide_eq_true hc
      rw [List.length_map] at this
      omega
    refine sv_cons (s_asgM g 1 (ev_lst ea_nil) (hbn 1) ?_)
    refine sv_cons (s_for g (ei_enum g T.enumerate (ev_var g 0)) (fun i δ => ∃ s2 s3, δ = [.dat (.lst (js.map Jb.d)), .own ((js.take i).map Jb.d), s2, s3, .un]) ⟨_, _, rfl⟩ ?_ ?_)
    · rintro i d δi hd ⟨s2, s3, rfl⟩
      obtain ⟨e, he, rfl⟩ := enumD_get hd
      obtain ⟨j, hji, rfl⟩ := map_get he
      refine ⟨_, _, ag_tup g ((ags_cons (ag_name g 2 (hbn 2)) (ags_cons (ag_name g 3 (hbn 3)) ags_nil))), ?_⟩
      have hjm := List.mem_of_getElem? hji
      have hil := (List.getElem?_eq_some_iff.mp hji).1
      have hnew : j.nm ∉ (js.take i).map (·.nm) := fun hm => by
        obtain ⟨j2, hj2, e2⟩ := List.mem_map.mp hm
        obtain ⟨q, hq⟩ := List.mem_iff_getElem?.mp hj2
        rw [List.getElem?_take] at hq
        split at hq
        · rename_i hqi
          have z := List.pairwise_iff_getElem.mp hnd q i (by rw [List.length_map]; omega) (by rw [List.length_map]; exact hil) hqi
          have a1 : js[q] = j2 := by rw [List.getElem?_eq_getElem (by omega)] at hq; exact Option.some.inj hq
          have a2 : js[i] = j := by rw [List.getElem?_eq_getElem hil] at hji; exact Option.some.inj hji
          rw [List.getElem_map, List.getElem_map, a1, a2] at z
          exact z e2
        · cases hq
      refine sv_one (s_app g 1 (ev_hide (δ1 := [.dat (.lst (js.map Jb.d)), .own ((js.take i).map Jb.d), .dat (.int ((0 + i : Nat) : Int)), .dat (Jb.d j), .un]) 1 (hbn 1) rfl (fun p => pe_slot g 1 rfl rfl (by decide) (by decide)) (by show 1 < 5; decide) (fun G' l hG hei =>
        ev_call3 g c_checked_job (ev_var g 2) (ev_var g 3) (EV.ls (ev_lcM1 g 4 (((js.take i).map (·.nm)).map D.str) (by rw [hG]; exact hbn 4) (hei _ _ _ rfl) (by simp) (by rw [List.length_map, List.length_take]; omega) ?_)) (sp_checked_job (hj j hjm) hnew (by rw [List.length_map, List.length_take]; omega)))) ?_ ⟨.dat (.int ((0 + i : Nat) : Int)), .dat (Jb.d j), ?_⟩ ⟨_, rfl⟩)
      · intro q d hd
        obtain ⟨j2, hj2, rfl⟩ := map_get hd
        exact ⟨.str j2.nm, by rw [List.getElem?_map, List.getElem?_map, hj2]; rfl, fun Y G2 gy hG2 => ev_ixT (ev_var gy 4) ev_int rfl⟩
      · rw [List.length_map, List.length_take]; omega
      · rw [take_succ_of hji, List.map_append]; rfl
    · rintro δ' ⟨s2, s3, rfl⟩
      refine sv_one (s_retM g 1 (hbn 1) (endD ?_))
      rw [enumD_len, List.length_map, List.take_length]
theorem ok_Day___init__ (dc : DayC M CD) (c_checked_jobs : Fn M CX0 "checked_jobs" 6 Sp_jobs) (F : Fun M.K "__init__" "Day.__init__" s_Day___init__ f fd) : FnOk M.P M.w M.K M.mg M.base CX0 7 f fd ["self", "jobs"] (spOf M.K (Sp_init CD)) := by
  refine fn_ok F sc_Day___init__ ?_ ?_ ?_
  · rintro as res ⟨_, rfl, _⟩; rfl
  · rintro as C ns ds os ⟨_, _, _, h⟩; cases h
  · rintro X W G as res g ⟨js, rfl, hj, rfl⟩ hbi
    have hbn := nob_1 hbi rfl
    have hl := hj.2.2
    refine sv_cons (s_asgM g 2 (ev_call1 g c_checked_jobs (ev_var g 1) (sp_checked_jobs hj)) (hbn 2 (by decide)) ?_)
    refine sv_freeze 2 (hbn 2 (by decide)) ?_
    refine sv_cons (s_fld g 0 dc.cls dc.n1 (ev_tuple g T.tuple (EV.ls (ev_lcM1 g 3 (js.map fun j => .str j.nm) (hbn 3 (by decide)) (ei_list (ev_var g 2)) (by simp) (by rw [List.length_map]; omega) ?_))) ?_)
    · intro q d hd
      obtain ⟨j2, hj2, rfl⟩ := map_get hd
      exact ⟨.str j2.nm, by rw [List.getElem?_map, hj2]; rfl, fun Y G2 gy hG2 => ev_ixT (ev_var gy 3) ev_int rfl⟩
    refine sv_cons (s_fld g 0 dc.cls dc.n2 (ev_tuple g T.tuple (EV.ls (ev_lcM1 g 3 (js.map fun j => .int j.w) (hbn 3 (by decide)) (ei_list (ev_var g 2)) (by simp) (by rw [List.length_map]; omega) ?_))) ?_)
    · intro q d hd
      obtain ⟨j2, hj2, rfl⟩ := map_get hd
      exact ⟨.int j2.w, by rw [List.getElem?_map, hj2]; rfl, fun Y G2 gy hG2 => ev_ixT (ev_var gy 3) ev_int rfl⟩
    refine sv_cons (s_fld g 0 dc.cls dc.n3 (ev_tuple g T.tuple (EV.ls (ev_lcM1 g 3 (js.map fun j => fr j.l) (hbn 3 (by decide)) (ei_list (ev_var g 2)) (by simp) (by rw [List.length_map]; omega) ?_))) ?_)
    · intro q d hd
      obtain ⟨j2, hj2, rfl⟩ := map_get hd
      exact ⟨fr j2.l, by rw [List.getElem?_map, hj2]; rfl, fun Y G2 gy hG2 => ev_ixT (ev_var gy 3) ev_int rfl⟩
    refine sv_cons (s_fld g 0 dc.cls dc.n4 (ev_tuple g T.tuple (EV.ls (ev_lcM1 g 3 (js.map fun j => fr j.c) (hbn 3 (by decide)) (ei_list (ev_var g 2)) (by simp) (by rw [List.length_map]; omega) ?_))) ?_)
    · intro q d hd
      obtain ⟨j2, hj2, rfl⟩ := map_get hd
      exact ⟨fr j2.c, by rw [List.getElem?_map, hj2]; rfl, fun Y G2 gy hG2 => ev_ixT (ev_var gy 3) ev_int rfl⟩
    refine sv_one (s_fld g 0 dc.cls dc.n5 (ev_tuple g T.tuple (EV.ls (ev_lcM1 g 3 (js.map fun j => .int j.t) (hbn 3 (by decide)) (ei_list (ev_var g 2)) (by simp) (by rw [List.length_map]; omega) ?_))) ⟨rfl, fun i hi => ?_⟩)
    · intro q d hd
      obtain ⟨j2, hj2, rfl⟩ := map_get hd
      exact ⟨.int j2.t, by rw [List.getElem?_map, hj2]; rfl, fun Y G2 gy hG2 => ev_ixT (ev_var gy 3) ev_int rfl⟩
    · have hi' : i ∈ ([0] : List Nat) := hi
      rw [List.mem_singleton] at hi'
      subst hi'
      rfl
theorem ok_Day___len__ (dc : DayC M CD) (F : Fun M.K "__len__" "Day.__len__" s_Day___len__ f fd) : FnOk M.P M.w M.K M.mg M.base CX0 1 f fd ["self"] (spOf M.K (Sp_daylen CD)) := by
  refine fn_ok F sc_Day___len__ ?_ ?_ ?_
  · rintro as res ⟨_, rfl, _⟩; rfl
  · rintro as C ns ds os ⟨_, _, h⟩; cases h
  · rintro X W G as res g ⟨js, rfl, rfl⟩ hbi
    refine sv_one (s_ret (ev_lenT g T.len (ev_fld g dc.cls dc.n1 (ns := dayN) (ds := dayV js) (ev_var g 0))) (endD ?_))
    rw [List.length_map]
theorem ok_Day_at_once (dc : DayC M CD) (gl_ZERO : GlobD M "ZERO" (fr 0)) (F : Fun M.K "at_once" "Day.at_once" s_Day_at_once f fd) : FnOk M.P M.w M.K M.mg M.base CX0 1 f fd ["self"] (spOf M.K (Sp_once CD)) := by
  refine fn_ok F sc_Day_at_once ?_ ?_ ?_
  · rintro as res ⟨_, rfl, _⟩; rfl
  · rintro as C ns ds os ⟨_, _, _, h⟩; cases h
  · rintro X W G as res g ⟨js, rfl, hl, rfl⟩ hbi
    have hbn := nob hbi rfl
    refine sv_one (s_ret (ev_all g T.all (EV.ls (ev_lcM1 g 1 ((js.map fun j => decide (j.c = 0)).map D.bl) (hbn 1) (ei_tup (ev_fld g dc.cls dc.n4 (ns := dayN) (ds := dayV js) (ev_var g 0))) (by simp) (by rw [List.length_map]; omega) ?_))) (endD ?_))
    · intro q d hd
      obtain ⟨j2, hj2, rfl⟩ := map_get hd
      exact ⟨.bl (decide (j2.c = 0)), by rw [List.getElem?_map, List.getElem?_map, hj2]; rfl, fun Y G2 gy hG2 => ev_eqF gy (ev_var gy 1) (ev_gd gy gl_ZERO)⟩
    · unfold onceB; rw [List.all_map]; rfl
end

end LW

namespace LW
open PySem L2 DL VC
def Sp_scaled : PSpec := fun as res => ∃ (n : Int) (x : Rat), as = [.dat (.int n), .dat (fr x)] ∧ n.natAbs < 2 ^ 4000 ∧ Sz x ∧ res = .ret (.dat (fr ((n : Rat) * x))) []
theorem sp_scaled {n : Int} {x : Rat} (hn : n.natAbs < 2 ^ 4000) (h : Sz x) : Sp_scaled [.dat (.int n), .dat (fr x)] (.ret (.dat (fr ((n : Rat) * x))) []) := ⟨n, x, rfl, hn, h, rfl⟩
theorem fr_scale (n : Int) (x : Rat) : mkRat (n * x.num) ((x.den : Int)).toNat = (n : Rat) * x := by
  rw [Rat.mul_def', Int.toNat_natCast]
  have h1 : ((n : Rat)).num = n := rfl
  have h2 : ((n : Rat)).den = 1 := rfl
  rw [h1, h2, Nat.one_mul]
theorem sp_greater' {x y : Rat} (hx : Sz x) (hy : Sz y) : Sp_max [.dat (fr x), .dat (fr y)] (.ret (.dat (fr (rmax x y))) []) := ⟨x, y, rfl, hx, hy, rfl⟩
def Sp_ratio : PSpec := fun as res => ∃ a b : Int, as = [.dat (.int a), .dat (.int b)] ∧ 0 < b ∧ b.natAbs < 2 ^ 8900 ∧ res = .ret (.dat (fr (mkRat a b.toNat))) []
theorem sp_ratio {a b : Int} (h : 0 < b) (hs : b.natAbs < 2 ^ 8900) : Sp_ratio [.dat (.int a), .dat (.int b)] (.ret (.dat (fr (mkRat a b.toNat))) []) := ⟨a, b, rfl, h, hs, rfl⟩
section
variable {M : Md} (T : Bn M) {f CD CN CU : Addr} {fd : FuncData}
include T
theorem ok_scaled (c_lowest : Fn M CX0 "lowest" 1 Sp_lowest) (F : Fun M.K "scaled" "scaled" s_scaled f fd) : FnOk M.P M.w M.K M.mg M.base CX0 2 f fd ["number", "value"] (spOf M.K Sp_scaled) := by
  refine fn_ok F sc_scaled ?_ ?_ ?_
  · rintro as res ⟨_, _, rfl, _⟩; rfl
  · rintro as C ns ds os ⟨_, _, _, _, _, h⟩; cases h
  · rintro X W G as res g ⟨n, x, rfl, hn, hx, rfl⟩ hbi
    refine sv_one (s_ret (ev_call2 g c_lowest (ev_mul (ev_var g 0) (ev_ixT (ev_var g 1) ev_int rfl) (mok hn hx.n)) (ev_ixT (ev_var g 1) ev_int rfl) (sp_lowest (den_pos _) (sz_bot hx))) (endD ?_))
    rw [fr_scale]
theorem ok_greater (c_less : Fn M CX0 "less" 1 Sp_lt) (c_lowest : Fn M CX0 "lowest" 1 Sp_lowest) (F : Fun M.K "greater" "greater" s_greater f fd) : FnOk M.P M.w M.K M.mg M.base CX0 2 f fd ["one", "two"] (spOf M.K Sp_max) := by
  refine fn_ok F sc_greater ?_ ?_ ?_
  · rintro as res ⟨_, _, rfl, _⟩; rfl
  · rintro as C ns ds os ⟨_, _, _, _, _, h⟩; cases h
  · rintro X W G as res g ⟨x, y, rfl, hx, hy, rfl⟩ hbi
    have hbn := nob hbi rfl
    refine sv_cons (s_asg g 2 ((ev_ite (et_val (ev_call2 g c_less (ev_var g 0) (ev_var g 1) (sp_less hx hy))) (fun _ => (ev_var g 1)) (fun _ => (ev_var g 0))).eq (rmax_frd x y)) (hbn 2) ?_)
    have hz := sz_rmax hx hy
    refine sv_one (s_ret (ev_call2 g c_lowest (ev_ixT (ev_var g 2) ev_int rfl) (ev_ixT (ev_var g 2) ev_int rfl) (sp_lowest (den_pos _) (sz_bot hz))) (endD ?_))
    rw [fr_self]
theorem ok_ratio (c_lowest : Fn M CX0 "lowest" 1 Sp_lowest) (F : Fun M.K "ratio" "ratio" s_ratio f fd) : FnOk M.P M.w M.K M.mg M.base CX0 2 f fd ["top", "bottom"] (spOf M.K Sp_ratio) := by
  refine fn_ok F sc_ratio ?_ ?_ ?_
  · rintro as res ⟨_, _, rfl, _⟩; rfl
  · rintro as C ns ds os ⟨_, _, _, _, _, h⟩; cases h
  · rintro X W G as res g ⟨a, b, rfl, h0, hs, rfl⟩ hbi
    refine sv_cons (s_if (et_eqI (ev_var g 1) ev_int) (fun hc => ?_) (fun hc => sv_nil ?_))
    · exfalso
      have := of_decide_eq_true hc
      omega
    refine sv_cons (s_if (et_lt (ev_var g 1) ev_int) (fun hc => ?_) (fun hc => sv_nil ?_))
    · exfalso
      have := of_decide_eq_true hc
      omega
    exact sv_one (s_ret (ev_call2 g c_lowest (ev_var g 0) (ev_var g 1) (sp_lowest h0 hs)) (endD rfl))
theorem ok_need_at_once (eN : ErrC M "NotAtOnce" CN) (p_at_once : PropC M CX0 CD "at_once" 1 (Sp_once CD)) (F : Fun M.K "need_at_once" "need_at_once" s_need_at_once f fd) : FnOk M.P M.w M.K M.mg M.base (L2.CX M.P M.w) 3 f fd ["day"] (spOf M.K (Sp_needonce CD CN)) := by
  refine fn_okX F sc_need_at_once ?_ ?_
  · rintro as res ⟨_, rfl, _⟩; rfl
  · rintro X W G as res g tk ⟨js, rfl, hl, hres⟩ hbi
    refine sv_one (s_if (et_not (et_val (ev_prop g p_at_once (by decide) (ns := dayN) (ds := dayV js) (ev_var g 0) (sp_once hl)))) (fun hc => ?_) (fun hc => sv_nil ?_))
    · rcases hres with ⟨h, _⟩ | ⟨_, rfl⟩
      · rw [h] at hc; cases hc
      · exact sv_one (s_raise0 g tk eN endX2)
    · rcases hres with ⟨_, rfl⟩ | ⟨h, _⟩
      · exact endN
      · rw [h] at hc; cases hc
theorem ok_need_even (dc : DayC M CD) (eU : ErrC M "UnequalWeights" CU) (F : Fun M.K "need_even" "need_even" s_need_even f fd) : FnOk M.P M.w M.K M.mg M.base (L2.CX M.P M.w) 1 f fd ["day"] (spOf M.K (Sp_needeven CD CU)) := by
  refine fn_okX F sc_need_even ?_ ?_
  · rintro as res ⟨_, rfl, _⟩; rfl
  · rintro X W G as res g tk ⟨js, rfl, hl, hres⟩ hbi
    have hbn := nob hbi rfl
    have ee : (js.map fun j => decide (j.w = (js.map (·.w)).getD 0 0)).all id = evenB js := by unfold evenB; rw [List.all_map]; rfl
    refine sv_one (s_if (et_not (et_val (ev_all g T.all (EV.ls (ev_lcM1 g 1 ((js.map fun j => decide (j.w = (js.map (·.w)).getD 0 0)).map D.bl) (hbn 1) (ei_tup (ev_fld g dc.cls dc.n2 (ns := dayN) (ds := dayV js) (ev_var g 0))) (by simp) (by rw [List.length_map]; omega) ?_))))) (fun hc => ?_) (fun hc => sv_nil ?_))
    · intro q d hd
      obtain ⟨j2, hj2, rfl⟩ := map_get hd
      have hpos : 0 < js.length := by have := (List.getElem?_eq_some_iff.mp hj2).1; omega
      refine ⟨.bl (decide (j2.w = (js.map (·.w)).getD 0 0)), by rw [List.getElem?_map, List.getElem?_map, hj2]; rfl, fun Y G2 gy hG2 => ev_eqI (ev_var gy 1) (ev_ixT (ev_fld gy dc.cls dc.n2 (ns := dayN) (ds := dayV js) (ev_var gy 0)) ev_int (atI_nat (j := 0) ?_))⟩
      rw [List.getElem?_map, List.getElem?_eq_getElem hpos, List.getD_eq_getElem?_getD, List.getElem?_map, List.getElem?_eq_getElem hpos]; rfl
    · rw [ee] at hc
      rcases hres with ⟨h, _⟩ | ⟨_, rfl⟩
      · rw [h] at hc; cases hc
      · exact sv_one (s_raise0 g tk eU endX2)
    · rw [ee] at hc
      rcases hres with ⟨_, rfl⟩ | ⟨h, _⟩
      · exact endN
      · rw [h] at hc; cases hc
end

end LW

namespace LW
open PySem L2 DL VC
/-! ### in order of size -/
def insF (xs : List Rat) (order : List Nat) (p : Nat) : List Nat := order.filter (fun q => decide (xs.getD q 0 ≤ xs.getD p 0)) ++ [p] ++ order.drop (order.filter (fun q => decide (xs.getD q 0 ≤ xs.getD p 0))).length
def ascP (xs : List Rat) (i : Nat) : List Nat := (List.range i).foldl (insF xs) []
def ascF (xs : List Rat) : List Nat := ascP xs xs.length
theorem ascP_succ (xs : List Rat) (i : Nat) : ascP xs (i + 1) = insF xs (ascP xs i) i := by unfold ascP; rw [List.range_succ, List.foldl_append]; rfl
theorem insF_len (xs : List Rat) (order : List Nat) (p : Nat) : (insF xs order p).length = order.length + 1 := by
  unfold insF
  have := List.length_filter_le (fun q => decide (xs.getD q 0 ≤ xs.getD p 0)) order
  rw [List.length_append, List.length_append, List.length_drop]
  show _ + 1 + _ = _
  omega
theorem ascP_len (xs : List Rat) : ∀ i, (ascP xs i).length = i
  | 0 => rfl
  | i + 1 => by rw [ascP_succ, insF_len, ascP_len xs i]
theorem ascP_lt (xs : List Rat) : ∀ i, ∀ q ∈ ascP xs i, q < i
  | 0, q, h => by cases h
  | i + 1, q, h => by
    rw [ascP_succ] at h
    unfold insF at h
    rcases List.mem_append.mp h with h | h
    · rcases List.mem_append.mp h with h | h
      · have := ascP_lt xs i q (List.mem_filter.mp h).1; omega
      · rw [List.mem_singleton.mp h]; omega
    · have := ascP_lt xs i q (List.mem_of_mem_drop h); omega
def Sp_asc : PSpec := fun as res => ∃ xs : List Rat, as = [.dat (.tup (xs.map fr))] ∧ (∀ x ∈ xs, Sz x) ∧ xs.length ≤ 1000 ∧ res = .ret (.dat (.tup ((ascF xs).map fun (p : Nat) => D.int p))) []
theorem sp_ascending {xs : List Rat} (h : ∀ x ∈ xs, Sz x) (hl : xs.length ≤ 1000) : Sp_asc [.dat (.tup (xs.map fr))] (.ret (.dat (.tup ((ascF xs).map fun (p : Nat) => D.int p))) []) := ⟨xs, rfl, h, hl, rfl⟩
theorem intd_inj (p q : Nat) (h : D.int (p : Int) = D.int (q : Int)) : p = q := by injection h with h; omega
section
variable {M : Md} (T : Bn M) {f : Addr} {fd : FuncData}
include T
theorem ok_ascending (c_at_most : Fn M CX0 "at_most" 1 Sp_le) (F : Fun M.K "ascending" "ascending" s_ascending f fd) : FnOk M.P M.w M.K M.mg M.base CX0 2 f fd ["values"] (spOf M.K Sp_asc) := by
  refine fn_ok F sc_ascending ?_ ?_ ?_
  · rintro as res ⟨_, rfl, _⟩; rfl
  · rintro as C ns ds os ⟨_, _, _, _, h⟩; cases h
  · rintro X W G as res g ⟨xs, rfl, hx, hl, rfl⟩ hbi
    have hbn := nob hbi rfl
    refine sv_cons (s_asgM g 1 (ev_lst ea_nil) (hbn 1) ?_)
    refine sv_cons (s_for g (ei_enumT g T.enumerate (ev_var g 0)) (fun i δ => ∃ s2 s3 s4 s5, δ = [.dat (.tup (xs.map fr)), .own ((ascP xs i).map fun (p : Nat) => D.int p), s2, s3, s4, s5]) ⟨_, _, _, _, rfl⟩ ?_ ?_)
    · rintro i d δi hd ⟨s2, s3, s4, s5, rfl⟩
      obtain ⟨e, he, rfl⟩ := enumD_get hd
      obtain ⟨x, hxi, rfl⟩ := map_get he
      rw [Nat.zero_add]
      have hil := (List.getElem?_eq_some_iff.mp hxi).1
      have exd : xs.getD i 0 = x := by rw [List.getD_eq_getElem?_getD, hxi]; rfl
      refine ⟨_, _, ag_tup g ((ags_cons (ag_name g 2 (hbn 2)) (ags_cons (ag_name g 3 (hbn 3)) ags_nil))), ?_⟩
      have hpl := ascP_len xs i
      have hpt := ascP_lt xs i
      rw [ascP_succ]
      unfold insF
      rw [exd]
      generalize ascP xs i = order at hpl hpt
      refine sv_cons (s_asgLcFx g 4 5 order (fun (p : Nat) => D.int p) (fun q => decide (xs.getD q 0 ≤ x)) (fun (p : Nat) => D.int p) intd_inj hbn ?_ (ei_list (ev_lst_of g 1 (hbn 1))) (by omega) ?_)
      · refine sv_freeze 4 (hbn 4) ?_
        refine sv_one (s_asgM g 1 (ev_cat (EV.ls (ev_cat (ev_var g 4) (EV.ls (ev_lst (ea_cons (ev_var g 2) ea_nil))) ?_)) ((EV.ls (ev_slL (ev_var g 1) (eo_some (ev_lenL g T.len (ev_var g 4))) eo_none)).eq (show D.lst (cutD (order.map fun (p : Nat) => D.int p) (some (((order.filter fun q => decide (xs.getD q 0 ≤ x)).map fun (p : Nat) => D.int p).length : Int)) none) = D.lst ((order.drop (order.filter fun q => decide (xs.getD q 0 ≤ x)).length).map fun (p : Nat) => D.int p) by rw [cutD_from, List.length_map, List.map_drop])) ?_) (hbn 1) ⟨.dat (.int i), .dat (fr x), .dat (.lst ((order.filter fun q => decide (xs.getD q 0 ≤ x)).map fun (p : Nat) => D.int p)), .un, ?_⟩)
        · rw [List.length_map]
          have := List.length_filter_le (fun q => decide (xs.getD q 0 ≤ x)) order
          show _ + 1 ≤ _
          omega
        · rw [List.length_append, List.length_map, List.length_map, List.length_drop]
          have := List.length_filter_le (fun q => decide (xs.getD q 0 ≤ x)) order
          show _ + 1 + _ ≤ _
          omega
        · rw [List.map_append, List.map_append]; rfl
      · intro q hq
        have hql : q < xs.length := by have := hpt q hq; omega
        have hqx : xs.getD q 0 = xs[q] := by rw [List.getD_eq_getElem?_getD, List.getElem?_eq_getElem hql]; rfl
        refine ⟨fun Y G2 gy hG => et_val (ev_call2 gy c_at_most (ev_ixT (ev_var gy 0) (ev_var gy 5) (atI_nat (v := fr (xs.getD q 0)) (by rw [List.getElem?_map, List.getElem?_eq_getElem hql, hqx]; rfl))) (ev_var gy 3) (sp_at_most (by rw [hqx]; exact hx _ (List.getElem_mem hql)) (hx x (List.mem_of_getElem? hxi)))), fun _ Y G2 gy hG => ev_var gy 5⟩
    · rintro δ' ⟨s2, s3, s4, s5, rfl⟩
      refine sv_one (s_ret (ev_tuple g T.tuple (ev_lst_of g 1 (hbn 1))) (endD ?_))
      rw [enumD_len, List.length_map]; rfl
end

end LW

namespace LW
open PySem L2 DL VC
/-! ### the program's sums -/
def Al (x : Rat) : Prop := Am 420 1000000000 x
theorem Al.sz {x : Rat} (h : Al x) : Sz x := Am.sz h (by decide) (Nat.lt_of_lt_of_le (show 420 < 2 ^ 10 by decide) (Nat.pow_le_pow_right (by decide) (by decide))) (Nat.lt_of_lt_of_le (show 1000000000 < 2 ^ 40 by decide) (Nat.pow_le_pow_right (by decide) (by decide)))
theorem am_rsum {n B : Nat} : ∀ {xs : List Rat}, (∀ x ∈ xs, Am n B x) → Am n (B * xs.length) (rsum xs)
  | [], _ => by rw [rsum_nil]; exact am_int (n := n) (B := B * 0) 0 (by simp)
  | x :: xs, h => by
    rw [rsum_cons]
    have := Am.add (h x (List.mem_cons_self ..)) (am_rsum (xs := xs) fun y hy => h y (List.mem_cons_of_mem _ hy))
    rw [List.length_cons, Nat.mul_add, Nat.mul_one, Nat.add_comm]
    exact this
theorem am_sums' {xs : List Rat} (h : ∀ x ∈ xs, Am (1 * 420) (1000000 * 1000000000) x) (hl : xs.length ≤ 1000) : Sums xs := by
  have p1 : (1 * 420 : Nat) < 2 ^ 1000 := Nat.lt_of_lt_of_le (show _ < 2 ^ 10 by decide) (Nat.pow_le_pow_right (by decide) (by decide))
  have p2 : (1000000 * 1000000000 * 1000 : Nat) < 2 ^ 1000 := Nat.lt_of_lt_of_le (show _ < 2 ^ 100 by decide +kernel) (Nat.pow_le_pow_right (by decide) (by decide))
  refine ⟨fun x hx => (h x hx).sz (by decide) p1 (Nat.lt_of_le_of_lt (by decide) p2), fun i => ?_⟩
  refine (am_rsum (fun x hx => h x (List.mem_of_mem_take hx))).sz (by decide) p1 (Nat.lt_of_le_of_lt (Nat.mul_le_mul_left _ ?_) p2)
  rw [List.length_take]; omega
def costL (w : Int) (t : Int) (xs : List Rat) (i : Nat) : Rat := ((w * (((xs.length : Int) - i + t - 1) / t) : Int) : Rat) * xs.getD ((ascF xs).getD i 0) 0
def bestF (w : Int) (t : Int) (xs : List Rat) : Rat := rsum ((List.range xs.length).map (costL w t xs))
/-- a day at once, all of one weight -/
structure Ev (js : List Jb) (w : Int) : Prop where
  ok : JobsOk js
  wj : ∀ j ∈ js, j.w = w
  c : ∀ j ∈ js, j.c = 0
  l : ∀ j ∈ js, Al j.l
  w0 : 1 ≤ w ∧ w ≤ 999
theorem Ev.once {js : List Jb} {w : Int} (h : Ev js w) : onceB js = true := by
  unfold onceB; rw [List.all_eq_true]; exact fun j hj => decide_eq_true (h.c j hj)
theorem Ev.even {js : List Jb} {w : Int} (h : Ev js w) : evenB js = true := by
  unfold evenB; rw [List.all_eq_true]
  intro j hj
  have hpos : 0 < js.length := List.length_pos_of_mem hj
  have : (js.map (·.w)).getD 0 0 = w := by
    rw [List.getD_eq_getElem?_getD, List.getElem?_map, List.getElem?_eq_getElem hpos]
    exact h.wj _ (List.getElem_mem hpos)
  rw [this]; exact decide_eq_true (h.wj j hj)
def lensF (js : List Jb) : List Rat := js.map (·.l)
def Sp_best (CD : Addr) : PSpec := fun as res => ∃ js w t, as = [.dat (dayD CD js), .dat (.int t)] ∧ Ev js w ∧ 1 ≤ t ∧ t ≤ 100 ∧ res = .ret (.dat (fr (bestF w t (lensF js)))) []
theorem sp_many_best {CD : Addr} {js : List Jb} {w t : Int} (h : Ev js w) (h1 : 1 ≤ t) (h2 : t ≤ 100) : Sp_best CD [.dat (dayD CD js), .dat (.int t)] (.ret (.dat (fr (bestF w t (lensF js)))) []) := ⟨js, w, t, rfl, h, h1, h2, rfl⟩
theorem asc_get {xs : List Rat} {i : Nat} (h : i < xs.length) : (ascF xs)[i]? = some ((ascF xs).getD i 0) ∧ (ascF xs).getD i 0 < xs.length := by
  have hl : i < (ascF xs).length := by unfold ascF; rw [ascP_len]; exact h
  rw [List.getD_eq_getElem?_getD, List.getElem?_eq_getElem hl]
  exact ⟨rfl, ascP_lt xs xs.length _ (List.getElem_mem hl)⟩
theorem rank_ok {n i : Nat} {t : Int} (h1 : 1 ≤ t) (h2 : t ≤ 100) (hn : n ≤ 8) (hi : i < n) : 0 ≤ ((n : Int) - i + t - 1) / t ∧ ((n : Int) - i + t - 1) / t ≤ 200 := by
  refine ⟨Int.ediv_nonneg (by omega) (by omega), ?_⟩
  have := Int.ediv_le_self t (show 0 ≤ (n : Int) - i + t - 1 by omega)
  have h3 : ((n : Int) - i + t - 1) / t ≤ (n : Int) - i + t - 1 := Int.ediv_le_self _ (by omega)
  omega
theorem cost_am {xs : List Rat} {w t : Int} {i : Nat} (hx : ∀ x ∈ xs, Al x) (hw : 1 ≤ w ∧ w ≤ 999) (h1 : 1 ≤ t) (h2 : t ≤ 100) (hn : xs.length ≤ 8) (hi : i < xs.length) : Am (1 * 420) (1000000 * 1000000000) (costL w t xs i) := by
  obtain ⟨r0, r1⟩ := rank_ok (i := i) h1 h2 hn hi
  have hp := (asc_get hi).2
  have e : xs.getD ((ascF xs).getD i 0) 0 = xs[(ascF xs).getD i 0] := by rw [List.getD_eq_getElem?_getD, List.getElem?_eq_getElem hp]; rfl
  unfold costL
  refine Am.mul (am_int (n := 1) _ ?_) (by rw [e]; exact hx _ (List.getElem_mem hp))
  rw [Int.natAbs_mul]
  have b1 : w.natAbs ≤ 999 := by omega
  have b2 : (((xs.length : Int) - i + t - 1) / t).natAbs ≤ 200 := by omega
  exact Nat.le_trans (Nat.mul_le_mul b1 b2) (by decide)
section
variable {M : Md} (T : Bn M) {f CD CN CU : Addr} {fd : FuncData}
include T
theorem ok_many_best (dc : DayC M CD) (l_day : LenC M CX0 CD 1 (Sp_daylen CD)) (c_need_at_once : Fn M (L2.CX M.P M.w) "need_at_once" 3 (Sp_needonce CD CN)) (c_need_even : Fn M (L2.CX M.P M.w) "need_even" 1 (Sp_needeven CD CU)) (c_ascending : Fn M CX0 "ascending" 2 Sp_asc) (c_scaled : Fn M CX0 "scaled" 2 Sp_scaled) (c_sum_of : Fn M CX0 "sum_of" 3 Sp_sum)
    (F : Fun M.K "many_best" "many_best" s_many_best f fd) : FnOk M.P M.w M.K M.mg M.base CX0 4 f fd ["day", "counters"] (spOf M.K (Sp_best CD)) := by
  refine fn_ok F sc_many_best ?_ ?_ ?_
  · rintro as res ⟨_, _, _, rfl, _⟩; rfl
  · rintro as C ns ds os ⟨_, _, _, _, _, _, _, h⟩; cases h
  · rintro X W G as res g ⟨js, w, t, rfl, E, h1, h2, rfl⟩ hbi
    have hbn := nob hbi rfl
    have hjl := E.ok.2.2
    have hxl : (lensF js).length = js.length := List.length_map ..
    have hxa : ∀ x ∈ lensF js, Al x := fun x hx => by
      obtain ⟨j, hj, rfl⟩ := List.mem_map.mp hx
      exact E.l j hj
    have hlf : (js.map fun j => fr j.l) = (lensF js).map fr := by unfold lensF; rw [List.map_map]; rfl
    refine sv_cons (s_expr (ev_call1 g c_need_at_once (ev_var g 0) (sp_needonce_ok (by omega) E.once)) ?_)
    refine sv_cons (s_expr (ev_call1 g c_need_even (ev_var g 0) (sp_needeven_ok (by omega) E.even)) ?_)
    refine sv_cons (s_asgM g 2 (ev_lst ea_nil) (hbn 2) ?_)
    refine sv_cons (s_asg g 3 (ev_lenI g T.len l_day (by decide) (ns := dayN) (ds := dayV js) (ev_var g 0) sp_daylen ⟨by omega, by omega⟩) (hbn 3) ?_)
    refine sv_cons (s_for g (ei_tup (ev_call1 g c_ascending ((ev_fld g dc.cls dc.n3 (ns := dayN) (ds := dayV js) (ev_var g 0)).eq (congrArg D.tup hlf)) (sp_ascending (fun x hx => (hxa x hx).sz) (by omega)))) (fun i δ => ∃ s4, δ = [.dat (dayD CD js), .dat (.int t), .own (((List.range i).map (costL w t (lensF js))).map fr), .dat (.int ((js.length : Int) - i)), s4]) ⟨.un, by show _ = _; simp; rfl⟩ ?_ ?_)
    · rintro i d δi hd ⟨s4, rfl⟩
      obtain ⟨p, hp, rfl⟩ := map_get hd
      have hi : i < (lensF js).length := by
        have := (List.getElem?_eq_some_iff.mp hp).1
        unfold ascF at this
        rw [ascP_len] at this
        exact this
      obtain ⟨g1, g2⟩ := asc_get hi
      rw [g1] at hp
      have ep := Option.some.inj hp
      have hpj : p < js.length := by rw [← ep, ← hxl]; exact g2
      refine ⟨_, _, ag_name g 4 (hbn 4), ?_⟩
      obtain ⟨r0, r1⟩ := rank_ok (i := i) h1 h2 hjl (by omega)
      have hw : (js.map fun j => D.int j.w)[p]? = some (.int w) := by rw [List.getElem?_map, List.getElem?_eq_getElem hpj]; show some (D.int _) = _; rw [E.wj _ (List.getElem_mem hpj)]
      have hL : (js.map fun j => fr j.l)[p]? = some (fr ((lensF js).getD p 0)) := by
        rw [hlf, List.getElem?_map, List.getElem?_eq_getElem (by omega), List.getD_eq_getElem?_getD, List.getElem?_eq_getElem (by omega)]; rfl
      have aL : Al ((lensF js).getD p 0) := by
        rw [List.getD_eq_getElem?_getD, List.getElem?_eq_getElem (show p < (lensF js).length by omega)]
        exact hxa _ (List.getElem_mem _)
      refine sv_cons (s_app g 2 (ev_call2 g c_scaled (ev_mul (ev_ixT (ev_fld g dc.cls dc.n2 (ns := dayN) (ds := dayV js) (ev_var g 0)) (ev_var g 4) (atI_nat hw)) (ev_fdiv (ev_sub (ev_add (ev_var g 3) (ev_var g 1)) ev_int) (ev_var g 1) (wd (by omega) (Nat.lt_of_lt_of_le (show t.natAbs < 2 ^ 10 by omega) (Nat.pow_le_pow_right (by decide) (by decide))))) (mokS (by have := E.w0; omega) (by omega))) (ev_ixT (ev_fld g dc.cls dc.n3 (ns := dayN) (ds := dayV js) (ev_var g 0)) (ev_var g 4) (atI_nat hL)) (sp_scaled ?_ aL.sz)) ?_ ?_ ⟨_, rfl⟩)
      · refine Nat.lt_of_lt_of_le (show _ < 2 ^ 40 from ?_) (Nat.pow_le_pow_right (by decide) (by decide))
        rw [Int.natAbs_mul]
        have := E.w0
        exact Nat.lt_of_le_of_lt (Nat.mul_le_mul (show w.natAbs ≤ 999 by omega) (show (((js.length : Int) - i + t - 1) / t).natAbs ≤ 200 by omega)) (by decide)
      · rw [List.length_map, List.length_map, List.length_range]; omega
      · refine sv_one (s_asg g 3 (ev_sub (ev_var g 3) ev_int) (hbn 3) ⟨.dat (.int p), ?_⟩)
        have ec : costL w t (lensF js) i = ((w * (((js.length : Int) - i + t - 1) / t) : Int) : Rat) * (lensF js).getD p 0 := by unfold costL; rw [ep, hxl]
        rw [List.range_succ, List.map_append, List.map_append, List.map_cons, List.map_nil, List.map_cons, List.map_nil, ec]
        have ei : (js.length : Int) - ((i + 1 : Nat) : Int) = (js.length : Int) - i - 1 := by omega
        rw [ei]; rfl
    · rintro δ' ⟨s4, rfl⟩
      have el : ((ascF (lensF js)).map fun (p : Nat) => D.int p).length = (lensF js).length := by unfold ascF; rw [List.length_map, ascP_len]
      rw [el]
      refine sv_one (s_ret (ev_call1 g c_sum_of (ev_lst_of g 2 (hbn 2)) (sp_sum_of (am_sums' (fun x hx => ?_) (by rw [List.length_map, List.length_range]; omega)) (by rw [List.length_map, List.length_range]; omega))) (endD rfl))
      obtain ⟨i, hi, rfl⟩ := List.mem_map.mp hx
      exact cost_am hxa E.w0 h1 h2 (by omega) (List.mem_range.mp hi)
end

end LW

namespace LW
open PySem L2 DL VC
def roundsF (n : Nat) (t : Int) : Int := ((List.range n).map fun (q : Nat) => ((1 + (q : Int)) + t - 1) / t).sum
theorem sum_bounds {lo hi : Int} : ∀ {xs : List Int}, (∀ x ∈ xs, lo ≤ x ∧ x ≤ hi) → lo * xs.length ≤ xs.sum ∧ xs.sum ≤ hi * xs.length
  | [], _ => by simp
  | x :: xs, h => by
    have h1 := h x (List.mem_cons_self ..)
    obtain ⟨a, b⟩ := sum_bounds (xs := xs) fun y hy => h y (List.mem_cons_of_mem _ hy)
    have e : ((x :: xs).length : Int) = xs.length + 1 := by rw [List.length_cons]; omega
    rw [List.sum_cons, e, Int.mul_add, Int.mul_add, Int.mul_one, Int.mul_one]
    omega
theorem rounds_bounds {n : Nat} {t : Int} (h1 : 1 ≤ t) (h2 : t ≤ 1000) (hn : n ≤ 1000) : (n : Int) ≤ roundsF n t ∧ roundsF n t ≤ 2000 * n := by
  have h : ∀ x ∈ (List.range n).map fun (q : Nat) => ((1 + (q : Int)) + t - 1) / t, 1 ≤ x ∧ x ≤ 2000 := fun x hx => by
    obtain ⟨q, hq, rfl⟩ := List.mem_map.mp hx
    have hq' := List.mem_range.mp hq
    refine ⟨?_, ?_⟩
    · exact (Int.le_ediv_iff_mul_le (by omega)).mpr (by omega)
    · have := Int.ediv_le_self t (show 0 ≤ (1 + (q : Int)) + t - 1 by omega)
      exact Int.le_trans this (by omega)
  obtain ⟨a, b⟩ := sum_bounds h
  rw [List.length_map, List.length_range] at a b
  unfold roundsF
  omega
def factorF (n : Nat) (t : Int) : Rat := if (n : Int) ≤ t then 1 else mkRat ((n : Int) * n) (t * roundsF n t).toNat
def Sp_rounds : PSpec := fun as res => ∃ (n : Nat) (t : Int), as = [.dat (.int n), .dat (.int t)] ∧ n ≤ 1000 ∧ 1 ≤ t ∧ t ≤ 1000 ∧ res = .ret (.dat (.int (roundsF n t))) []
theorem sp_rounds {n : Nat} {t : Int} (h : n ≤ 1000) (h1 : 1 ≤ t) (h2 : t ≤ 1000) : Sp_rounds [.dat (.int n), .dat (.int t)] (.ret (.dat (.int (roundsF n t))) []) := ⟨n, t, rfl, h, h1, h2, rfl⟩
def Sp_factor : PSpec := fun as res => ∃ (n : Nat) (t : Int), as = [.dat (.int n), .dat (.int t)] ∧ n ≤ 1000 ∧ 1 ≤ t ∧ t ≤ 1000 ∧ res = .ret (.dat (fr (factorF n t))) []
theorem sp_many_factor {n : Nat} {t : Int} (h : n ≤ 1000) (h1 : 1 ≤ t) (h2 : t ≤ 1000) : Sp_factor [.dat (.int n), .dat (.int t)] (.ret (.dat (fr (factorF n t))) []) := ⟨n, t, rfl, h, h1, h2, rfl⟩
theorem tr_ok {n : Nat} {t : Int} (h : n ≤ 1000) (h1 : 1 ≤ t) (h2 : t ≤ 1000) (hn : 1 ≤ n) : 0 < t * roundsF n t ∧ (t * roundsF n t).natAbs < 2 ^ 8900 ∧ (roundsF n t).natAbs < 2 ^ 64 := by
  obtain ⟨a, b⟩ := rounds_bounds h1 h2 h
  refine ⟨Int.mul_pos (by omega) (by omega), Nat.lt_of_lt_of_le (show _ < 2 ^ 64 from ?_) (Nat.pow_le_pow_right (by decide) (by decide)), by omega⟩
  rw [Int.natAbs_mul]
  exact Nat.lt_of_le_of_lt (Nat.mul_le_mul (show t.natAbs ≤ 1000 by omega) (show (roundsF n t).natAbs ≤ 2000 * 1000 by omega)) (by decide)
section
variable {M : Md} (T : Bn M) {f CD CN CU : Addr} {fd : FuncData}
include T
theorem ok_rounds (F : Fun M.K "rounds" "rounds" s_rounds f fd) : FnOk M.P M.w M.K M.mg M.base CX0 1 f fd ["count", "counters"] (spOf M.K Sp_rounds) := by
  refine fn_ok F sc_rounds ?_ ?_ ?_
  · rintro as res ⟨_, _, rfl, _⟩; rfl
  · rintro as C ns ds os ⟨_, _, _, _, _, _, h⟩; cases h
  · rintro X W G as res g ⟨n, t, rfl, hn, h1, h2, rfl⟩ hbi
    have hbn := nob hbi rfl
    have en : ((n : Int) + 1 - 1).toNat = n := by omega
    refine sv_one (s_ret (ev_sum g T.sum (EV.ls (ev_lcM1 g 2 (((List.range n).map fun (q : Nat) => ((1 + (q : Int)) + t - 1) / t).map D.int) (hbn 2) (ei_range2 g T.range (ea_cons ev_int (ea_cons (ev_add (ev_var g 0) ev_int) ea_nil)) (by omega)) (by rw [rangeD_len, List.length_map, List.length_map, List.length_range, en]) (by rw [rangeD_len, en]; omega) ?_))) (endD rfl))
    intro i d hd
    obtain ⟨hi, rfl⟩ := rangeD_get hd
    rw [en] at hi
    refine ⟨.int (((1 + (i : Int)) + t - 1) / t), by rw [List.getElem?_map, List.getElem?_map, List.getElem?_range hi]; rfl, fun Y G2 gy hG => ?_⟩
    exact ev_fdiv (ev_sub (ev_add (ev_var gy 2) (ev_var gy 1)) ev_int) (ev_var gy 1) (wd (by omega) (Nat.lt_of_lt_of_le (show t.natAbs < 2 ^ 10 by omega) (Nat.pow_le_pow_right (by decide) (by decide))))
theorem ok_many_factor (gl_ONE : GlobD M "ONE" (fr 1)) (c_rounds : Fn M CX0 "rounds" 1 Sp_rounds) (c_ratio : Fn M CX0 "ratio" 2 Sp_ratio) (F : Fun M.K "many_factor" "many_factor" s_many_factor f fd) : FnOk M.P M.w M.K M.mg M.base CX0 3 f fd ["count", "counters"] (spOf M.K Sp_factor) := by
  refine fn_ok F sc_many_factor ?_ ?_ ?_
  · rintro as res ⟨_, _, rfl, _⟩; rfl
  · rintro as C ns ds os ⟨_, _, _, _, _, _, h⟩; cases h
  · rintro X W G as res g ⟨n, t, rfl, hn, h1, h2, rfl⟩ hbi
    refine sv_cons (s_if (et_le (ev_var g 0) (ev_var g 1)) (fun hc => ?_) (fun hc => sv_nil ?_))
    · refine sv_one (s_ret (ev_gd g gl_ONE) (endD ?_))
      unfold factorF
      rw [if_pos (of_decide_eq_true hc)]
    · have hc' := of_decide_eq_false hc
      obtain ⟨p0, p1, p2⟩ := tr_ok hn h1 h2 (by omega)
      refine sv_one (s_ret (ev_call2 g c_ratio (ev_mul (ev_var g 0) (ev_var g 0) (mokS (by omega) (by omega))) (ev_mul (ev_var g 1) (ev_call2 g c_rounds (ev_var g 0) (ev_var g 1) (sp_rounds hn h1 h2)) (mokS (by omega) p2)) (sp_ratio p0 p1)) (endD ?_))
      unfold factorF
      rw [if_neg hc']
end

end LW

namespace LW
open PySem L2 DL VC
def Sp_bill (CD : Addr) : PSpec := fun as res => ∃ (js : List Jb) (w : Int) (es : List Rat), as = [.dat (dayD CD js), .dat (.tup (es.map fr))] ∧ Ev js w ∧ es.length = js.length ∧ (∀ x ∈ es, Sz x) ∧ Sums (es.map fun e => (w : Rat) * e) ∧ res = .ret (.dat (fr (rsum (es.map fun e => (w : Rat) * e)))) []
theorem sp_bill_of {CD : Addr} {js : List Jb} {w : Int} {es : List Rat} (h : Ev js w) (h1 : es.length = js.length) (h2 : ∀ x ∈ es, Sz x) (h3 : Sums (es.map fun e => (w : Rat) * e)) : Sp_bill CD [.dat (dayD CD js), .dat (.tup (es.map fr))] (.ret (.dat (fr (rsum (es.map fun e => (w : Rat) * e)))) []) := ⟨js, w, es, rfl, h, h1, h2, h3, rfl⟩
/-- pairs that need not be in lowest terms -/
def Sp_ltR : PSpec := fun as res => ∃ (x : Rat) (a b : Int), as = [.dat (fr x), .dat (.tup [.int a, .int b])] ∧ Sz x ∧ a.natAbs < 2 ^ 4000 ∧ 0 < b ∧ b.natAbs < 2 ^ 4000 ∧ res = .ret (.dat (.bl (decide (x.num * b < a * x.den)))) []
theorem sp_less_R {x : Rat} {a b : Int} (hx : Sz x) (ha : a.natAbs < 2 ^ 4000) (h0 : 0 < b) (hb : b.natAbs < 2 ^ 4000) : Sp_ltR [.dat (fr x), .dat (.tup [.int a, .int b])] (.ret (.dat (.bl (decide (x.num * b < a * x.den)))) []) := ⟨x, a, b, rfl, hx, ha, h0, hb, rfl⟩
def Sp_maxR : PSpec := fun as res => ∃ (x : Rat) (a b : Int), as = [.dat (fr x), .dat (.tup [.int a, .int b])] ∧ Sz x ∧ a.natAbs < 2 ^ 4000 ∧ 0 < b ∧ b.natAbs < 2 ^ 4000 ∧ res = .ret (.dat (fr (rmax x (mkRat a b.toNat)))) []
theorem sp_greater_R {x : Rat} {a b : Int} (hx : Sz x) (ha : a.natAbs < 2 ^ 4000) (h0 : 0 < b) (hb : b.natAbs < 2 ^ 4000) : Sp_maxR [.dat (fr x), .dat (.tup [.int a, .int b])] (.ret (.dat (fr (rmax x (mkRat a b.toNat)))) []) := ⟨x, a, b, rfl, hx, ha, h0, hb, rfl⟩
theorem lt_mk {x : Rat} {a b : Int} (h0 : 0 < b) : x.num * b < a * x.den ↔ x < mkRat a b.toNat := by
  have hb : ((b.toNat : Nat) : Int) = b := Int.toNat_of_nonneg (by omega)
  have hd : (0 : Int) < x.den := den_pos x
  have hm : mkRat a b.toNat * (b : Rat) = (a : Rat) := by
    have e3 : (b : Rat) = mkRat b 1 := (Rat.mkRat_self (b : Rat)).symm
    have e4 : (a : Rat) = mkRat a 1 := (Rat.mkRat_self (a : Rat)).symm
    rw [e3, e4, Rat.mkRat_mul_mkRat, Rat.mkRat_eq_iff (by omega) (by omega)]
    rw [Int.natCast_mul, hb]
    simp
  have hx : x * (x.den : Rat) = (x.num : Rat) := by
    have e3 : (x.den : Rat) = mkRat x.den 1 := (Rat.mkRat_self (x.den : Rat)).symm
    have e4 : (x.num : Rat) = mkRat x.num 1 := (Rat.mkRat_self (x.num : Rat)).symm
    have e5 : mkRat x.num x.den = x := Rat.mkRat_self x
    have hne : x.den ≠ 0 := x.den_nz
    calc x * (x.den : Rat) = mkRat x.num x.den * mkRat x.den 1 := by rw [e5, ← e3]
      _ = mkRat (x.num * x.den) (x.den * 1) := Rat.mkRat_mul_mkRat ..
      _ = mkRat x.num 1 := (Rat.mkRat_eq_iff (by omega) (by omega)).mpr (by simp)
      _ = (x.num : Rat) := e4.symm
  have pb : (0 : Rat) < (b : Rat) := by have := Rat.intCast_lt_intCast.mpr h0; exact this
  have pd : (0 : Rat) < (x.den : Rat) := by have := Rat.natCast_lt_natCast.mpr x.den_pos; exact this
  have key : ((x.num * b : Int) : Rat) < ((a * x.den : Int) : Rat) ↔ x < mkRat a b.toNat := by
    rw [Rat.intCast_mul, Rat.intCast_mul, Rat.intCast_natCast, ← hm, ← hx]
    have pp : (0 : Rat) < (x.den : Rat) * (b : Rat) := Rat.mul_pos pd pb
    constructor
    · intro h
      by_cases q : x < mkRat a b.toNat
      · exact q
      · have := Rat.mul_nonneg (show 0 ≤ x - mkRat a b.toNat by grind) (Rat.le_of_lt pp)
        grind
    · intro h
      have := Rat.mul_pos (show 0 < mkRat a b.toNat - x by grind) pp
      grind
  rw [← key, Rat.intCast_lt_intCast]
section
variable {M : Md} (T : Bn M) {f CD CN CU : Addr} {fd : FuncData}
include T
theorem ok_bill_of (dc : DayC M CD) (c_scaled : Fn M CX0 "scaled" 2 Sp_scaled) (c_sum_of : Fn M CX0 "sum_of" 3 Sp_sum) (F : Fun M.K "bill_of" "bill_of" s_bill_of f fd) : FnOk M.P M.w M.K M.mg M.base CX0 4 f fd ["day", "ends"] (spOf M.K (Sp_bill CD)) := by
  refine fn_ok F sc_bill_of ?_ ?_ ?_
  · rintro as res ⟨_, _, _, rfl, _⟩; rfl
  · rintro as C ns ds os ⟨_, _, _, _, _, _, _, _, h⟩; cases h
  · rintro X W G as res g ⟨js, w, es, rfl, E, hl, hs, hss, rfl⟩ hbi
    have hbn := nob hbi rfl
    have hjl := E.ok.2.2
    refine sv_one (s_ret (ev_call1 g c_sum_of (EV.ls (ev_lcM g [("weight", 2), ("end", 3)] [2, 3] ((es.map fun e => (w : Rat) * e).map fr) (fun _ _ => hbn _) (ei_zipT g T.zip (ea_cons (ev_fld g dc.cls dc.n2 (ns := dayN) (ds := dayV js) (ev_var g 0)) (ea_cons (ev_var g 1) ea_nil))) rfl (by rw [zipD_len]; simp; omega) (by rw [zipD_len]; simp; omega) ?_)) (sp_sum_of hss (by rw [List.length_map]; omega))) (endD rfl))
    intro i d hd
    obtain ⟨a, b, ha, hb, rfl⟩ := zipD_get hd
    obtain ⟨j, hj, rfl⟩ := map_get ha
    obtain ⟨e, he, rfl⟩ := map_get hb
    refine ⟨[.dat (dayD CD js), .dat (.tup (es.map fr)), .dat (.int j.w), .dat (fr e)], fr ((w : Rat) * e), by rw [List.getElem?_map, List.getElem?_map, he]; rfl, rfl, fun Y G2 gy hG => ⟨ag_tup gy (ags_cons (ag_name gy 2 (by rw [hG]; exact hbn 2)) (ags_cons (ag_name gy 3 (by rw [hG]; exact hbn 3)) ags_nil)), ?_⟩⟩
    have hw := E.wj j (List.mem_of_getElem? hj)
    rw [hw]
    exact ev_call2 gy c_scaled (ev_var gy 2) (ev_var gy 3) (sp_scaled (Nat.lt_of_lt_of_le (show w.natAbs < 2 ^ 20 by have := E.w0; omega) (Nat.pow_le_pow_right (by decide) (by decide))) (hs e (List.mem_of_getElem? he)))
theorem ok_less_R (F : Fun M.K "less" "less" s_less f fd) : FnOk M.P M.w M.K M.mg M.base CX0 1 f fd ["one", "two"] (spOf M.K Sp_ltR) := by
  refine fn_ok F sc_less ?_ ?_ ?_
  · rintro as res ⟨_, _, _, rfl, _⟩; rfl
  · rintro as C ns ds os ⟨_, _, _, _, _, _, _, _, h⟩; cases h
  · rintro X W G as res g ⟨x, a, b, rfl, hx, ha, h0, hb, rfl⟩ hbi
    exact sv_one (s_ret (ev_lt (ev_mul (ev_ixT (ev_var g 0) ev_int rfl) (ev_ixT (ev_var g 1) ev_int rfl) (mok hx.n hb)) (ev_mul (ev_ixT (ev_var g 1) ev_int rfl) (ev_ixT (ev_var g 0) ev_int rfl) (mok ha hx.d))) (endD rfl))
theorem ok_greater_R (c_less_R : Fn M CX0 "less" 1 Sp_ltR) (c_lowest : Fn M CX0 "lowest" 1 Sp_lowest) (F : Fun M.K "greater" "greater" s_greater f fd) : FnOk M.P M.w M.K M.mg M.base CX0 2 f fd ["one", "two"] (spOf M.K Sp_maxR) := by
  refine fn_ok F sc_greater ?_ ?_ ?_
  · rintro as res ⟨_, _, _, rfl, _⟩; rfl
  · rintro as C ns ds os ⟨_, _, _, _, _, _, _, _, h⟩; cases h
  · rintro X W G as res g ⟨x, a, b, rfl, hx, ha, h0, hb, rfl⟩ hbi
    have hbn := nob hbi rfl
    by_cases hlt : x.num * b < a * x.den
    · refine sv_cons (s_asg g 2 ((ev_ite (et_val (ev_call2 g c_less_R (ev_var g 0) (ev_var g 1) (sp_less_R hx ha h0 hb))) (fun _ => (ev_var g 1)) (fun _ => (ev_var g 0))).eq (show (if decide (x.num * b < a * x.den) then D.tup [.int a, .int b] else fr x) = D.tup [.int a, .int b] by rw [if_pos (decide_eq_true hlt)])) (hbn 2) ?_)
      refine sv_one (s_ret (ev_call2 g c_lowest (ev_ixT (ev_var g 2) ev_int rfl) (ev_ixT (ev_var g 2) ev_int rfl) (sp_lowest h0 (Nat.lt_of_lt_of_le hb (Nat.pow_le_pow_right (by decide) (by decide))))) (endD ?_))
      unfold rmax
      rw [if_pos ((lt_mk h0).mp hlt)]
    · refine sv_cons (s_asg g 2 ((ev_ite (et_val (ev_call2 g c_less_R (ev_var g 0) (ev_var g 1) (sp_less_R hx ha h0 hb))) (fun _ => (ev_var g 1)) (fun _ => (ev_var g 0))).eq (show (if decide (x.num * b < a * x.den) then D.tup [.int a, .int b] else fr x) = fr x by rw [if_neg (by simpa using hlt)])) (hbn 2) ?_)
      refine sv_one (s_ret (ev_call2 g c_lowest (ev_ixT (ev_var g 2) ev_int rfl) (ev_ixT (ev_var g 2) ev_int rfl) (sp_lowest (den_pos _) (sz_bot hx))) (endD ?_))
      unfold rmax
      rw [if_neg (fun h => hlt ((lt_mk h0).mpr h)), fr_self]
end

end LW

namespace LW
open PySem L2 DL VC
structure Es where
  ends : List Rat
  time : Rat
  low : Rat
def stepE (xs : List Rat) (t : Int) (s : Es) (i : Nat) : Es :=
  let p := (ascF xs).getD i 0
  let x := xs.getD p 0
  let time := s.time + (x - s.low) * rmax 1 (mkRat ((xs.length : Int) - i) t.toNat)
  ⟨s.ends.set p time, time, x⟩
def evenP (xs : List Rat) (t : Int) (i : Nat) : Es := (List.range i).foldl (stepE xs t) ⟨List.replicate xs.length 0, 0, 0⟩
def evenF (xs : List Rat) (t : Int) : List Rat := (evenP xs t xs.length).ends
theorem evenP_succ (xs : List Rat) (t : Int) (i : Nat) : evenP xs t (i + 1) = stepE xs t (evenP xs t i) i := by unfold evenP; rw [List.range_succ, List.foldl_append]; rfl
theorem rmax_am {n B : Nat} {x y : Rat} (h : Am n B x) (k : Am n B y) : Am n B (rmax x y) := by unfold rmax; split <;> assumption
theorem ratio_am {a : Int} {t : Int} (ht : 1 ≤ t) (ht8 : t ≤ 8) (ha : 0 ≤ a) (ha8 : a ≤ 8) : Am 840 8 (mkRat a t.toNat) := by
  have hb : 0 < t.toNat := by omega
  have e3 : (t.toNat : Rat) = mkRat t.toNat 1 := (Rat.mkRat_self (t.toNat : Rat)).symm
  have e4 : (a : Rat) = mkRat a 1 := (Rat.mkRat_self (a : Rat)).symm
  have hm : mkRat a t.toNat * (t.toNat : Rat) = (a : Rat) := by
    rw [e3, e4, Rat.mkRat_mul_mkRat, Rat.mkRat_eq_iff (by omega) (by omega)]
    simp
  have dv : ∀ b ≤ 8, 0 < b → b ∣ 840 := by decide
  obtain ⟨c, hc⟩ := dv t.toNat (by omega) hb
  have pb : (1 : Rat) ≤ (t.toNat : Rat) := by have := Rat.natCast_le_natCast.mpr (show 1 ≤ t.toNat by omega); exact this
  have h0 : (0 : Rat) ≤ (a : Rat) := Rat.intCast_nonneg.mpr ha
  have h8 : (a : Rat) ≤ 8 := by have := Rat.intCast_le_intCast.mpr ha8; exact this
  have x0 : 0 ≤ mkRat a t.toNat := by
    by_cases q : 0 ≤ mkRat a t.toNat
    · exact q
    · have := Rat.mul_pos (show 0 < - mkRat a t.toNat by grind) (show (0 : Rat) < (t.toNat : Rat) by grind)
      grind
  have x8 : mkRat a t.toNat ≤ 8 := by
    have := Rat.mul_nonneg x0 (show 0 ≤ (t.toNat : Rat) - 1 by grind)
    grind
  refine ⟨⟨a * c, ?_⟩, ?_, ?_⟩
  · rw [hc, Rat.natCast_mul, Rat.intCast_mul, ← hm, Rat.intCast_natCast, Rat.mul_assoc]
  · show -((8 : Nat) : Rat) ≤ _
    have : ((8 : Nat) : Rat) = 8 := rfl
    grind
  · show _ ≤ ((8 : Nat) : Rat)
    have : ((8 : Nat) : Rat) = 8 := rfl
    grind

end LW

namespace LW
open PySem L2 DL VC
structure EsOk (n i : Nat) (s : Es) : Prop where
  len : s.ends.length = n
  ends : ∀ x ∈ s.ends, Am (420 * 840) (100000000000 * i) x
  time : Am (420 * 840) (100000000000 * i) s.time
  low : Al s.low
theorem asc_val {xs : List Rat} (hx : ∀ x ∈ xs, Al x) {i : Nat} (hi : i < xs.length) : Al (xs.getD ((ascF xs).getD i 0) 0) := by
  have hp := (asc_get hi).2
  rw [List.getD_eq_getElem?_getD, List.getElem?_eq_getElem hp]
  exact hx _ (List.getElem_mem hp)
theorem step_am {xs : List Rat} {t : Int} {i : Nat} {s : Es} (hx : ∀ x ∈ xs, Al x) (h1 : 1 ≤ t) (h8 : t ≤ 8) (hn : xs.length ≤ 8) (hi : i < xs.length) (S : EsOk xs.length i s) :
    Am (420 * 840) 16000000000 ((xs.getD ((ascF xs).getD i 0) 0 - s.low) * rmax 1 (mkRat ((xs.length : Int) - i) t.toNat)) := by
  have hr : Am 840 8 (rmax 1 (mkRat ((xs.length : Int) - i) t.toNat)) := rmax_am (am_int (n := 840) (B := 8) 1 (by decide)) (ratio_am h1 h8 (by omega) (by omega))
  have := Am.mul (Am.sub (asc_val hx hi) S.low) hr
  exact this.up (Nat.dvd_refl _) (by decide)
theorem EsOk.step {xs : List Rat} {t : Int} {i : Nat} {s : Es} (hx : ∀ x ∈ xs, Al x) (h1 : 1 ≤ t) (h8 : t ≤ 8) (hn : xs.length ≤ 8) (hi : i < xs.length) (S : EsOk xs.length i s) : EsOk xs.length (i + 1) (stepE xs t s i) := by
  have ht : Am (420 * 840) (100000000000 * (i + 1)) (s.time + (xs.getD ((ascF xs).getD i 0) 0 - s.low) * rmax 1 (mkRat ((xs.length : Int) - i) t.toNat)) := (Am.add S.time (step_am hx h1 h8 hn hi S)).up (Nat.dvd_refl _) (by omega)
  refine ⟨?_, fun x hx2 => ?_, ht, asc_val hx hi⟩
  · show (s.ends.set _ _).length = _
    rw [List.length_set]; exact S.len
  · rcases List.mem_or_eq_of_mem_set hx2 with h | h
    · exact (S.ends x h).up (Nat.dvd_refl _) (by omega)
    · rw [h]; exact ht
theorem even_inv {xs : List Rat} {t : Int} (hx : ∀ x ∈ xs, Al x) (h1 : 1 ≤ t) (h8 : t ≤ 8) (hn : xs.length ≤ 8) : ∀ i, i ≤ xs.length → EsOk xs.length i (evenP xs t i)
  | 0, _ => ⟨List.length_replicate .., fun x h => by rw [(List.mem_replicate.mp h).2]; exact am_int (n := 420 * 840) (B := 100000000000 * 0) 0 (by decide), am_int (n := 420 * 840) (B := 100000000000 * 0) 0 (by decide), am_int (n := 420) (B := 1000000000) 0 (by decide)⟩
  | i + 1, h => by
    rw [evenP_succ]
    exact (even_inv hx h1 h8 hn i (by omega)).step hx h1 h8 hn (by omega)
theorem am2_sz {B : Nat} {x : Rat} (h : Am (420 * 840) B x) (hB : B ≤ 10000000000000000) : Sz x := Am.sz h (by decide) (Nat.lt_of_lt_of_le (show _ < 2 ^ 40 by decide) (Nat.pow_le_pow_right (by decide) (by decide))) (Nat.lt_of_le_of_lt hB (Nat.lt_of_lt_of_le (show _ < 2 ^ 100 by decide +kernel) (Nat.pow_le_pow_right (by decide) (by decide))))
def Sp_ends (CD : Addr) : PSpec := fun as res => ∃ (js : List Jb) (w t : Int), as = [.dat (dayD CD js), .dat (.int t)] ∧ Ev js w ∧ 1 ≤ t ∧ t ≤ 8 ∧ res = .ret (.dat (.tup ((evenF (lensF js) t).map fr))) []
theorem sp_even_ends {CD : Addr} {js : List Jb} {w t : Int} (h : Ev js w) (h1 : 1 ≤ t) (h2 : t ≤ 8) : Sp_ends CD [.dat (dayD CD js), .dat (.int t)] (.ret (.dat (.tup ((evenF (lensF js) t).map fr))) []) := ⟨js, w, t, rfl, h, h1, h2, rfl⟩
def billF (w t : Int) (xs : List Rat) : Rat := rsum ((evenF xs t).map fun e => (w : Rat) * e)
def Sp_ebill (CD : Addr) : PSpec := fun as res => ∃ (js : List Jb) (w t : Int), as = [.dat (dayD CD js), .dat (.int t)] ∧ Ev js w ∧ 1 ≤ t ∧ t ≤ 8 ∧ res = .ret (.dat (fr (billF w t (lensF js)))) []
theorem sp_even_bill {CD : Addr} {js : List Jb} {w t : Int} (h : Ev js w) (h1 : 1 ≤ t) (h2 : t ≤ 8) : Sp_ebill CD [.dat (dayD CD js), .dat (.int t)] (.ret (.dat (fr (billF w t (lensF js)))) []) := ⟨js, w, t, rfl, h, h1, h2, rfl⟩
section
variable {M : Md} (T : Bn M) {f CD CN CU : Addr} {fd : FuncData}
include T
theorem ok_even_ends (dc : DayC M CD) (l_day : LenC M CX0 CD 1 (Sp_daylen CD)) (gl_ZERO : GlobD M "ZERO" (fr 0)) (gl_ONE : GlobD M "ONE" (fr 1)) (c_need_at_once : Fn M (L2.CX M.P M.w) "need_at_once" 3 (Sp_needonce CD CN)) (c_need_even : Fn M (L2.CX M.P M.w) "need_even" 1 (Sp_needeven CD CU)) (c_ascending : Fn M CX0 "ascending" 2 Sp_asc) (c_minus : Fn M CX0 "minus" 2 Sp_minus) (c_plus : Fn M CX0 "plus" 2 Sp_plus) (c_times : Fn M CX0 "times" 2 Sp_times) (c_greater_R : Fn M CX0 "greater" 2 Sp_maxR)
    (F : Fun M.K "even_ends" "even_ends" s_even_ends f fd) : FnOk M.P M.w M.K M.mg M.base CX0 4 f fd ["day", "counters"] (spOf M.K (Sp_ends CD)) := by
  refine fn_ok F sc_even_ends ?_ ?_ ?_
  · rintro as res ⟨_, _, _, rfl, _⟩; rfl
  · rintro as C ns ds os ⟨_, _, _, _, _, _, _, h⟩; cases h
  · rintro X W G as res g ⟨js, w, t, rfl, E, h1, h2, rfl⟩ hbi
    have hbn := nob hbi rfl
    have hjl := E.ok.2.2
    have hxl : (lensF js).length = js.length := List.length_map ..
    have hxa : ∀ x ∈ lensF js, Al x := fun x hx => by
      obtain ⟨j, hj, rfl⟩ := List.mem_map.mp hx
      exact E.l j hj
    have hlf : (js.map fun j => fr j.l) = (lensF js).map fr := by unfold lensF; rw [List.map_map]; rfl
    refine sv_cons (s_expr (ev_call1 g c_need_at_once (ev_var g 0) (sp_needonce_ok (by omega) E.once)) ?_)
    refine sv_cons (s_expr (ev_call1 g c_need_even (ev_var g 0) (sp_needeven_ok (by omega) E.even)) ?_)
    refine sv_cons (s_asgLcM1 g 2 3 ((List.replicate (lensF js).length (0 : Rat)).map fr) hbn ?_ (ei_tup (ev_fld g dc.cls dc.n1 (ns := dayN) (ds := dayV js) (ev_var g 0))) (by rw [List.length_map, List.length_replicate, List.length_map, hxl]) (by rw [List.length_map]; omega) ?_)
    rotate_left
    · intro i d hd
      have hi := (List.getElem?_eq_some_iff.mp hd).1
      rw [List.length_map] at hi
      exact ⟨fr 0, by rw [List.getElem?_map, List.getElem?_replicate, if_pos (by omega)]; rfl, fun Y G2 gy hG => ev_gd gy gl_ZERO⟩
    refine sv_cons (s_asg g 4 (ev_gd g gl_ZERO) (hbn 4) ?_)
    refine sv_cons (s_asg g 5 (ev_gd g gl_ZERO) (hbn 5) ?_)
    refine sv_cons (s_asg g 6 (ev_lenI g T.len l_day (by decide) (ns := dayN) (ds := dayV js) (ev_var g 0) sp_daylen ⟨by omega, by omega⟩) (hbn 6) ?_)
    refine sv_cons (s_for g (ei_tup (ev_call1 g c_ascending ((ev_fld g dc.cls dc.n3 (ns := dayN) (ds := dayV js) (ev_var g 0)).eq (congrArg D.tup hlf)) (sp_ascending (fun x hx => (hxa x hx).sz) (by omega)))) (fun i δ => ∃ s7 s8, δ = [.dat (dayD CD js), .dat (.int t), .own ((evenP (lensF js) t i).ends.map fr), .un, .dat (fr (evenP (lensF js) t i).time), .dat (fr (evenP (lensF js) t i).low), .dat (.int ((js.length : Int) - i)), s7, s8]) ⟨.un, .un, by rw [show ((js.length : Int) - ((0 : Nat) : Int)) = js.length from by omega]; rfl⟩ ?_ ?_)
    · rintro i d δi hd ⟨s7, s8, rfl⟩
      obtain ⟨p, hp, rfl⟩ := map_get hd
      have hi : i < (lensF js).length := by
        have := (List.getElem?_eq_some_iff.mp hp).1
        unfold ascF at this
        rw [ascP_len] at this
        exact this
      obtain ⟨g1, g2⟩ := asc_get hi
      rw [g1] at hp
      have ep := Option.some.inj hp
      have hpj : p < js.length := by rw [← ep, ← hxl]; exact g2
      refine ⟨_, _, ag_name g 7 (hbn 7), ?_⟩
      have I := even_inv hxa h1 h2 (by omega) i (by omega)
      have es : evenP (lensF js) t (i + 1) = stepE (lensF js) t (evenP (lensF js) t i) i := evenP_succ ..
      have sa := step_am (t := t) hxa h1 h2 (by omega) hi I
      have av := asc_val hxa hi
      rw [es]
      generalize evenP (lensF js) t i = s at I sa
      unfold stepE
      rw [ep] at sa av ⊢
      have hL : (js.map fun j => fr j.l)[p]? = some (fr ((lensF js).getD p 0)) := by
        rw [hlf, List.getElem?_map, List.getElem?_eq_getElem (by omega), List.getD_eq_getElem?_getD, List.getElem?_eq_getElem (by omega)]; rfl
      have zd : Sz ((lensF js).getD p 0 - s.low) := am2_sz ((Am.sub av I.low).up ⟨840, rfl⟩ (Nat.le_refl _)) (by decide)
      have zm : Sz (rmax 1 (mkRat ((js.length : Int) - i) t.toNat)) := Am.sz (rmax_am (am_int (n := 840) (B := 8) 1 (by decide)) (ratio_am h1 h2 (by omega) (by omega))) (by decide) (Nat.lt_of_lt_of_le (show 840 < 2 ^ 10 by decide) (Nat.pow_le_pow_right (by decide) (by decide))) (Nat.lt_of_lt_of_le (show 8 < 2 ^ 10 by decide) (Nat.pow_le_pow_right (by decide) (by decide)))
      rw [hxl] at sa ⊢
      have big : ∀ {z : Int}, z.natAbs ≤ 1000 → z.natAbs < 2 ^ 4000 := fun {z} h => Nat.lt_of_lt_of_le (show z.natAbs < 2 ^ 10 by omega) (Nat.pow_le_pow_right (by decide) (by decide))
      refine sv_cons (s_asg g 8 (ev_call2 g c_minus (ev_ixT (ev_fld g dc.cls dc.n3 (ns := dayN) (ds := dayV js) (ev_var g 0)) (ev_var g 7) (atI_nat hL)) (ev_var g 5) (sp_minus av.sz I.low.sz)) (hbn 8) ?_)
      refine sv_cons (s_asg g 4 (ev_call2 g c_plus (ev_var g 4) (ev_call2 g c_times (ev_var g 8) (ev_call2 g c_greater_R (ev_gd g gl_ONE) (ev_tup (ea_cons (ev_var g 6) (ea_cons (ev_var g 1) ea_nil))) (sp_greater_R (am2_sz (am_int (n := 420 * 840) (B := 1) 1 (by decide)) (by decide)) (big (by omega)) (by omega) (big (by omega)))) (sp_times zd zm)) (sp_plus (am2_sz I.time (by omega)) (am2_sz sa (by decide)))) (hbn 4) ?_)
      have exw : ixN (s.ends.map fr).length (p : Int) = some p := by
        rw [List.length_map, I.len]; unfold ixN; rw [if_pos (by omega), if_pos (by omega)]; simp
      refine sv_cons (s_setI g 2 (ev_var g 4) (ev_var g 7) exw ?_ ⟨_, rfl⟩)
      refine sv_cons (s_asg g 5 (ev_ixT (ev_fld g dc.cls dc.n3 (ns := dayN) (ds := dayV js) (ev_var g 0)) (ev_var g 7) (atI_nat hL)) (hbn 5) ?_)
      refine sv_one (s_asg g 6 (ev_sub (ev_var g 6) ev_int) (hbn 6) ⟨.dat (.int p), .dat (fr ((lensF js).getD p 0 - s.low)), ?_⟩)
      have ei : (js.length : Int) - ((i + 1 : Nat) : Int) = (js.length : Int) - i - 1 := by omega
      rw [ei]
      simp only [List.map_set]
      rfl
    · rintro δ' ⟨s7, s8, rfl⟩
      have el : ((ascF (lensF js)).map fun (p : Nat) => D.int p).length = (lensF js).length := by unfold ascF; rw [List.length_map, ascP_len]
      rw [el]
      exact sv_one (s_ret (ev_tuple g T.tuple (ev_lst_of g 2 (hbn 2))) (endD rfl))
end

end LW

namespace LW
open PySem L2 DL VC
section
variable {M : Md} (T : Bn M) {f CD CN CU : Addr} {fd : FuncData}
include T
theorem ok_even_bill (c_even_ends : Fn M CX0 "even_ends" 4 (Sp_ends CD)) (c_bill_of : Fn M CX0 "bill_of" 4 (Sp_bill CD)) (F : Fun M.K "even_bill" "even_bill" s_even_bill f fd) : FnOk M.P M.w M.K M.mg M.base CX0 5 f fd ["day", "counters"] (spOf M.K (Sp_ebill CD)) := by
  refine fn_ok F sc_even_bill ?_ ?_ ?_
  · rintro as res ⟨_, _, _, rfl, _⟩; rfl
  · rintro as C ns ds os ⟨_, _, _, _, _, _, _, h⟩; cases h
  · rintro X W G as res g ⟨js, w, t, rfl, E, h1, h2, rfl⟩ hbi
    have hjl := E.ok.2.2
    have hxl : (lensF js).length = js.length := List.length_map ..
    have hxa : ∀ x ∈ lensF js, Al x := fun x hx => by
      obtain ⟨j, hj, rfl⟩ := List.mem_map.mp hx
      exact E.l j hj
    have I := even_inv (t := t) hxa h1 h2 (by omega) _ (Nat.le_refl _)
    have Ie : ∀ x ∈ evenF (lensF js) t, Am (420 * 840) (100000000000 * (lensF js).length) x := I.ends
    have Il : (evenF (lensF js) t).length = js.length := by rw [← hxl]; exact I.len
    have b1 : (1 * (420 * 840) : Nat) < 2 ^ 1000 := Nat.lt_of_lt_of_le (show _ < 2 ^ 40 by decide) (Nat.pow_le_pow_right (by decide) (by decide))
    have hm : ∀ x ∈ (evenF (lensF js) t).map fun e => (w : Rat) * e, Am (1 * (420 * 840)) (1000 * 1000000000000) x := fun x hx => by
      obtain ⟨e, he, rfl⟩ := List.mem_map.mp hx
      exact Am.mul (am_int (n := 1) (B := 1000) w (by have := E.w0; omega)) ((Ie e he).up (Nat.dvd_refl _) (by omega))
    have hs : Sums ((evenF (lensF js) t).map fun e => (w : Rat) * e) := by
      have p2 : (1000 * 1000000000000 * 1000 : Nat) < 2 ^ 1000 := Nat.lt_of_lt_of_le (show _ < 2 ^ 100 by decide +kernel) (Nat.pow_le_pow_right (by decide) (by decide))
      refine ⟨fun x hx => (hm x hx).sz (by decide) b1 (Nat.lt_of_le_of_lt (by decide) p2), fun i => ?_⟩
      refine (am_rsum (fun x hx => hm x (List.mem_of_mem_take hx))).sz (by decide) b1 (Nat.lt_of_le_of_lt (Nat.mul_le_mul_left _ ?_) p2)
      rw [List.length_take, List.length_map]; omega
    exact sv_one (s_ret (ev_call2 g c_bill_of (ev_var g 0) (ev_call2 g c_even_ends (ev_var g 0) (ev_var g 1) (sp_even_ends E h1 h2)) (sp_bill_of E Il (fun x hx => am2_sz (Ie x hx) (by omega)) hs)) (endD rfl))
end

end LW

namespace LW
open PySem L2 DL VC
/-! ### the law's own sums -/
def lroundsF (n : Nat) (t : Int) : Int := ((List.range n).map fun (q : Nat) => (q : Int) / t + 1).sum
def lbestG (ls : List Rat) : Nat := (List.range ls.length).foldl (fun g j => if ls.getD g 0 < ls.getD j 0 then j else g) 0
structure Lb where
  ls : List Rat
  tot : Rat
def lbestS (w t : Int) (s : Lb) (k : Nat) : Lb := ⟨s.ls.take (lbestG s.ls) ++ s.ls.drop (lbestG s.ls + 1), s.tot + ((w * ((k : Int) / t + 1) : Int) : Rat) * s.ls.getD (lbestG s.ls) 0⟩
def lbestF (w t : Int) (xs : List Rat) : Rat := ((List.range xs.length).foldl (lbestS w t) ⟨xs, 0⟩).tot
structure Lf where
  best : Rat
  tot : Int
def lfactS (t : Int) (s : Lf) (k : Nat) : Lf :=
  let tot := s.tot + (k : Int) / t + 1
  ⟨if (k : Int) + 1 ≥ t ∧ s.best < mkRat (((k : Int) + 1) * (k + 1)) (t * tot).toNat then mkRat (((k : Int) + 1) * (k + 1)) (t * tot).toNat else s.best, tot⟩
def lfactF (n : Nat) (t : Int) : Rat := ((List.range n).foldl (lfactS t) ⟨1, 0⟩).best
theorem fact_eq : ∀ n ≤ 100, ∀ t ≤ 8, 1 ≤ t → 1 ≤ n → lfactF n (t : Nat) = factorF n (t : Nat) := by decide +kernel
theorem fact_mono : ∀ n ≤ 99, ∀ t ≤ 8, 1 ≤ t → 1 ≤ n → factorF n (t : Nat) ≤ factorF (n + 1) (t : Nat) := by decide +kernel
theorem fact_one : ∀ n ≤ 100, ∀ t ≤ 8, 1 ≤ t → 1 ≤ factorF n (t : Nat) := by decide +kernel
/-- m jobs in a layer: what it costs together, and what it must cost -/
theorem layer_hi : ∀ n : Nat, n ≤ 8 → ∀ m : Nat, m ≤ n → ∀ t : Nat, t ≤ 8 → 1 ≤ t → (m : Rat) * rmax 1 (mkRat m t) ≤ factorF n t * (roundsF m t : Int) := by decide +kernel
theorem layer_lo : ∀ m : Nat, m ≤ 8 → ∀ t : Nat, t ≤ 8 → 1 ≤ t → ((roundsF m t : Int) : Rat) ≤ (m : Rat) * rmax 1 (mkRat m t) := by decide +kernel
theorem layer_eq : ∀ n : Nat, n ≤ 8 → ∀ t : Nat, t ≤ 8 → 1 ≤ t → (n : Rat) * rmax 1 (mkRat n t) = factorF n t * (roundsF n t : Int) := by decide +kernel

end LW

namespace LW
open PySem L2 DL VC
/-! ### the law's own days -/
def menuZ : List Str := ["a", "bob", "c2", "within", "e", "first777", "g", "zoe"]
def namesF (d : Int) (n : Nat) : List Str := (List.range n).map fun (q : Nat) => menuZ.getD ((d + (q : Int)) % 8).toNat ""
def Sp_names : PSpec := fun as res => ∃ (d : Int) (n : Nat), as = [.dat (.int d), .dat (.int n)] ∧ n ≤ 100 ∧ res = .ret (.own ((namesF d n).map .str)) []
theorem sp__law_names {d : Int} {n : Nat} (h : n ≤ 100) : Sp_names [.dat (.int d), .dat (.int n)] (.ret (.own ((namesF d n).map .str)) []) := ⟨d, n, rfl, h, rfl⟩
section
variable {M : Md} (T : Bn M) {f CD CN CU : Addr} {fd : FuncData}
include T
theorem ok__law_names (F : Fun M.K "_law_names" "_law_names" s__law_names f fd) : FnOk M.P M.w M.K M.mg M.base CX0 1 f fd ["digit", "count"] (spOf M.K Sp_names) := by
  refine fn_ok F sc__law_names ?_ ?_ ?_
  · rintro as res ⟨_, _, rfl, _⟩; rfl
  · rintro as C ns ds os ⟨_, _, _, _, h⟩; cases h
  · rintro X W G as res g ⟨d, n, rfl, hn, rfl⟩ hbi
    have hbn := nob hbi rfl
    refine sv_cons (s_asgM g 2 (ev_lst (ea_cons ev_str (ea_cons ev_str (ea_cons ev_str (ea_cons ev_str (ea_cons ev_str (ea_cons ev_str (ea_cons ev_str (ea_cons ev_str ea_nil))))))))) (hbn 2) ?_)
    refine sv_freeze 2 (hbn 2) ?_
    show SV X W G _ [.dat (.int d), .dat (.int n), .dat (.lst (menuZ.map .str)), .un] _
    refine sv_one (s_ret (ev_lcM1 g 3 ((namesF d n).map .str) (hbn 3) (ei_range1 g T.range (ev_var g 1) (by omega)) (by unfold namesF; rw [rangeD_len, List.length_map, List.length_map, List.length_range, Int.toNat_natCast]) (by rw [rangeD_len, Int.toNat_natCast]; omega) ?_) (endD rfl))
    intro i dd hd
    obtain ⟨hi, rfl⟩ := rangeD_get hd
    rw [Int.toNat_natCast] at hi
    have h0 := Int.emod_nonneg (d + i) (show (8 : Int) ≠ 0 by decide)
    have h1 := Int.emod_lt_of_pos (d + i) (show (0 : Int) < 8 by decide)
    have h3 : ((d + i) % 8).toNat < menuZ.length := by show _ < 8; omega
    have e : (d + i) % 8 = (((((d + i) % 8).toNat) : Nat) : Int) := by omega
    refine ⟨.str (menuZ.getD ((d + i) % 8).toNat ""), by unfold namesF; rw [List.getElem?_map, List.getElem?_map, List.getElem?_range hi]; rfl, fun Y G2 gy hG => ?_⟩
    refine ev_ixL (ev_var gy 2) ((ev_mod (ev_toInt gy T.int (ev_add (ev_var gy 0) (ev_var gy 3))) ev_int (by decide)).eq (show D.int ((d + (0 + (i : Int))) % 8) = D.int (((((d + i) % 8).toNat) : Nat) : Int) by rw [Int.zero_add, ← e])) (atI_nat ?_)
    rw [List.getElem?_map, List.getD_eq_getElem?_getD, List.getElem?_eq_getElem h3]; rfl
end

end LW

namespace LW
open PySem L2 DL VC
/-- a world: weights, lengths, comings, told numbers -/
def worldD (ws : List Int) (ls cs : List Rat) (ts : List Int) : D := .lst [.lst (ws.map .int), .lst (ls.map fr), .lst (cs.map fr), .lst (ts.map .int)]
def jobsF (ns : List Str) (ws : List Int) (ls cs : List Rat) (ts : List Int) : List Jb := (List.range ns.length).map fun q => ⟨ns.getD q "", ws.getD q 0, ls.getD q 0, cs.getD q 0, ts.getD q 0⟩
def Sp_ljobs : PSpec := fun as res => ∃ (ns : List Str) (ws : List Int) (ls cs : List Rat) (ts : List Int), as = [.dat (.lst (ns.map .str)), .dat (worldD ws ls cs ts)] ∧ ws.length = ns.length ∧ ls.length = ns.length ∧ cs.length = ns.length ∧ ts.length = ns.length ∧ ns.length ≤ 100 ∧ res = .ret (.own ((jobsF ns ws ls cs ts).map Jb.d)) []
theorem sp__law_jobs {ns : List Str} {ws : List Int} {ls cs : List Rat} {ts : List Int} (h1 : ws.length = ns.length) (h2 : ls.length = ns.length) (h3 : cs.length = ns.length) (h4 : ts.length = ns.length) (h5 : ns.length ≤ 100) : Sp_ljobs [.dat (.lst (ns.map .str)), .dat (worldD ws ls cs ts)] (.ret (.own ((jobsF ns ws ls cs ts).map Jb.d)) []) := ⟨ns, ws, ls, cs, ts, rfl, h1, h2, h3, h4, h5, rfl⟩
theorem at_getD {α : Type} {e : α → D} {xs : List α} {i : Nat} {z : α} (h : i < xs.length) : atI (xs.map e) (i : Int) = some (e (xs.getD i z)) := atI_nat (by rw [List.getElem?_map, List.getD_eq_getElem?_getD, List.getElem?_eq_getElem h]; rfl)
section
variable {M : Md} (T : Bn M) {f CD CN CU : Addr} {fd : FuncData}
include T
theorem ok__law_jobs (F : Fun M.K "_law_jobs" "_law_jobs" s__law_jobs f fd) : FnOk M.P M.w M.K M.mg M.base CX0 1 f fd ["names", "world"] (spOf M.K Sp_ljobs) := by
  refine fn_ok F sc__law_jobs ?_ ?_ ?_
  · rintro as res ⟨_, _, _, _, _, rfl, _⟩; rfl
  · rintro as C ns ds os ⟨_, _, _, _, _, _, _, _, _, _, _, h⟩; cases h
  · rintro X W G as res g ⟨ns, ws, ls, cs, ts, rfl, h1, h2, h3, h4, h5, rfl⟩ hbi
    have hbn := nob hbi rfl
    refine sv_one (s_ret (ev_lcM1 g 2 ((jobsF ns ws ls cs ts).map Jb.d) (hbn 2) (ei_range1 g T.range (ev_lenL g T.len (ev_var g 0)) (by rw [List.length_map]; omega)) (by unfold jobsF; rw [rangeD_len, List.length_map, List.length_map, List.length_range, List.length_map, Int.toNat_natCast]) (by rw [rangeD_len, List.length_map, Int.toNat_natCast]; omega) ?_) (endD rfl))
    intro i dd hd
    obtain ⟨hi, rfl⟩ := rangeD_get hd
    rw [List.length_map, Int.toNat_natCast] at hi
    rw [Int.zero_add]
    refine ⟨Jb.d ⟨ns.getD i "", ws.getD i 0, ls.getD i 0, cs.getD i 0, ts.getD i 0⟩, by unfold jobsF; rw [List.getElem?_map, List.getElem?_map, List.getElem?_range hi]; rfl, fun Y G2 gy hG => ?_⟩
    exact ev_tup (ea_cons (ev_ixL (ev_var gy 0) (ev_var gy 2) (at_getD hi)) (ea_cons (ev_ixL (ev_ixL (ev_var gy 1) ev_int rfl) (ev_var gy 2) (at_getD (by omega))) (ea_cons (ev_ixL (ev_ixL (ev_var gy 1) ev_int rfl) (ev_var gy 2) (at_getD (by omega))) (ea_cons (ev_ixL (ev_ixL (ev_var gy 1) ev_int rfl) (ev_var gy 2) (at_getD (by omega))) (ea_cons (ev_ixL (ev_ixL (ev_var gy 1) ev_int rfl) (ev_var gy 2) (at_getD (by omega))) ea_nil)))))
end

end LW

namespace LW
open PySem L2 DL VC
theorem sp__law_lt_R {x : Rat} {a b : Int} (hx : Sz x) (ha : a.natAbs < 2 ^ 4000) (h0 : 0 < b) (hb : b.natAbs < 2 ^ 4000) : Sp_ltR [.dat (fr x), .dat (.tup [.int a, .int b])] (.ret (.dat (.bl (decide (x.num * b < a * x.den)))) []) := ⟨x, a, b, rfl, hx, ha, h0, hb, rfl⟩
section
variable {M : Md} (T : Bn M) {f CD CN CU : Addr} {fd : FuncData}
include T
theorem ok__law_lt_R (F : Fun M.K "_law_lt" "_law_lt" s__law_lt f fd) : FnOk M.P M.w M.K M.mg M.base CX0 1 f fd ["a", "b"] (spOf M.K Sp_ltR) := by
  refine fn_ok F sc__law_lt ?_ ?_ ?_
  · rintro as res ⟨_, _, _, rfl, _⟩; rfl
  · rintro as C ns ds os ⟨_, _, _, _, _, _, _, _, h⟩; cases h
  · rintro X W G as res g ⟨x, a, b, rfl, hx, ha, h0, hb, rfl⟩ hbi
    exact sv_one (s_ret (ev_lt (ev_mul (ev_ixT (ev_var g 0) ev_int rfl) (ev_ixT (ev_var g 1) ev_int rfl) (mok hx.n hb)) (ev_mul (ev_ixT (ev_var g 1) ev_int rfl) (ev_ixT (ev_var g 0) ev_int rfl) (mok ha hx.d))) (endD rfl))
end

end LW

namespace LW
open PySem L2 DL VC
def Sp_lfactor : PSpec := fun as res => ∃ (n : Nat) (t : Int), as = [.dat (.int n), .dat (.int t)] ∧ n ≤ 1000 ∧ 1 ≤ t ∧ t ≤ 1000 ∧ res = .ret (.dat (fr (lfactF n t))) []
theorem sp__law_many_factor {n : Nat} {t : Int} (h : n ≤ 1000) (h1 : 1 ≤ t) (h2 : t ≤ 1000) : Sp_lfactor [.dat (.int n), .dat (.int t)] (.ret (.dat (fr (lfactF n t))) []) := ⟨n, t, rfl, h, h1, h2, rfl⟩
def lfP (t : Int) (i : Nat) : Lf := (List.range i).foldl (lfactS t) ⟨1, 0⟩
theorem lfP_succ (t : Int) (i : Nat) : lfP t (i + 1) = lfactS t (lfP t i) i := by unfold lfP; rw [List.range_succ, List.foldl_append]; rfl
theorem mk_sz {a b : Int} (ha : a.natAbs < 2 ^ 4000) (h0 : 0 < b) (hb : b.natAbs < 2 ^ 4000) : Sz (mkRat a b.toNat) := by
  obtain ⟨e1, e2⟩ := low_eq (a := a) h0
  refine ⟨?_, ?_⟩
  · rw [e1]
    refine Nat.lt_of_le_of_lt ?_ ha
    rw [Int.natAbs_ediv_of_dvd (Int.ofNat_dvd_left.mpr (Nat.gcd_dvd_left _ _)), Int.natAbs_natCast]
    exact Nat.div_le_self _ _
  · have : ((mkRat a b.toNat).den : Int).natAbs ≤ b.natAbs := by
      rw [e2, Int.natAbs_ediv_of_dvd (Int.ofNat_dvd_left.mpr (Nat.gcd_dvd_right _ _)), Int.natAbs_natCast]
      exact Nat.div_le_self _ _
    rw [Int.natAbs_natCast] at this
    omega
structure LfOk (i : Nat) (s : Lf) : Prop where
  lo : (i : Int) ≤ s.tot
  hi : s.tot ≤ 2000 * i
  sz : Sz s.best

end LW

namespace LW
open PySem L2 DL VC
theorem LfOk.tot {t : Int} {i : Nat} {s : Lf} (h1 : 1 ≤ t) (hi : i < 1000) (S : LfOk i s) : ((i + 1 : Nat) : Int) ≤ s.tot + (i : Int) / t + 1 ∧ s.tot + (i : Int) / t + 1 ≤ 2000 * ((i + 1 : Nat) : Int) := by
  have a := Int.ediv_nonneg (show (0 : Int) ≤ i by omega) (show 0 ≤ t by omega)
  have b := Int.ediv_le_self t (show (0 : Int) ≤ i by omega)
  have := S.lo; have := S.hi
  omega
theorem lf_sz {t u : Int} {i : Nat} (h1 : 1 ≤ t) (h2 : t ≤ 1000) (hi : i < 1000) (a : ((i + 1 : Nat) : Int) ≤ u) (b : u ≤ 2000 * ((i + 1 : Nat) : Int)) :
    (((i : Int) + 1) * (i + 1)).natAbs < 2 ^ 4000 ∧ 0 < t * u ∧ (t * u).natAbs < 2 ^ 4000 ∧ u.natAbs < 2 ^ 64 := by
  have big : ∀ {z : Int}, z.natAbs < 2 ^ 60 → z.natAbs < 2 ^ 4000 := fun {z} h => Nat.lt_of_lt_of_le h (Nat.pow_le_pow_right (by decide) (by decide))
  refine ⟨big ?_, Int.mul_pos (by omega) (by omega), big ?_, by omega⟩
  · rw [Int.natAbs_mul]
    exact Nat.lt_of_le_of_lt (Nat.mul_le_mul (show ((i : Int) + 1).natAbs ≤ 1000 by omega) (show ((i : Int) + 1).natAbs ≤ 1000 by omega)) (by decide)
  · rw [Int.natAbs_mul]
    exact Nat.lt_of_le_of_lt (Nat.mul_le_mul (show t.natAbs ≤ 1000 by omega) (show u.natAbs ≤ 2000 * 1000 by omega)) (by decide)
theorem LfOk.step {t : Int} {i : Nat} {s : Lf} (h1 : 1 ≤ t) (h2 : t ≤ 1000) (hi : i < 1000) (S : LfOk i s) : LfOk (i + 1) (lfactS t s i) := by
  obtain ⟨a, b⟩ := S.tot h1 hi
  obtain ⟨z1, z2, z3, _⟩ := lf_sz h1 h2 hi a b
  refine ⟨a, b, ?_⟩
  show Sz (if _ then _ else _)
  split
  · exact mk_sz z1 z2 z3
  · exact S.sz
theorem lf_inv {t : Int} (h1 : 1 ≤ t) (h2 : t ≤ 1000) : ∀ i, i ≤ 1000 → LfOk i (lfP t i)
  | 0, _ => ⟨Int.le_refl _, Int.le_refl _, am2_sz (am_int (n := 420 * 840) (B := 1) 1 (by decide)) (by decide)⟩
  | i + 1, h => by rw [lfP_succ]; exact (lf_inv h1 h2 i (by omega)).step h1 h2 (by omega)
section
variable {M : Md} (T : Bn M) {f CD CN CU : Addr} {fd : FuncData}
include T
theorem ok__law_many_factor (c__law_lt_R : Fn M CX0 "_law_lt" 1 Sp_ltR) (c__law_low : Fn M CX0 "_law_low" 1 Sp_low) (F : Fun M.K "_law_many_factor" "_law_many_factor" s__law_many_factor f fd) : FnOk M.P M.w M.K M.mg M.base CX0 2 f fd ["count", "tables"] (spOf M.K Sp_lfactor) := by
  refine fn_ok F sc__law_many_factor ?_ ?_ ?_
  · rintro as res ⟨_, _, rfl, _⟩; rfl
  · rintro as C ns ds os ⟨_, _, _, _, _, _, h⟩; cases h
  · rintro X W G as res g ⟨n, t, rfl, hn, h1, h2, rfl⟩ hbi
    have hbn := nob hbi rfl
    refine sv_cons (s_asg g 2 ((ev_tup (ea_cons ev_int (ea_cons ev_int ea_nil))).eq fr_one) (hbn 2) ?_)
    refine sv_cons (s_asg g 3 ev_int (hbn 3) ?_)
    refine sv_cons (s_for g (ei_range1 g T.range (ev_var g 0) (by omega)) (fun i δ => ∃ s4, δ = [.dat (.int n), .dat (.int t), .dat (fr (lfP t i).best), .dat (.int (lfP t i).tot), s4]) ⟨_, rfl⟩ ?_ ?_)
    · rintro i d δi hd ⟨s4, rfl⟩
      obtain ⟨hi, rfl⟩ := rangeD_get hd
      rw [Int.toNat_natCast] at hi
      rw [Int.zero_add]
      refine ⟨_, _, ag_name g 4 (hbn 4), ?_⟩
      have S := lf_inv h1 h2 i (by omega)
      rw [lfP_succ]
      generalize lfP t i = s at S
      obtain ⟨a, b⟩ := S.tot h1 (by omega)
      obtain ⟨z1, z2, z3, z4⟩ := lf_sz h1 h2 (show i < 1000 by omega) a b
      refine sv_cons (s_asg g 3 (ev_add (ev_add (ev_var g 3) (ev_fdiv (ev_var g 4) (ev_var g 1) (wd (by omega) (Nat.lt_of_lt_of_le (show t.natAbs < 2 ^ 10 by omega) (Nat.pow_le_pow_right (by decide) (by decide)))))) ev_int) (hbn 3) ?_)
      have em : (decide (t ≤ (i : Int) + 1) && decide (s.best.num * (t * (s.tot + (i : Int) / t + 1)) < (((i : Int) + 1) * (i + 1)) * s.best.den)) = decide ((i : Int) + 1 ≥ t ∧ s.best < mkRat (((i : Int) + 1) * (i + 1)) (t * (s.tot + (i : Int) / t + 1)).toNat) := by
        rw [Bool.decide_and]
        congr 1
        exact decide_eq_decide.mpr (lt_mk z2)
      refine sv_one (s_if (et_w (ew_and (et_ge (ev_add (ev_var g 4) ev_int) (ev_var g 1)) (fun _ => (ew_a1 (et_val (ev_call2 g c__law_lt_R (ev_var g 2) (ev_tup (ea_cons (ev_mul (ev_add (ev_var g 4) ev_int) (ev_add (ev_var g 4) ev_int) (mokS (by omega) (by omega))) (ea_cons (ev_mul (ev_var g 1) (ev_var g 3) (mokS (by omega) z4)) ea_nil))) (sp__law_lt_R S.sz z1 z2 z3))))))) (fun hc => ?_) (fun hc => sv_nil ?_))
      · refine sv_one (s_asg g 2 (ev_call2 g c__law_low (ev_mul (ev_add (ev_var g 4) ev_int) (ev_add (ev_var g 4) ev_int) (mokS (by omega) (by omega))) (ev_mul (ev_var g 1) (ev_var g 3) (mokS (by omega) z4)) (sp__law_low z2 (Nat.lt_of_lt_of_le z3 (Nat.pow_le_pow_right (by decide) (by decide))))) (hbn 2) ⟨.dat (.int i), ?_⟩)
        rw [em] at hc
        have eb : (lfactS t s i).best = mkRat (((i : Int) + 1) * (i + 1)) (t * (s.tot + (i : Int) / t + 1)).toNat := if_pos (of_decide_eq_true hc)
        rw [eb]
        rfl
      · refine ⟨.dat (.int i), ?_⟩
        rw [em] at hc
        have eb : (lfactS t s i).best = s.best := if_neg (of_decide_eq_false hc)
        rw [eb]
        rfl
    · rintro δ' ⟨s4, rfl⟩
      refine sv_one (s_ret (ev_var g 2) (endD ?_))
      rw [rangeD_len, Int.toNat_natCast]; rfl
end

end LW

namespace LW
open PySem L2 DL VC
/-! ### the hand's promises as computations -/
noncomputable def m__law_low (a b : Int) : Mo Rat := grd (0 < b ∧ b.natAbs < 2 ^ 8900) (mkRat a b.toNat)
theorem sq__law_low {a b : Int} {z : Rat} (q : m__law_low a b = .ok z) : Sp_low [.dat (.int a), .dat (.int b)] (.ret (.dat (fr z)) []) := by obtain ⟨⟨h1, h2⟩, rfl⟩ := grd_ok q; exact sp__law_low h1 h2
noncomputable def m__law_add (x y : Rat) : Mo Rat := grd (Sz x ∧ Sz y) (x + y)
theorem sq__law_add {x y z : Rat} (q : m__law_add x y = .ok z) : Sp_plus [.dat (fr x), .dat (fr y)] (.ret (.dat (fr z)) []) := by obtain ⟨⟨h1, h2⟩, rfl⟩ := grd_ok q; exact sp__law_add h1 h2
noncomputable def m__law_sub (x y : Rat) : Mo Rat := grd (Sz x ∧ Sz y) (x - y)
theorem sq__law_sub {x y z : Rat} (q : m__law_sub x y = .ok z) : Sp_minus [.dat (fr x), .dat (fr y)] (.ret (.dat (fr z)) []) := by obtain ⟨⟨h1, h2⟩, rfl⟩ := grd_ok q; exact sp__law_sub h1 h2
noncomputable def m__law_mul (x y : Rat) : Mo Rat := grd (Sz x ∧ Sz y) (x * y)
theorem sq__law_mul {x y z : Rat} (q : m__law_mul x y = .ok z) : Sp_times [.dat (fr x), .dat (fr y)] (.ret (.dat (fr z)) []) := by obtain ⟨⟨h1, h2⟩, rfl⟩ := grd_ok q; exact sp__law_mul h1 h2
noncomputable def m__law_lt (x y : Rat) : Mo Bool := grd (Sz x ∧ Sz y) (decide (x < y))
theorem sq__law_lt {x y : Rat} {z : Bool} (q : m__law_lt x y = .ok z) : Sp_lt [.dat (fr x), .dat (fr y)] (.ret (.dat (.bl z)) []) := by obtain ⟨⟨h1, h2⟩, rfl⟩ := grd_ok q; exact sp__law_lt h1 h2
noncomputable def m__law_le (x y : Rat) : Mo Bool := grd (Sz x ∧ Sz y) (decide (x ≤ y))
theorem sq__law_le {x y : Rat} {z : Bool} (q : m__law_le x y = .ok z) : Sp_le [.dat (fr x), .dat (fr y)] (.ret (.dat (.bl z)) []) := by obtain ⟨⟨h1, h2⟩, rfl⟩ := grd_ok q; exact sp__law_le h1 h2
noncomputable def m__law_lesser (x y : Rat) : Mo Rat := grd (Sz x ∧ Sz y) (rmin x y)
theorem sq__law_lesser {x y z : Rat} (q : m__law_lesser x y = .ok z) : Sp_min [.dat (fr x), .dat (fr y)] (.ret (.dat (fr z)) []) := by obtain ⟨⟨h1, h2⟩, rfl⟩ := grd_ok q; exact sp__law_lesser h1 h2
noncomputable def m__law_is_fraction (x : Rat) : Mo Bool := grd (Sz x) true
theorem sq__law_is_fraction {x : Rat} {z : Bool} (q : m__law_is_fraction x = .ok z) : Sp_isfr [.dat (fr x)] (.ret (.dat (.bl z)) []) := by obtain ⟨h1, rfl⟩ := grd_ok q; exact sp__law_is_fraction h1
noncomputable def m__law_cell (sc : List Int) (k : Int) : Mo Int := grd (0 ≤ k ∧ k ≤ 1000) (cellV sc k.toNat)
theorem sq__law_cell {sc : List Int} {k z : Int} (q : m__law_cell sc k = .ok z) : Sp_cell [.dat (.lst (sc.map .int)), .dat (.int k)] (.ret (.dat (.int z)) []) := by
  obtain ⟨h1, rfl⟩ := grd_ok q
  have := sp__law_cell (sc := sc) (k := k.toNat) (by omega)
  rw [Int.toNat_of_nonneg h1.1] at this; exact this
noncomputable def m__law_digits (c : Int) (sizes : List Int) : Mo (List Int) := grd ((∀ s ∈ sizes, 0 < s ∧ s.natAbs < 2 ^ 8900) ∧ sizes.length ≤ 10000) (digsV c sizes)
theorem sq__law_digits {c : Int} {sizes z : List Int} (q : m__law_digits c sizes = .ok z) : Sp_digs [.dat (.int c), .dat (.lst (sizes.map .int))] (.ret (.own (z.map .int)) []) := by obtain ⟨⟨h1, h2⟩, rfl⟩ := grd_ok q; exact sp__law_digits h1 h2
noncomputable def m__law_digit (r : List Int) (k s : Int) : Mo (Int × Int) := grd (0 ≤ k ∧ 0 < s ∧ 0 < r.length) (dg r k.toNat s, k + 1)
theorem sq__law_digit {r : List Int} {k s : Int} {z : Int × Int} (q : m__law_digit r k s = .ok z) : Sp_dig [.dat (.lst (r.map .int)), .own [.int k], .dat (.int s)] (.ret (.dat (.int z.1)) [.un, .own [.int z.2], .un]) := by
  obtain ⟨⟨h0, h1, h2⟩, rfl⟩ := grd_ok q
  refine ⟨r, k.toNat, s, by rw [Int.toNat_of_nonneg h0], h1, h2, ?_⟩
  have : ((k.toNat + 1 : Nat) : Int) = k + 1 := by omega
  rw [this]
noncomputable def m__law_names (d n : Int) : Mo (List Str) := grd (0 ≤ n ∧ n ≤ 100) (namesF d n.toNat)
theorem sq__law_names {d n : Int} {z : List Str} (q : m__law_names d n = .ok z) : Sp_names [.dat (.int d), .dat (.int n)] (.ret (.own (z.map .str)) []) := by
  obtain ⟨⟨h0, h1⟩, rfl⟩ := grd_ok q
  have := sp__law_names (d := d) (n := n.toNat) (by omega)
  rw [Int.toNat_of_nonneg h0] at this; exact this
noncomputable def m__law_jobs (ns : List Str) (w : List Int × List Rat × List Rat × List Int) : Mo (List Jb) := grd (w.1.length = ns.length ∧ w.2.1.length = ns.length ∧ w.2.2.1.length = ns.length ∧ w.2.2.2.length = ns.length ∧ ns.length ≤ 100) (jobsF ns w.1 w.2.1 w.2.2.1 w.2.2.2)
theorem sq__law_jobs {ns : List Str} {w : List Int × List Rat × List Rat × List Int} {z : List Jb} (q : m__law_jobs ns w = .ok z) : Sp_ljobs [.dat (.lst (ns.map .str)), .dat (.lst [.lst (w.1.map .int), .lst (w.2.1.map fr), .lst (w.2.2.1.map fr), .lst (w.2.2.2.map .int)])] (.ret (.own (z.map Jb.d)) []) := by
  obtain ⟨⟨h1, h2, h3, h4, h5⟩, rfl⟩ := grd_ok q; exact sp__law_jobs h1 h2 h3 h4 h5
noncomputable def m_Day (js : List Jb) : Mo (List Jb) := grd (JobsOk js) js
theorem sq_Day {CD : Addr} {js z : List Jb} (q : m_Day js = .ok z) : Sp_init CD [.obj CD [] [], .dat (.lst (js.map Jb.d))] (.ret (.dat .non) [.obj CD dayN (dayV z), .un]) := by obtain ⟨h, rfl⟩ := grd_ok q; exact sp_init h
noncomputable def m_many_factor (n t : Int) : Mo Rat := grd (0 ≤ n ∧ n ≤ 1000 ∧ 1 ≤ t ∧ t ≤ 1000) (factorF n.toNat t)
theorem sq_many_factor {n t : Int} {z : Rat} (q : m_many_factor n t = .ok z) : Sp_factor [.dat (.int n), .dat (.int t)] (.ret (.dat (fr z)) []) := by
  obtain ⟨⟨h0, h1, h2, h3⟩, rfl⟩ := grd_ok q
  have := sp_many_factor (n := n.toNat) (t := t) (by omega) h2 h3
  rw [Int.toNat_of_nonneg h0] at this; exact this
noncomputable def m__law_many_factor (n t : Int) : Mo Rat := grd (0 ≤ n ∧ n ≤ 1000 ∧ 1 ≤ t ∧ t ≤ 1000) (lfactF n.toNat t)
theorem sq__law_many_factor {n t : Int} {z : Rat} (q : m__law_many_factor n t = .ok z) : Sp_lfactor [.dat (.int n), .dat (.int t)] (.ret (.dat (fr z)) []) := by
  obtain ⟨⟨h0, h1, h2, h3⟩, rfl⟩ := grd_ok q
  have := sp__law_many_factor (n := n.toNat) (t := t) (by omega) h2 h3
  rw [Int.toNat_of_nonneg h0] at this; exact this
noncomputable def m_rounds (n t : Int) : Mo Int := grd (0 ≤ n ∧ n ≤ 1000 ∧ 1 ≤ t ∧ t ≤ 1000) (roundsF n.toNat t)
theorem sq_rounds {n t z : Int} (q : m_rounds n t = .ok z) : Sp_rounds [.dat (.int n), .dat (.int t)] (.ret (.dat (.int z)) []) := by
  obtain ⟨⟨h0, h1, h2, h3⟩, rfl⟩ := grd_ok q
  have := sp_rounds (n := n.toNat) (t := t) (by omega) h2 h3
  rw [Int.toNat_of_nonneg h0] at this; exact this
/-- the weight of a day of one weight -/
def wOf (js : List Jb) : Int := (js.map (·.w)).getD 0 1
noncomputable def m_even_bill (js : List Jb) (t : Int) : Mo Rat := grd (Ev js (wOf js) ∧ 1 ≤ t ∧ t ≤ 8) (billF (wOf js) t (lensF js))
theorem sq_even_bill {CD : Addr} {js : List Jb} {t : Int} {z : Rat} (q : m_even_bill js t = .ok z) : Sp_ebill CD [.dat (dayD CD js), .dat (.int t)] (.ret (.dat (fr z)) []) := by obtain ⟨⟨h1, h2, h3⟩, rfl⟩ := grd_ok q; exact sp_even_bill h1 h2 h3
noncomputable def m_many_best (js : List Jb) (t : Int) : Mo Rat := grd (Ev js (wOf js) ∧ 1 ≤ t ∧ t ≤ 100) (bestF (wOf js) t (lensF js))
theorem sq_many_best {CD : Addr} {js : List Jb} {t : Int} {z : Rat} (q : m_many_best js t = .ok z) : Sp_best CD [.dat (dayD CD js), .dat (.int t)] (.ret (.dat (fr z)) []) := by obtain ⟨⟨h1, h2, h3⟩, rfl⟩ := grd_ok q; exact sp_many_best h1 h2 h3

end LW

namespace LW
open PySem L2 DL VC
noncomputable def m__law_even_world (row : List Int) (at_ : Int) (upto : Int) : Mo (((List Int) × (List Rat) × (List Rat) × (List Int)) × Int) := do
  let t0 ← m__law_digit row at_ (10 : Int)
  let t0_1 ← idxM ([(3 : Int), (2 : Int), (4 : Int), (5 : Int), (1 : Int), (6 : Int), (3 : Int), (8 : Int), (2 : Int), (7 : Int)] : List Int) t0.1
  let count ← pure (if t0_1 < upto then t0_1 else upto)
  let t0_2 ← m__law_digit row t0.2 (8 : Int)
  let weight ← idxM ([(1 : Int), (2 : Int), (5 : Int), (1 : Int), (999 : Int), (1 : Int), (3 : Int), (17 : Int)] : List Int) t0_2.1
  let t0_4 ← m__law_digit row t0_2.2 (4 : Int)
  let t0_5 ← powM (10 : Int) (6 : Int)
  let t0_6 ← m__law_digit row t0_4.2 (4 : Int)
  let great ← idxM ([(1 : Int), (1 : Int), (1 : Int), t0_5] : List Int) t0_6.1
  let t0_8 ← m__law_digit row t0_6.2 (14 : Int)
  let t0_9 ← m__law_digit row t0_8.2 (3 : Int)
  let first ← m__law_low ((1 : Int) + t0_8.1) ((1 : Int) + t0_9.1)
  let lengths ← pure ([] : List Rat)
  let t0_11 ← rangeM count
  let s0_1 ← foldMo (fun (s0 : Int × (List Rat)) (x0 : Int) => (do
      let t0_12 ← m__law_digit row s0.1 (15 : Int)
      let t0_13 ← m__law_digit row t0_12.2 (3 : Int)
      let part ← m__law_low t0_12.1 ((1 : Int) + t0_13.1)
      let t0_17 ← orS (decide (t0_4.1 = (0 : Int))) t0_13.2 (do let t0_16 ← andS (decide (t0_4.1 = (1 : Int))) t0_13.2 (do let t0_15 ← m__law_digit row t0_13.2 (2 : Int); Except.ok ((decide (t0_15.1 = (0 : Int))), t0_15.2)); Except.ok (t0_16.1, t0_16.2))
      let s0_3 ← (bif t0_17.1 then (do
          Except.ok first) else (do
          Except.ok part) : Mo (Rat))
      let t0_18 ← m__law_mul s0_3 ((great : Int) : Rat)
      let lengths1 ← appM s0.2 t0_18
      Except.ok (t0_17.2, lengths1) : Mo (Int × (List Rat)))) (t0_9.2, lengths) t0_11
  let t0_19 ← rangeM count
  let t0_21 ← mapMoS (fun (z0 : Int) (x0_1 : Int) => (do let t0_20 ← m__law_digit row z0 (4 : Int); Except.ok (t0_20.1, t0_20.2))) s0_1.1 t0_19
  let t0_22 ← rangeM count
  let t0_23 ← mapMo (fun (x0_2 : Int) => Except.ok weight) t0_22
  let t0_24 ← rangeM count
  let t0_25 ← mapMo (fun (x0_3 : Int) => Except.ok (0 : Rat)) t0_24
  Except.ok ((t0_23, s0_1.2, t0_25, t0_21.1), t0_21.2)
def Sp__law_even_world : PSpec := fun as res => ∃ (row : List Int) (at_ : Int) (upto : Int) (r : ((List Int) × (List Rat) × (List Rat) × (List Int)) × Int), as = [.dat (D.lst (List.map D.int row)), .own [.int at_], .dat (D.int upto)] ∧ m__law_even_world row at_ upto = .ok r ∧ res = .ret (.own [D.lst (List.map D.int r.1.1), D.lst (List.map fr r.1.2.1), D.lst (List.map fr r.1.2.2.1), D.lst (List.map D.int r.1.2.2.2)]) [.un, .own [.int r.2], .un]
theorem sq__law_even_world {row : List Int} {at_ : Int} {upto : Int} {r : ((List Int) × (List Rat) × (List Rat) × (List Int)) × Int} (q : m__law_even_world row at_ upto = .ok r) : (Sp__law_even_world) [.dat (D.lst (List.map D.int row)), .own [.int at_], .dat (D.int upto)] (.ret (.own [D.lst (List.map D.int r.1.1), D.lst (List.map fr r.1.2.1), D.lst (List.map fr r.1.2.2.1), D.lst (List.map D.int r.1.2.2.2)]) [.un, .own [.int r.2], .un]) := ⟨row, at_, upto, r, rfl, q, rfl⟩
section
variable {M : Md} (T : Bn M) {f : Addr} {fd : FuncData}
include T
theorem ok__law_even_world (c__law_digit : Fn M CX0 "_law_digit" 1 Sp_dig) (c__law_low : Fn M CX0 "_law_low" 1 Sp_low) (c__law_mul : Fn M CX0 "_law_mul" 2 Sp_times) (F : Fun M.K "_law_even_world" "_law_even_world" s__law_even_world f fd) : FnOk M.P M.w M.K M.mg M.base CX0 3 f fd ["row", "at", "upto"] (spOf M.K Sp__law_even_world) := by
  refine fn_ok F sc__law_even_world ?_ ?_ ?_
  · rintro as res ⟨_, _, _, _, rfl, _⟩; rfl
  · rintro as C ns ds os ⟨_, _, _, _, _, _, h⟩; cases h
  · rintro X W G as res g ⟨row, at_, upto, r, rfl, h, rfl⟩ hbi
    unfold m__law_even_world at h
    have hbn := nob1 hbi (v := 1) rfl
    have hwk := wk1 hbn
    show SV X _ G _ [.dat (D.lst (List.map D.int row)), .own [.int at_], .dat (D.int upto), .un, .un, .un, .un, .un, .un, .un, .un, .un] _
    obtain ⟨t0, q_t0, h⟩ := bind_ok h
    obtain ⟨t0_1, q_t0_1, h⟩ := bind_ok h
    obtain ⟨count, q_count, h⟩ := bind_ok h
    refine sv_cons (s_asg g 3 (((ev_min g T.min (ea_cons (ev_var g 2) (ea_cons (ev_ixLM ((EV.eqO (ev_lst (ea_cons ev_int (ea_cons ev_int (ea_cons ev_int (ea_cons ev_int (ea_cons ev_int (ea_cons ev_int (ea_cons ev_int (ea_cons ev_int (ea_cons ev_int (ea_cons ev_int ea_nil))))))))))) (show _ = List.map D.int ([(3 : Int), (2 : Int), (4 : Int), (5 : Int), (1 : Int), (6 : Int), (3 : Int), (8 : Int), (2 : Int), (7 : Int)] : List Int) from rfl))).ls (ev_call_b2 g c__law_digit 1 (ev_var g 0) (ea_cons ev_int ea_nil) (sq__law_digit q_t0) rfl ⟨_, rfl⟩) q_t0_1) ea_nil)))).eq (congrArg D.int (pure_ok q_count))) (hbn 3 (by decide)) ?_)
    show SV X _ G _ [.dat (D.lst (List.map D.int row)), .own [.int t0.2], .dat (D.int upto), .dat (D.int count), .un, .un, .un, .un, .un, .un, .un, .un] _
    obtain ⟨t0_2, q_t0_2, h⟩ := bind_ok h
    obtain ⟨weight, q_weight, h⟩ := bind_ok h
    refine sv_cons (s_asg g 4 (ev_ixLM ((EV.eqO (ev_lst (ea_cons ev_int (ea_cons ev_int (ea_cons ev_int (ea_cons ev_int (ea_cons ev_int (ea_cons ev_int (ea_cons ev_int (ea_cons ev_int ea_nil))))))))) (show _ = List.map D.int ([(1 : Int), (2 : Int), (5 : Int), (1 : Int), (999 : Int), (1 : Int), (3 : Int), (17 : Int)] : List Int) from rfl))).ls (ev_call_b2 g c__law_digit 1 (ev_var g 0) (ea_cons ev_int ea_nil) (sq__law_digit q_t0_2) rfl ⟨_, rfl⟩) q_weight) (hbn 4 (by decide)) ?_)
    show SV X _ G _ [.dat (D.lst (List.map D.int row)), .own [.int t0_2.2], .dat (D.int upto), .dat (D.int count), .dat (D.int weight), .un, .un, .un, .un, .un, .un, .un] _
    obtain ⟨t0_4, q_t0_4, h⟩ := bind_ok h
    refine sv_cons (s_asg g 5 (ev_call_b2 g c__law_digit 1 (ev_var g 0) (ea_cons ev_int ea_nil) (sq__law_digit q_t0_4) rfl ⟨_, rfl⟩) (hbn 5 (by decide)) ?_)
    show SV X _ G _ [.dat (D.lst (List.map D.int row)), .own [.int t0_4.2], .dat (D.int upto), .dat (D.int count), .dat (D.int weight), .dat (D.int t0_4.1), .un, .un, .un, .un, .un, .un] _
    obtain ⟨t0_5, q_t0_5, h⟩ := bind_ok h
    obtain ⟨t0_6, q_t0_6, h⟩ := bind_ok h
    obtain ⟨great, q_great, h⟩ := bind_ok h
    refine sv_cons (s_asg g 6 (ev_ixLM ((EV.eqO (ev_lst (ea_cons ev_int (ea_cons ev_int (ea_cons ev_int (ea_cons (ev_powM ev_int ev_int q_t0_5) ea_nil))))) (show _ = List.map D.int ([(1 : Int), (1 : Int), (1 : Int), t0_5] : List Int) from rfl))).ls (ev_call_b2 g c__law_digit 1 (ev_var g 0) (ea_cons ev_int ea_nil) (sq__law_digit q_t0_6) rfl ⟨_, rfl⟩) q_great) (hbn 6 (by decide)) ?_)
    show SV X _ G _ [.dat (D.lst (List.map D.int row)), .own [.int t0_6.2], .dat (D.int upto), .dat (D.int count), .dat (D.int weight), .dat (D.int t0_4.1), .dat (D.int great), .un, .un, .un, .un, .un] _
    obtain ⟨t0_8, q_t0_8, h⟩ := bind_ok h
    obtain ⟨t0_9, q_t0_9, h⟩ := bind_ok h
    obtain ⟨first, q_first, h⟩ := bind_ok h
    refine sv_cons (s_asg g 7 (ev_call2 g c__law_low (ev_add ev_int (ev_call_b2 g c__law_digit 1 (ev_var g 0) (ea_cons ev_int ea_nil) (sq__law_digit q_t0_8) rfl ⟨_, rfl⟩)) (ev_add ev_int (ev_call_b2 g c__law_digit 1 (ev_var g 0) (ea_cons ev_int ea_nil) (sq__law_digit q_t0_9) rfl ⟨_, rfl⟩)) (sq__law_low q_first)) (hbn 7 (by decide)) ?_)
    show SV X _ G _ [.dat (D.lst (List.map D.int row)), .own [.int t0_9.2], .dat (D.int upto), .dat (D.int count), .dat (D.int weight), .dat (D.int t0_4.1), .dat (D.int great), .dat (fr first), .un, .un, .un, .un] _
    obtain ⟨lengths, q_lengths, h⟩ := bind_ok h
    refine sv_cons (s_asgM g 8 (EV.eqS (EV.eqO (ev_lst ea_nil) (show _ = List.map fr ([] : List Rat) from rfl)) (congrArg (fun (z : List Rat) => Slot.own (List.map fr z)) (pure_ok q_lengths))) (hbn 8 (by decide)) ?_)
    show SV X _ G _ [.dat (D.lst (List.map D.int row)), .own [.int t0_9.2], .dat (D.int upto), .dat (D.int count), .dat (D.int weight), .dat (D.int t0_4.1), .dat (D.int great), .dat (fr first), .own (List.map fr lengths), .un, .un, .un] _
    obtain ⟨t0_11, q_t0_11, h⟩ := bind_ok h
    obtain ⟨s0_1, q_s0_1, h⟩ := bind_ok h
    refine sv_forM g (fun (s0 : Int × (List Rat)) => [.dat (D.lst (List.map D.int row)), .own [.int s0.1], .dat (D.int upto), .dat (D.int count), .dat (D.int weight), .dat (D.int t0_4.1), .dat (D.int great), .dat (fr first), .own (List.map fr s0.2), .un, .un, .un]) (ei_rangeM g T.range (ev_var g 3) q_t0_11) q_s0_1 rfl (fun s0 x0 s0_2 q_s0_2 => ?_) ?_
    · refine ⟨_, _, (ag_name g 9 (hbn 9 (by decide))), ?_⟩
      show SV X _ G _ [.dat (D.lst (List.map D.int row)), .own [.int s0.1], .dat (D.int upto), .dat (D.int count), .dat (D.int weight), .dat (D.int t0_4.1), .dat (D.int great), .dat (fr first), .own (List.map fr s0.2), .dat (D.int x0), .un, .un] _
      obtain ⟨t0_12, q_t0_12, q_s0_2⟩ := bind_ok q_s0_2
      obtain ⟨t0_13, q_t0_13, q_s0_2⟩ := bind_ok q_s0_2
      obtain ⟨part, q_part, q_s0_2⟩ := bind_ok q_s0_2
      refine sv_cons (s_asg g 10 (ev_call2 g c__law_low (ev_call_b2 g c__law_digit 1 (ev_var g 0) (ea_cons ev_int ea_nil) (sq__law_digit q_t0_12) rfl ⟨_, rfl⟩) (ev_add ev_int (ev_call_b2 g c__law_digit 1 (ev_var g 0) (ea_cons ev_int ea_nil) (sq__law_digit q_t0_13) rfl ⟨_, rfl⟩)) (sq__law_low q_part)) (hbn 10 (by decide)) ?_)
      show SV X _ G _ [.dat (D.lst (List.map D.int row)), .own [.int t0_13.2], .dat (D.int upto), .dat (D.int count), .dat (D.int weight), .dat (D.int t0_4.1), .dat (D.int great), .dat (fr first), .own (List.map fr s0.2), .dat (D.int x0), .dat (fr part), .un] _
      obtain ⟨t0_17, q_t0_17, q_s0_2⟩ := bind_ok q_s0_2
      obtain ⟨s0_3, q_s0_3, q_s0_2⟩ := bind_ok q_s0_2
      refine sv_ifJ t0_17.1 [.dat (D.lst (List.map D.int row)), .own [.int t0_17.2], .dat (D.int upto), .dat (D.int count), .dat (D.int weight), .dat (D.int t0_4.1), .dat (D.int great), .dat (fr first), .own (List.map fr s0.2), .dat (D.int x0), .dat (fr s0_3), .un] (et_w (ew_orS (fun (z : Int) => [.dat (D.lst (List.map D.int row)), .own [.int z], .dat (D.int upto), .dat (D.int count), .dat (D.int weight), .dat (D.int t0_4.1), .dat (D.int great), .dat (fr first), .own (List.map fr s0.2), .dat (D.int x0), .dat (fr part), .un]) (et_eqI (ev_var g 5) ev_int) q_t0_17 (fun v hv => by obtain ⟨t0_16, q_t0_16, hv⟩ := bind_ok hv; obtain rfl := pure_ok hv; exact (ew_o1 (et_w (ew_andS (fun (z : Int) => [.dat (D.lst (List.map D.int row)), .own [.int z], .dat (D.int upto), .dat (D.int count), .dat (D.int weight), .dat (D.int t0_4.1), .dat (D.int great), .dat (fr first), .own (List.map fr s0.2), .dat (D.int x0), .dat (fr part), .un]) (et_eqI (ev_var g 5) ev_int) q_t0_16 (fun v hv => by obtain ⟨t0_15, q_t0_15, hv⟩ := bind_ok hv; obtain rfl := pure_ok hv; exact (ew_a1 (et_eqI (ev_call_b2 g c__law_digit 1 (ev_var g 0) (ea_cons ev_int ea_nil) (sq__law_digit q_t0_15) rfl ⟨_, rfl⟩) ev_int))))))))) (fun hc => ?_) (fun hc => ?_) ?_
      · replace q_s0_3 := cond_t hc q_s0_3
        refine sv_cons (s_asg g 10 (ev_var g 7) (hbn 10 (by decide)) ?_)
        show SV X _ G _ [.dat (D.lst (List.map D.int row)), .own [.int t0_17.2], .dat (D.int upto), .dat (D.int count), .dat (D.int weight), .dat (D.int t0_4.1), .dat (D.int great), .dat (fr first), .own (List.map fr s0.2), .dat (D.int x0), .dat (fr first), .un] _
        obtain rfl := pure_ok q_s0_3
        exact sv_endW [.dat (D.lst (List.map D.int row)), .own [.int t0_17.2], .dat (D.int upto), .dat (D.int count), .dat (D.int weight), .dat (D.int t0_4.1), .dat (D.int great), .dat (fr first), .own (List.map fr s0.2), .dat (D.int x0), .dat (fr first), .un] ⟨.inl rfl, .inl rfl, .inl rfl, .inl rfl, .inl rfl, .inl rfl, .inl rfl, .inl rfl, .inl rfl, .inl rfl, .inl rfl, .inr rfl, trivial⟩ (hwk _ _ rfl) rfl
      · replace q_s0_3 := cond_f hc q_s0_3
        obtain rfl := pure_ok q_s0_3
        exact sv_endW [.dat (D.lst (List.map D.int row)), .own [.int t0_17.2], .dat (D.int upto), .dat (D.int count), .dat (D.int weight), .dat (D.int t0_4.1), .dat (D.int great), .dat (fr first), .own (List.map fr s0.2), .dat (D.int x0), .dat (fr part), .un] ⟨.inl rfl, .inl rfl, .inl rfl, .inl rfl, .inl rfl, .inl rfl, .inl rfl, .inl rfl, .inl rfl, .inl rfl, .inl rfl, .inr rfl, trivial⟩ (hwk _ _ rfl) rfl
      · show SV X _ G _ [.dat (D.lst (List.map D.int row)), .own [.int t0_17.2], .dat (D.int upto), .dat (D.int count), .dat (D.int weight), .dat (D.int t0_4.1), .dat (D.int great), .dat (fr first), .own (List.map fr s0.2), .dat (D.int x0), .dat (fr s0_3), .un] _
        obtain ⟨t0_18, q_t0_18, q_s0_2⟩ := bind_ok q_s0_2
        obtain ⟨lengths1, q_lengths1, q_s0_2⟩ := bind_ok q_s0_2
        refine sv_cons (s_appM g 8 fr (ev_call2 g c__law_mul (ev_var g 10) ((ev_tup (ea_cons (ev_var g 6) (ea_cons ev_int ea_nil))).eq (fr_int _)) (sq__law_mul q_t0_18)) q_lengths1 ?_ ⟨_, rfl⟩)
        show SV X _ G _ [.dat (D.lst (List.map D.int row)), .own [.int t0_17.2], .dat (D.int upto), .dat (D.int count), .dat (D.int weight), .dat (D.int t0_4.1), .dat (D.int great), .dat (fr first), .own (List.map fr lengths1), .dat (D.int x0), .dat (fr s0_3), .un] _
        obtain rfl := pure_ok q_s0_2
        exact sv_endW [.dat (D.lst (List.map D.int row)), .own [.int t0_17.2], .dat (D.int upto), .dat (D.int count), .dat (D.int weight), .dat (D.int t0_4.1), .dat (D.int great), .dat (fr first), .own (List.map fr lengths1), .un, .un, .un] ⟨.inl rfl, .inl rfl, .inl rfl, .inl rfl, .inl rfl, .inl rfl, .inl rfl, .inl rfl, .inl rfl, .inr rfl, .inr rfl, .inr rfl, trivial⟩ (hwk _ _ rfl) rfl
    · show SV X _ G _ [.dat (D.lst (List.map D.int row)), .own [.int s0_1.1], .dat (D.int upto), .dat (D.int count), .dat (D.int weight), .dat (D.int t0_4.1), .dat (D.int great), .dat (fr first), .own (List.map fr s0_1.2), .un, .un, .un] _
      obtain ⟨t0_19, q_t0_19, h⟩ := bind_ok h
      obtain ⟨t0_21, q_t0_21, h⟩ := bind_ok h
      refine sv_cons (s_asgLcSo g 11 D.int [("k", 9)] [9] (fun (z0 : Int) => [.dat (D.lst (List.map D.int row)), .own [.int z0], .dat (D.int upto), .dat (D.int count), .dat (D.int weight), .dat (D.int t0_4.1), .dat (D.int great), .dat (fr first), .own (List.map fr s0_1.2), .un, .un, .un]) (fun (z0 : Int) (x0_1 : Int) => [.dat (D.lst (List.map D.int row)), .own [.int z0], .dat (D.int upto), .dat (D.int count), .dat (D.int weight), .dat (D.int t0_4.1), .dat (D.int great), .dat (fr first), .own (List.map fr s0_1.2), .dat (D.int x0_1), .un, .un]) (hbn 11 (by decide)) (fun v hv => hbn v (by intro e; subst e; revert hv; decide)) (ei_rangeM g T.range (ev_var g 3) q_t0_19) q_t0_21 rfl (fun v hv e he => by simp at hv; subst hv; exact (Option.some.inj he).symm) (fun z0 x0_1 y s2 hf => by obtain ⟨t0_20, q_t0_20, hf⟩ := bind_ok hf; obtain ⟨rfl, rfl⟩ := Prod.mk.inj (pure_ok hf); exact ⟨_, rfl, fun Y1 G2 g2 hG => ⟨(ag_name g2 9 (bor_of hG (hbn 9 (by decide)))), (ev_call_b2 g2 c__law_digit 1 (ev_var g2 0) (ea_cons ev_int ea_nil) (sq__law_digit q_t0_20) rfl ⟨_, rfl⟩)⟩⟩) ?_)
      show SV X _ G _ [.dat (D.lst (List.map D.int row)), .own [.int t0_21.2], .dat (D.int upto), .dat (D.int count), .dat (D.int weight), .dat (D.int t0_4.1), .dat (D.int great), .dat (fr first), .own (List.map fr s0_1.2), .un, .un, .own (List.map D.int t0_21.1)] _
      refine sv_freeze 11 (hbn 11 (by decide)) ?_
      show SV X _ G _ [.dat (D.lst (List.map D.int row)), .own [.int t0_21.2], .dat (D.int upto), .dat (D.int count), .dat (D.int weight), .dat (D.int t0_4.1), .dat (D.int great), .dat (fr first), .own (List.map fr s0_1.2), .un, .un, .dat (D.lst (List.map D.int t0_21.1))] _
      refine sv_freeze 8 (hbn 8 (by decide)) ?_
      show SV X _ G _ [.dat (D.lst (List.map D.int row)), .own [.int t0_21.2], .dat (D.int upto), .dat (D.int count), .dat (D.int weight), .dat (D.int t0_4.1), .dat (D.int great), .dat (fr first), .dat (D.lst (List.map fr s0_1.2)), .un, .un, .dat (D.lst (List.map D.int t0_21.1))] _
      obtain ⟨t0_22, q_t0_22, h⟩ := bind_ok h
      obtain ⟨t0_23, q_t0_23, h⟩ := bind_ok h
      obtain ⟨t0_24, q_t0_24, h⟩ := bind_ok h
      obtain ⟨t0_25, q_t0_25, h⟩ := bind_ok h
      obtain rfl := pure_ok h
      exact sv_cons (s_ret (EV.eqO (ev_lst (ea_cons ((ev_lcMo g D.int [("k", 9)] [9] [.dat (D.lst (List.map D.int row)), .own [.int t0_21.2], .dat (D.int upto), .dat (D.int count), .dat (D.int weight), .dat (D.int t0_4.1), .dat (D.int great), .dat (fr first), .dat (D.lst (List.map fr s0_1.2)), .un, .un, .dat (D.lst (List.map D.int t0_21.1))] (fun (x0_2 : Int) => [.dat (D.lst (List.map D.int row)), .own [.int t0_21.2], .dat (D.int upto), .dat (D.int count), .dat (D.int weight), .dat (D.int t0_4.1), .dat (D.int great), .dat (fr first), .dat (D.lst (List.map fr s0_1.2)), .dat (D.int x0_2), .un, .dat (D.lst (List.map D.int t0_21.1))]) (fun v hv => hbn v (by intro e; subst e; revert hv; decide)) (ei_rangeM g T.range (ev_var g 3) q_t0_22) q_t0_23 rfl (fun _ => rfl) (fun x0_2 y0_1 hf => by  exact fun Y1 G2 g2 hG => ⟨(ag_name g2 9 (bor_of hG (hbn 9 (by decide)))), ((ev_var g2 4)).eq (congrArg D.int (pure_ok hf))⟩))).ls (ea_cons (ev_var g 8) (ea_cons ((ev_lcMo g fr [("k", 9)] [9] [.dat (D.lst (List.map D.int row)), .own [.int t0_21.2], .dat (D.int upto), .dat (D.int count), .dat (D.int weight), .dat (D.int t0_4.1), .dat (D.int great), .dat (fr first), .dat (D.lst (List.map fr s0_1.2)), .un, .un, .dat (D.lst (List.map D.int t0_21.1))] (fun (x0_3 : Int) => [.dat (D.lst (List.map D.int row)), .own [.int t0_21.2], .dat (D.int upto), .dat (D.int count), .dat (D.int weight), .dat (D.int t0_4.1), .dat (D.int great), .dat (fr first), .dat (D.lst (List.map fr s0_1.2)), .dat (D.int x0_3), .un, .dat (D.lst (List.map D.int t0_21.1))]) (fun v hv => hbn v (by intro e; subst e; revert hv; decide)) (ei_rangeM g T.range (ev_var g 3) q_t0_24) q_t0_25 rfl (fun _ => rfl) (fun x0_3 y0_2 hf => by  exact fun Y1 G2 g2 hG => ⟨(ag_name g2 9 (bor_of hG (hbn 9 (by decide)))), (((ev_tup (ea_cons ev_int (ea_cons ev_int ea_nil))).eq (fr_lit (by decide +kernel)))).eq (congrArg fr (pure_ok hf))⟩))).ls (ea_cons (ev_var g 11) ea_nil))))) (show _ = [D.lst (List.map D.int ((t0_23, s0_1.2, t0_25, t0_21.1).1)), D.lst (List.map fr ((t0_23, s0_1.2, t0_25, t0_21.1).2.1)), D.lst (List.map fr ((t0_23, s0_1.2, t0_25, t0_21.1).2.2.1)), D.lst (List.map D.int ((t0_23, s0_1.2, t0_25, t0_21.1).2.2.2))] from rfl)) (endB 1 rfl))
end
noncomputable def m__law_many_best (world : (List Int) × (List Rat) × (List Rat) × (List Int)) (tables : Int) : Mo Rat := do
  let t0 ← mapMo (fun (x0 : Rat) => Except.ok x0) world.2.1
  let total ← pure (0 : Rat)
  let t0_1 ← rangeM (world.2.1.length : Int)
  let s0_1 ← foldMo (fun (s0 : (List Rat) × Rat) (x0_1 : Int) => (do
      let t0_2 ← rangeM (s0.1.length : Int)
      let s0_4 ← foldMo (fun (s0_3 : Int) (x0_2 : Int) => (do
          let t0_3 ← idxM s0.1 s0_3
          let t0_4 ← idxM s0.1 x0_2
          let t0_5 ← m__law_lt t0_3 t0_4
          let s0_6 ← (bif t0_5 then (do
              Except.ok x0_2) else (do
              Except.ok s0_3) : Mo (Int))
          Except.ok s0_6 : Mo Int)) (0 : Int) t0_2
      let t0_6 ← idxM world.1 (0 : Int)
      let t0_7 ← fdivM x0_1 tables
      let t0_8 ← mulM t0_6 (t0_7 + (1 : Int))
      let t0_9 ← idxM s0.1 s0_4
      let t0_10 ← m__law_mul ((t0_8 : Int) : Rat) t0_9
      let total1 ← m__law_add s0.2 t0_10
      let lengths ← catM (cutL s0.1 none (some s0_4)) (cutL s0.1 (some (s0_4 + (1 : Int))) none)
      Except.ok (lengths, total1) : Mo ((List Rat) × Rat))) (t0, total) t0_1
  Except.ok s0_1.2
def Sp__law_many_best : PSpec := fun as res => ∃ (world : (List Int) × (List Rat) × (List Rat) × (List Int)) (tables : Int) (r : Rat), as = [.dat (D.lst [D.lst (List.map D.int world.1), D.lst (List.map fr world.2.1), D.lst (List.map fr world.2.2.1), D.lst (List.map D.int world.2.2.2)]), .dat (D.int tables)] ∧ m__law_many_best world tables = .ok r ∧ res = .ret (.dat (fr r)) []
theorem sq__law_many_best {world : (List Int) × (List Rat) × (List Rat) × (List Int)} {tables : Int} {r : Rat} (q : m__law_many_best world tables = .ok r) : (Sp__law_many_best) [.dat (D.lst [D.lst (List.map D.int world.1), D.lst (List.map fr world.2.1), D.lst (List.map fr world.2.2.1), D.lst (List.map D.int world.2.2.2)]), .dat (D.int tables)] (.ret (.dat (fr r)) []) := ⟨world, tables, r, rfl, q, rfl⟩
section
variable {M : Md} (T : Bn M) {f : Addr} {fd : FuncData}
include T
theorem ok__law_many_best (c__law_lt : Fn M CX0 "_law_lt" 1 Sp_lt) (c__law_add : Fn M CX0 "_law_add" 2 Sp_plus) (c__law_mul : Fn M CX0 "_law_mul" 2 Sp_times) (F : Fun M.K "_law_many_best" "_law_many_best" s__law_many_best f fd) : FnOk M.P M.w M.K M.mg M.base CX0 3 f fd ["world", "tables"] (spOf M.K Sp__law_many_best) := by
  refine fn_ok F sc__law_many_best ?_ ?_ ?_
  · rintro as res ⟨_, _, _, rfl, _⟩; rfl
  · rintro as C ns ds os ⟨_, _, _, _, _, h⟩; cases h
  · rintro X W G as res g ⟨world, tables, r, rfl, h, rfl⟩ hbi
    unfold m__law_many_best at h
    have hbn := nob hbi rfl
    have hwk := wk0 hbn
    show SV X _ G _ [.dat (D.lst [D.lst (List.map D.int world.1), D.lst (List.map fr world.2.1), D.lst (List.map fr world.2.2.1), D.lst (List.map D.int world.2.2.2)]), .dat (D.int tables), .un, .un, .un, .un, .un, .un] _
    obtain ⟨t0, q_t0, h⟩ := bind_ok h
    refine sv_cons (s_asgLcMo g 2 fr [("length", 3)] [3] [.dat (D.lst [D.lst (List.map D.int world.1), D.lst (List.map fr world.2.1), D.lst (List.map fr world.2.2.1), D.lst (List.map D.int world.2.2.2)]), .dat (D.int tables), .un, .un, .un, .un, .un, .un] (fun (x0 : Rat) => [.dat (D.lst [D.lst (List.map D.int world.1), D.lst (List.map fr world.2.1), D.lst (List.map fr world.2.2.1), D.lst (List.map D.int world.2.2.2)]), .dat (D.int tables), .un, .dat (fr x0), .un, .un, .un, .un]) (hbn 2) (fun v _ => hbn v) (ei_list (ev_ixL (ev_var g 0) ev_int (show _ = some (D.lst (List.map fr world.2.1)) from rfl))) q_t0 rfl (fun _ => rfl) (fun x0 y0 hf => by  exact fun Y1 G2 g2 hG => ⟨(ag_name g2 3 (bor_of hG (hbn 3))), ((ev_var g2 3)).eq (congrArg fr (pure_ok hf))⟩) ?_)
    show SV X _ G _ [.dat (D.lst [D.lst (List.map D.int world.1), D.lst (List.map fr world.2.1), D.lst (List.map fr world.2.2.1), D.lst (List.map D.int world.2.2.2)]), .dat (D.int tables), .own (List.map fr t0), .un, .un, .un, .un, .un] _
    refine sv_freeze 2 (hbn 2) ?_
    show SV X _ G _ [.dat (D.lst [D.lst (List.map D.int world.1), D.lst (List.map fr world.2.1), D.lst (List.map fr world.2.2.1), D.lst (List.map D.int world.2.2.2)]), .dat (D.int tables), .dat (D.lst (List.map fr t0)), .un, .un, .un, .un, .un] _
    obtain ⟨total, q_total, h⟩ := bind_ok h
    refine sv_cons (s_asg g 4 ((((ev_tup (ea_cons ev_int (ea_cons ev_int ea_nil))).eq (fr_lit (by decide +kernel)))).eq (congrArg fr (pure_ok q_total))) (hbn 4) ?_)
    show SV X _ G _ [.dat (D.lst [D.lst (List.map D.int world.1), D.lst (List.map fr world.2.1), D.lst (List.map fr world.2.2.1), D.lst (List.map D.int world.2.2.2)]), .dat (D.int tables), .dat (D.lst (List.map fr t0)), .un, .dat (fr total), .un, .un, .un] _
    obtain ⟨t0_1, q_t0_1, h⟩ := bind_ok h
    obtain ⟨s0_1, q_s0_1, h⟩ := bind_ok h
    refine sv_forM g (fun (s0 : (List Rat) × Rat) => [.dat (D.lst [D.lst (List.map D.int world.1), D.lst (List.map fr world.2.1), D.lst (List.map fr world.2.2.1), D.lst (List.map D.int world.2.2.2)]), .dat (D.int tables), .dat (D.lst (List.map fr s0.1)), .un, .dat (fr s0.2), .un, .un, .un]) (ei_rangeM g T.range (ev_lenLM g T.len (ev_ixL (ev_var g 0) ev_int (show _ = some (D.lst (List.map fr world.2.1)) from rfl))) q_t0_1) q_s0_1 rfl (fun s0 x0_1 s0_2 q_s0_2 => ?_) ?_
    · refine ⟨_, _, (ag_name g 5 (hbn 5)), ?_⟩
      show SV X _ G _ [.dat (D.lst [D.lst (List.map D.int world.1), D.lst (List.map fr world.2.1), D.lst (List.map fr world.2.2.1), D.lst (List.map D.int world.2.2.2)]), .dat (D.int tables), .dat (D.lst (List.map fr s0.1)), .un, .dat (fr s0.2), .dat (D.int x0_1), .un, .un] _
      refine sv_cons (s_asg g 6 ev_int (hbn 6) ?_)
      show SV X _ G _ [.dat (D.lst [D.lst (List.map D.int world.1), D.lst (List.map fr world.2.1), D.lst (List.map fr world.2.2.1), D.lst (List.map D.int world.2.2.2)]), .dat (D.int tables), .dat (D.lst (List.map fr s0.1)), .un, .dat (fr s0.2), .dat (D.int x0_1), .dat (D.int (0 : Int)), .un] _
      obtain ⟨t0_2, q_t0_2, q_s0_2⟩ := bind_ok q_s0_2
      obtain ⟨s0_4, q_s0_4, q_s0_2⟩ := bind_ok q_s0_2
      refine sv_forM g (fun (s0_3 : Int) => [.dat (D.lst [D.lst (List.map D.int world.1), D.lst (List.map fr world.2.1), D.lst (List.map fr world.2.2.1), D.lst (List.map D.int world.2.2.2)]), .dat (D.int tables), .dat (D.lst (List.map fr s0.1)), .un, .dat (fr s0.2), .dat (D.int x0_1), .dat (D.int s0_3), .un]) (ei_rangeM g T.range (ev_lenLM g T.len (ev_var g 2)) q_t0_2) q_s0_4 rfl (fun s0_3 x0_2 s0_5 q_s0_5 => ?_) ?_
      · refine ⟨_, _, (ag_name g 7 (hbn 7)), ?_⟩
        show SV X _ G _ [.dat (D.lst [D.lst (List.map D.int world.1), D.lst (List.map fr world.2.1), D.lst (List.map fr world.2.2.1), D.lst (List.map D.int world.2.2.2)]), .dat (D.int tables), .dat (D.lst (List.map fr s0.1)), .un, .dat (fr s0.2), .dat (D.int x0_1), .dat (D.int s0_3), .dat (D.int x0_2)] _
        obtain ⟨t0_3, q_t0_3, q_s0_5⟩ := bind_ok q_s0_5
        obtain ⟨t0_4, q_t0_4, q_s0_5⟩ := bind_ok q_s0_5
        obtain ⟨t0_5, q_t0_5, q_s0_5⟩ := bind_ok q_s0_5
        obtain ⟨s0_6, q_s0_6, q_s0_5⟩ := bind_ok q_s0_5
        refine sv_ifJ t0_5 [.dat (D.lst [D.lst (List.map D.int world.1), D.lst (List.map fr world.2.1), D.lst (List.map fr world.2.2.1), D.lst (List.map D.int world.2.2.2)]), .dat (D.int tables), .dat (D.lst (List.map fr s0.1)), .un, .dat (fr s0.2), .dat (D.int x0_1), .dat (D.int s0_6), .dat (D.int x0_2)] (et_val (ev_call2 g c__law_lt (ev_ixLM (ev_var g 2) (ev_var g 6) q_t0_3) (ev_ixLM (ev_var g 2) (ev_var g 7) q_t0_4) (sq__law_lt q_t0_5))) (fun hc => ?_) (fun hc => ?_) ?_
        · replace q_s0_6 := cond_t hc q_s0_6
          refine sv_cons (s_asg g 6 (ev_var g 7) (hbn 6) ?_)
          show SV X _ G _ [.dat (D.lst [D.lst (List.map D.int world.1), D.lst (List.map fr world.2.1), D.lst (List.map fr world.2.2.1), D.lst (List.map D.int world.2.2.2)]), .dat (D.int tables), .dat (D.lst (List.map fr s0.1)), .un, .dat (fr s0.2), .dat (D.int x0_1), .dat (D.int x0_2), .dat (D.int x0_2)] _
          obtain rfl := pure_ok q_s0_6
          exact sv_endW [.dat (D.lst [D.lst (List.map D.int world.1), D.lst (List.map fr world.2.1), D.lst (List.map fr world.2.2.1), D.lst (List.map D.int world.2.2.2)]), .dat (D.int tables), .dat (D.lst (List.map fr s0.1)), .un, .dat (fr s0.2), .dat (D.int x0_1), .dat (D.int x0_2), .dat (D.int x0_2)] ⟨.inl rfl, .inl rfl, .inl rfl, .inr rfl, .inl rfl, .inl rfl, .inl rfl, .inl rfl, trivial⟩ (hwk _ _ trivial) rfl
        · replace q_s0_6 := cond_f hc q_s0_6
          obtain rfl := pure_ok q_s0_6
          exact sv_endW [.dat (D.lst [D.lst (List.map D.int world.1), D.lst (List.map fr world.2.1), D.lst (List.map fr world.2.2.1), D.lst (List.map D.int world.2.2.2)]), .dat (D.int tables), .dat (D.lst (List.map fr s0.1)), .un, .dat (fr s0.2), .dat (D.int x0_1), .dat (D.int s0_3), .dat (D.int x0_2)] ⟨.inl rfl, .inl rfl, .inl rfl, .inr rfl, .inl rfl, .inl rfl, .inl rfl, .inl rfl, trivial⟩ (hwk _ _ trivial) rfl
        · show SV X _ G _ [.dat (D.lst [D.lst (List.map D.int world.1), D.lst (List.map fr world.2.1), D.lst (List.map fr world.2.2.1), D.lst (List.map D.int world.2.2.2)]), .dat (D.int tables), .dat (D.lst (List.map fr s0.1)), .un, .dat (fr s0.2), .dat (D.int x0_1), .dat (D.int s0_6), .dat (D.int x0_2)] _
          obtain rfl := pure_ok q_s0_5
          exact sv_endW [.dat (D.lst [D.lst (List.map D.int world.1), D.lst (List.map fr world.2.1), D.lst (List.map fr world.2.2.1), D.lst (List.map D.int world.2.2.2)]), .dat (D.int tables), .dat (D.lst (List.map fr s0.1)), .un, .dat (fr s0.2), .dat (D.int x0_1), .dat (D.int s0_6), .un] ⟨.inl rfl, .inl rfl, .inl rfl, .inr rfl, .inl rfl, .inl rfl, .inl rfl, .inr rfl, trivial⟩ (hwk _ _ trivial) rfl
      · show SV X _ G _ [.dat (D.lst [D.lst (List.map D.int world.1), D.lst (List.map fr world.2.1), D.lst (List.map fr world.2.2.1), D.lst (List.map D.int world.2.2.2)]), .dat (D.int tables), .dat (D.lst (List.map fr s0.1)), .un, .dat (fr s0.2), .dat (D.int x0_1), .dat (D.int s0_4), .un] _
        obtain ⟨t0_6, q_t0_6, q_s0_2⟩ := bind_ok q_s0_2
        obtain ⟨t0_7, q_t0_7, q_s0_2⟩ := bind_ok q_s0_2
        obtain ⟨t0_8, q_t0_8, q_s0_2⟩ := bind_ok q_s0_2
        obtain ⟨t0_9, q_t0_9, q_s0_2⟩ := bind_ok q_s0_2
        obtain ⟨t0_10, q_t0_10, q_s0_2⟩ := bind_ok q_s0_2
        obtain ⟨total1, q_total1, q_s0_2⟩ := bind_ok q_s0_2
        refine sv_cons (s_asg g 4 (ev_call2 g c__law_add (ev_var g 4) (ev_call2 g c__law_mul ((ev_tup (ea_cons (ev_mulM (ev_ixLM (ev_ixL (ev_var g 0) ev_int (show _ = some (D.lst (List.map D.int world.1)) from rfl)) ev_int q_t0_6) (ev_add (ev_fdivM (ev_var g 5) (ev_var g 1) q_t0_7) ev_int) q_t0_8) (ea_cons ev_int ea_nil))).eq (fr_int _)) (ev_ixLM (ev_var g 2) (ev_var g 6) q_t0_9) (sq__law_mul q_t0_10)) (sq__law_add q_total1)) (hbn 4) ?_)
        show SV X _ G _ [.dat (D.lst [D.lst (List.map D.int world.1), D.lst (List.map fr world.2.1), D.lst (List.map fr world.2.2.1), D.lst (List.map D.int world.2.2.2)]), .dat (D.int tables), .dat (D.lst (List.map fr s0.1)), .un, .dat (fr total1), .dat (D.int x0_1), .dat (D.int s0_4), .un] _
        obtain ⟨lengths, q_lengths, q_s0_2⟩ := bind_ok q_s0_2
        refine sv_cons (s_asgM g 2 (ev_catM ((ev_slLM (ev_var g 2) eo_none (eo_some (ev_var g 6)))).ls ((ev_slLM (ev_var g 2) (eo_some (ev_add (ev_var g 6) ev_int)) eo_none)).ls q_lengths) (hbn 2) ?_)
        show SV X _ G _ [.dat (D.lst [D.lst (List.map D.int world.1), D.lst (List.map fr world.2.1), D.lst (List.map fr world.2.2.1), D.lst (List.map D.int world.2.2.2)]), .dat (D.int tables), .own (List.map fr lengths), .un, .dat (fr total1), .dat (D.int x0_1), .dat (D.int s0_4), .un] _
        refine sv_freeze 2 (hbn 2) ?_
        show SV X _ G _ [.dat (D.lst [D.lst (List.map D.int world.1), D.lst (List.map fr world.2.1), D.lst (List.map fr world.2.2.1), D.lst (List.map D.int world.2.2.2)]), .dat (D.int tables), .dat (D.lst (List.map fr lengths)), .un, .dat (fr total1), .dat (D.int x0_1), .dat (D.int s0_4), .un] _
        obtain rfl := pure_ok q_s0_2
        exact sv_endW [.dat (D.lst [D.lst (List.map D.int world.1), D.lst (List.map fr world.2.1), D.lst (List.map fr world.2.2.1), D.lst (List.map D.int world.2.2.2)]), .dat (D.int tables), .dat (D.lst (List.map fr lengths)), .un, .dat (fr total1), .un, .un, .un] ⟨.inl rfl, .inl rfl, .inl rfl, .inr rfl, .inl rfl, .inr rfl, .inr rfl, .inr rfl, trivial⟩ (hwk _ _ trivial) rfl
    · show SV X _ G _ [.dat (D.lst [D.lst (List.map D.int world.1), D.lst (List.map fr world.2.1), D.lst (List.map fr world.2.2.1), D.lst (List.map D.int world.2.2.2)]), .dat (D.int tables), .dat (D.lst (List.map fr s0_1.1)), .un, .dat (fr s0_1.2), .un, .un, .un] _
      obtain rfl := pure_ok h
      exact sv_cons (s_ret (ev_var g 4) (endD rfl))
end
noncomputable def m__law_even_bill (world : (List Int) × (List Rat) × (List Rat) × (List Int)) (tables : Int) : Mo Rat := do
  let total ← pure (0 : Rat)
  let low ← pure (0 : Rat)
  let t0 ← rangeM (world.2.1.length : Int)
  let s0_1 ← foldMo (fun (s0 : Rat × Rat) (x0 : Int) => (do
      let t0_2 ← compMo (fun (x0_1 : Rat) => (do let t0_1 ← m__law_lt s0.2 x0_1; let b0 ← pure t0_1; bif b0 then Except.ok (some x0_1) else Except.ok none)) world.2.1
      let s0_3 ← (bif (decide ((0 : Int) < (t0_2.length : Int))) then (do
          let least ← idxM t0_2 (0 : Int)
          let s0_5 ← foldMo (fun (s0_4 : Rat) (x0_2 : Rat) => (do
              let least1 ← m__law_lesser s0_4 x0_2
              Except.ok least1 : Mo Rat)) least t0_2
          let t0_5 ← mulM (t0_2.length : Int) (if (t0_2.length : Int) > tables then (t0_2.length : Int) else tables)
          let t0_6 ← idxM world.1 (0 : Int)
          let t0_7 ← mulM t0_5 t0_6
          let cost ← m__law_low t0_7 tables
          let t0_9 ← m__law_sub s0_5 s0.2
          let t0_10 ← m__law_mul cost t0_9
          let total1 ← m__law_add s0.1 t0_10
          Except.ok (total1, s0_5)) else (do
          Except.ok (s0.1, s0.2)) : Mo (Rat × Rat))
      Except.ok (s0_3.1, s0_3.2) : Mo (Rat × Rat))) (total, low) t0
  Except.ok s0_1.1
def Sp__law_even_bill : PSpec := fun as res => ∃ (world : (List Int) × (List Rat) × (List Rat) × (List Int)) (tables : Int) (r : Rat), as = [.dat (D.lst [D.lst (List.map D.int world.1), D.lst (List.map fr world.2.1), D.lst (List.map fr world.2.2.1), D.lst (List.map D.int world.2.2.2)]), .dat (D.int tables)] ∧ m__law_even_bill world tables = .ok r ∧ res = .ret (.dat (fr r)) []
theorem sq__law_even_bill {world : (List Int) × (List Rat) × (List Rat) × (List Int)} {tables : Int} {r : Rat} (q : m__law_even_bill world tables = .ok r) : (Sp__law_even_bill) [.dat (D.lst [D.lst (List.map D.int world.1), D.lst (List.map fr world.2.1), D.lst (List.map fr world.2.2.1), D.lst (List.map D.int world.2.2.2)]), .dat (D.int tables)] (.ret (.dat (fr r)) []) := ⟨world, tables, r, rfl, q, rfl⟩
section
variable {M : Md} (T : Bn M) {f : Addr} {fd : FuncData}
include T
theorem ok__law_even_bill (c__law_lt : Fn M CX0 "_law_lt" 1 Sp_lt) (c__law_lesser : Fn M CX0 "_law_lesser" 2 Sp_min) (c__law_low : Fn M CX0 "_law_low" 1 Sp_low) (c__law_add : Fn M CX0 "_law_add" 2 Sp_plus) (c__law_mul : Fn M CX0 "_law_mul" 2 Sp_times) (c__law_sub : Fn M CX0 "_law_sub" 2 Sp_minus) (F : Fun M.K "_law_even_bill" "_law_even_bill" s__law_even_bill f fd) : FnOk M.P M.w M.K M.mg M.base CX0 3 f fd ["world", "tables"] (spOf M.K Sp__law_even_bill) := by
  refine fn_ok F sc__law_even_bill ?_ ?_ ?_
  · rintro as res ⟨_, _, _, rfl, _⟩; rfl
  · rintro as C ns ds os ⟨_, _, _, _, _, h⟩; cases h
  · rintro X W G as res g ⟨world, tables, r, rfl, h, rfl⟩ hbi
    unfold m__law_even_bill at h
    have hbn := nob hbi rfl
    have hwk := wk0 hbn
    show SV X _ G _ [.dat (D.lst [D.lst (List.map D.int world.1), D.lst (List.map fr world.2.1), D.lst (List.map fr world.2.2.1), D.lst (List.map D.int world.2.2.2)]), .dat (D.int tables), .un, .un, .un, .un, .un, .un, .un] _
    obtain ⟨total, q_total, h⟩ := bind_ok h
    refine sv_cons (s_asg g 2 ((((ev_tup (ea_cons ev_int (ea_cons ev_int ea_nil))).eq (fr_lit (by decide +kernel)))).eq (congrArg fr (pure_ok q_total))) (hbn 2) ?_)
    show SV X _ G _ [.dat (D.lst [D.lst (List.map D.int world.1), D.lst (List.map fr world.2.1), D.lst (List.map fr world.2.2.1), D.lst (List.map D.int world.2.2.2)]), .dat (D.int tables), .dat (fr total), .un, .un, .un, .un, .un, .un] _
    obtain ⟨low, q_low, h⟩ := bind_ok h
    refine sv_cons (s_asg g 3 ((((ev_tup (ea_cons ev_int (ea_cons ev_int ea_nil))).eq (fr_lit (by decide +kernel)))).eq (congrArg fr (pure_ok q_low))) (hbn 3) ?_)
    show SV X _ G _ [.dat (D.lst [D.lst (List.map D.int world.1), D.lst (List.map fr world.2.1), D.lst (List.map fr world.2.2.1), D.lst (List.map D.int world.2.2.2)]), .dat (D.int tables), .dat (fr total), .dat (fr low), .un, .un, .un, .un, .un] _
    obtain ⟨t0, q_t0, h⟩ := bind_ok h
    obtain ⟨s0_1, q_s0_1, h⟩ := bind_ok h
    refine sv_forM g (fun (s0 : Rat × Rat) => [.dat (D.lst [D.lst (List.map D.int world.1), D.lst (List.map fr world.2.1), D.lst (List.map fr world.2.2.1), D.lst (List.map D.int world.2.2.2)]), .dat (D.int tables), .dat (fr s0.1), .dat (fr s0.2), .un, .un, .un, .un, .un]) (ei_rangeM g T.range (ev_lenLM g T.len (ev_ixL (ev_var g 0) ev_int (show _ = some (D.lst (List.map fr world.2.1)) from rfl))) q_t0) q_s0_1 rfl (fun s0 x0 s0_2 q_s0_2 => ?_) ?_
    · refine ⟨_, _, (ag_name g 4 (hbn 4)), ?_⟩
      show SV X _ G _ [.dat (D.lst [D.lst (List.map D.int world.1), D.lst (List.map fr world.2.1), D.lst (List.map fr world.2.2.1), D.lst (List.map D.int world.2.2.2)]), .dat (D.int tables), .dat (fr s0.1), .dat (fr s0.2), .dat (D.int x0), .un, .un, .un, .un] _
      obtain ⟨t0_2, q_t0_2, q_s0_2⟩ := bind_ok q_s0_2
      refine sv_cons (s_asgLcFo g 5 fr [("length", 6)] [6] [.dat (D.lst [D.lst (List.map D.int world.1), D.lst (List.map fr world.2.1), D.lst (List.map fr world.2.2.1), D.lst (List.map D.int world.2.2.2)]), .dat (D.int tables), .dat (fr s0.1), .dat (fr s0.2), .dat (D.int x0), .un, .un, .un, .un] (fun (x0_1 : Rat) => [.dat (D.lst [D.lst (List.map D.int world.1), D.lst (List.map fr world.2.1), D.lst (List.map fr world.2.2.1), D.lst (List.map D.int world.2.2.2)]), .dat (D.int tables), .dat (fr s0.1), .dat (fr s0.2), .dat (D.int x0), .un, .dat (fr x0_1), .un, .un]) (hbn 5) (fun v _ => hbn v) (ei_list (ev_ixL (ev_var g 0) ev_int (show _ = some (D.lst (List.map fr world.2.1)) from rfl))) q_t0_2 rfl (fun _ => rfl) (fun x0_1 o hf => by obtain ⟨t0_1, q_t0_1, hf⟩ := bind_ok hf; obtain ⟨b0, q_b0, hf⟩ := bind_ok hf; cases b0 with | false => (obtain rfl := pure_ok hf; exact ⟨fun Y1 G2 g2 hG => ⟨(ag_name g2 6 (bor_of hG (hbn 6))), ET.eq (et_val (ev_call2 g2 c__law_lt (ev_var g2 3) (ev_var g2 6) (sq__law_lt q_t0_1))) (pure_ok q_b0)⟩, fun y e => by cases e⟩) | true => (replace hf := cond_t rfl hf;  obtain rfl := pure_ok hf; exact ⟨fun Y1 G2 g2 hG => ⟨(ag_name g2 6 (bor_of hG (hbn 6))), ET.eq (et_val (ev_call2 g2 c__law_lt (ev_var g2 3) (ev_var g2 6) (sq__law_lt q_t0_1))) (pure_ok q_b0)⟩, fun y e => by cases e; exact (fun Y1 G2 g2 hG => (ev_var g2 6))⟩)) ?_)
      show SV X _ G _ [.dat (D.lst [D.lst (List.map D.int world.1), D.lst (List.map fr world.2.1), D.lst (List.map fr world.2.2.1), D.lst (List.map D.int world.2.2.2)]), .dat (D.int tables), .dat (fr s0.1), .dat (fr s0.2), .dat (D.int x0), .own (List.map fr t0_2), .un, .un, .un] _
      refine sv_freeze 5 (hbn 5) ?_
      show SV X _ G _ [.dat (D.lst [D.lst (List.map D.int world.1), D.lst (List.map fr world.2.1), D.lst (List.map fr world.2.2.1), D.lst (List.map D.int world.2.2.2)]), .dat (D.int tables), .dat (fr s0.1), .dat (fr s0.2), .dat (D.int x0), .dat (D.lst (List.map fr t0_2)), .un, .un, .un] _
      obtain ⟨s0_3, q_s0_3, q_s0_2⟩ := bind_ok q_s0_2
      refine sv_ifJ (decide ((0 : Int) < (t0_2.length : Int))) [.dat (D.lst [D.lst (List.map D.int world.1), D.lst (List.map fr world.2.1), D.lst (List.map fr world.2.2.1), D.lst (List.map D.int world.2.2.2)]), .dat (D.int tables), .dat (fr s0_3.1), .dat (fr s0_3.2), .dat (D.int x0), .dat (D.lst (List.map fr t0_2)), .un, .un, .un] (et_gt (ev_lenLM g T.len (ev_var g 5)) ev_int) (fun hc => ?_) (fun hc => ?_) ?_
      · replace q_s0_3 := cond_t hc q_s0_3
        obtain ⟨least, q_least, q_s0_3⟩ := bind_ok q_s0_3
        refine sv_cons (s_asg g 7 (ev_ixLM (ev_var g 5) ev_int q_least) (hbn 7) ?_)
        show SV X _ G _ [.dat (D.lst [D.lst (List.map D.int world.1), D.lst (List.map fr world.2.1), D.lst (List.map fr world.2.2.1), D.lst (List.map D.int world.2.2.2)]), .dat (D.int tables), .dat (fr s0.1), .dat (fr s0.2), .dat (D.int x0), .dat (D.lst (List.map fr t0_2)), .un, .dat (fr least), .un] _
        obtain ⟨s0_5, q_s0_5, q_s0_3⟩ := bind_ok q_s0_3
        refine sv_forM g (fun (s0_4 : Rat) => [.dat (D.lst [D.lst (List.map D.int world.1), D.lst (List.map fr world.2.1), D.lst (List.map fr world.2.2.1), D.lst (List.map D.int world.2.2.2)]), .dat (D.int tables), .dat (fr s0.1), .dat (fr s0.2), .dat (D.int x0), .dat (D.lst (List.map fr t0_2)), .un, .dat (fr s0_4), .un]) (ei_list (ev_var g 5)) q_s0_5 rfl (fun s0_4 x0_2 s0_6 q_s0_6 => ?_) ?_
        · refine ⟨_, _, (ag_name g 6 (hbn 6)), ?_⟩
          show SV X _ G _ [.dat (D.lst [D.lst (List.map D.int world.1), D.lst (List.map fr world.2.1), D.lst (List.map fr world.2.2.1), D.lst (List.map D.int world.2.2.2)]), .dat (D.int tables), .dat (fr s0.1), .dat (fr s0.2), .dat (D.int x0), .dat (D.lst (List.map fr t0_2)), .dat (fr x0_2), .dat (fr s0_4), .un] _
          obtain ⟨least1, q_least1, q_s0_6⟩ := bind_ok q_s0_6
          refine sv_cons (s_asg g 7 (ev_call2 g c__law_lesser (ev_var g 7) (ev_var g 6) (sq__law_lesser q_least1)) (hbn 7) ?_)
          show SV X _ G _ [.dat (D.lst [D.lst (List.map D.int world.1), D.lst (List.map fr world.2.1), D.lst (List.map fr world.2.2.1), D.lst (List.map D.int world.2.2.2)]), .dat (D.int tables), .dat (fr s0.1), .dat (fr s0.2), .dat (D.int x0), .dat (D.lst (List.map fr t0_2)), .dat (fr x0_2), .dat (fr least1), .un] _
          obtain rfl := pure_ok q_s0_6
          exact sv_endW [.dat (D.lst [D.lst (List.map D.int world.1), D.lst (List.map fr world.2.1), D.lst (List.map fr world.2.2.1), D.lst (List.map D.int world.2.2.2)]), .dat (D.int tables), .dat (fr s0.1), .dat (fr s0.2), .dat (D.int x0), .dat (D.lst (List.map fr t0_2)), .un, .dat (fr least1), .un] ⟨.inl rfl, .inl rfl, .inl rfl, .inl rfl, .inl rfl, .inl rfl, .inr rfl, .inl rfl, .inr rfl, trivial⟩ (hwk _ _ trivial) rfl
        · show SV X _ G _ [.dat (D.lst [D.lst (List.map D.int world.1), D.lst (List.map fr world.2.1), D.lst (List.map fr world.2.2.1), D.lst (List.map D.int world.2.2.2)]), .dat (D.int tables), .dat (fr s0.1), .dat (fr s0.2), .dat (D.int x0), .dat (D.lst (List.map fr t0_2)), .un, .dat (fr s0_5), .un] _
          obtain ⟨t0_5, q_t0_5, q_s0_3⟩ := bind_ok q_s0_3
          obtain ⟨t0_6, q_t0_6, q_s0_3⟩ := bind_ok q_s0_3
          obtain ⟨t0_7, q_t0_7, q_s0_3⟩ := bind_ok q_s0_3
          obtain ⟨cost, q_cost, q_s0_3⟩ := bind_ok q_s0_3
          refine sv_cons (s_asg g 8 (ev_call2 g c__law_low (ev_mulM (ev_mulM (ev_lenLM g T.len (ev_var g 5)) (ev_max g T.max (ea_cons (ev_var g 1) (ea_cons (ev_lenLM g T.len (ev_var g 5)) ea_nil))) q_t0_5) (ev_ixLM (ev_ixL (ev_var g 0) ev_int (show _ = some (D.lst (List.map D.int world.1)) from rfl)) ev_int q_t0_6) q_t0_7) (ev_var g 1) (sq__law_low q_cost)) (hbn 8) ?_)
          show SV X _ G _ [.dat (D.lst [D.lst (List.map D.int world.1), D.lst (List.map fr world.2.1), D.lst (List.map fr world.2.2.1), D.lst (List.map D.int world.2.2.2)]), .dat (D.int tables), .dat (fr s0.1), .dat (fr s0.2), .dat (D.int x0), .dat (D.lst (List.map fr t0_2)), .un, .dat (fr s0_5), .dat (fr cost)] _
          obtain ⟨t0_9, q_t0_9, q_s0_3⟩ := bind_ok q_s0_3
          obtain ⟨t0_10, q_t0_10, q_s0_3⟩ := bind_ok q_s0_3
          obtain ⟨total1, q_total1, q_s0_3⟩ := bind_ok q_s0_3
          refine sv_cons (s_asg g 2 (ev_call2 g c__law_add (ev_var g 2) (ev_call2 g c__law_mul (ev_var g 8) (ev_call2 g c__law_sub (ev_var g 7) (ev_var g 3) (sq__law_sub q_t0_9)) (sq__law_mul q_t0_10)) (sq__law_add q_total1)) (hbn 2) ?_)
          show SV X _ G _ [.dat (D.lst [D.lst (List.map D.int world.1), D.lst (List.map fr world.2.1), D.lst (List.map fr world.2.2.1), D.lst (List.map D.int world.2.2.2)]), .dat (D.int tables), .dat (fr total1), .dat (fr s0.2), .dat (D.int x0), .dat (D.lst (List.map fr t0_2)), .un, .dat (fr s0_5), .dat (fr cost)] _
          refine sv_cons (s_asg g 3 (ev_var g 7) (hbn 3) ?_)
          show SV X _ G _ [.dat (D.lst [D.lst (List.map D.int world.1), D.lst (List.map fr world.2.1), D.lst (List.map fr world.2.2.1), D.lst (List.map D.int world.2.2.2)]), .dat (D.int tables), .dat (fr total1), .dat (fr s0_5), .dat (D.int x0), .dat (D.lst (List.map fr t0_2)), .un, .dat (fr s0_5), .dat (fr cost)] _
          obtain rfl := pure_ok q_s0_3
          exact sv_endW [.dat (D.lst [D.lst (List.map D.int world.1), D.lst (List.map fr world.2.1), D.lst (List.map fr world.2.2.1), D.lst (List.map D.int world.2.2.2)]), .dat (D.int tables), .dat (fr total1), .dat (fr s0_5), .dat (D.int x0), .dat (D.lst (List.map fr t0_2)), .un, .un, .un] ⟨.inl rfl, .inl rfl, .inl rfl, .inl rfl, .inl rfl, .inl rfl, .inr rfl, .inr rfl, .inr rfl, trivial⟩ (hwk _ _ trivial) rfl
      · replace q_s0_3 := cond_f hc q_s0_3
        obtain rfl := pure_ok q_s0_3
        exact sv_endW [.dat (D.lst [D.lst (List.map D.int world.1), D.lst (List.map fr world.2.1), D.lst (List.map fr world.2.2.1), D.lst (List.map D.int world.2.2.2)]), .dat (D.int tables), .dat (fr s0.1), .dat (fr s0.2), .dat (D.int x0), .dat (D.lst (List.map fr t0_2)), .un, .un, .un] ⟨.inl rfl, .inl rfl, .inl rfl, .inl rfl, .inl rfl, .inl rfl, .inr rfl, .inr rfl, .inr rfl, trivial⟩ (hwk _ _ trivial) rfl
      · show SV X _ G _ [.dat (D.lst [D.lst (List.map D.int world.1), D.lst (List.map fr world.2.1), D.lst (List.map fr world.2.2.1), D.lst (List.map D.int world.2.2.2)]), .dat (D.int tables), .dat (fr s0_3.1), .dat (fr s0_3.2), .dat (D.int x0), .dat (D.lst (List.map fr t0_2)), .un, .un, .un] _
        obtain rfl := pure_ok q_s0_2
        exact sv_endW [.dat (D.lst [D.lst (List.map D.int world.1), D.lst (List.map fr world.2.1), D.lst (List.map fr world.2.2.1), D.lst (List.map D.int world.2.2.2)]), .dat (D.int tables), .dat (fr s0_3.1), .dat (fr s0_3.2), .un, .un, .un, .un, .un] ⟨.inl rfl, .inl rfl, .inl rfl, .inl rfl, .inr rfl, .inr rfl, .inr rfl, .inr rfl, .inr rfl, trivial⟩ (hwk _ _ trivial) rfl
    · show SV X _ G _ [.dat (D.lst [D.lst (List.map D.int world.1), D.lst (List.map fr world.2.1), D.lst (List.map fr world.2.2.1), D.lst (List.map D.int world.2.2.2)]), .dat (D.int tables), .dat (fr s0_1.1), .dat (fr s0_1.2), .un, .un, .un, .un, .un] _
      obtain rfl := pure_ok h
      exact sv_cons (s_ret (ev_var g 2) (endD rfl))
end

end LW

namespace LW
open PySem L2 DL VC
/-! ### sums over a sorted list -/
def insR (ys : List Rat) (x : Rat) : List Rat := ys.filter (fun y => decide (y ≤ x)) ++ [x] ++ ys.drop (ys.filter (fun y => decide (y ≤ x))).length
def sortR (xs : List Rat) : List Rat := xs.foldl insR []
def Srt (ys : List Rat) : Prop := ys.Pairwise (· ≤ ·)
theorem srt_cut {x : Rat} : ∀ {ys : List Rat}, Srt ys → ys = ys.filter (fun y => decide (y ≤ x)) ++ ys.drop (ys.filter (fun y => decide (y ≤ x))).length ∧ ∀ y ∈ ys.drop (ys.filter (fun y => decide (y ≤ x))).length, x < y
  | [], _ => ⟨rfl, fun y h => by cases h⟩
  | y :: ys, h => by
    obtain ⟨h1, h2⟩ := List.pairwise_cons.mp h
    by_cases q : y ≤ x
    · rw [List.filter_cons_of_pos (by simpa using q)]
      obtain ⟨a, b⟩ := srt_cut (x := x) (ys := ys) h2
      rw [List.length_cons, List.drop_succ_cons, List.cons_append, ← a]
      exact ⟨rfl, b⟩
    · have nx : ∀ z ∈ y :: ys, ¬ z ≤ x := fun z hz => by
        rcases List.mem_cons.mp hz with rfl | hz
        · exact q
        · have := h1 z hz; grind
      have e : (y :: ys).filter (fun y => decide (y ≤ x)) = [] := List.filter_eq_nil_iff.mpr fun z hz => by simpa using nx z hz
      rw [e]
      exact ⟨rfl, fun z hz => by have := nx z (by simpa using hz); grind⟩
theorem insR_srt {ys : List Rat} {x : Rat} (h : Srt ys) : Srt (insR ys x) := by
  obtain ⟨a, b⟩ := srt_cut (x := x) h
  unfold insR Srt
  have hp : ((ys.filter fun y => decide (y ≤ x)) ++ ys.drop (ys.filter fun y => decide (y ≤ x)).length).Pairwise (· ≤ ·) := by rw [← a]; exact h
  obtain ⟨p1, p2, p3⟩ := List.pairwise_append.mp hp
  rw [List.append_assoc]
  refine List.pairwise_append.mpr ⟨p1, ?_, ?_⟩
  · rw [List.singleton_append]
    exact List.pairwise_cons.mpr ⟨fun z hz => Rat.le_of_lt (b z hz), p2⟩
  · intro u hu v hv
    have hu' : u ≤ x := by simpa using (List.mem_filter.mp hu).2
    rw [List.singleton_append] at hv
    rcases List.mem_cons.mp hv with rfl | hv
    · exact hu'
    · exact Rat.le_trans hu' (Rat.le_of_lt (b v hv))
theorem insR_perm {ys : List Rat} {x : Rat} (h : Srt ys) : (insR ys x).Perm (x :: ys) := by
  obtain ⟨a, _⟩ := srt_cut (x := x) h
  unfold insR
  rw [List.append_assoc, List.singleton_append]
  refine List.perm_middle.trans ?_
  rw [← a]
theorem sort_inv : ∀ (xs ys : List Rat), Srt ys → Srt (xs.foldl insR ys) ∧ (xs.foldl insR ys).Perm (xs ++ ys)
  | [], ys, h => ⟨h, List.Perm.refl _⟩
  | x :: xs, ys, h => by
    obtain ⟨a, b⟩ := sort_inv xs (insR ys x) (insR_srt h)
    refine ⟨a, b.trans ?_⟩
    exact ((insR_perm h).append_left xs).trans List.perm_middle
theorem sort_srt (xs : List Rat) : Srt (sortR xs) := (sort_inv xs [] List.Pairwise.nil).1
theorem sort_perm (xs : List Rat) : (sortR xs).Perm xs := by
  have := (sort_inv xs [] List.Pairwise.nil).2
  rw [List.append_nil] at this; exact this
theorem sort_len (xs : List Rat) : (sortR xs).length = xs.length := (sort_perm xs).length_eq
/-- the program's order is this one -/
theorem ins_map (xs : List Rat) (order : List Nat) (p : Nat) : (insF xs order p).map (fun q => xs.getD q 0) = insR (order.map fun q => xs.getD q 0) (xs.getD p 0) := by
  unfold insF insR
  rw [List.map_append, List.map_append, List.map_drop, List.filter_map, List.length_map]
  rfl
theorem ascP_map (xs : List Rat) : ∀ i, i ≤ xs.length → (ascP xs i).map (fun q => xs.getD q 0) = sortR (xs.take i)
  | 0, _ => rfl
  | i + 1, h => by
    rw [ascP_succ, ins_map, ascP_map xs i (by omega)]
    have e : xs.take (i + 1) = xs.take i ++ [xs.getD i 0] := by
      rw [List.take_succ, List.getD_eq_getElem?_getD, List.getElem?_eq_getElem (by omega)]; rfl
    rw [e]
    unfold sortR
    rw [List.foldl_append]; rfl
theorem asc_map (xs : List Rat) : (ascF xs).map (fun q => xs.getD q 0) = sortR xs := by
  unfold ascF
  rw [ascP_map xs xs.length (Nat.le_refl _), List.take_length]
theorem asc_at (xs : List Rat) {i : Nat} (hi : i < xs.length) : xs.getD ((ascF xs).getD i 0) 0 = (sortR xs).getD i 0 := by
  have hl : (ascF xs).length = xs.length := by unfold ascF; rw [ascP_len]
  rw [← asc_map, List.getD_eq_getElem?_getD (l := List.map _ _), List.getElem?_map, List.getD_eq_getElem?_getD (l := ascF xs), List.getElem?_eq_getElem (by omega)]
  rfl
/-- the layers of a sorted list, each with its weight -/
def lay (c : Nat → Rat) : Rat → List Rat → Rat
  | _, [] => 0
  | low, y :: ys => c (ys.length + 1) * (y - low) + lay c y ys
theorem lay_skip (c : Nat → Rat) {low : Rat} : ∀ {ys : List Rat}, Srt ys → (∀ y ∈ ys, low ≤ y) → lay c low ys = lay c low (ys.filter fun y => decide (low < y))
  | [], _, _ => rfl
  | y :: ys, h, hl => by
    obtain ⟨h1, h2⟩ := List.pairwise_cons.mp h
    by_cases q : low < y
    · have e : (y :: ys).filter (fun y => decide (low < y)) = y :: ys := List.filter_eq_self.mpr fun z hz => by
        rcases List.mem_cons.mp hz with rfl | hz
        · simpa using q
        · have := h1 z hz; simp; grind
      rw [e]
    · have ey : y = low := Rat.le_antisymm (by grind) (hl y (List.mem_cons_self ..))
      rw [List.filter_cons_of_neg (by simpa using q), ← lay_skip c h2 fun z hz => hl z (List.mem_cons_of_mem _ hz)]
      show c (ys.length + 1) * (y - low) + lay c y ys = _
      rw [ey]; grind
theorem lay_le {c d : Nat → Rat} {F : Rat} {n : Nat} (hc : ∀ m, 1 ≤ m → m ≤ n → c m ≤ F * d m) : ∀ {ys : List Rat} {low : Rat}, Srt ys → (∀ y ∈ ys, low ≤ y) → ys.length ≤ n → lay c low ys ≤ F * lay d low ys
  | [], low, _, _, _ => by show (0 : Rat) ≤ F * 0; grind
  | y :: ys, low, h, hl, hn => by
    obtain ⟨h1, h2⟩ := List.pairwise_cons.mp h
    have ih := lay_le hc (ys := ys) (low := y) h2 h1 (by rw [List.length_cons] at hn; omega)
    have a := hc (ys.length + 1) (by omega) hn
    have b := hl y (List.mem_cons_self ..)
    show c (ys.length + 1) * (y - low) + lay c y ys ≤ F * (d (ys.length + 1) * (y - low) + lay d y ys)
    have := Rat.mul_nonneg (show 0 ≤ F * d (ys.length + 1) - c (ys.length + 1) by grind) (show 0 ≤ y - low by grind)
    grind
theorem lay_rep (c : Nat → Rat) (L : Rat) : ∀ n : Nat, lay c L (List.replicate n L) = 0
  | 0 => rfl
  | n + 1 => by
    show c ((List.replicate n L).length + 1) * (L - L) + lay c L (List.replicate n L) = 0
    rw [lay_rep c L n]; grind
/-- two weights of a layer -/
def cEven (t : Int) (m : Nat) : Rat := (m : Rat) * rmax 1 (mkRat m t.toNat)
def cBest (t : Int) (m : Nat) : Rat := (roundsF m t : Int)
theorem rounds_succ (m : Nat) (t : Int) : roundsF (m + 1) t = roundsF m t + ((1 + (m : Int)) + t - 1) / t := by
  unfold roundsF
  rw [List.range_succ, List.map_append, List.sum_append]; simp
/-- the best bill, from the greatest down -/
def bsum (t : Int) : List Rat → Rat
  | [] => 0
  | y :: ys => ((((ys.length + 1 : Nat) : Int) + t - 1) / t : Int) * y + bsum t ys
theorem lay_best (t : Int) : ∀ (ys : List Rat) (low : Rat), lay (cBest t) low ys = bsum t ys - low * (roundsF ys.length t : Int)
  | [], low => by
    show (0 : Rat) = 0 - low * ((roundsF 0 t : Int) : Rat)
    have : ((roundsF 0 t : Int) : Rat) = 0 := rfl
    rw [this]; grind
  | y :: ys, low => by
    show cBest t (ys.length + 1) * (y - low) + lay (cBest t) y ys = ((((ys.length + 1 : Nat) : Int) + t - 1) / t : Int) * y + bsum t ys - low * (roundsF (ys.length + 1) t : Int)
    rw [lay_best t ys y]
    unfold cBest
    rw [rounds_succ, Rat.intCast_add]
    have e : (1 + (ys.length : Int)) + t - 1 = ((ys.length + 1 : Nat) : Int) + t - 1 := by omega
    rw [e]; grind
theorem best_sum (w t : Int) (xs : List Rat) : bestF w t xs = (w : Rat) * bsum t (sortR xs) := by
  have key : ∀ (ys : List Rat) (n : Nat), ys.length = n → rsum ((List.range n).map fun (i : Nat) => ((w * (((n : Int) - i + t - 1) / t) : Int) : Rat) * ys.getD i 0) = (w : Rat) * bsum t ys := by
    intro ys
    induction ys with
    | nil => rintro n rfl; show rsum [] = (w : Rat) * 0; rw [rsum_nil]; grind
    | cons y ys ih =>
      rintro n rfl
      rw [List.length_cons, List.range_succ_eq_map, List.map_cons, rsum_cons, List.map_map]
      have := ih ys.length rfl
      have e : (List.map ((fun (i : Nat) => ((w * ((((ys.length + 1 : Nat) : Int) - i + t - 1) / t) : Int) : Rat) * (y :: ys).getD i 0) ∘ Nat.succ) (List.range ys.length)) = (List.range ys.length).map fun (i : Nat) => ((w * (((ys.length : Int) - i + t - 1) / t) : Int) : Rat) * ys.getD i 0 := by
        refine List.map_congr_left fun i _ => ?_
        show ((w * ((((ys.length + 1 : Nat) : Int) - ((i + 1 : Nat) : Int) + t - 1) / t) : Int) : Rat) * (y :: ys).getD (i + 1) 0 = _
        rw [show (((ys.length + 1 : Nat) : Int) - ((i + 1 : Nat) : Int)) = (ys.length : Int) - i from by omega, List.getD_cons_succ]
      rw [e, this]
      show ((w * ((((ys.length + 1 : Nat) : Int) - ((0 : Nat) : Int) + t - 1) / t) : Int) : Rat) * y + _ = (w : Rat) * (((((ys.length + 1 : Nat) : Int) + t - 1) / t : Int) * y + bsum t ys)
      rw [Rat.intCast_mul, show (((ys.length + 1 : Nat) : Int) - ((0 : Nat) : Int)) = ((ys.length + 1 : Nat) : Int) from by omega]
      grind
  have := key (sortR xs) xs.length (sort_len xs)
  rw [← this]
  unfold bestF
  congr 1
  refine List.map_congr_left fun i hi => ?_
  unfold costL
  rw [asc_at xs (List.mem_range.mp hi)]
/-- the even bill by layers -/
theorem insF_perm (xs : List Rat) {order : List Nat} {p : Nat} (h : Srt (order.map fun q => xs.getD q 0)) : (insF xs order p).Perm (p :: order) := by
  have e : order = order.filter (fun q => decide (xs.getD q 0 ≤ xs.getD p 0)) ++ order.drop (order.filter (fun q => decide (xs.getD q 0 ≤ xs.getD p 0))).length := by
    induction order with
    | nil => rfl
    | cons q order ih =>
      obtain ⟨h1, h2⟩ := List.pairwise_cons.mp h
      by_cases c : xs.getD q 0 ≤ xs.getD p 0
      · rw [List.filter_cons_of_pos (by simpa using c), List.length_cons, List.drop_succ_cons, List.cons_append, ← ih h2]
      · have e : (q :: order).filter (fun q => decide (xs.getD q 0 ≤ xs.getD p 0)) = [] := List.filter_eq_nil_iff.mpr fun z hz => by
          rcases List.mem_cons.mp hz with rfl | hz
          · simpa using c
          · have := h1 (xs.getD z 0) (List.mem_map.mpr ⟨z, hz, rfl⟩)
            have : ¬ xs.getD z 0 ≤ xs.getD p 0 := by grind
            simpa using this
        rw [e]; rfl
  unfold insF
  rw [List.append_assoc, List.singleton_append]
  refine List.perm_middle.trans ?_
  rw [← e]
theorem asc_nodup (xs : List Rat) : ∀ i, i ≤ xs.length → (ascP xs i).Perm (List.range i)
  | 0, _ => List.Perm.refl _
  | i + 1, h => by
    rw [ascP_succ]
    have hs : Srt ((ascP xs i).map fun q => xs.getD q 0) := by rw [ascP_map xs i (by omega)]; exact sort_srt _
    refine (insF_perm xs hs).trans ?_
    rw [List.range_succ]
    exact ((asc_nodup xs i (by omega)).cons i).trans (List.perm_append_singleton ..).symm
theorem rsum_set : ∀ {l : List Rat} {p : Nat} {v : Rat}, p < l.length → l.getD p 0 = 0 → rsum (l.set p v) = rsum l + v
  | [], p, v, h, _ => by simp at h
  | x :: l, 0, v, _, h0 => by
    have : x = 0 := h0
    rw [List.set_cons_zero, rsum_cons, rsum_cons, this]; grind
  | x :: l, p + 1, v, h, h0 => by
    rw [List.set_cons_succ, rsum_cons, rsum_cons, rsum_set (l := l) (p := p) (v := v) (by simpa using h) (by simpa using h0)]; grind
theorem set_other {l : List Rat} {p q : Nat} {v : Rat} (h : p ≠ q) : (l.set p v).getD q 0 = l.getD q 0 := by
  rw [List.getD_eq_getElem?_getD, List.getElem?_set_ne h, List.getD_eq_getElem?_getD]
theorem even_lay {xs : List Rat} {t : Int} : ∀ i, i ≤ xs.length →
    (evenP xs t i).ends.length = xs.length ∧ (∀ q, q < xs.length → q ∉ (ascF xs).take i → (evenP xs t i).ends.getD q 0 = 0) ∧ (evenP xs t i).low = (if i = 0 then 0 else (sortR xs).getD (i - 1) 0) ∧
      rsum (evenP xs t i).ends + ((xs.length - i : Nat) : Rat) * (evenP xs t i).time + lay (cEven t) (evenP xs t i).low ((sortR xs).drop i) = lay (cEven t) 0 (sortR xs)
  | 0, _ => by
    refine ⟨List.length_replicate .., fun q hq _ => ?_, rfl, ?_⟩
    · show (List.replicate xs.length (0 : Rat)).getD q 0 = 0
      rw [List.getD_eq_getElem?_getD, List.getElem?_replicate]; split <;> rfl
    · show rsum (List.replicate xs.length (0 : Rat)) + ((xs.length - 0 : Nat) : Rat) * 0 + lay (cEven t) 0 ((sortR xs).drop 0) = _
      have : rsum (List.replicate xs.length (0 : Rat)) = 0 := by
        generalize xs.length = n
        induction n with
        | zero => rfl
        | succ n ih => rw [List.replicate_succ, rsum_cons, ih]; grind
      rw [this, List.drop_zero]; grind
  | i + 1, h => by
    obtain ⟨l, z, lw, s⟩ := even_lay (xs := xs) (t := t) i (by omega)
    have hi : i < xs.length := by omega
    have hal : (ascF xs).length = xs.length := by unfold ascF; rw [ascP_len]
    have hnd : (ascF xs).Nodup := ((asc_nodup xs xs.length (Nat.le_refl _)).nodup_iff).mpr (List.nodup_range)
    have hpl : (ascF xs).getD i 0 < xs.length := (asc_get hi).2
    have hpi : (ascF xs)[i]? = some ((ascF xs).getD i 0) := (asc_get hi).1
    have hy := asc_at xs hi
    have hsl := sort_len xs
    rw [evenP_succ]
    have hd : (sortR xs).drop i = (sortR xs).getD i 0 :: (sortR xs).drop (i + 1) := by
      rw [List.drop_eq_getElem_cons (show i < (sortR xs).length by omega), List.getD_eq_getElem?_getD, List.getElem?_eq_getElem (show i < (sortR xs).length by omega)]; rfl
    have hnot : (ascF xs).getD i 0 ∉ (ascF xs).take i := fun hm => by
      obtain ⟨j, hj⟩ := List.mem_iff_getElem?.mp hm
      rw [List.getElem?_take] at hj
      split at hj
      · rename_i hji
        have h1 := List.getElem?_eq_some_iff.mp hj
        have h2 := List.getElem?_eq_some_iff.mp hpi
        exact List.pairwise_iff_getElem.mp hnd j i h1.1 h2.1 hji (h1.2.trans h2.2.symm)
      · cases hj
    have h0 := z _ hpl hnot
    have e1 : (stepE xs t (evenP xs t i) i).ends = (evenP xs t i).ends.set ((ascF xs).getD i 0) (stepE xs t (evenP xs t i) i).time := rfl
    have e2 : (stepE xs t (evenP xs t i) i).time = (evenP xs t i).time + ((sortR xs).getD i 0 - (evenP xs t i).low) * rmax 1 (mkRat ((xs.length : Int) - i) t.toNat) := by rw [← hy]; rfl
    have e3 : (stepE xs t (evenP xs t i) i).low = (sortR xs).getD i 0 := by rw [← hy]; rfl
    refine ⟨?_, fun q hq hm => ?_, ?_, ?_⟩
    · rw [e1, List.length_set]; exact l
    · have hq2 : q ∉ (ascF xs).take i := fun hm2 => hm (by rw [List.take_succ]; exact List.mem_append_left _ hm2)
      have hne : (ascF xs).getD i 0 ≠ q := fun e => hm (by rw [List.take_succ, hpi, e]; simp)
      rw [e1, set_other hne]; exact z q hq hq2
    · rw [e3, if_neg (by omega)]; rfl
    · rw [e1, rsum_set (show (ascF xs).getD i 0 < (evenP xs t i).ends.length by rw [l]; exact hpl) h0, e2, e3]
      rw [hd] at s
      have sl : ((sortR xs).drop (i + 1)).length + 1 = xs.length - i := by rw [List.length_drop]; omega
      have s' : rsum (evenP xs t i).ends + ((xs.length - i : Nat) : Rat) * (evenP xs t i).time + (cEven t (((sortR xs).drop (i + 1)).length + 1) * ((sortR xs).getD i 0 - (evenP xs t i).low) + lay (cEven t) ((sortR xs).getD i 0) ((sortR xs).drop (i + 1))) = lay (cEven t) 0 (sortR xs) := s
      rw [sl] at s'
      unfold cEven at s' ⊢
      have c1 : (((xs.length - i : Nat) : Nat) : Int) = (xs.length : Int) - i := by omega
      rw [c1] at s'
      have c2 : ((xs.length - i : Nat) : Rat) = ((xs.length - (i + 1) : Nat) : Rat) + 1 := by
        rw [show xs.length - i = (xs.length - (i + 1)) + 1 from by omega, Rat.natCast_add]; rfl
      rw [c2] at s'
      rw [← s']; grind
theorem rsum_scale (w : Rat) : ∀ l : List Rat, rsum (l.map fun e => w * e) = w * rsum l
  | [] => by rw [List.map_nil, rsum_nil]; grind
  | x :: l => by rw [List.map_cons, rsum_cons, rsum_cons, rsum_scale w l]; grind
theorem bill_lay (w t : Int) (xs : List Rat) : billF w t xs = (w : Rat) * lay (cEven t) 0 (sortR xs) := by
  obtain ⟨_, _, _, s⟩ := even_lay (xs := xs) (t := t) xs.length (Nat.le_refl _)
  unfold billF evenF
  rw [rsum_scale, ← s, Nat.sub_self]
  rw [show (sortR xs).drop xs.length = [] from by rw [← sort_len xs]; exact List.drop_length ..]
  show _ = (w : Rat) * (rsum (evenP xs t xs.length).ends + ((0 : Nat) : Rat) * (evenP xs t xs.length).time + 0)
  have : ((0 : Nat) : Rat) = 0 := rfl
  rw [this]; grind
theorem best_lay (w t : Int) (xs : List Rat) : bestF w t xs = (w : Rat) * lay (cBest t) 0 (sortR xs) := by
  rw [best_sum, lay_best]
  grind

end LW

namespace LW
open PySem L2 DL VC
noncomputable def m_law (script : List Int) : Mo Bool := do
  let t0 ← m__law_cell script (0 : Int)
  let t0_1 ← repM ([(997 : Int)] : List Int) (100 : Int)
  let row ← m__law_digits t0 t0_1
  let t0_3 ← m__law_digit row (0 : Int) (8 : Int)
  let tables ← pure ((1 : Int) + t0_3.1)
  let t0_4 ← m__law_digit row t0_3.2 (2 : Int)
  let t0_5 ← idxM ([(10 : Int), (100 : Int)] : List Int) t0_4.1
  let t0_6 ← m__law_digit row t0_4.2 t0_5
  let number ← pure ((1 : Int) + t0_6.1)
  let told ← m_many_factor number tables
  let t0_8 ← m__law_is_fraction told
  let t0_12 ← orM (!t0_8) (do let t0_9 ← m__law_many_factor number tables; let t0_11 ← orM (!(decide (told = t0_9))) (do let t0_10 ← m__law_lt told (1 : Rat); Except.ok t0_10); Except.ok t0_11)
  bif t0_12 then (do
    Except.ok false) else (do
    let t0_15 ← andM (decide (number < (100 : Int))) (do let t0_13 ← m_many_factor (number + (1 : Int)) tables; let t0_14 ← m__law_lt t0_13 told; Except.ok t0_14)
    bif t0_15 then (do
      Except.ok false) else (do
      let t0_20 ← andM (decide (tables < number)) (do let t0_16 ← mulM number number; let t0_17 ← m_rounds number tables; let t0_18 ← mulM tables t0_17; let t0_19 ← m__law_low t0_16 t0_18; Except.ok (!(decide (told = t0_19))))
      bif t0_20 then (do
        Except.ok false) else (do
        let t0_21 ← m__law_even_world row t0_6.2 (8 : Int)
        let t0_22 ← m__law_digit row t0_21.2 (3 : Int)
        let s0 ← (bif (decide (t0_22.1 = (0 : Int))) then (do
            let t0_23 ← m__law_digit row t0_22.2 (30 : Int)
            let t0_24 ← m__law_digit row t0_23.2 (5 : Int)
            let one ← m__law_low ((1 : Int) + t0_23.1) ((1 : Int) + t0_24.1)
            let t0_26 ← rangeM (t0_21.1.1.length : Int)
            let t0_29 ← mapMoS (fun (z0 : Int) (x0 : Int) => (do let t0_27 ← m__law_digit row z0 (3 : Int); let t0_28 ← idxM ([one, (0 : Rat)] : List Rat) (if (decide (t0_27.1 = (0 : Int))) then 1 else 0); Except.ok (t0_28, t0_27.2))) t0_24.2 t0_26
            Except.ok ((t0_21.1.1, t0_29.1, t0_21.1.2.2.1, t0_21.1.2.2.2), t0_29.2)) else (do
            Except.ok (t0_21.1, t0_22.2)) : Mo (((List Int) × (List Rat) × (List Rat) × (List Int)) × Int))
        let t0_30 ← m__law_digit row s0.2 (8 : Int)
        let names ← m__law_names t0_30.1 (t0_21.1.1.length : Int)
        let t0_32 ← m__law_jobs names s0.1
        let day ← m_Day t0_32
        let factor ← m_many_factor (t0_21.1.1.length : Int) tables
        let t0_35 ← m__law_many_factor (t0_21.1.1.length : Int) tables
        bif (!(decide (factor = t0_35))) then (do
          Except.ok false) else (do
          let paid ← m_even_bill day tables
          let best ← m_many_best day tables
          let t0_38 ← m__law_even_bill s0.1 tables
          let t0_40 ← orM (!(decide (paid = t0_38))) (do let t0_39 ← m__law_many_best s0.1 tables; Except.ok (!(decide (best = t0_39))))
          bif t0_40 then (do
            Except.ok false) else (do
            let t0_41 ← m__law_mul factor best
            let t0_42 ← m__law_le paid t0_41
            let t0_44 ← orM (!t0_42) (do let t0_43 ← m__law_lt paid best; Except.ok t0_43)
            bif t0_44 then (do
              Except.ok false) else (do
              let t0_45 ← m__law_digit row t0_30.2 (60 : Int)
              let t0_46 ← m__law_digit row t0_45.2 (7 : Int)
              let length ← m__law_low ((1 : Int) + t0_45.1) ((1 : Int) + t0_46.1)
              let t0_48 ← rangeM (t0_21.1.1.length : Int)
              let t0_49 ← mapMo (fun (x0_1 : Int) => Except.ok length) t0_48
              let alike ← pure (s0.1.1, t0_49, s0.1.2.2.1, s0.1.2.2.2)
              let t0_50 ← m__law_jobs names alike
              let other ← m_Day t0_50
              let t0_52 ← m_even_bill other tables
              let t0_53 ← m_many_best other tables
              let t0_54 ← m__law_mul factor t0_53
              let t0_57 ← orM (!(decide (t0_52 = t0_54))) (do let t0_55 ← m_many_best other tables; let t0_56 ← m__law_many_best alike tables; Except.ok (!(decide (t0_55 = t0_56))))
              bif t0_57 then (do
                Except.ok false) else (do
                let t0_58 ← m_even_bill day tables
                let t0_62 ← andM (decide (t0_58 = paid)) (do let t0_59 ← m_many_factor number tables; let t0_61 ← andM (decide (t0_59 = told)) (do let t0_60 ← m_many_factor (1 : Int) tables; Except.ok (decide (t0_60 = (1 : Rat)))); Except.ok t0_61)
                Except.ok t0_62)))))))
def Sp_law : PSpec := fun as res => ∃ (script : List Int) (r : Bool), as = [.dat (D.lst (List.map D.int script))] ∧ m_law script = .ok r ∧ res = .ret (.dat (D.bl r)) []
theorem sq_law {script : List Int} {r : Bool} (q : m_law script = .ok r) : (Sp_law) [.dat (D.lst (List.map D.int script))] (.ret (.dat (D.bl r)) []) := ⟨script, r, rfl, q, rfl⟩
section
variable {M : Md} (T : Bn M) {f : Addr} {fd : FuncData} {CD : Addr}
include T
theorem ok_law (c__law_digits : Fn M CX0 "_law_digits" 1 Sp_digs) (c__law_cell : Fn M CX0 "_law_cell" 1 Sp_cell) (c__law_digit : Fn M CX0 "_law_digit" 1 Sp_dig) (c_many_factor : Fn M CX0 "many_factor" 3 Sp_factor) (c__law_is_fraction : Fn M CX0 "_law_is_fraction" 2 Sp_isfr) (c__law_many_factor : Fn M CX0 "_law_many_factor" 2 Sp_lfactor) (c__law_lt : Fn M CX0 "_law_lt" 1 Sp_lt) (c__law_low : Fn M CX0 "_law_low" 1 Sp_low) (c_rounds : Fn M CX0 "rounds" 1 Sp_rounds) (c__law_even_world : Fn M CX0 "_law_even_world" 3 Sp__law_even_world) (c__law_names : Fn M CX0 "_law_names" 1 Sp_names) (mk_Day : MkC M CX0 "Day" CD 7 (Sp_init CD)) (c__law_jobs : Fn M CX0 "_law_jobs" 1 Sp_ljobs) (c_even_bill : Fn M CX0 "even_bill" 5 (Sp_ebill CD)) (c_many_best : Fn M CX0 "many_best" 4 (Sp_best CD)) (c__law_even_bill : Fn M CX0 "_law_even_bill" 3 Sp__law_even_bill) (c__law_many_best : Fn M CX0 "_law_many_best" 3 Sp__law_many_best) (c__law_le : Fn M CX0 "_law_le" 1 Sp_le) (c__law_mul : Fn M CX0 "_law_mul" 2 Sp_times) (F : Fun M.K "law" "law" s_law f fd) : FnOk M.P M.w M.K M.mg M.base CX0 9 f fd ["script"] (spOf M.K Sp_law) := by
  refine fn_ok F sc_law ?_ ?_ ?_
  · rintro as res ⟨_, _, rfl, _⟩; rfl
  · rintro as C ns ds os ⟨_, _, _, _, h⟩; cases h
  · rintro X W G as res g ⟨script, r, rfl, h, rfl⟩ hbi
    unfold m_law at h
    have hbn := nob hbi rfl
    have hwk := wk0 hbn
    show SV X _ G _ [.dat (D.lst (List.map D.int script)), .un, .un, .un, .un, .un, .un, .un, .un, .un, .un, .un, .un, .un, .un, .un, .un, .un] _
    obtain ⟨t0, q_t0, h⟩ := bind_ok h
    obtain ⟨t0_1, q_t0_1, h⟩ := bind_ok h
    obtain ⟨row, q_row, h⟩ := bind_ok h
    refine sv_cons (s_asgM g 1 (ev_call2 g c__law_digits (ev_call2 g c__law_cell (ev_var g 0) ev_int (sq__law_cell q_t0)) ((ev_repM (EV.eqO (ev_lst (ea_cons ev_int ea_nil)) (show _ = List.map D.int ([(997 : Int)] : List Int) from rfl)) (fun _ _ => ev_int) q_t0_1)).ls (sq__law_digits q_row)) (hbn 1) ?_)
    show SV X _ G _ [.dat (D.lst (List.map D.int script)), .own (List.map D.int row), .un, .un, .un, .un, .un, .un, .un, .un, .un, .un, .un, .un, .un, .un, .un, .un] _
    refine sv_freeze 1 (hbn 1) ?_
    show SV X _ G _ [.dat (D.lst (List.map D.int script)), .dat (D.lst (List.map D.int row)), .un, .un, .un, .un, .un, .un, .un, .un, .un, .un, .un, .un, .un, .un, .un, .un] _
    refine sv_cons (s_asgM g 2 (ev_lst (ea_cons ev_int ea_nil)) (hbn 2) ?_)
    show SV X _ G _ [.dat (D.lst (List.map D.int script)), .dat (D.lst (List.map D.int row)), .own [.int (0 : Int)], .un, .un, .un, .un, .un, .un, .un, .un, .un, .un, .un, .un, .un, .un, .un] _
    obtain ⟨t0_3, q_t0_3, h⟩ := bind_ok h
    obtain ⟨tables, q_tables, h⟩ := bind_ok h
    refine sv_cons (s_asg g 3 (((ev_add ev_int (ev_call_b2 g c__law_digit 2 (ev_var g 1) (ea_cons ev_int ea_nil) (sq__law_digit q_t0_3) rfl ⟨_, rfl⟩))).eq (congrArg D.int (pure_ok q_tables))) (hbn 3) ?_)
    show SV X _ G _ [.dat (D.lst (List.map D.int script)), .dat (D.lst (List.map D.int row)), .own [.int t0_3.2], .dat (D.int tables), .un, .un, .un, .un, .un, .un, .un, .un, .un, .un, .un, .un, .un, .un] _
    obtain ⟨t0_4, q_t0_4, h⟩ := bind_ok h
    obtain ⟨t0_5, q_t0_5, h⟩ := bind_ok h
    obtain ⟨t0_6, q_t0_6, h⟩ := bind_ok h
    obtain ⟨number, q_number, h⟩ := bind_ok h
    refine sv_cons (s_asg g 4 (((ev_add ev_int (ev_call_b2 g c__law_digit 2 (ev_var g 1) (ea_cons (ev_ixLM ((EV.eqO (ev_lst (ea_cons ev_int (ea_cons ev_int ea_nil))) (show _ = List.map D.int ([(10 : Int), (100 : Int)] : List Int) from rfl))).ls (ev_call_b2 g c__law_digit 2 (ev_var g 1) (ea_cons ev_int ea_nil) (sq__law_digit q_t0_4) rfl ⟨_, rfl⟩) q_t0_5) ea_nil) (sq__law_digit q_t0_6) rfl ⟨_, rfl⟩))).eq (congrArg D.int (pure_ok q_number))) (hbn 4) ?_)
    show SV X _ G _ [.dat (D.lst (List.map D.int script)), .dat (D.lst (List.map D.int row)), .own [.int t0_6.2], .dat (D.int tables), .dat (D.int number), .un, .un, .un, .un, .un, .un, .un, .un, .un, .un, .un, .un, .un] _
    obtain ⟨told, q_told, h⟩ := bind_ok h
    refine sv_cons (s_asg g 5 (ev_call2 g c_many_factor (ev_var g 4) (ev_var g 3) (sq_many_factor q_told)) (hbn 5) ?_)
    show SV X _ G _ [.dat (D.lst (List.map D.int script)), .dat (D.lst (List.map D.int row)), .own [.int t0_6.2], .dat (D.int tables), .dat (D.int number), .dat (fr told), .un, .un, .un, .un, .un, .un, .un, .un, .un, .un, .un, .un] _
    obtain ⟨t0_8, q_t0_8, h⟩ := bind_ok h
    obtain ⟨t0_12, q_t0_12, h⟩ := bind_ok h
    refine sv_cons (s_if (b := t0_12) (et_w (ew_orM (et_not (et_val (ev_call1 g c__law_is_fraction (ev_var g 5) (sq__law_is_fraction q_t0_8)))) q_t0_12 (fun v hv => by obtain ⟨t0_9, q_t0_9, hv⟩ := bind_ok hv; obtain ⟨t0_11, q_t0_11, hv⟩ := bind_ok hv; exact EW.eq (ew_orM (et_neF g (ev_var g 5) (ev_call2 g c__law_many_factor (ev_var g 4) (ev_var g 3) (sq__law_many_factor q_t0_9))) q_t0_11 (fun v hv => by obtain ⟨t0_10, q_t0_10, hv⟩ := bind_ok hv; exact EW.eq (ew_o1 (et_val (ev_call2 g c__law_lt (ev_var g 5) ((ev_tup (ea_cons ev_int (ea_cons ev_int ea_nil))).eq (fr_lit (by decide +kernel))) (sq__law_lt q_t0_10)))) (pure_ok hv))) (pure_ok hv)))) (fun hc => ?_) (fun hc => ?_))
    · replace h := cond_t hc h
      obtain rfl := pure_ok h
      exact sv_cons (s_ret ev_bl (endD rfl))
    · replace h := cond_f hc h
      refine sv_nil ?_
      show SV X _ G _ [.dat (D.lst (List.map D.int script)), .dat (D.lst (List.map D.int row)), .own [.int t0_6.2], .dat (D.int tables), .dat (D.int number), .dat (fr told), .un, .un, .un, .un, .un, .un, .un, .un, .un, .un, .un, .un] _
      obtain ⟨t0_15, q_t0_15, h⟩ := bind_ok h
      refine sv_cons (s_if (b := t0_15) (et_w (ew_andM (et_lt (ev_var g 4) ev_int) q_t0_15 (fun v hv => by obtain ⟨t0_13, q_t0_13, hv⟩ := bind_ok hv; obtain ⟨t0_14, q_t0_14, hv⟩ := bind_ok hv; exact EW.eq (ew_a1 (et_val (ev_call2 g c__law_lt (ev_call2 g c_many_factor (ev_add (ev_var g 4) ev_int) (ev_var g 3) (sq_many_factor q_t0_13)) (ev_var g 5) (sq__law_lt q_t0_14)))) (pure_ok hv)))) (fun hc1 => ?_) (fun hc1 => ?_))
      · replace h := cond_t hc1 h
        obtain rfl := pure_ok h
        exact sv_cons (s_ret ev_bl (endD rfl))
      · replace h := cond_f hc1 h
        refine sv_nil ?_
        show SV X _ G _ [.dat (D.lst (List.map D.int script)), .dat (D.lst (List.map D.int row)), .own [.int t0_6.2], .dat (D.int tables), .dat (D.int number), .dat (fr told), .un, .un, .un, .un, .un, .un, .un, .un, .un, .un, .un, .un] _
        obtain ⟨t0_20, q_t0_20, h⟩ := bind_ok h
        refine sv_cons (s_if (b := t0_20) (et_w (ew_andM (et_gt (ev_var g 4) (ev_var g 3)) q_t0_20 (fun v hv => by obtain ⟨t0_16, q_t0_16, hv⟩ := bind_ok hv; obtain ⟨t0_17, q_t0_17, hv⟩ := bind_ok hv; obtain ⟨t0_18, q_t0_18, hv⟩ := bind_ok hv; obtain ⟨t0_19, q_t0_19, hv⟩ := bind_ok hv; exact EW.eq (ew_a1 (et_neF g (ev_var g 5) (ev_call2 g c__law_low (ev_mulM (ev_var g 4) (ev_var g 4) q_t0_16) (ev_mulM (ev_var g 3) (ev_call2 g c_rounds (ev_var g 4) (ev_var g 3) (sq_rounds q_t0_17)) q_t0_18) (sq__law_low q_t0_19)))) (pure_ok hv)))) (fun hc2 => ?_) (fun hc2 => ?_))
        · replace h := cond_t hc2 h
          obtain rfl := pure_ok h
          exact sv_cons (s_ret ev_bl (endD rfl))
        · replace h := cond_f hc2 h
          refine sv_nil ?_
          show SV X _ G _ [.dat (D.lst (List.map D.int script)), .dat (D.lst (List.map D.int row)), .own [.int t0_6.2], .dat (D.int tables), .dat (D.int number), .dat (fr told), .un, .un, .un, .un, .un, .un, .un, .un, .un, .un, .un, .un] _
          obtain ⟨t0_21, q_t0_21, h⟩ := bind_ok h
          refine sv_cons (s_asgM g 6 (ev_call_b2 g c__law_even_world 2 (ev_var g 1) (ea_cons ev_int ea_nil) (sq__law_even_world q_t0_21) rfl ⟨_, rfl⟩) (hbn 6) ?_)
          show SV X _ G _ [.dat (D.lst (List.map D.int script)), .dat (D.lst (List.map D.int row)), .own [.int t0_21.2], .dat (D.int tables), .dat (D.int number), .dat (fr told), .own [D.lst (List.map D.int t0_21.1.1), D.lst (List.map fr t0_21.1.2.1), D.lst (List.map fr t0_21.1.2.2.1), D.lst (List.map D.int t0_21.1.2.2.2)], .un, .un, .un, .un, .un, .un, .un, .un, .un, .un, .un] _
          refine sv_cons (s_asg g 7 (ev_lenLM g T.len (ev_ixO g 6 ev_int (show _ = some (D.lst (List.map D.int t0_21.1.1)) from rfl) ⟨_, rfl⟩)) (hbn 7) ?_)
          show SV X _ G _ [.dat (D.lst (List.map D.int script)), .dat (D.lst (List.map D.int row)), .own [.int t0_21.2], .dat (D.int tables), .dat (D.int number), .dat (fr told), .own [D.lst (List.map D.int t0_21.1.1), D.lst (List.map fr t0_21.1.2.1), D.lst (List.map fr t0_21.1.2.2.1), D.lst (List.map D.int t0_21.1.2.2.2)], .dat (D.int (t0_21.1.1.length : Int)), .un, .un, .un, .un, .un, .un, .un, .un, .un, .un] _
          obtain ⟨t0_22, q_t0_22, h⟩ := bind_ok h
          obtain ⟨s0, q_s0, h⟩ := bind_ok h
          refine sv_ifJ (decide (t0_22.1 = (0 : Int))) [.dat (D.lst (List.map D.int script)), .dat (D.lst (List.map D.int row)), .own [.int s0.2], .dat (D.int tables), .dat (D.int number), .dat (fr told), .own [D.lst (List.map D.int s0.1.1), D.lst (List.map fr s0.1.2.1), D.lst (List.map fr s0.1.2.2.1), D.lst (List.map D.int s0.1.2.2.2)], .dat (D.int (t0_21.1.1.length : Int)), .un, .un, .un, .un, .un, .un, .un, .un, .un, .un] (et_eqI (ev_call_b2 g c__law_digit 2 (ev_var g 1) (ea_cons ev_int ea_nil) (sq__law_digit q_t0_22) rfl ⟨_, rfl⟩) ev_int) (fun hc => ?_) (fun hc => ?_) ?_
          · replace q_s0 := cond_t hc q_s0
            obtain ⟨t0_23, q_t0_23, q_s0⟩ := bind_ok q_s0
            obtain ⟨t0_24, q_t0_24, q_s0⟩ := bind_ok q_s0
            obtain ⟨one, q_one, q_s0⟩ := bind_ok q_s0
            refine sv_cons (s_asg g 8 (ev_call2 g c__law_low (ev_add ev_int (ev_call_b2 g c__law_digit 2 (ev_var g 1) (ea_cons ev_int ea_nil) (sq__law_digit q_t0_23) rfl ⟨_, rfl⟩)) (ev_add ev_int (ev_call_b2 g c__law_digit 2 (ev_var g 1) (ea_cons ev_int ea_nil) (sq__law_digit q_t0_24) rfl ⟨_, rfl⟩)) (sq__law_low q_one)) (hbn 8) ?_)
            show SV X _ G _ [.dat (D.lst (List.map D.int script)), .dat (D.lst (List.map D.int row)), .own [.int t0_24.2], .dat (D.int tables), .dat (D.int number), .dat (fr told), .own [D.lst (List.map D.int t0_21.1.1), D.lst (List.map fr t0_21.1.2.1), D.lst (List.map fr t0_21.1.2.2.1), D.lst (List.map D.int t0_21.1.2.2.2)], .dat (D.int (t0_21.1.1.length : Int)), .dat (fr one), .un, .un, .un, .un, .un, .un, .un, .un, .un] _
            obtain ⟨t0_26, q_t0_26, q_s0⟩ := bind_ok q_s0
            obtain ⟨t0_29, q_t0_29, q_s0⟩ := bind_ok q_s0
            refine sv_cons (s_setI g 6 ((ev_lcSo g fr [("k", 9)] [9] (fun (z0 : Int) => [.dat (D.lst (List.map D.int script)), .dat (D.lst (List.map D.int row)), .own [.int z0], .dat (D.int tables), .dat (D.int number), .dat (fr told), .own [D.lst (List.map D.int t0_21.1.1), D.lst (List.map fr t0_21.1.2.1), D.lst (List.map fr t0_21.1.2.2.1), D.lst (List.map D.int t0_21.1.2.2.2)], .dat (D.int (t0_21.1.1.length : Int)), .dat (fr one), .un, .un, .un, .un, .un, .un, .un, .un, .un]) (fun (z0 : Int) (x0 : Int) => [.dat (D.lst (List.map D.int script)), .dat (D.lst (List.map D.int row)), .own [.int z0], .dat (D.int tables), .dat (D.int number), .dat (fr told), .own [D.lst (List.map D.int t0_21.1.1), D.lst (List.map fr t0_21.1.2.1), D.lst (List.map fr t0_21.1.2.2.1), D.lst (List.map D.int t0_21.1.2.2.2)], .dat (D.int (t0_21.1.1.length : Int)), .dat (fr one), .dat (D.int x0), .un, .un, .un, .un, .un, .un, .un, .un]) (fun v _ => hbn v) (ei_rangeM g T.range (ev_var g 7) q_t0_26) q_t0_29 rfl (fun v hv e he => by simp at hv; subst hv; exact (Option.some.inj he).symm) (fun z0 x0 y s2 hf => by obtain ⟨t0_27, q_t0_27, hf⟩ := bind_ok hf; obtain ⟨t0_28, q_t0_28, hf⟩ := bind_ok hf; obtain ⟨rfl, rfl⟩ := Prod.mk.inj (pure_ok hf); exact ⟨_, rfl, fun Y1 G2 g2 hG => ⟨(ag_name g2 9 (bor_of hG (hbn 9))), (ev_ixLM ((EV.eqO (ev_lst (ea_cons (ev_var g2 8) (ea_cons ((ev_tup (ea_cons ev_int (ea_cons ev_int ea_nil))).eq (fr_lit (by decide +kernel))) ea_nil))) (show _ = List.map fr ([one, (0 : Rat)] : List Rat) from rfl))).ls (ev_toIntB g2 T.int (ev_eqI (ev_call_b2 g2 c__law_digit 2 (ev_var g2 1) (ea_cons ev_int ea_nil) (sq__law_digit q_t0_27) rfl ⟨_, rfl⟩) ev_int)) q_t0_28)⟩⟩))).ls ev_int (n := 1) rfl ?_ ⟨_, rfl⟩)
            show SV X _ G _ [.dat (D.lst (List.map D.int script)), .dat (D.lst (List.map D.int row)), .own [.int t0_29.2], .dat (D.int tables), .dat (D.int number), .dat (fr told), .own [D.lst (List.map D.int ((t0_21.1.1, t0_29.1, t0_21.1.2.2.1, t0_21.1.2.2.2).1)), D.lst (List.map fr ((t0_21.1.1, t0_29.1, t0_21.1.2.2.1, t0_21.1.2.2.2).2.1)), D.lst (List.map fr ((t0_21.1.1, t0_29.1, t0_21.1.2.2.1, t0_21.1.2.2.2).2.2.1)), D.lst (List.map D.int ((t0_21.1.1, t0_29.1, t0_21.1.2.2.1, t0_21.1.2.2.2).2.2.2))], .dat (D.int (t0_21.1.1.length : Int)), .dat (fr one), .un, .un, .un, .un, .un, .un, .un, .un, .un] _
            obtain rfl := pure_ok q_s0
            exact sv_endW [.dat (D.lst (List.map D.int script)), .dat (D.lst (List.map D.int row)), .own [.int t0_29.2], .dat (D.int tables), .dat (D.int number), .dat (fr told), .own [D.lst (List.map D.int ((t0_21.1.1, t0_29.1, t0_21.1.2.2.1, t0_21.1.2.2.2).1)), D.lst (List.map fr ((t0_21.1.1, t0_29.1, t0_21.1.2.2.1, t0_21.1.2.2.2).2.1)), D.lst (List.map fr ((t0_21.1.1, t0_29.1, t0_21.1.2.2.1, t0_21.1.2.2.2).2.2.1)), D.lst (List.map D.int ((t0_21.1.1, t0_29.1, t0_21.1.2.2.1, t0_21.1.2.2.2).2.2.2))], .dat (D.int (t0_21.1.1.length : Int)), .un, .un, .un, .un, .un, .un, .un, .un, .un, .un] ⟨.inl rfl, .inl rfl, .inl rfl, .inl rfl, .inl rfl, .inl rfl, .inl rfl, .inl rfl, .inr rfl, .inr rfl, .inr rfl, .inr rfl, .inr rfl, .inr rfl, .inr rfl, .inr rfl, .inr rfl, .inr rfl, trivial⟩ (hwk _ _ trivial) rfl
          · replace q_s0 := cond_f hc q_s0
            obtain rfl := pure_ok q_s0
            exact sv_endW [.dat (D.lst (List.map D.int script)), .dat (D.lst (List.map D.int row)), .own [.int t0_22.2], .dat (D.int tables), .dat (D.int number), .dat (fr told), .own [D.lst (List.map D.int t0_21.1.1), D.lst (List.map fr t0_21.1.2.1), D.lst (List.map fr t0_21.1.2.2.1), D.lst (List.map D.int t0_21.1.2.2.2)], .dat (D.int (t0_21.1.1.length : Int)), .un, .un, .un, .un, .un, .un, .un, .un, .un, .un] ⟨.inl rfl, .inl rfl, .inl rfl, .inl rfl, .inl rfl, .inl rfl, .inl rfl, .inl rfl, .inr rfl, .inr rfl, .inr rfl, .inr rfl, .inr rfl, .inr rfl, .inr rfl, .inr rfl, .inr rfl, .inr rfl, trivial⟩ (hwk _ _ trivial) rfl
          · show SV X _ G _ [.dat (D.lst (List.map D.int script)), .dat (D.lst (List.map D.int row)), .own [.int s0.2], .dat (D.int tables), .dat (D.int number), .dat (fr told), .own [D.lst (List.map D.int s0.1.1), D.lst (List.map fr s0.1.2.1), D.lst (List.map fr s0.1.2.2.1), D.lst (List.map D.int s0.1.2.2.2)], .dat (D.int (t0_21.1.1.length : Int)), .un, .un, .un, .un, .un, .un, .un, .un, .un, .un] _
            obtain ⟨t0_30, q_t0_30, h⟩ := bind_ok h
            obtain ⟨names, q_names, h⟩ := bind_ok h
            refine sv_cons (s_asgM g 10 (ev_call2 g c__law_names (ev_call_b2 g c__law_digit 2 (ev_var g 1) (ea_cons ev_int ea_nil) (sq__law_digit q_t0_30) rfl ⟨_, rfl⟩) (ev_var g 7) (sq__law_names q_names)) (hbn 10) ?_)
            show SV X _ G _ [.dat (D.lst (List.map D.int script)), .dat (D.lst (List.map D.int row)), .own [.int t0_30.2], .dat (D.int tables), .dat (D.int number), .dat (fr told), .own [D.lst (List.map D.int s0.1.1), D.lst (List.map fr s0.1.2.1), D.lst (List.map fr s0.1.2.2.1), D.lst (List.map D.int s0.1.2.2.2)], .dat (D.int (t0_21.1.1.length : Int)), .un, .un, .own (List.map D.str names), .un, .un, .un, .un, .un, .un, .un] _
            refine sv_freeze 10 (hbn 10) ?_
            show SV X _ G _ [.dat (D.lst (List.map D.int script)), .dat (D.lst (List.map D.int row)), .own [.int t0_30.2], .dat (D.int tables), .dat (D.int number), .dat (fr told), .own [D.lst (List.map D.int s0.1.1), D.lst (List.map fr s0.1.2.1), D.lst (List.map fr s0.1.2.2.1), D.lst (List.map D.int s0.1.2.2.2)], .dat (D.int (t0_21.1.1.length : Int)), .un, .un, .dat (D.lst (List.map D.str names)), .un, .un, .un, .un, .un, .un, .un] _
            refine sv_freeze 6 (hbn 6) ?_
            show SV X _ G _ [.dat (D.lst (List.map D.int script)), .dat (D.lst (List.map D.int row)), .own [.int t0_30.2], .dat (D.int tables), .dat (D.int number), .dat (fr told), .dat (D.lst [D.lst (List.map D.int s0.1.1), D.lst (List.map fr s0.1.2.1), D.lst (List.map fr s0.1.2.2.1), D.lst (List.map D.int s0.1.2.2.2)]), .dat (D.int (t0_21.1.1.length : Int)), .un, .un, .dat (D.lst (List.map D.str names)), .un, .un, .un, .un, .un, .un, .un] _
            obtain ⟨t0_32, q_t0_32, h⟩ := bind_ok h
            obtain ⟨day, q_day, h⟩ := bind_ok h
            refine sv_cons (s_asg g 11 ((EV.frz rfl (ev_make g mk_Day (by decide) (ea_cons ((ev_call2 g c__law_jobs (ev_var g 10) (ev_var g 6) (sq__law_jobs q_t0_32))).ls ea_nil) (sq_Day q_day) rfl)).eq (show _ = _ from rfl)) (hbn 11) ?_)
            show SV X _ G _ [.dat (D.lst (List.map D.int script)), .dat (D.lst (List.map D.int row)), .own [.int t0_30.2], .dat (D.int tables), .dat (D.int number), .dat (fr told), .dat (D.lst [D.lst (List.map D.int s0.1.1), D.lst (List.map fr s0.1.2.1), D.lst (List.map fr s0.1.2.2.1), D.lst (List.map D.int s0.1.2.2.2)]), .dat (D.int (t0_21.1.1.length : Int)), .un, .un, .dat (D.lst (List.map D.str names)), .dat ((dayD CD) day), .un, .un, .un, .un, .un, .un] _
            obtain ⟨factor, q_factor, h⟩ := bind_ok h
            refine sv_cons (s_asg g 12 (ev_call2 g c_many_factor (ev_var g 7) (ev_var g 3) (sq_many_factor q_factor)) (hbn 12) ?_)
            show SV X _ G _ [.dat (D.lst (List.map D.int script)), .dat (D.lst (List.map D.int row)), .own [.int t0_30.2], .dat (D.int tables), .dat (D.int number), .dat (fr told), .dat (D.lst [D.lst (List.map D.int s0.1.1), D.lst (List.map fr s0.1.2.1), D.lst (List.map fr s0.1.2.2.1), D.lst (List.map D.int s0.1.2.2.2)]), .dat (D.int (t0_21.1.1.length : Int)), .un, .un, .dat (D.lst (List.map D.str names)), .dat ((dayD CD) day), .dat (fr factor), .un, .un, .un, .un, .un] _
            obtain ⟨t0_35, q_t0_35, h⟩ := bind_ok h
            refine sv_cons (s_if (b := (!(decide (factor = t0_35)))) (et_neF g (ev_var g 12) (ev_call2 g c__law_many_factor (ev_var g 7) (ev_var g 3) (sq__law_many_factor q_t0_35))) (fun hc3 => ?_) (fun hc3 => ?_))
            · replace h := cond_t hc3 h
              obtain rfl := pure_ok h
              exact sv_cons (s_ret ev_bl (endD rfl))
            · replace h := cond_f hc3 h
              refine sv_nil ?_
              show SV X _ G _ [.dat (D.lst (List.map D.int script)), .dat (D.lst (List.map D.int row)), .own [.int t0_30.2], .dat (D.int tables), .dat (D.int number), .dat (fr told), .dat (D.lst [D.lst (List.map D.int s0.1.1), D.lst (List.map fr s0.1.2.1), D.lst (List.map fr s0.1.2.2.1), D.lst (List.map D.int s0.1.2.2.2)]), .dat (D.int (t0_21.1.1.length : Int)), .un, .un, .dat (D.lst (List.map D.str names)), .dat ((dayD CD) day), .dat (fr factor), .un, .un, .un, .un, .un] _
              obtain ⟨paid, q_paid, h⟩ := bind_ok h
              refine sv_cons (s_asg g 13 (ev_call2 g c_even_bill (ev_var g 11) (ev_var g 3) (sq_even_bill q_paid)) (hbn 13) ?_)
              show SV X _ G _ [.dat (D.lst (List.map D.int script)), .dat (D.lst (List.map D.int row)), .own [.int t0_30.2], .dat (D.int tables), .dat (D.int number), .dat (fr told), .dat (D.lst [D.lst (List.map D.int s0.1.1), D.lst (List.map fr s0.1.2.1), D.lst (List.map fr s0.1.2.2.1), D.lst (List.map D.int s0.1.2.2.2)]), .dat (D.int (t0_21.1.1.length : Int)), .un, .un, .dat (D.lst (List.map D.str names)), .dat ((dayD CD) day), .dat (fr factor), .dat (fr paid), .un, .un, .un, .un] _
              obtain ⟨best, q_best, h⟩ := bind_ok h
              refine sv_cons (s_asg g 14 (ev_call2 g c_many_best (ev_var g 11) (ev_var g 3) (sq_many_best q_best)) (hbn 14) ?_)
              show SV X _ G _ [.dat (D.lst (List.map D.int script)), .dat (D.lst (List.map D.int row)), .own [.int t0_30.2], .dat (D.int tables), .dat (D.int number), .dat (fr told), .dat (D.lst [D.lst (List.map D.int s0.1.1), D.lst (List.map fr s0.1.2.1), D.lst (List.map fr s0.1.2.2.1), D.lst (List.map D.int s0.1.2.2.2)]), .dat (D.int (t0_21.1.1.length : Int)), .un, .un, .dat (D.lst (List.map D.str names)), .dat ((dayD CD) day), .dat (fr factor), .dat (fr paid), .dat (fr best), .un, .un, .un] _
              obtain ⟨t0_38, q_t0_38, h⟩ := bind_ok h
              obtain ⟨t0_40, q_t0_40, h⟩ := bind_ok h
              refine sv_cons (s_if (b := t0_40) (et_w (ew_orM (et_neF g (ev_var g 13) (ev_call2 g c__law_even_bill (ev_var g 6) (ev_var g 3) (sq__law_even_bill q_t0_38))) q_t0_40 (fun v hv => by obtain ⟨t0_39, q_t0_39, hv⟩ := bind_ok hv; exact EW.eq (ew_o1 (et_neF g (ev_var g 14) (ev_call2 g c__law_many_best (ev_var g 6) (ev_var g 3) (sq__law_many_best q_t0_39)))) (pure_ok hv)))) (fun hc4 => ?_) (fun hc4 => ?_))
              · replace h := cond_t hc4 h
                obtain rfl := pure_ok h
                exact sv_cons (s_ret ev_bl (endD rfl))
              · replace h := cond_f hc4 h
                refine sv_nil ?_
                show SV X _ G _ [.dat (D.lst (List.map D.int script)), .dat (D.lst (List.map D.int row)), .own [.int t0_30.2], .dat (D.int tables), .dat (D.int number), .dat (fr told), .dat (D.lst [D.lst (List.map D.int s0.1.1), D.lst (List.map fr s0.1.2.1), D.lst (List.map fr s0.1.2.2.1), D.lst (List.map D.int s0.1.2.2.2)]), .dat (D.int (t0_21.1.1.length : Int)), .un, .un, .dat (D.lst (List.map D.str names)), .dat ((dayD CD) day), .dat (fr factor), .dat (fr paid), .dat (fr best), .un, .un, .un] _
                obtain ⟨t0_41, q_t0_41, h⟩ := bind_ok h
                obtain ⟨t0_42, q_t0_42, h⟩ := bind_ok h
                obtain ⟨t0_44, q_t0_44, h⟩ := bind_ok h
                refine sv_cons (s_if (b := t0_44) (et_w (ew_orM (et_not (et_val (ev_call2 g c__law_le (ev_var g 13) (ev_call2 g c__law_mul (ev_var g 12) (ev_var g 14) (sq__law_mul q_t0_41)) (sq__law_le q_t0_42)))) q_t0_44 (fun v hv => by obtain ⟨t0_43, q_t0_43, hv⟩ := bind_ok hv; exact EW.eq (ew_o1 (et_val (ev_call2 g c__law_lt (ev_var g 13) (ev_var g 14) (sq__law_lt q_t0_43)))) (pure_ok hv)))) (fun hc5 => ?_) (fun hc5 => ?_))
                · replace h := cond_t hc5 h
                  obtain rfl := pure_ok h
                  exact sv_cons (s_ret ev_bl (endD rfl))
                · replace h := cond_f hc5 h
                  refine sv_nil ?_
                  show SV X _ G _ [.dat (D.lst (List.map D.int script)), .dat (D.lst (List.map D.int row)), .own [.int t0_30.2], .dat (D.int tables), .dat (D.int number), .dat (fr told), .dat (D.lst [D.lst (List.map D.int s0.1.1), D.lst (List.map fr s0.1.2.1), D.lst (List.map fr s0.1.2.2.1), D.lst (List.map D.int s0.1.2.2.2)]), .dat (D.int (t0_21.1.1.length : Int)), .un, .un, .dat (D.lst (List.map D.str names)), .dat ((dayD CD) day), .dat (fr factor), .dat (fr paid), .dat (fr best), .un, .un, .un] _
                  obtain ⟨t0_45, q_t0_45, h⟩ := bind_ok h
                  obtain ⟨t0_46, q_t0_46, h⟩ := bind_ok h
                  obtain ⟨length, q_length, h⟩ := bind_ok h
                  refine sv_cons (s_asg g 15 (ev_call2 g c__law_low (ev_add ev_int (ev_call_b2 g c__law_digit 2 (ev_var g 1) (ea_cons ev_int ea_nil) (sq__law_digit q_t0_45) rfl ⟨_, rfl⟩)) (ev_add ev_int (ev_call_b2 g c__law_digit 2 (ev_var g 1) (ea_cons ev_int ea_nil) (sq__law_digit q_t0_46) rfl ⟨_, rfl⟩)) (sq__law_low q_length)) (hbn 15) ?_)
                  show SV X _ G _ [.dat (D.lst (List.map D.int script)), .dat (D.lst (List.map D.int row)), .own [.int t0_46.2], .dat (D.int tables), .dat (D.int number), .dat (fr told), .dat (D.lst [D.lst (List.map D.int s0.1.1), D.lst (List.map fr s0.1.2.1), D.lst (List.map fr s0.1.2.2.1), D.lst (List.map D.int s0.1.2.2.2)]), .dat (D.int (t0_21.1.1.length : Int)), .un, .un, .dat (D.lst (List.map D.str names)), .dat ((dayD CD) day), .dat (fr factor), .dat (fr paid), .dat (fr best), .dat (fr length), .un, .un] _
                  obtain ⟨t0_48, q_t0_48, h⟩ := bind_ok h
                  obtain ⟨t0_49, q_t0_49, h⟩ := bind_ok h
                  obtain ⟨alike, q_alike, h⟩ := bind_ok h
                  refine sv_cons (s_asg g 16 ((((EV.eqO (ev_lst (ea_cons (ev_ixL (ev_var g 6) ev_int (show _ = some (D.lst (List.map D.int s0.1.1)) from rfl)) (ea_cons ((ev_lcMo g fr [("k", 9)] [9] [.dat (D.lst (List.map D.int script)), .dat (D.lst (List.map D.int row)), .own [.int t0_46.2], .dat (D.int tables), .dat (D.int number), .dat (fr told), .dat (D.lst [D.lst (List.map D.int s0.1.1), D.lst (List.map fr s0.1.2.1), D.lst (List.map fr s0.1.2.2.1), D.lst (List.map D.int s0.1.2.2.2)]), .dat (D.int (t0_21.1.1.length : Int)), .un, .un, .dat (D.lst (List.map D.str names)), .dat ((dayD CD) day), .dat (fr factor), .dat (fr paid), .dat (fr best), .dat (fr length), .un, .un] (fun (x0_1 : Int) => [.dat (D.lst (List.map D.int script)), .dat (D.lst (List.map D.int row)), .own [.int t0_46.2], .dat (D.int tables), .dat (D.int number), .dat (fr told), .dat (D.lst [D.lst (List.map D.int s0.1.1), D.lst (List.map fr s0.1.2.1), D.lst (List.map fr s0.1.2.2.1), D.lst (List.map D.int s0.1.2.2.2)]), .dat (D.int (t0_21.1.1.length : Int)), .un, .dat (D.int x0_1), .dat (D.lst (List.map D.str names)), .dat ((dayD CD) day), .dat (fr factor), .dat (fr paid), .dat (fr best), .dat (fr length), .un, .un]) (fun v _ => hbn v) (ei_rangeM g T.range (ev_var g 7) q_t0_48) q_t0_49 rfl (fun _ => rfl) (fun x0_1 y0_1 hf => by  exact fun Y1 G2 g2 hG => ⟨(ag_name g2 9 (bor_of hG (hbn 9))), ((ev_var g2 15)).eq (congrArg fr (pure_ok hf))⟩))).ls (ea_cons (ev_ixL (ev_var g 6) ev_int (show _ = some (D.lst (List.map fr s0.1.2.2.1)) from rfl)) (ea_cons (ev_ixL (ev_var g 6) ev_int (show _ = some (D.lst (List.map D.int s0.1.2.2.2)) from rfl)) ea_nil))))) (show _ = [D.lst (List.map D.int ((s0.1.1, t0_49, s0.1.2.2.1, s0.1.2.2.2).1)), D.lst (List.map fr ((s0.1.1, t0_49, s0.1.2.2.1, s0.1.2.2.2).2.1)), D.lst (List.map fr ((s0.1.1, t0_49, s0.1.2.2.1, s0.1.2.2.2).2.2.1)), D.lst (List.map D.int ((s0.1.1, t0_49, s0.1.2.2.1, s0.1.2.2.2).2.2.2))] from rfl))).ls).eq (congrArg (fun (z : (List Int) × (List Rat) × (List Rat) × (List Int)) => D.lst [D.lst (List.map D.int z.1), D.lst (List.map fr z.2.1), D.lst (List.map fr z.2.2.1), D.lst (List.map D.int z.2.2.2)]) (pure_ok q_alike))) (hbn 16) ?_)
                  show SV X _ G _ [.dat (D.lst (List.map D.int script)), .dat (D.lst (List.map D.int row)), .own [.int t0_46.2], .dat (D.int tables), .dat (D.int number), .dat (fr told), .dat (D.lst [D.lst (List.map D.int s0.1.1), D.lst (List.map fr s0.1.2.1), D.lst (List.map fr s0.1.2.2.1), D.lst (List.map D.int s0.1.2.2.2)]), .dat (D.int (t0_21.1.1.length : Int)), .un, .un, .dat (D.lst (List.map D.str names)), .dat ((dayD CD) day), .dat (fr factor), .dat (fr paid), .dat (fr best), .dat (fr length), .dat (D.lst [D.lst (List.map D.int alike.1), D.lst (List.map fr alike.2.1), D.lst (List.map fr alike.2.2.1), D.lst (List.map D.int alike.2.2.2)]), .un] _
                  obtain ⟨t0_50, q_t0_50, h⟩ := bind_ok h
                  obtain ⟨other, q_other, h⟩ := bind_ok h
                  refine sv_cons (s_asg g 17 ((EV.frz rfl (ev_make g mk_Day (by decide) (ea_cons ((ev_call2 g c__law_jobs (ev_var g 10) (ev_var g 16) (sq__law_jobs q_t0_50))).ls ea_nil) (sq_Day q_other) rfl)).eq (show _ = _ from rfl)) (hbn 17) ?_)
                  show SV X _ G _ [.dat (D.lst (List.map D.int script)), .dat (D.lst (List.map D.int row)), .own [.int t0_46.2], .dat (D.int tables), .dat (D.int number), .dat (fr told), .dat (D.lst [D.lst (List.map D.int s0.1.1), D.lst (List.map fr s0.1.2.1), D.lst (List.map fr s0.1.2.2.1), D.lst (List.map D.int s0.1.2.2.2)]), .dat (D.int (t0_21.1.1.length : Int)), .un, .un, .dat (D.lst (List.map D.str names)), .dat ((dayD CD) day), .dat (fr factor), .dat (fr paid), .dat (fr best), .dat (fr length), .dat (D.lst [D.lst (List.map D.int alike.1), D.lst (List.map fr alike.2.1), D.lst (List.map fr alike.2.2.1), D.lst (List.map D.int alike.2.2.2)]), .dat ((dayD CD) other)] _
                  obtain ⟨t0_52, q_t0_52, h⟩ := bind_ok h
                  obtain ⟨t0_53, q_t0_53, h⟩ := bind_ok h
                  obtain ⟨t0_54, q_t0_54, h⟩ := bind_ok h
                  obtain ⟨t0_57, q_t0_57, h⟩ := bind_ok h
                  refine sv_cons (s_if (b := t0_57) (et_w (ew_orM (et_neF g (ev_call2 g c_even_bill (ev_var g 17) (ev_var g 3) (sq_even_bill q_t0_52)) (ev_call2 g c__law_mul (ev_var g 12) (ev_call2 g c_many_best (ev_var g 17) (ev_var g 3) (sq_many_best q_t0_53)) (sq__law_mul q_t0_54))) q_t0_57 (fun v hv => by obtain ⟨t0_55, q_t0_55, hv⟩ := bind_ok hv; obtain ⟨t0_56, q_t0_56, hv⟩ := bind_ok hv; exact EW.eq (ew_o1 (et_neF g (ev_call2 g c_many_best (ev_var g 17) (ev_var g 3) (sq_many_best q_t0_55)) (ev_call2 g c__law_many_best (ev_var g 16) (ev_var g 3) (sq__law_many_best q_t0_56)))) (pure_ok hv)))) (fun hc6 => ?_) (fun hc6 => ?_))
                  · replace h := cond_t hc6 h
                    obtain rfl := pure_ok h
                    exact sv_cons (s_ret ev_bl (endD rfl))
                  · replace h := cond_f hc6 h
                    refine sv_nil ?_
                    show SV X _ G _ [.dat (D.lst (List.map D.int script)), .dat (D.lst (List.map D.int row)), .own [.int t0_46.2], .dat (D.int tables), .dat (D.int number), .dat (fr told), .dat (D.lst [D.lst (List.map D.int s0.1.1), D.lst (List.map fr s0.1.2.1), D.lst (List.map fr s0.1.2.2.1), D.lst (List.map D.int s0.1.2.2.2)]), .dat (D.int (t0_21.1.1.length : Int)), .un, .un, .dat (D.lst (List.map D.str names)), .dat ((dayD CD) day), .dat (fr factor), .dat (fr paid), .dat (fr best), .dat (fr length), .dat (D.lst [D.lst (List.map D.int alike.1), D.lst (List.map fr alike.2.1), D.lst (List.map fr alike.2.2.1), D.lst (List.map D.int alike.2.2.2)]), .dat ((dayD CD) other)] _
                    obtain ⟨t0_58, q_t0_58, h⟩ := bind_ok h
                    obtain ⟨t0_62, q_t0_62, h⟩ := bind_ok h
                    obtain rfl := pure_ok h
                    exact sv_cons (s_ret (ev_andM (ev_eqF g (ev_call2 g c_even_bill (ev_var g 11) (ev_var g 3) (sq_even_bill q_t0_58)) (ev_var g 13)) q_t0_62 (fun v hv => by obtain ⟨t0_59, q_t0_59, hv⟩ := bind_ok hv; obtain ⟨t0_61, q_t0_61, hv⟩ := bind_ok hv; exact ((ev_andM (ev_eqF g (ev_call2 g c_many_factor (ev_var g 4) (ev_var g 3) (sq_many_factor q_t0_59)) (ev_var g 5)) q_t0_61 (fun v hv => by obtain ⟨t0_60, q_t0_60, hv⟩ := bind_ok hv; exact ((ev_b1 (ev_eqF g (ev_call2 g c_many_factor ev_int (ev_var g 3) (sq_many_factor q_t0_60)) ((ev_tup (ea_cons ev_int (ea_cons ev_int ea_nil))).eq (fr_lit (by decide +kernel)))))).eq (congrArg D.bl (pure_ok hv))))).eq (congrArg D.bl (pure_ok hv)))) (endD rfl))
end

end LW

namespace LW
open PySem L2 DL VC
/-! ### what the hand's promises give -/
theorem big {z : Int} {n m : Nat} (h : z.natAbs < 2 ^ n) (hn : n ≤ m) : z.natAbs < 2 ^ m := Nat.lt_of_lt_of_le h (Nat.pow_le_pow_right (by decide) hn)
theorem low_eqM {a b : Int} (h : 0 < b) (hb : b.natAbs < 2 ^ 8900) : m__law_low a b = .ok (mkRat a b.toNat) := grd_pos ⟨h, hb⟩
theorem low_eqS {a b : Int} (h : 0 < b) (hb : b < 1000000) : m__law_low a b = .ok (mkRat a b.toNat) := low_eqM h (big (n := 20) (by omega) (by decide))
theorem dig_gv {r : List Int} {k s : Int} (hk : 0 ≤ k) (hs : 0 < s) (hr : 0 < r.length) : Gv (m__law_digit r k s) fun z => (0 ≤ z.1 ∧ z.1 < s) ∧ 0 ≤ z.2 := gv_grd ⟨hk, hs, hr⟩ ⟨⟨dg_lo hs, dg_hi hs⟩, by show 0 ≤ k + 1; omega⟩
theorem gv_idx {α : Type} {xs : List α} {i : Int} {Q : α → Prop} (h0 : 0 ≤ i) (h1 : i < xs.length) (h : ∀ x ∈ xs, Q x) : Gv (idxM xs i) Q := by
  have e : i = ((i.toNat : Nat) : Int) := (Int.toNat_of_nonneg h0).symm
  rw [e]
  have hl : i.toNat < xs.length := by omega
  rw [idxM_nat hl]
  exact Gv.ok (h _ (List.getElem_mem hl))
theorem range_eqM {n : Int} (h0 : 0 ≤ n) (h1 : n ≤ 100000) : rangeM n = .ok (rangeI 0 n.toNat) := grd_pos ⟨by omega, by omega⟩
theorem rangeI_len (lo : Int) (n : Nat) : (rangeI lo n).length = n := by unfold rangeI; rw [List.length_map, List.length_range]
theorem rangeI_get {lo : Int} {n i : Nat} {x : Int} (h : (rangeI lo n)[i]? = some x) : i < n ∧ x = lo + i := by
  unfold rangeI at h
  rw [List.getElem?_map] at h
  obtain ⟨y, hy, rfl⟩ := Option.map_eq_some_iff.mp h
  obtain ⟨h1, h2⟩ := List.getElem?_eq_some_iff.mp hy
  rw [List.getElem_range] at h2
  exact ⟨by rw [List.length_range] at h1; exact h1, by rw [h2]⟩
theorem map_const {β : Type} {c : β} {n : Nat} (h : n ≤ 100000) : mapMo (fun (_ : Int) => Except.ok c) (rangeI 0 n) = .ok (List.replicate n c) := by
  rw [map_eq (g := fun _ => c) (by rw [rangeI_len]; exact h) (fun _ _ => rfl), show (fun (_ : Int) => c) = Function.const Int c from rfl, List.map_const, rangeI_len]
theorem cutL_to {α : Type} (xs : List α) (n : Nat) : cutL xs none (some (n : Int)) = xs.take n := by
  unfold cutL
  rw [HT.sIx_nat, HT.sIx_none, List.drop_zero, Nat.sub_zero]
  rcases Nat.le_total n xs.length with h | h
  · rw [Nat.min_eq_left h]
  · rw [Nat.min_eq_right h, List.take_of_length_le (Nat.le_refl _), List.take_of_length_le h]
theorem cutL_from {α : Type} (xs : List α) (n : Nat) : cutL xs (some (n : Int)) none = xs.drop n := by
  unfold cutL
  rw [HT.sIx_nat, HT.sIx_none]
  rcases Nat.le_total n xs.length with h | h
  · rw [Nat.min_eq_left h, List.take_of_length_le (by rw [List.length_drop]; omega)]
  · rw [Nat.min_eq_right h, List.drop_eq_nil_of_le (Nat.le_refl _), List.drop_eq_nil_of_le h, List.take_nil]
theorem mk_nn' {a b : Int} (ha : 0 ≤ a) (hb : 0 < b) : 0 ≤ mkRat a b.toNat ∧ mkRat a b.toNat * (b.toNat : Rat) = (a : Rat) := by
  have hb' : 0 < b.toNat := by omega
  have e3 : (b.toNat : Rat) = mkRat b.toNat 1 := (Rat.mkRat_self (b.toNat : Rat)).symm
  have e4 : (a : Rat) = mkRat a 1 := (Rat.mkRat_self (a : Rat)).symm
  have hm : mkRat a b.toNat * (b.toNat : Rat) = (a : Rat) := by
    rw [e3, e4, Rat.mkRat_mul_mkRat, Rat.mkRat_eq_iff (by omega) (by omega)]
    simp
  refine ⟨?_, hm⟩
  have pb : (0 : Rat) < (b.toNat : Rat) := by have := Rat.natCast_lt_natCast.mpr hb'; exact this
  have h0 : (0 : Rat) ≤ (a : Rat) := Rat.intCast_nonneg.mpr ha
  by_cases q : 0 ≤ mkRat a b.toNat
  · exact q
  · have := Rat.mul_pos (show 0 < - mkRat a b.toNat by grind) pb
    grind
theorem mk_am {a b : Int} {N B : Nat} (ha : 0 ≤ a) (hB : a ≤ B) (hb : 0 < b) (hd : b.toNat ∣ N) : Am N B (mkRat a b.toNat) := by
  obtain ⟨x0, hm⟩ := mk_nn' ha hb
  obtain ⟨c, hc⟩ := hd
  have pb : (1 : Rat) ≤ (b.toNat : Rat) := by have := Rat.natCast_le_natCast.mpr (show 1 ≤ b.toNat by omega); exact this
  have h8 : (a : Rat) ≤ ((B : Nat) : Rat) := by
    have := Rat.intCast_le_intCast.mpr hB
    rw [Rat.intCast_natCast] at this; exact this
  refine ⟨⟨a * c, ?_⟩, ?_, ?_⟩
  · rw [hc, Rat.natCast_mul, Rat.intCast_mul, ← hm, Rat.intCast_natCast, Rat.mul_assoc]
  · have : (0 : Rat) ≤ ((B : Nat) : Rat) := Rat.natCast_nonneg
    grind
  · have := Rat.mul_nonneg x0 (show 0 ≤ (b.toNat : Rat) - 1 by grind)
    grind
/-! ### a world of one weight -/
structure WorldOk (W : (List Int) × (List Rat) × (List Rat) × (List Int)) (n : Nat) (w : Int) : Prop where
  n1 : 1 ≤ n
  n8 : n ≤ 8
  w1 : 1 ≤ w
  w9 : w ≤ 999
  ws : W.1 = List.replicate n w
  ll : W.2.1.length = n
  ls : ∀ x ∈ W.2.1, Al x ∧ 0 ≤ x
  cs : W.2.2.1 = List.replicate n 0
  tl : W.2.2.2.length = n
  ts : ∀ d ∈ W.2.2.2, 0 ≤ d ∧ d ≤ 3
theorem dv12 : ∀ b ≤ 3, 0 < b → b ∣ 6 := by decide
theorem part_am {a b : Int} (ha : 0 ≤ a) (h1 : a ≤ 14) (hb : 0 ≤ b) (h2 : b < 3) : Am 6 14 (mkRat a (1 + b).toNat) ∧ 0 ≤ mkRat a (1 + b).toNat :=
  ⟨mk_am ha (by omega) (by omega) (dv12 _ (by omega) (by omega)), (mk_nn' ha (by omega)).1⟩
theorem am_szM {n B : Nat} {x : Rat} (h : Am n B x) (h0 : 0 < n) (h1 : n < 2 ^ 40) (h2 : B < 2 ^ 100) : Sz x :=
  Am.sz h h0 (Nat.lt_of_lt_of_le h1 (Nat.pow_le_pow_right (by decide) (by decide))) (Nat.lt_of_lt_of_le h2 (Nat.pow_le_pow_right (by decide) (by decide)))
theorem mapS_dig {r : List Int} {k : Int} {n : Nat} (hk : 0 ≤ k) (hr : 0 < r.length) (hn : n ≤ 100000) : Gv (mapMoS (fun (z0 : Int) (_ : Int) => (do let t ← m__law_digit r z0 (4 : Int); Except.ok (t.1, t.2))) k (rangeI 0 n)) fun z => z.1.length = n ∧ (∀ d ∈ z.1, 0 ≤ d ∧ d ≤ 3) ∧ 0 ≤ z.2 := by
  refine Gv.bind (gv_grd (Q := fun _ => True) (by rw [rangeI_len]; exact hn) trivial) fun _ _ => ?_
  have key : ∀ (l : List Int) (k : Int), 0 ≤ k → Gv (mapMoS0 (fun (z0 : Int) (_ : Int) => (do let t ← m__law_digit r z0 (4 : Int); Except.ok (t.1, t.2))) k l) fun z => z.1.length = l.length ∧ (∀ d ∈ z.1, 0 ≤ d ∧ d ≤ 3) ∧ 0 ≤ z.2 := by
    intro l
    induction l with
    | nil => exact fun k hk => ⟨_, rfl, rfl, fun d h => (by cases h), hk⟩
    | cons x l ih =>
      intro k hk
      refine Gv.bind ((dig_gv hk (by decide) hr).bind (R := fun z : Int × Int => (0 ≤ z.1 ∧ z.1 < 4) ∧ 0 ≤ z.2) fun t ht => Gv.ok ht) fun y hy => ?_
      refine Gv.bind (ih y.2 hy.2) fun ys hys => Gv.ok ⟨?_, fun d hd => ?_, hys.2.2⟩
      · show ys.1.length + 1 = _; rw [hys.1]; rfl
      · rcases List.mem_cons.mp hd with rfl | hd
        · have := hy.1; omega
        · exact hys.2.1 d hd
  have := key (rangeI 0 n) k hk
  rw [rangeI_len] at this; exact this
theorem world_gv {row : List Int} {k : Int} (hk : 0 ≤ k) (hr : 0 < row.length) : Gv (m__law_even_world row k 8) fun z => (∃ n w, WorldOk z.1 n w) ∧ 0 ≤ z.2 := by
  unfold m__law_even_world
  refine (dig_gv hk (by decide) hr).bind fun t0 h0 => ?_
  refine (gv_idx (Q := fun x => 1 ≤ x ∧ x ≤ 8) h0.1.1 (by exact h0.1.2) (by decide)).bind fun u hu => ?_
  rw [pure_bind_]
  obtain ⟨c, hc, hc1, hc8⟩ : ∃ c, (if u < 8 then u else 8) = c ∧ 1 ≤ c ∧ c ≤ 8 := ⟨_, rfl, by split <;> omega, by split <;> omega⟩
  rw [hc]
  refine (dig_gv h0.2 (by decide) hr).bind fun t2 h2 => ?_
  refine (gv_idx (Q := fun x => 1 ≤ x ∧ x ≤ 999) h2.1.1 (by exact h2.1.2) (by decide)).bind fun w hw => ?_
  refine (dig_gv h2.2 (by decide) hr).bind fun t4 h4 => ?_
  rw [show powM 10 6 = .ok 1000000 from grd_pos (by unfold CPow; decide), ok_bind]
  refine (dig_gv h4.2 (by decide) hr).bind fun t6 h6 => ?_
  refine (gv_idx (Q := fun x => 1 ≤ x ∧ x ≤ 1000000) h6.1.1 (by exact h6.1.2) (by decide)).bind fun gr hg => ?_
  refine (dig_gv h6.2 (by decide) hr).bind fun t8 h8 => ?_
  refine (dig_gv h8.2 (by decide) hr).bind fun t9 h9 => ?_
  rw [low_eqS (by omega) (by omega), ok_bind, pure_bind_, range_eqM (by omega) (by omega), ok_bind]
  have fa := part_am (a := 1 + t8.1) (b := t9.1) (by omega) (by omega) (by omega) (by omega)
  generalize mkRat (1 + t8.1) (1 + t9.1).toNat = first at fa
  refine (gv_fold (Q := fun s : Int × List Rat => 0 ≤ s.1 ∧ s.2.length = c.toNat ∧ ∀ x ∈ s.2, Al x ∧ 0 ≤ x) (fun i (s : Int × List Rat) => 0 ≤ s.1 ∧ s.2.length = i ∧ ∀ x ∈ s.2, Al x ∧ 0 ≤ x) ⟨h9.2, rfl, fun x h => by cases h⟩ (fun i x s hx hs => ?_) (fun s hs => ⟨hs.1, by rw [hs.2.1, rangeI_len], hs.2.2⟩)).bind fun s hs => ?_
  · have hi := (rangeI_get hx).1
    refine (dig_gv hs.1 (by decide) hr).bind fun u1 k1 => ?_
    refine (dig_gv k1.2 (by decide) hr).bind fun u2 k2 => ?_
    rw [low_eqS (by omega) (by omega), ok_bind]
    have pa := part_am (a := u1.1) (b := u2.1) (by omega) (by omega) (by omega) (by omega)
    generalize mkRat u1.1 (1 + u2.1).toNat = part at pa
    refine Gv.bind (Q := fun z : Bool × Int => 0 ≤ z.2) ?_ fun z hz => ?_
    · refine gv_cond (fun _ => Gv.ok k2.2) fun _ => ?_
      refine Gv.bind (Q := fun z : Bool × Int => 0 ≤ z.2) ?_ fun z hz => Gv.ok hz
      refine gv_cond (fun _ => ?_) fun _ => Gv.ok k2.2
      exact (dig_gv k2.2 (by decide) hr).bind fun u3 k3 => Gv.ok k3.2
    · refine Gv.bind (Q := fun x : Rat => Am 6 14 x ∧ 0 ≤ x) (gv_cond (fun _ => Gv.ok fa) fun _ => Gv.ok pa) fun x hx => ?_
      have ga : Am 1 1000000 (gr : Rat) := am_int gr (by omega)
      have g0 : (0 : Rat) ≤ (gr : Rat) := Rat.intCast_nonneg.mpr (by omega)
      rw [show m__law_mul x (gr : Rat) = .ok (x * (gr : Rat)) from grd_pos ⟨am_szM hx.1 (by decide) (by decide) (by decide), am_szM ga (by decide) (by decide) (by decide)⟩, ok_bind]
      rw [show appM s.2 (x * (gr : Rat)) = .ok (s.2 ++ [x * (gr : Rat)]) from grd_pos (by rw [hs.2.1]; omega), ok_bind]
      refine Gv.ok ⟨hz, by rw [List.length_append, hs.2.1]; rfl, fun y hy => ?_⟩
      rcases List.mem_append.mp hy with hy | hy
      · exact hs.2.2 y hy
      · rw [List.mem_singleton.mp hy]
        exact ⟨(Am.mul hx.1 ga).up (by decide) (by decide), Rat.mul_nonneg hx.2 g0⟩
  · rw [ok_bind]
    refine (mapS_dig hs.1 hr (by omega)).bind fun u hu => ?_
    rw [ok_bind, map_const (by omega), ok_bind, ok_bind, map_const (by omega), ok_bind]
    exact Gv.ok ⟨⟨c.toNat, w, by omega, by omega, hw.1, hw.2, rfl, hs.2.1, hs.2.2, rfl, hu.1, hu.2.1⟩, hu.2.2⟩

end LW

namespace LW
open PySem L2 DL VC
/-! ### the law's best bill -/
def dsum (t : Int) : Nat → List Rat → Rat
  | _, [] => 0
  | k, z :: zs => (((k : Int) / t + 1 : Int) : Rat) * z + dsum t (k + 1) zs
theorem dsum_snoc (t : Int) : ∀ (zs : List Rat) (k : Nat) (y : Rat), dsum t k (zs ++ [y]) = dsum t k zs + ((((k + zs.length : Nat) : Int) / t + 1 : Int) : Rat) * y
  | [], k, y => by show (((k : Int) / t + 1 : Int) : Rat) * y + 0 = 0 + (((((k + 0 : Nat) : Int)) / t + 1 : Int) : Rat) * y; rw [Nat.add_zero]; grind
  | z :: zs, k, y => by
    show (((k : Int) / t + 1 : Int) : Rat) * z + dsum t (k + 1) (zs ++ [y]) = ((((k : Int) / t + 1 : Int) : Rat) * z + dsum t (k + 1) zs) + _
    rw [dsum_snoc t zs (k + 1) y, List.length_cons, show k + 1 + zs.length = k + (zs.length + 1) from by omega]; grind
theorem dsum_bsum {t : Int} (ht : 1 ≤ t) : ∀ ys : List Rat, dsum t 0 ys.reverse = bsum t ys
  | [] => rfl
  | y :: ys => by
    rw [List.reverse_cons, dsum_snoc, dsum_bsum ht ys, List.length_reverse, Nat.zero_add]
    show _ = ((((ys.length + 1 : Nat) : Int) + t - 1) / t : Int) * y + bsum t ys
    have e : (((ys.length + 1 : Nat) : Int) + t - 1) / t = (ys.length : Int) / t + 1 := by
      rw [show ((ys.length + 1 : Nat) : Int) + t - 1 = (ys.length : Int) + 1 * t from by omega, Int.add_mul_ediv_right _ _ (by omega)]
    rw [e]; grind
theorem szAl {x : Rat} (h : Al x) : Sz x := h.sz
theorem lt_eqM {x y : Rat} (h : Sz x) (k : Sz y) : m__law_lt x y = .ok (decide (x < y)) := grd_pos ⟨h, k⟩
theorem add_eqM {x y : Rat} (h : Sz x) (k : Sz y) : m__law_add x y = .ok (x + y) := grd_pos ⟨h, k⟩
theorem sub_eqM {x y : Rat} (h : Sz x) (k : Sz y) : m__law_sub x y = .ok (x - y) := grd_pos ⟨h, k⟩
theorem mul_eqM {x y : Rat} (h : Sz x) (k : Sz y) : m__law_mul x y = .ok (x * y) := grd_pos ⟨h, k⟩
theorem min_eqM {x y : Rat} (h : Sz x) (k : Sz y) : m__law_lesser x y = .ok (rmin x y) := grd_pos ⟨h, k⟩
theorem mulI_eqM {i j : Int} (h : i.natAbs < 2 ^ 64) (k : j.natAbs < 2 ^ 64) : mulM i j = .ok (i * j) := grd_pos (mokS h k)
theorem idx_nat {xs : List Rat} {i : Nat} (h : i < xs.length) : idxM xs (i : Int) = .ok (xs.getD i 0) := by rw [idxM_nat h, List.getD_eq_getElem?_getD, List.getElem?_eq_getElem h]; rfl
theorem getD_mem {xs : List Rat} {i : Nat} (h : i < xs.length) : xs.getD i 0 ∈ xs := by
  rw [List.getD_eq_getElem?_getD, List.getElem?_eq_getElem h]; exact List.getElem_mem h
/-- the place of a greatest one -/
theorem great_gv {ls : List Rat} (hl : ls.length ≤ 8) (h0 : 0 < ls.length) (ha : ∀ x ∈ ls, Al x) : Gv (foldMo (fun (s0_3 : Int) (x0_2 : Int) => (do
      let t0_3 ← idxM ls s0_3
      let t0_4 ← idxM ls x0_2
      let t0_5 ← m__law_lt t0_3 t0_4
      let s0_6 ← (bif t0_5 then (do
          Except.ok x0_2) else (do
          Except.ok s0_3) : Mo (Int))
      Except.ok s0_6 : Mo Int)) (0 : Int) (rangeI 0 ls.length)) fun g => ∃ n : Nat, g = n ∧ n < ls.length ∧ ∀ x ∈ ls, x ≤ ls.getD n 0 := by
  refine gv_fold (fun i g => ∃ n : Nat, g = n ∧ n < ls.length ∧ ∀ j < i, j < ls.length → ls.getD j 0 ≤ ls.getD n 0) ⟨0, rfl, h0, fun j h => absurd h (by omega)⟩ (fun i x g hx hg => ?_) fun g ⟨n, e, hn, h⟩ => ⟨n, e, hn, fun x hx => ?_⟩
  · obtain ⟨n, rfl, hn, hj⟩ := hg
    obtain ⟨hi, rfl⟩ := rangeI_get hx
    rw [Int.zero_add, idx_nat hn, ok_bind, idx_nat hi, ok_bind, lt_eqM (szAl (ha _ (getD_mem hn))) (szAl (ha _ (getD_mem hi))), ok_bind]
    by_cases q : ls.getD n 0 < ls.getD i 0
    · rw [decide_eq_true q, cond_true]
      refine Gv.bind (Gv.ok (Q := fun z => z = (i : Int)) rfl) fun z hz => Gv.ok ⟨i, hz, hi, fun j h1 h2 => ?_⟩
      rcases Nat.lt_succ_iff_lt_or_eq.mp h1 with h | rfl
      · have := hj j h h2; grind
      · grind
    · rw [decide_eq_false q, cond_false]
      refine Gv.bind (Gv.ok (Q := fun z => z = (n : Int)) rfl) fun z hz => Gv.ok ⟨n, hz, hn, fun j h1 h2 => ?_⟩
      rcases Nat.lt_succ_iff_lt_or_eq.mp h1 with h | rfl
      · exact hj j h h2
      · grind
  · obtain ⟨j, hj, rfl⟩ := List.getElem_of_mem hx
    have := h j (by rw [rangeI_len]; exact hj) hj
    rw [List.getD_eq_getElem?_getD, List.getElem?_eq_getElem hj] at this
    exact this
theorem perm_erase {ls : List Rat} {n : Nat} (h : n < ls.length) : ls.Perm (ls.getD n 0 :: (ls.take n ++ ls.drop (n + 1))) := by
  have e : ls = ls.take n ++ ls.getD n 0 :: ls.drop (n + 1) := by
    rw [List.getD_eq_getElem?_getD, List.getElem?_eq_getElem h]
    show ls = ls.take n ++ ls[n] :: ls.drop (n + 1)
    rw [← List.drop_eq_getElem_cons h, List.take_append_drop]
  exact (List.Perm.of_eq e).trans List.perm_middle
structure Lb2 (w t : Int) (zs0 : List Rat) (n k : Nat) (s : List Rat × Rat) (zs : List Rat) : Prop where
  p : s.1.Perm zs
  d : zs.Pairwise (fun a b => b ≤ a)
  l : zs.length = n - k
  e : s.2 + (w : Rat) * dsum t k zs = (w : Rat) * dsum t 0 zs0
  a : Am 420 (100000000000000 * k) s.2
  al : ∀ x ∈ zs, Al x
theorem map_id {xs : List Rat} (h : xs.length ≤ 100000) : mapMo (fun (x0 : Rat) => Except.ok x0) xs = .ok xs := by
  rw [map_eq (g := fun x => x) h (fun _ _ => rfl), List.map_id']
theorem lbest_ok {W : (List Int) × (List Rat) × (List Rat) × (List Int)} {n : Nat} {w t : Int} (H : WorldOk W n w) (h1 : 1 ≤ t) (h8 : t ≤ 8) : m__law_many_best W t = .ok (bestF w t W.2.1) := by
  have hl := H.ll
  have hn1 := H.n1
  have hn8 := H.n8
  refine Gv.eq ?_
  unfold m__law_many_best
  rw [map_id (by omega), ok_bind, pure_bind_, range_eqM (by omega) (by omega), ok_bind, Int.toNat_natCast]
  refine Gv.bind (Q := fun s : List Rat × Rat => s.2 = bestF w t W.2.1) ?_ fun s hs => Gv.ok hs
  have hz0 : dsum t 0 (sortR W.2.1).reverse = bsum t (sortR W.2.1) := dsum_bsum h1 _
  refine gv_fold (fun k s => ∃ zs, Lb2 w t (sortR W.2.1).reverse n k s zs) ⟨(sortR W.2.1).reverse, ?_, ?_, ?_, ?_, ?_, ?_⟩ (fun k x s hx hs => ?_) (fun s hs => ?_)
  · exact (sort_perm W.2.1).symm.trans (List.reverse_perm _).symm
  · exact List.pairwise_reverse.mpr (sort_srt W.2.1)
  · rw [List.length_reverse, sort_len, hl]; rfl
  · show (0 : Rat) + _ = _; grind
  · exact am_int (n := 420) (B := 100000000000000 * 0) 0 (by decide)
  · intro x hx
    exact (H.ls x ((sort_perm W.2.1).mem_iff.mp (List.mem_reverse.mp hx))).1
  · obtain ⟨zs, S⟩ := hs
    obtain ⟨hk, rfl⟩ := rangeI_get hx
    rw [hl] at hk
    rw [Int.zero_add]
    have hsl : s.1.length = n - k := by rw [S.p.length_eq]; exact S.l
    have hal : ∀ x ∈ s.1, Al x := fun x hx => S.al x (S.p.mem_iff.mp hx)
    rw [range_eqM (by omega) (by omega), ok_bind, Int.toNat_natCast]
    refine (great_gv (by omega) (by omega) hal).bind fun g hg => ?_
    obtain ⟨q, rfl, hq, hmax⟩ := hg
    rw [H.ws, show idxM (List.replicate n w) 0 = .ok w from by
      obtain ⟨m, rfl⟩ : ∃ m, n = m + 1 := ⟨n - 1, by omega⟩
      exact idxM_nat (xs := List.replicate (m + 1) w) (i := 0) (by rw [List.length_replicate]; omega), ok_bind]
    have ht : fdivM (k : Int) t = .ok ((k : Int) / t) := grd_pos (wd (by omega) (big (n := 10) (by omega) (by decide)))
    have d0 := Int.ediv_nonneg (show (0 : Int) ≤ k by omega) (show 0 ≤ t by omega)
    have d1 := Int.ediv_le_self t (show (0 : Int) ≤ k by omega)
    have w1 := H.w1; have w9 := H.w9
    have hb : (w * ((k : Int) / t + 1)).natAbs ≤ 9999 := by
      rw [Int.natAbs_mul]
      exact Nat.le_trans (Nat.mul_le_mul (show w.natAbs ≤ 999 by omega) (show ((k : Int) / t + 1).natAbs ≤ 9 by omega)) (by decide)
    rw [ht, ok_bind, mulI_eqM (by omega) (by omega), ok_bind, idx_nat hq, ok_bind]
    have aq := hal _ (getD_mem hq)
    have ac : Am 1 9999 ((w * ((k : Int) / t + 1) : Int) : Rat) := am_int _ hb
    have ap : Am 420 100000000000000 (((w * ((k : Int) / t + 1) : Int) : Rat) * s.1.getD q 0) := (Am.mul ac aq).up (by decide) (by decide)
    rw [mul_eqM (am_szM ac (by decide) (by decide) (by decide)) (szAl aq), ok_bind, add_eqM (am_szM S.a (by decide) (by decide) (Nat.lt_of_le_of_lt (show 100000000000000 * k ≤ 100000000000000 * 8 by omega) (by decide))) (am_szM ap (by decide) (by decide) (by decide)), ok_bind]
    rw [cutL_to, show ((q : Int) + 1) = ((q + 1 : Nat) : Int) from by omega, cutL_from]
    rw [show catM (s.1.take q) (s.1.drop (q + 1)) = .ok (s.1.take q ++ s.1.drop (q + 1)) from grd_pos (by rw [List.length_take, List.length_drop]; omega), ok_bind]
    cases zs with
    | nil => have := S.l; simp at this; omega
    | cons z zs =>
      have hz : s.1.getD q 0 = z := by
        have h2 : s.1.getD q 0 ∈ z :: zs := S.p.mem_iff.mp (getD_mem hq)
        have h3 := hmax z (S.p.mem_iff.mpr (List.mem_cons_self ..))
        rcases List.mem_cons.mp h2 with h | h
        · exact h
        · exact Rat.le_antisymm ((List.pairwise_cons.mp S.d).1 _ h) h3
      refine Gv.ok ⟨zs, ?_, (List.pairwise_cons.mp S.d).2, ?_, ?_, ?_, fun x hx => S.al x (List.mem_cons_of_mem _ hx)⟩
      · have := (perm_erase hq).symm.trans S.p
        rw [hz] at this
        exact this.cons_inv
      · have := S.l; rw [List.length_cons] at this; omega
      · have := S.e
        show s.2 + _ + (w : Rat) * dsum t (k + 1) zs = _
        rw [← this, hz, Rat.intCast_mul]
        show _ = s.2 + (w : Rat) * ((((k : Int) / t + 1 : Int) : Rat) * z + dsum t (k + 1) zs)
        grind
      · exact (Am.add S.a ap).up (Nat.dvd_refl _) (by omega)
  · obtain ⟨zs, S⟩ := hs
    rw [rangeI_len] at S
    have : zs = [] := List.length_eq_zero_iff.mp (by rw [S.l, hl]; omega)
    subst this
    have e := S.e
    rw [hz0] at e
    rw [best_sum, ← e]
    show s.2 = s.2 + (w : Rat) * 0
    grind
/-! ### the law's even bill -/
theorem cost_eq {m : Nat} {w t : Int} (ht : 1 ≤ t) : mkRat ((m : Int) * (if (m : Int) > t then (m : Int) else t) * w) t.toNat = (w : Rat) * cEven t m := by
  have hb : 0 < t.toNat := by omega
  have pb : (0 : Rat) < (t.toNat : Rat) := by have := Rat.natCast_lt_natCast.mpr hb; exact this
  have ct : ((t.toNat : Nat) : Rat) = (t : Rat) := by rw [← Rat.intCast_natCast, Int.toNat_of_nonneg (by omega)]
  have key : ∀ a : Int, mkRat a t.toNat * (t : Rat) = (a : Rat) := fun a => by
    rw [← ct]
    have e3 : (t.toNat : Rat) = mkRat t.toNat 1 := (Rat.mkRat_self (t.toNat : Rat)).symm
    have e4 : (a : Rat) = mkRat a 1 := (Rat.mkRat_self (a : Rat)).symm
    rw [e3, e4, Rat.mkRat_mul_mkRat, Rat.mkRat_eq_iff (by omega) (by omega)]; simp
  rw [ct] at pb
  have e1 := key ((m : Int) * (if (m : Int) > t then (m : Int) else t) * w)
  have e2 := key m
  rw [Rat.intCast_natCast] at e2
  unfold cEven rmax
  have hm : (1 : Rat) < mkRat m t.toNat ↔ (m : Int) > t := by
    constructor
    · intro h
      have := Rat.mul_pos (show 0 < mkRat m t.toNat - 1 by grind) pb
      have h2 : (t : Rat) < ((m : Int) : Rat) := by rw [Rat.intCast_natCast]; grind
      exact Rat.intCast_lt_intCast.mp h2
    · intro h
      have h2 : (t : Rat) < ((m : Int) : Rat) := Rat.intCast_lt_intCast.mpr h
      rw [Rat.intCast_natCast] at h2
      by_cases q : (1 : Rat) < mkRat m t.toNat
      · exact q
      · have := Rat.mul_nonneg (show 0 ≤ 1 - mkRat m t.toNat by grind) (Rat.le_of_lt pb)
        grind
  have canc : ∀ x y : Rat, x * (t : Rat) = y * (t : Rat) → x = y := fun x y h => by
    by_cases q : x < y
    · have := Rat.mul_pos (show 0 < y - x by grind) pb; grind
    · by_cases q2 : y < x
      · have := Rat.mul_pos (show 0 < x - y by grind) pb; grind
      · grind
  apply canc
  rw [e1]
  by_cases c : (m : Int) > t
  · rw [if_pos c, if_pos (hm.mpr c), Rat.intCast_mul, Rat.intCast_mul, Rat.intCast_natCast]
    have : (w : Rat) * ((m : Rat) * mkRat m t.toNat) * (t : Rat) = (w : Rat) * ((m : Rat) * (mkRat m t.toNat * (t : Rat))) := by grind
    rw [this, e2]; grind
  · rw [if_neg c, if_neg (fun h => c (hm.mp h)), Rat.intCast_mul, Rat.intCast_mul, Rat.intCast_natCast]; grind
/-- the least of a list -/
theorem least_gv {ls : List Rat} (ha : ∀ x ∈ ls, Al x) (h0 : 0 < ls.length) : Gv (foldMo (fun (s0_4 : Rat) (x0_2 : Rat) => (do
      let least1 ← m__law_lesser s0_4 x0_2
      Except.ok least1 : Mo Rat)) (ls.getD 0 0) ls) fun y => y ∈ ls ∧ ∀ x ∈ ls, y ≤ x := by
  refine gv_fold (fun i y => y ∈ ls ∧ ∀ j < i, j < ls.length → y ≤ ls.getD j 0) ⟨getD_mem h0, fun j h => absurd h (by omega)⟩ (fun i x y hx hy => ?_) fun y hy => ⟨hy.1, fun x hx => ?_⟩
  · obtain ⟨hi, rfl⟩ := List.getElem?_eq_some_iff.mp hx
    rw [min_eqM (szAl (ha _ hy.1)) (szAl (ha _ (List.getElem_mem hi))), ok_bind]
    have e : ls.getD i 0 = ls[i] := by rw [List.getD_eq_getElem?_getD, List.getElem?_eq_getElem hi]; rfl
    refine Gv.ok ⟨?_, fun j h1 h2 => ?_⟩
    · unfold rmin; split
      · exact List.getElem_mem hi
      · exact hy.1
    · have m1 : rmin y ls[i] ≤ y := by unfold rmin; split <;> grind
      have m2 : rmin y ls[i] ≤ ls[i] := by unfold rmin; split <;> grind
      rcases Nat.lt_succ_iff_lt_or_eq.mp h1 with h | rfl
      · exact Rat.le_trans m1 (hy.2 j h h2)
      · rw [e]; exact m2
  · obtain ⟨j, hj, rfl⟩ := List.getElem_of_mem hx
    have := hy.2 j hj hj
    rw [List.getD_eq_getElem?_getD, List.getElem?_eq_getElem hj] at this
    exact this
theorem comp_filter {low : Rat} {xs : List Rat} (hx : ∀ x ∈ xs, Al x) (hl : Al low) (hn : xs.length ≤ 100000) : compMo (fun (x0_1 : Rat) => (do let t0_1 ← m__law_lt low x0_1; let b0 ← pure t0_1; bif b0 then Except.ok (some x0_1) else Except.ok none)) xs = .ok (xs.filter fun x => decide (low < x)) := by
  rw [comp_eq (g := fun x => if decide (low < x) then some x else none) hn (fun x hx2 => by
    rw [lt_eqM (szAl hl) (szAl (hx x hx2)), ok_bind, pure_bind_]
    by_cases q : low < x
    · rw [decide_eq_true q]; rfl
    · rw [decide_eq_false q]; rfl)]
  congr 1
  clear hx hn
  induction xs with
  | nil => rfl
  | cons x xs ih =>
    rw [List.filterMap_cons]
    by_cases q : low < x
    · rw [List.filter_cons_of_pos (by simpa using q), if_pos (by simpa using q), ← ih]
    · rw [List.filter_cons_of_neg (by simpa using q), if_neg (by simpa using q), ← ih]
structure Le2 (w t : Int) (xs : List Rat) (n k : Nat) (s : Rat × Rat) : Prop where
  e : s.1 + (w : Rat) * lay (cEven t) s.2 ((sortR xs).filter fun y => decide (s.2 < y)) = (w : Rat) * lay (cEven t) 0 (sortR xs)
  l : ((sortR xs).filter fun y => decide (s.2 < y)).length ≤ n - k
  a : Am (840 * 420) (1000000000000000 * k) s.1
  al : Al s.2
  nn : 0 ≤ s.2
theorem leven_ok {W : (List Int) × (List Rat) × (List Rat) × (List Int)} {n : Nat} {w t : Int} (H : WorldOk W n w) (h1 : 1 ≤ t) (h8 : t ≤ 8) : m__law_even_bill W t = .ok (billF w t W.2.1) := by
  have hl := H.ll
  have hn1 := H.n1
  have hn8 := H.n8
  have hxa : ∀ x ∈ W.2.1, Al x := fun x hx => (H.ls x hx).1
  have hsp := sort_perm W.2.1
  have hss := sort_srt W.2.1
  refine Gv.eq ?_
  unfold m__law_even_bill
  rw [pure_bind_, pure_bind_, range_eqM (by omega) (by omega), ok_bind, Int.toNat_natCast]
  refine Gv.bind (Q := fun s : Rat × Rat => s.1 = billF w t W.2.1) ?_ fun s hs => Gv.ok hs
  refine gv_fold (fun k s => Le2 w t W.2.1 n k s) ⟨?_, ?_, am_int (n := 840 * 420) (B := 1000000000000000 * 0) 0 (by decide), am_int (n := 420) (B := 1000000000) 0 (by decide), by decide +kernel⟩ (fun k x s hx S => ?_) (fun s S => ?_)
  · rw [← lay_skip (cEven t) hss fun y hy => (H.ls y (hsp.mem_iff.mp hy)).2]
    show (0 : Rat) + _ = _; grind
  · refine Nat.le_trans (List.length_filter_le ..) ?_
    rw [sort_len, hl]; omega
  · obtain ⟨hk, rfl⟩ := rangeI_get hx
    rw [hl] at hk
    rw [comp_filter hxa S.al (by omega), ok_bind]
    have hp : ((sortR W.2.1).filter fun y => decide (s.2 < y)).Perm (W.2.1.filter fun y => decide (s.2 < y)) := hsp.filter _
    have hpl := hp.length_eq
    generalize hhe : (W.2.1.filter fun y => decide (s.2 < y)) = here at hp hpl
    have hha : ∀ x ∈ here, Al x := fun x hx => hxa x (List.mem_filter.mp (hhe ▸ hx)).1
    have hhl : here.length ≤ 8 := by rw [← hhe]; exact Nat.le_trans (List.length_filter_le ..) (by omega)
    by_cases c : here.length = 0
    · rw [decide_eq_false (by omega), cond_false]
      refine Gv.bind (Q := fun z => z = s) (Gv.ok rfl) fun z hz => ?_
      subst hz
      refine Gv.ok ⟨S.e, Nat.le_trans (Nat.le_of_eq (hpl.trans c)) (Nat.zero_le _), S.a.up (Nat.dvd_refl _) (by omega), S.al, S.nn⟩
    · rw [decide_eq_true (by omega), cond_true]
      refine Gv.bind (Q := fun z : Rat × Rat => Le2 w t W.2.1 n (k + 1) z) ?_ fun z hz => Gv.ok hz
      rw [show idxM here (0 : Int) = .ok (here.getD 0 0) from idx_nat (xs := here) (i := 0) (by omega), ok_bind]
      refine (least_gv hha (by omega)).bind fun y hy => ?_
      have w1 := H.w1; have w9 := H.w9
      have hm : ((if (here.length : Int) > t then (here.length : Int) else t)).natAbs ≤ 8 := by split <;> omega
      have hm2 : ((here.length : Int) * (if (here.length : Int) > t then (here.length : Int) else t)).natAbs ≤ 64 := by
        rw [Int.natAbs_mul]
        exact Nat.le_trans (Nat.mul_le_mul (show (here.length : Int).natAbs ≤ 8 by omega) hm) (by decide)
      rw [mulI_eqM (by omega) (by omega), ok_bind, H.ws, show idxM (List.replicate n w) 0 = .ok w from by
        obtain ⟨m, rfl⟩ : ∃ m, n = m + 1 := ⟨n - 1, by omega⟩
        exact idxM_nat (xs := List.replicate (m + 1) w) (i := 0) (by rw [List.length_replicate]; omega), ok_bind, mulI_eqM (by omega) (by omega), ok_bind, low_eqS (by omega) (by omega), ok_bind]
      have hcn : (0 : Int) ≤ (here.length : Int) * (if (here.length : Int) > t then (here.length : Int) else t) := Int.mul_nonneg (by omega) (by split <;> omega)
      have dv8 : ∀ b ≤ 8, 0 < b → b ∣ 840 := by decide
      have ac : Am 840 100000 (mkRat ((here.length : Int) * (if (here.length : Int) > t then (here.length : Int) else t) * w) t.toNat) := by
        refine mk_am (Int.mul_nonneg hcn (by omega)) ?_ (by omega) (dv8 _ (by omega) (by omega))
        have := Int.mul_le_mul (show (here.length : Int) * (if (here.length : Int) > t then (here.length : Int) else t) ≤ 64 by omega) w9 (by omega) (by omega)
        exact Int.le_trans this (by decide)
      rw [cost_eq h1] at ac ⊢
      have ay := hha y hy.1
      have ad : Am 420 2000000000 (y - s.2) := Am.sub ay S.al
      have ap : Am (840 * 420) 1000000000000000 ((w : Rat) * cEven t here.length * (y - s.2)) := (Am.mul ac ad).up (Nat.dvd_refl _) (by decide)
      rw [sub_eqM (szAl ay) (szAl S.al), ok_bind, mul_eqM (am_szM ac (by decide) (by decide) (by decide)) (am_szM ad (by decide) (by decide) (by decide)), ok_bind, add_eqM (am_szM S.a (by decide) (by decide) (Nat.lt_of_le_of_lt (show 1000000000000000 * k ≤ 1000000000000000 * 8 by omega) (by decide))) (am_szM ap (by decide) (by decide) (by decide)), ok_bind]
      have hlow : s.2 < y := by
        have := (List.mem_filter.mp (hhe ▸ hy.1)).2
        simpa using this
      -- the sorted ones above low
      have hsf : Srt ((sortR W.2.1).filter fun y => decide (s.2 < y)) := hss.filter _
      have eyy : ((sortR W.2.1).filter fun z => decide (y < z)) = ((sortR W.2.1).filter fun y => decide (s.2 < y)).filter fun z => decide (y < z) := by
        rw [List.filter_filter]
        refine List.filter_congr fun z _ => ?_
        by_cases q : y < z
        · have : s.2 < z := by grind
          rw [decide_eq_true q, decide_eq_true this]; rfl
        · rw [decide_eq_false q]; rfl
      have hE := S.e
      have hL := S.l
      generalize (sortR W.2.1).filter (fun y => decide (s.2 < y)) = zs at hp hpl hsf eyy hE hL
      cases zs with
      | nil => simp at hpl; omega
      | cons z zs =>
        obtain ⟨k1, k2⟩ := List.pairwise_cons.mp hsf
        have hz : z = y := by
          refine Rat.le_antisymm ?_ (hy.2 z (hp.mem_iff.mp (List.mem_cons_self ..)))
          rcases List.mem_cons.mp (hp.mem_iff.mpr hy.1) with h | h
          · rw [h]; exact Rat.le_refl
          · exact k1 y h
        subst hz
        rw [List.filter_cons_of_neg (by simp)] at eyy
        refine Gv.ok ⟨?_, ?_, (Am.add S.a ap).up (Nat.dvd_refl _) (by omega), ay, by have := S.nn; show 0 ≤ z; grind⟩
        · show s.1 + _ + (w : Rat) * lay (cEven t) z ((sortR W.2.1).filter fun y => decide (z < y)) = _
          rw [eyy, ← lay_skip (cEven t) k2 k1, ← hE]
          show _ = s.1 + (w : Rat) * (cEven t (zs.length + 1) * (z - s.2) + lay (cEven t) z zs)
          have : here.length = zs.length + 1 := by rw [← hpl]; rfl
          rw [this]; grind
        · show ((sortR W.2.1).filter fun y => decide (z < y)).length ≤ _
          rw [eyy]
          refine Nat.le_trans (List.length_filter_le ..) ?_
          rw [List.length_cons] at hL; omega
  · rw [rangeI_len] at S
    have : ((sortR W.2.1).filter fun y => decide (s.2 < y)) = [] := List.length_eq_zero_iff.mp (by have := S.l; omega)
    have e := S.e
    rw [this] at e
    rw [bill_lay, ← e]
    show s.1 = s.1 + (w : Rat) * 0
    grind

end LW

namespace LW
open PySem L2 DL VC
/-! ### the law of many factors -/
theorem Am.bd {n B : Nat} {x : Rat} (h : Am n B x) (hn : 0 < n) : x.num.natAbs ≤ B * n ∧ x.den ≤ n := by
  obtain ⟨⟨z, h0⟩, l1, l2⟩ := h
  have e : x.num * n = z * x.den := by
    rw [Rat.mul_def'] at h0
    have e1 : (z : Rat) = mkRat z 1 := (Rat.mkRat_self (z : Rat)).symm
    have hd := x.den_pos
    rw [e1, Rat.mkRat_eq_iff (by show x.den * 1 ≠ 0; omega) (by decide)] at h0
    have h0' : x.num * n * ((1 : Nat) : Int) = z * ((x.den * 1 : Nat) : Int) := h0
    simpa using h0'
  have dv : x.den ∣ n := by
    have q : x.den ∣ x.num.natAbs * n := by
      have := congrArg Int.natAbs e
      rw [Int.natAbs_mul, Int.natAbs_mul, Int.natAbs_natCast, Int.natAbs_natCast] at this
      exact ⟨z.natAbs, by rw [this, Nat.mul_comm]⟩
    exact (Nat.Coprime.symm x.reduced).dvd_of_dvd_mul_left q
  have dl : x.den ≤ n := Nat.le_of_dvd hn dv
  have u1 : x.num ≤ B * x.den := by
    have := (Rat.le_iff _ _).mp l2
    have eB : ((B : Rat)).num = B := rfl
    have eD : ((B : Rat)).den = 1 := rfl
    rw [eB, eD] at this
    omega
  have u2 : -(B * x.den : Int) ≤ x.num := by
    have := (Rat.le_iff _ _).mp l1
    have eB : (-(B : Rat)).num = -B := rfl
    have eD : (-(B : Rat)).den = 1 := rfl
    rw [eB, eD, Int.neg_mul] at this
    omega
  have u3 : x.num.natAbs ≤ B * x.den := by
    have : ((B * x.den : Nat) : Int) = (B : Int) * x.den := by simp
    omega
  exact ⟨Nat.le_trans u3 (Nat.mul_le_mul_left _ dl), dl⟩
/-- both parts below 2 ^ k -/
def Bd (k : Nat) (x : Rat) : Prop := x.num.natAbs < 2 ^ k ∧ x.den < 2 ^ k
theorem Bd.sz {k : Nat} {x : Rat} (h : Bd k x) (hk : k ≤ 4000) : Sz x := ⟨Nat.lt_of_lt_of_le h.1 (Nat.pow_le_pow_right (by decide) hk), Nat.lt_of_lt_of_le h.2 (Nat.pow_le_pow_right (by decide) hk)⟩
theorem Am.toBd {n B k : Nat} {x : Rat} (h : Am n B x) (hn : 0 < n) (h1 : B * n < 2 ^ k) (h2 : n < 2 ^ k) : Bd k x := ⟨Nat.lt_of_le_of_lt (h.bd hn).1 h1, Nat.lt_of_le_of_lt (h.bd hn).2 h2⟩
theorem bd_mk {a b : Int} {k : Nat} (ha : a.natAbs < 2 ^ k) (h0 : 0 < b) (hb : b.natAbs < 2 ^ k) : Bd k (mkRat a b.toNat) := by
  obtain ⟨e1, e2⟩ := low_eq (a := a) h0
  refine ⟨?_, ?_⟩
  · rw [e1]
    refine Nat.lt_of_le_of_lt ?_ ha
    rw [Int.natAbs_ediv_of_dvd (Int.ofNat_dvd_left.mpr (Nat.gcd_dvd_left _ _)), Int.natAbs_natCast]
    exact Nat.div_le_self _ _
  · have : ((mkRat a b.toNat).den : Int).natAbs ≤ b.natAbs := by
      rw [e2, Int.natAbs_ediv_of_dvd (Int.ofNat_dvd_left.mpr (Nat.gcd_dvd_right _ _)), Int.natAbs_natCast]
      exact Nat.div_le_self _ _
    rw [Int.natAbs_natCast] at this
    omega
theorem Bd.mul {j k : Nat} {x y : Rat} (h : Bd j x) (q : Bd k y) : Bd (j + k) (x * y) := by
  rw [← fr_mul x y]
  refine bd_mk ?_ (Int.mul_pos (den_pos x) (den_pos y)) ?_
  · rw [Int.natAbs_mul, Nat.pow_add]
    exact Nat.mul_lt_mul'' h.1 q.1
  · rw [Int.natAbs_mul, Nat.pow_add, Int.natAbs_natCast, Int.natAbs_natCast]
    exact Nat.mul_lt_mul'' h.2 q.2
theorem fac_bd {n : Nat} {t : Int} (hn : n ≤ 100) (h1 : 1 ≤ t) (h8 : t ≤ 8) : Bd 40 (factorF n t) := by
  unfold factorF
  split
  · exact ⟨by decide, by decide⟩
  · rename_i h
    obtain ⟨a, b⟩ := rounds_bounds (n := n) (t := t) h1 (by omega) (by omega)
    have h2 : (t * roundsF n t).natAbs ≤ 8 * 200000 := by
      rw [Int.natAbs_mul]
      exact Nat.mul_le_mul (by omega) (by omega)
    refine bd_mk ?_ (Int.mul_pos (by omega) (by omega)) (Nat.lt_of_le_of_lt h2 (by decide))
    rw [Int.natAbs_mul]
    exact Nat.lt_of_le_of_lt (Nat.mul_le_mul (show (n : Int).natAbs ≤ 100 by omega) (show (n : Int).natAbs ≤ 100 by omega)) (by decide)
def nameB (z : Str) : Bool := decide (1 ≤ z.length) && decide (z.length ≤ 8) && (match z.cps.toList with | [] => true | c :: _ => lettersZ.cps.toList.contains c) && z.cps.toList.all fun ch => lettersZ.cps.toList.contains ch || figuresZ.cps.toList.contains ch
theorem name_of {z : Str} (h : nameB z = true) : NameOk z := by
  unfold nameB at h
  simp only [Bool.and_eq_true, decide_eq_true_eq, List.all_eq_true, Bool.or_eq_true, List.contains_iff_mem] at h
  obtain ⟨⟨⟨h1, h2⟩, h3⟩, h4⟩ := h
  refine ⟨h1, h2, fun ch hc => ?_, fun ch hc => h4 ch hc⟩
  cases e : z.cps.toList with
  | nil => rw [e] at hc; cases hc
  | cons c cs =>
    rw [e] at hc h3
    obtain rfl : c = ch := Option.some.inj hc
    simpa using h3
theorem menu_ok : ∀ z ∈ menuZ, nameB z = true := by decide +kernel
theorem names_ok : ∀ d < 8, ∀ n ≤ 8, (namesF ((d : Nat) : Int) n).Nodup ∧ ∀ z ∈ namesF ((d : Nat) : Int) n, z ∈ menuZ := by decide +kernel
theorem jobs_nm {ns : List Str} {ws : List Int} {ls cs : List Rat} {ts : List Int} : (jobsF ns ws ls cs ts).map (·.nm) = ns := by
  unfold jobsF
  rw [List.map_map]
  refine List.ext_getElem? fun i => ?_
  rw [List.getElem?_map]
  by_cases h : i < ns.length
  · rw [List.getElem?_range h]
    show some (ns.getD i "") = _
    rw [List.getD_eq_getElem?_getD, List.getElem?_eq_getElem h]; rfl
  · rw [List.getElem?_eq_none (by rw [List.length_range]; omega), List.getElem?_eq_none (by omega)]; rfl
theorem jobs_l {ns : List Str} {ws : List Int} {ls cs : List Rat} {ts : List Int} (h : ls.length = ns.length) : lensF (jobsF ns ws ls cs ts) = ls := by
  unfold lensF jobsF
  rw [List.map_map]
  refine List.ext_getElem? fun i => ?_
  rw [List.getElem?_map]
  by_cases q : i < ns.length
  · rw [List.getElem?_range q]
    show some (ls.getD i 0) = _
    rw [List.getD_eq_getElem?_getD, List.getElem?_eq_getElem (by omega)]; rfl
  · rw [List.getElem?_eq_none (by rw [List.length_range]; omega), List.getElem?_eq_none (by omega)]; rfl
theorem getD_rep {α : Type} {n i : Nat} {a b : α} (h : i < n) : (List.replicate n a).getD i b = a := by
  rw [List.getD_eq_getElem?_getD, List.getElem?_replicate, if_pos h]; rfl
theorem mem_getD {α : Type} {l : List α} {i : Nat} {b : α} (h : i < l.length) : l.getD i b ∈ l := by
  rw [List.getD_eq_getElem?_getD, List.getElem?_eq_getElem h]; exact List.getElem_mem h
theorem day_ok {W : (List Int) × (List Rat) × (List Rat) × (List Int)} {n : Nat} {w d : Int} (H : WorldOk W n w) (h0 : 0 ≤ d) (h8 : d < 8) :
    JobsOk (jobsF (namesF d n) W.1 W.2.1 W.2.2.1 W.2.2.2) ∧ Ev (jobsF (namesF d n) W.1 W.2.1 W.2.2.1 W.2.2.2) w ∧ wOf (jobsF (namesF d n) W.1 W.2.1 W.2.2.1 W.2.2.2) = w ∧ lensF (jobsF (namesF d n) W.1 W.2.1 W.2.2.1 W.2.2.2) = W.2.1 := by
  have hnl : (namesF d n).length = n := by unfold namesF; rw [List.length_map, List.length_range]
  have hn8 := H.n8
  have hn1 := H.n1
  obtain ⟨nd, nm⟩ := names_ok d.toNat (by omega) n hn8
  rw [Int.toNat_of_nonneg h0] at nd nm
  have jok : JobsOk (jobsF (namesF d n) W.1 W.2.1 W.2.2.1 W.2.2.2) := by
    refine ⟨fun j hj => ?_, by rw [jobs_nm]; exact nd, by unfold jobsF; rw [List.length_map, List.length_range, hnl]; exact hn8⟩
    unfold jobsF at hj
    obtain ⟨q, hq, rfl⟩ := List.mem_map.mp hj
    have hq := List.mem_range.mp hq
    rw [hnl] at hq
    have e1 := H.ll; have e2 := H.tl
    have a := H.ls _ (mem_getD (l := W.2.1) (i := q) (b := 0) (by omega))
    have b := H.ts _ (mem_getD (l := W.2.2.2) (i := q) (b := 0) (by omega))
    refine ⟨name_of (menu_ok _ (nm _ (mem_getD (by omega)))), ?_, ⟨a.1.sz, a.2⟩, ?_, by show 0 ≤ W.2.2.2.getD q 0 ∧ W.2.2.2.getD q 0 ≤ 999; omega⟩
    · show 1 ≤ W.1.getD q 0 ∧ W.1.getD q 0 ≤ 999
      rw [H.ws, getD_rep hq]; exact ⟨H.w1, H.w9⟩
    · show Sz (W.2.2.1.getD q 0) ∧ 0 ≤ W.2.2.1.getD q 0
      rw [H.cs, getD_rep hq]
      exact ⟨am_szM (am_int (n := 1) (B := 1) 0 (by decide)) (by decide) (by decide) (by decide), by decide +kernel⟩
  have hw : ∀ j ∈ jobsF (namesF d n) W.1 W.2.1 W.2.2.1 W.2.2.2, j.w = w ∧ j.c = 0 ∧ Al j.l := fun j hj => by
    unfold jobsF at hj
    obtain ⟨q, hq, rfl⟩ := List.mem_map.mp hj
    have hq := List.mem_range.mp hq
    rw [hnl] at hq
    have e1 := H.ll
    refine ⟨?_, ?_, (H.ls _ (mem_getD (l := W.2.1) (i := q) (b := 0) (by omega))).1⟩
    · show W.1.getD q 0 = w; rw [H.ws, getD_rep hq]
    · show W.2.2.1.getD q 0 = 0; rw [H.cs, getD_rep hq]
  have jl : (jobsF (namesF d n) W.1 W.2.1 W.2.2.1 W.2.2.2).length = n := by unfold jobsF; rw [List.length_map, List.length_range, hnl]
  refine ⟨jok, ⟨jok, fun j hj => (hw j hj).1, fun j hj => (hw j hj).2.1, fun j hj => (hw j hj).2.2, H.w1, H.w9⟩, ?_, jobs_l (by rw [hnl]; exact H.ll)⟩
  unfold wOf
  rw [List.getD_eq_getElem?_getD, List.getElem?_map, List.getElem?_eq_getElem (by omega)]
  exact (hw _ (List.getElem_mem (by omega))).1
theorem lay_am {c : Nat → Rat} {N B : Nat} (hc : ∀ m, 1 ≤ m → m ≤ 8 → Am N B (c m)) : ∀ (ys : List Rat) (low : Rat), Al low → (∀ y ∈ ys, Al y) → ys.length ≤ 8 → Am (N * 420) (B * 2000000000 * ys.length) (lay c low ys)
  | [], low, _, _, _ => am_int (n := N * 420) (B := B * 2000000000 * 0) 0 (by simp)
  | y :: ys, low, hl, hy, hn => by
    have ih := lay_am hc ys y (hy y (List.mem_cons_self ..)) (fun z hz => hy z (List.mem_cons_of_mem _ hz)) (by rw [List.length_cons] at hn; omega)
    have a := Am.mul (hc (ys.length + 1) (by omega) hn) (Am.sub (hy y (List.mem_cons_self ..)) hl)
    have := Am.add a ih
    show Am _ _ (c (ys.length + 1) * (y - low) + lay c y ys)
    refine this.up (Nat.dvd_refl _) ?_
    have e : ∀ a l : Nat, a + a * l = a * (l + 1) := fun a l => by rw [Nat.mul_succ, Nat.add_comm]
    exact Nat.le_of_eq (e (B * 2000000000) ys.length)
theorem c_even_am {t : Int} (h1 : 1 ≤ t) (h8 : t ≤ 8) : ∀ m, 1 ≤ m → m ≤ 8 → Am 840 64 (cEven t m) := fun m a b => by
  unfold cEven
  have := Am.mul (am_int (n := 1) (B := 8) (m : Int) (by omega)) (rmax_am (am_int (n := 840) (B := 8) 1 (by decide)) (ratio_am (a := m) h1 h8 (by omega) (by omega)))
  rw [Rat.intCast_natCast] at this
  exact this.up (by decide) (by decide)
theorem c_best_am {t : Int} (h1 : 1 ≤ t) (h8 : t ≤ 8) : ∀ m, 1 ≤ m → m ≤ 8 → Am 840 16000 (cBest t m) := fun m a b => by
  obtain ⟨x, y⟩ := rounds_bounds (n := m) (t := t) h1 (by omega) (by omega)
  exact am_int _ (by omega)
theorem int_am {w : Int} (h1 : 1 ≤ w) (h9 : w ≤ 999) : Am 1 999 (w : Rat) := am_int w (by omega)
section
variable {W : (List Int) × (List Rat) × (List Rat) × (List Int)} {n : Nat} {w t : Int}
theorem srt_al (H : WorldOk W n w) : ∀ y ∈ sortR W.2.1, Al y ∧ 0 ≤ y := fun y hy => H.ls y ((sort_perm W.2.1).mem_iff.mp hy)
theorem bill_bd (H : WorldOk W n w) (h1 : 1 ≤ t) (h8 : t ≤ 8) : Bd 100 (billF w t W.2.1) := by
  rw [bill_lay]
  have l8 : (sortR W.2.1).length ≤ 8 := by rw [sort_len, H.ll]; exact H.n8
  have := Am.mul (int_am H.w1 H.w9) (lay_am (c_even_am h1 h8) (sortR W.2.1) 0 (am_int (n := 420) (B := 1000000000) 0 (by decide)) (fun y hy => (srt_al H y hy).1) l8)
  exact (this.up (B' := 999 * (64 * 2000000000 * 8)) (Nat.dvd_refl _) (Nat.mul_le_mul_left _ (Nat.mul_le_mul_left _ l8))).toBd (by decide) (by decide +kernel) (by decide +kernel)
theorem best_bd (H : WorldOk W n w) (h1 : 1 ≤ t) (h8 : t ≤ 8) : Bd 100 (bestF w t W.2.1) := by
  rw [best_lay]
  have l8 : (sortR W.2.1).length ≤ 8 := by rw [sort_len, H.ll]; exact H.n8
  have := Am.mul (int_am H.w1 H.w9) (lay_am (c_best_am h1 h8) (sortR W.2.1) 0 (am_int (n := 420) (B := 1000000000) 0 (by decide)) (fun y hy => (srt_al H y hy).1) l8)
  exact (this.up (B' := 999 * (16000 * 2000000000 * 8)) (Nat.dvd_refl _) (Nat.mul_le_mul_left _ (Nat.mul_le_mul_left _ l8))).toBd (by decide) (by decide +kernel) (by decide +kernel)
theorem toN {t : Int} (h : 1 ≤ t) : ((t.toNat : Nat) : Int) = t := Int.toNat_of_nonneg (by omega)
theorem hi_ok (h1 : 1 ≤ t) (h8 : t ≤ 8) {m : Nat} (hn : n ≤ 8) (hm : m ≤ n) : cEven t m ≤ factorF n t * cBest t m := by
  have := layer_hi n hn m hm t.toNat (by omega) (by omega)
  rw [toN h1] at this; exact this
theorem lo_ok (h1 : 1 ≤ t) (h8 : t ≤ 8) {m : Nat} (hm : m ≤ 8) : cBest t m ≤ cEven t m := by
  have := layer_lo m hm t.toNat (by omega) (by omega)
  rw [toN h1] at this; exact this
theorem eq_ok (h1 : 1 ≤ t) (h8 : t ≤ 8) (hn : n ≤ 8) : cEven t n = factorF n t * cBest t n := by
  have := layer_eq n hn t.toNat (by omega) (by omega)
  rw [toN h1] at this; exact this
theorem paid_le (H : WorldOk W n w) (h1 : 1 ≤ t) (h8 : t ≤ 8) : billF w t W.2.1 ≤ factorF n t * bestF w t W.2.1 := by
  rw [bill_lay, best_lay]
  have := lay_le (c := cEven t) (d := cBest t) (F := factorF n t) (n := n) (fun m _ hm => hi_ok h1 h8 H.n8 hm) (ys := sortR W.2.1) (low := 0) (sort_srt _) (fun y hy => (srt_al H y hy).2) (by rw [sort_len, H.ll]; exact Nat.le_refl _)
  have w0 : (0 : Rat) ≤ (w : Rat) := Rat.intCast_nonneg.mpr (by have := H.w1; omega)
  have := Rat.mul_nonneg w0 (show 0 ≤ factorF n t * lay (cBest t) 0 (sortR W.2.1) - lay (cEven t) 0 (sortR W.2.1) by grind)
  grind
theorem best_le (H : WorldOk W n w) (h1 : 1 ≤ t) (h8 : t ≤ 8) : bestF w t W.2.1 ≤ billF w t W.2.1 := by
  rw [bill_lay, best_lay]
  have := lay_le (c := cBest t) (d := cEven t) (F := 1) (n := n) (fun m _ hm => by have := lo_ok (t := t) h1 h8 (m := m) (by have := H.n8; omega); grind) (ys := sortR W.2.1) (low := 0) (sort_srt _) (fun y hy => (srt_al H y hy).2) (by rw [sort_len, H.ll]; exact Nat.le_refl _)
  have w0 : (0 : Rat) ≤ (w : Rat) := Rat.intCast_nonneg.mpr (by have := H.w1; omega)
  have := Rat.mul_nonneg w0 (show 0 ≤ 1 * lay (cEven t) 0 (sortR W.2.1) - lay (cBest t) 0 (sortR W.2.1) by grind)
  grind
theorem sort_rep (L : Rat) (n : Nat) : sortR (List.replicate n L) = List.replicate n L := by
  have := (sort_perm (List.replicate n L))
  exact List.eq_replicate_iff.mpr ⟨by rw [sort_len, List.length_replicate], fun b hb => (List.mem_replicate.mp (this.mem_iff.mp hb)).2⟩
theorem alike_eq (h1 : 1 ≤ t) (h8 : t ≤ 8) (hn : n ≤ 8) (hn1 : 1 ≤ n) (L : Rat) : billF w t (List.replicate n L) = factorF n t * bestF w t (List.replicate n L) := by
  rw [bill_lay, best_lay, sort_rep]
  obtain ⟨m, rfl⟩ : ∃ m, n = m + 1 := ⟨n - 1, by omega⟩
  show (w : Rat) * (cEven t ((List.replicate m L).length + 1) * (L - 0) + lay (cEven t) L (List.replicate m L)) = factorF (m + 1) t * ((w : Rat) * (cBest t ((List.replicate m L).length + 1) * (L - 0) + lay (cBest t) L (List.replicate m L)))
  rw [lay_rep, lay_rep, List.length_replicate, eq_ok h1 h8 hn]
  grind
end
theorem gv_mapS {β : Type} {f : Int → Int → Mo (β × Int)} {I : Int → Prop} {R : β → Prop} (h : ∀ k x, I k → Gv (f k x) fun z => R z.1 ∧ I z.2) {l : List Int} {k : Int} (hk : I k) (hl : l.length ≤ 100000) : Gv (mapMoS f k l) fun z => z.1.length = l.length ∧ (∀ d ∈ z.1, R d) ∧ I z.2 := by
  refine Gv.bind (gv_grd (Q := fun _ => True) hl trivial) fun _ _ => ?_
  clear hl
  induction l generalizing k with
  | nil => exact ⟨_, rfl, rfl, fun d h => (by cases h), hk⟩
  | cons x l ih =>
    refine Gv.bind (h k x hk) fun y hy => ?_
    refine Gv.bind (ih (k := y.2) hy.2) fun ys hys => Gv.ok ⟨?_, fun d hd => ?_, hys.2.2⟩
    · show ys.1.length + 1 = _; rw [hys.1]; rfl
    · rcases List.mem_cons.mp hd with rfl | hd
      · exact hy.1
      · exact hys.2.1 d hd
theorem law_true (sc : List Int) : m_law sc = .ok true := by
  refine Gv.eq ?_
  unfold m_law
  rw [show m__law_cell sc 0 = .ok (cellV sc 0) from grd_pos ⟨by decide, by decide⟩, ok_bind]
  rw [show repM ([(997 : Int)] : List Int) (100 : Int) = .ok (List.replicate 100 997) from grd_pos ⟨by decide, by decide, by decide⟩, ok_bind]
  rw [show m__law_digits (cellV sc 0) (List.replicate 100 997) = .ok (digsV (cellV sc 0) (List.replicate 100 997)) from grd_pos ⟨fun s hs => by rw [(List.mem_replicate.mp hs).2]; exact ⟨by decide, big (n := 10) (by decide) (by decide)⟩, by rw [List.length_replicate]; decide⟩, ok_bind]
  have hr : 0 < (digsV (cellV sc 0) (List.replicate 100 997)).length := by rw [digsV_len, List.length_replicate]; decide
  generalize digsV (cellV sc 0) (List.replicate 100 997) = row at hr
  refine (dig_gv (by decide) (by decide) hr).bind fun d1 h1 => ?_
  rw [pure_bind_]
  obtain ⟨t, et, ht1, ht8⟩ : ∃ t : Int, 1 + d1.1 = t ∧ 1 ≤ t ∧ t ≤ 8 := ⟨_, rfl, by omega, by omega⟩
  rw [et]
  refine (dig_gv h1.2 (by decide) hr).bind fun d2 h2 => ?_
  refine (gv_idx (Q := fun x => 10 ≤ x ∧ x ≤ 100) h2.1.1 (by exact h2.1.2) (by decide)).bind fun sz hsz => ?_
  refine (dig_gv h2.2 (by omega) hr).bind fun d3 h3 => ?_
  rw [pure_bind_]
  obtain ⟨m, em, hm1, hm⟩ : ∃ m : Nat, 1 + d3.1 = (m : Int) ∧ 1 ≤ m ∧ m ≤ 100 := ⟨(1 + d3.1).toNat, by omega, by omega, by omega⟩
  rw [em]
  have MF : ∀ {k : Nat}, k ≤ 1000 → m_many_factor (k : Int) t = .ok (factorF k t) := fun {k} hk => by
    have := grd_pos (a := factorF ((k : Int)).toNat t) (show (0 : Int) ≤ k ∧ (k : Int) ≤ 1000 ∧ 1 ≤ t ∧ t ≤ 1000 by omega)
    rw [Int.toNat_natCast] at this
    unfold m_many_factor; rw [Int.toNat_natCast]; exact this
  have LF : ∀ {k : Nat}, 1 ≤ k → k ≤ 100 → m__law_many_factor (k : Int) t = .ok (factorF k t) := fun {k} h1 hk => by
    have e := fact_eq k hk t.toNat (by omega) (by omega) h1
    rw [toN ht1] at e
    unfold m__law_many_factor
    rw [Int.toNat_natCast, ← e]
    exact grd_pos (by omega)
  have FB : ∀ {k : Nat}, k ≤ 100 → Sz (factorF k t) := fun {k} hk => (fac_bd hk ht1 ht8).sz (by decide)
  have one_sz : Sz (1 : Rat) := am_szM (am_int (n := 1) (B := 1) 1 (by decide)) (by decide) (by decide) (by decide)
  rw [MF (by omega), ok_bind]
  rw [show m__law_is_fraction (factorF m t) = .ok true from grd_pos (FB hm), ok_bind]
  have f1 := fact_one m hm t.toNat (by omega) (by omega)
  rw [toN ht1] at f1
  rw [LF hm1 hm, ok_bind, decide_eq_true (show factorF m t = factorF m t from rfl), lt_eqM (FB hm) one_sz, ok_bind, decide_eq_false (show ¬ factorF m t < 1 by grind)]
  show Gv (do let t0_12 ← (Except.ok false : Mo Bool); _) _
  rw [ok_bind, cond_false]
  -- a job more
  rw [andM_eq (y := false) (fun hc => by
    have hc := of_decide_eq_true hc
    have hm2 : m ≤ 99 := by omega
    rw [show (m : Int) + 1 = ((m + 1 : Nat) : Int) from by omega, MF (by omega), ok_bind, lt_eqM (FB (by omega)) (FB hm), ok_bind]
    have := fact_mono m hm2 t.toNat (by omega) (by omega) hm1
    rw [toN ht1] at this
    rw [decide_eq_false (show ¬ factorF (m + 1) t < factorF m t by grind)]), Bool.and_false, ok_bind, cond_false]
  rw [andM_eq (y := false) (fun hc => by
    have hc := of_decide_eq_true hc
    obtain ⟨p0, p1, p2⟩ := tr_ok (n := m) (t := t) (by omega) ht1 (by omega) hm1
    rw [mulI_eqM (by omega) (by omega), ok_bind, show m_rounds (m : Int) t = .ok (roundsF m t) from by unfold m_rounds; rw [Int.toNat_natCast]; exact grd_pos (by omega), ok_bind, mulI_eqM (by omega) p2, ok_bind, low_eqM p0 p1, ok_bind]
    have : factorF m t = mkRat ((m : Int) * m) (t * roundsF m t).toNat := by unfold factorF; rw [if_neg (by omega)]
    rw [decide_eq_true this]; rfl), Bool.and_false, ok_bind, cond_false]
  refine (world_gv h3.2 hr).bind fun z hz => ?_
  obtain ⟨⟨n, w, H0⟩, hz0⟩ := hz
  refine (dig_gv hz0 (by decide) hr).bind fun d4 h4 => ?_
  have hcl : (z.1.1.length : Int) = (n : Int) := by rw [H0.ws, List.length_replicate]
  have hn1 := H0.n1
  have hn8 := H0.n8
  rw [hcl]
  refine Gv.bind (Q := fun s : ((List Int) × (List Rat) × (List Rat) × (List Int)) × Int => WorldOk s.1 n w ∧ 0 ≤ s.2) (gv_cond (fun _ => ?_) fun _ => Gv.ok ⟨H0, h4.2⟩) fun s hs => ?_
  · refine (dig_gv h4.2 (by decide) hr).bind fun d5 h5 => ?_
    refine (dig_gv h5.2 (by decide) hr).bind fun d6 h6 => ?_
    rw [low_eqS (by omega) (by omega), ok_bind, range_eqM (by omega) (by omega), ok_bind, Int.toNat_natCast]
    have dv5 : ∀ b ≤ 5, 0 < b → b ∣ 60 := by decide
    have oa : Am 60 30 (mkRat (1 + d5.1) (1 + d6.1).toNat) := mk_am (by omega) (by omega) (by omega) (dv5 _ (by omega) (by omega))
    have on := (mk_nn' (a := 1 + d5.1) (b := 1 + d6.1) (by omega) (by omega)).1
    generalize mkRat (1 + d5.1) (1 + d6.1).toNat = one at oa on
    have hm : Gv (mapMoS (fun (z0 : Int) (x0 : Int) => (do let t0_27 ← m__law_digit row z0 (3 : Int); let t0_28 ← idxM ([one, (0 : Rat)] : List Rat) (if (decide (t0_27.1 = (0 : Int))) then 1 else 0); Except.ok (t0_28, t0_27.2))) d6.2 (rangeI 0 n)) fun z => z.1.length = (rangeI 0 n).length ∧ (∀ d ∈ z.1, Al d ∧ 0 ≤ d) ∧ 0 ≤ z.2 := by
      refine gv_mapS (I := fun k => 0 ≤ k) (R := fun d => Al d ∧ 0 ≤ d) (fun k x hk => ?_) h6.2 (by rw [rangeI_len]; omega)
      refine (dig_gv hk (by decide) hr).bind fun d7 h7 => ?_
      refine (gv_idx (Q := fun x : Rat => Al x ∧ 0 ≤ x) (by split <;> omega) (by show _ < (2 : Int); split <;> omega) (fun x hx => ?_)).bind fun x hx => Gv.ok ⟨hx, h7.2⟩
      rcases List.mem_cons.mp hx with rfl | hx
      · exact ⟨oa.up (by decide) (by decide), on⟩
      · rw [List.mem_singleton.mp hx]
        exact ⟨am_int (n := 420) (B := 1000000000) 0 (by decide), by decide +kernel⟩
    refine hm.bind fun u hu => Gv.ok ⟨⟨H0.n1, H0.n8, H0.w1, H0.w9, H0.ws, by rw [hu.1, rangeI_len], hu.2.1, H0.cs, H0.tl, H0.ts⟩, hu.2.2⟩
  · obtain ⟨H, hs0⟩ := hs
    refine (dig_gv hs0 (by decide) hr).bind fun d8 h8 => ?_
    have hnl : (namesF d8.1 n).length = n := by unfold namesF; rw [List.length_map, List.length_range]
    rw [show m__law_names d8.1 (n : Int) = .ok (namesF d8.1 n) from by unfold m__law_names; rw [Int.toNat_natCast]; exact grd_pos (by omega), ok_bind]
    have JB : ∀ {V : (List Int) × (List Rat) × (List Rat) × (List Int)}, WorldOk V n w → m__law_jobs (namesF d8.1 n) V = .ok (jobsF (namesF d8.1 n) V.1 V.2.1 V.2.2.1 V.2.2.2) := fun {V} K => grd_pos ⟨by rw [K.ws, List.length_replicate, hnl], by rw [K.ll, hnl], by rw [K.cs, List.length_replicate, hnl], by rw [K.tl, hnl], by rw [hnl]; omega⟩
    obtain ⟨jok, ev, jw, jl⟩ := day_ok H h8.1.1 h8.1.2
    rw [JB H, ok_bind, show m_Day _ = .ok _ from grd_pos jok, ok_bind, MF (by omega), ok_bind, LF hn1 (by omega), ok_bind, decide_eq_true (show factorF n t = factorF n t from rfl)]
    show Gv (bif false then _ else _) _
    rw [cond_false]
    have EB : ∀ {js : List Jb}, Ev js (wOf js) → m_even_bill js t = .ok (billF (wOf js) t (lensF js)) := fun {js} h => grd_pos ⟨h, ht1, ht8⟩
    have MB : ∀ {js : List Jb}, Ev js (wOf js) → m_many_best js t = .ok (bestF (wOf js) t (lensF js)) := fun {js} h => grd_pos ⟨h, ht1, by omega⟩
    rw [EB (by rw [jw]; exact ev), ok_bind, MB (by rw [jw]; exact ev), ok_bind, jw, jl, leven_ok H ht1 ht8, ok_bind, lbest_ok H ht1 ht8, ok_bind]
    rw [decide_eq_true (show billF w t s.1.2.1 = billF w t s.1.2.1 from rfl), decide_eq_true (show bestF w t s.1.2.1 = bestF w t s.1.2.1 from rfl)]
    show Gv (do let t0_40 ← (Except.ok false : Mo Bool); _) _
    rw [ok_bind, cond_false]
    have b1 := bill_bd H ht1 ht8
    have b2 := best_bd H ht1 ht8
    have b3 := (fac_bd (show n ≤ 100 by omega) ht1 ht8).mul b2
    have p1 := paid_le H ht1 ht8
    have p2 := best_le H ht1 ht8
    rw [mul_eqM (FB (by omega)) (b2.sz (by decide)), ok_bind, show m__law_le _ _ = .ok (decide (billF w t s.1.2.1 ≤ factorF n t * bestF w t s.1.2.1)) from grd_pos ⟨b1.sz (by decide), b3.sz (by decide)⟩, ok_bind, decide_eq_true p1, lt_eqM (b1.sz (by decide)) (b2.sz (by decide)), ok_bind, decide_eq_false (show ¬ billF w t s.1.2.1 < bestF w t s.1.2.1 by grind)]
    show Gv (do let t0_44 ← (Except.ok false : Mo Bool); _) _
    rw [ok_bind, cond_false]
    refine (dig_gv h8.2 (by decide) hr).bind fun d9 h9 => ?_
    refine (dig_gv h9.2 (by decide) hr).bind fun d10 h10 => ?_
    rw [low_eqS (by omega) (by omega), ok_bind, range_eqM (by omega) (by omega), ok_bind, Int.toNat_natCast, map_const (by omega), ok_bind, pure_bind_]
    have dv7 : ∀ b ≤ 7, 0 < b → b ∣ 420 := by decide
    have la : Am 420 60 (mkRat (1 + d9.1) (1 + d10.1).toNat) := mk_am (by omega) (by omega) (by omega) (dv7 _ (by omega) (by omega))
    have ln := (mk_nn' (a := 1 + d9.1) (b := 1 + d10.1) (by omega) (by omega)).1
    generalize mkRat (1 + d9.1) (1 + d10.1).toNat = L at la ln
    have K : WorldOk (s.1.1, List.replicate n L, s.1.2.2.1, s.1.2.2.2) n w := ⟨H.n1, H.n8, H.w1, H.w9, H.ws, List.length_replicate .., fun x hx => by rw [(List.mem_replicate.mp hx).2]; exact ⟨la.up (Nat.dvd_refl _) (by decide), ln⟩, H.cs, H.tl, H.ts⟩
    obtain ⟨jok2, ev2, jw2, jl2⟩ := day_ok K h8.1.1 h8.1.2
    rw [JB K, ok_bind, show m_Day _ = .ok _ from grd_pos jok2, ok_bind, EB (by rw [jw2]; exact ev2), ok_bind, MB (by rw [jw2]; exact ev2), ok_bind, jw2, jl2]
    have b4 := best_bd K ht1 ht8
    rw [mul_eqM (FB (by omega)) (b4.sz (by decide)), ok_bind, decide_eq_true (show billF w t (List.replicate n L) = factorF n t * bestF w t (List.replicate n L) from alike_eq ht1 ht8 hn8 hn1 L), lbest_ok K ht1 ht8, ok_bind, ok_bind]
    rw [decide_eq_true (show bestF w t (List.replicate n L) = bestF w t (List.replicate n L) from rfl)]
    show Gv (do let t0_57 ← (Except.ok false : Mo Bool); _) _
    rw [ok_bind, cond_false, ok_bind, decide_eq_true (show billF w t s.1.2.1 = billF w t s.1.2.1 from rfl), andM_t, ok_bind, decide_eq_true (show factorF m t = factorF m t from rfl), andM_t]
    rw [show m_many_factor 1 t = .ok (factorF 1 t) from MF (k := 1) (by decide), ok_bind]
    have : factorF 1 t = 1 := by unfold factorF; rw [if_pos (by omega)]
    rw [decide_eq_true this]
    exact Gv.ok rfl

end LW

namespace LW
open PySem L2 DL VC
/-! ### what the top has written -/
def Got (K : PySem.W.Frag) (mg : Str → Option Value) (x : Str) (st : Stmt) (ps : List Str) : Prop := ∃ (f : Addr) (fd : FuncData), Fun K x x st f fd ∧ mg x = some (.ref f) ∧ PySem.W.keepIn K (.ref f) = true ∧ Binds K fd ps []
theorem got_of {K : PySem.W.Frag} {h : Heap} {mg : Str → Option Value} {x : Str} {st : Stmt} {ps : List Str} {f : Addr} {oc kV dc pm cd ct : Value} {od an : Option Addr} {sl : Array (Option Value)} (X : K.In h) (G : h.Ns mainGlobals mg) (a : PySem.W.nsIn K mainGlobals x = some (some (.ref f)))
    (l : K.lookup f = some ⟨oc, od, .func (PySem.W.fnOf x x (defArgs st) (defBody st) (defScope st) .none kV dc pm an cd ct), sl⟩) (c : PySem.W.codeIn K cd x = true) (k : PySem.W.keepIn K (.ref f) = true)
    (hb : ∀ (kV doc pm : Value) (an : Option Addr) (cdv ct : Value) (us : List Value), us.length = ps.length → bindArgs (PySem.W.fnOf x x (defArgs st) (defBody st) (defScope st) .none kV doc pm an cdv ct) ⟨us, []⟩ = pure (ps.zip us)) : Got K mg x st ps :=
  ⟨f, _, fun_mk l c k, PySem.W.mg_of X G a, k, (fun_mk l c k).binds hb⟩
/-- a method -/
def GotM (K : PySem.W.Frag) (C : Addr) (x q : Str) (st : Stmt) (ps : List Str) : Prop := ∃ (f : Addr) (fd : FuncData), Fun K x q st f fd ∧ PySem.W.findIn K (.ref C) x = some (some (.ref f)) ∧ PySem.W.isFn K (.ref f) = true ∧ Binds K fd ps []
theorem gotM_of {K : PySem.W.Frag} {C : Addr} {x q : Str} {st : Stmt} {ps : List Str} {f : Addr} {oc kV dc pm cd ct : Value} {od an : Option Addr} {sl : Array (Option Value)} (a : PySem.W.findIn K (.ref C) x = some (some (.ref f)))
    (l : K.lookup f = some ⟨oc, od, .func (PySem.W.fnOf x q (defArgs st) (defBody st) (defScope st) .none kV dc pm an cd ct), sl⟩) (c : PySem.W.codeIn K cd q = true) (k : PySem.W.keepIn K (.ref f) = true) (i : PySem.W.isFn K (.ref f) = true)
    (hb : ∀ (kV doc pm : Value) (an : Option Addr) (cdv ct : Value) (us : List Value), us.length = ps.length → bindArgs (PySem.W.fnOf x q (defArgs st) (defBody st) (defScope st) .none kV doc pm an cdv ct) ⟨us, []⟩ = pure (ps.zip us)) : GotM K C x q st ps :=
  ⟨f, _, fun_mk l c k, a, i, (fun_mk l c k).binds hb⟩
/-- a property -/
def GotP (K : PySem.W.Frag) (C : Addr) (x q : Str) (st : Stmt) (ps : List Str) : Prop := ∃ (p f : Addr) (fd : FuncData), Fun K x q st f fd ∧ PropOf K C x p f ∧ Binds K fd ps []
theorem gotP_of {K : PySem.W.Frag} {C p : Addr} {x q : Str} {st : Stmt} {ps : List Str} {f : Addr} {oc kV dc pm cd ct : Value} {od an : Option Addr} {sl : Array (Option Value)} {rest : List Value} (a : PySem.W.findIn K (.ref C) x = some (some (.ref p))) (g : PySem.W.specialIn K (.ref p) "__get__" = some (some (.builtin "property.__get__"))) (t : PySem.W.takesIn K (.ref p) = some true) (r : PySem.W.recIn K p "property" = some (.ref f :: rest))
    (l : K.lookup f = some ⟨oc, od, .func (PySem.W.fnOf x q (defArgs st) (defBody st) (defScope st) .none kV dc pm an cd ct), sl⟩) (c : PySem.W.codeIn K cd q = true) (k : PySem.W.keepIn K (.ref f) = true)
    (hb : ∀ (kV doc pm : Value) (an : Option Addr) (cdv ct : Value) (us : List Value), us.length = ps.length → bindArgs (PySem.W.fnOf x q (defArgs st) (defBody st) (defScope st) .none kV doc pm an cdv ct) ⟨us, []⟩ = pure (ps.zip us)) : GotP K C x q st ps :=
  ⟨p, f, _, fun_mk l c k, ⟨a, g, t, rest, r⟩, (fun_mk l c k).binds hb⟩
theorem glob2_of {K : PySem.W.Frag} {mg : Str → Option Value} {h : Heap} {x : Str} {z : Addr} {i j : Int} {t1 t2 : Nat} {od : Option Addr} {n : Nat} {sl : Array (Option Value)} (X : K.In h) (G : h.Ns mainGlobals mg) (a : PySem.W.nsIn K mainGlobals x = some (some (.ref z)))
    (l : K.lookup z = some ⟨.type "tuple", od, .seq #[.int i t1, .int j t2] n, sl⟩) : ∃ (v : V) (u : Value), mg x = some u ∧ RelV v u ∧ ∀ B, Rep K B v (.tup [.int i, .int j]) :=
  ⟨.ref z, .ref z, PySem.W.mg_of X G a, rfl, fun B => .tup (.inr ⟨_, _, n, l, rfl, rfl, (by show 2 ≤ sizeLine; rw [sizeLine_eq]; omega), .cons (show RelV (.int i) (Value.int i t1) from ⟨_, rfl⟩) (.cons (show RelV (.int j) (Value.int j t2) from ⟨_, rfl⟩) .nil)⟩) (.cons (.int i) (.cons (.int j) .nil))⟩
theorem globI_of {K : PySem.W.Frag} {mg : Str → Option Value} {h : Heap} {x : Str} {i : Int} {t : Nat} (X : K.In h) (G : h.Ns mainGlobals mg) (a : PySem.W.nsIn K mainGlobals x = some (some (.int i t))) : ∃ (v : V) (u : Value), mg x = some u ∧ RelV v u ∧ ∀ B, Rep K B v (.int i) :=
  ⟨.int i, .int i t, PySem.W.mg_of X G a, ⟨_, rfl⟩, fun _ => .int i⟩
theorem globS_of {K : PySem.W.Frag} {mg : Str → Option Value} {h : Heap} {x z : Str} {t : Nat} (X : K.In h) (G : h.Ns mainGlobals mg) (a : PySem.W.nsIn K mainGlobals x = some (some (.str z t))) : ∃ (v : V) (u : Value), mg x = some u ∧ RelV v u ∧ ∀ B, Rep K B v (.str z) :=
  ⟨.str z, .str z t, PySem.W.mg_of X G a, ⟨_, rfl⟩, fun _ => .str z⟩
theorem law_binds {K : PySem.W.Frag} {f : Addr} {fd : FuncData} (F : Fun K "law" "law" s_law f fd) : ∀ (s : Shared) (v : Value), BindsTo s fd ⟨[v], []⟩ [("script", v)] := by
  obtain ⟨_, _, _, _, _, _, _, _, _, rfl, _, _⟩ := F.ex
  exact fun s v => .of_eq rfl
theorem law_start (w : World) (H : Hp) (a : Addr) (ns : List Int) {n : Nat} {K : PySem.W.Frag} (_ : ns.length ≤ n) (_ : L2.Only H) (hS : SqL K H a (ns.map V.int)) : spOf K Sp_law [.ref a] H (fun v _ => v = .bl true) fun _ _ _ => False := by
  refine ⟨H, [.dat (.lst (ns.map .int))], _, sq_law (law_true ns), ⟨Same.refl _, rfl, fun i d h => ?_, fun i s h m => ?_, fun i j s t l _ h m _ _ _ _ => ?_⟩, fun v B' H' _ r => bl_of r⟩
  · match i, h with
    | 0, h => cases h; exact ⟨.ref a, rfl, .lst hS (RepL.ints ns)⟩
    | i + 1, h => simp at h
  · match i, h with
    | 0, h => cases h; cases m
    | i + 1, h => simp at h
  · match i, h with
    | 0, h => cases h; cases m
    | i + 1, h => simp at h
theorem all_mk {l : PySem.W.OpenLaw} {w : World} {K : PySem.W.Frag} {mg : Str → Option Value} {fa : Addr} {CD CN CU : Addr} (hfa : mg "law" = some (.ref fa))
    (g__law_digits : Got K mg "_law_digits" s__law_digits ["cell", "sizes"])
    (g__law_cell : Got K mg "_law_cell" s__law_cell ["script", "k"])
    (g__law_digit : Got K mg "_law_digit" s__law_digit ["row", "at", "size"])
    (g_rounds : Got K mg "rounds" s_rounds ["count", "counters"])
    (g_lowest : Got K mg "lowest" s_lowest ["top", "bottom"])
    (g_ratio : Got K mg "ratio" s_ratio ["top", "bottom"])
    (g_many_factor : Got K mg "many_factor" s_many_factor ["count", "counters"])
    (g__law_whole : Got K mg "_law_whole" s__law_whole ["value"])
    (g__law_low : Got K mg "_law_low" s__law_low ["top", "bottom"])
    (g__law_is_fraction : Got K mg "_law_is_fraction" s__law_is_fraction ["value"])
    (g__law_lt : Got K mg "_law_lt" s__law_lt ["a", "b"])
    (g__law_many_factor : Got K mg "_law_many_factor" s__law_many_factor ["count", "tables"])
    (g__law_mul : Got K mg "_law_mul" s__law_mul ["a", "b"])
    (g__law_even_world : Got K mg "_law_even_world" s__law_even_world ["row", "at", "upto"])
    (g__law_names : Got K mg "_law_names" s__law_names ["digit", "count"])
    (g_is_name : Got K mg "is_name" s_is_name ["value"])
    (g_is_number : Got K mg "is_number" s_is_number ["value"])
    (g_is_number_from : Got K mg "is_number_from" s_is_number_from ["value", "least", "most"])
    (g_is_amount : Got K mg "is_amount" s_is_amount ["value"])
    (g_amount : Got K mg "amount" s_amount ["value"])
    (g_is_length : Got K mg "is_length" s_is_length ["value"])
    (g_checked_job : Got K mg "checked_job" s_checked_job ["place", "job", "names"])
    (g_checked_jobs : Got K mg "checked_jobs" s_checked_jobs ["jobs"])
    (g_Day___init__ : GotM K CD "__init__" "Day.__init__" s_Day___init__ ["self", "jobs"])
    (g__law_jobs : Got K mg "_law_jobs" s__law_jobs ["names", "world"])
    (g_Day___len__ : GotM K CD "__len__" "Day.__len__" s_Day___len__ ["self"])
    (g_Day_at_once : GotP K CD "at_once" "Day.at_once" s_Day_at_once ["self"])
    (g_need_at_once : Got K mg "need_at_once" s_need_at_once ["day"])
    (g_need_even : Got K mg "need_even" s_need_even ["day"])
    (g_at_most : Got K mg "at_most" s_at_most ["one", "two"])
    (g_ascending : Got K mg "ascending" s_ascending ["values"])
    (g_minus : Got K mg "minus" s_minus ["one", "two"])
    (g_plus : Got K mg "plus" s_plus ["one", "two"])
    (g_times : Got K mg "times" s_times ["one", "two"])
    (g_less : Got K mg "less" s_less ["one", "two"])
    (g_greater : Got K mg "greater" s_greater ["one", "two"])
    (g_even_ends : Got K mg "even_ends" s_even_ends ["day", "counters"])
    (g_scaled : Got K mg "scaled" s_scaled ["number", "value"])
    (g_sum_of : Got K mg "sum_of" s_sum_of ["row"])
    (g_bill_of : Got K mg "bill_of" s_bill_of ["day", "ends"])
    (g_even_bill : Got K mg "even_bill" s_even_bill ["day", "counters"])
    (g_many_best : Got K mg "many_best" s_many_best ["day", "counters"])
    (g__law_lesser : Got K mg "_law_lesser" s__law_lesser ["a", "b"])
    (g__law_add : Got K mg "_law_add" s__law_add ["a", "b"])
    (g__law_sub : Got K mg "_law_sub" s__law_sub ["a", "b"])
    (g__law_even_bill : Got K mg "_law_even_bill" s__law_even_bill ["world", "tables"])
    (g__law_many_best : Got K mg "_law_many_best" s__law_many_best ["world", "tables"])
    (g__law_le : Got K mg "_law_le" s__law_le ["a", "b"])
    (g_law : Got K mg "law" s_law ["script"])
    (q_ONE : ∃ (v : V) (u : Value), mg "ONE" = some u ∧ RelV v u ∧ ∀ B, Rep K B v (.tup [.int 1, .int 1]))
    (q_LETTERS : ∃ (v : V) (u : Value), mg "LETTERS" = some u ∧ RelV v u ∧ ∀ B, Rep K B v (.str "abcdefghijklmnopqrstuvwxyz"))
    (q_FIGURES : ∃ (v : V) (u : Value), mg "FIGURES" = some u ∧ RelV v u ∧ ∀ B, Rep K B v (.str "0123456789"))
    (q_MOST_JOBS : ∃ (v : V) (u : Value), mg "MOST_JOBS" = some u ∧ RelV v u ∧ ∀ B, Rep K B v (.int 8))
    (q_ZERO : ∃ (v : V) (u : Value), mg "ZERO" = some u ∧ RelV v u ∧ ∀ B, Rep K B v (.tup [.int 0, .int 1]))
    (n_len : mg "len" = none) (n_int : mg "int" = none) (n_abs : mg "abs" = none) (n_min : mg "min" = none) (n_sum : mg "sum" = none) (n_all : mg "all" = none) (n_any : mg "any" = none) (n_tuple : mg "tuple" = none) (n_list : mg "list" = none) (n_bool : mg "bool" = none) (n_str : mg "str" = none) (n_isinstance : mg "isinstance" = none) (n_range : mg "range" = none) (n_enumerate : mg "enumerate" = none) (n_zip : mg "zip" = none) (n_gcd : mg "gcd" = some (.builtin "math.gcd")) (n_max : mg "max" = none) (n_sorted : mg "sorted" = none)
    (d_Day_mg : mg "Day" = some (.ref CD)) (d_Day_mk : PySem.W.makesIn K CD = true) (d_Day_kp : PySem.W.keepIn K (.ref CD) = true)
    (d_Day_c : Cls K CD) (d_Day_names : NoAttr K CD "names") (d_Day_weights : NoAttr K CD "weights") (d_Day_lengths : NoAttr K CD "lengths") (d_Day_comes : NoAttr K CD "comes") (d_Day_tolds : NoAttr K CD "tolds")
    (e_NotAtOnce_gl : mg "NotAtOnce" = some (.ref CN)) (e_NotAtOnce_kp : PySem.W.keepIn K (.ref CN) = true) (e_NotAtOnce_ex : PySem.W.excIn K CN [.type "ValueError", .type "Exception", .type "BaseException", .type "object"] "ValueError.__new__" = true) (e_NotAtOnce_sb : PySem.W.subIn K (.ref CN) (.type "BaseException") = some true) (e_NotAtOnce_ty : PySem.W.typeIn K (.ref CN) = some (.type "type"))
    (e_UnequalWeights_gl : mg "UnequalWeights" = some (.ref CU)) (e_UnequalWeights_kp : PySem.W.keepIn K (.ref CU) = true) (e_UnequalWeights_ex : PySem.W.excIn K CU [.type "ValueError", .type "Exception", .type "BaseException", .type "object"] "ValueError.__new__" = true) (e_UnequalWeights_sb : PySem.W.subIn K (.ref CU) (.type "BaseException") = some true) (e_UnequalWeights_ty : PySem.W.typeIn K (.ref CU) = some (.type "type"))
    : ∃ fd : FuncData, (∀ (s : Shared) (v : Value), BindsTo s fd ⟨[v], []⟩ [("script", v)]) ∧ ∀ base : Heap, K.In base → base.Ns mainGlobals mg → FnOk l.prog w K mg base CX0 9 fa fd ["script"] (spOf K Sp_law) := by
  obtain ⟨f0, fd0, F0, m0, k0, b0⟩ := g_law
  have e := hfa.symm.trans m0
  cases e
  refine ⟨fd0, fun s v => (law_binds F0) s v, fun base _ _ => ?_⟩
  let M : Md := ⟨l.prog, w, K, mg, base⟩
  have T : Bn M := ⟨n_len, n_int, n_abs, n_min, n_sum, n_all, n_any, n_tuple, n_list, n_bool, n_str, n_isinstance, n_range, n_enumerate, n_zip, n_gcd, n_max, n_sorted⟩
  have gl_ONE : GlobD M "ONE" (fr 1) := q_ONE
  have gl_LETTERS : GlobD M "LETTERS" (.str lettersZ) := q_LETTERS
  have gl_FIGURES : GlobD M "FIGURES" (.str figuresZ) := q_FIGURES
  have gl_MOST_JOBS : GlobD M "MOST_JOBS" (.int 8) := q_MOST_JOBS
  have gl_ZERO : GlobD M "ZERO" (fr 0) := q_ZERO
  have dc : DayC M CD := ⟨d_Day_c, d_Day_names, d_Day_weights, d_Day_lengths, d_Day_comes, d_Day_tolds⟩
  have eN : ErrC M "NotAtOnce" CN := ⟨e_NotAtOnce_gl, e_NotAtOnce_kp, e_NotAtOnce_ex, e_NotAtOnce_sb, e_NotAtOnce_ty⟩
  have eU : ErrC M "UnequalWeights" CU := ⟨e_UnequalWeights_gl, e_UnequalWeights_kp, e_UnequalWeights_ex, e_UnequalWeights_sb, e_UnequalWeights_ty⟩
  obtain ⟨f, fd, F, m, k, b⟩ := id g__law_digits
  have c__law_digits : Fn M CX0 "_law_digits" 1 Sp_digs := Fn.mk0 (ok__law_digits (M := M) T  F) m k b
  clear F m k b
  obtain ⟨f, fd, F, m, k, b⟩ := id g__law_cell
  have c__law_cell : Fn M CX0 "_law_cell" 1 Sp_cell := Fn.mk0 (ok__law_cell (M := M) T  F) m k b
  clear F m k b
  obtain ⟨f, fd, F, m, k, b⟩ := id g__law_digit
  have c__law_digit : Fn M CX0 "_law_digit" 1 Sp_dig := Fn.mk0 (ok__law_digit (M := M) T  F) m k b
  clear F m k b
  obtain ⟨f, fd, F, m, k, b⟩ := id g_rounds
  have c_rounds : Fn M CX0 "rounds" 1 Sp_rounds := Fn.mk0 (ok_rounds (M := M) T  F) m k b
  clear F m k b
  obtain ⟨f, fd, F, m, k, b⟩ := id g_lowest
  have c_lowest : Fn M CX0 "lowest" 1 Sp_lowest := Fn.mk0 (ok_lowest (M := M) T  F) m k b
  clear F m k b
  obtain ⟨f, fd, F, m, k, b⟩ := id g_ratio
  have c_ratio : Fn M CX0 "ratio" 2 Sp_ratio := Fn.mk0 (ok_ratio (M := M) T c_lowest F) m k b
  clear F m k b
  obtain ⟨f, fd, F, m, k, b⟩ := id g_many_factor
  have c_many_factor : Fn M CX0 "many_factor" 3 Sp_factor := Fn.mk0 (ok_many_factor (M := M) T gl_ONE c_rounds c_ratio F) m k b
  clear F m k b
  obtain ⟨f, fd, F, m, k, b⟩ := id g__law_whole
  have c__law_whole : Fn M CX0 "_law_whole" 1 Sp_num := Fn.mk0 (ok__law_whole (M := M) T  F) m k b
  clear F m k b
  obtain ⟨f, fd, F, m, k, b⟩ := id g__law_low
  have c__law_low : Fn M CX0 "_law_low" 1 Sp_low := Fn.mk0 (ok__law_low (M := M) T  F) m k b
  clear F m k b
  obtain ⟨f, fd, F, m, k, b⟩ := id g__law_is_fraction
  have c__law_is_fraction : Fn M CX0 "_law_is_fraction" 2 Sp_isfr := Fn.mk0 (ok__law_is_fraction (M := M) T c__law_whole c__law_low F) m k b
  clear F m k b
  obtain ⟨f, fd, F, m, k, b⟩ := id g__law_lt
  have c__law_lt_R : Fn M CX0 "_law_lt" 1 Sp_ltR := Fn.mk0 (ok__law_lt_R (M := M) T  F) m k b
  clear F m k b
  obtain ⟨f, fd, F, m, k, b⟩ := id g__law_many_factor
  have c__law_many_factor : Fn M CX0 "_law_many_factor" 2 Sp_lfactor := Fn.mk0 (ok__law_many_factor (M := M) T c__law_lt_R c__law_low F) m k b
  clear F m k b
  obtain ⟨f, fd, F, m, k, b⟩ := id g__law_lt
  have c__law_lt : Fn M CX0 "_law_lt" 1 Sp_lt := Fn.mk0 (ok__law_lt (M := M) T  F) m k b
  clear F m k b
  obtain ⟨f, fd, F, m, k, b⟩ := id g__law_mul
  have c__law_mul : Fn M CX0 "_law_mul" 2 Sp_times := Fn.mk0 (ok__law_mul (M := M) T c__law_low F) m k b
  clear F m k b
  obtain ⟨f, fd, F, m, k, b⟩ := id g__law_even_world
  have c__law_even_world : Fn M CX0 "_law_even_world" 3 Sp__law_even_world := Fn.mk0 (ok__law_even_world (M := M) T c__law_digit c__law_low c__law_mul F) m k b
  clear F m k b
  obtain ⟨f, fd, F, m, k, b⟩ := id g__law_names
  have c__law_names : Fn M CX0 "_law_names" 1 Sp_names := Fn.mk0 (ok__law_names (M := M) T  F) m k b
  clear F m k b
  obtain ⟨f, fd, F, m, k, b⟩ := id g_is_name
  have c_is_name : Fn M CX0 "is_name" 1 Sp_name := Fn.mk0 (ok_is_name (M := M) T gl_LETTERS gl_FIGURES F) m k b
  clear F m k b
  obtain ⟨f, fd, F, m, k, b⟩ := id g_is_number
  have c_is_number : Fn M CX0 "is_number" 1 Sp_num := Fn.mk0 (ok_is_number (M := M) T  F) m k b
  clear F m k b
  obtain ⟨f, fd, F, m, k, b⟩ := id g_is_number_from
  have c_is_number_from : Fn M CX0 "is_number_from" 2 Sp_from := Fn.mk0 (ok_is_number_from (M := M) T c_is_number F) m k b
  clear F m k b
  obtain ⟨f, fd, F, m, k, b⟩ := id g_is_amount
  have c_is_amount : Fn M CX0 "is_amount" 2 Sp_isam := Fn.mk0 (ok_is_amount (M := M) T c_is_number F) m k b
  clear F m k b
  obtain ⟨f, fd, F, m, k, b⟩ := id g_amount
  have c_amount : Fn M CX0 "amount" 3 Sp_am := Fn.mk0 (ok_amount (M := M) T c_is_number c_is_amount c_lowest F) m k b
  clear F m k b
  obtain ⟨f, fd, F, m, k, b⟩ := id g_is_length
  have c_is_length : Fn M CX0 "is_length" 4 Sp_islen := Fn.mk0 (ok_is_length (M := M) T c_is_amount c_amount F) m k b
  clear F m k b
  obtain ⟨f, fd, F, m, k, b⟩ := id g_checked_job
  have c_checked_job : Fn M CX0 "checked_job" 5 Sp_job := Fn.mk0 (ok_checked_job (M := M) T c_is_name c_is_number_from c_is_length c_amount F) m k b
  clear F m k b
  obtain ⟨f, fd, F, m, k, b⟩ := id g_checked_jobs
  have c_checked_jobs : Fn M CX0 "checked_jobs" 6 Sp_jobs := Fn.mk0 (ok_checked_jobs (M := M) T gl_MOST_JOBS c_checked_job F) m k b
  clear F m k b
  obtain ⟨f, fd, F, m, i, b⟩ := g_Day___init__
  have mk_Day : MkC M CX0 "Day" CD 7 (Sp_init CD) := ⟨⟨f, fd, _, ok_Day___init__ (M := M) T dc c_checked_jobs F, ⟨d_Day_mk, m, i, d_Day_kp⟩, d_Day_mg, b⟩, fun _ _ _ => pass0⟩
  clear F m i b
  obtain ⟨f, fd, F, m, k, b⟩ := id g__law_jobs
  have c__law_jobs : Fn M CX0 "_law_jobs" 1 Sp_ljobs := Fn.mk0 (ok__law_jobs (M := M) T  F) m k b
  clear F m k b
  obtain ⟨f, fd, F, m, i, b⟩ := g_Day___len__
  have l_day : LenC M CX0 CD 1 (Sp_daylen CD) := ⟨⟨f, fd, _, ok_Day___len__ (M := M) T dc F, ⟨m, i⟩, b⟩, fun _ _ _ => pass0⟩
  clear F m i b
  obtain ⟨p, f, fd, F, m, b⟩ := g_Day_at_once
  have p_at_once : PropC M CX0 CD "at_once" 1 (Sp_once CD) := ⟨⟨p, f, fd, _, ok_Day_at_once (M := M) T dc gl_ZERO F, d_Day_c, m, b⟩, fun _ _ _ => pass0⟩
  clear F m b
  obtain ⟨f, fd, F, m, k, b⟩ := id g_need_at_once
  have c_need_at_once : Fn M (L2.CX M.P M.w) "need_at_once" 3 (Sp_needonce CD CN) := Fn.mkX (ok_need_at_once (M := M) T eN p_at_once F) m k b
  clear F m k b
  obtain ⟨f, fd, F, m, k, b⟩ := id g_need_even
  have c_need_even : Fn M (L2.CX M.P M.w) "need_even" 1 (Sp_needeven CD CU) := Fn.mkX (ok_need_even (M := M) T dc eU F) m k b
  clear F m k b
  obtain ⟨f, fd, F, m, k, b⟩ := id g_at_most
  have c_at_most : Fn M CX0 "at_most" 1 Sp_le := Fn.mk0 (ok_at_most (M := M) T  F) m k b
  clear F m k b
  obtain ⟨f, fd, F, m, k, b⟩ := id g_ascending
  have c_ascending : Fn M CX0 "ascending" 2 Sp_asc := Fn.mk0 (ok_ascending (M := M) T c_at_most F) m k b
  clear F m k b
  obtain ⟨f, fd, F, m, k, b⟩ := id g_minus
  have c_minus : Fn M CX0 "minus" 2 Sp_minus := Fn.mk0 (ok_minus (M := M) T c_lowest F) m k b
  clear F m k b
  obtain ⟨f, fd, F, m, k, b⟩ := id g_plus
  have c_plus : Fn M CX0 "plus" 2 Sp_plus := Fn.mk0 (ok_plus (M := M) T c_lowest F) m k b
  clear F m k b
  obtain ⟨f, fd, F, m, k, b⟩ := id g_times
  have c_times : Fn M CX0 "times" 2 Sp_times := Fn.mk0 (ok_times (M := M) T c_lowest F) m k b
  clear F m k b
  obtain ⟨f, fd, F, m, k, b⟩ := id g_less
  have c_less_R : Fn M CX0 "less" 1 Sp_ltR := Fn.mk0 (ok_less_R (M := M) T  F) m k b
  clear F m k b
  obtain ⟨f, fd, F, m, k, b⟩ := id g_greater
  have c_greater_R : Fn M CX0 "greater" 2 Sp_maxR := Fn.mk0 (ok_greater_R (M := M) T c_less_R c_lowest F) m k b
  clear F m k b
  obtain ⟨f, fd, F, m, k, b⟩ := id g_even_ends
  have c_even_ends : Fn M CX0 "even_ends" 4 (Sp_ends CD) := Fn.mk0 (ok_even_ends (M := M) T dc l_day gl_ZERO gl_ONE c_need_at_once c_need_even c_ascending c_minus c_plus c_times c_greater_R F) m k b
  clear F m k b
  obtain ⟨f, fd, F, m, k, b⟩ := id g_scaled
  have c_scaled : Fn M CX0 "scaled" 2 Sp_scaled := Fn.mk0 (ok_scaled (M := M) T c_lowest F) m k b
  clear F m k b
  obtain ⟨f, fd, F, m, k, b⟩ := id g_sum_of
  have c_sum_of : Fn M CX0 "sum_of" 3 Sp_sum := Fn.mk0 (ok_sum_of (M := M) T c_plus gl_ZERO F) m k b
  clear F m k b
  obtain ⟨f, fd, F, m, k, b⟩ := id g_bill_of
  have c_bill_of : Fn M CX0 "bill_of" 4 (Sp_bill CD) := Fn.mk0 (ok_bill_of (M := M) T dc c_scaled c_sum_of F) m k b
  clear F m k b
  obtain ⟨f, fd, F, m, k, b⟩ := id g_even_bill
  have c_even_bill : Fn M CX0 "even_bill" 5 (Sp_ebill CD) := Fn.mk0 (ok_even_bill (M := M) T c_even_ends c_bill_of F) m k b
  clear F m k b
  obtain ⟨f, fd, F, m, k, b⟩ := id g_many_best
  have c_many_best : Fn M CX0 "many_best" 4 (Sp_best CD) := Fn.mk0 (ok_many_best (M := M) T dc l_day c_need_at_once c_need_even c_ascending c_scaled c_sum_of F) m k b
  clear F m k b
  obtain ⟨f, fd, F, m, k, b⟩ := id g__law_lesser
  have c__law_lesser : Fn M CX0 "_law_lesser" 2 Sp_min := Fn.mk0 (ok__law_lesser (M := M) T c__law_lt F) m k b
  clear F m k b
  obtain ⟨f, fd, F, m, k, b⟩ := id g__law_add
  have c__law_add : Fn M CX0 "_law_add" 2 Sp_plus := Fn.mk0 (ok__law_add (M := M) T c__law_low F) m k b
  clear F m k b
  obtain ⟨f, fd, F, m, k, b⟩ := id g__law_sub
  have c__law_sub : Fn M CX0 "_law_sub" 2 Sp_minus := Fn.mk0 (ok__law_sub (M := M) T c__law_low F) m k b
  clear F m k b
  obtain ⟨f, fd, F, m, k, b⟩ := id g__law_even_bill
  have c__law_even_bill : Fn M CX0 "_law_even_bill" 3 Sp__law_even_bill := Fn.mk0 (ok__law_even_bill (M := M) T c__law_lt c__law_lesser c__law_low c__law_add c__law_mul c__law_sub F) m k b
  clear F m k b
  obtain ⟨f, fd, F, m, k, b⟩ := id g__law_many_best
  have c__law_many_best : Fn M CX0 "_law_many_best" 3 Sp__law_many_best := Fn.mk0 (ok__law_many_best (M := M) T c__law_lt c__law_add c__law_mul F) m k b
  clear F m k b
  obtain ⟨f, fd, F, m, k, b⟩ := id g__law_le
  have c__law_le : Fn M CX0 "_law_le" 1 Sp_le := Fn.mk0 (ok__law_le (M := M) T  F) m k b
  clear F m k b
  exact ok_law (M := M) T c__law_digits c__law_cell c__law_digit c_many_factor c__law_is_fraction c__law_many_factor c__law_lt c__law_low c_rounds c__law_even_world c__law_names mk_Day c__law_jobs c_even_bill c_many_best c__law_even_bill c__law_many_best c__law_le c__law_mul F0
theorem walk {l : PySem.W.OpenLaw} {q : Program} {loose : List Str} {XP : (Str → Option Value) → Heap → Prop} {YP : World → Heap → Prop} {d : DefRec} {K : Params → PySem.W.Frag} (hn : l.most = some 63) (hdf : d.params.defaults = [])
    (hY : ∀ (w : World) (h : Heap), YP w h → (K w.params).In h)
    (F : ∀ (w : World) (mg : Str → Option Value) (fa : Addr) (h : Heap), (K w.params).In h → h.Ns mainGlobals mg → mg d.name = some (.ref fa) →
      ∃ fd : FuncData, (∀ (s : Shared) (u : Value), BindsTo s fd ⟨[u], []⟩ [("script", u)]) ∧ ∀ base : Heap, (K w.params).In base → base.Ns mainGlobals mg → FnOk l.prog w (K w.params) mg base CX0 9 fa fd ["script"] (spOf (K w.params) Sp_law)) :
    PySem.W.WalkO q loose XP YP l.row.toRowW d [] (fun f vs => PySem.call f vs) :=
  L2.walk_of (n := 63) (k := 9) (x := "script") (CX := fun _ => CX0) (sp := fun w => spOf (K w.params) Sp_law) hn (by decide) hdf ⟨rfl, by decide, by decide⟩ hY F (fun w H a ns h1 h2 h3 => law_start w H a ns h1 h2 h3) fun _ _ _ _ _ z => z
end LW

open PySem PySem.W PyProof.Rows in
set_option maxRecDepth 100000 in
set_option maxHeartbeats 0 in
theorem PySem.Challenge.cw_twicewaited_k73_many_factor_holds : PySem.Challenge.rw_twicewaited_k73_many_factor.Holds := by
  w_on; o_law; k_head; (case hw => w_witness2)
  k_fill
  refine LW.walk (l := PySem.Challenge.rw_twicewaited_k73_many_factor) rfl rfl (fun w h Y => PySem.W.kIn_of Y) ?F
  case F =>
    intro w mg fa h KX G hmg
    refine' LW.all_mk (l := PySem.Challenge.rw_twicewaited_k73_many_factor) hmg
      (LW.got_of KX G ?a0 ?l0 ?c0 ?k0 (fun _ _ _ _ _ _ us hl => match us, hl with | [_, _], _ => rfl))
      (LW.got_of KX G ?a1 ?l1 ?c1 ?k1 (fun _ _ _ _ _ _ us hl => match us, hl with | [_, _], _ => rfl))
      (LW.got_of KX G ?a2 ?l2 ?c2 ?k2 (fun _ _ _ _ _ _ us hl => match us, hl with | [_, _, _], _ => rfl))
      (LW.got_of KX G ?a3 ?l3 ?c3 ?k3 (fun _ _ _ _ _ _ us hl => match us, hl with | [_, _], _ => rfl))
      (LW.got_of KX G ?a4 ?l4 ?c4 ?k4 (fun _ _ _ _ _ _ us hl => match us, hl with | [_, _], _ => rfl))
      (LW.got_of KX G ?a5 ?l5 ?c5 ?k5 (fun _ _ _ _ _ _ us hl => match us, hl with | [_, _], _ => rfl))
      (LW.got_of KX G ?a6 ?l6 ?c6 ?k6 (fun _ _ _ _ _ _ us hl => match us, hl with | [_, _], _ => rfl))
      (LW.got_of KX G ?a7 ?l7 ?c7 ?k7 (fun _ _ _ _ _ _ us hl => match us, hl with | [_], _ => rfl))
      (LW.got_of KX G ?a8 ?l8 ?c8 ?k8 (fun _ _ _ _ _ _ us hl => match us, hl with | [_, _], _ => rfl))
      (LW.got_of KX G ?a9 ?l9 ?c9 ?k9 (fun _ _ _ _ _ _ us hl => match us, hl with | [_], _ => rfl))
      (LW.got_of KX G ?a10 ?l10 ?c10 ?k10 (fun _ _ _ _ _ _ us hl => match us, hl with | [_, _], _ => rfl))
      (LW.got_of KX G ?a11 ?l11 ?c11 ?k11 (fun _ _ _ _ _ _ us hl => match us, hl with | [_, _], _ => rfl))
      (LW.got_of KX G ?a12 ?l12 ?c12 ?k12 (fun _ _ _ _ _ _ us hl => match us, hl with | [_, _], _ => rfl))
      (LW.got_of KX G ?a13 ?l13 ?c13 ?k13 (fun _ _ _ _ _ _ us hl => match us, hl with | [_, _, _], _ => rfl))
      (LW.got_of KX G ?a14 ?l14 ?c14 ?k14 (fun _ _ _ _ _ _ us hl => match us, hl with | [_, _], _ => rfl))
      (LW.got_of KX G ?a15 ?l15 ?c15 ?k15 (fun _ _ _ _ _ _ us hl => match us, hl with | [_], _ => rfl))
      (LW.got_of KX G ?a16 ?l16 ?c16 ?k16 (fun _ _ _ _ _ _ us hl => match us, hl with | [_], _ => rfl))
      (LW.got_of KX G ?a17 ?l17 ?c17 ?k17 (fun _ _ _ _ _ _ us hl => match us, hl with | [_, _, _], _ => rfl))
      (LW.got_of KX G ?a18 ?l18 ?c18 ?k18 (fun _ _ _ _ _ _ us hl => match us, hl with | [_], _ => rfl))
      (LW.got_of KX G ?a19 ?l19 ?c19 ?k19 (fun _ _ _ _ _ _ us hl => match us, hl with | [_], _ => rfl))
      (LW.got_of KX G ?a20 ?l20 ?c20 ?k20 (fun _ _ _ _ _ _ us hl => match us, hl with | [_], _ => rfl))
      (LW.got_of KX G ?a21 ?l21 ?c21 ?k21 (fun _ _ _ _ _ _ us hl => match us, hl with | [_, _, _], _ => rfl))
      (LW.got_of KX G ?a22 ?l22 ?c22 ?k22 (fun _ _ _ _ _ _ us hl => match us, hl with | [_], _ => rfl))
      (LW.gotM_of ?a23 ?l23 ?c23 ?k23 ?i23 (fun _ _ _ _ _ _ us hl => match us, hl with | [_, _], _ => rfl))
      (LW.got_of KX G ?a24 ?l24 ?c24 ?k24 (fun _ _ _ _ _ _ us hl => match us, hl with | [_, _], _ => rfl))
      (LW.gotM_of ?a25 ?l25 ?c25 ?k25 ?i25 (fun _ _ _ _ _ _ us hl => match us, hl with | [_], _ => rfl))
      (LW.gotP_of ?a26 ?g26 ?t26 ?r26 ?l26 ?c26 ?k26 (fun _ _ _ _ _ _ us hl => match us, hl with | [_], _ => rfl))
      (LW.got_of KX G ?a27 ?l27 ?c27 ?k27 (fun _ _ _ _ _ _ us hl => match us, hl with | [_], _ => rfl))
      (LW.got_of KX G ?a28 ?l28 ?c28 ?k28 (fun _ _ _ _ _ _ us hl => match us, hl with | [_], _ => rfl))
      (LW.got_of KX G ?a29 ?l29 ?c29 ?k29 (fun _ _ _ _ _ _ us hl => match us, hl with | [_, _], _ => rfl))
      (LW.got_of KX G ?a30 ?l30 ?c30 ?k30 (fun _ _ _ _ _ _ us hl => match us, hl with | [_], _ => rfl))
      (LW.got_of KX G ?a31 ?l31 ?c31 ?k31 (fun _ _ _ _ _ _ us hl => match us, hl with | [_, _], _ => rfl))
      (LW.got_of KX G ?a32 ?l32 ?c32 ?k32 (fun _ _ _ _ _ _ us hl => match us, hl with | [_, _], _ => rfl))
      (LW.got_of KX G ?a33 ?l33 ?c33 ?k33 (fun _ _ _ _ _ _ us hl => match us, hl with | [_, _], _ => rfl))
      (LW.got_of KX G ?a34 ?l34 ?c34 ?k34 (fun _ _ _ _ _ _ us hl => match us, hl with | [_, _], _ => rfl))
      (LW.got_of KX G ?a35 ?l35 ?c35 ?k35 (fun _ _ _ _ _ _ us hl => match us, hl with | [_, _], _ => rfl))
      (LW.got_of KX G ?a36 ?l36 ?c36 ?k36 (fun _ _ _ _ _ _ us hl => match us, hl with | [_, _], _ => rfl))
      (LW.got_of KX G ?a37 ?l37 ?c37 ?k37 (fun _ _ _ _ _ _ us hl => match us, hl with | [_, _], _ => rfl))
      (LW.got_of KX G ?a38 ?l38 ?c38 ?k38 (fun _ _ _ _ _ _ us hl => match us, hl with | [_], _ => rfl))
      (LW.got_of KX G ?a39 ?l39 ?c39 ?k39 (fun _ _ _ _ _ _ us hl => match us, hl with | [_, _], _ => rfl))
      (LW.got_of KX G ?a40 ?l40 ?c40 ?k40 (fun _ _ _ _ _ _ us hl => match us, hl with | [_, _], _ => rfl))
      (LW.got_of KX G ?a41 ?l41 ?c41 ?k41 (fun _ _ _ _ _ _ us hl => match us, hl with | [_, _], _ => rfl))
      (LW.got_of KX G ?a42 ?l42 ?c42 ?k42 (fun _ _ _ _ _ _ us hl => match us, hl with | [_, _], _ => rfl))
      (LW.got_of KX G ?a43 ?l43 ?c43 ?k43 (fun _ _ _ _ _ _ us hl => match us, hl with | [_, _], _ => rfl))
      (LW.got_of KX G ?a44 ?l44 ?c44 ?k44 (fun _ _ _ _ _ _ us hl => match us, hl with | [_, _], _ => rfl))
      (LW.got_of KX G ?a45 ?l45 ?c45 ?k45 (fun _ _ _ _ _ _ us hl => match us, hl with | [_, _], _ => rfl))
      (LW.got_of KX G ?a46 ?l46 ?c46 ?k46 (fun _ _ _ _ _ _ us hl => match us, hl with | [_, _], _ => rfl))
      (LW.got_of KX G ?a47 ?l47 ?c47 ?k47 (fun _ _ _ _ _ _ us hl => match us, hl with | [_, _], _ => rfl))
      (LW.got_of KX G ?a48 ?l48 ?c48 ?k48 (fun _ _ _ _ _ _ us hl => match us, hl with | [_], _ => rfl))
      (LW.glob2_of KX G ?za0 ?zl0)
      (LW.globS_of KX G ?za1)
      (LW.globS_of KX G ?za2)
      (LW.globI_of KX G ?za3)
      (LW.glob2_of KX G ?za4 ?zl4)
      (PySem.W.mg_none_of KX G ?n_len)
      (PySem.W.mg_none_of KX G ?n_int)
      (PySem.W.mg_none_of KX G ?n_abs)
      (PySem.W.mg_none_of KX G ?n_min)
      (PySem.W.mg_none_of KX G ?n_sum)
      (PySem.W.mg_none_of KX G ?n_all)
      (PySem.W.mg_none_of KX G ?n_any)
      (PySem.W.mg_none_of KX G ?n_tuple)
      (PySem.W.mg_none_of KX G ?n_list)
      (PySem.W.mg_none_of KX G ?n_bool)
      (PySem.W.mg_none_of KX G ?n_str)
      (PySem.W.mg_none_of KX G ?n_isinstance)
      (PySem.W.mg_none_of KX G ?n_range)
      (PySem.W.mg_none_of KX G ?n_enumerate)
      (PySem.W.mg_none_of KX G ?n_zip)
      (PySem.W.mg_of KX G ?n_gcd)
      (PySem.W.mg_none_of KX G ?n_max)
      (PySem.W.mg_none_of KX G ?n_sorted)
      (PySem.W.mg_of KX G ?dDay1) ?dDay2 ?dDay3
      ⟨?dDay4, ?dDay5, ?dDay6, ?dDay7⟩ ?dnDay0 ?dnDay1 ?dnDay2 ?dnDay3 ?dnDay4
      (PySem.W.mg_of KX G ?eNotAtOnce1) ?eNotAtOnce2 ?eNotAtOnce3 ?eNotAtOnce4 ?eNotAtOnce5
      (PySem.W.mg_of KX G ?eUnequalWeights1) ?eUnequalWeights2 ?eUnequalWeights3 ?eUnequalWeights4 ?eUnequalWeights5
    (case eUnequalWeights1 => k_is)
    (case eNotAtOnce1 => k_is)
    (case dDay1 => k_is)
    (case a0 => k_is)
    (case l0 => k_is)
    (case c0 => k_is)
    (case k0 => k_is)
    (case a1 => k_is)
    (case l1 => k_is)
    (case c1 => k_is)
    (case k1 => k_is)
    (case a2 => k_is)
    (case l2 => k_is)
    (case c2 => k_is)
    (case k2 => k_is)
    (case a3 => k_is)
    (case l3 => k_is)
    (case c3 => k_is)
    (case k3 => k_is)
    (case a4 => k_is)
    (case l4 => k_is)
    (case c4 => k_is)
    (case k4 => k_is)
    (case a5 => k_is)
    (case l5 => k_is)
    (case c5 => k_is)
    (case k5 => k_is)
    (case a6 => k_is)
    (case l6 => k_is)
    (case c6 => k_is)
    (case k6 => k_is)
    (case a7 => k_is)
    (case l7 => k_is)
    (case c7 => k_is)
    (case k7 => k_is)
    (case a8 => k_is)
    (case l8 => k_is)
    (case c8 => k_is)
    (case k8 => k_is)
    (case a9 => k_is)
    (case l9 => k_is)
    (case c9 => k_is)
    (case k9 => k_is)
    (case a10 => k_is)
    (case l10 => k_is)
    (case c10 => k_is)
    (case k10 => k_is)
    (case a11 => k_is)
    (case l11 => k_is)
    (case c11 => k_is)
    (case k11 => k_is)
    (case a12 => k_is)
    (case l12 => k_is)
    (case c12 => k_is)
    (case k12 => k_is)
    (case a13 => k_is)
    (case l13 => k_is)
    (case c13 => k_is)
    (case k13 => k_is)
    (case a14 => k_is)
    (case l14 => k_is)
    (case c14 => k_is)
    (case k14 => k_is)
    (case a15 => k_is)
    (case l15 => k_is)
    (case c15 => k_is)
    (case k15 => k_is)
    (case a16 => k_is)
    (case l16 => k_is)
    (case c16 => k_is)
    (case k16 => k_is)
    (case a17 => k_is)
    (case l17 => k_is)
    (case c17 => k_is)
    (case k17 => k_is)
    (case a18 => k_is)
    (case l18 => k_is)
    (case c18 => k_is)
    (case k18 => k_is)
    (case a19 => k_is)
    (case l19 => k_is)
    (case c19 => k_is)
    (case k19 => k_is)
    (case a20 => k_is)
    (case l20 => k_is)
    (case c20 => k_is)
    (case k20 => k_is)
    (case a21 => k_is)
    (case l21 => k_is)
    (case c21 => k_is)
    (case k21 => k_is)
    (case a22 => k_is)
    (case l22 => k_is)
    (case c22 => k_is)
    (case k22 => k_is)
    (case a24 => k_is)
    (case l24 => k_is)
    (case c24 => k_is)
    (case k24 => k_is)
    (case a27 => k_is)
    (case l27 => k_is)
    (case c27 => k_is)
    (case k27 => k_is)
    (case a28 => k_is)
    (case l28 => k_is)
    (case c28 => k_is)
    (case k28 => k_is)
    (case a29 => k_is)
    (case l29 => k_is)
    (case c29 => k_is)
    (case k29 => k_is)
    (case a30 => k_is)
    (case l30 => k_is)
    (case c30 => k_is)
    (case k30 => k_is)
    (case a31 => k_is)
    (case l31 => k_is)
    (case c31 => k_is)
    (case k31 => k_is)
    (case a32 => k_is)
    (case l32 => k_is)
    (case c32 => k_is)
    (case k32 => k_is)
    (case a33 => k_is)
    (case l33 => k_is)
    (case c33 => k_is)
    (case k33 => k_is)
    (case a34 => k_is)
    (case l34 => k_is)
    (case c34 => k_is)
    (case k34 => k_is)
    (case a35 => k_is)
    (case l35 => k_is)
    (case c35 => k_is)
    (case k35 => k_is)
    (case a36 => k_is)
    (case l36 => k_is)
    (case c36 => k_is)
    (case k36 => k_is)
    (case a37 => k_is)
    (case l37 => k_is)
    (case c37 => k_is)
    (case k37 => k_is)
    (case a38 => k_is)
    (case l38 => k_is)
    (case c38 => k_is)
    (case k38 => k_is)
    (case a39 => k_is)
    (case l39 => k_is)
    (case c39 => k_is)
    (case k39 => k_is)
    (case a40 => k_is)
    (case l40 => k_is)
    (case c40 => k_is)
    (case k40 => k_is)
    (case a41 => k_is)
    (case l41 => k_is)
    (case c41 => k_is)
    (case k41 => k_is)
    (case a42 => k_is)
    (case l42 => k_is)
    (case c42 => k_is)
    (case k42 => k_is)
    (case a43 => k_is)
    (case l43 => k_is)
    (case c43 => k_is)
    (case k43 => k_is)
    (case a44 => k_is)
    (case l44 => k_is)
    (case c44 => k_is)
    (case k44 => k_is)
    (case a45 => k_is)
    (case l45 => k_is)
    (case c45 => k_is)
    (case k45 => k_is)
    (case a46 => k_is)
    (case l46 => k_is)
    (case c46 => k_is)
    (case k46 => k_is)
    (case a47 => k_is)
    (case l47 => k_is)
    (case c47 => k_is)
    (case k47 => k_is)
    (case a48 => k_is)
    (case l48 => k_is)
    (case c48 => k_is)
    (case k48 => k_is)
    (case za0 => k_is)
    (case zl0 => k_is)
    (case za1 => k_is)
    (case za2 => k_is)
    (case za3 => k_is)
    (case za4 => k_is)
    (case zl4 => k_is)
    (case n_len => k_is)
    (case n_int => k_is)
    (case n_abs => k_is)
    (case n_min => k_is)
    (case n_sum => k_is)
    (case n_all => k_is)
    (case n_any => k_is)
    (case n_tuple => k_is)
    (case n_list => k_is)
    (case n_bool => k_is)
    (case n_str => k_is)
    (case n_isinstance => k_is)
    (case n_range => k_is)
    (case n_enumerate => k_is)
    (case n_zip => k_is)
    (case n_gcd => k_is)
    (case n_max => k_is)
    (case n_sorted => k_is)
    (case a23 => k_is)
    (case l23 => k_is)
    (case c23 => k_is)
    (case k23 => k_is)
    (case i23 => k_is)
    (case a25 => k_is)
    (case l25 => k_is)
    (case c25 => k_is)
    (case k25 => k_is)
    (case i25 => k_is)
    (case a26 => k_is)
    (case g26 => k_is)
    (case t26 => k_is)
    (case r26 => k_is)
    (case l26 => k_is)
    (case c26 => k_is)
    (case k26 => k_is)
    (case dDay2 => k_is)
    (case dDay3 => k_is)
    (case dDay4 => k_is)
    (case dDay5 => k_is)
    (case dDay6 => k_is)
    (case dDay7 => k_is)
    (case dnDay0 => unfold L2.NoAttr; k_is)
    (case dnDay1 => unfold L2.NoAttr; k_is)
    (case dnDay2 => unfold L2.NoAttr; k_is)
    (case dnDay3 => unfold L2.NoAttr; k_is)
    (case dnDay4 => unfold L2.NoAttr; k_is)
    (case eNotAtOnce2 => k_is)
    (case eNotAtOnce3 => k_exc)
    (case eNotAtOnce4 => k_is)
    (case eNotAtOnce5 => k_is)
    (case eUnequalWeights2 => k_is)
    (case eUnequalWeights3 => k_exc)
    (case eUnequalWeights4 => k_is)
    (case eUnequalWeights5 => k_is)
