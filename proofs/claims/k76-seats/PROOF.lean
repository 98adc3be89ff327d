import PyProof.Rows.All
import Wide.All
import OpenK.AllK
import Wide.FinOn
import HandS.ForMost
import HandS.Exc
import HandS.ExcOwn
import HandS.TryOnly
import HandS.WordsExc
import HandS.IsInst
import HandS.Gcd
import HandS.Wide
import HandS.WideBits
import HandS.Property
import HandS.Style
import HandS.Zip
import HandS.TryMany
import HandS.ExcIs
import PySem.Challenge.RW_twicewaited_k76_seats
set_option Elab.async false
set_option linter.all false
set_option maxRecDepth 100000
set_option maxHeartbeats 4000000
/-! A layer over HandS in which a def's body is followed over plain data: what each slot holds is a datum (frozen) or a list or an instance that this frame alone may change. -/
namespace DL
open PySem L2

/-- plain data -/
inductive D where
  | non
  | bl (b : Bool)
  | int (i : Int)
  | str (s : Str)
  | tup (ds : List D)
  | lst (ds : List D)
  | ins (C : Addr) (ns : List Str) (ds : List D)
  | ref (a : Addr)

mutual
/-- the value v stands for the datum in the heap H -/
inductive Rep (K : PySem.W.Frag) (H : Hp) : V → D → Prop
  | non : Rep K H .non .non
  | bl (b : Bool) : Rep K H (.bl b) (.bl b)
  | int (i : Int) : Rep K H (.int i) (.int i)
  | str (s : Str) : Rep K H (.str s) (.str s)
  | tup {a : Addr} {vs : List V} {ds : List D} : SqT K H a vs → RepL K H vs ds → Rep K H (.ref a) (.tup ds)
  | lst {a : Addr} {vs : List V} {ds : List D} : SqL K H a vs → RepL K H vs ds → Rep K H (.ref a) (.lst ds)
  | ins {a C dx : Addr} {fs : List (Str × V)} {ns : List Str} {ds : List D} : H a = some (.ins C dx fs) → fs.map (·.1) = ns → RepL K H (fs.map (·.2)) ds → Rep K H (.ref a) (.ins C ns ds)
  | ref (a : Addr) : Rep K H (.ref a) (.ref a)
inductive RepL (K : PySem.W.Frag) (H : Hp) : List V → List D → Prop
  | nil : RepL K H [] []
  | cons {v : V} {vs : List V} {d : D} {ds : List D} : Rep K H v d → RepL K H vs ds → RepL K H (v :: vs) (d :: ds)
end

section
variable {K : PySem.W.Frag} {H H' : Hp}
theorem sqt_mono {a : Addr} {xs : List V} (e : Same H H') (h : SqT K H a xs) : SqT K H' a xs := by
  rcases h with (h | ⟨o, h⟩) | h
  · exact .inl (.inl (e _ _ h))
  · exact .inl (.inr ⟨o, e _ _ h⟩)
  · exact .inr h
theorem sql_mono {a : Addr} {xs : List V} (e : Same H H') (h : SqL K H a xs) : SqL K H' a xs := by
  rcases h with (h | ⟨o, h⟩) | h
  · exact .inl (.inl (e _ _ h))
  · exact .inl (.inr ⟨o, e _ _ h⟩)
  · exact .inr h
theorem rd_mono {a : Addr} {u : HO} (e : Same H H') (h : Rd H a u) : Rd H' a u := by
  rcases h with h | ⟨o, h⟩
  · exact .inl (e _ _ h)
  · exact .inr ⟨o, e _ _ h⟩
mutual
theorem Rep.mono (e : Same H H') : ∀ (d : D) (v : V), Rep K H v d → Rep K H' v d
  | .non, _, h => by cases h; exact .non
  | .bl b, _, h => by cases h; exact .bl b
  | .int i, _, h => by cases h; exact .int i
  | .str s, _, h => by cases h; exact .str s
  | .tup ds, _, h => by
    cases h with
    | tup a b => exact .tup (sqt_mono e a) (RepL.mono e ds _ b)
  | .lst ds, _, h => by
    cases h with
    | lst a b => exact .lst (sql_mono e a) (RepL.mono e ds _ b)
  | .ins C ns ds, _, h => by
    cases h with
    | ins a b c => exact .ins (e _ _ a) b (RepL.mono e ds _ c)
  | .ref a, _, h => by cases h; exact .ref a
theorem RepL.mono (e : Same H H') : ∀ (ds : List D) (vs : List V), RepL K H vs ds → RepL K H' vs ds
  | [], _, h => by cases h; exact .nil
  | d :: ds, _, h => by
    cases h with
    | cons a b => exact .cons (Rep.mono e d _ a) (RepL.mono e ds _ b)
end
theorem Rep.up {d : D} {v : V} (h : Rep K H v d) (e : Same H H') : Rep K H' v d := Rep.mono e d v h
theorem RepL.up {ds : List D} {vs : List V} (h : RepL K H vs ds) (e : Same H H') : RepL K H' vs ds := RepL.mono e ds vs h
theorem RepL.length : ∀ {ds : List D} {vs : List V}, RepL K H vs ds → vs.length = ds.length
  | [], _, h => by cases h; rfl
  | d :: ds, _, h => by
    cases h with
    | cons a b =>
      show _ + 1 = _ + 1
      rw [RepL.length b]
theorem RepL.get : ∀ {ds : List D} {vs : List V} {i : Nat} {d : D}, RepL K H vs ds → ds[i]? = some d → ∃ v, vs[i]? = some v ∧ Rep K H v d
  | [], _, i, d, h, e => by simp at e
  | x :: ds, _, 0, d, h, e => by
    cases h with
    | cons a b =>
      have e' : x = d := by simpa using e
      subst e'
      exact ⟨_, rfl, a⟩
  | x :: ds, _, i + 1, d, h, e => by
    cases h with
    | cons a b =>
      obtain ⟨v, h1, h2⟩ := RepL.get (i := i) b (by simpa using e)
      exact ⟨v, by simpa using h1, h2⟩
theorem RepL.getV : ∀ {ds : List D} {vs : List V} {i : Nat} {v : V}, RepL K H vs ds → vs[i]? = some v → ∃ d, ds[i]? = some d ∧ Rep K H v d
  | [], _, i, d, h, e => by cases h; simp at e
  | x :: ds, _, 0, v, h, e => by
    cases h with
    | cons a b =>
      have e' := Option.some.inj e
      subst e'
      exact ⟨_, rfl, a⟩
  | x :: ds, _, i + 1, v, h, e => by
    cases h with
    | cons a b =>
      obtain ⟨d, h1, h2⟩ := RepL.getV (i := i) b (by simpa using e)
      exact ⟨d, by simpa using h1, h2⟩
theorem RepL.append : ∀ {ds es : List D} {vs ws : List V}, RepL K H vs ds → RepL K H ws es → RepL K H (vs ++ ws) (ds ++ es)
  | [], es, _, ws, h, g => by cases h; exact g
  | d :: ds, es, _, ws, h, g => by
    cases h with
    | cons a b => exact .cons a (RepL.append b g)
theorem RepL.one {v : V} {d : D} (h : Rep K H v d) : RepL K H [v] [d] := .cons h .nil
theorem RepL.set {v : V} {d : D} (g : Rep K H v d) : ∀ {ds : List D} {vs : List V} (i : Nat), RepL K H vs ds → RepL K H (vs.set i v) (ds.set i d)
  | [], _, i, h => by cases h; exact .nil
  | x :: ds, _, 0, h => by
    cases h with
    | cons a b => exact .cons g b
  | x :: ds, _, i + 1, h => by
    cases h with
    | cons a b => exact .cons a (RepL.set g i b)
theorem RepL.take : ∀ {ds : List D} {vs : List V} (n : Nat), RepL K H vs ds → RepL K H (vs.take n) (ds.take n)
  | _, _, 0, _ => .nil
  | [], _, n + 1, h => by cases h; exact .nil
  | x :: ds, _, n + 1, h => by
    cases h with
    | cons a b => exact .cons a (RepL.take n b)
theorem RepL.drop : ∀ {ds : List D} {vs : List V} (n : Nat), RepL K H vs ds → RepL K H (vs.drop n) (ds.drop n)
  | _, _, 0, h => h
  | [], _, n + 1, h => by cases h; exact .nil
  | x :: ds, _, n + 1, h => by
    cases h with
    | cons a b => exact RepL.drop n b
theorem RepL.ints : ∀ (ns : List Int), RepL K H (ns.map V.int) (ns.map D.int)
  | [] => .nil
  | n :: ns => .cons (.int n) (RepL.ints ns)
theorem RepL.ints_eq : ∀ {ns : List Int} {vs : List V}, RepL K H vs (ns.map D.int) → vs = ns.map V.int
  | [], _, h => by cases h; rfl
  | n :: ns, _, h => by
    cases h with
    | cons a b =>
      cases a
      rw [RepL.ints_eq b]; rfl
theorem RepL.bls_eq : ∀ {ns : List Bool} {vs : List V}, RepL K H vs (ns.map D.bl) → vs = ns.map V.bl
  | [], _, h => by cases h; rfl
  | n :: ns, _, h => by
    cases h with
    | cons a b =>
      cases a
      rw [RepL.bls_eq b]; rfl
end

/-- what a slot holds: nothing that is known, a datum, a list or an instance that this frame may change -/
inductive Slot where
  | un
  | dat (d : D)
  | own (ds : List D)
  | obj (C : Addr) (ns : List Str) (ds : List D)
def Slot.mu : Slot → Bool
  | .own _ => true
  | .obj _ _ _ => true
  | _ => false
/-- the thing at l that may be changed -/
def Mu (K : PySem.W.Frag) (B H : Hp) (l : Addr) : Slot → Prop
  | .own ds => ∃ vs, H l = some (.lst vs) ∧ RepL K B vs ds
  | .obj C ns ds => ∃ dx fs, H l = some (.ins C dx fs) ∧ fs.map (·.1) = ns ∧ RepL K B (fs.map (·.2)) ds
  | _ => True
theorem Mu.ex {K : PySem.W.Frag} {B H : Hp} {l : Addr} {s : Slot} (h : Mu K B H l s) (m : s.mu = true) : ∃ o, H l = some o := by
  cases s with
  | un => cases m
  | dat d => cases m
  | own ds => obtain ⟨vs, e, _⟩ := h; exact ⟨_, e⟩
  | obj C ns ds => obtain ⟨dx, fs, e, _⟩ := h; exact ⟨_, e⟩
theorem Mu.up {K : PySem.W.Frag} {B B' H H' : Hp} {l : Addr} {s : Slot} (h : Mu K B H l s) (e : Same B B') (k : ∀ o, H l = some o → H' l = some o) : Mu K B' H' l s := by
  cases s with
  | un => trivial
  | dat d => trivial
  | own ds => obtain ⟨vs, q, r⟩ := h; exact ⟨vs, k _ q, r.up e⟩
  | obj C ns ds => obtain ⟨dx, fs, q, n, r⟩ := h; exact ⟨dx, fs, k _ q, n, r.up e⟩

/-- the entry of a def: its heap, the frozen part of it, which slots are lent by the caller, and where those stand -/
structure Ent where
  H0 : Hp
  B0 : Hp
  bor : List (Nat × Addr)

/-- the slots' values are as told; B is the frozen part of the heap H -/
structure Sat (K : PySem.W.Frag) (G : Ent) (δ : List Slot) (σ : St) (B H : Hp) : Prop where
  hb : Same B H
  b0 : Same G.B0 B
  fr : ∀ a o, G.H0 a = some o → a ∉ G.bor.map (·.2) → H a = some o
  nb : ∀ a o, G.H0 a = some o → B a = G.B0 a
  len : σ.length = δ.length
  dat : ∀ (i : Nat) d, δ[i]? = some (.dat d) → ∃ v, σ[i]? = some (some v) ∧ Rep K B v d
  mu : ∀ (i : Nat) s, δ[i]? = some s → s.mu = true → ∃ l, σ[i]? = some (some (.ref l)) ∧ B l = none ∧ Mu K B H l s ∧ (G.H0 l = none ∨ (i, l) ∈ G.bor)
  dis : ∀ (i j : Nat) s t l, i ≠ j → δ[i]? = some s → s.mu = true → δ[j]? = some t → t.mu = true → σ[i]? = some (some (.ref l)) → σ[j]? = some (some (.ref l)) → False
  bor : ∀ p ∈ G.bor, σ[p.1]? = some (some (.ref p.2)) ∧ ∃ s, δ[p.1]? = some s ∧ s.mu = true

section
variable {K : PySem.W.Frag} {G : Ent} {δ δ' : List Slot} {σ : St} {B B' H H' : Hp}
theorem Sat.alive (S : Sat K G δ σ B H) {a : Addr} {o : HO} (h : G.H0 a = some o) : ∃ o', H a = some o' := by
  by_cases m : a ∈ G.bor.map (·.2)
  · obtain ⟨p, hp, e⟩ := List.mem_map.mp m
    obtain ⟨h1, s, h2, h3⟩ := S.bor p hp
    obtain ⟨l, q1, q2, q3, _⟩ := S.mu _ s h2 h3
    rw [h1] at q1
    have e2 : p.2 = l := by injection q1 with q1; injection q1 with q1; injection q1
    rw [← e, e2]
    exact Mu.ex q3 h3
  · exact ⟨o, S.fr a o h m⟩
theorem Sat.h0 (S : Sat K G δ σ B H) {a : Addr} (h : H a = none) : G.H0 a = none := by
  cases e : G.H0 a with
  | none => rfl
  | some o =>
    obtain ⟨o', q⟩ := S.alive e
    rw [h] at q; cases q
theorem Same.no {H H' : Hp} (e : Same H H') {a : Addr} (h : H' a = none) : H a = none := Same.free e h
/-- more stands: the heap has grown, the frozen part too, but only by what is new -/
theorem Sat.more (S : Sat K G δ σ B H) (h : Same H H') (b : Same B B') (bh : Same B' H') (n : ∀ a o, H a = some o → B' a = B a) : Sat K G δ σ B' H' where
  hb := bh
  b0 := S.b0.trans b
  fr := fun a o e m => h _ _ (S.fr a o e m)
  nb := fun a o e => by
    obtain ⟨o', q⟩ := S.alive e
    rw [n a o' q]; exact S.nb a o e
  len := S.len
  dat := fun i d e => by
    obtain ⟨v, q, r⟩ := S.dat i d e
    exact ⟨v, q, r.up b⟩
  mu := fun i s e m => by
    obtain ⟨l, q, r, t, u⟩ := S.mu i s e m
    obtain ⟨o, z⟩ := Mu.ex t m
    exact ⟨l, q, by rw [n l o z]; exact r, Mu.up t b (fun o e => h _ _ e), u⟩
  dis := S.dis
  bor := S.bor
/-- a new thing at p, part of what is frozen -/
theorem Sat.newB (S : Sat K G δ σ B H) {p : Addr} {o : HO} (h : H p = none) : Sat K G δ σ (upd B p o) (upd H p o) ∧ Same B (upd B p o) := by
  have hB : B p = none := S.hb.free h
  have sB : Same B (upd B p o) := fun b u e => by rw [upd_ne (ne_of_none e hB)]; exact e
  refine ⟨S.more (fun b u e => by rw [upd_ne (ne_of_none e h)]; exact e) sB (fun b u e => ?_) (fun a u e => ?_), sB⟩
  · by_cases z : b = p
    · subst z; rw [upd_same] at e ⊢; exact e
    · rw [upd_ne z] at e ⊢; exact S.hb _ _ e
  · rw [upd_ne (ne_of_none e h)]
/-- a new thing at p that stays out of what is frozen -/
theorem Sat.newM (S : Sat K G δ σ B H) {p : Addr} {o : HO} (h : H p = none) : Sat K G δ σ B (upd H p o) :=
  S.more (fun b u e => by rw [upd_ne (ne_of_none e h)]; exact e) (Same.refl _) (fun b u e => by rw [upd_ne (ne_of_none (S.hb _ _ e) h)]; exact S.hb _ _ e) (fun _ _ _ => rfl)
theorem Sat.get (S : Sat K G δ σ B H) {i : Nat} {d : D} (e : δ[i]? = some (.dat d)) : ∃ v, σ[i]? = some (some v) ∧ Rep K B v d := S.dat i d e
theorem Sat.lt (S : Sat K G δ σ B H) {i : Nat} {s : Slot} (e : δ[i]? = some s) : i < σ.length := by
  rw [S.len]; exact (List.getElem?_eq_some_iff.mp e).1
end
end DL

namespace DL
open PySem L2

/-! ### what a piece of syntax can be read as -/
def cE (X : Cx) (e : Expr) : TE := fun σ H Q => ∃ t, PE X e t ∧ t σ H Q
theorem pe_cE {X : Cx} {e : Expr} : PE X e (cE X e) := ⟨fun pins s σ H Q I ⟨_, p, h⟩ => p.run pins s σ H Q I h⟩
def cT (X : Cx) (e : Expr) : TT := fun σ H Q => ∃ t, PT X e t ∧ t σ H Q
theorem pt_cT {X : Cx} {e : Expr} : PT X e (cT X e) := ⟨fun pins s σ H Q I ⟨_, p, h⟩ => p.run pins s σ H Q I h⟩
def cW (X : Cx) (e : Expr) : TT := fun σ H Q => ∃ t, PW X e t ∧ t σ H Q
theorem pw_cW {X : Cx} {e : Expr} : PW X e (cW X e) := ⟨fun wh pins s σ H Q I ⟨_, p, h⟩ => p.run wh pins s σ H Q I h⟩
def cA (X : Cx) (es : List Expr) : TA := fun σ H Q => ∃ t, PA X es t ∧ t σ H Q
theorem pa_cA {X : Cx} {es : List Expr} : PA X es (cA X es) := ⟨fun pos pins s σ H Q I ⟨_, p, h⟩ => p.run pos pins s σ H Q I h⟩
def cO (X : Cx) (e : Option Expr) : TO := fun σ H Q => ∃ t, PO X e t ∧ t σ H Q

/-- the module's side of a context -/
structure Md where
  P : Program
  w : World
  K : PySem.W.Frag
  mg : Str → Option Value
  base : Heap
/-- a context in which a body of the module M runs: its names, its scope, which cells are its own, how deep it may call -/
structure Good (X : Cx) (M : Md) (N : List Str) (sc : Scope) (fb : Str → Bool) (k : Nat) : Prop where
  P : X.prog = M.P
  w : X.w = M.w
  K : X.K = M.K
  mg : X.mg = M.mg
  base : X.base = M.base
  nm : X.N = N
  sc : X.env.scope = sc
  calm : X.calm = true
  nd : N.Nodup
  fn : ∀ x, fb x = true → X.fn x = true
  room : Room k X.A
  po : PassesOwn (model X.prog X.w) X.A X.env X.xe

/-- what a value that was made is: a datum of the frozen part, or a new list or instance beside it, which no slot holds -/
structure Fresh (G : Ent) (δ : List Slot) (σ : St) (B : Hp) (l : Addr) : Prop where
  nb : B l = none
  n0 : G.H0 l = none
  ap : ∀ (i : Nat) s, δ[i]? = some s → s.mu = true → σ[i]? ≠ some (some (.ref l))
def ResR (K : PySem.W.Frag) (G : Ent) (δ : List Slot) (σ : St) (B H : Hp) (v : V) : Slot → Prop
  | .un => True
  | .dat d => Rep K B v d
  | .own ds => ∃ l vs, v = .ref l ∧ H l = some (.lst vs) ∧ RepL K B vs ds ∧ Fresh G δ σ B l
  | .obj C ns ds => ∃ l dx fs, v = .ref l ∧ H l = some (.ins C dx fs) ∧ fs.map (·.1) = ns ∧ RepL K B (fs.map (·.2)) ds ∧ Fresh G δ σ B l
theorem Sat.fresh {K : PySem.W.Frag} {G : Ent} {δ : List Slot} {σ : St} {B H : Hp} (S : Sat K G δ σ B H) {l : Addr} (h : H l = none) : Fresh G δ σ B l :=
  ⟨S.hb.free h, S.h0 h, fun i s e m z => by
    obtain ⟨l', q1, _, q3, _⟩ := S.mu i s e m
    rw [z] at q1
    have el : l = l' := by injection q1 with q1; injection q1 with q1; injection q1
    subst el
    obtain ⟨o, po⟩ := Mu.ex q3 m
    rw [h] at po; cases po⟩

/-- the expression gives r, the slots are then δ' -/
def EV (X : Cx) (G : Ent) (e : Expr) (δ : List Slot) (r : Slot) (δ' : List Slot) : Prop :=
  ∀ σ B H, Sat X.K G δ σ B H → ∀ Q : VK, (∀ v B' H', Sat X.K G δ' σ B' H' → Same B B' → ResR X.K G δ' σ B' H' v r → Q v H') → cE X e σ H Q
def ET (X : Cx) (G : Ent) (e : Expr) (δ : List Slot) (b : Bool) (δ' : List Slot) : Prop :=
  ∀ σ B H, Sat X.K G δ σ B H → ∀ Q : Bool → Hp → Prop, (∀ B' H', Sat X.K G δ' σ B' H' → Same B B' → Q b H') → cT X e σ H Q
def EW (X : Cx) (G : Ent) (e : Expr) (δ : List Slot) (b : Bool) (δ' : List Slot) : Prop :=
  ∀ σ B H, Sat X.K G δ σ B H → ∀ Q : Bool → Hp → Prop, (∀ B' H', Sat X.K G δ' σ B' H' → Same B B' → Q b H') → cW X e σ H Q
def EA (X : Cx) (G : Ent) (es : List Expr) (δ : List Slot) (ds : List D) (δ' : List Slot) : Prop :=
  ∀ σ B H, Sat X.K G δ σ B H → ∀ Q : List V → Hp → Prop, (∀ vs B' H', Sat X.K G δ' σ B' H' → Same B B' → RepL X.K B' vs ds → Q vs H') → cA X es σ H Q
def EO (X : Cx) (G : Ent) (e : Option Expr) (δ : List Slot) (o : Option Int) (δ' : List Slot) : Prop :=
  ∀ σ B H, Sat X.K G δ σ B H → ∀ Q : Option Int → Hp → Prop, (∀ B' H', Sat X.K G δ' σ B' H' → Same B B' → Q o H') → cO X e σ H Q

/-! ### names and constants -/
def visB (sc : Scope) (x : Str) : Bool := match sc.names.lookup x with
  | some .local => true
  | some .cell => true
  | some .free => true
  | _ => false
theorem vis_of {sc : Scope} {x : Str} (h : visB sc x = true) : Vis sc x := by
  unfold visB at h
  unfold Vis
  split at h <;> first | (rename_i e; rw [e]; simp) | cases h
section
variable {X : Cx} {G : Ent} {M : Md} {N : List Str} {sc : Scope} {fb : Str → Bool} {k : Nat} {δ δ1 δ2 δ3 : List Slot} {e a b c : Expr} {d : D} {pos : Pos}
theorem ev_con {v : V} (hp : PE X e (tC v)) (hr : ∀ B, Rep X.K B v d) : EV X G e δ (.dat d) δ := fun σ B H S Q q => ⟨_, hp, q v B H S (Same.refl _) (hr B)⟩
theorem ev_int {i : Int} {j} : EV X G (.Constant (.int i) j pos) δ (.dat (.int i)) δ := ev_con pe_int fun _ => .int i
theorem ev_bl {i : Bool} {j} : EV X G (.Constant (.bool i) j pos) δ (.dat (.bl i)) δ := ev_con pe_bl fun _ => .bl i
theorem ev_non {j} : EV X G (.Constant .none j pos) δ (.dat .non) δ := ev_con pe_non fun _ => .non
theorem ev_str {i : Str} {j} : EV X G (.Constant (.str i) j pos) δ (.dat (.str i)) δ := ev_con pe_str fun _ => .str i
theorem pe_slot (g : Good X M N sc fb k) (i : Nat) {x : Str} (hN : N[i]? = some x) (hv : visB sc x = true) (hd : (x == ("__debug__" : Str)) = false) (hc : (x == ("__classdict__" : Str)) = false) : PE X (.Name x pos) (tVar i) :=
  pe_var (by rw [g.nm]; exact hN) (by rw [g.sc]; exact vis_of hv) hd hc
/-- a name whose slot holds a datum -/
theorem ev_var (g : Good X M N sc fb k) (i : Nat) {x : Str} (hδ : δ[i]? = some (.dat d) := by rfl) (hN : N[i]? = some x := by rfl) (hv : visB sc x = true := by rfl) (hd : (x == ("__debug__" : Str)) = false := by decide) (hc : (x == ("__classdict__" : Str)) = false := by decide) :
    EV X G (.Name x pos) δ (.dat d) δ := fun σ B H S Q q => by
  obtain ⟨v, h1, h2⟩ := S.dat i d hδ
  exact ⟨_, pe_slot g i hN hv hd hc, v, h1, q v B H S (Same.refl _) h2⟩
/-- a module's constant -/
theorem ev_glob (g : Good X M N sc fb k) {x : Str} {v : V} {u : Value} (hm : M.mg x = some u) (r : RelV v u) (hr : ∀ B, Rep M.K B v d) (hg : sc.names.lookup x = some .globalImplicit := by rfl) (hd : (x == ("__debug__" : Str)) = false := by decide) :
    EV X G (.Name x pos) δ (.dat d) δ := ev_con (pe_glob (by unfold Gl Env.kindOf; rw [g.sc]; exact hg) (by rw [g.mg]; exact hm) r hd) (by rw [g.K]; exact hr)
end

/-! ### what a list or an instance that one holds becomes when it is let go: a datum -/
section
variable {K : PySem.W.Frag} {G : Ent} {δ : List Slot} {σ : St} {B H : Hp}
theorem sat_freeze (S : Sat K G δ σ B H) {l : Addr} {o : HO} (hl : H l = some o) (hB : B l = none) (h0 : G.H0 l = none) (hn : ∀ (i : Nat) s, δ[i]? = some s → s.mu = true → σ[i]? ≠ some (some (.ref l))) :
    Sat K G δ σ (upd B l o) H ∧ Same B (upd B l o) := by
  have sB : Same B (upd B l o) := fun b u e => by rw [upd_ne (ne_of_none e hB)]; exact e
  refine ⟨⟨fun b u e => ?_, S.b0.trans sB, S.fr, fun a u e => ?_, S.len, fun i d e => ?_, fun i s e m => ?_, S.dis, S.bor⟩, sB⟩
  · by_cases z : b = l
    · subst z; rw [upd_same] at e; rw [hl]; exact e
    · rw [upd_ne z] at e; exact S.hb _ _ e
  · rw [upd_ne (ne_of_none e h0)]; exact S.nb a u e
  · obtain ⟨v, q, r⟩ := S.dat i d e
    exact ⟨v, q, r.up sB⟩
  · obtain ⟨l', q, r, t, u⟩ := S.mu i s e m
    have ne : l' ≠ l := fun z => hn i s e m (by rw [q, z])
    exact ⟨l', q, by rw [upd_ne ne]; exact r, Mu.up t sB (fun _ h => h), u⟩
end
/-- the datum of a slot's content -/
def Slot.d : Slot → D
  | .own ds => .lst ds
  | .obj C ns ds => .ins C ns ds
  | .dat d => d
  | .un => .non
section
variable {X : Cx} {G : Ent} {M : Md} {N : List Str} {sc : Scope} {fb : Str → Bool} {k : Nat} {δ δ1 δ2 δ3 : List Slot} {e a b c : Expr} {d : D} {pos : Pos}
/-- a list or an instance that one has just made is let go: a datum -/
theorem EV.frz {s : Slot} (m : s.mu = true) (h : EV X G e δ s δ1) : EV X G e δ (.dat s.d) δ1 := fun σ B H S Q q => h σ B H S _ fun v B' H' S' sB r => by
  cases s with
  | un => cases m
  | dat d => cases m
  | own ds =>
    obtain ⟨l, vs, rfl, h1, h4, F⟩ := r
    obtain ⟨S2, s2⟩ := sat_freeze S' h1 F.nb F.n0 F.ap
    exact q _ _ H' S2 (sB.trans s2) (.lst (.inl (.inl upd_same)) (h4.up s2))
  | obj C ns ds =>
    obtain ⟨l, dx, fs, rfl, h1, h2, h4, F⟩ := r
    obtain ⟨S2, s2⟩ := sat_freeze S' h1 F.nb F.n0 F.ap
    exact q _ _ H' S2 (sB.trans s2) (.ins upd_same h2 (h4.up s2))
/-- a name whose slot holds a list or an instance of one's own is read as a value: it is let go -/
theorem ev_let (g : Good X M N sc fb k) (i : Nat) {x : Str} {s : Slot} (hδ : δ[i]? = some s := by rfl) (hb : i ∉ G.bor.map (·.1)) (m : s.mu = true := by rfl) (hN : N[i]? = some x := by rfl) (hv : visB sc x = true := by rfl) (hd : (x == ("__debug__" : Str)) = false := by decide) (hc : (x == ("__classdict__" : Str)) = false := by decide) :
    EV X G (.Name x pos) δ (.dat s.d) (δ.set i (.dat s.d)) := fun σ B H S Q q => by
  obtain ⟨l, h1, h2, h3, h4⟩ := S.mu i s hδ m
  have n0 : G.H0 l = none := by
    rcases h4 with h4 | h4
    · exact h4
    · exact absurd (List.mem_map.mpr ⟨_, h4, rfl⟩) hb
  obtain ⟨o, ho⟩ := Mu.ex h3 m
  have sB : Same B (upd B l o) := fun b u e => by rw [upd_ne (ne_of_none e h2)]; exact e
  have hi : i < δ.length := (List.getElem?_eq_some_iff.mp hδ).1
  have hr : Rep X.K (upd B l o) (.ref l) s.d := by
    cases s with
    | un => cases m
    | dat d => cases m
    | own ds =>
      obtain ⟨vs, e, r⟩ := h3
      rw [ho] at e; cases e
      exact .lst (.inl (.inl upd_same)) (r.up sB)
    | obj C ns ds =>
      obtain ⟨dx, fs, e, n, r⟩ := h3
      rw [ho] at e; cases e
      exact .ins upd_same n (r.up sB)
  refine ⟨_, pe_slot g i hN hv hd hc, _, h1, q _ (upd B l o) H ⟨fun b u e => ?_, S.b0.trans sB, S.fr, fun a u e => ?_, by rw [List.length_set]; exact S.len, fun j d e => ?_, fun j t e mt => ?_, fun j j2 t t2 l2 ne e mt e2 mt2 => ?_, fun p hp => ?_⟩ sB hr⟩
  · by_cases z : b = l
    · subst z; rw [upd_same] at e; rw [ho]; exact e
    · rw [upd_ne z] at e; exact S.hb _ _ e
  · rw [upd_ne (ne_of_none e n0)]; exact S.nb a u e
  · by_cases z : j = i
    · subst z
      rw [List.getElem?_set_self hi] at e
      cases e
      exact ⟨_, h1, hr⟩
    · rw [List.getElem?_set_ne (Ne.symm z)] at e
      obtain ⟨v, q, r⟩ := S.dat j d e
      exact ⟨v, q, r.up sB⟩
  · by_cases z : j = i
    · subst z
      rw [List.getElem?_set_self hi] at e
      cases e; cases mt
    · rw [List.getElem?_set_ne (Ne.symm z)] at e
      obtain ⟨l', p1, p2, p3, p4⟩ := S.mu j t e mt
      have ne : l' ≠ l := fun w => S.dis j i t s l z e mt hδ m (by rw [p1, w]) h1
      exact ⟨l', p1, by rw [upd_ne ne]; exact p2, Mu.up p3 sB (fun _ h => h), p4⟩
  · have z1 : j ≠ i := fun w => by
      subst w
      rw [List.getElem?_set_self hi] at e
      cases e; cases mt
    have z2 : j2 ≠ i := fun w => by
      subst w
      rw [List.getElem?_set_self hi] at e2
      cases e2; cases mt2
    rw [List.getElem?_set_ne (Ne.symm z1)] at e
    rw [List.getElem?_set_ne (Ne.symm z2)] at e2
    exact S.dis j j2 t t2 l2 ne e mt e2 mt2
  · obtain ⟨p1, t, p2, p3⟩ := S.bor p hp
    have z : p.1 ≠ i := fun w => hb (List.mem_map.mpr ⟨p, hp, w⟩)
    exact ⟨p1, t, by rw [List.getElem?_set_ne (Ne.symm z)]; exact p2, p3⟩

/-! ### operators -/
theorem behind (op : CmpOp) (h : op ≠ .In) (h2 : op ≠ .NotIn) : behindInMarks op b = false := nobehind b h h2
theorem ev_bin {op : Operator} {r : R2} {d1 d2 : D} (ho : OpR X (binaryOp op) r) (ha : EV X G a δ (.dat d1) δ1) (hb : EV X G b δ1 (.dat d2) δ2)
    (hr : ∀ σ x y B H, Sat X.K G δ2 σ B H → Rep X.K B x d1 → Rep X.K B y d2 → ∀ Q : VK, (∀ v B' H', Sat X.K G δ3 σ B' H' → Same B B' → ResR X.K G δ3 σ B' H' v (.dat d) → Q v H') → r x y H Q) : EV X G (.BinOp a op b pos) δ (.dat d) δ3 := fun σ B H S Q q =>
  ⟨_, pe_op ho pe_cE pe_cE, ha σ B H S _ fun x B1 H1 S1 s1 r1 => hb σ B1 H1 S1 _ fun y B2 H2 S2 s2 r2 => hr σ x y B2 H2 S2 (Rep.up r1 s2) r2 Q fun v B' H' S' s3 r3 => q v B' H' S' ((s1.trans s2).trans s3) r3⟩
theorem ev_cmp {op : CmpOp} {r : R2} {d1 d2 : D} (ho : OpR X (compareOp op) r) (hm : behindInMarks op b = false) (ha : EV X G a δ (.dat d1) δ1) (hb : EV X G b δ1 (.dat d2) δ2)
    (hr : ∀ σ x y B H, Sat X.K G δ2 σ B H → Rep X.K B x d1 → Rep X.K B y d2 → ∀ Q : VK, (∀ v, Rep X.K B v d → Q v H) → r x y H Q) : EV X G (.Compare a [op] [b] pos) δ (.dat d) δ2 := fun σ B H S Q q =>
  ⟨_, pe_cmpR ho pe_cE pe_cE hm, ha σ B H S _ fun x B1 H1 S1 s1 r1 => hb σ B1 H1 S1 _ fun y B2 H2 S2 s2 r2 => hr σ x y B2 H2 S2 (Rep.up r1 s2) r2 Q fun v r3 => q v B2 H2 S2 (s1.trans s2) r3⟩
theorem et_cmp {op : CmpOp} {r : R2} {d1 d2 : D} {x : Bool} (ho : OpR X (compareOp op) r) (hm : behindInMarks op b = false) (ha : EV X G a δ (.dat d1) δ1) (hb : EV X G b δ1 (.dat d2) δ2)
    (hr : ∀ σ u v B H, Sat X.K G δ2 σ B H → Rep X.K B u d1 → Rep X.K B v d2 → ∀ Q : VK, (∀ w, Rep X.K B w (.bl x) → Q w H) → r u v H Q) : ET X G (.Compare a [op] [b] pos) δ x δ2 := fun σ B H S Q q =>
  ⟨_, pt_cmpR ho pe_cE pe_cE hm, ha σ B H S _ fun u B1 H1 S1 s1 r1 => hb σ B1 H1 S1 _ fun v B2 H2 S2 s2 r2 => hr σ u v B2 H2 S2 (Rep.up r1 s2) r2 _ fun w r3 => ⟨x, by cases r3; rfl, q B2 H2 S2 (s1.trans s2)⟩⟩
theorem int_of {K : PySem.W.Frag} {B : Hp} {x : V} {i : Int} (h : Rep K B x (.int i)) : x = .int i := by cases h; rfl
theorem bl_of {K : PySem.W.Frag} {B : Hp} {x : V} {i : Bool} (h : Rep K B x (.bl i)) : x = .bl i := by cases h; rfl
theorem str_of {K : PySem.W.Frag} {B : Hp} {x : V} {i : Str} (h : Rep K B x (.str i)) : x = .str i := by cases h; rfl
theorem tup_of {K : PySem.W.Frag} {B : Hp} {x : V} {ds : List D} (h : Rep K B x (.tup ds)) : ∃ a vs, x = .ref a ∧ SqT K B a vs ∧ RepL K B vs ds := by cases h with | tup a b => exact ⟨_, _, rfl, a, b⟩
theorem lst_of {K : PySem.W.Frag} {B : Hp} {x : V} {ds : List D} (h : Rep K B x (.lst ds)) : ∃ a vs, x = .ref a ∧ SqL K B a vs ∧ RepL K B vs ds := by cases h with | lst a b => exact ⟨_, _, rfl, a, b⟩
theorem ins_of {K : PySem.W.Frag} {B : Hp} {x : V} {C : Addr} {ns : List Str} {ds : List D} (h : Rep K B x (.ins C ns ds)) : ∃ a dx fs, x = .ref a ∧ B a = some (.ins C dx fs) ∧ fs.map (·.1) = ns ∧ RepL K B (fs.map (·.2)) ds := by cases h with | ins a b c => exact ⟨_, _, _, rfl, a, b, c⟩
/-- two whole numbers -/
theorem ev_bin_i {op : Operator} {r : R2} {i j : Int} {z : V} (ho : OpR X (binaryOp op) r) (hr : ∀ (H : Hp) (Q : VK), Q z H → r (.int i) (.int j) H Q) (hz : ∀ B, Rep X.K B z d) (ha : EV X G a δ (.dat (.int i)) δ1) (hb : EV X G b δ1 (.dat (.int j)) δ2) :
    EV X G (.BinOp a op b pos) δ (.dat d) δ2 := ev_bin ho ha hb fun σ x y B H S rx ry Q q => by
  cases int_of rx; cases int_of ry
  exact hr H Q (q _ B H S (Same.refl _) (hz B))
variable {i j : Int}
theorem ev_add (ha : EV X G a δ (.dat (.int i)) δ1) (hb : EV X G b δ1 (.dat (.int j)) δ2) : EV X G (.BinOp a .Add b pos) δ (.dat (.int (i + j))) δ2 := ev_bin_i op_add (fun _ _ q => ⟨_, _, rfl, rfl, q⟩) (fun _ => .int _) ha hb
theorem ev_sub (ha : EV X G a δ (.dat (.int i)) δ1) (hb : EV X G b δ1 (.dat (.int j)) δ2) : EV X G (.BinOp a .Sub b pos) δ (.dat (.int (i - j))) δ2 := ev_bin_i op_sub (fun _ _ q => ⟨_, _, rfl, rfl, q⟩) (fun _ => .int _) ha hb
/-- the factors together at most 2 ^ 27 bits -/
def MulOk (i j : Int) : Prop := CMulX i j
theorem ev_mul (ha : EV X G a δ (.dat (.int i)) δ1) (hb : EV X G b δ1 (.dat (.int j)) δ2) (h : MulOk i j) : EV X G (.BinOp a .Mult b pos) δ (.dat (.int (i * j))) δ2 := ev_bin_i op_mulX (fun _ _ q => ⟨_, _, rfl, rfl, h, q⟩) (fun _ => .int _) ha hb
theorem ev_fdiv (ha : EV X G a δ (.dat (.int i)) δ1) (hb : EV X G b δ1 (.dat (.int j)) δ2) (h : CDivW i j) : EV X G (.BinOp a .FloorDiv b pos) δ (.dat (.int (i / j))) δ2 := ev_bin_i op_fdivW (fun _ _ q => ⟨_, _, rfl, rfl, h, q⟩) (fun _ => .int _) ha hb
theorem ev_mod (ha : EV X G a δ (.dat (.int i)) δ1) (hb : EV X G b δ1 (.dat (.int j)) δ2) (h : 0 < j) : EV X G (.BinOp a .Mod b pos) δ (.dat (.int (i % j))) δ2 := ev_bin_i op_mod (fun _ _ q => ⟨_, _, rfl, rfl, h, q⟩) (fun _ => .int _) ha hb
theorem ev_pow (ha : EV X G a δ (.dat (.int i)) δ1) (hb : EV X G b δ1 (.dat (.int j)) δ2) (h : CPow i j) : EV X G (.BinOp a .Pow b pos) δ (.dat (.int (i ^ j.toNat))) δ2 := ev_bin_i op_pow (fun _ _ q => ⟨_, _, rfl, rfl, h, q⟩) (fun _ => .int _) ha hb
theorem ev_un {op : UnaryOp} {r : V → Hp → VK → Prop} {d1 : D} (ho : UnR X (unaryOp op) r) (ha : EV X G a δ (.dat d1) δ1) (hr : ∀ x B H, Rep X.K B x d1 → ∀ Q : VK, (∀ v, Rep X.K B v d → Q v H) → r x H Q) : EV X G (.UnaryOp op a pos) δ (.dat d) δ1 := fun σ B H S Q q =>
  ⟨_, pe_un ho pe_cE, ha σ B H S _ fun x B1 H1 S1 s1 r1 => hr x B1 H1 r1 Q fun v r3 => q v B1 H1 S1 s1 r3⟩
theorem ev_neg (ha : EV X G a δ (.dat (.int i)) δ1) : EV X G (.UnaryOp .USub a pos) δ (.dat (.int (-i))) δ1 := ev_un un_neg ha fun x B H r Q q => by
  cases int_of r
  exact ⟨_, rfl, q _ (.int _)⟩
theorem ev_cmp_i {op : CmpOp} {r : R2} {z : Bool} (ho : OpR X (compareOp op) r) (hm : behindInMarks op b = false) (hr : ∀ (H : Hp) (Q : VK), Q (.bl z) H → r (.int i) (.int j) H Q) (ha : EV X G a δ (.dat (.int i)) δ1) (hb : EV X G b δ1 (.dat (.int j)) δ2) :
    EV X G (.Compare a [op] [b] pos) δ (.dat (.bl z)) δ2 := ev_cmp ho hm ha hb fun σ x y B H S rx ry Q q => by
  cases int_of rx; cases int_of ry
  exact hr H Q (q _ (.bl _))
theorem et_cmp_i {op : CmpOp} {r : R2} {z : Bool} (ho : OpR X (compareOp op) r) (hm : behindInMarks op b = false) (hr : ∀ (H : Hp) (Q : VK), Q (.bl z) H → r (.int i) (.int j) H Q) (ha : EV X G a δ (.dat (.int i)) δ1) (hb : EV X G b δ1 (.dat (.int j)) δ2) :
    ET X G (.Compare a [op] [b] pos) δ z δ2 := et_cmp ho hm ha hb fun σ x y B H S rx ry Q q => by
  cases int_of rx; cases int_of ry
  exact hr H Q (q _ (.bl _))
theorem ev_lt (ha : EV X G a δ (.dat (.int i)) δ1) (hb : EV X G b δ1 (.dat (.int j)) δ2) : EV X G (.Compare a [.Lt] [b] pos) δ (.dat (.bl (decide (i < j)))) δ2 := ev_cmp_i op_lt (behind _ (by decide) (by decide)) (fun _ _ q => ⟨_, _, rfl, rfl, q⟩) ha hb
theorem et_lt (ha : EV X G a δ (.dat (.int i)) δ1) (hb : EV X G b δ1 (.dat (.int j)) δ2) : ET X G (.Compare a [.Lt] [b] pos) δ (decide (i < j)) δ2 := et_cmp_i op_lt (behind _ (by decide) (by decide)) (fun _ _ q => ⟨_, _, rfl, rfl, q⟩) ha hb
theorem ev_le (ha : EV X G a δ (.dat (.int i)) δ1) (hb : EV X G b δ1 (.dat (.int j)) δ2) : EV X G (.Compare a [.LtE] [b] pos) δ (.dat (.bl (decide (i ≤ j)))) δ2 := ev_cmp_i op_le (behind _ (by decide) (by decide)) (fun _ _ q => ⟨_, _, rfl, rfl, q⟩) ha hb
theorem et_le (ha : EV X G a δ (.dat (.int i)) δ1) (hb : EV X G b δ1 (.dat (.int j)) δ2) : ET X G (.Compare a [.LtE] [b] pos) δ (decide (i ≤ j)) δ2 := et_cmp_i op_le (behind _ (by decide) (by decide)) (fun _ _ q => ⟨_, _, rfl, rfl, q⟩) ha hb
theorem ev_gt (ha : EV X G a δ (.dat (.int i)) δ1) (hb : EV X G b δ1 (.dat (.int j)) δ2) : EV X G (.Compare a [.Gt] [b] pos) δ (.dat (.bl (decide (j < i)))) δ2 := ev_cmp_i op_gt (behind _ (by decide) (by decide)) (fun _ _ q => ⟨_, _, rfl, rfl, q⟩) ha hb
theorem et_gt (ha : EV X G a δ (.dat (.int i)) δ1) (hb : EV X G b δ1 (.dat (.int j)) δ2) : ET X G (.Compare a [.Gt] [b] pos) δ (decide (j < i)) δ2 := et_cmp_i op_gt (behind _ (by decide) (by decide)) (fun _ _ q => ⟨_, _, rfl, rfl, q⟩) ha hb
theorem ev_ge (ha : EV X G a δ (.dat (.int i)) δ1) (hb : EV X G b δ1 (.dat (.int j)) δ2) : EV X G (.Compare a [.GtE] [b] pos) δ (.dat (.bl (decide (j ≤ i)))) δ2 := ev_cmp_i op_ge (behind _ (by decide) (by decide)) (fun _ _ q => ⟨_, _, rfl, rfl, q⟩) ha hb
theorem et_ge (ha : EV X G a δ (.dat (.int i)) δ1) (hb : EV X G b δ1 (.dat (.int j)) δ2) : ET X G (.Compare a [.GtE] [b] pos) δ (decide (j ≤ i)) δ2 := et_cmp_i op_ge (behind _ (by decide) (by decide)) (fun _ _ q => ⟨_, _, rfl, rfl, q⟩) ha hb
theorem ev_eqI (ha : EV X G a δ (.dat (.int i)) δ1) (hb : EV X G b δ1 (.dat (.int j)) δ2) : EV X G (.Compare a [.Eq] [b] pos) δ (.dat (.bl (decide (i = j)))) δ2 :=
  ev_cmp_i op_eq (behind _ (by decide) (by decide)) (fun _ _ q => ⟨rfl, by rw [show decide (V.int i = V.int j) = decide (i = j) from by simp]; exact q⟩) ha hb
theorem et_eqI (ha : EV X G a δ (.dat (.int i)) δ1) (hb : EV X G b δ1 (.dat (.int j)) δ2) : ET X G (.Compare a [.Eq] [b] pos) δ (decide (i = j)) δ2 :=
  et_cmp_i op_eq (behind _ (by decide) (by decide)) (fun _ _ q => ⟨rfl, by rw [show decide (V.int i = V.int j) = decide (i = j) from by simp]; exact q⟩) ha hb
theorem ev_neI (ha : EV X G a δ (.dat (.int i)) δ1) (hb : EV X G b δ1 (.dat (.int j)) δ2) : EV X G (.Compare a [.NotEq] [b] pos) δ (.dat (.bl (!decide (i = j)))) δ2 :=
  ev_cmp_i op_ne (behind _ (by decide) (by decide)) (fun _ _ q => ⟨rfl, by rw [show decide (V.int i = V.int j) = decide (i = j) from by simp]; exact q⟩) ha hb
theorem et_neI (ha : EV X G a δ (.dat (.int i)) δ1) (hb : EV X G b δ1 (.dat (.int j)) δ2) : ET X G (.Compare a [.NotEq] [b] pos) δ (!decide (i = j)) δ2 :=
  et_cmp_i op_ne (behind _ (by decide) (by decide)) (fun _ _ q => ⟨rfl, by rw [show decide (V.int i = V.int j) = decide (i = j) from by simp]; exact q⟩) ha hb
end
end DL

namespace DL
open PySem L2
section
variable {X : Cx} {G : Ent} {M : Md} {N : List Str} {sc : Scope} {fb : Str → Bool} {k : Nat} {δ δ1 δ2 δ3 : List Slot} {e a b c : Expr} {es rest : List Expr} {d : D} {ds : List D} {pos : Pos} {r : Slot} {x y z : Bool} {op : BoolOp}

/-! ### tests -/
theorem et_val (h : EV X G e δ (.dat (.bl x)) δ1) (he : ∀ whole, isTrue e X.env whole = (do let v ← whole; standAt e.pos; holding [v] (truthy v)) := by intro _; rfl) : ET X G e δ x δ1 := fun σ B H S Q q =>
  ⟨_, pt_val pe_cE he, h σ B H S _ fun v B' H' S' sB rv => ⟨x, bl_of rv, q B' H' S' sB⟩⟩
theorem et_not (h : ET X G e δ x δ1) : ET X G (.UnaryOp .Not e pos) δ (!x) δ1 := fun σ B H S Q q => ⟨_, pt_not pt_cT, h σ B H S _ fun B' H' S' sB => q B' H' S' sB⟩
theorem et_w (h : EW X G e δ x δ1) : ET X G e δ x δ1 := fun σ B H S Q q => ⟨_, PW.pt pw_cW, h σ B H S _ q⟩
theorem ew_a1 (h : ET X G a δ x δ1) : EW X G (.BoolOp .And [a] pos) δ x δ1 := fun σ B H S Q q => ⟨_, pw_and1 pt_cT, h σ B H S _ q⟩
theorem ew_o1 (h : ET X G a δ x δ1) : EW X G (.BoolOp .Or [a] pos) δ x δ1 := fun σ B H S Q q => ⟨_, pw_or1 pt_cT, h σ B H S _ q⟩
theorem ew_and (h : ET X G a δ x δ1) (h2 : x = true → EW X G (.BoolOp .And (b :: rest) pos) δ1 y δ1) : EW X G (.BoolOp .And (a :: b :: rest) pos) δ (x && y) δ1 := fun σ B H S Q q =>
  ⟨_, pw_and pt_cT pw_cW, h σ B H S _ fun B' H' S' sB => by
    cases x with
    | true =>
      rw [if_pos rfl]
      exact h2 rfl σ B' H' S' Q fun B2 H2 S2 s2 => q B2 H2 S2 (sB.trans s2)
    | false =>
      rw [if_neg Bool.false_ne_true]
      exact q B' H' S' sB⟩
theorem ew_or (h : ET X G a δ x δ1) (h2 : x = false → EW X G (.BoolOp .Or (b :: rest) pos) δ1 y δ1) : EW X G (.BoolOp .Or (a :: b :: rest) pos) δ (x || y) δ1 := fun σ B H S Q q =>
  ⟨_, pw_or pt_cT pw_cW, h σ B H S _ fun B' H' S' sB => by
    cases x with
    | true =>
      rw [if_pos rfl]
      exact q B' H' S' sB
    | false =>
      rw [if_neg Bool.false_ne_true]
      exact h2 rfl σ B' H' S' Q fun B2 H2 S2 s2 => q B2 H2 S2 (sB.trans s2)⟩
theorem ew_aT (h : ET X G a δ true δ1) (h2 : EW X G (.BoolOp .And (b :: rest) pos) δ1 y δ2) : EW X G (.BoolOp .And (a :: b :: rest) pos) δ y δ2 := fun σ B H S Q q =>
  ⟨_, pw_and pt_cT pw_cW, h σ B H S _ fun B' H' S' sB => by
    rw [if_pos rfl]
    exact h2 σ B' H' S' Q fun B2 H2 S2 s2 => q B2 H2 S2 (sB.trans s2)⟩
theorem ew_aF (h : ET X G a δ false δ1) : EW X G (.BoolOp .And (a :: b :: rest) pos) δ false δ1 := fun σ B H S Q q =>
  ⟨_, pw_and pt_cT pw_cW, h σ B H S _ fun B' H' S' sB => by
    rw [if_neg Bool.false_ne_true]
    exact q B' H' S' sB⟩
theorem ew_oF (h : ET X G a δ false δ1) (h2 : EW X G (.BoolOp .Or (b :: rest) pos) δ1 y δ2) : EW X G (.BoolOp .Or (a :: b :: rest) pos) δ y δ2 := fun σ B H S Q q =>
  ⟨_, pw_or pt_cT pw_cW, h σ B H S _ fun B' H' S' sB => by
    rw [if_neg Bool.false_ne_true]
    exact h2 σ B' H' S' Q fun B2 H2 S2 s2 => q B2 H2 S2 (sB.trans s2)⟩
theorem ew_oT (h : ET X G a δ true δ1) : EW X G (.BoolOp .Or (a :: b :: rest) pos) δ true δ1 := fun σ B H S Q q =>
  ⟨_, pw_or pt_cT pw_cW, h σ B H S _ fun B' H' S' sB => by
    rw [if_pos rfl]
    exact q B' H' S' sB⟩
theorem ET.eq (h : ET X G e δ x δ1) (q : x = y) : ET X G e δ y δ1 := q ▸ h
theorem EV.eq {d d' : D} (h : EV X G e δ (.dat d) δ1) (q : d = d') : EV X G e δ (.dat d') δ1 := q ▸ h

/-! ### and, or, not, if as values -/
theorem ev_b1 (h : EV X G a δ r δ1) : EV X G (.BoolOp op [a] pos) δ r δ1 := fun σ B H S Q q => ⟨_, pe_one pe_cE, h σ B H S _ q⟩
theorem ev_and (h : EV X G a δ (.dat (.bl x)) δ1) (h2 : x = true → EV X G (.BoolOp .And (b :: rest) pos) δ1 (.dat (.bl y)) δ1) : EV X G (.BoolOp .And (a :: b :: rest) pos) δ (.dat (.bl (x && y))) δ1 := fun σ B H S Q q =>
  ⟨_, pe_and pe_cE pe_cE, h σ B H S _ fun v B' H' S' sB rv => ⟨x, bl_of rv, by
    cases x with
    | true =>
      rw [if_pos rfl]
      exact h2 rfl σ B' H' S' Q fun v B2 H2 S2 s2 => q v B2 H2 S2 (sB.trans s2)
    | false =>
      rw [if_neg Bool.false_ne_true]
      exact q _ B' H' S' sB (.bl false)⟩⟩
theorem ev_or (h : EV X G a δ (.dat (.bl x)) δ1) (h2 : x = false → EV X G (.BoolOp .Or (b :: rest) pos) δ1 (.dat (.bl y)) δ1) : EV X G (.BoolOp .Or (a :: b :: rest) pos) δ (.dat (.bl (x || y))) δ1 := fun σ B H S Q q =>
  ⟨_, pe_or pe_cE pe_cE, h σ B H S _ fun v B' H' S' sB rv => ⟨x, bl_of rv, by
    cases x with
    | true =>
      rw [if_pos rfl]
      exact q _ B' H' S' sB (.bl true)
    | false =>
      rw [if_neg Bool.false_ne_true]
      exact h2 rfl σ B' H' S' Q fun v B2 H2 S2 s2 => q v B2 H2 S2 (sB.trans s2)⟩⟩
theorem ev_aT (h : EV X G a δ (.dat (.bl true)) δ1) (h2 : EV X G (.BoolOp .And (b :: rest) pos) δ1 r δ2) : EV X G (.BoolOp .And (a :: b :: rest) pos) δ r δ2 := fun σ B H S Q q =>
  ⟨_, pe_and pe_cE pe_cE, h σ B H S _ fun v B' H' S' sB rv => ⟨true, bl_of rv, by
    rw [if_pos rfl]
    exact h2 σ B' H' S' Q fun v B2 H2 S2 s2 => q v B2 H2 S2 (sB.trans s2)⟩⟩
theorem ev_not (h : EV X G a δ (.dat (.bl x)) δ1) : EV X G (.UnaryOp .Not a pos) δ (.dat (.bl (!x))) δ1 := fun σ B H S Q q => ⟨_, pe_not pe_cE, h σ B H S _ fun v B' H' S' sB rv => ⟨x, bl_of rv, q _ B' H' S' sB (.bl _)⟩⟩
theorem ev_if (h : ET X G c δ x δ1) (h1 : x = true → EV X G a δ1 r δ2) (h2 : x = false → EV X G b δ1 r δ2) : EV X G (.IfExp c a b pos) δ r δ2 := fun σ B H S Q q =>
  ⟨_, pe_ifExp pt_cT pe_cE pe_cE, h σ B H S _ fun B' H' S' sB => by
    cases x with
    | true =>
      rw [if_pos rfl]
      exact h1 rfl σ B' H' S' Q fun v B2 H2 S2 s2 => q v B2 H2 S2 (sB.trans s2)
    | false =>
      rw [if_neg Bool.false_ne_true]
      exact h2 rfl σ B' H' S' Q fun v B2 H2 S2 s2 => q v B2 H2 S2 (sB.trans s2)⟩
theorem ev_ite {d1 d2 : D} (h : ET X G c δ x δ1) (h1 : x = true → EV X G a δ1 (.dat d1) δ2) (h2 : x = false → EV X G b δ1 (.dat d2) δ2) : EV X G (.IfExp c a b pos) δ (.dat (if x then d1 else d2)) δ2 :=
  ev_if h (fun q => by rw [q, if_pos rfl]; exact h1 q) (fun q => by rw [q, if_neg Bool.false_ne_true]; exact h2 q)

/-! ### rows of expressions, displays -/
theorem ea_nil : EA X G [] δ [] δ := fun σ B H S Q q => ⟨_, pa_nil, q [] B H S (Same.refl _) .nil⟩
theorem ea_cons (h : EV X G e δ (.dat d) δ1) (hr : EA X G es δ1 ds δ2) (hs : starEach (e :: es) X.env = (false, eval e X.env) :: starEach es X.env := by rfl) : EA X G (e :: es) δ (d :: ds) δ2 := fun σ B H S Q q =>
  ⟨_, pa_cons pe_cE pa_cA hs, h σ B H S _ fun v B1 H1 S1 s1 r1 => hr σ B1 H1 S1 _ fun vs B2 H2 S2 s2 r2 => q _ B2 H2 S2 (s1.trans s2) (.cons (Rep.up r1 s2) r2)⟩
theorem sz100 {n : Nat} (h : n ≤ 1000) : n ≤ sizeLine := Nat.le_trans h (by decide)
theorem ev_tup {x1} (h : EA X G es δ ds δ1) (hl : ds.length ≤ 1000 := by exact Nat.le_of_ble_eq_true rfl) : EV X G (.Tuple es x1 pos) δ (.dat (.tup ds)) δ1 := fun σ B H S Q q =>
  ⟨_, pe_tup pa_cA, h σ B H S _ fun vs B1 H1 S1 s1 r1 => ⟨sz100 (by rw [r1.length]; exact hl), fun p hp => by
    obtain ⟨S2, s2⟩ := S1.newB (o := .tup vs) hp
    exact q _ _ _ S2 (s1.trans s2) (.tup (.of upd_same) (r1.up s2))⟩⟩
/-- a new list that is one's own -/
theorem own_new {K : PySem.W.Frag} {σ : St} {B H : Hp} {p : Addr} {vs : List V} (S : Sat K G δ σ B H) (hp : H p = none) (r1 : RepL K B vs ds) : Sat K G δ σ B (upd H p (.lst vs)) ∧ ResR K G δ σ B (upd H p (.lst vs)) (.ref p) (.own ds) :=
  ⟨S.newM hp, p, vs, rfl, upd_same, r1, S.fresh hp⟩
theorem ev_lst (h : EA X G es δ ds δ1) (hl : ds.length ≤ 1000 := by exact Nat.le_of_ble_eq_true rfl) : EV X G (.List es pos) δ (.own ds) δ1 := fun σ B H S Q q =>
  ⟨_, pe_lst pa_cA, h σ B H S _ fun vs B1 H1 S1 s1 r1 => ⟨sz100 (by rw [r1.length]; exact hl), fun p hp => by
    obtain ⟨S2, r2⟩ := own_new S1 hp r1
    exact q _ _ _ S2 s1 r2⟩⟩
theorem EV.ls {ds : List D} (h : EV X G e δ (.own ds) δ1) : EV X G e δ (.dat (.lst ds)) δ1 := EV.frz (s := .own ds) rfl h

/-! ### items -/
theorem atI_rep {K : PySem.W.Frag} {B : Hp} {vs : List V} {i : Int} (h : RepL K B vs ds) (ha : atI ds i = some d) : ∃ v, atI vs i = some v ∧ Rep K B v d := by
  unfold atI at ha ⊢
  rw [h.length]
  cases e : ixN ds.length i with
  | none => rw [e] at ha; cases ha
  | some j =>
    rw [e] at ha
    exact h.get (i := j) ha
variable {i : Int}
theorem ev_ixT (ha : EV X G a δ (.dat (.tup ds)) δ1) (hb : EV X G b δ1 (.dat (.int i)) δ2) (hi : atI ds i = some d) (hp : PlainIx b := by exact fun _ _ => rfl) : EV X G (.Subscript a b pos) δ (.dat d) δ2 := fun σ B H S Q q =>
  ⟨_, pe_ix ix_tup pe_cE pe_cE hp, ha σ B H S _ fun v1 B1 H1 S1 s1 r1 => hb σ B1 H1 S1 _ fun v2 B2 H2 S2 s2 r2 => by
    cases int_of r2
    obtain ⟨p, vs, rfl, h1, h2⟩ := tup_of (Rep.up r1 s2)
    obtain ⟨v, h3, h4⟩ := atI_rep h2 hi
    exact ⟨p, vs, i, v, rfl, rfl, sqt_mono S2.hb h1, h3, q v B2 H2 S2 (s1.trans s2) h4⟩⟩
theorem ev_ixL (ha : EV X G a δ (.dat (.lst ds)) δ1) (hb : EV X G b δ1 (.dat (.int i)) δ2) (hi : atI ds i = some d) (hp : PlainIx b := by exact fun _ _ => rfl) : EV X G (.Subscript a b pos) δ (.dat d) δ2 := fun σ B H S Q q =>
  ⟨_, pe_ix ix_list pe_cE pe_cE hp, ha σ B H S _ fun v1 B1 H1 S1 s1 r1 => hb σ B1 H1 S1 _ fun v2 B2 H2 S2 s2 r2 => by
    cases int_of r2
    obtain ⟨p, vs, rfl, h1, h2⟩ := lst_of (Rep.up r1 s2)
    obtain ⟨v, h3, h4⟩ := atI_rep h2 hi
    exact ⟨p, vs, i, v, rfl, rfl, S2.hb.seq h1, h3, q v B2 H2 S2 (s1.trans s2) h4⟩⟩
/-- an item of one's own list, which stays one's own -/
theorem ev_ixO (g : Good X M N sc fb k) (n : Nat) {x : Str} {px : Pos} (hb : EV X G b δ (.dat (.int i)) δ1) (hi : atI ds i = some d) (h0 : ∃ ds0, δ[n]? = some (.own ds0)) (h1 : δ1[n]? = some (.own ds) := by rfl) (hp : PlainIx b := by exact fun _ _ => rfl)
    (hN : N[n]? = some x := by rfl) (hv : visB sc x = true := by rfl) (hd : (x == ("__debug__" : Str)) = false := by decide) (hc : (x == ("__classdict__" : Str)) = false := by decide) : EV X G (.Subscript (.Name x px) b pos) δ (.dat d) δ1 := fun σ B H S Q q =>
  ⟨_, pe_ix ix_list (pe_slot g n hN hv hd hc) pe_cE hp, by
    obtain ⟨ds0, h0⟩ := h0
    obtain ⟨l, p1, p2, p3, p4⟩ := S.mu n _ h0 rfl
    refine ⟨_, p1, hb σ B H S _ fun v2 B2 H2 S2 s2 r2 => ?_⟩
    cases int_of r2
    obtain ⟨l', q1, q2, ⟨vs, q3, q4⟩, _⟩ := S2.mu n _ h1 rfl
    rw [p1] at q1
    have el : l = l' := by injection q1 with q1; injection q1 with q1; injection q1
    subst el
    obtain ⟨v, h3, h4⟩ := atI_rep q4 hi
    exact ⟨l, vs, i, v, rfl, rfl, .of q3, h3, q v B2 H2 S2 s2 h4⟩⟩
/-- a sign of a text -/
theorem ev_ixS {s : Str} {ch : Nat} (ha : EV X G a δ (.dat (.str s)) δ1) (hb : EV X G b δ1 (.dat (.int i)) δ2) (hl : s.length ≤ 1000) (hi : atI s.cps.toList i = some ch) (hp : PlainIx b := by exact fun _ _ => rfl) :
    EV X G (.Subscript a b pos) δ (.dat (.str ⟨#[ch]⟩)) δ2 := fun σ B H S Q q =>
  ⟨_, pe_ix ix_str pe_cE pe_cE hp, ha σ B H S _ fun v1 B1 H1 S1 s1 r1 => hb σ B1 H1 S1 _ fun v2 B2 H2 S2 s2 r2 => by
    cases int_of r2
    cases str_of r1
    exact ⟨s, i, ch, rfl, rfl, sz100 hl, hi, q _ B2 H2 S2 (s1.trans s2) (.str _)⟩⟩

/-! ### slices -/
theorem eo_none : EO X G none δ none δ := fun σ B H S Q q => ⟨_, po_none, q B H S (Same.refl _)⟩
theorem eo_some (h : EV X G e δ (.dat (.int i)) δ1) : EO X G (some e) δ (some i) δ1 := fun σ B H S Q q => ⟨_, po_some pe_cE, h σ B H S _ fun v B1 H1 S1 s1 r1 => ⟨i, int_of r1, q B1 H1 S1 s1⟩⟩
theorem po_cO {o : Option Expr} : PO X o (cO X o) := ⟨fun pins s σ H Q I ⟨_, p, h⟩ => p.run pins s σ H Q I h⟩
def cutD (ds : List D) (lo hi : Option Int) : List D := (ds.drop (HT.sIx ds.length 0 lo)).take (HT.sIx ds.length ds.length hi - HT.sIx ds.length 0 lo)
theorem cut_rep {K : PySem.W.Frag} {B : Hp} {vs : List V} {lo hi : Option Int} (h : RepL K B vs ds) : RepL K B (cutV vs lo hi) (cutD ds lo hi) := by
  unfold cutV cutD
  rw [h.length]
  exact (h.drop _).take _
theorem ev_slL {lo hi : Option Expr} {l u : Option Int} {p2 : Pos} (ha : EV X G a δ (.dat (.lst ds)) δ1) (hl : EO X G lo δ1 l δ2) (hu : EO X G hi δ2 u δ3) : EV X G (.Subscript a (.Slice lo hi none p2) pos) δ (.own (cutD ds l u)) δ3 := fun σ B H S Q q =>
  ⟨_, pe_slice sl_list pe_cE po_cO po_cO, ha σ B H S _ fun v1 B1 H1 S1 s1 r1 => hl σ B1 H1 S1 _ fun B2 H2 S2 s2 => hu σ B2 H2 S2 _ fun B3 H3 S3 s3 => by
    obtain ⟨p, vs, rfl, h1, h2⟩ := lst_of (Rep.up r1 (s2.trans s3))
    refine ⟨p, vs, rfl, S3.hb.seq h1, fun p hp => ?_⟩
    obtain ⟨S4, r4⟩ := own_new S3 hp (cut_rep h2)
    exact q _ _ _ S4 ((s1.trans s2).trans s3) r4⟩

/-! ### calls of what is built in -/
theorem gl_of (g : Good X M N sc fb k) {x : Str} (hg : sc.names.lookup x = some .globalImplicit) : Gl X x := by unfold Gl Env.kindOf; rw [g.sc]; exact hg
theorem mn_of (g : Good X M N sc fb k) {x : Str} {o : Option Value} (h : M.mg x = o) : X.mg x = o := by rw [g.mg]; exact h
section
variable {x : Str} {p : Pos} {bid T : String} {rr : List V → Hp → VK → Prop}
theorem ev_cb (g : Good X M N sc fb k) (hc : CallR X (.builtin bid) rr) (hm : M.mg x = none) (hv : bootBuiltins x = some (.builtin bid)) (ha : EA X G (e :: es) δ ds δ1)
    (hr : ∀ σ vs B H, Sat X.K G δ1 σ B H → RepL X.K B vs ds → ∀ Q : VK, (∀ v B' H', Sat X.K G δ2 σ B' H' → Same B B' → ResR X.K G δ2 σ B' H' v r → Q v H') → rr vs H Q)
    (hg : sc.names.lookup x = some .globalImplicit := by rfl) (hn : x ≠ "__name__" := by decide) (hdb : (x == ("__debug__" : Str)) = false := by decide)
    (he : starEach (e :: es) X.env = (false, eval e X.env) :: starEach es X.env := by rfl) (hpl : (backTo pos (starEach es X.env)).any (·.1) = false := by rfl) : EV X G (.Call (.Name x p) (e :: es) [] pos) δ r δ2 := fun σ B H S Q q =>
  ⟨_, pe_callB hc (gl_of g hg) (mn_of g hm) hv pa_cA hn hdb he hpl, ha σ B H S _ fun vs B1 H1 S1 s1 r1 => hr σ vs B1 H1 S1 r1 Q fun v B2 H2 S2 s2 r2 => q v B2 H2 S2 (s1.trans s2) r2⟩
theorem ev_ct (g : Good X M N sc fb k) (hc : CallR X (.type T) rr) (hm : M.mg x = none) (hv : bootBuiltins x = some (.type T)) (ha : EA X G (e :: es) δ ds δ1)
    (hr : ∀ σ vs B H, Sat X.K G δ1 σ B H → RepL X.K B vs ds → ∀ Q : VK, (∀ v B' H', Sat X.K G δ2 σ B' H' → Same B B' → ResR X.K G δ2 σ B' H' v r → Q v H') → rr vs H Q)
    (hg : sc.names.lookup x = some .globalImplicit := by rfl) (hn : x ≠ "__name__" := by decide) (hdb : (x == ("__debug__" : Str)) = false := by decide)
    (he : starEach (e :: es) X.env = (false, eval e X.env) :: starEach es X.env := by rfl) (hpl : (backTo pos (starEach es X.env)).any (·.1) = false := by rfl) : EV X G (.Call (.Name x p) (e :: es) [] pos) δ r δ2 := fun σ B H S Q q =>
  ⟨_, pe_callTy hc (gl_of g hg) (mn_of g hm) hv pa_cA hn hdb he hpl, ha σ B H S _ fun vs B1 H1 S1 s1 r1 => hr σ vs B1 H1 S1 r1 Q fun v B2 H2 S2 s2 r2 => q v B2 H2 S2 (s1.trans s2) r2⟩
theorem one_of {K : PySem.W.Frag} {B : Hp} {vs : List V} (h : RepL K B vs [d]) : ∃ v, vs = [v] ∧ Rep K B v d := by
  cases h with
  | cons a b => cases b; exact ⟨_, rfl, a⟩
theorem two_of {K : PySem.W.Frag} {B : Hp} {vs : List V} {d2 : D} (h : RepL K B vs [d, d2]) : ∃ v u, vs = [v, u] ∧ Rep K B v d ∧ Rep K B u d2 := by
  cases h with
  | cons a b =>
    obtain ⟨u, rfl, c⟩ := one_of b
    exact ⟨_, _, rfl, a, c⟩
/-- len of a list, of a tuple -/
theorem ev_lenL (g : Good X M N sc fb k) (hm : M.mg "len" = none) (ha : EV X G e δ (.dat (.lst ds)) δ1) (hg : sc.names.lookup ("len" : Str) = some .globalImplicit := by rfl)
    (he : starEach [e] X.env = (false, eval e X.env) :: starEach [] X.env := by rfl) : EV X G (.Call (.Name "len" p) [e] [] pos) δ (.dat (.int ds.length)) δ1 :=
  ev_cb g call_len_seq hm (by decide +kernel) (ea_cons ha ea_nil he) (fun σ vs B H S rv Q q => by
    obtain ⟨v, rfl, h⟩ := one_of rv
    obtain ⟨a, ws, rfl, h1, h2⟩ := lst_of h
    exact ⟨a, ws, rfl, .inl (S.hb.seq h1), by rw [h2.length]; exact q _ B H S (Same.refl _) (.int _)⟩) hg (by decide) (by decide) he rfl
theorem ev_lenT (g : Good X M N sc fb k) (hm : M.mg "len" = none) (ha : EV X G e δ (.dat (.tup ds)) δ1) (hg : sc.names.lookup ("len" : Str) = some .globalImplicit := by rfl)
    (he : starEach [e] X.env = (false, eval e X.env) :: starEach [] X.env := by rfl) : EV X G (.Call (.Name "len" p) [e] [] pos) δ (.dat (.int ds.length)) δ1 :=
  ev_cb g call_len_seq hm (by decide +kernel) (ea_cons ha ea_nil he) (fun σ vs B H S rv Q q => by
    obtain ⟨v, rfl, h⟩ := one_of rv
    obtain ⟨a, ws, rfl, h1, h2⟩ := tup_of h
    exact ⟨a, ws, rfl, .inr (sqt_mono S.hb h1), by rw [h2.length]; exact q _ B H S (Same.refl _) (.int _)⟩) hg (by decide) (by decide) he rfl
theorem ev_lenS (g : Good X M N sc fb k) (hm : M.mg "len" = none) {s : Str} (ha : EV X G e δ (.dat (.str s)) δ1) (hs : s.length ≤ 1000) (hg : sc.names.lookup ("len" : Str) = some .globalImplicit := by rfl)
    (he : starEach [e] X.env = (false, eval e X.env) :: starEach [] X.env := by rfl) : EV X G (.Call (.Name "len" p) [e] [] pos) δ (.dat (.int s.length)) δ1 :=
  ev_cb g call_len_str hm (by decide +kernel) (ea_cons ha ea_nil he) (fun σ vs B H S rv Q q => by
    obtain ⟨v, rfl, h⟩ := one_of rv
    cases str_of h
    exact ⟨s, rfl, sz100 hs, q _ B H S (Same.refl _) (.int _)⟩) hg (by decide) (by decide) he rfl
/-- len of one's own list -/
theorem ev_lenO (g : Good X M N sc fb k) (hm : M.mg "len" = none) (n : Nat) {px : Pos} (h0 : δ[n]? = some (.own ds) := by rfl) (hg : sc.names.lookup ("len" : Str) = some .globalImplicit := by rfl)
    (hN : N[n]? = some x := by rfl) (hv : visB sc x = true := by rfl) (hd : (x == ("__debug__" : Str)) = false := by decide) (hc : (x == ("__classdict__" : Str)) = false := by decide) : EV X G (.Call (.Name "len" p) [.Name x px] [] pos) δ (.dat (.int ds.length)) δ := fun σ B H S Q q =>
  ⟨_, pe_callB call_len_seq (gl_of g hg) (mn_of g hm) (by decide +kernel) (pa_cons (pe_slot g n hN hv hd hc) pa_nil), by
    obtain ⟨l, p1, p2, ⟨vs, p3, p4⟩, _⟩ := S.mu n _ h0 rfl
    exact ⟨_, p1, l, vs, rfl, .inl (.of p3), by rw [p4.length]; exact q _ B H S (Same.refl _) (.int _)⟩⟩
theorem ev_abs (g : Good X M N sc fb k) (hm : M.mg "abs" = none) (ha : EV X G e δ (.dat (.int i)) δ1) (hg : sc.names.lookup ("abs" : Str) = some .globalImplicit := by rfl)
    (he : starEach [e] X.env = (false, eval e X.env) :: starEach [] X.env := by rfl) : EV X G (.Call (.Name "abs" p) [e] [] pos) δ (.dat (.int (if i < 0 then -i else i))) δ1 :=
  ev_cb g call_abs hm (by decide +kernel) (ea_cons ha ea_nil he) (fun σ vs B H S rv Q q => by
    obtain ⟨v, rfl, h⟩ := one_of rv
    cases int_of h
    exact ⟨i, rfl, q _ B H S (Same.refl _) (.int _)⟩) hg (by decide) (by decide) he rfl
theorem ev_toInt (g : Good X M N sc fb k) (hm : M.mg "int" = none) (ha : EV X G e δ (.dat (.int i)) δ1) (hg : sc.names.lookup ("int" : Str) = some .globalImplicit := by rfl)
    (he : starEach [e] X.env = (false, eval e X.env) :: starEach [] X.env := by rfl) : EV X G (.Call (.Name "int" p) [e] [] pos) δ (.dat (.int i)) δ1 :=
  ev_ct g call_int1 hm (by decide +kernel) (ea_cons ha ea_nil he) (fun σ vs B H S rv Q q => by
    obtain ⟨v, rfl, h⟩ := one_of rv
    cases int_of h
    exact .inl ⟨i, rfl, q _ B H S (Same.refl _) (.int _)⟩) hg (by decide) (by decide) he rfl
theorem ev_toIntB (g : Good X M N sc fb k) (hm : M.mg "int" = none) {y : Bool} (ha : EV X G e δ (.dat (.bl y)) δ1) (hg : sc.names.lookup ("int" : Str) = some .globalImplicit := by rfl)
    (he : starEach [e] X.env = (false, eval e X.env) :: starEach [] X.env := by rfl) : EV X G (.Call (.Name "int" p) [e] [] pos) δ (.dat (.int (if y then 1 else 0))) δ1 :=
  ev_ct g call_int1 hm (by decide +kernel) (ea_cons ha ea_nil he) (fun σ vs B H S rv Q q => by
    obtain ⟨v, rfl, h⟩ := one_of rv
    cases bl_of h
    exact .inr ⟨y, rfl, q _ B H S (Same.refl _) (.int _)⟩) hg (by decide) (by decide) he rfl
theorem ev_min (g : Good X M N sc fb k) (hm : M.mg "min" = none) {j : Int} {e2 : Expr} (ha : EA X G [e, e2] δ [.int i, .int j] δ1) (hg : sc.names.lookup ("min" : Str) = some .globalImplicit := by rfl)
    (he : starEach [e, e2] X.env = (false, eval e X.env) :: starEach [e2] X.env := by rfl) (hpl : (backTo pos (starEach [e2] X.env)).any (·.1) = false := by rfl) : EV X G (.Call (.Name "min" p) [e, e2] [] pos) δ (.dat (.int (if j < i then j else i))) δ1 :=
  ev_cb g (call_min2 g.calm) hm (by decide +kernel) ha (fun σ vs B H S rv Q q => by
    obtain ⟨v, u, rfl, h, h2⟩ := two_of rv
    cases int_of h; cases int_of h2
    exact ⟨i, j, rfl, q _ B H S (Same.refl _) (.int _)⟩) hg (by decide) (by decide) he hpl
theorem ev_sum (g : Good X M N sc fb k) (hm : M.mg "sum" = none) {ns : List Int} (ha : EV X G e δ (.dat (.lst (ns.map .int))) δ1) (hg : sc.names.lookup ("sum" : Str) = some .globalImplicit := by rfl)
    (he : starEach [e] X.env = (false, eval e X.env) :: starEach [] X.env := by rfl) : EV X G (.Call (.Name "sum" p) [e] [] pos) δ (.dat (.int ns.sum)) δ1 :=
  ev_cb g (cr_sum g.calm) hm (by decide +kernel) (ea_cons ha ea_nil he) (fun σ vs B H S rv Q q => by
    obtain ⟨v, rfl, h⟩ := one_of rv
    obtain ⟨a, ws, rfl, h1, h2⟩ := lst_of h
    have e := RepL.ints_eq h2
    subst e
    exact ⟨a, ns, rfl, S.hb.seq h1, q _ B H S (Same.refl _) (.int _)⟩) hg (by decide) (by decide) he rfl
theorem ev_all (g : Good X M N sc fb k) (hm : M.mg "all" = none) {bs : List Bool} (ha : EV X G e δ (.dat (.lst (bs.map .bl))) δ1) (hg : sc.names.lookup ("all" : Str) = some .globalImplicit := by rfl)
    (he : starEach [e] X.env = (false, eval e X.env) :: starEach [] X.env := by rfl) : EV X G (.Call (.Name "all" p) [e] [] pos) δ (.dat (.bl (bs.all id))) δ1 :=
  ev_cb g (cr_all g.calm) hm (by decide +kernel) (ea_cons ha ea_nil he) (fun σ vs B H S rv Q q => by
    obtain ⟨v, rfl, h⟩ := one_of rv
    obtain ⟨a, ws, rfl, h1, h2⟩ := lst_of h
    have e := RepL.bls_eq h2
    subst e
    exact ⟨a, bs, rfl, S.hb.seq h1, q _ B H S (Same.refl _) (.bl _)⟩) hg (by decide) (by decide) he rfl
theorem ev_any (g : Good X M N sc fb k) (hm : M.mg "any" = none) {bs : List Bool} (ha : EV X G e δ (.dat (.lst (bs.map .bl))) δ1) (hg : sc.names.lookup ("any" : Str) = some .globalImplicit := by rfl)
    (he : starEach [e] X.env = (false, eval e X.env) :: starEach [] X.env := by rfl) : EV X G (.Call (.Name "any" p) [e] [] pos) δ (.dat (.bl (bs.any id))) δ1 :=
  ev_cb g (cr_any g.calm) hm (by decide +kernel) (ea_cons ha ea_nil he) (fun σ vs B H S rv Q q => by
    obtain ⟨v, rfl, h⟩ := one_of rv
    obtain ⟨a, ws, rfl, h1, h2⟩ := lst_of h
    have e := RepL.bls_eq h2
    subst e
    exact ⟨a, bs, rfl, S.hb.seq h1, q _ B H S (Same.refl _) (.bl _)⟩) hg (by decide) (by decide) he rfl
theorem ev_tuple (g : Good X M N sc fb k) (hm : M.mg "tuple" = none) (ha : EV X G e δ (.dat (.lst ds)) δ1) (hg : sc.names.lookup ("tuple" : Str) = some .globalImplicit := by rfl)
    (he : starEach [e] X.env = (false, eval e X.env) :: starEach [] X.env := by rfl) : EV X G (.Call (.Name "tuple" p) [e] [] pos) δ (.dat (.tup ds)) δ1 :=
  ev_ct g call_tuple_of hm (by decide +kernel) (ea_cons ha ea_nil he) (fun σ vs B H S rv Q q => by
    obtain ⟨v, rfl, h⟩ := one_of rv
    obtain ⟨a, ws, rfl, h1, h2⟩ := lst_of h
    refine ⟨a, ws, rfl, .inl ⟨S.hb.seq h1, fun l hl => ?_⟩⟩
    obtain ⟨S2, s2⟩ := S.newB (o := .tup ws) hl
    exact q _ _ _ S2 s2 (.tup (.of upd_same) (h2.up s2))) hg (by decide) (by decide) he rfl
theorem ev_list (g : Good X M N sc fb k) (hm : M.mg "list" = none) (ha : EV X G e δ (.dat (.tup ds)) δ1) (hg : sc.names.lookup ("list" : Str) = some .globalImplicit := by rfl)
    (he : starEach [e] X.env = (false, eval e X.env) :: starEach [] X.env := by rfl) : EV X G (.Call (.Name "list" p) [e] [] pos) δ (.own ds) δ1 :=
  ev_ct g call_list_of hm (by decide +kernel) (ea_cons ha ea_nil he) (fun σ vs B H S rv Q q => by
    obtain ⟨v, rfl, h⟩ := one_of rv
    obtain ⟨a, ws, rfl, h1, h2⟩ := tup_of h
    refine ⟨a, ws, rfl, .inr (sqt_mono S.hb h1), fun l hl => ?_⟩
    obtain ⟨S2, r2⟩ := own_new S hl h2
    exact q _ _ _ S2 (Same.refl _) r2) hg (by decide) (by decide) he rfl
theorem ev_listL (g : Good X M N sc fb k) (hm : M.mg "list" = none) (ha : EV X G e δ (.dat (.lst ds)) δ1) (hg : sc.names.lookup ("list" : Str) = some .globalImplicit := by rfl)
    (he : starEach [e] X.env = (false, eval e X.env) :: starEach [] X.env := by rfl) : EV X G (.Call (.Name "list" p) [e] [] pos) δ (.own ds) δ1 :=
  ev_ct g call_list_of hm (by decide +kernel) (ea_cons ha ea_nil he) (fun σ vs B H S rv Q q => by
    obtain ⟨v, rfl, h⟩ := one_of rv
    obtain ⟨a, ws, rfl, h1, h2⟩ := lst_of h
    refine ⟨a, ws, rfl, .inl (S.hb.seq h1), fun l hl => ?_⟩
    obtain ⟨S2, r2⟩ := own_new S hl h2
    exact q _ _ _ S2 (Same.refl _) r2) hg (by decide) (by decide) he rfl
/-- gcd, by the name that the module gives it -/
theorem ev_gcd (g : Good X M N sc fb k) (hm : M.mg x = some (.builtin "math.gcd")) {j : Int} {e2 : Expr} (ha : EA X G [e, e2] δ [.int i, .int j] δ1) (hg : sc.names.lookup x = some .globalImplicit := by rfl) (hdb : (x == ("__debug__" : Str)) = false := by decide)
    (he : starEach [e, e2] X.env = (false, eval e X.env) :: starEach [e2] X.env := by rfl) (hpl : (backTo pos (starEach [e2] X.env)).any (·.1) = false := by rfl) :
    EV X G (.Call (.Name x p) [e, e2] [] pos) δ (.dat (.int ((Nat.gcd i.natAbs j.natAbs : Nat) : Int))) δ1 := fun σ B H S Q q =>
  ⟨_, pe_callBfun cr_gcd (gl_of g hg) (mn_of g hm) pa_cA hdb he hpl, ha σ B H S _ fun vs B1 H1 S1 s1 r1 => by
    obtain ⟨v, u, rfl, h, h2⟩ := two_of r1
    cases int_of h; cases int_of h2
    exact ⟨i, j, rfl, q _ B1 H1 S1 s1 (.int _)⟩⟩
end
end
end DL

namespace DL
open PySem L2

/-! ### storing -/
section
variable {K : PySem.W.Frag} {G : Ent} {δ δ' : List Slot} {σ : St} {B H : Hp} {i : Nat} {d : D} {v : V}
theorem Sat.setD (S : Sat K G δ σ B H) (r : Rep K B v d) (hb : i ∉ G.bor.map (·.1)) : Sat K G (δ.set i (.dat d)) (σ.set i (some v)) B H := by
  refine ⟨S.hb, S.b0, S.fr, S.nb, by rw [List.length_set, List.length_set]; exact S.len, fun j e h => ?_, fun j s h m => ?_, fun j j2 s t l ne h m h2 m2 q q2 => ?_, fun p hp => ?_⟩
  · by_cases z : i = j
    · subst z
      by_cases hi : i < δ.length
      · rw [List.getElem?_set_self hi] at h
        cases h
        exact ⟨v, by rw [List.getElem?_set_self (by rw [S.len]; exact hi)], r⟩
      · rw [List.getElem?_eq_none (by rw [List.length_set]; omega)] at h; cases h
    · rw [List.getElem?_set_ne z] at h
      obtain ⟨w, p, q⟩ := S.dat j e h
      exact ⟨w, by rw [List.getElem?_set_ne z]; exact p, q⟩
  · by_cases z : i = j
    · subst z
      by_cases hi : i < δ.length
      · rw [List.getElem?_set_self hi] at h; cases h; cases m
      · rw [List.getElem?_eq_none (by rw [List.length_set]; omega)] at h; cases h
    · rw [List.getElem?_set_ne z] at h
      obtain ⟨l, p, q⟩ := S.mu j s h m
      exact ⟨l, by rw [List.getElem?_set_ne z]; exact p, q⟩
  · have z : i ≠ j := fun z => by
      subst z
      by_cases hi : i < δ.length
      · rw [List.getElem?_set_self hi] at h; cases h; cases m
      · rw [List.getElem?_eq_none (by rw [List.length_set]; omega)] at h; cases h
    have z2 : i ≠ j2 := fun z => by
      subst z
      by_cases hi : i < δ.length
      · rw [List.getElem?_set_self hi] at h2; cases h2; cases m2
      · rw [List.getElem?_eq_none (by rw [List.length_set]; omega)] at h2; cases h2
    rw [List.getElem?_set_ne z] at h q
    rw [List.getElem?_set_ne z2] at h2 q2
    exact S.dis j j2 s t l ne h m h2 m2 q q2
  · obtain ⟨p1, s, p2, p3⟩ := S.bor p hp
    have z : i ≠ p.1 := fun w => hb (List.mem_map.mpr ⟨p, hp, w.symm⟩)
    exact ⟨by rw [List.getElem?_set_ne z]; exact p1, s, by rw [List.getElem?_set_ne z]; exact p2, p3⟩
/-- a list or an instance that no slot holds is given to a slot -/
theorem Sat.setM (S : Sat K G δ σ B H) {l : Addr} {s : Slot} (m : s.mu = true) (r : Mu K B H l s) (F : Fresh G δ σ B l) (hb : i ∉ G.bor.map (·.1)) : Sat K G (δ.set i s) (σ.set i (some (.ref l))) B H := by
  refine ⟨S.hb, S.b0, S.fr, S.nb, by rw [List.length_set, List.length_set]; exact S.len, fun j e h => ?_, fun j t h mt => ?_, fun j j2 t t2 l2 ne h m h2 m2 q q2 => ?_, fun p hp => ?_⟩
  · by_cases z : i = j
    · subst z
      by_cases hi : i < δ.length
      · rw [List.getElem?_set_self hi] at h
        cases h; cases m
      · rw [List.getElem?_eq_none (by rw [List.length_set]; omega)] at h; cases h
    · rw [List.getElem?_set_ne z] at h
      obtain ⟨w, p, q⟩ := S.dat j e h
      exact ⟨w, by rw [List.getElem?_set_ne z]; exact p, q⟩
  · by_cases z : i = j
    · subst z
      by_cases hi : i < δ.length
      · rw [List.getElem?_set_self hi] at h
        cases h
        exact ⟨l, by rw [List.getElem?_set_self (by rw [S.len]; exact hi)], F.nb, r, .inl F.n0⟩
      · rw [List.getElem?_eq_none (by rw [List.length_set]; omega)] at h; cases h
    · rw [List.getElem?_set_ne z] at h
      obtain ⟨l', p, q⟩ := S.mu j t h mt
      exact ⟨l', by rw [List.getElem?_set_ne z]; exact p, q⟩
  · by_cases z : i = j
    · subst z
      have z2 : i ≠ j2 := ne
      rw [List.getElem?_set_ne z2] at h2 q2
      by_cases hi : i < δ.length
      · rw [List.getElem?_set_self (by rw [S.len]; exact hi)] at q
        have e : l = l2 := by injection q with q; injection q with q; injection q
        subst e
        exact F.ap j2 t2 h2 m2 q2
      · rw [List.getElem?_eq_none (by rw [List.length_set]; omega)] at h; cases h
    · by_cases z2 : i = j2
      · subst z2
        rw [List.getElem?_set_ne z] at h q
        by_cases hi : i < δ.length
        · rw [List.getElem?_set_self (by rw [S.len]; exact hi)] at q2
          have e : l = l2 := by injection q2 with q2; injection q2 with q2; injection q2
          subst e
          exact F.ap j t h m q
        · rw [List.getElem?_eq_none (by rw [List.length_set]; omega)] at h2; cases h2
      · rw [List.getElem?_set_ne z] at h q
        rw [List.getElem?_set_ne z2] at h2 q2
        exact S.dis j j2 t t2 l2 ne h m h2 m2 q q2
  · obtain ⟨p1, t, p2, p3⟩ := S.bor p hp
    have z : i ≠ p.1 := fun w => hb (List.mem_map.mpr ⟨p, hp, w.symm⟩)
    exact ⟨by rw [List.getElem?_set_ne z]; exact p1, t, by rw [List.getElem?_set_ne z]; exact p2, p3⟩
/-- the thing of a slot is changed in its place -/
theorem Sat.write (S : Sat K G δ σ B H) {l : Addr} {s t : Slot} {o : HO} (hi : δ[i]? = some s) (m : s.mu = true) (hl : σ[i]? = some (some (.ref l))) (mt : t.mu = true) (r : Mu K B (upd H l o) l t) : Sat K G (δ.set i t) σ B (upd H l o) := by
  have il : i < δ.length := (List.getElem?_eq_some_iff.mp hi).1
  have hBl : B l = none := by
    obtain ⟨l', p, q, _⟩ := S.mu i s hi m
    rw [hl] at p
    have e : l = l' := by injection p with p; injection p with p; injection p
    subst e; exact q
  have hor : G.H0 l = none ∨ (i, l) ∈ G.bor := by
    obtain ⟨l', p, _, _, q⟩ := S.mu i s hi m
    rw [hl] at p
    have e : l = l' := by injection p with p; injection p with p; injection p
    subst e; exact q
  refine ⟨fun b u e => ?_, S.b0, fun a u e h => ?_, S.nb, by rw [List.length_set]; exact S.len, fun j e h => ?_, fun j u h mu => ?_, fun j j2 u u2 l2 ne h m1 h2 m2 q q2 => ?_, fun p hp => ?_⟩
  · rw [upd_ne (ne_of_none e hBl)]; exact S.hb _ _ e
  · have ne : a ≠ l := fun z => by
      subst z
      rcases hor with q | q
      · rw [q] at e; cases e
      · exact h (List.mem_map.mpr ⟨_, q, rfl⟩)
    rw [upd_ne ne]; exact S.fr a u e h
  · by_cases z : i = j
    · subst z
      rw [List.getElem?_set_self il] at h
      cases h; cases mt
    · rw [List.getElem?_set_ne z] at h
      exact S.dat j e h
  · by_cases z : i = j
    · subst z
      rw [List.getElem?_set_self il] at h
      cases h
      exact ⟨l, hl, hBl, r, hor⟩
    · rw [List.getElem?_set_ne z] at h
      obtain ⟨l', p, q, q2, q3⟩ := S.mu j u h mu
      have ne : l' ≠ l := fun w => S.dis i j s u l z hi m h mu hl (by rw [p, w])
      exact ⟨l', p, q, Mu.up q2 (Same.refl _) (fun o e => by rw [upd_ne ne]; exact e), q3⟩
  · have f : ∀ (j : Nat) u, (δ.set i t)[j]? = some u → u.mu = true → ∃ w, δ[j]? = some w ∧ w.mu = true := fun j u h m => by
      by_cases z : i = j
      · subst z; exact ⟨s, hi, by assumption⟩
      · rw [List.getElem?_set_ne z] at h; exact ⟨u, h, m⟩
    obtain ⟨w, a1, a2⟩ := f j u h m1
    obtain ⟨w2, b1, b2⟩ := f j2 u2 h2 m2
    exact S.dis j j2 w w2 l2 ne a1 a2 b1 b2 q q2
  · obtain ⟨p1, u, p2, p3⟩ := S.bor p hp
    refine ⟨p1, ?_⟩
    by_cases z : i = p.1
    · rw [← z, List.getElem?_set_self il]; exact ⟨t, rfl, mt⟩
    · rw [List.getElem?_set_ne z]; exact ⟨u, p2, p3⟩
/-- less is told: a slot's content is forgotten -/
def forget : List Slot → List Slot → Prop
  | [], [] => True
  | a :: as, b :: bs => (b = a ∨ b = .un) ∧ forget as bs
  | _, _ => False
theorem forget.get : ∀ {δ δ' : List Slot}, forget δ δ' → δ.length = δ'.length ∧ ∀ (i : Nat) s, δ'[i]? = some s → s = .un ∨ δ[i]? = some s
  | [], [], _ => ⟨rfl, fun i s h => by simp at h⟩
  | [], _ :: _, h => h.elim
  | _ :: _, [], h => h.elim
  | a :: as, b :: bs, h => by
    obtain ⟨h1, h2⟩ := h
    obtain ⟨l, g⟩ := forget.get h2
    refine ⟨by rw [List.length_cons, List.length_cons, l], fun i s e => ?_⟩
    cases i with
    | zero =>
      simp at e
      subst e
      rcases h1 with h1 | h1
      · right; rw [h1]; rfl
      · left; exact h1
    | succ n =>
      simp at e ⊢
      exact g n s e
theorem forget.refl : ∀ δ : List Slot, forget δ δ
  | [] => trivial
  | a :: as => ⟨.inl rfl, forget.refl as⟩
theorem Sat.forget (S : Sat K G δ σ B H) (f : DL.forget δ δ') (hb : ∀ i ∈ G.bor.map (·.1), δ'[i]? = δ[i]?) : Sat K G δ' σ B H := by
  obtain ⟨l, g⟩ := f.get
  have g2 : ∀ (i : Nat) s, δ'[i]? = some s → s.mu = true → δ[i]? = some s := fun i s h m => by
    rcases g i s h with e | e
    · subst e; cases m
    · exact e
  refine ⟨S.hb, S.b0, S.fr, S.nb, S.len.trans l, fun i d h => ?_, fun i s h m => S.mu i s (g2 i s h m) m, fun i j s t l ne h m h2 m2 => S.dis i j s t l ne (g2 i s h m) m (g2 j t h2 m2) m2, fun p hp => ?_⟩
  · rcases g i _ h with e | e
    · cases e
    · exact S.dat i d e
  · obtain ⟨p1, s, p2, p3⟩ := S.bor p hp
    exact ⟨p1, s, by rw [hb p.1 (List.mem_map.mpr ⟨p, hp, rfl⟩)]; exact p2, p3⟩
end

/-! ### targets -/
def cG (X : Cx) (tg : Expr) : TG := fun v σ H Q => ∃ t, PG X tg t ∧ t v σ H Q
theorem pg_cG {X : Cx} {tg : Expr} : PG X tg (cG X tg) := ⟨fun pins s σ H v u Q I r ⟨_, p, h⟩ => p.run pins s σ H v u Q I r h⟩
def cGs (X : Cx) (ts : List Expr) : TGs := fun vs σ H Q => ∃ t, PGs X ts t ∧ t vs σ H Q
theorem pgs_cGs {X : Cx} {ts : List Expr} : PGs X ts (cGs X ts) := ⟨fun pins s σ H v u Q I r ⟨_, p, h⟩ => p.run pins s σ H v u Q I r h⟩
/-- σ' differs from σ at the slots js alone -/
def Only (js : List Nat) (σ σ' : St) : Prop := σ'.length = σ.length ∧ ∀ i, i ∉ js → σ'[i]? = σ[i]?
def AG (X : Cx) (G : Ent) (tg : Expr) (d : D) (δ δ' : List Slot) (js : List Nat) : Prop :=
  ∀ σ B H v, Sat X.K G δ σ B H → Rep X.K B v d → ∀ Q : St → Hp → Prop, (∀ σ', Sat X.K G δ' σ' B H → Only js σ σ' → Q σ' H) → cG X tg v σ H Q
def AGs (X : Cx) (G : Ent) (ts : List Expr) (ds : List D) (δ δ' : List Slot) (js : List Nat) : Prop :=
  ∀ σ B H vs, Sat X.K G δ σ B H → RepL X.K B vs ds → ∀ Q : St → Hp → Prop, (∀ σ', Sat X.K G δ' σ' B H → Only js σ σ' → Q σ' H) → cGs X ts vs σ H Q
def locB (sc : Scope) (fb : Str → Bool) (x : Str) : Bool := match sc.names.lookup x with
  | some .local => true
  | some .cell => fb x
  | _ => false
section
variable {X : Cx} {G : Ent} {M : Md} {N : List Str} {sc : Scope} {fb : Str → Bool} {k : Nat} {δ δ1 δ2 : List Slot} {pos : Pos} {d : D} {ds : List D} {js js2 : List Nat}
theorem loc_of (g : Good X M N sc fb k) {x : Str} (h : locB sc fb x = true) : L2.Loc X.env.scope x ∧ (X.fn x = true ∨ X.env.scope.names.lookup x = some .local) := by
  rw [g.sc]
  unfold locB at h
  unfold L2.Loc
  split at h
  · rename_i e; rw [e]; exact ⟨.inl rfl, .inr rfl⟩
  · rename_i e; rw [e]; exact ⟨.inr rfl, .inl (g.fn x h)⟩
  · cases h
theorem pg_slot (g : Good X M N sc fb k) (i : Nat) {x : Str} (hN : N[i]? = some x) (hl : locB sc fb x = true) : PG X (.Name x pos) (gName i) :=
  pg_name (by rw [g.nm]; exact g.nd) (by rw [g.nm]; exact hN) (loc_of g hl).1 (loc_of g hl).2
theorem only_set (σ : St) (i : Nat) (v : Option V) : Only [i] σ (σ.set i v) := ⟨List.length_set .., fun j h => List.getElem?_set_ne (by simp at h; exact fun e => h e.symm)⟩
theorem Only.trans {σ σ1 σ2 : St} (a : Only js σ σ1) (b : Only js2 σ1 σ2) : Only (js ++ js2) σ σ2 := ⟨b.1.trans a.1, fun i h => by
  rw [List.mem_append, not_or] at h
  rw [b.2 i h.2, a.2 i h.1]⟩
theorem ag_name (g : Good X M N sc fb k) (i : Nat) {x : Str} (hb : i ∉ G.bor.map (·.1)) (hN : N[i]? = some x := by rfl) (hl : locB sc fb x = true := by rfl) : AG X G (.Name x pos) d δ (δ.set i (.dat d)) [i] := fun σ B H v S r Q q =>
  ⟨_, pg_slot g i hN hl, q _ (S.setD r hb) (only_set _ _ _)⟩
theorem ags_nil : AGs X G [] [] δ δ [] := fun σ B H vs S r Q q => ⟨_, pgs_nil, by cases r; exact ⟨rfl, q σ S ⟨rfl, fun _ _ => rfl⟩⟩⟩
theorem ags_cons {e : Expr} {es : List Expr} (h : AG X G e d δ δ1 js) (h2 : AGs X G es ds δ1 δ2 js2) (hs : (assignEach (e :: es) X.env).map (·.2) = assign e X.env :: (assignEach es X.env).map (·.2) := by rfl) : AGs X G (e :: es) (d :: ds) δ δ2 (js ++ js2) := fun σ B H vs S r Q q =>
  ⟨_, pgs_cons pg_cG pgs_cGs hs, by
    cases r with
    | cons a b => exact ⟨_, _, rfl, h σ B H _ S a _ fun σ1 S1 o1 => h2 σ1 B H _ S1 b _ fun σ2 S2 o2 => q σ2 S2 (o1.trans o2)⟩⟩
/-- (a, b, ..) = a tuple -/
theorem ag_tup (g : Good X M N sc fb k) {es : List Expr} {kk : Nat} (h : AGs X G es ds δ δ1 js) (hn : (assignEach es X.env).length = ds.length := by rfl) (hst : (assignEach es X.env).findIdx? (·.1) = none := by rfl) : AG X G (.Tuple es kk pos) (.tup ds) δ δ1 js := fun σ B H v S r Q q =>
  ⟨_, pg_tup g.calm pgs_cGs hn hst, by
    obtain ⟨a, vs, rfl, h1, h2⟩ := tup_of r
    exact ⟨a, vs, rfl, sqt_mono S.hb h1, h2.length, h σ B H vs S h2 Q q⟩⟩
end

/-! ### what a for walks -/
def cI (X : Cx) (tg it : Expr) : TI := fun σ H R => ∃ t, PI X tg it t ∧ t σ H R
theorem pi_cI {X : Cx} {tg it : Expr} : PI X tg it (cI X tg it) := ⟨fun pins s σ H R I ⟨_, p, h⟩ => p.run pins s σ H R I h⟩
/-- the iterator gives the data ds, one after the other, as long as what is frozen stays so -/
def Serves (K : PySem.W.Frag) (J : It) (B1 : Hp) (ds : List D) : Prop :=
  ∀ (i : Nat) (G : Ent) δ σ B H, Sat K G δ σ B H → Same B1 B →
    (∀ d, ds[i]? = some d → J.go i H ∧ ∀ x H', J.yld i H x H' → ∃ B', Sat K G δ σ B' H' ∧ Same B B' ∧ Rep K B' x d ∧ (∀ a o, H a = some o → H' a = some o)) ∧ (ds.length ≤ i → J.stop i H)
def EI (X : Cx) (G : Ent) (tg it : Expr) (δ : List Slot) (ds : List D) (δ1 : List Slot) : Prop :=
  ∀ σ B H, Sat X.K G δ σ B H → ∀ R : It → Hp → Prop, (∀ J B1 H1, Sat X.K G δ1 σ B1 H1 → Same B B1 → Serves X.K J B1 ds → R J H1) → cI X tg it σ H R
section
variable {X : Cx} {G : Ent} {M : Md} {N : List Str} {sc : Scope} {fb : Str → Bool} {k : Nat} {δ δ1 δ2 : List Slot} {pos p : Pos} {ds : List D} {tg e e2 : Expr} {i j : Int}
theorem serves_list {K : PySem.W.Frag} {B1 : Hp} {a : Addr} {vs : List V} (h1 : SqL K B1 a vs) (h2 : RepL K B1 vs ds) : Serves K (Itl K a) B1 ds := fun n G δ σ B H S s => by
  have q : SqL K H a vs := (s.trans S.hb).seq h1
  refine ⟨fun d hd => ?_, fun hl => ⟨vs, q, by rw [h2.length]; exact hl⟩⟩
  obtain ⟨v, g1, g2⟩ := h2.get hd
  refine ⟨⟨vs, v, q, g1⟩, fun x H' y => ?_⟩
  obtain ⟨e, y⟩ := y
  subst e
  have z := y vs q
  rw [g1] at z
  have e : v = x := Option.some.inj z
  subst e
  exact ⟨B, S, Same.refl _, g2.up s, fun _ _ h => h⟩
theorem serves_tup {K : PySem.W.Frag} {B1 : Hp} {a : Addr} {vs : List V} (h1 : SqT K B1 a vs) (h2 : RepL K B1 vs ds) : Serves K (Itt K a) B1 ds := fun n G δ σ B H S s => by
  have q : SqT K H a vs := sqt_mono (s.trans S.hb) h1
  refine ⟨fun d hd => ?_, fun hl => ⟨vs, q, by rw [h2.length]; exact hl⟩⟩
  obtain ⟨v, g1, g2⟩ := h2.get hd
  refine ⟨⟨vs, v, q, g1⟩, fun x H' y => ?_⟩
  obtain ⟨e, y⟩ := y
  subst e
  have z := y vs q
  rw [g1] at z
  have e : v = x := Option.some.inj z
  subst e
  exact ⟨B, S, Same.refl _, g2.up s, fun _ _ h => h⟩
theorem ei_list (h : EV X G e δ (.dat (.lst ds)) δ1) : EI X G tg e δ ds δ1 := fun σ B H S R q =>
  ⟨_, pi_list pe_cE, h σ B H S _ fun v B1 H1 S1 s1 r1 => by
    obtain ⟨a, vs, rfl, h1, h2⟩ := lst_of r1
    exact ⟨a, rfl, ⟨vs, S1.hb.seq h1⟩, q _ B1 H1 S1 s1 (serves_list h1 h2)⟩⟩
theorem ei_tup (h : EV X G e δ (.dat (.tup ds)) δ1) : EI X G tg e δ ds δ1 := fun σ B H S R q =>
  ⟨_, pi_tup pe_cE, h σ B H S _ fun v B1 H1 S1 s1 r1 => by
    obtain ⟨a, vs, rfl, h1, h2⟩ := tup_of r1
    exact ⟨a, rfl, ⟨vs, sqt_mono S1.hb h1⟩, q _ B1 H1 S1 s1 (serves_tup h1 h2)⟩⟩
/-- lo, lo + 1, .. -/
def rangeD (lo : Int) (n : Nat) : List D := (List.range n).map fun (q : Nat) => D.int (lo + q)
theorem rangeD_len (lo : Int) (n : Nat) : (rangeD lo n).length = n := by unfold rangeD; rw [List.length_map, List.length_range]
theorem rangeD_get {lo : Int} {n q : Nat} {d : D} (h : (rangeD lo n)[q]? = some d) : q < n ∧ d = .int (lo + q) := by
  unfold rangeD at h
  rw [List.getElem?_map] at h
  by_cases hq : q < n
  · rw [List.getElem?_range hq] at h
    exact ⟨hq, (Option.some.inj h).symm⟩
  · rw [List.getElem?_eq_none (by rw [List.length_range]; omega)] at h; cases h
theorem serves_range {K : PySem.W.Frag} {B1 : Hp} {lo : Int} {n : Nat} : Serves K (Itr lo n) B1 (rangeD lo n) := fun q G δ σ B H S s => by
  refine ⟨fun d hd => ?_, fun hl => by rw [rangeD_len] at hl; exact hl⟩
  obtain ⟨g1, rfl⟩ := rangeD_get hd
  refine ⟨g1, fun x H' y => ?_⟩
  obtain ⟨e, y⟩ := y
  subst e y
  exact ⟨B, S, Same.refl _, .int _, fun _ _ h => h⟩
theorem ei_range1 (g : Good X M N sc fb k) (hm : M.mg "range" = none) (h : EV X G e δ (.dat (.int i)) δ1) (hi : -(2 ^ 62) ≤ i ∧ i < 2 ^ 62) (hg : sc.names.lookup ("range" : Str) = some .globalImplicit := by rfl)
    (hs : starEach [e] X.env = [(false, eval e X.env)] := by rfl) (hs2 : starEach [e] X.env = (false, eval e X.env) :: starEach [] X.env := by rfl) : EI X G tg (.Call (.Name "range" p) [e] [] pos) δ (rangeD 0 i.toNat) δ1 := fun σ B H S R q =>
  ⟨_, pi_range1 (gl_of g hg) (mn_of g hm) pa_cA hs, ea_cons h ea_nil hs2 σ B H S _ fun vs B1 H1 S1 s1 r1 => by
    obtain ⟨v, rfl, r⟩ := one_of r1
    cases int_of r
    exact ⟨i, rfl, hi.1, hi.2, q _ B1 H1 S1 s1 serves_range⟩⟩
theorem ei_range2 (g : Good X M N sc fb k) (hm : M.mg "range" = none) (h : EA X G [e, e2] δ [.int i, .int j] δ1) (hi : -(2 ^ 62) ≤ i ∧ i < 2 ^ 62 ∧ -(2 ^ 62) ≤ j ∧ j < 2 ^ 62) (hg : sc.names.lookup ("range" : Str) = some .globalImplicit := by rfl)
    (hs : starEach [e, e2] X.env = [(false, eval e X.env), (false, eval e2 X.env)] := by rfl) (hs2 : starEach [e2] X.env = [(false, eval e2 X.env)] := by rfl) : EI X G tg (.Call (.Name "range" p) [e, e2] [] pos) δ (rangeD i (j - i).toNat) δ1 := fun σ B H S R q =>
  ⟨_, pi_range2 (gl_of g hg) (mn_of g hm) pa_cA hs hs2, h σ B H S _ fun vs B1 H1 S1 s1 r1 => by
    obtain ⟨v, u, rfl, r, r2⟩ := two_of r1
    cases int_of r; cases int_of r2
    exact ⟨i, j, rfl, hi, q _ B1 H1 S1 s1 serves_range⟩⟩
/-- (0, d), (1, d'), .. -/
def enumD (n : Nat) : List D → List D
  | [] => []
  | d :: ds => .tup [.int n, d] :: enumD (n + 1) ds
theorem enumD_len : ∀ (ds : List D) (n : Nat), (enumD n ds).length = ds.length
  | [], _ => rfl
  | d :: ds, n => by show _ + 1 = _ + 1; rw [enumD_len ds]
theorem enumD_get : ∀ {ds : List D} {n q : Nat} {d : D}, (enumD n ds)[q]? = some d → ∃ e, ds[q]? = some e ∧ d = .tup [.int ((n + q : Nat) : Int), e]
  | [], _, q, d, h => by simp [enumD] at h
  | x :: ds, n, 0, d, h => by
    have h' : D.tup [.int n, x] = d := by simpa [enumD] using h
    exact ⟨x, rfl, h'.symm⟩
  | x :: ds, n, q + 1, d, h => by
    have h' : (enumD (n + 1) ds)[q]? = some d := by simpa [enumD] using h
    obtain ⟨e, h1, h2⟩ := enumD_get h'
    exact ⟨e, by simpa using h1, by rw [h2, show n + 1 + q = n + (q + 1) from by omega]⟩
theorem serves_enum {K : PySem.W.Frag} {B1 : Hp} {a : Addr} {vs : List V} (h1 : SqL K B1 a vs) (h2 : RepL K B1 vs ds) : Serves K (Ite K a) B1 (enumD 0 ds) := fun n G δ σ B H S s => by
  have q : SqL K H a vs := (s.trans S.hb).seq h1
  refine ⟨fun d hd => ?_, fun hl => ⟨vs, q, by rw [h2.length]; rw [enumD_len] at hl; exact hl⟩⟩
  obtain ⟨u, hu, rfl⟩ := enumD_get hd
  obtain ⟨v, g1, g2⟩ := h2.get hu
  refine ⟨⟨vs, v, q, g1⟩, fun x H' y => ?_⟩
  obtain ⟨T, w, e, hT, eH, y⟩ := y
  subst e eH
  have z := y vs q
  rw [g1] at z
  have e : v = w := Option.some.inj z
  subst e
  obtain ⟨S2, s2⟩ := S.newB (o := .tup [.int (n : Nat), v]) hT
  refine ⟨_, S2, s2, .tup (.of upd_same) (.cons ?_ (.one ((g2.up s).up s2))), fun a o e => by rw [upd_ne (ne_of_none e hT)]; exact e⟩
  rw [Nat.zero_add]
  exact .int _
theorem ei_enum (g : Good X M N sc fb k) (hm : M.mg "enumerate" = none) {tpos : Pos} {elts : List Expr} {kk : Nat} (h : EV X G e δ (.dat (.lst ds)) δ1) (hg : sc.names.lookup ("enumerate" : Str) = some .globalImplicit := by rfl)
    (hs : starEach [e] X.env = [(false, eval e X.env)] := by rfl) (hs2 : starEach [e] X.env = (false, eval e X.env) :: starEach [] X.env := by rfl) : EI X G (.Tuple elts kk tpos) (.Call (.Name "enumerate" p) [e] [] pos) δ (enumD 0 ds) δ1 := fun σ B H S R q =>
  ⟨_, pi_enum (gl_of g hg) (mn_of g hm) pa_cA hs, ea_cons h ea_nil hs2 σ B H S _ fun vs B1 H1 S1 s1 r1 => by
    obtain ⟨v, rfl, r⟩ := one_of r1
    obtain ⟨a, ws, rfl, h1, h2⟩ := lst_of r
    exact ⟨a, ws, rfl, S1.hb.seq h1, q _ B1 H1 S1 s1 (serves_enum h1 h2)⟩⟩
end
end DL

namespace DL
open PySem L2

/-! ### statements -/
def cS (X : Cx) (s : Stmt) : TS := fun E σ H => ∃ t, PS X s t ∧ t E σ H
theorem ps_cS {X : Cx} {s : Stmt} : PS X s (cS X s) := ⟨fun pins s σ H E I ⟨_, p, h⟩ => p.run pins s σ H E I h⟩
def cB (X : Cx) (s : List Stmt) : TS := fun E σ H => ∃ t, PSs X s t ∧ t E σ H
theorem pss_cB {X : Cx} {s : List Stmt} : PSs X s (cB X s) := ⟨fun pins s σ H E I ⟨_, p, h⟩ => p.run pins s σ H E I h⟩
/-- how a statement may end -/
inductive Out where
  | nx (δ : List Slot)
  | rt (r : Slot) (δ : List Slot)
  | bk (δ : List Slot)
  | ct (δ : List Slot)
  | ex (C : Addr) (ns : List Str) (ds : List D) (δ : List Slot)
/-- the own dict of an exception: none, or its fields -/
def ExcR (K : PySem.W.Frag) (B H : Hp) (d : Option Addr) (ns : List Str) (ds : List D) : Prop :=
  (ns = [] ∧ ds = [] ∧ d = none) ∨ ns ≠ [] ∧ ∃ dd fs, d = some dd ∧ H dd = some (.xd fs) ∧ fs.map (·.1) = ns ∧ RepL K B (fs.map (·.2)) ds
/-- what stands behind (E, W) takes every end that P lets -/
structure Fits (K : PySem.W.Frag) (G : Ent) (W : WX) (B0 : Hp) (P : Out → Prop) (E : Ends) : Prop where
  nx : ∀ δ σ B H, P (.nx δ) → Sat K G δ σ B H → Same B0 B → E.nx σ H
  rt : ∀ r δ σ B H v, P (.rt r δ) → Sat K G δ σ B H → Same B0 B → ResR K G δ σ B H v r → E.rt v H
  bk : ∀ δ σ B H, P (.bk δ) → Sat K G δ σ B H → Same B0 B → E.bk σ H
  ct : ∀ δ σ B H, P (.ct δ) → Sat K G δ σ B H → Same B0 B → E.ct σ H
  ex : ∀ C ns ds δ σ B H d, P (.ex C ns ds δ) → Sat K G δ σ B H → Same B0 B → ExcR K B H d ns ds → W (.ref C) d σ H
theorem Fits.up {K : PySem.W.Frag} {G : Ent} {W : WX} {B0 B1 : Hp} {P : Out → Prop} {E : Ends} (F : Fits K G W B0 P E) (s : Same B0 B1) : Fits K G W B1 P E :=
  ⟨fun δ σ B H p S e => F.nx δ σ B H p S (s.trans e), fun r δ σ B H v p S e => F.rt r δ σ B H v p S (s.trans e), fun δ σ B H p S e => F.bk δ σ B H p S (s.trans e), fun δ σ B H p S e => F.ct δ σ B H p S (s.trans e),
    fun C ns ds δ σ B H d p S e => F.ex C ns ds δ σ B H d p S (s.trans e)⟩
def SV1 (X : Cx) (W : WX) (G : Ent) (s : Stmt) (δ : List Slot) (P : Out → Prop) : Prop :=
  ∀ σ B H, Sat X.K G δ σ B H → ∀ E, Fits X.K G W B P E → cS X s E σ H
def SV (X : Cx) (W : WX) (G : Ent) (s : List Stmt) (δ : List Slot) (P : Out → Prop) : Prop :=
  ∀ σ B H, Sat X.K G δ σ B H → ∀ E, Fits X.K G W B P E → cB X s E σ H
/-- then the rest -/
def Bef (X : Cx) (W : WX) (G : Ent) (rest : List Stmt) (P : Out → Prop) : Out → Prop
  | .nx δ => SV X W G rest δ P
  | .rt r δ => P (.rt r δ)
  | .bk δ => P (.bk δ)
  | .ct δ => P (.ct δ)
  | .ex C ns ds δ => P (.ex C ns ds δ)
/-- a loop's turn -/
def LoopP (I : List Slot → Prop) (P : Out → Prop) : Out → Prop
  | .nx δ => I δ
  | .rt r δ => P (.rt r δ)
  | .bk δ => P (.nx δ)
  | .ct δ => I δ
  | .ex C ns ds δ => P (.ex C ns ds δ)
section
variable {X : Cx} {W : WX} {G : Ent} {M : Md} {N : List Str} {sc : Scope} {fb : Str → Bool} {k : Nat} {δ δ1 δ2 : List Slot} {pos : Pos} {d : D} {ds : List D} {P : Out → Prop} {s : Stmt} {rest body orelse : List Stmt} {e c tg it : Expr} {r : Slot} {x : Str} {b : Bool}
theorem sv_nil (h : P (.nx δ)) : SV X W G [] δ P := fun σ B H S E F => ⟨_, pss_nil, F.nx δ σ B H h S (Same.refl _)⟩
theorem sv_cons (h : SV1 X W G s δ (Bef X W G rest P)) : SV X W G (s :: rest) δ P := fun σ B H S E F =>
  ⟨_, pss_cons ps_cS pss_cB, h σ B H S { E with nx := cB X rest E } ⟨fun δ' σ' B' H' p S' e => p σ' B' H' S' E (F.up e), fun r δ' σ' B' H' v p => F.rt r δ' σ' B' H' v p, fun δ' σ' B' H' p => F.bk δ' σ' B' H' p, fun δ' σ' B' H' p => F.ct δ' σ' B' H' p, fun C ns ds δ' σ' B' H' d p => F.ex C ns ds δ' σ' B' H' d p⟩⟩
theorem sv_one (h : SV1 X W G s δ P) : SV X W G [s] δ P := fun σ B H S E F => ⟨_, pss_one ps_cS, h σ B H S E F⟩
theorem SV1.imp {P' : Out → Prop} (h : SV1 X W G s δ P) (i : ∀ o, P o → P' o) : SV1 X W G s δ P' := fun σ B H S E F =>
  h σ B H S E ⟨fun δ σ B H p => F.nx δ σ B H (i _ p), fun r δ σ B H v p => F.rt r δ σ B H v (i _ p), fun δ σ B H p => F.bk δ σ B H (i _ p), fun δ σ B H p => F.ct δ σ B H (i _ p), fun C ns ds δ σ B H d p => F.ex C ns ds δ σ B H d (i _ p)⟩
theorem SV.imp {ss : List Stmt} {P' : Out → Prop} (h : SV X W G ss δ P) (i : ∀ o, P o → P' o) : SV X W G ss δ P' := fun σ B H S E F =>
  h σ B H S E ⟨fun δ σ B H p => F.nx δ σ B H (i _ p), fun r δ σ B H v p => F.rt r δ σ B H v (i _ p), fun δ σ B H p => F.bk δ σ B H (i _ p), fun δ σ B H p => F.ct δ σ B H (i _ p), fun C ns ds δ σ B H d p => F.ex C ns ds δ σ B H d (i _ p)⟩
/-- less is told of the slots -/
theorem SV.weak {ss : List Stmt} (h : SV X W G ss δ1 P) (f : forget δ δ1) (hb : ∀ i ∈ G.bor.map (·.1), δ1[i]? = δ[i]?) : SV X W G ss δ P := fun σ B H S E F => h σ B H (S.forget f hb) E F
theorem forget_set : ∀ (l : List Slot) (n : Nat), forget l (l.set n .un)
  | [], _ => trivial
  | a :: as, 0 => ⟨.inr rfl, forget.refl as⟩
  | a :: as, n + 1 => ⟨.inl rfl, forget_set as n⟩
/-- name = e -/
theorem s_asg (g : Good X M N sc fb k) (i : Nat) {px : Pos} (h : EV X G e δ (.dat d) δ1) (hb : i ∉ G.bor.map (·.1)) (p : P (.nx (δ1.set i (.dat d)))) (hN : N[i]? = some x := by rfl) (hl : locB sc fb x = true := by rfl)
    (hs : swapsWith e (some (.Name x px)) pos.line X.env = pure false := by rfl) : SV1 X W G (.Assign [.Name x px] e pos) δ P := fun σ B H S E F =>
  ⟨_, ps_set (i := i) (by rw [g.nm]; exact g.nd) (by rw [g.nm]; exact hN) (loc_of g hl).1 pe_cE hs (loc_of g hl).2, h σ B H S _ fun v B1 H1 S1 s1 r1 => F.nx _ _ B1 H1 p (S1.setD r1 hb) s1⟩
/-- name = e, a new list or instance, which is then one's own -/
theorem s_asgM (g : Good X M N sc fb k) (i : Nat) {px : Pos} (h : EV X G e δ r δ1) (hb : i ∉ G.bor.map (·.1)) (p : P (.nx (δ1.set i r))) (hm : r.mu = true := by rfl) (hN : N[i]? = some x := by rfl) (hl : locB sc fb x = true := by rfl)
    (hs : swapsWith e (some (.Name x px)) pos.line X.env = pure false := by rfl) : SV1 X W G (.Assign [.Name x px] e pos) δ P := fun σ B H S E F =>
  ⟨_, ps_set (i := i) (by rw [g.nm]; exact g.nd) (by rw [g.nm]; exact hN) (loc_of g hl).1 pe_cE hs (loc_of g hl).2, h σ B H S _ fun v B1 H1 S1 s1 r1 => by
    cases r with
    | un => cases hm
    | dat d => cases hm
    | own ds =>
      obtain ⟨l, vs, rfl, h1, h2, F1⟩ := r1
      exact F.nx _ _ B1 H1 p (S1.setM (s := .own ds) rfl ⟨vs, h1, h2⟩ F1 hb) s1
    | obj C ns ds =>
      obtain ⟨l, dx, fs, rfl, h1, h2, h3, F1⟩ := r1
      exact F.nx _ _ B1 H1 p (S1.setM (s := .obj C ns ds) rfl ⟨dx, fs, h1, h2, h3⟩ F1 hb) s1⟩
/-- a, b, .. = e, or any other target -/
theorem s_asgT (g : Good X M N sc fb k) {js : List Nat} (h : EV X G e δ (.dat d) δ1) (ht : AG X G tg d δ1 δ2 js) (p : P (.nx δ2)) (hs : swapsWithSole [tg] e pos.line X.env = pure false := by rfl) (hw : swappedStores [tg] e X.env = pure none := by rfl)
    (h1 : (assignEach [tg] X.env).map (·.2) = [assign tg X.env] := by rfl) : SV1 X W G (.Assign [tg] e pos) δ P := fun σ B H S E F =>
  ⟨_, ps_asg pe_cE pg_cG hs hw h1, h σ B H S _ fun v B1 H1 S1 s1 r1 => ht σ B1 H1 v S1 r1 _ fun σ' S2 _ => F.nx _ _ B1 H1 p S2 s1⟩
theorem s_ret (h : EV X G e δ r δ1) (p : P (.rt r δ1)) : SV1 X W G (.Return (some e) pos) δ P := fun σ B H S E F =>
  ⟨_, ps_ret pe_cE, h σ B H S _ fun v B1 H1 S1 s1 r1 => F.rt r δ1 σ B1 H1 v p S1 s1 r1⟩
/-- return name, whose list or instance is one's own: it is handed over -/
theorem s_retM (g : Good X M N sc fb k) (i : Nat) {px : Pos} (hb : i ∉ G.bor.map (·.1)) (p : P (.rt r (δ.set i .un))) (hδ : δ[i]? = some r := by rfl) (hm : r.mu = true := by rfl) (hN : N[i]? = some x := by rfl) (hv : visB sc x = true := by rfl)
    (hd : (x == ("__debug__" : Str)) = false := by decide) (hc : (x == ("__classdict__" : Str)) = false := by decide) : SV1 X W G (.Return (some (.Name x px)) pos) δ P := fun σ B H S E F =>
  ⟨_, ps_ret (pe_slot g i hN hv hd hc), by
    obtain ⟨l, h1, h2, h3, h4⟩ := S.mu i r hδ hm
    have il : i < δ.length := (List.getElem?_eq_some_iff.mp hδ).1
    have n0 : G.H0 l = none := by
      rcases h4 with h4 | h4
      · exact h4
      · exact absurd (List.mem_map.mpr ⟨_, h4, rfl⟩) hb
    have f : forget δ (δ.set i .un) := forget_set δ i
    have S2 : Sat X.K G (δ.set i .un) σ B H := S.forget f fun j hj => List.getElem?_set_ne (fun z => hb (by rw [z]; exact hj))
    have F1 : Fresh G (δ.set i .un) σ B l := ⟨h2, n0, fun j s e m z => by
      by_cases w : i = j
      · subst w
        rw [List.getElem?_set_self il] at e; cases e; cases m
      · rw [List.getElem?_set_ne w] at e
        exact S.dis i j r s l w hδ hm e m h1 z⟩
    refine ⟨_, h1, F.rt r _ σ B H _ p S2 (Same.refl _) ?_⟩
    cases r with
    | un => cases hm
    | dat d => cases hm
    | own ds =>
      obtain ⟨vs, e, q⟩ := h3
      exact ⟨l, vs, rfl, e, q, F1⟩
    | obj C ns ds =>
      obtain ⟨dx, fs, e, q1, q2⟩ := h3
      exact ⟨l, dx, fs, rfl, e, q1, q2, F1⟩⟩
theorem s_retN (p : P (.rt (.dat .non) δ)) : SV1 X W G (.Return none pos) δ P := fun σ B H S E F => ⟨_, ps_retN, F.rt _ δ σ B H _ p S (Same.refl _) .non⟩
theorem s_expr (h : EV X G e δ r δ1) (p : P (.nx δ1)) (hs : swapsWith e none pos.line X.env = pure false := by rfl) : SV1 X W G (.Expr e pos) δ P := fun σ B H S E F =>
  ⟨_, ps_expr pe_cE hs, h σ B H S _ fun v B1 H1 S1 s1 r1 => F.nx _ _ B1 H1 p S1 s1⟩
theorem s_pass (p : P (.nx δ)) : SV1 X W G (.Pass pos) δ P := fun σ B H S E F => ⟨_, ps_pass, F.nx _ _ B H p S (Same.refl _)⟩
theorem s_break (p : P (.bk δ)) : SV1 X W G (.Break pos) δ P := fun σ B H S E F => ⟨_, ps_break, F.bk _ _ B H p S (Same.refl _)⟩
theorem s_cont (p : P (.ct δ)) : SV1 X W G (.Continue pos) δ P := fun σ B H S E F => ⟨_, ps_continue, F.ct _ _ B H p S (Same.refl _)⟩
theorem s_if (h : ET X G c δ b δ1) (h1 : b = true → SV X W G body δ1 P) (h2 : b = false → SV X W G orelse δ1 P) : SV1 X W G (.If c body orelse pos) δ P := fun σ B H S E F =>
  ⟨_, ps_if pt_cT pss_cB pss_cB, h σ B H S _ fun B1 H1 S1 s1 => by
    cases b with
    | true =>
      rw [if_pos rfl]
      exact h1 rfl σ B1 H1 S1 E (F.up s1)
    | false =>
      rw [if_neg Bool.false_ne_true]
      exact h2 rfl σ B1 H1 S1 E (F.up s1)⟩
/-- names.append(e) on one's own list -/
theorem s_app (g : Good X M N sc fb k) (i : Nat) {px pa pc : Pos} {e : Expr} (h : EV X G e δ (.dat d) δ1) (hz : ds.length < 100000) (p : P (.nx (δ1.set i (.own (ds ++ [d]))))) (h0 : ∃ ds0, δ[i]? = some (.own ds0)) (h1 : δ1[i]? = some (.own ds) := by rfl)
    (hN : N[i]? = some x := by rfl) (hv : visB sc x = true := by rfl) (hd : (x == ("__debug__" : Str)) = false := by decide) (hc : (x == ("__classdict__" : Str)) = false := by decide)
    (hst : starEach [e] X.env = (false, eval e X.env) :: starEach [] X.env := by rfl)
    (hfw : ((backTo pc (starEach [e] X.env)).all (fun x => !x.1) && (backToKw pc (keywordEach [] X.env)).all (fun x => x.1.isSome) && decide ([e].length + ([] : List Keyword).length + (if ([] : List Keyword).isEmpty then 0 else 1) < 30)) = true := by rfl) (hln : (pa.endLine == pc.line) = true := by rfl)
    (hs : swapsWith (.Call (.Attribute (.Name x px) "append" pa) [e] [] pc) none pos.line X.env = pure false := by rfl) : SV1 X W G (.Expr (.Call (.Attribute (.Name x px) "append" pa) [e] [] pc) pos) δ P := fun σ B H S E F =>
  ⟨_, ps_expr (pe_bm PySem.F.plainAttrs_list PySem.F.slot_list_append PySem.F.type_list_append mt_append (pe_slot g i hN hv hd hc) (pa_cons pe_cE pa_nil hst) rfl hfw hln hst rfl) hs, by
    obtain ⟨ds0, h0⟩ := h0
    obtain ⟨l, p1, p2, ⟨vs0, p3, p4⟩, _⟩ := S.mu i _ h0 rfl
    refine ⟨_, p1, .inl ⟨rfl, vs0, .of p3⟩, h σ B H S _ fun v B1 H1 S1 s1 r1 => ?_⟩
    obtain ⟨l', q1, q2, ⟨vs, q3, q4⟩, _⟩ := S1.mu i _ h1 rfl
    rw [p1] at q1
    have el : l = l' := by injection q1 with q1; injection q1 with q1; injection q1
    subst el
    refine ⟨l, vs, v, rfl, rfl, q3, Nat.lt_of_lt_of_le (by rw [q4.length]; exact hz) (by decide : 100000 ≤ sizeLine), ?_⟩
    exact F.nx _ _ B1 _ p (S1.write (t := .own (ds ++ [d])) h1 rfl p1 rfl ⟨_, upd_same, q4.append (.one r1)⟩) s1⟩
/-- names[i] = e on one's own list -/
theorem s_setI (g : Good X M N sc fb k) (i : Nat) {px ps : Pos} {e ix : Expr} {j : Int} {n : Nat} (h : EV X G e δ (.dat d) δ1) (hi : EV X G ix δ1 (.dat (.int j)) δ2) (hj : ixN ds.length j = some n) (p : P (.nx (δ2.set i (.own (ds.set n d))))) (h0 : ∃ ds0, δ1[i]? = some (.own ds0)) (h1 : δ2[i]? = some (.own ds) := by rfl)
    (hN : N[i]? = some x := by rfl) (hv : visB sc x = true := by rfl) (hd : (x == ("__debug__" : Str)) = false := by decide) (hc : (x == ("__classdict__" : Str)) = false := by decide)
    (hs : swapsWithSole [.Subscript (.Name x px) ix ps] e pos.line X.env = pure false := by rfl) (hw : swappedStores [.Subscript (.Name x px) ix ps] e X.env = pure none := by rfl)
    (ha : ∀ v, assign (.Subscript (.Name x px) ix ps) X.env v = (do
      let ov ← holding [v] (eval (.Name x px) X.env)
      let iv ← holding [v, ov] (eval ix X.env)
      standAt ps
      holding [v, ov, iv] (setItem ov iv v)
      release [v, ov, iv] []) := by intro _; rfl)
    (he : (assignEach [.Subscript (.Name x px) ix ps] X.env).map (·.2) = [assign (.Subscript (.Name x px) ix ps) X.env] := by rfl) : SV1 X W G (.Assign [.Subscript (.Name x px) ix ps] e pos) δ P := fun σ B H S E F =>
  ⟨_, ps_asg pe_cE (pg_sub (pe_slot g i hN hv hd hc) pe_cE set_list ha) hs hw he, h σ B H S _ fun v B1 H1 S1 s1 r1 => by
    obtain ⟨ds0, h0⟩ := h0
    obtain ⟨l, p1, p2, _, _⟩ := S1.mu i _ h0 rfl
    refine ⟨_, p1, hi σ B1 H1 S1 _ fun w B2 H2 S2 s2 r2 => ?_⟩
    cases int_of r2
    obtain ⟨l', q1, q2, ⟨vs, q3, q4⟩, _⟩ := S2.mu i _ h1 rfl
    rw [p1] at q1
    have el : l = l' := by injection q1 with q1; injection q1 with q1; injection q1
    subst el
    refine ⟨l, vs, j, n, rfl, rfl, q3, by rw [q4.length]; exact hj, ?_⟩
    exact F.nx _ _ B2 _ p (S2.write (t := .own (ds.set n d)) h1 rfl p1 rfl ⟨_, upd_same, q4.set (Rep.up r1 s2) n⟩) (s1.trans s2)⟩
/-- for .. in ..: I is what holds behind i turns -/
theorem s_for (g : Good X M N sc fb k) (hi : EI X G tg it δ ds δ1) (I : Nat → List Slot → Prop) (h0 : I 0 δ1)
    (hs : ∀ (i : Nat) d δi, ds[i]? = some d → I i δi → ∃ δt js, AG X G tg d δi δt js ∧ SV X W G body δt (LoopP (I (i + 1)) P)) (hd : ∀ δ', I ds.length δ' → P (.nx δ'))
    (hf : ∀ x, foldedSetIterable it X.env x = pure x := by intro _; rfl) : SV1 X W G (.For tg it body [] pos) δ P := fun σ B H S E F =>
  ⟨_, ps_for g.po g.calm pi_cI pg_cG pss_cB hf, hi σ B H S _ fun J B1 H1 S1 s1 sv => by
    refine ⟨fun i m σ' H' => m = ds.length - i ∧ i ≤ ds.length ∧ ∃ δi B', I i δi ∧ Sat X.K G δi σ' B' H' ∧ Same B1 B', ⟨ds.length, by simp, Nat.zero_le _, δ1, B1, h0, S1, Same.refl _⟩, ?_⟩
    rintro i m σ' H' ⟨rfl, hl, δi, B', inv, S', s'⟩
    obtain ⟨go, stop⟩ := sv i G δi σ' B' H' S' s'
    by_cases hlt : i < ds.length
    · obtain ⟨g1, g2⟩ := go ds[i] (by simp [hlt])
      refine .inr ⟨g1, fun σ2 H2 => ∃ δi B2, I (i + 1) δi ∧ Sat X.K G δi σ2 B2 H2 ∧ Same B1 B2, fun σ2 H2 ⟨δ2, B2, a, b, c⟩ => ⟨ds.length - (i + 1), by omega, rfl, hlt, δ2, B2, a, b, c⟩, fun x H2 y => ?_⟩
      obtain ⟨B2, S2, s2, r2, _⟩ := g2 x H2 y
      obtain ⟨δt, js, ag, svb⟩ := hs i ds[i] δi (by simp [hlt]) inv
      refine ag σ' B2 H2 x S2 r2 _ fun σ3 S3 _ => svb σ3 B2 H2 S3 _ ⟨fun δ4 σ4 B4 H4 p S4 e => ⟨δ4, B4, p, S4, (s'.trans s2).trans e⟩, fun r δ4 σ4 B4 H4 v p S4 e => F.rt r δ4 σ4 B4 H4 v p S4 (((s1.trans s').trans s2).trans e),
        fun δ4 σ4 B4 H4 p S4 e => F.nx δ4 σ4 B4 H4 p S4 (((s1.trans s').trans s2).trans e), fun δ4 σ4 B4 H4 p S4 e => ⟨δ4, B4, p, S4, (s'.trans s2).trans e⟩, fun C ns ds δ4 σ4 B4 H4 d p S4 e => F.ex C ns ds δ4 σ4 B4 H4 d p S4 (((s1.trans s').trans s2).trans e)⟩
    · exact .inl ⟨stop (by omega), F.nx δi σ' B' H' (hd δi (by rw [show ds.length = i from by omega]; exact inv)) S' (s1.trans s')⟩⟩
/-- while ..: I holds at each test, with a measure -/
theorem s_while (g : Good X M N sc fb k) (I : Nat → List Slot → Prop) (m0 : Nat) (h0 : I m0 δ)
    (hs : ∀ m δi, I m δi → ∃ b δt, ET X G c δi b δt ∧ (b = true → SV X W G body δt (LoopP (fun δ' => ∃ m', m' < m ∧ I m' δ') P)) ∧ (b = false → P (.nx δt))) : SV1 X W G (.While c body [] pos) δ P := fun σ B H S E F =>
  ⟨_, ps_while g.po pt_cT pss_cB, by
    refine ⟨fun m σ' H' => ∃ δi B', I m δi ∧ Sat X.K G δi σ' B' H' ∧ Same B B', ⟨m0, δ, B, h0, S, Same.refl _⟩, ?_⟩
    rintro m σ' H' ⟨δi, B', inv, S', s'⟩
    obtain ⟨b, δt, et, h1, h2⟩ := hs m δi inv
    refine et σ' B' H' S' _ fun B2 H2 S2 s2 => ?_
    cases b with
    | true =>
      rw [if_pos rfl]
      refine ⟨fun σ4 H4 => ∃ m', m' < m ∧ ∃ δ4 B4, I m' δ4 ∧ Sat X.K G δ4 σ4 B4 H4 ∧ Same B B4, fun σ4 H4 ⟨m', l, δ4, B4, a, b, c⟩ => ⟨m', l, δ4, B4, a, b, c⟩, ?_⟩
      exact h1 rfl σ' B2 H2 S2 _ ⟨fun δ4 σ4 B4 H4 ⟨m', l, p⟩ S4 e => ⟨m', l, δ4, B4, p, S4, (s'.trans s2).trans e⟩, fun r δ4 σ4 B4 H4 v p S4 e => F.rt r δ4 σ4 B4 H4 v p S4 ((s'.trans s2).trans e),
        fun δ4 σ4 B4 H4 p S4 e => F.nx δ4 σ4 B4 H4 p S4 ((s'.trans s2).trans e), fun δ4 σ4 B4 H4 ⟨m', l, p⟩ S4 e => ⟨m', l, δ4, B4, p, S4, (s'.trans s2).trans e⟩, fun C ns ds δ4 σ4 B4 H4 d p S4 e => F.ex C ns ds δ4 σ4 B4 H4 d p S4 ((s'.trans s2).trans e)⟩
    | false =>
      rw [if_neg Bool.false_ne_true]
      exact F.nx δt σ' B2 H2 (h2 rfl) S2 (s'.trans s2)⟩
end
end DL

namespace DL
open PySem L2

/-! ### what a def promises, over data -/
/-- how a call ends: what it hands back, or an exception of the class at C with its fields; os: what the lent things then are -/
inductive Res where
  | ret (r : Slot) (os : List Slot)
  | exc (C : Addr) (ns : List Str) (ds : List D) (os : List Slot)
abbrev PSpec := List Slot → Res → Prop
structure Start (K : PySem.W.Frag) (B H : Hp) (as : List Slot) (vs : List V) : Prop where
  sb : Same B H
  len : vs.length = as.length
  dat : ∀ (i : Nat) d, as[i]? = some (.dat d) → ∃ v, vs[i]? = some v ∧ Rep K B v d
  mu : ∀ (i : Nat) s, as[i]? = some s → s.mu = true → ∃ l, vs[i]? = some (.ref l) ∧ B l = none ∧ Mu K B H l s
  dis : ∀ (i j : Nat) s t l, i ≠ j → as[i]? = some s → s.mu = true → as[j]? = some t → t.mu = true → vs[i]? = some (.ref l) → vs[j]? = some (.ref l) → False
structure Post (K : PySem.W.Frag) (B H : Hp) (as : List Slot) (vs : List V) (os : List Slot) (B' H' : Hp) : Prop where
  b : Same B B'
  bh : Same B' H'
  fr : ∀ a o, H a = some o → (∀ (i : Nat) s, as[i]? = some s → s.mu = true → vs[i]? ≠ some (.ref a)) → H' a = some o
  nb : ∀ a o, H a = some o → B' a = B a
  mu : ∀ (i : Nat) s, as[i]? = some s → s.mu = true → ∃ t l, os[i]? = some t ∧ t.mu = true ∧ vs[i]? = some (.ref l) ∧ Mu K B' H' l t
def RetR (K : PySem.W.Frag) (B' H H' : Hp) (v : V) : Slot → Prop
  | .un => True
  | .dat d => Rep K B' v d
  | .own ds => ∃ l vs, v = .ref l ∧ H' l = some (.lst vs) ∧ RepL K B' vs ds ∧ B' l = none ∧ H l = none
  | .obj C ns ds => ∃ l dx fs, v = .ref l ∧ H' l = some (.ins C dx fs) ∧ fs.map (·.1) = ns ∧ RepL K B' (fs.map (·.2)) ds ∧ B' l = none ∧ H l = none
def spOf (K : PySem.W.Frag) (S : PSpec) : Sp := fun vs H Q E => ∃ B as res, S as res ∧ Start K B H as vs ∧ match res with
  | .ret r os => ∀ v B' H', Post K B H as vs os B' H' → RetR K B' H H' v r → Q v H'
  | .exc C ns ds os => ∀ d B' H', Post K B H as vs os B' H' → ExcR K B' H' d ns ds → E (.ref C) d H'
/-- the module's name x is a def that keeps S, by at most j calls one in another; CX: which exceptions may leave it -/
structure Fn (M : Md) (CX : CXT) (x : Str) (j : Nat) (S : PSpec) : Prop where
  ex : ∃ (f : Addr) (fd : FuncData) (ps : List Str), FnOk M.P M.w M.K M.mg M.base CX j f fd ps (spOf M.K S) ∧ M.mg x = some (.ref f) ∧ PySem.W.keepIn M.K (.ref f) = true ∧ Binds M.K fd ps []
  px : ∀ X : Cx, X.prog = M.P → X.w = M.w → Passes CX X E0
theorem Fn.mono {M : Md} {CX : CXT} {x : Str} {j j' : Nat} {S : PSpec} (F : Fn M CX x j S) (h : j ≤ j') : Fn M CX x j' S := by
  obtain ⟨f, fd, ps, a, b⟩ := F.ex
  exact ⟨⟨f, fd, ps, a.mono h, b⟩, F.px⟩
theorem Fn.mk0 {M : Md} {x : Str} {j : Nat} {S : PSpec} {f : Addr} {fd : FuncData} {ps : List Str} (a : FnOk M.P M.w M.K M.mg M.base CX0 j f fd ps (spOf M.K S)) (b : M.mg x = some (.ref f)) (c : PySem.W.keepIn M.K (.ref f) = true) (d : Binds M.K fd ps []) : Fn M CX0 x j S := ⟨⟨f, fd, ps, a, b, c, d⟩, fun _ _ _ => pass0⟩
theorem Fn.mkX {M : Md} {x : Str} {j : Nat} {S : PSpec} {f : Addr} {fd : FuncData} {ps : List Str} (a : FnOk M.P M.w M.K M.mg M.base (L2.CX M.P M.w) j f fd ps (spOf M.K S)) (b : M.mg x = some (.ref f)) (c : PySem.W.keepIn M.K (.ref f) = true) (d : Binds M.K fd ps []) : Fn M (L2.CX M.P M.w) x j S := ⟨⟨f, fd, ps, a, b, c, d⟩, fun X h1 h2 => by rw [← h1, ← h2]; exact passL⟩

/-! ### a row of arguments, some of them lent -/
inductive Arg where
  | val (d : D)
  | bor (n : Nat)
def ArgR (K : PySem.W.Frag) (B : Hp) (σ : St) (v : V) : Arg → Prop
  | .val d => Rep K B v d
  | .bor n => σ[n]? = some (some v)
inductive ArgsR (K : PySem.W.Frag) (B : Hp) (σ : St) : List V → List Arg → Prop
  | nil : ArgsR K B σ [] []
  | cons {v : V} {vs : List V} {a : Arg} {as : List Arg} : ArgR K B σ v a → ArgsR K B σ vs as → ArgsR K B σ (v :: vs) (a :: as)
def EL (X : Cx) (G : Ent) (es : List Expr) (δ : List Slot) (as : List Arg) (δ' : List Slot) : Prop :=
  ∀ σ B H, Sat X.K G δ σ B H → ∀ Q : List V → Hp → Prop, (∀ vs B' H', Sat X.K G δ' σ B' H' → Same B B' → ArgsR X.K B' σ vs as → Q vs H') → cA X es σ H Q
theorem ArgsR.of {K : PySem.W.Frag} {B : Hp} {σ : St} : ∀ {ds : List D} {vs : List V}, RepL K B vs ds → ArgsR K B σ vs (ds.map .val)
  | [], _, h => by cases h; exact .nil
  | d :: ds, _, h => by
    cases h with
    | cons a b => exact .cons a (ArgsR.of b)
theorem ArgsR.len {K : PySem.W.Frag} {B : Hp} {σ : St} : ∀ {as : List Arg} {vs : List V}, ArgsR K B σ vs as → vs.length = as.length
  | [], _, h => by cases h; rfl
  | a :: as, _, h => by
    cases h with
    | cons a b => show _ + 1 = _ + 1; rw [ArgsR.len b]
theorem ArgsR.get {K : PySem.W.Frag} {B : Hp} {σ : St} : ∀ {as : List Arg} {vs : List V} {i : Nat} {a : Arg}, ArgsR K B σ vs as → as[i]? = some a → ∃ v, vs[i]? = some v ∧ ArgR K B σ v a
  | [], _, i, a, h, e => by simp at e
  | x :: as, _, 0, a, h, e => by
    cases h with
    | cons p q =>
      have e' := Option.some.inj e
      subst e'
      exact ⟨_, rfl, p⟩
  | x :: as, _, i + 1, a, h, e => by
    cases h with
    | cons p q =>
      obtain ⟨v, h1, h2⟩ := ArgsR.get (i := i) q (by simpa using e)
      exact ⟨v, by simpa using h1, h2⟩
theorem EL.of {X : Cx} {G : Ent} {es : List Expr} {δ δ1 : List Slot} {ds : List D} (h : EA X G es δ ds δ1) : EL X G es δ (ds.map .val) δ1 := fun σ B H S Q q => h σ B H S Q fun vs B' H' S' s r => q vs B' H' S' s (.of r)
/-- the slots that a call sees -/
def seen (δ : List Slot) : Arg → Slot
  | .val d => .dat d
  | .bor n => δ[n]?.getD .un
section
variable {X : Cx} {W : WX} {G : Ent} {M : Md} {N : List Str} {sc : Scope} {fb : Str → Bool} {k j : Nat} {δ δ1 δ2 : List Slot} {pos p : Pos} {d : D} {ds : List D} {e : Expr} {es : List Expr} {x y : Str} {r : Slot} {os : List Slot} {S : PSpec} {as : List Arg} {CX : CXT}
theorem el_nil : EL X G [] δ [] δ := fun σ B H S Q q => ⟨_, pa_nil, q [] B H S (Same.refl _) .nil⟩
theorem ArgsR.up {K : PySem.W.Frag} {B B' : Hp} {σ : St} (e : Same B B') : ∀ {as : List Arg} {vs : List V}, ArgsR K B σ vs as → ArgsR K B' σ vs as
  | [], _, h => by cases h; exact .nil
  | a :: as, _, h => by
    cases h with
    | cons p q =>
      refine .cons ?_ (ArgsR.up e q)
      cases a with
      | val d => exact Rep.up p e
      | bor n => exact p
theorem el_cons (h : EV X G e δ (.dat d) δ1) (hr : EL X G es δ1 as δ2) (hs : starEach (e :: es) X.env = (false, eval e X.env) :: starEach es X.env := by rfl) : EL X G (e :: es) δ (.val d :: as) δ2 := fun σ B H S Q q =>
  ⟨_, pa_cons pe_cE pa_cA hs, h σ B H S _ fun v B1 H1 S1 s1 r1 => hr σ B1 H1 S1 _ fun vs B2 H2 S2 s2 r2 => q _ B2 H2 S2 (s1.trans s2) (.cons (Rep.up r1 s2) r2)⟩
/-- a name whose list or instance is lent to the callee -/
theorem el_bor (g : Good X M N sc fb k) (n : Nat) (hr : EL X G es δ as δ2) {s : Slot} (h0 : δ[n]? = some s := by rfl) (hm : s.mu = true := by rfl) (hN : N[n]? = some x := by rfl) (hv : visB sc x = true := by rfl) (hd : (x == ("__debug__" : Str)) = false := by decide) (hc : (x == ("__classdict__" : Str)) = false := by decide)
    (hs : starEach (.Name x p :: es) X.env = (false, eval (.Name x p) X.env) :: starEach es X.env := by rfl) : EL X G (.Name x p :: es) δ (.bor n :: as) δ2 := fun σ B H S Q q =>
  ⟨_, pa_cons (pe_slot g n hN hv hd hc) pa_cA hs, by
    obtain ⟨l, h1, _⟩ := S.mu n s h0 hm
    exact ⟨_, h1, hr σ B H S _ fun vs B2 H2 S2 s2 r2 => q _ B2 H2 S2 s2 (.cons h1 r2)⟩⟩

/-- what a call leaves -/
theorem sat_post {K : PySem.W.Frag} {σ : St} {B H B' H' : Hp} {vs : List V} (S : Sat K G δ1 σ B H) (ra : ArgsR K B σ vs as) (po : Post K B H (as.map (seen δ1)) vs os B' H')
    (hb : ∀ n, Arg.bor n ∈ as → ∃ s, δ1[n]? = some s ∧ s.mu = true) (hl : δ2.length = δ1.length) (h1 : ∀ n, Arg.bor n ∉ as → δ2[n]? = δ1[n]?) (h2 : ∀ (i n : Nat), as[i]? = some (.bor n) → δ2[n]? = os[i]?) : Sat K G δ2 σ B' H' := by
  -- the lent slots
  have lent : ∀ (i n : Nat), as[i]? = some (.bor n) → ∃ s l, δ1[n]? = some s ∧ s.mu = true ∧ σ[n]? = some (some (.ref l)) ∧ vs[i]? = some (.ref l) ∧ B l = none ∧ Mu K B H l s ∧ (G.H0 l = none ∨ (n, l) ∈ G.bor) := fun i n e => by
    obtain ⟨s, q1, q2⟩ := hb n (List.mem_of_getElem? e)
    obtain ⟨l, p1, p2, p3, p4⟩ := S.mu n s q1 q2
    obtain ⟨v, z1, z2⟩ := ra.get e
    have z3 : σ[n]? = some (some v) := z2
    rw [p1] at z3
    have z4 : V.ref l = v := by injection z3 with z3; injection z3
    exact ⟨s, l, q1, q2, p1, by rw [z1, ← z4], p2, p3, p4⟩
  have seenAt : ∀ (i n : Nat) s, as[i]? = some (.bor n) → δ1[n]? = some s → (as.map (seen δ1))[i]? = some s := fun i n s e q => by
    rw [List.getElem?_map, e]
    show some (δ1[n]?.getD .un) = some s
    rw [q]; rfl
  have muSeen : ∀ (i : Nat) s, (as.map (seen δ1))[i]? = some s → s.mu = true → ∃ n, as[i]? = some (.bor n) ∧ δ1[n]? = some s := fun i s e m => by
    rw [List.getElem?_map] at e
    cases q : as[i]? with
    | none => rw [q] at e; cases e
    | some a =>
      rw [q] at e
      have e' : seen δ1 a = s := Option.some.inj e
      cases a with
      | val d => subst e'; cases m
      | bor n =>
        obtain ⟨s', z1, z2⟩ := hb n (List.mem_of_getElem? q)
        refine ⟨n, rfl, ?_⟩
        have : δ1[n]?.getD .un = s := e'
        rw [z1] at this
        rw [z1]; exact congrArg some this
  -- addresses of slots that are not lent
  have keep : ∀ (n : Nat) s l, δ1[n]? = some s → s.mu = true → σ[n]? = some (some (.ref l)) → Arg.bor n ∉ as → ∀ (i : Nat) t, (as.map (seen δ1))[i]? = some t → t.mu = true → vs[i]? ≠ some (.ref l) := fun n s l q m hl hn i t e mt z => by
    obtain ⟨n', z1, z2⟩ := muSeen i t e mt
    obtain ⟨s', l', y1, y2, y3, y4, _⟩ := lent i n' z1
    rw [z] at y4
    have el : l = l' := by injection y4 with y4; injection y4
    subst el
    by_cases w : n = n'
    · subst w; exact hn (List.mem_of_getElem? z1)
    · exact S.dis n n' s s' l w q m y1 y2 hl y3
  have muOf : ∀ (n : Nat) s, δ2[n]? = some s → s.mu = true → ∃ s1 l, δ1[n]? = some s1 ∧ s1.mu = true ∧ σ[n]? = some (some (.ref l)) ∧ B l = none ∧ Mu K B' H' l s ∧ (G.H0 l = none ∨ (n, l) ∈ G.bor) := fun n s e m => by
    by_cases w : Arg.bor n ∈ as
    · obtain ⟨i, hi⟩ := List.mem_iff_getElem?.mp w
      obtain ⟨s1, l, y1, y2, y3, y4, y5, y6, y7⟩ := lent i n hi
      obtain ⟨t, l', z1, z2, z3, z4⟩ := po.mu i s1 (seenAt i n s1 hi y1) y2
      rw [y4] at z3
      have el : l = l' := by injection z3 with z3; injection z3
      subst el
      rw [h2 i n hi, z1] at e
      have e' := Option.some.inj e
      subst e'
      exact ⟨s1, l, y1, y2, y3, y5, z4, y7⟩
    · rw [h1 n w] at e
      obtain ⟨l, y1, y2, y3, y4⟩ := S.mu n s e m
      refine ⟨s, l, e, m, y1, y2, Mu.up y3 po.b fun o ho => po.fr l o ho (keep n s l e m y1 w), y4⟩
  refine ⟨po.bh, S.b0.trans po.b, fun a o e h => ?_, fun a o e => ?_, S.len.trans hl.symm, fun n d e => ?_, fun n s e m => ?_, fun n n2 s t l ne e m e2 m2 q q2 => ?_, fun q hq => ?_⟩
  · refine po.fr a o (S.fr a o e h) fun i s z m w => ?_
    obtain ⟨n, z1, z2⟩ := muSeen i s z m
    obtain ⟨s', l', y1, y2, y3, y4, y5, y6, y7⟩ := lent i n z1
    rw [w] at y4
    have el : a = l' := by injection y4 with y4; injection y4
    subst el
    rcases y7 with y7 | y7
    · rw [y7] at e; cases e
    · exact h (List.mem_map.mpr ⟨_, y7, rfl⟩)
  · obtain ⟨o', q⟩ := S.alive e
    rw [po.nb a o' q]; exact S.nb a o e
  · by_cases w : Arg.bor n ∈ as
    · obtain ⟨i, hi⟩ := List.mem_iff_getElem?.mp w
      obtain ⟨s1, l, y1, y2, _⟩ := lent i n hi
      obtain ⟨t, l', z1, z2, _⟩ := po.mu i s1 (seenAt i n s1 hi y1) y2
      rw [h2 i n hi, z1] at e
      cases e; cases z2
    · rw [h1 n w] at e
      obtain ⟨v, q, r⟩ := S.dat n d e
      exact ⟨v, q, r.up po.b⟩
  · obtain ⟨s1, l, y1, y2, y3, y4, y5, y6⟩ := muOf n s e m
    refine ⟨l, y3, ?_, y5, y6⟩
    obtain ⟨_, _, _, y7, _⟩ := S.mu n s1 y1 y2
    obtain ⟨l0, p1, _, p3, _⟩ := S.mu n s1 y1 y2
    rw [y3] at p1
    have el : l = l0 := by injection p1 with p1; injection p1 with p1; injection p1
    subst el
    obtain ⟨o, po'⟩ := Mu.ex p3 y2
    rw [po.nb l o po']; exact y4
  · obtain ⟨s1, l1, y1, y2, y3, _⟩ := muOf n s e m
    obtain ⟨s2, l2, z1, z2, z3, _⟩ := muOf n2 t e2 m2
    exact S.dis n n2 s1 s2 l ne y1 y2 z1 z2 q q2
  · obtain ⟨p1, s, p2, p3⟩ := S.bor q hq
    refine ⟨p1, ?_⟩
    by_cases w : Arg.bor q.1 ∈ as
    · obtain ⟨i, hi⟩ := List.mem_iff_getElem?.mp w
      obtain ⟨s1, l, y1, y2, _⟩ := lent i q.1 hi
      obtain ⟨t, l', z1, z2, _⟩ := po.mu i s1 (seenAt i q.1 s1 hi y1) y2
      exact ⟨t, by rw [h2 i q.1 hi]; exact z1, z2⟩
    · exact ⟨s, by rw [h1 q.1 w]; exact p2, p3⟩
theorem start_of {K : PySem.W.Frag} {σ : St} {B H : Hp} {vs : List V} (S : Sat K G δ1 σ B H) (ra : ArgsR K B σ vs as) (hb : ∀ n, Arg.bor n ∈ as → ∃ s, δ1[n]? = some s ∧ s.mu = true)
    (nd : ∀ (i j n : Nat), as[i]? = some (.bor n) → as[j]? = some (.bor n) → i = j) : Start K B H (as.map (seen δ1)) vs := by
  have at_ : ∀ (i : Nat) s, (as.map (seen δ1))[i]? = some s → ∃ a, as[i]? = some a ∧ seen δ1 a = s := fun i s e => by
    rw [List.getElem?_map] at e
    cases q : as[i]? with
    | none => rw [q] at e; cases e
    | some a => rw [q] at e; exact ⟨a, rfl, Option.some.inj e⟩
  have mu_ : ∀ (i : Nat) s, (as.map (seen δ1))[i]? = some s → s.mu = true → ∃ n l, as[i]? = some (.bor n) ∧ δ1[n]? = some s ∧ σ[n]? = some (some (.ref l)) ∧ vs[i]? = some (.ref l) ∧ B l = none ∧ Mu K B H l s := fun i s e m => by
    obtain ⟨a, q, z⟩ := at_ i s e
    cases a with
    | val d => subst z; cases m
    | bor n =>
      obtain ⟨s', y1, y2⟩ := hb n (List.mem_of_getElem? q)
      have z' : δ1[n]?.getD .un = s := z
      rw [y1] at z'
      have z'' : s' = s := z'
      subst z''
      obtain ⟨l, p1, p2, p3, _⟩ := S.mu n s' y1 y2
      obtain ⟨v, w1, w2⟩ := ra.get q
      have w3 : σ[n]? = some (some v) := w2
      rw [p1] at w3
      have w4 : V.ref l = v := by injection w3 with w3; injection w3
      exact ⟨n, l, q, y1, p1, by rw [w1, ← w4], p2, p3⟩
  refine ⟨S.hb, by rw [List.length_map]; exact ra.len, fun i d e => ?_, fun i s e m => ?_, fun i j s t l ne e m e2 m2 q q2 => ?_⟩
  · obtain ⟨a, q, z⟩ := at_ i _ e
    cases a with
    | val d' =>
      cases z
      obtain ⟨v, w1, w2⟩ := ra.get q
      exact ⟨v, w1, w2⟩
    | bor n =>
      obtain ⟨s', y1, y2⟩ := hb n (List.mem_of_getElem? q)
      have z' : δ1[n]?.getD .un = .dat d := z
      rw [y1] at z'
      have z'' : s' = .dat d := z'
      subst z''; cases y2
  · obtain ⟨n, l, _, _, _, a, b, c⟩ := mu_ i s e m
    exact ⟨l, a, b, c⟩
  · obtain ⟨n, l1, a1, a2, a3, a4, _⟩ := mu_ i s e m
    obtain ⟨n2, l2, b1, b2, b3, b4, _⟩ := mu_ j t e2 m2
    rw [q] at a4; rw [q2] at b4
    have e1 : l = l1 := by injection a4 with a4; injection a4
    have e2' : l = l2 := by injection b4 with b4; injection b4
    subst e1; subst e2'
    by_cases w : n = n2
    · subst w; exact ne (nd i j n a1 b1)
    · exact S.dis n n2 s t l w a2 m b2 m2 a3 b3
theorem ret_of {K : PySem.W.Frag} {σ : St} {B H B' H' : Hp} {v : V} (S : Sat K G δ1 σ B H) (S2 : Sat K G δ2 σ B' H') (hm : ∀ (n : Nat) s, δ2[n]? = some s → s.mu = true → ∃ s1, δ1[n]? = some s1 ∧ s1.mu = true) (r1 : RetR K B' H H' v r) : ResR K G δ2 σ B' H' v r := by
  have fr : ∀ l, H l = none → B' l = none → Fresh G δ2 σ B' l := fun l h b => ⟨b, S.h0 h, fun n s e m z => by
    obtain ⟨s1, q1, q2⟩ := hm n s e m
    exact (S.fresh h).ap n s1 q1 q2 z⟩
  cases r with
  | un => trivial
  | dat d => exact r1
  | own ds =>
    obtain ⟨l, vs, a, b, c, d, e⟩ := r1
    exact ⟨l, vs, a, b, c, fr l e d⟩
  | obj C ns ds =>
    obtain ⟨l, dx, fs, a, b, c, d, e, f⟩ := r1
    exact ⟨l, dx, fs, a, b, c, d, fr l f e⟩
/-- f(e, ..), the arguments data, some of them lent -/
theorem ev_callL (g : Good X M N sc fb k) (c : Fn M CX x j S) (hj : j ≤ k) (ha : EL X G (e :: es) δ as δ1) (hs : S (as.map (seen δ1)) (.ret r os))
    (hb : ∀ n, Arg.bor n ∈ as → ∃ s, δ1[n]? = some s ∧ s.mu = true) (nd : ∀ (i j n : Nat), as[i]? = some (.bor n) → as[j]? = some (.bor n) → i = j)
    (hl : δ2.length = δ1.length) (h1 : ∀ n, Arg.bor n ∉ as → δ2[n]? = δ1[n]?) (h2 : ∀ (i n : Nat), as[i]? = some (.bor n) → δ2[n]? = os[i]?)
    (hg : sc.names.lookup x = some .globalImplicit := by rfl) (hdb : (x == ("__debug__" : Str)) = false := by decide)
    (he : starEach (e :: es) X.env = (false, eval e X.env) :: starEach es X.env := by rfl) (hpl : (backTo pos (starEach es X.env)).any (·.1) = false := by rfl) : EV X G (.Call (.Name x p) (e :: es) [] pos) δ r δ2 := fun σ B H S0 Q q => by
  obtain ⟨f, fd, ps, F, m1, m2, m3⟩ := c.ex
  have F' : FnOk X.prog X.w X.K X.mg X.base CX j f fd ps (spOf X.K S) := by rw [g.P, g.w, g.K, g.mg, g.base]; exact F
  refine ⟨_, pe_call (E := E0) F' (g.room.mono hj) (gl_of g hg) (mn_of g m1) (by rw [g.K]; exact m2) (by rw [g.K]; exact m3) .nil (c.px X g.P g.w) pa_cA hdb he hpl, ha σ B H S0 _ fun vs B1 H1 S1 s1 r1 => ?_⟩
  show spOf X.K S (vs ++ []) H1 Q E0
  rw [List.append_nil]
  refine ⟨B1, _, _, hs, start_of S1 r1 hb nd, fun v B' H' po rr => ?_⟩
  have S2 := sat_post S1 r1 po hb hl h1 h2
  refine q v B' H' S2 (s1.trans po.b) (ret_of S1 S2 (fun n s e m => ?_) rr)
  by_cases w : Arg.bor n ∈ as
  · exact hb n w
  · rw [h1 n w] at e; exact ⟨s, e, m⟩
/-- f(e, ..), the arguments data -/
theorem ev_call (g : Good X M N sc fb k) (c : Fn M CX x j S) (hj : j ≤ k) (ha : EA X G (e :: es) δ ds δ1) (hs : S (ds.map .dat) (.ret r os))
    (hg : sc.names.lookup x = some .globalImplicit := by rfl) (hdb : (x == ("__debug__" : Str)) = false := by decide)
    (he : starEach (e :: es) X.env = (false, eval e X.env) :: starEach es X.env := by rfl) (hpl : (backTo pos (starEach es X.env)).any (·.1) = false := by rfl) : EV X G (.Call (.Name x p) (e :: es) [] pos) δ r δ1 := by
  have nb : ∀ n, Arg.bor n ∉ ds.map Arg.val := fun n h => by
    obtain ⟨d, _, e⟩ := List.mem_map.mp h
    cases e
  have ng : ∀ (i n : Nat), (ds.map Arg.val)[i]? ≠ some (.bor n) := fun i n h => nb n (List.mem_of_getElem? h)
  refine ev_callL (os := os) g c hj (EL.of ha) ?_ (fun n h => absurd h (nb n)) (fun i j n h => absurd h (ng i n)) rfl (fun _ _ => rfl) (fun i n h => absurd h (ng i n)) hg hdb he hpl
  rw [List.map_map]
  exact hs
end

/-! ### a def's body keeps its promise -/
def muIdx : List Slot → Nat → List Nat
  | [], _ => []
  | s :: as, n => (if s.mu = true then [n] else []) ++ muIdx as (n + 1)
def bor1 (s : Slot) (n : Nat) : V → List (Nat × Addr)
  | .ref l => if s.mu = true then [(n, l)] else []
  | _ => []
theorem mem_bor1 {s : Slot} {n m : Nat} {v : V} {l : Addr} : (m, l) ∈ bor1 s n v ↔ m = n ∧ s.mu = true ∧ v = .ref l := by
  cases v <;> simp only [bor1, List.not_mem_nil, reduceCtorEq, and_false]
  split
  · rename_i h
    simp only [List.mem_singleton, Prod.mk.injEq, h, true_and, V.ref.injEq]
    exact ⟨fun ⟨a, b⟩ => ⟨a, b.symm⟩, fun ⟨a, b⟩ => ⟨a, b.symm⟩⟩
  · rename_i h
    simp [h]
def borOf : List Slot → List V → Nat → List (Nat × Addr)
  | s :: as, v :: vs, n => bor1 s n v ++ borOf as vs (n + 1)
  | _, _, _ => []
theorem mem_borOf : ∀ {as : List Slot} {vs : List V} {n m : Nat} {l : Addr}, (m, l) ∈ borOf as vs n ↔ ∃ i s, m = n + i ∧ as[i]? = some s ∧ s.mu = true ∧ vs[i]? = some (.ref l)
  | [], vs, n, m, l => by
    unfold borOf
    constructor
    · intro h; simp at h
    · rintro ⟨i, s, _, h, _⟩; simp at h
  | _ :: _, [], n, m, l => by
    unfold borOf
    constructor
    · intro h; simp at h
    · rintro ⟨i, s, _, _, _, h⟩; simp at h
  | s :: as, v :: vs, n, m, l => by
    have ih := @mem_borOf as vs (n + 1) m l
    have sh : (∃ i t, m = n + i ∧ (s :: as)[i]? = some t ∧ t.mu = true ∧ (v :: vs)[i]? = some (.ref l)) ↔ (m = n ∧ s.mu = true ∧ v = .ref l) ∨ ∃ i t, m = n + 1 + i ∧ as[i]? = some t ∧ t.mu = true ∧ vs[i]? = some (.ref l) := by
      constructor
      · rintro ⟨i, t, h1, h2, h3, h4⟩
        cases i with
        | zero =>
          simp at h2 h4
          subst h2
          exact .inl ⟨h1, h3, h4⟩
        | succ i =>
          simp at h2 h4
          exact .inr ⟨i, t, by omega, h2, h3, h4⟩
      · rintro (⟨h1, h2, h3⟩ | ⟨i, t, h1, h2, h3, h4⟩)
        · exact ⟨0, s, by omega, rfl, h2, by rw [h3]; rfl⟩
        · exact ⟨i + 1, t, by omega, by simpa using h2, h3, by simpa using h4⟩
    rw [sh, ← ih]
    show (m, l) ∈ bor1 s n v ++ borOf as vs (n + 1) ↔ _
    rw [List.mem_append, mem_bor1]
theorem mem_muIdx : ∀ {as : List Slot} {n m : Nat}, m ∈ muIdx as n ↔ ∃ i s, m = n + i ∧ as[i]? = some s ∧ s.mu = true
  | [], n, m => by
    unfold muIdx
    constructor
    · intro h; simp at h
    · rintro ⟨i, s, _, h, _⟩; simp at h
  | s :: as, n, m => by
    have ih := @mem_muIdx as (n + 1) m
    have sh : (∃ i t, m = n + i ∧ (s :: as)[i]? = some t ∧ t.mu = true) ↔ (m = n ∧ s.mu = true) ∨ ∃ i t, m = n + 1 + i ∧ as[i]? = some t ∧ t.mu = true := by
      constructor
      · rintro ⟨i, t, h1, h2, h3⟩
        cases i with
        | zero =>
          simp at h2
          subst h2
          exact .inl ⟨h1, h3⟩
        | succ i =>
          simp at h2
          exact .inr ⟨i, t, by omega, h2, h3⟩
      · rintro (⟨h1, h2⟩ | ⟨i, t, h1, h2, h3⟩)
        · exact ⟨0, s, by omega, rfl, h2⟩
        · exact ⟨i + 1, t, by omega, by simpa using h2, h3⟩
    rw [sh, ← ih]
    show m ∈ (if s.mu = true then [n] else []) ++ muIdx as (n + 1) ↔ _
    cases hs : s.mu with
    | false => simp
    | true => simp
/-- the slots at the entry -/
def slots (N : List Str) (as : List Slot) : List Slot := as ++ List.replicate (N.length - as.length) .un
/-- the ends that res lets -/
def Ends0 (as : List Slot) (res : Res) : Out → Prop
  | .nx δ => match res with
    | .ret r os => r = .dat .non ∧ ∀ i ∈ muIdx as 0, os[i]? = δ[i]?
    | _ => False
  | .rt r δ => match res with
    | .ret r' os => r' = r ∧ ∀ i ∈ muIdx as 0, os[i]? = δ[i]?
    | _ => False
  | .ex C ns ds δ => match res with
    | .exc C' ns' ds' os => (C' = C ∧ ns' = ns ∧ ds' = ds) ∧ ∀ i ∈ muIdx as 0, os[i]? = δ[i]?
    | _ => False
  | _ => False
theorem sat_start {K : PySem.W.Frag} {B H : Hp} {as : List Slot} {vs : List V} {N : List Str} (S : Start K B H as vs) (hn : as.length ≤ N.length) : Sat K ⟨H, B, borOf as vs 0⟩ (slots N as) (start N vs) B H := by
  have lv := S.len
  have sl : ∀ (i : Nat) s, (slots N as)[i]? = some s → as[i]? = some s ∨ s = .un := fun i s h => by
    unfold slots at h
    by_cases hi : i < as.length
    · rw [List.getElem?_append_left hi] at h; exact .inl h
    · rw [List.getElem?_append_right (by omega), List.getElem?_replicate] at h
      split at h
      · exact .inr (Option.some.inj h).symm
      · cases h
  have st : ∀ (i : Nat) v, vs[i]? = some v → (start N vs)[i]? = some (some v) := fun i v h => by
    have hi := (List.getElem?_eq_some_iff.mp h).1
    unfold L2.start
    rw [List.getElem?_append_left (by rw [List.length_map]; exact hi), List.getElem?_map, h]; rfl
  have sm : ∀ (i : Nat) s, (slots N as)[i]? = some s → s.mu = true → as[i]? = some s := fun i s h m => by
    rcases sl i s h with e | e
    · exact e
    · subst e; cases m
  have inj : ∀ (i : Nat) l s, as[i]? = some s → s.mu = true → (start N vs)[i]? = some (some (.ref l)) → vs[i]? = some (.ref l) := fun i l s e m h => by
    obtain ⟨l', q, _⟩ := S.mu i s e m
    rw [st i _ q] at h
    have el : l' = l := by injection h with h; injection h with h; injection h
    rw [q, el]
  refine ⟨S.sb, Same.refl _, fun _ _ e _ => e, fun _ _ _ => rfl, ?_, fun i d h => ?_, fun i s h m => ?_, fun i j s t l ne h m h2 m2 q q2 => ?_, fun p hp => ?_⟩
  · unfold L2.start slots
    rw [List.length_append, List.length_map, List.length_replicate, List.length_append, List.length_replicate, lv]
  · rcases sl i _ h with e | e
    · obtain ⟨v, q, r⟩ := S.dat i d e
      exact ⟨v, st i v q, r⟩
    · cases e
  · have e := sm i s h m
    obtain ⟨l, q, b, r⟩ := S.mu i s e m
    exact ⟨l, st i _ q, b, r, .inr (mem_borOf.mpr ⟨i, s, by omega, e, m, q⟩)⟩
  · have e := sm i s h m
    have e2 := sm j t h2 m2
    exact S.dis i j s t l ne e m e2 m2 (inj i l s e m q) (inj j l t e2 m2 q2)
  · obtain ⟨i, s, h1, h2, h3, h4⟩ := mem_borOf.mp (show (p.1, p.2) ∈ borOf as vs 0 from hp)
    have h1' : p.1 = i := by omega
    rw [h1']
    refine ⟨st i _ h4, s, ?_, h3⟩
    unfold slots
    rw [List.getElem?_append_left (List.getElem?_eq_some_iff.mp h2).1]
    exact h2
theorem post_of {K : PySem.W.Frag} {B H B' H' : Hp} {as os δ : List Slot} {vs : List V} {σ : St} (S : Start K B H as vs) (S' : Sat K ⟨H, B, borOf as vs 0⟩ δ σ B' H') (ho : ∀ i ∈ muIdx as 0, os[i]? = δ[i]?) : Post K B H as vs os B' H' := by
  refine ⟨S'.b0, S'.hb, fun a o e h => S'.fr a o e fun m => ?_, fun a o e => S'.nb a o e, fun i s e m => ?_⟩
  · obtain ⟨p, hp, rfl⟩ := List.mem_map.mp m
    obtain ⟨i, s, h1, h2, h3, h4⟩ := mem_borOf.mp (show (p.1, p.2) ∈ borOf as vs 0 from hp)
    exact h i s h2 h3 h4
  · obtain ⟨l, q, _, _⟩ := S.mu i s e m
    have hb : (i, l) ∈ borOf as vs 0 := mem_borOf.mpr ⟨i, s, by omega, e, m, q⟩
    obtain ⟨p1, t, p2, p3⟩ := S'.bor (i, l) hb
    obtain ⟨l', q1, q2, q3, _⟩ := S'.mu i t p2 p3
    have p1' : σ[i]? = some (some (.ref l)) := p1
    rw [p1'] at q1
    have el : l = l' := by injection q1 with q1; injection q1 with q1; injection q1
    subst el
    exact ⟨t, l, by rw [ho i (mem_muIdx.mpr ⟨i, s, by omega, e, m⟩)]; exact p2, p3, q, q3⟩
theorem retR_of {K : PySem.W.Frag} {B H B' H' : Hp} {δ : List Slot} {bor : List (Nat × Addr)} {σ : St} {v : V} {r : Slot} (h : ResR K ⟨H, B, bor⟩ δ σ B' H' v r) : RetR K B' H H' v r := by
  cases r with
  | un => trivial
  | dat d => exact h
  | own ds =>
    obtain ⟨l, vs, a, b, c, F⟩ := h
    exact ⟨l, vs, a, b, c, F.nb, F.n0⟩
  | obj C ns ds =>
    obtain ⟨l, dx, fs, a, b, c, d, F⟩ := h
    exact ⟨l, dx, fs, a, b, c, d, F.nb, F.n0⟩
theorem bor_idx {as : List Slot} {vs : List V} {K : PySem.W.Frag} {B H : Hp} (S : Start K B H as vs) {i : Nat} (h : i ∈ (borOf as vs 0).map (·.1)) : i ∈ muIdx as 0 := by
  obtain ⟨p, hp, rfl⟩ := List.mem_map.mp h
  obtain ⟨i, s, h1, h2, h3, _⟩ := mem_borOf.mp (show (p.1, p.2) ∈ borOf as vs 0 from hp)
  exact mem_muIdx.mpr ⟨i, s, h1, h2, h3⟩
section
variable {M : Md} {q x : Str} {st : Stmt} {f : Addr} {fd : FuncData} {N ps : List Str} {j : Nat} {S : PSpec}
/-- THE RULE for a def that raises nothing -/
theorem fn_ok (F : Fun M.K x q st f fd) (Sc : FnScope N ps (defScope st)) (hl : ∀ as res, S as res → as.length = ps.length) (hx : ∀ as C ns ds os, ¬ S as (.exc C ns ds os))
    (h : ∀ (X : Cx) (W : WX) (G : Ent) (as : List Slot) (res : Res), Good X M N (defScope st) (fun _ => true) j → S as res → (∀ i ∈ G.bor.map (·.1), i ∈ muIdx as 0) → SV X W G (defBody st) (slots N as) (Ends0 as res)) :
    FnOk M.P M.w M.K M.mg M.base CX0 (j + 1) f fd ps (spOf M.K S) := by
  have hN : ps.length ≤ N.length := by have := congrArg List.length Sc.pre; rw [List.length_take] at this; omega
  refine F.ok Sc (fun vs H Q E h => ?_) (fun cdv A outer s H vs Q E hr hsp => ?_)
  · obtain ⟨B, as, res, h1, h2, _⟩ := h
    rw [h2.len]; exact hl as res h1
  · obtain ⟨B, as, res, h1, h2, h3⟩ := hsp
    cases res with
    | exc C ns ds os => exact absurd h1 (hx as C ns ds os)
    | ret r os =>
      have S0 := sat_start (N := N) h2 (by rw [hl _ _ h1]; exact hN)
      refine h _ (fun _ _ _ _ => True) ⟨H, B, borOf as vs 0⟩ as (.ret r os) ⟨rfl, rfl, rfl, rfl, rfl, rfl, rfl, rfl, Sc.nd, fun _ _ => rfl, hr, .never⟩ h1 (fun i hi => bor_idx h2 hi) _ B H S0 _ ⟨fun δ σ B' H' p S' e => ?_, fun r' δ σ B' H' v p S' e rr => ?_, fun δ σ B' H' p S' e => p.elim, fun δ σ B' H' p S' e => p.elim, fun _ _ _ _ _ _ _ _ _ _ _ _ => trivial⟩
      · obtain ⟨p1, p2⟩ := p
        subst p1
        exact h3 .non B' H' (post_of h2 S' p2) .non
      · obtain ⟨p1, p2⟩ := p
        subst p1
        exact h3 v B' H' (post_of h2 S' p2) (retR_of rr)
/-- .. that may raise -/
theorem fn_okX (F : Fun M.K x q st f fd) (Sc : FnScope N ps (defScope st)) (hl : ∀ as res, S as res → as.length = ps.length)
    (h : ∀ (X : Cx) (W : WX) (G : Ent) (as : List Slot) (res : Res), Good X M N (defScope st) (fun _ => true) j → Takes X W → S as res → (∀ i ∈ G.bor.map (·.1), i ∈ muIdx as 0) → SV X W G (defBody st) (slots N as) (Ends0 as res)) :
    FnOk M.P M.w M.K M.mg M.base (L2.CX M.P M.w) (j + 1) f fd ps (spOf M.K S) := by
  have hN : ps.length ≤ N.length := by have := congrArg List.length Sc.pre; rw [List.length_take] at this; omega
  refine F.okX Sc (fun vs H Q E h => ?_) (fun cdv A outer s H vs Q E hr hsp => ?_)
  · obtain ⟨B, as, res, h1, h2, _⟩ := h
    rw [h2.len]; exact hl as res h1
  · obtain ⟨B, as, res, h1, h2, h3⟩ := hsp
    have S0 := sat_start (N := N) h2 (by rw [hl _ _ h1]; exact hN)
    refine h _ (fun cls d _ H => E cls d H) ⟨H, B, borOf as vs 0⟩ as res ⟨rfl, rfl, rfl, rfl, rfl, rfl, rfl, rfl, Sc.nd, fun _ _ => rfl, hr, passes_of rfl⟩ (takes_of rfl rfl rfl rfl) h1 (fun i hi => bor_idx h2 hi) _ B H S0 _ ⟨fun δ σ B' H' p S' e => ?_, fun r' δ σ B' H' v p S' e rr => ?_, fun δ σ B' H' p S' e => p.elim, fun δ σ B' H' p S' e => p.elim, fun C ns ds δ σ B' H' d p S' e rr => ?_⟩
    · cases res with
      | exc C ns ds os => exact p.elim
      | ret r os =>
        obtain ⟨p1, p2⟩ := p
        subst p1
        exact h3 .non B' H' (post_of h2 S' p2) .non
    · cases res with
      | exc C ns ds os => exact p.elim
      | ret r os =>
        obtain ⟨p1, p2⟩ := p
        subst p1
        exact h3 v B' H' (post_of h2 S' p2) (retR_of rr)
    · cases res with
      | ret r os => exact p.elim
      | exc C' ns' ds' os =>
        obtain ⟨⟨p1, p2, p3⟩, p4⟩ := p
        subst p1 p2 p3
        exact h3 d B' H' (post_of h2 S' p4) rr
end
end DL

namespace DL
open PySem L2

/-! ### list comprehensions -/
theorem Good.blk {X : Cx} {M : Md} {N : List Str} {sc : Scope} {fb : Str → Bool} {k : Nat} (g : Good X M N sc fb k) (scope : Scope) (s : Shared) (H : Hp) (C : Addr) (cl : List (Str × Addr)) (fp : List Addr) :
    Good (X.blk s H scope (compEnvC scope cl C X.env) fp) M N (relS scope sc) (fun x => scope.names.lookup x == some .cell) k :=
  ⟨g.P, g.w, g.K, g.mg, g.base, g.nm, by show relS scope X.env.scope = _; rw [g.sc], g.calm, g.nd, fun _ h => h, g.room, .never⟩
def wipeS (δ : List Slot) : List Nat → List Slot
  | [] => δ
  | v :: vs => (wipeS δ vs).set v .un
theorem wipeS_len (δ : List Slot) : ∀ vs : List Nat, (wipeS δ vs).length = δ.length
  | [] => rfl
  | v :: vs => by show ((wipeS δ vs).set v .un).length = _; rw [List.length_set, wipeS_len δ vs]
theorem wipeS_out {δ : List Slot} {i : Nat} : ∀ {vs : List Nat}, i ∉ vs → (wipeS δ vs)[i]? = δ[i]?
  | [], _ => rfl
  | v :: vs, h => by
    rw [List.mem_cons, not_or] at h
    show ((wipeS δ vs).set v .un)[i]? = _
    rw [List.getElem?_set_ne (fun e => h.1 e.symm), wipeS_out h.2]
theorem wipeS_in {δ : List Slot} {i : Nat} {s : Slot} : ∀ {vs : List Nat}, i ∈ vs → (wipeS δ vs)[i]? = some s → s = .un
  | [], h, _ => by cases h
  | v :: vs, h, e => by
    have e' : ((wipeS δ vs).set v .un)[i]? = some s := e
    by_cases q : v = i
    · subst q
      by_cases hv : v < (wipeS δ vs).length
      · rw [List.getElem?_set_self hv] at e'; exact (Option.some.inj e').symm
      · rw [List.getElem?_eq_none (by rw [List.length_set]; omega)] at e'; cases e'
    · rw [List.getElem?_set_ne q] at e'
      rcases List.mem_cons.mp h with w | w
      · exact absurd w.symm q
      · exact wipeS_in w e'
theorem wipe_out' {σ : St} {i : Nat} : ∀ {vs : List Nat}, i ∉ vs → (wipe σ vs)[i]? = σ[i]?
  | [], _ => rfl
  | v :: vs, h => by
    rw [List.mem_cons, not_or] at h
    show ((wipe σ vs).set v none)[i]? = _
    rw [List.getElem?_set_ne (fun e => h.1 e.symm), wipe_out' h.2]
theorem wipe_in' {σ : St} {i : Nat} : ∀ {vs : List Nat}, i ∈ vs → i < σ.length → (wipe σ vs)[i]? = some none
  | [], h, _ => by cases h
  | v :: vs, h, hi => by
    show ((wipe σ vs).set v none)[i]? = _
    by_cases q : v = i
    · subst q
      rw [List.getElem?_set_self (by rw [wipe_length]; exact hi)]
    · rw [List.getElem?_set_ne q]
      rcases List.mem_cons.mp h with w | w
      · exact absurd w.symm q
      · exact wipe_in' w hi
theorem wipe_eq {σ σ2 : St} {vs js : List Nat} (o : Only js (wipe σ vs) σ2) (hj : ∀ j ∈ js, j ∈ vs) : wipe σ2 vs = wipe σ vs := by
  have hl : σ2.length = σ.length := by rw [o.1, wipe_length]
  refine List.ext_getElem? fun i => ?_
  by_cases h : i ∈ vs
  · by_cases hi : i < σ.length
    · rw [wipe_in' h hi, wipe_in' h (by omega)]
    · rw [List.getElem?_eq_none (by rw [wipe_length]; omega), List.getElem?_eq_none (by rw [wipe_length]; omega)]
  · rw [wipe_out' h, o.2 i fun q => h (hj i q)]
section
variable {K : PySem.W.Frag} {G : Ent} {δ δ' : List Slot} {σ : St} {B H : Hp} {vs : List Nat} {L : Addr} {o o2 : HO}
theorem Sat.wipe (S : Sat K G δ σ B H) (hb : ∀ v ∈ vs, v ∉ G.bor.map (·.1)) : Sat K G (wipeS δ vs) (L2.wipe σ vs) B H := by
  have at_ : ∀ (i : Nat) s, (wipeS δ vs)[i]? = some s → s ≠ .un → i ∉ vs ∧ δ[i]? = some s := fun i s e h => by
    by_cases q : i ∈ vs
    · exact absurd (wipeS_in q e) h
    · rw [wipeS_out q] at e; exact ⟨q, e⟩
  have nu : ∀ s : Slot, s.mu = true → s ≠ .un := fun s m h => by subst h; cases m
  refine ⟨S.hb, S.b0, S.fr, S.nb, by rw [wipe_length, wipeS_len]; exact S.len, fun i d e => ?_, fun i s e m => ?_, fun i j s t l ne e m e2 m2 q q2 => ?_, fun p hp => ?_⟩
  · obtain ⟨q, e'⟩ := at_ i _ e (fun h => by cases h)
    obtain ⟨v, a, b⟩ := S.dat i d e'
    exact ⟨v, by rw [wipe_out' q]; exact a, b⟩
  · obtain ⟨q, e'⟩ := at_ i _ e (nu s m)
    obtain ⟨l, a, b⟩ := S.mu i s e' m
    exact ⟨l, by rw [wipe_out' q]; exact a, b⟩
  · obtain ⟨n1, e1⟩ := at_ i _ e (nu s m)
    obtain ⟨n2, e2'⟩ := at_ j _ e2 (nu t m2)
    rw [wipe_out' n1] at q; rw [wipe_out' n2] at q2
    exact S.dis i j s t l ne e1 m e2' m2 q q2
  · obtain ⟨a, s, b, c⟩ := S.bor p hp
    have n : p.1 ∉ vs := fun q => hb p.1 q (List.mem_map.mpr ⟨p, hp, rfl⟩)
    exact ⟨by rw [wipe_out' n]; exact a, s, by rw [wipeS_out n]; exact b, c⟩
theorem Sat.unwipe (S : Sat K G δ (L2.wipe σ vs) B H) (hw : ∀ v ∈ vs, ∀ s, δ[v]? = some s → s = .un) : Sat K G δ σ B H := by
  have nin : ∀ (i : Nat) s, δ[i]? = some s → s ≠ .un → i ∉ vs := fun i s e h q => h (hw i q s e)
  have nu : ∀ s : Slot, s.mu = true → s ≠ .un := fun s m h => by subst h; cases m
  refine ⟨S.hb, S.b0, S.fr, S.nb, by have := S.len; rw [wipe_length] at this; exact this, fun i d e => ?_, fun i s e m => ?_, fun i j s t l ne e m e2 m2 q q2 => ?_, fun p hp => ?_⟩
  · obtain ⟨v, a, b⟩ := S.dat i d e
    exact ⟨v, by rw [wipe_out' (nin i _ e fun h => by cases h)] at a; exact a, b⟩
  · obtain ⟨l, a, b⟩ := S.mu i s e m
    exact ⟨l, by rw [wipe_out' (nin i _ e (nu s m))] at a; exact a, b⟩
  · exact S.dis i j s t l ne e m e2 m2 (by rw [wipe_out' (nin i _ e (nu s m))]; exact q) (by rw [wipe_out' (nin j _ e2 (nu t m2))]; exact q2)
  · obtain ⟨a, s, b, c⟩ := S.bor p hp
    exact ⟨by rw [wipe_out' (nin _ _ b (nu s c))] at a; exact a, s, b, c⟩
/-- the entry with a thing at L besides -/
def Ent.add (G : Ent) (L : Addr) (o : HO) : Ent := ⟨upd G.H0 L o, G.B0, G.bor⟩
theorem Sat.nobor (S : Sat K G δ σ B H) (h : H L = none) : L ∉ G.bor.map (·.2) := fun m => by
  obtain ⟨p, hp, e⟩ := List.mem_map.mp m
  obtain ⟨a, s, b, c⟩ := S.bor p hp
  obtain ⟨l, q1, _, q3, _⟩ := S.mu _ s b c
  rw [a] at q1
  have el : p.2 = l := by injection q1 with q1; injection q1 with q1; injection q1
  subst el
  obtain ⟨o, po⟩ := Mu.ex q3 c
  rw [e, h] at po; cases po
theorem Sat.open_ (S : Sat K G δ σ B H) (h : H L = none) : Sat K (G.add L o) δ σ B (upd H L o) := by
  have S2 := S.newM (o := o) h
  refine ⟨S2.hb, S2.b0, fun a u e m => ?_, fun a u e => ?_, S2.len, S2.dat, fun i s e m => ?_, S2.dis, S2.bor⟩
  · by_cases z : a = L
    · subst z
      have e' : upd G.H0 a o a = some u := e
      rw [upd_same] at e' ⊢; exact e'
    · have e' : upd G.H0 L o a = some u := e
      rw [upd_ne z] at e'; exact S2.fr a u e' m
  · by_cases z : a = L
    · subst z
      have n1 : B a = none := S.hb.free h
      have n2 : G.B0 a = none := S.b0.free n1
      show B a = G.B0 a
      rw [n1, n2]
    · have e' : upd G.H0 L o a = some u := e
      rw [upd_ne z] at e'; exact S2.nb a u e'
  · obtain ⟨l, a, b, c, d⟩ := S2.mu i s e m
    refine ⟨l, a, b, c, ?_⟩
    rcases d with d | d
    · left
      have z : l ≠ L := fun z => by
        subst z
        exact (S.fresh h).ap i s e m a
      show upd G.H0 L o l = none
      rw [upd_ne z]; exact d
    · exact .inr d
theorem Sat.change (S : Sat K (G.add L o) δ σ B H) (hL : L ∉ G.bor.map (·.2)) (n0 : G.B0 L = none) : Sat K (G.add L o2) δ σ B (upd H L o2) := by
  have nB : B L = none := by rw [S.nb L o (by show upd G.H0 L o L = _; rw [upd_same])]; exact n0
  refine ⟨fun a u e => ?_, S.b0, fun a u e m => ?_, fun a u e => ?_, S.len, S.dat, fun i s e m => ?_, S.dis, S.bor⟩
  · rw [upd_ne (ne_of_none e nB)]; exact S.hb a u e
  · have e' : upd G.H0 L o2 a = some u := e
    by_cases z : a = L
    · subst z; rw [upd_same] at e' ⊢; exact e'
    · rw [upd_ne z] at e' ⊢
      exact S.fr a u (by show upd G.H0 L o a = _; rw [upd_ne z]; exact e') m
  · have e' : upd G.H0 L o2 a = some u := e
    by_cases z : a = L
    · subst z; show B a = G.B0 a; rw [nB, n0]
    · rw [upd_ne z] at e'
      exact S.nb a u (by show upd G.H0 L o a = _; rw [upd_ne z]; exact e')
  · obtain ⟨l, a, b, c, d⟩ := S.mu i s e m
    have z : l ≠ L := fun z => by
      subst z
      rcases d with d | d
      · have d' : upd G.H0 l o l = none := d
        rw [upd_same] at d'; cases d'
      · exact hL (List.mem_map.mpr ⟨_, d, rfl⟩)
    refine ⟨l, a, b, Mu.up c (Same.refl _) (fun u e => by rw [upd_ne z]; exact e), ?_⟩
    rcases d with d | d
    · left
      have d' : upd G.H0 L o l = none := d
      show upd G.H0 L o2 l = none
      rw [upd_ne z] at d' ⊢; exact d'
    · exact .inr d
theorem Sat.close (S : Sat K (G.add L o) δ σ B H) (hL : L ∉ G.bor.map (·.2)) (h0 : G.H0 L = none) (n0 : G.B0 L = none) : Sat K G δ σ B H ∧ Fresh G δ σ B L := by
  have nB : B L = none := by rw [S.nb L o (by show upd G.H0 L o L = _; rw [upd_same])]; exact n0
  have lift : ∀ a u, G.H0 a = some u → (G.add L o).H0 a = some u := fun a u e => by
    have z : a ≠ L := ne_of_none e h0
    show upd G.H0 L o a = _; rw [upd_ne z]; exact e
  refine ⟨⟨S.hb, S.b0, fun a u e m => S.fr a u (lift a u e) m, fun a u e => S.nb a u (lift a u e), S.len, S.dat, fun i s e m => ?_, S.dis, S.bor⟩, nB, h0, fun i s e m z => ?_⟩
  · obtain ⟨l, a, b, c, d⟩ := S.mu i s e m
    refine ⟨l, a, b, c, ?_⟩
    rcases d with d | d
    · left
      cases q : G.H0 l with
      | none => rfl
      | some u => rw [lift l u q] at d; cases d
    · exact .inr d
  · obtain ⟨l, a, b, c, d⟩ := S.mu i s e m
    rw [a] at z
    have el : l = L := by injection z with z; injection z with z; injection z
    subst el
    rcases d with d | d
    · have d' : upd G.H0 l o l = none := d
      rw [upd_same] at d'; cases d'
    · exact hL (List.mem_map.mpr ⟨_, d, rfl⟩)
end
def cQ (X : Cx) (ifs : List Expr) : TT := fun σ H Q => ∃ t, PTs X ifs t ∧ t σ H Q
theorem pts_cQ {X : Cx} {ifs : List Expr} : PTs X ifs (cQ X ifs) := ⟨fun pins s σ H Q I ⟨_, p, h⟩ => p.run pins s σ H Q I h⟩
def EQ (X : Cx) (G : Ent) (ifs : List Expr) (δ : List Slot) (b : Bool) (δ' : List Slot) : Prop :=
  ∀ σ B H, Sat X.K G δ σ B H → ∀ Q : Bool → Hp → Prop, (∀ B' H', Sat X.K G δ' σ B' H' → Same B B' → Q b H') → cQ X ifs σ H Q
theorem eq_nil {X : Cx} {G : Ent} {δ : List Slot} : EQ X G [] δ true δ := fun σ B H S Q q => ⟨_, pts_nil, q B H S (Same.refl _)⟩
theorem eq_one {X : Cx} {G : Ent} {δ δ' : List Slot} {c : Expr} {b : Bool} (h : ET X G c δ b δ') : EQ X G [c] δ b δ' := fun σ B H S Q q => ⟨_, pts_one pt_cT, h σ B H S Q q⟩
section
variable {X : Cx} {W : WX} {G : Ent} {M : Md} {N : List Str} {sc scope : Scope} {fb : Str → Bool} {k : Nat} {δ δ1 δ2 : List Slot} {pos : Pos} {ds out : List D} {tg it elt : Expr} {ifs : List Expr} {own : List (Str × Nat)} {js : List Nat}
/-- a turn of a comprehension: from what holds behind i turns (the list so far, the slots) to the next -/
def Blk (M : Md) (N : List Str) (sc scope : Scope) (k : Nat) (bor : List (Nat × Addr)) (p : Cx → Ent → Prop) : Prop := ∀ (Y : Cx) (G' : Ent), Good Y M N (relS scope sc) (fun x => scope.names.lookup x == some .cell) k → G'.bor = bor → p Y G'
def Step (M : Md) (N : List Str) (sc scope : Scope) (k : Nat) (bor : List (Nat × Addr)) (tg elt : Expr) (ifs : List Expr) (js vs : List Nat) (ds : List D) (I : Nat → List D → List Slot → Prop) : Prop :=
  ∀ (i : Nat) d acc δi, ds[i]? = some d → I i acc δi →
    ∃ δt b δu, Blk M N sc scope k bor (fun Y G' => AG Y G' tg d δi δt js ∧ EQ Y G' ifs δt b δu) ∧ (b = false → I (i + 1) acc (wipeS δu vs)) ∧ (b = true → ∃ y δw, Blk M N sc scope k bor (fun Y G' => EV Y G' elt δu (.dat y) δw) ∧ I (i + 1) (acc ++ [y]) (wipeS δw vs))
def bG (X : Cx) (scope : Scope) (tg : Expr) : TG := fun v σ H Q => ∀ s H' C cl fp, cG (X.blk s H' scope (compEnvC scope cl C X.env) fp) tg v σ H Q
def bQ (X : Cx) (scope : Scope) (ifs : List Expr) : TT := fun σ H Q => ∀ s H' C cl fp, cQ (X.blk s H' scope (compEnvC scope cl C X.env) fp) ifs σ H Q
def bE (X : Cx) (scope : Scope) (e : Expr) : TE := fun σ H Q => ∀ s H' C cl fp, cE (X.blk s H' scope (compEnvC scope cl C X.env) fp) e σ H Q
/-- what the reading of a comprehension asks, from its turns -/
theorem lc_read (g : Good X M N sc fb k) (hv : ∀ v ∈ own.map (·.2), v ∉ G.bor.map (·.1)) (hi : EI X G tg it δ ds δ1) (hjs : ∀ j ∈ js, j ∈ own.map (·.2)) (I : Nat → List D → List Slot → Prop)
    (h0 : I 0 [] (wipeS δ1 (own.map (·.2)))) (hs : Step M N sc scope k G.bor tg elt ifs js (own.map (·.2)) ds I) (hd : ∀ acc δ', I ds.length acc δ' → acc = out ∧ δ' = δ2) (hw : ∀ v ∈ own.map (·.2), ∀ s, δ2[v]? = some s → s = .un) (hn : ds.length ≤ 100000)
    {σ : St} {B H : Hp} (S : Sat X.K G δ σ B H) (Q : VK) (q : ∀ v B' H', Sat X.K G δ2 σ B' H' → Same B B' → ResR X.K G δ2 σ B' H' v (.own out) → Q v H') : tLc (cI X tg it) (bG X scope tg) (bQ X scope ifs) (bE X scope elt) (own.map (·.2)) σ H Q :=
  hi σ B H S _ fun J B1 H1 S1 s1 sv L hL => by
    generalize own.map (·.2) = vs at *
    have nb := S1.nobor hL
    have h0L : G.H0 L = none := S1.h0 hL
    have b0L : G.B0 L = none := S1.b0.free (S1.hb.free hL)
    refine ⟨fun i m H => m = ds.length - i ∧ i ≤ ds.length ∧ ∃ acc ws δi B', I i acc δi ∧ Sat X.K (G.add L (.lst ws)) δi (wipe σ vs) B' H ∧ Same B1 B' ∧ H L = some (.lst ws) ∧ RepL X.K B' ws acc ∧ acc.length ≤ i, ⟨ds.length, by simp, Nat.zero_le _, [], [], _, B1, h0, (S1.open_ hL).wipe hv, Same.refl _, upd_same, .nil, Nat.le_refl _⟩, ?_⟩
    rintro i m H2 ⟨rfl, hl, acc, ws, δi, B2, inv, S2, s2, hL2, r2, ln⟩
    obtain ⟨go, stop⟩ := sv i (G.add L (.lst ws)) δi (wipe σ vs) B2 H2 S2 s2
    by_cases hlt : i < ds.length
    · obtain ⟨g1, g2⟩ := go ds[i] (by simp [hlt])
      refine .inr ⟨g1, fun H' => ∃ acc ws δi B', I (i + 1) acc δi ∧ Sat X.K (G.add L (.lst ws)) δi (wipe σ vs) B' H' ∧ Same B1 B' ∧ H' L = some (.lst ws) ∧ RepL X.K B' ws acc ∧ acc.length ≤ i + 1, fun H' ⟨a, b, c, d, e⟩ => ⟨ds.length - (i + 1), by omega, rfl, hlt, a, b, c, d, e⟩, fun x H3 y => ?_⟩
      obtain ⟨B3, S3, s3, r3, k3⟩ := g2 x H3 y
      obtain ⟨δt, b, δu, hab, hF, hT⟩ := hs i ds[i] acc δi (by simp [hlt]) inv
      intro s H' C cl fp
      refine (hab _ (G.add L (.lst ws)) (g.blk scope s H' C cl fp) rfl).1 (wipe σ vs) B3 H3 x S3 r3 _ fun σ4 S4 o4 => ⟨wipe_eq o4 hjs, ?_⟩
      have we : wipe σ4 vs = wipe σ vs := wipe_eq o4 hjs
      intro s H' C cl fp
      refine (hab _ (G.add L (.lst ws)) (g.blk scope s H' C cl fp) rfl).2 σ4 B3 H3 S4 _ fun B5 H5 S5 s5 => ?_
      cases b with
      | false =>
        rw [if_neg Bool.false_ne_true]
        refine ⟨acc, ws, _, B5, hF rfl, by rw [← we]; exact S5.wipe hv, ((s2.trans s3).trans s5), ?_, r2.up (s3.trans s5), by omega⟩
        exact S5.fr L _ (by show upd G.H0 L _ L = _; rw [upd_same]) nb
      | true =>
        rw [if_pos rfl]
        obtain ⟨y, δw, hev, hI⟩ := hT rfl
        intro s H' C cl fp
        refine hev _ (G.add L (.lst ws)) (g.blk scope s H' C cl fp) rfl σ4 B5 H5 S5 _ fun v B6 H6 S6 s6 r6 => ?_
        have hL6 : H6 L = some (.lst ws) := S6.fr L _ (by show upd G.H0 L _ L = _; rw [upd_same]) nb
        refine ⟨ws, hL6, Nat.lt_of_lt_of_le (show ws.length < 100001 by rw [r2.length]; omega) (by decide : 100001 ≤ sizeLine), acc ++ [y], ws ++ [v], _, B6, hI, ?_, ((s2.trans s3).trans s5).trans s6, upd_same, (r2.up ((s3.trans s5).trans s6)).append (.one r6), by rw [List.length_append, List.length_singleton]; omega⟩
        rw [← we]
        exact (S6.change nb b0L).wipe hv
    · have e : i = ds.length := by omega
      subst e
      obtain ⟨e1, e2⟩ := hd acc δi inv
      subst e1 e2
      obtain ⟨S3, F3⟩ := S2.close nb h0L b0L
      have F4 : Fresh G δi σ B2 L := ⟨F3.nb, F3.n0, fun n s e m z => F3.ap n s e m (by
        have n1 : n ∉ vs := fun w => by
          have := hw n w s e
          subst this; cases m
        rw [wipe_out' n1]; exact z)⟩
      exact .inl ⟨stop (Nat.le_refl _), q _ B2 H2 (S3.unwipe hw) (s1.trans s2) ⟨L, ws, rfl, hL2, r2, F4⟩⟩
theorem ev_lc (g : Good X M N sc fb k) (own : List (Str × Nat)) (hv : ∀ v ∈ own.map (·.2), v ∉ G.bor.map (·.1)) (hi : EI X G tg it δ ds δ1) (hjs : ∀ j ∈ js, j ∈ own.map (·.2)) (I : Nat → List D → List Slot → Prop)
    (h0 : I 0 [] (wipeS δ1 (own.map (·.2)))) (hs : Step M N sc scope k G.bor tg elt ifs js (own.map (·.2)) ds I) (hd : ∀ acc δ', I ds.length acc δ' → acc = out ∧ δ' = δ2) (hw : ∀ v ∈ own.map (·.2), ∀ s, δ2[v]? = some s → s = .un) (hn : ds.length ≤ 100000)
    (ok : blkC N sc scope own = true := by decide +kernel) (hf : ∀ x, foldedSetIterable it X.env x = pure x := by intro _; rfl) : EV X G (.ListComp elt [⟨tg, it, ifs, 0⟩] scope pos) δ (.own out) δ2 := fun σ B H S Q q =>
  ⟨_, pe_lc g.calm (by rw [g.nm]; exact g.nd) pi_cI (blkOk_by (by rw [g.nm, g.sc]; exact ok)) (fun s H C cl fp => (⟨fun pins s1 σ H1 v u Q I r h => (pg_cG (X := X.blk s H scope (compEnvC scope cl C X.env) fp)).run pins s1 σ H1 v u Q I r (h s H C cl fp)⟩ : PG _ tg (bG X scope tg)))
    (fun s H C cl fp => (⟨fun pins s1 σ H1 Q I h => (pts_cQ (X := X.blk s H scope (compEnvC scope cl C X.env) fp)).run pins s1 σ H1 Q I (h s H C cl fp)⟩ : PTs _ ifs (bQ X scope ifs)))
    (fun s H C cl fp => (⟨fun pins s1 σ H1 Q I h => (pe_cE (X := X.blk s H scope (compEnvC scope cl C X.env) fp)).run pins s1 σ H1 Q I (h s H C cl fp)⟩ : PE _ elt (bE X scope elt))) hf,
    lc_read g hv hi hjs I h0 hs hd hw hn S Q q⟩
/-- name = [..], the name a plain local -/
theorem s_asgLc {P : Out → Prop} {x : Str} {px spos : Pos} (g : Good X M N sc fb k) (n : Nat) (own : List (Str × Nat)) (hb : n ∉ G.bor.map (·.1)) (p : P (.nx (δ2.set n (.own out)))) (hv : ∀ v ∈ own.map (·.2), v ∉ G.bor.map (·.1)) (hi : EI X G tg it δ ds δ1) (hjs : ∀ j ∈ js, j ∈ own.map (·.2)) (I : Nat → List D → List Slot → Prop)
    (h0 : I 0 [] (wipeS δ1 (own.map (·.2)))) (hs : Step M N sc scope k G.bor tg elt ifs js (own.map (·.2)) ds I) (hd : ∀ acc δ', I ds.length acc δ' → acc = out ∧ δ' = δ2) (hw : ∀ v ∈ own.map (·.2), ∀ s, δ2[v]? = some s → s = .un) (hn : ds.length ≤ 100000)
    (ok : blkC N sc scope own = true := by decide +kernel) (hN : N[n]? = some x := by rfl) (hk : sc.kind = .function := by rfl) (hl : sc.names.lookup x = some .local := by rfl) (hli : (px.line == pos.line) = true := by rfl) (ha : (scope.names.any fun (m, k) => m == x && (k == .local || k == .cell)) = false := by decide +kernel) (hsl : spos.line = pos.line := by rfl)
    (hf : ∀ x, foldedSetIterable it X.env x = pure x := by intro _; rfl) : SV1 X W G (.Assign [.Name x px] (.ListComp elt [⟨tg, it, ifs, 0⟩] scope pos) spos) δ P := fun σ B H S E F =>
  ⟨_, ps_setLc (i := n) g.calm (by rw [g.nm]; exact g.nd) (by rw [g.nm]; exact hN) (by rw [g.sc]; exact hl) (by rw [hsl]; exact sw_true (by rw [g.sc]; exact hk) (by rw [g.sc]; exact hl) hli ha) pi_cI (blkOk_by (by rw [g.nm, g.sc]; exact ok)) (fun s H C cl fp => (⟨fun pins s1 σ H1 v u Q I r h => (pg_cG (X := X.blk s H scope (compEnvC scope cl C X.env) fp)).run pins s1 σ H1 v u Q I r (h s H C cl fp)⟩ : PG _ tg (bG X scope tg)))
    (fun s H C cl fp => (⟨fun pins s1 σ H1 Q I h => (pts_cQ (X := X.blk s H scope (compEnvC scope cl C X.env) fp)).run pins s1 σ H1 Q I (h s H C cl fp)⟩ : PTs _ ifs (bQ X scope ifs)))
    (fun s H C cl fp => (⟨fun pins s1 σ H1 Q I h => (pe_cE (X := X.blk s H scope (compEnvC scope cl C X.env) fp)).run pins s1 σ H1 Q I (h s H C cl fp)⟩ : PE _ elt (bE X scope elt))) hf, by
    have rd := lc_read g hv hi hjs I h0 hs hd hw hn S (fun v H' => E.nx (σ.set n (some v)) H') fun v B' H' S' s' r' => by
      obtain ⟨l, ws, rfl, h1, h2, F1⟩ := r'
      exact F.nx _ _ B' H' p (S'.setM (s := .own out) rfl ⟨ws, h1, h2⟩ F1 hb) s'
    exact rd⟩
end
end DL

namespace DL
open PySem L2
section
variable {X : Cx} {W : WX} {G : Ent} {M : Md} {N : List Str} {sc scope : Scope} {fb : Str → Bool} {k : Nat} {δ δ0 δ1 δ2 : List Slot} {pos : Pos} {ds ys : List D} {tg it elt c : Expr} {own : List (Str × Nat)} {js : List Nat}
theorem take_succ_of {α : Type} {l : List α} {i : Nat} {x : α} (h : l[i]? = some x) : l.take (i + 1) = l.take i ++ [x] := by
  rw [List.take_add_one, h]; rfl
/-- [elt for tg in it], which leaves the slots as they are: ys the items made -/
theorem step_map (hl : ys.length = ds.length) (hs : ∀ (i : Nat) d, ds[i]? = some d → ∃ δt y, ys[i]? = some y ∧ wipeS δt (own.map (·.2)) = δ0 ∧ Blk M N sc scope k G.bor (fun Y G' => AG Y G' tg d δ0 δt js ∧ EV Y G' elt δt (.dat y) δt)) :
    Step M N sc scope k G.bor tg elt [] js (own.map (·.2)) ds (fun i acc δ => acc = ys.take i ∧ δ = δ0) := by
  rintro i d acc δi hd ⟨rfl, rfl⟩
  obtain ⟨δt, y, h1, h2, h3⟩ := hs i d hd
  refine ⟨δt, true, δt, fun Y G' g b => ⟨(h3 Y G' g b).1, eq_nil⟩, (fun q => by cases q), fun _ => ⟨y, δt, fun Y G' g b => (h3 Y G' g b).2, ?_, h2⟩⟩
  rw [take_succ_of h1]
theorem ev_lcM (g : Good X M N sc fb k) (own : List (Str × Nat)) (js : List Nat) (ys : List D) (hv : ∀ v ∈ own.map (·.2), v ∉ G.bor.map (·.1)) (hi : EI X G tg it δ ds δ1) (h0 : wipeS δ1 (own.map (·.2)) = δ0) (hl : ys.length = ds.length) (hn : ds.length ≤ 100000)
    (hs : ∀ (i : Nat) d, ds[i]? = some d → ∃ δt y, ys[i]? = some y ∧ wipeS δt (own.map (·.2)) = δ0 ∧ Blk M N sc scope k G.bor (fun Y G' => AG Y G' tg d δ0 δt js ∧ EV Y G' elt δt (.dat y) δt))
    (hjs : ∀ j ∈ js, j ∈ own.map (·.2) := by decide) (ok : blkC N sc scope own = true := by decide +kernel) (hf : ∀ x, foldedSetIterable it X.env x = pure x := by intro _; rfl) : EV X G (.ListComp elt [⟨tg, it, [], 0⟩] scope pos) δ (.own ys) δ0 :=
  ev_lc g own hv hi hjs _ ⟨rfl, h0⟩ (step_map hl hs) (fun acc δ' ⟨a, b⟩ => ⟨by rw [a, ← hl, List.take_length], b⟩) (fun v hv s e => by subst h0; exact wipeS_in hv e) hn ok hf
theorem s_asgLcM {P : Out → Prop} {x : Str} {px spos : Pos} (g : Good X M N sc fb k) (n : Nat) (own : List (Str × Nat)) (js : List Nat) (ys : List D) (hb : n ∉ G.bor.map (·.1)) (p : P (.nx (δ0.set n (.own ys)))) (hv : ∀ v ∈ own.map (·.2), v ∉ G.bor.map (·.1)) (hi : EI X G tg it δ ds δ1) (h0 : wipeS δ1 (own.map (·.2)) = δ0) (hl : ys.length = ds.length) (hn : ds.length ≤ 100000)
    (hs : ∀ (i : Nat) d, ds[i]? = some d → ∃ δt y, ys[i]? = some y ∧ wipeS δt (own.map (·.2)) = δ0 ∧ Blk M N sc scope k G.bor (fun Y G' => AG Y G' tg d δ0 δt js ∧ EV Y G' elt δt (.dat y) δt))
    (hjs : ∀ j ∈ js, j ∈ own.map (·.2) := by decide) (ok : blkC N sc scope own = true := by decide +kernel) (hN : N[n]? = some x := by rfl) (hk : sc.kind = .function := by rfl) (hlo : sc.names.lookup x = some .local := by rfl) (hli : (px.line == pos.line) = true := by rfl) (ha : (scope.names.any fun (m, k) => m == x && (k == .local || k == .cell)) = false := by decide +kernel) (hsl : spos.line = pos.line := by rfl)
    (hf : ∀ x, foldedSetIterable it X.env x = pure x := by intro _; rfl) : SV1 X W G (.Assign [.Name x px] (.ListComp elt [⟨tg, it, [], 0⟩] scope pos) spos) δ P :=
  s_asgLc g n own hb p hv hi hjs _ ⟨rfl, h0⟩ (step_map hl hs) (fun acc δ' ⟨a, b⟩ => ⟨by rw [a, ← hl, List.take_length], b⟩) (fun v hv s e => by subst h0; exact wipeS_in hv e) hn ok hN hk hlo hli ha hsl hf
/-- [elt for tg in it if c]: f tells which items are kept, as what -/
theorem step_filter (f : D → Option D) (hs : ∀ (i : Nat) d, ds[i]? = some d → ∃ δt, wipeS δt (own.map (·.2)) = δ0 ∧ Blk M N sc scope k G.bor (fun Y G' => AG Y G' tg d δ0 δt js ∧ ET Y G' c δt (f d).isSome δt) ∧ ∀ y, f d = some y → Blk M N sc scope k G.bor (fun Y G' => EV Y G' elt δt (.dat y) δt)) :
    Step M N sc scope k G.bor tg elt [c] js (own.map (·.2)) ds (fun i acc δ => acc = (ds.take i).filterMap f ∧ δ = δ0) := by
  rintro i d acc δi hd ⟨rfl, rfl⟩
  obtain ⟨δt, h1, h2, h3⟩ := hs i d hd
  refine ⟨δt, (f d).isSome, δt, fun Y G' g b => ⟨(h2 Y G' g b).1, eq_one (h2 Y G' g b).2⟩, fun q => ⟨?_, h1⟩, fun q => ?_⟩
  · rw [take_succ_of hd, List.filterMap_append]
    cases e : f d with
    | none => simp [e]
    | some y => rw [e] at q; cases q
  · cases e : f d with
    | none => rw [e] at q; cases q
    | some y =>
      refine ⟨y, δt, h3 y e, ?_, h1⟩
      rw [take_succ_of hd, List.filterMap_append]
      simp [e]
theorem ev_lcF (g : Good X M N sc fb k) (own : List (Str × Nat)) (js : List Nat) (f : D → Option D) (hv : ∀ v ∈ own.map (·.2), v ∉ G.bor.map (·.1)) (hi : EI X G tg it δ ds δ1) (h0 : wipeS δ1 (own.map (·.2)) = δ0) (hn : ds.length ≤ 100000)
    (hs : ∀ (i : Nat) d, ds[i]? = some d → ∃ δt, wipeS δt (own.map (·.2)) = δ0 ∧ Blk M N sc scope k G.bor (fun Y G' => AG Y G' tg d δ0 δt js ∧ ET Y G' c δt (f d).isSome δt) ∧ ∀ y, f d = some y → Blk M N sc scope k G.bor (fun Y G' => EV Y G' elt δt (.dat y) δt))
    (hjs : ∀ j ∈ js, j ∈ own.map (·.2) := by decide) (ok : blkC N sc scope own = true := by decide +kernel) (hf : ∀ x, foldedSetIterable it X.env x = pure x := by intro _; rfl) : EV X G (.ListComp elt [⟨tg, it, [c], 0⟩] scope pos) δ (.own (ds.filterMap f)) δ0 :=
  ev_lc g own hv hi hjs _ ⟨rfl, h0⟩ (step_filter f hs) (fun acc δ' ⟨a, b⟩ => ⟨by rw [a, List.take_length], b⟩) (fun v hv s e => by subst h0; exact wipeS_in hv e) hn ok hf
theorem s_asgLcF {P : Out → Prop} {x : Str} {px spos : Pos} (g : Good X M N sc fb k) (n : Nat) (own : List (Str × Nat)) (js : List Nat) (f : D → Option D) (hb : n ∉ G.bor.map (·.1)) (p : P (.nx (δ0.set n (.own (ds.filterMap f))))) (hv : ∀ v ∈ own.map (·.2), v ∉ G.bor.map (·.1)) (hi : EI X G tg it δ ds δ1) (h0 : wipeS δ1 (own.map (·.2)) = δ0) (hn : ds.length ≤ 100000)
    (hs : ∀ (i : Nat) d, ds[i]? = some d → ∃ δt, wipeS δt (own.map (·.2)) = δ0 ∧ Blk M N sc scope k G.bor (fun Y G' => AG Y G' tg d δ0 δt js ∧ ET Y G' c δt (f d).isSome δt) ∧ ∀ y, f d = some y → Blk M N sc scope k G.bor (fun Y G' => EV Y G' elt δt (.dat y) δt))
    (hjs : ∀ j ∈ js, j ∈ own.map (·.2) := by decide) (ok : blkC N sc scope own = true := by decide +kernel) (hN : N[n]? = some x := by rfl) (hk : sc.kind = .function := by rfl) (hlo : sc.names.lookup x = some .local := by rfl) (hli : (px.line == pos.line) = true := by rfl) (ha : (scope.names.any fun (m, k) => m == x && (k == .local || k == .cell)) = false := by decide +kernel) (hsl : spos.line = pos.line := by rfl)
    (hf : ∀ x, foldedSetIterable it X.env x = pure x := by intro _; rfl) : SV1 X W G (.Assign [.Name x px] (.ListComp elt [⟨tg, it, [c], 0⟩] scope pos) spos) δ P :=
  s_asgLc g n own hb p hv hi hjs _ ⟨rfl, h0⟩ (step_filter f hs) (fun acc δ' ⟨a, b⟩ => ⟨by rw [a, List.take_length], b⟩) (fun v hv s e => by subst h0; exact wipeS_in hv e) hn ok hN hk hlo hli ha hsl hf
end

/-! ### == of data -/
mutual
def D.py : D → PyData
  | .non => .none
  | .bl b => .bool b
  | .int i => .int i
  | .str s => .str s
  | .tup ds => .tuple (D.pys ds)
  | .lst ds => .list (D.pys ds)
  | .ins _ _ _ => .none
  | .ref _ => .none
def D.pys : List D → List PyData
  | [] => []
  | d :: ds => d.py :: D.pys ds
end
mutual
def D.flat : D → Bool
  | .tup ds => D.flats ds
  | .lst ds => D.flats ds
  | .ins _ _ _ => false
  | .ref _ => false
  | _ => true
def D.flats : List D → Bool
  | [] => true
  | d :: ds => d.flat && D.flats ds
end
mutual
theorem dp_of {K : PySem.W.Frag} {H : Hp} : ∀ (d : D) (v : V), d.flat = true → Rep K H v d → Dp K H v d.py
  | .non, _, _, h => by cases h; exact .non
  | .bl b, _, _, h => by cases h; exact .bl b
  | .int i, _, _, h => by cases h; exact .int i
  | .str s, _, _, h => by cases h; exact .str s
  | .tup ds, _, f, h => by
    cases h with
    | tup a b => exact .tup a (dps_of ds _ f b)
  | .lst ds, _, f, h => by
    cases h with
    | lst a b => exact .lst a (dps_of ds _ f b)
  | .ins _ _ _, _, f, _ => by cases f
  | .ref _, _, f, _ => by cases f
theorem dps_of {K : PySem.W.Frag} {H : Hp} : ∀ (ds : List D) (vs : List V), D.flats ds = true → RepL K H vs ds → DpAll K H vs (D.pys ds)
  | [], _, _, h => by cases h; exact .nil
  | d :: ds, _, f, h => by
    cases h with
    | cons a b =>
      have f' : (d.flat && D.flats ds) = true := f
      rw [Bool.and_eq_true] at f'
      exact .cons (dp_of d _ f'.1 a) (dps_of ds _ f'.2 b)
end
/-- d may be compared: no instance in it, its texts' signs are code points, nested at most 64 deep -/
def D.ok (d : D) : Prop := d.flat = true ∧ SeqAt.shaped d.py = true
section
variable {X : Cx} {G : Ent} {M : Md} {N : List Str} {sc : Scope} {fb : Str → Bool} {k : Nat} {δ δ1 δ2 δ3 : List Slot} {e a b c e2 : Expr} {d d1 d2 : D} {ds es : List D} {pos p px : Pos} {i j l : Int} {x y : Bool} {r : Slot}
theorem units_of (g : Good X M N sc fb k) : X.A.units + 64 < cLine := g.room.units
theorem ev_eqD (g : Good X M N sc fb k) (ha : EV X G a δ (.dat d1) δ1) (hb : EV X G b δ1 (.dat d2) δ2) (h1 : d1.ok) (h2 : d2.ok) : EV X G (.Compare a [.Eq] [b] pos) δ (.dat (.bl (PyData.eqv d1.py d2.py))) δ2 :=
  ev_cmp (op_eqD (units_of g)) (behind _ (by decide) (by decide)) ha hb fun σ x y B H S rx ry Q q =>
    ⟨_, _, dp_of _ _ h1.1 (rx.up S.hb), dp_of _ _ h2.1 (ry.up S.hb), h1.2, h2.2, q _ (.bl _)⟩
theorem et_eqD (g : Good X M N sc fb k) (ha : EV X G a δ (.dat d1) δ1) (hb : EV X G b δ1 (.dat d2) δ2) (h1 : d1.ok) (h2 : d2.ok) : ET X G (.Compare a [.Eq] [b] pos) δ (PyData.eqv d1.py d2.py) δ2 :=
  et_cmp (op_eqD (units_of g)) (behind _ (by decide) (by decide)) ha hb fun σ x y B H S rx ry Q q =>
    ⟨_, _, dp_of _ _ h1.1 (rx.up S.hb), dp_of _ _ h2.1 (ry.up S.hb), h1.2, h2.2, q _ (.bl _)⟩
theorem ev_neD (g : Good X M N sc fb k) (ha : EV X G a δ (.dat d1) δ1) (hb : EV X G b δ1 (.dat d2) δ2) (h1 : d1.ok) (h2 : d2.ok) : EV X G (.Compare a [.NotEq] [b] pos) δ (.dat (.bl (!PyData.eqv d1.py d2.py))) δ2 :=
  ev_cmp (op_neD (units_of g)) (behind _ (by decide) (by decide)) ha hb fun σ x y B H S rx ry Q q =>
    ⟨_, _, dp_of _ _ h1.1 (rx.up S.hb), dp_of _ _ h2.1 (ry.up S.hb), h1.2, h2.2, q _ (.bl _)⟩
theorem et_neD (g : Good X M N sc fb k) (ha : EV X G a δ (.dat d1) δ1) (hb : EV X G b δ1 (.dat d2) δ2) (h1 : d1.ok) (h2 : d2.ok) : ET X G (.Compare a [.NotEq] [b] pos) δ (!PyData.eqv d1.py d2.py) δ2 :=
  et_cmp (op_neD (units_of g)) (behind _ (by decide) (by decide)) ha hb fun σ x y B H S rx ry Q q =>
    ⟨_, _, dp_of _ _ h1.1 (rx.up S.hb), dp_of _ _ h2.1 (ry.up S.hb), h1.2, h2.2, q _ (.bl _)⟩
/-- is True, is False, is not .. -/
theorem ev_isB (ha : EV X G a δ (.dat (.bl x)) δ1) (hb : EV X G b δ1 (.dat (.bl y)) δ2) : EV X G (.Compare a [.Is] [b] pos) δ (.dat (.bl (decide (x = y)))) δ2 :=
  ev_cmp op_isBl (behind _ (by decide) (by decide)) ha hb fun σ u v B H S ru rv Q q => by
    cases bl_of ru; cases bl_of rv
    exact ⟨x, y, rfl, rfl, q _ (.bl _)⟩
theorem et_isB (ha : EV X G a δ (.dat (.bl x)) δ1) (hb : EV X G b δ1 (.dat (.bl y)) δ2) : ET X G (.Compare a [.Is] [b] pos) δ (decide (x = y)) δ2 :=
  et_cmp op_isBl (behind _ (by decide) (by decide)) ha hb fun σ u v B H S ru rv Q q => by
    cases bl_of ru; cases bl_of rv
    exact ⟨x, y, rfl, rfl, q _ (.bl _)⟩
theorem ev_notB (ha : EV X G a δ (.dat (.bl x)) δ1) (hb : EV X G b δ1 (.dat (.bl y)) δ2) : EV X G (.Compare a [.IsNot] [b] pos) δ (.dat (.bl (!decide (x = y)))) δ2 :=
  ev_cmp op_notBl (behind _ (by decide) (by decide)) ha hb fun σ u v B H S ru rv Q q => by
    cases bl_of ru; cases bl_of rv
    exact ⟨x, y, rfl, rfl, q _ (.bl _)⟩
theorem et_notB (ha : EV X G a δ (.dat (.bl x)) δ1) (hb : EV X G b δ1 (.dat (.bl y)) δ2) : ET X G (.Compare a [.IsNot] [b] pos) δ (!decide (x = y)) δ2 :=
  et_cmp op_notBl (behind _ (by decide) (by decide)) ha hb fun σ u v B H S ru rv Q q => by
    cases bl_of ru; cases bl_of rv
    exact ⟨x, y, rfl, rfl, q _ (.bl _)⟩
/-- a ? b ? c of whole numbers, what is asked behind the first answer leaving the slots -/
theorem ev_chain {op op' : CmpOp} {r1 r2 : R2} {f1 f2 : Int → Int → Bool} (h1 : OpR X (compareOp op) r1) (h2 : OpR X (compareOp op') r2) (e1 : ∀ i j (H : Hp) (Q : VK), Q (.bl (f1 i j)) H → r1 (.int i) (.int j) H Q) (e2 : ∀ i j (H : Hp) (Q : VK), Q (.bl (f2 i j)) H → r2 (.int i) (.int j) H Q)
    (ha : EV X G a δ (.dat (.int i)) δ1) (hb : EV X G b δ1 (.dat (.int j)) δ2) (hc : f1 i j = true → EV X G c δ2 (.dat (.int l)) δ2) (hm : lastMarks [op, op'] [b, c] = false := by with_unfolding_all rfl) : EV X G (.Compare a [op, op'] [b, c] pos) δ (.dat (.bl (f1 i j && f2 j l))) δ2 := fun σ B H S Q q =>
  ⟨_, pe_chain h1 h2 pe_cE pe_cE pe_cE hm, ha σ B H S _ fun u B1 H1 S1 s1 r1' => hb σ B1 H1 S1 _ fun v B2 H2 S2 s2 r2' => by
    cases int_of r1'; cases int_of r2'
    refine e1 _ _ _ _ ⟨_, rfl, ?_⟩
    cases h : f1 i j with
    | true =>
      rw [if_pos rfl]
      refine hc h σ B2 H2 S2 _ fun w B3 H3 S3 s3 r3 => ?_
      cases int_of r3
      refine e2 _ _ _ _ (q _ B3 H3 S3 ((s1.trans s2).trans s3) ?_)
      rw [h]
      exact .bl _
    | false =>
      rw [if_neg Bool.false_ne_true]
      refine q _ B2 H2 S2 (s1.trans s2) ?_
      rw [h]
      exact .bl _⟩
theorem et_chain {op op' : CmpOp} {r1 r2 : R2} {f1 f2 : Int → Int → Bool} (h1 : OpR X (compareOp op) r1) (h2 : OpR X (compareOp op') r2) (e1 : ∀ i j (H : Hp) (Q : VK), Q (.bl (f1 i j)) H → r1 (.int i) (.int j) H Q) (e2 : ∀ i j (H : Hp) (Q : VK), Q (.bl (f2 i j)) H → r2 (.int i) (.int j) H Q)
    (ha : EV X G a δ (.dat (.int i)) δ1) (hb : EV X G b δ1 (.dat (.int j)) δ2) (hc : f1 i j = true → EV X G c δ2 (.dat (.int l)) δ2) (hm : lastMarks [op, op'] [b, c] = false := by with_unfolding_all rfl) : ET X G (.Compare a [op, op'] [b, c] pos) δ (f1 i j && f2 j l) δ2 := fun σ B H S Q q =>
  ⟨_, pt_chain h1 h2 pe_cE pe_cE pe_cE hm, ha σ B H S _ fun u B1 H1 S1 s1 r1' => hb σ B1 H1 S1 _ fun v B2 H2 S2 s2 r2' => by
    cases int_of r1'; cases int_of r2'
    refine e1 _ _ _ _ ⟨_, rfl, ?_⟩
    cases h : f1 i j with
    | true =>
      rw [if_pos rfl]
      refine hc h σ B2 H2 S2 _ fun w B3 H3 S3 s3 r3 => ?_
      cases int_of r3
      refine e2 _ _ _ _ ⟨_, rfl, ?_⟩
      have := q B3 H3 S3 ((s1.trans s2).trans s3)
      rw [h] at this
      exact this
    | false =>
      rw [if_neg Bool.false_ne_true]
      have := q B2 H2 S2 (s1.trans s2)
      rw [h] at this
      exact ⟨_, rfl, this⟩⟩
theorem et_leLt (ha : EV X G a δ (.dat (.int i)) δ1) (hb : EV X G b δ1 (.dat (.int j)) δ2) (hc : i ≤ j → EV X G c δ2 (.dat (.int l)) δ2) (hm : lastMarks [.LtE, .Lt] [b, c] = false := by with_unfolding_all rfl) : ET X G (.Compare a [.LtE, .Lt] [b, c] pos) δ (decide (i ≤ j) && decide (j < l)) δ2 :=
  et_chain (f1 := fun i j => decide (i ≤ j)) (f2 := fun i j => decide (i < j)) op_le op_lt (fun _ _ _ _ q => ⟨_, _, rfl, rfl, q⟩) (fun _ _ _ _ q => ⟨_, _, rfl, rfl, q⟩) ha hb (fun h => hc (of_decide_eq_true h)) hm
theorem et_leLe (ha : EV X G a δ (.dat (.int i)) δ1) (hb : EV X G b δ1 (.dat (.int j)) δ2) (hc : i ≤ j → EV X G c δ2 (.dat (.int l)) δ2) (hm : lastMarks [.LtE, .LtE] [b, c] = false := by with_unfolding_all rfl) : ET X G (.Compare a [.LtE, .LtE] [b, c] pos) δ (decide (i ≤ j) && decide (j ≤ l)) δ2 :=
  et_chain (f1 := fun i j => decide (i ≤ j)) (f2 := fun i j => decide (i ≤ j)) op_le op_le (fun _ _ _ _ q => ⟨_, _, rfl, rfl, q⟩) (fun _ _ _ _ q => ⟨_, _, rfl, rfl, q⟩) ha hb (fun h => hc (of_decide_eq_true h)) hm
theorem ev_leLt (ha : EV X G a δ (.dat (.int i)) δ1) (hb : EV X G b δ1 (.dat (.int j)) δ2) (hc : i ≤ j → EV X G c δ2 (.dat (.int l)) δ2) (hm : lastMarks [.LtE, .Lt] [b, c] = false := by with_unfolding_all rfl) : EV X G (.Compare a [.LtE, .Lt] [b, c] pos) δ (.dat (.bl (decide (i ≤ j) && decide (j < l)))) δ2 :=
  ev_chain (f1 := fun i j => decide (i ≤ j)) (f2 := fun i j => decide (i < j)) op_le op_lt (fun _ _ _ _ q => ⟨_, _, rfl, rfl, q⟩) (fun _ _ _ _ q => ⟨_, _, rfl, rfl, q⟩) ha hb (fun h => hc (of_decide_eq_true h)) hm
theorem ev_leLe (ha : EV X G a δ (.dat (.int i)) δ1) (hb : EV X G b δ1 (.dat (.int j)) δ2) (hc : i ≤ j → EV X G c δ2 (.dat (.int l)) δ2) (hm : lastMarks [.LtE, .LtE] [b, c] = false := by with_unfolding_all rfl) : EV X G (.Compare a [.LtE, .LtE] [b, c] pos) δ (.dat (.bl (decide (i ≤ j) && decide (j ≤ l)))) δ2 :=
  ev_chain (f1 := fun i j => decide (i ≤ j)) (f2 := fun i j => decide (i ≤ j)) op_le op_le (fun _ _ _ _ q => ⟨_, _, rfl, rfl, q⟩) (fun _ _ _ _ q => ⟨_, _, rfl, rfl, q⟩) ha hb (fun h => hc (of_decide_eq_true h)) hm

/-! ### lists by operators -/
def rCatR (K : PySem.W.Frag) : R2 := fun x y H Q => ∃ l b xs zs, x = .ref l ∧ y = .ref b ∧ SqL K H l xs ∧ SqL K H b zs ∧ xs.length + zs.length ≤ sizeLine ∧ ∀ p, H p = none → Q (.ref p) (upd H p (.lst (xs ++ zs)))
open PyProof.Rows in
theorem op_catR : OpR X (binaryOp .Add) (rCatR X.K) := by
  rintro pins s σ H x y v u Q I rx ry ⟨l, b, xs, zs, rfl, rfl, hH, hB, hz, q⟩
  cases rx; cases ry
  obtain ⟨its, r, pl, _⟩ := I.list hH
  obtain ⟨its2, r2, pl2, _⟩ := I.list hB
  have l1 := r.length
  have l2 := r2.length
  obtain ⟨⟨cls, dd, data, sl⟩, ho, hc, n, hd⟩ := pl.isList
  obtain ⟨⟨cls2, dd2, data2, sl2⟩, ho2, hc2, n2, hd2⟩ := pl2.isList
  simp only at hc hd hc2 hd2
  subst hc hd hc2 hd2
  refine concat_meets ⟨_, ho, rfl⟩ ⟨_, ho2, rfl⟩ noFill_list_add seq_list_add PySem.F.slot_list_add PySem.F.entry_list_add (PySem.F.args_list_add_2 _ _) (list_addW l b its.toArray its2.toArray n n2 dd dd2 sl sl2 (by simp only [List.size_toArray]; omega)) ⟨ho, ho2, ?_⟩
  rw [show its.toArray ++ its2.toArray = (its ++ its2).toArray from by simp]
  exact ⟨.ref _, _, I.lnew (t' := s.toks) (r.append r2) (by simp only [List.length_append]; omega), rfl, q _ I.fresh⟩
theorem ev_cat (ha : EV X G a δ (.dat (.lst ds)) δ1) (hb : EV X G b δ1 (.dat (.lst es)) δ2) (hn : ds.length + es.length ≤ 100000) : EV X G (.BinOp a .Add b pos) δ (.own (ds ++ es)) δ2 := fun σ B H S Q q =>
  ⟨_, pe_op op_catR pe_cE pe_cE, ha σ B H S _ fun x B1 H1 S1 s1 r1 => hb σ B1 H1 S1 _ fun y B2 H2 S2 s2 r2 => by
    obtain ⟨l, vs, rfl, h1, h2⟩ := lst_of (Rep.up r1 s2)
    obtain ⟨m, ws, rfl, h3, h4⟩ := lst_of r2
    refine ⟨l, m, vs, ws, rfl, rfl, sql_mono S2.hb h1, sql_mono S2.hb h3, Nat.le_trans (show vs.length + ws.length ≤ 100000 by rw [h2.length, h4.length]; exact hn) (by decide), fun p hp => ?_⟩
    obtain ⟨S3, r3⟩ := own_new S2 hp (h2.append h4)
    exact q _ _ _ S3 (s1.trans s2) r3⟩
theorem Sat.hold {K : PySem.W.Frag} {σ : St} {B H : Hp} {L : Addr} {o : HO} (S : Sat K G δ σ B H) (F : Fresh G δ σ B L) (h : H L = some o) : Sat K (G.add L o) δ σ B H ∧ L ∉ G.bor.map (·.2) ∧ G.B0 L = none := by
  have nb : L ∉ G.bor.map (·.2) := fun m => by
    obtain ⟨p, hp, e⟩ := List.mem_map.mp m
    obtain ⟨a, s, b, c⟩ := S.bor p hp
    exact F.ap _ s b c (by rw [a, e])
  have b0 : G.B0 L = none := S.b0.free F.nb
  refine ⟨⟨S.hb, S.b0, fun a u e m => ?_, fun a u e => ?_, S.len, S.dat, fun i s e m => ?_, S.dis, S.bor⟩, nb, b0⟩
  · have e' : upd G.H0 L o a = some u := e
    by_cases z : a = L
    · subst z; rw [upd_same] at e'; rw [h]; exact e'
    · rw [upd_ne z] at e'; exact S.fr a u e' m
  · have e' : upd G.H0 L o a = some u := e
    by_cases z : a = L
    · subst z; show B a = G.B0 a; rw [F.nb, b0]
    · rw [upd_ne z] at e'; exact S.nb a u e'
  · obtain ⟨l, a, b, c, d⟩ := S.mu i s e m
    refine ⟨l, a, b, c, ?_⟩
    rcases d with d | d
    · left
      have z : l ≠ L := fun z => by subst z; exact F.ap i s e m a
      show upd G.H0 L o l = none
      rw [upd_ne z]; exact d
    · exact .inr d
/-- a new list times a number -/
theorem ev_rep (ha : EV X G a δ (.own ds) δ1) (hb : ∀ G' : Ent, G'.bor = G.bor → EV X G' b δ1 (.dat (.int i)) δ2) (hn : 0 ≤ i ∧ i ≤ 100000) (hl : ds.length * i.toNat ≤ 100000) : EV X G (.BinOp a .Mult b pos) δ (.own (List.replicate i.toNat ds).flatten) δ2 := fun σ B H S Q q =>
  ⟨_, pe_op op_rep pe_cE pe_cE, ha σ B H S _ fun x B1 H1 S1 s1 r1 => by
    obtain ⟨l, vs, rfl, h1, h2, F⟩ := r1
    obtain ⟨S2, nb, b0⟩ := S1.hold F h1
    refine hb (G.add l (.lst vs)) rfl σ B1 H1 S2 _ fun y B3 H3 S3 s3 r3 => ?_
    cases int_of r3
    have hl3 : H3 l = some (.lst vs) := S3.fr l _ (by show upd G.H0 l _ l = _; rw [upd_same]) nb
    refine ⟨l, i, vs, rfl, rfl, hl3, by omega, by omega, Nat.le_trans (show vs.length * i.toNat ≤ 100000 by rw [h2.length]; exact hl) (by decide), fun p hp => ?_⟩
    obtain ⟨S4, r4⟩ := own_new (S3.close nb F.n0 b0).1 hp (reps h2.length (h2.up s3) i.toNat)
    exact q _ _ _ S4 (s1.trans s3) r4⟩
where
  reps {K : PySem.W.Frag} {B : Hp} {vs : List V} {ds : List D} (hl : vs.length = ds.length) (h : RepL K B vs ds) : ∀ n : Nat, RepL K B (List.replicate n vs).flatten (List.replicate n ds).flatten
    | 0 => .nil
    | n + 1 => by
      rw [List.replicate_succ, List.replicate_succ, List.flatten_cons, List.flatten_cons]
      exact h.append (reps hl h n)

/-! ### in -/
theorem ev_inS {ch : Nat} {z : Str} (ha : EV X G a δ (.dat (.str ⟨#[ch]⟩)) δ1) (hb : EV X G b δ1 (.dat (.str z)) δ2) (hm : behindInMarks .In b = false := by rfl) : EV X G (.Compare a [.In] [b] pos) δ (.dat (.bl (decide (ch ∈ z.cps.toList)))) δ2 :=
  ev_cmp op_in_sign hm ha hb fun σ x y B H S rx ry Q q => by
    cases str_of rx; cases str_of ry
    exact ⟨ch, z, rfl, rfl, q _ (.bl _)⟩
theorem et_inS {ch : Nat} {z : Str} (ha : EV X G a δ (.dat (.str ⟨#[ch]⟩)) δ1) (hb : EV X G b δ1 (.dat (.str z)) δ2) (hm : behindInMarks .In b = false := by rfl) : ET X G (.Compare a [.In] [b] pos) δ (decide (ch ∈ z.cps.toList)) δ2 :=
  et_cmp op_in_sign hm ha hb fun σ x y B H S rx ry Q q => by
    cases str_of rx; cases str_of ry
    exact ⟨ch, z, rfl, rfl, q _ (.bl _)⟩
theorem ev_niS {ch : Nat} {z : Str} (ha : EV X G a δ (.dat (.str ⟨#[ch]⟩)) δ1) (hb : EV X G b δ1 (.dat (.str z)) δ2) (hm : behindInMarks .NotIn b = false := by rfl) : EV X G (.Compare a [.NotIn] [b] pos) δ (.dat (.bl (!decide (ch ∈ z.cps.toList)))) δ2 :=
  ev_cmp op_notIn_sign hm ha hb fun σ x y B H S rx ry Q q => by
    cases str_of rx; cases str_of ry
    exact ⟨ch, z, rfl, rfl, q _ (.bl _)⟩
theorem et_niS {ch : Nat} {z : Str} (ha : EV X G a δ (.dat (.str ⟨#[ch]⟩)) δ1) (hb : EV X G b δ1 (.dat (.str z)) δ2) (hm : behindInMarks .NotIn b = false := by rfl) : ET X G (.Compare a [.NotIn] [b] pos) δ (!decide (ch ∈ z.cps.toList)) δ2 :=
  et_cmp op_notIn_sign hm ha hb fun σ x y B H S rx ry Q q => by
    cases str_of rx; cases str_of ry
    exact ⟨ch, z, rfl, rfl, q _ (.bl _)⟩
/-- a text in a list of texts -/
theorem strs_eq {K : PySem.W.Frag} {B : Hp} : ∀ {zs : List Str} {vs : List V}, RepL K B vs (zs.map D.str) → vs = zs.map V.str
  | [], _, h => by cases h; rfl
  | z :: zs, _, h => by
    cases h with
    | cons a b =>
      cases a
      rw [strs_eq b]; rfl
theorem inV_strs (z : Str) (zs : List Str) : inV (.str z) (zs.map V.str) = decide (z ∈ zs) ∧ (zs.map V.str).all flatV = true := by
  constructor
  · unfold inV
    rw [List.any_map]
    induction zs with
    | nil => simp
    | cons y ys ih =>
      rw [List.any_cons, ih]
      show (decide (y = z) || _) = _
      by_cases h : z = y
      · subst h; simp
      · have h' : ¬ y = z := fun e => h e.symm
        simp [h, h']
  · rw [List.all_map]
    exact List.all_eq_true.mpr fun y _ => rfl
theorem ev_inL {z : Str} {zs : List Str} (ha : EV X G a δ (.dat (.str z)) δ1) (hb : EV X G b δ1 (.dat (.lst (zs.map D.str))) δ2) (hm : behindInMarks .In b = false := by rfl) : EV X G (.Compare a [.In] [b] pos) δ (.dat (.bl (decide (z ∈ zs)))) δ2 :=
  ev_cmp op_in_seq hm ha hb fun σ x y B H S rx ry Q q => by
    cases str_of rx
    obtain ⟨p, vs, rfl, h1, h2⟩ := lst_of ry
    have e := strs_eq h2
    subst e
    refine ⟨p, _, rfl, .inl (S.hb.seq h1), rfl, (inV_strs z zs).2, ?_⟩
    show Q (.bl (inV (.str z) (zs.map V.str))) H
    rw [(inV_strs z zs).1]
    exact q _ (.bl _)
theorem et_inL {z : Str} {zs : List Str} (ha : EV X G a δ (.dat (.str z)) δ1) (hb : EV X G b δ1 (.dat (.lst (zs.map D.str))) δ2) (hm : behindInMarks .In b = false := by rfl) : ET X G (.Compare a [.In] [b] pos) δ (decide (z ∈ zs)) δ2 :=
  et_cmp op_in_seq hm ha hb fun σ x y B H S rx ry Q q => by
    cases str_of rx
    obtain ⟨p, vs, rfl, h1, h2⟩ := lst_of ry
    have e := strs_eq h2
    subst e
    refine ⟨p, _, rfl, .inl (S.hb.seq h1), rfl, (inV_strs z zs).2, ?_⟩
    show Q (.bl (inV (.str z) (zs.map V.str))) H
    rw [(inV_strs z zs).1]
    exact q _ (.bl _)
theorem inV_ints (z : Int) (zs : List Int) : inV (.int z) (zs.map V.int) = decide (z ∈ zs) ∧ (zs.map V.int).all flatV = true := by
  constructor
  · unfold inV
    rw [List.any_map]
    induction zs with
    | nil => simp
    | cons y ys ih =>
      rw [List.any_cons, ih]
      show (decide (y = z) || _) = _
      by_cases h : z = y
      · subst h; simp
      · have h' : ¬ y = z := fun e => h e.symm
        simp [h, h']
  · rw [List.all_map]
    exact List.all_eq_true.mpr fun y _ => rfl
theorem ev_niT {z : Int} {zs : List Int} (ha : EV X G a δ (.dat (.int z)) δ1) (hb : EV X G b δ1 (.dat (.tup (zs.map D.int))) δ2) (hm : behindInMarks .NotIn b = false := by rfl) : EV X G (.Compare a [.NotIn] [b] pos) δ (.dat (.bl (!decide (z ∈ zs)))) δ2 :=
  ev_cmp op_notIn_seq hm ha hb fun σ x y B H S rx ry Q q => by
    cases int_of rx
    obtain ⟨p, vs, rfl, h1, h2⟩ := tup_of ry
    have e := RepL.ints_eq h2
    subst e
    refine ⟨p, _, rfl, .inr (sqt_mono S.hb h1), rfl, (inV_ints z zs).2, ?_⟩
    show Q (.bl (!inV (.int z) (zs.map V.int))) H
    rw [(inV_ints z zs).1]
    exact q _ (.bl _)

theorem et_niT {z : Int} {zs : List Int} (ha : EV X G a δ (.dat (.int z)) δ1) (hb : EV X G b δ1 (.dat (.tup (zs.map D.int))) δ2) (hm : behindInMarks .NotIn b = false := by rfl) : ET X G (.Compare a [.NotIn] [b] pos) δ (!decide (z ∈ zs)) δ2 :=
  et_cmp op_notIn_seq hm ha hb fun σ x y B H S rx ry Q q => by
    cases int_of rx
    obtain ⟨p, vs, rfl, h1, h2⟩ := tup_of ry
    have e := RepL.ints_eq h2
    subst e
    refine ⟨p, _, rfl, .inr (sqt_mono S.hb h1), rfl, (inV_ints z zs).2, ?_⟩
    show Q (.bl (!inV (.int z) (zs.map V.int))) H
    rw [(inV_ints z zs).1]
    exact q _ (.bl _)

/-! ### isinstance, against built-in types -/
def tyD : D → String
  | .non => "NoneType"
  | .bl _ => "bool"
  | .int _ => "int"
  | .str _ => "str"
  | .tup _ => "tuple"
  | .lst _ => "list"
  | .ins _ _ _ => ""
  | .ref _ => ""
def D.noIns : D → Bool
  | .ins _ _ _ => false
  | .ref _ => false
  | _ => true
theorem tyx_of {K : PySem.W.Frag} {H : Hp} {v : V} (h : Rep K H v d) (n : d.noIns = true) : TyX K H v (.type (tyD d)) := by
  cases h with
  | non => exact .base .non
  | bl b => exact .base (.bl b)
  | int i => exact .base (.int i)
  | str s => exact .base (.str s)
  | tup a b =>
    rcases a with (a | ⟨o, a⟩) | ⟨o, its, n, a1, a2, _⟩
    · exact .base (.tup a)
    · exact .fTuple a
    · exact .kTuple a1 a2
  | lst a b =>
    rcases a with (a | ⟨o, a⟩) | ⟨o, its, n, a1, a2, _⟩
    · exact .base (.lst a)
    · exact .base (.frz a)
    · exact .kList a1 a2
  | ins a b c => cases n
  | ref a => cases n
/-- isinstance(e, T), T the name of a built-in type -/
theorem ev_isi (g : Good X M N sc fb k) {T : Str} {tn : String} (hm : M.mg "isinstance" = none) (hT : M.mg T = none) (hv : bootBuiltins T = some (.type tn)) (ha : EV X G e δ (.dat d) δ1) (hn : d.noIns = true) (hk : kitB (tyD d) tn = some x)
    (hg : sc.names.lookup ("isinstance" : Str) = some .globalImplicit := by rfl) (hg2 : sc.names.lookup T = some .globalImplicit := by rfl) (hn2 : T ≠ "__name__" := by decide) (hd2 : (T == ("__debug__" : Str)) = false := by decide)
    (he : starEach [e, .Name T px] X.env = (false, eval e X.env) :: starEach [.Name T px] X.env := by rfl) (he2 : starEach [.Name T px] X.env = (false, eval (.Name T px) X.env) :: starEach [] X.env := by rfl) (hpl : (backTo pos (starEach [.Name T px] X.env)).any (·.1) = false := by rfl) :
    EV X G (.Call (.Name "isinstance" p) [e, .Name T px] [] pos) δ (.dat (.bl x)) δ1 := fun σ B H S Q q =>
  ⟨_, pe_callB call_isi (gl_of g hg) (mn_of g hm) (by decide +kernel) (pa_cons pe_cE (pa_cons (pe_bltn (v := .ty tn) (gl_of g hg2) (mn_of g hT) hv rfl hn2 hd2) pa_nil he2) he) (by decide) (by decide) he hpl, ha σ B H S _ fun v B1 H1 S1 s1 r1 =>
    ⟨v, .ty tn, _, _, x, rfl, .ty tn, tyx_of (Rep.up r1 S1.hb) hn, kit_ty hk, q _ B1 H1 S1 s1 (.bl _)⟩⟩
/-- isinstance(e, (T, U)) -/
theorem ev_isi2 (g : Good X M N sc fb k) {T U : Str} {tn un : String} {kk : Nat} {pt px2 : Pos} (hm : M.mg "isinstance" = none) (hT : M.mg T = none) (hU : M.mg U = none) (hv : bootBuiltins T = some (.type tn)) (hv2 : bootBuiltins U = some (.type un)) (ha : EV X G e δ (.dat d) δ1) (hn : d.noIns = true)
    (hk : kitB (tyD d) tn = some x) (hk2 : kitB (tyD d) un = some y)
    (hg : sc.names.lookup ("isinstance" : Str) = some .globalImplicit := by rfl) (hg2 : sc.names.lookup T = some .globalImplicit := by rfl) (hg3 : sc.names.lookup U = some .globalImplicit := by rfl) (hn2 : T ≠ "__name__" := by decide) (hd2 : (T == ("__debug__" : Str)) = false := by decide) (hn3 : U ≠ "__name__" := by decide) (hd3 : (U == ("__debug__" : Str)) = false := by decide)
    (he : starEach [e, .Tuple [.Name T px, .Name U px2] kk pt] X.env = (false, eval e X.env) :: starEach [.Tuple [.Name T px, .Name U px2] kk pt] X.env := by rfl) (he2 : starEach [.Tuple [.Name T px, .Name U px2] kk pt] X.env = (false, eval (.Tuple [.Name T px, .Name U px2] kk pt) X.env) :: starEach [] X.env := by rfl)
    (he3 : starEach [.Name T px, .Name U px2] X.env = (false, eval (.Name T px) X.env) :: starEach [.Name U px2] X.env := by rfl) (he4 : starEach [.Name U px2] X.env = (false, eval (.Name U px2) X.env) :: starEach [] X.env := by rfl)
    (hpl : (backTo pos (starEach [.Tuple [.Name T px, .Name U px2] kk pt] X.env)).any (·.1) = false := by rfl) :
    EV X G (.Call (.Name "isinstance" p) [e, .Tuple [.Name T px, .Name U px2] kk pt] [] pos) δ (.dat (.bl (x || y))) δ1 := fun σ B H S Q q =>
  ⟨_, pe_callB call_isiT (gl_of g hg) (mn_of g hm) (by decide +kernel) (pa_cons pe_cE (pa_cons (pe_tup (pa_cons (pe_bltn (v := .ty tn) (gl_of g hg2) (mn_of g hT) hv rfl hn2 hd2) (pa_cons (pe_bltn (v := .ty un) (gl_of g hg3) (mn_of g hU) hv2 rfl hn3 hd3) pa_nil he4) he3)) pa_nil he2) he) (by decide) (by decide) he hpl, ha σ B H S _ fun v B1 H1 S1 s1 r1 =>
    ⟨by show 2 ≤ sizeLine; decide, fun p hp => by
      obtain ⟨S2, s2⟩ := S1.newB (o := .tup [.ty tn, .ty un]) hp
      refine ⟨v, p, _, _, [.type tn, .type un], x || y, rfl, upd_same, .cons (.ty tn) (.cons (.ty un) .nil), tyx_of (Rep.up (Rep.up r1 s2) S2.hb) hn, kitAny_cons (kit_ty hk) (fun e => kitAny_cons (kit_ty hk2) (fun e2 => ?_) (fun e2 => ?_)) (fun e => ?_), q _ _ _ S2 (s1.trans s2) (.bl _)⟩
      · subst e e2; rfl
      · subst e2; simp
      · subst e; rfl⟩⟩
end
end DL

namespace DL
open PySem L2
/-- the built-in names that the module leaves as they are; gcd is math's -/
structure Bn (M : Md) : Prop where
  len : M.mg "len" = none
  int : M.mg "int" = none
  abs : M.mg "abs" = none
  min : M.mg "min" = none
  sum : M.mg "sum" = none
  all : M.mg "all" = none
  any : M.mg "any" = none
  tuple : M.mg "tuple" = none
  list : M.mg "list" = none
  bool : M.mg "bool" = none
  str : M.mg "str" = none
  isinstance : M.mg "isinstance" = none
  range : M.mg "range" = none
  enumerate : M.mg "enumerate" = none
  zip : M.mg "zip" = none
  gcd : M.mg "gcd" = some (.builtin "math.gcd")
theorem nob {G : Ent} {as : List Slot} (h : ∀ i ∈ G.bor.map (·.1), i ∈ muIdx as 0) (e : muIdx as 0 = []) : ∀ i, i ∉ G.bor.map (·.1) := fun i hi => by
  have := h i hi
  rw [e] at this
  cases this
theorem endD {as os δ : List Slot} {r r' : Slot} (h : r' = r) (e : muIdx as 0 = [] := by rfl) : Ends0 as (.ret r' os) (.rt r δ) := ⟨h, fun i hi => by rw [e] at hi; cases hi⟩
theorem endN {as os δ : List Slot} (e : muIdx as 0 = [] := by rfl) : Ends0 as (.ret (.dat .non) os) (.nx δ) := ⟨rfl, fun i hi => by rw [e] at hi; cases hi⟩
section
variable {X : Cx} {G : Ent} {M : Md} {N : List Str} {sc : Scope} {fb : Str → Bool} {k j : Nat} {δ δ1 δ2 δ3 δ4 δ5 δ6 : List Slot} {a b c d e f : Expr} {d1 d2 d3 d4 d5 d6 : D} {pos p : Pos} {x : Str} {S : PSpec} {r : Slot} {os : List Slot} {CX : CXT}
theorem ev_call1 (g : Good X M N sc fb k) (cf : Fn M CX x j S) (ha : EV X G a δ (.dat d1) δ1) (hs : S [.dat d1] (.ret r os)) (hj : j ≤ k := by decide) (hg : sc.names.lookup x = some .globalImplicit := by rfl) (hdb : (x == ("__debug__" : Str)) = false := by decide)
    (e1 : starEach [a] X.env = (false, eval a X.env) :: starEach [] X.env := by rfl) (hpl : (backTo pos (starEach [] X.env)).any (·.1) = false := by rfl) : EV X G (.Call (.Name x p) [a] [] pos) δ r δ1 :=
  ev_call g cf hj (ea_cons ha ea_nil e1) hs hg hdb e1 hpl
theorem ev_call2 (g : Good X M N sc fb k) (cf : Fn M CX x j S) (ha : EV X G a δ (.dat d1) δ1) (hb : EV X G b δ1 (.dat d2) δ2) (hs : S [.dat d1, .dat d2] (.ret r os)) (hj : j ≤ k := by decide) (hg : sc.names.lookup x = some .globalImplicit := by rfl) (hdb : (x == ("__debug__" : Str)) = false := by decide)
    (e1 : starEach [a, b] X.env = (false, eval a X.env) :: starEach [b] X.env := by rfl) (e2 : starEach [b] X.env = (false, eval b X.env) :: starEach [] X.env := by rfl) (hpl : (backTo pos (starEach [b] X.env)).any (·.1) = false := by rfl) : EV X G (.Call (.Name x p) [a, b] [] pos) δ r δ2 :=
  ev_call g cf hj (ea_cons ha (ea_cons hb ea_nil e2) e1) hs hg hdb e1 hpl
theorem ev_call3 (g : Good X M N sc fb k) (cf : Fn M CX x j S) (ha : EV X G a δ (.dat d1) δ1) (hb : EV X G b δ1 (.dat d2) δ2) (hc : EV X G c δ2 (.dat d3) δ3) (hs : S [.dat d1, .dat d2, .dat d3] (.ret r os)) (hj : j ≤ k := by decide) (hg : sc.names.lookup x = some .globalImplicit := by rfl) (hdb : (x == ("__debug__" : Str)) = false := by decide)
    (e1 : starEach [a, b, c] X.env = (false, eval a X.env) :: starEach [b, c] X.env := by rfl) (e2 : starEach [b, c] X.env = (false, eval b X.env) :: starEach [c] X.env := by rfl) (e3 : starEach [c] X.env = (false, eval c X.env) :: starEach [] X.env := by rfl) (hpl : (backTo pos (starEach [b, c] X.env)).any (·.1) = false := by rfl) : EV X G (.Call (.Name x p) [a, b, c] [] pos) δ r δ3 :=
  ev_call g cf hj (ea_cons ha (ea_cons hb (ea_cons hc ea_nil e3) e2) e1) hs hg hdb e1 hpl
theorem ev_call4 (g : Good X M N sc fb k) (cf : Fn M CX x j S) (ha : EV X G a δ (.dat d1) δ1) (hb : EV X G b δ1 (.dat d2) δ2) (hc : EV X G c δ2 (.dat d3) δ3) (hd : EV X G d δ3 (.dat d4) δ4) (hs : S [.dat d1, .dat d2, .dat d3, .dat d4] (.ret r os)) (hj : j ≤ k := by decide) (hg : sc.names.lookup x = some .globalImplicit := by rfl) (hdb : (x == ("__debug__" : Str)) = false := by decide)
    (e1 : starEach [a, b, c, d] X.env = (false, eval a X.env) :: starEach [b, c, d] X.env := by rfl) (e2 : starEach [b, c, d] X.env = (false, eval b X.env) :: starEach [c, d] X.env := by rfl) (e3 : starEach [c, d] X.env = (false, eval c X.env) :: starEach [d] X.env := by rfl) (e4 : starEach [d] X.env = (false, eval d X.env) :: starEach [] X.env := by rfl) (hpl : (backTo pos (starEach [b, c, d] X.env)).any (·.1) = false := by rfl) : EV X G (.Call (.Name x p) [a, b, c, d] [] pos) δ r δ4 :=
  ev_call g cf hj (ea_cons ha (ea_cons hb (ea_cons hc (ea_cons hd ea_nil e4) e3) e2) e1) hs hg hdb e1 hpl
theorem ev_call5 (g : Good X M N sc fb k) (cf : Fn M CX x j S) (ha : EV X G a δ (.dat d1) δ1) (hb : EV X G b δ1 (.dat d2) δ2) (hc : EV X G c δ2 (.dat d3) δ3) (hd : EV X G d δ3 (.dat d4) δ4) (h5 : EV X G e δ4 (.dat d5) δ5) (hs : S [.dat d1, .dat d2, .dat d3, .dat d4, .dat d5] (.ret r os)) (hj : j ≤ k := by decide) (hg : sc.names.lookup x = some .globalImplicit := by rfl) (hdb : (x == ("__debug__" : Str)) = false := by decide)
    (e1 : starEach [a, b, c, d, e] X.env = (false, eval a X.env) :: starEach [b, c, d, e] X.env := by rfl) (e2 : starEach [b, c, d, e] X.env = (false, eval b X.env) :: starEach [c, d, e] X.env := by rfl) (e3 : starEach [c, d, e] X.env = (false, eval c X.env) :: starEach [d, e] X.env := by rfl) (e4 : starEach [d, e] X.env = (false, eval d X.env) :: starEach [e] X.env := by rfl) (e5 : starEach [e] X.env = (false, eval e X.env) :: starEach [] X.env := by rfl) (hpl : (backTo pos (starEach [b, c, d, e] X.env)).any (·.1) = false := by rfl) : EV X G (.Call (.Name x p) [a, b, c, d, e] [] pos) δ r δ5 :=
  ev_call g cf hj (ea_cons ha (ea_cons hb (ea_cons hc (ea_cons hd (ea_cons h5 ea_nil e5) e4) e3) e2) e1) hs hg hdb e1 hpl
end

/-- the module's name x is a constant that stands for d -/
def GlobD (M : Md) (x : Str) (d : D) : Prop := ∃ v u, M.mg x = some u ∧ RelV v u ∧ ∀ B, Rep M.K B v d
theorem ev_gd {X : Cx} {G : Ent} {M : Md} {N : List Str} {sc : Scope} {fb : Str → Bool} {k : Nat} {δ : List Slot} {d : D} {pos : Pos} {x : Str} (g : Good X M N sc fb k) (h : GlobD M x d) (hg : sc.names.lookup x = some .globalImplicit := by rfl) (hd : (x == ("__debug__" : Str)) = false := by decide) : EV X G (.Name x pos) δ (.dat d) δ := by
  obtain ⟨v, u, a, b, c⟩ := h
  exact ev_glob g a b c hg hd

/-! ### fractions -/
def fr (q : Rat) : D := .tup [.int q.num, .int q.den]
/-- small enough for the model's arithmetic -/
def Sz (q : Rat) : Prop := q.num.natAbs < 2 ^ 4000 ∧ q.den < 2 ^ 4000
theorem mok {i j : Int} (hi : i.natAbs < 2 ^ 4000) (hj : j.natAbs < 2 ^ 4000) : MulOk i j := mulx_ok hi hj (by decide)
theorem Sz.n {q : Rat} (h : Sz q) : q.num.natAbs < 2 ^ 4000 := h.1
theorem Sz.d {q : Rat} (h : Sz q) : (q.den : Int).natAbs < 2 ^ 4000 := h.2
/-- a product of small ones: how great the whole is -/
theorem mul_lt {i j : Int} {a b : Nat} (hi : i.natAbs < 2 ^ a) (hj : j.natAbs < 2 ^ b) : (i * j).natAbs < 2 ^ (a + b) := wide_lt hi hj
theorem low_eq {a b : Int} (hb : 0 < b) : (mkRat a b.toNat).num = a / ((Nat.gcd a.natAbs b.natAbs : Nat) : Int) ∧ ((mkRat a b.toNat).den : Int) = b / ((Nat.gcd a.natAbs b.natAbs : Nat) : Int) := by
  have h : b.toNat ≠ 0 := by omega
  have e : b.natAbs = b.toNat := by omega
  unfold mkRat
  rw [dif_neg h, Rat.normalize_eq, e]
  refine ⟨rfl, ?_⟩
  show ((b.toNat / a.natAbs.gcd b.toNat : Nat) : Int) = _
  rw [Int.natCast_ediv, Int.toNat_of_nonneg (by omega)]
theorem den_pos (q : Rat) : (0 : Int) < q.den := by have := q.den_pos; omega
theorem fr_add (a b : Rat) : mkRat (a.num * b.den + b.num * a.den) ((a.den : Int) * b.den).toNat = a + b := by
  rw [Rat.add_def, Rat.normalize_eq_mkRat]
  congr 1
theorem fr_sub (a b : Rat) : mkRat (a.num * b.den - b.num * a.den) ((a.den : Int) * b.den).toNat = a - b := by
  rw [Rat.sub_def, Rat.normalize_eq_mkRat]
  congr 1
theorem fr_mul (a b : Rat) : mkRat (a.num * b.num) ((a.den : Int) * b.den).toNat = a * b := by
  rw [Rat.mul_def, Rat.normalize_eq_mkRat]
  congr 1
theorem fr_lt (a b : Rat) : decide (a.num * b.den < b.num * a.den) = decide (a < b) := by rw [decide_eq_decide, Rat.lt_iff]
theorem fr_le (a b : Rat) : decide (a.num * b.den ≤ b.num * a.den) = decide (a ≤ b) := by rw [decide_eq_decide, Rat.le_iff]
theorem fr_self (a : Rat) : mkRat a.num (a.den : Int).toNat = a := by
  rw [Int.toNat_natCast, Rat.mkRat_self]
theorem fr_inj {a b : Rat} (h : fr a = fr b) : a = b := by
  unfold fr at h
  injection h with h
  injection h with h1 h2
  injection h2 with h2 _
  injection h1 with h1
  injection h2 with h2
  exact Rat.ext h1 (by omega)
end DL

namespace DL
open PySem L2
mutual
/-- numbers, tuples and lists of such -/
def D.pu : D → Bool
  | .int _ => true
  | .tup ds => D.pus ds
  | .lst ds => D.pus ds
  | _ => false
def D.pus : List D → Bool
  | [] => true
  | d :: ds => d.pu && D.pus ds
end
mutual
def D.dep : D → Nat
  | .tup ds => D.deps ds + 1
  | .lst ds => D.deps ds + 1
  | _ => 0
def D.deps : List D → Nat
  | [] => 0
  | d :: ds => max d.dep (D.deps ds)
end
mutual
theorem flat_pu : ∀ d : D, d.pu = true → d.flat = true
  | .int _, _ => rfl
  | .tup ds, h => by show D.flats ds = true; exact flats_pu ds h
  | .lst ds, h => by show D.flats ds = true; exact flats_pu ds h
  | .non, h => by cases h
  | .bl _, h => by cases h
  | .str _, h => by cases h
  | .ins _ _ _, h => by cases h
  | .ref _, h => by cases h
theorem flats_pu : ∀ ds : List D, D.pus ds = true → D.flats ds = true
  | [], _ => rfl
  | d :: ds, h => by
    have h' : (d.pu && D.pus ds) = true := h
    rw [Bool.and_eq_true] at h'
    show (d.flat && D.flats ds) = true
    rw [flat_pu d h'.1, flats_pu ds h'.2]; rfl
end
mutual
theorem lay_pu : ∀ d : D, d.pu = true → d.py.canLay0 = true ∧ d.py.depth = d.dep
  | .int _, _ => by unfold D.py PyData.canLay0 PyData.depth D.dep; exact ⟨rfl, rfl⟩
  | .tup ds, h => by
    have q := lays_pu ds h
    unfold D.py PyData.canLay0 PyData.depth D.dep
    exact ⟨q.1, by rw [q.2]⟩
  | .lst ds, h => by
    have q := lays_pu ds h
    unfold D.py PyData.canLay0 PyData.depth D.dep
    exact ⟨q.1, by rw [q.2]⟩
  | .non, h => by cases h
  | .bl _, h => by cases h
  | .str _, h => by cases h
  | .ins _ _ _, h => by cases h
  | .ref _, h => by cases h
theorem lays_pu : ∀ ds : List D, D.pus ds = true → PyData.canLayAll0 (D.pys ds) = true ∧ PyData.depthAll (D.pys ds) = D.deps ds
  | [], _ => by unfold D.pys PyData.canLayAll0 PyData.depthAll D.deps; exact ⟨rfl, rfl⟩
  | d :: ds, h => by
    have h' : (d.pu && D.pus ds) = true := h
    rw [Bool.and_eq_true] at h'
    have q1 := lay_pu d h'.1
    have q2 := lays_pu ds h'.2
    unfold D.pys PyData.canLayAll0 PyData.depthAll D.deps
    exact ⟨by rw [q1.1, q2.1]; rfl, by rw [q1.2, q2.2]⟩
end
theorem D.ok_pu {d : D} (h : d.pu = true) (hd : d.dep ≤ 64) : d.ok := by
  refine ⟨flat_pu d h, ?_⟩
  have q := lay_pu d h
  unfold SeqAt.shaped
  rw [q.1, q.2, decide_eq_true hd]; rfl
mutual
theorem eqv_pu : ∀ d e : D, d.pu = true → e.pu = true → (PyData.eqv d.py e.py = true ↔ d = e)
  | .int i, .int j, _, _ => by
    unfold D.py PyData.eqv
    rw [beq_iff_eq]
    exact ⟨fun h => by rw [h], fun h => by injection h⟩
  | .tup a, .tup b, h, h' => by
    have q := eqvs_pu a b h h'
    unfold D.py PyData.eqv
    exact ⟨fun h => by rw [q.mp h], fun h => q.mpr (by injection h)⟩
  | .lst a, .lst b, h, h' => by
    have q := eqvs_pu a b h h'
    unfold D.py PyData.eqv
    exact ⟨fun h => by rw [q.mp h], fun h => q.mpr (by injection h)⟩
  | .int _, .tup _, _, _ => by simp [D.py, PyData.eqv]
  | .int _, .lst _, _, _ => by simp [D.py, PyData.eqv]
  | .tup _, .int _, _, _ => by simp [D.py, PyData.eqv]
  | .tup _, .lst _, _, _ => by simp [D.py, PyData.eqv]
  | .lst _, .int _, _, _ => by simp [D.py, PyData.eqv]
  | .lst _, .tup _, _, _ => by simp [D.py, PyData.eqv]
  | .non, _, h, _ => by cases h
  | .bl _, _, h, _ => by cases h
  | .str _, _, h, _ => by cases h
  | .ins _ _ _, _, h, _ => by cases h
  | .ref _, _, h, _ => by cases h
  | .int _, .non, _, h => by cases h
  | .int _, .bl _, _, h => by cases h
  | .int _, .str _, _, h => by cases h
  | .int _, .ins _ _ _, _, h => by cases h
  | .int _, .ref _, _, h => by cases h
  | .tup _, .non, _, h => by cases h
  | .tup _, .bl _, _, h => by cases h
  | .tup _, .str _, _, h => by cases h
  | .tup _, .ins _ _ _, _, h => by cases h
  | .tup _, .ref _, _, h => by cases h
  | .lst _, .non, _, h => by cases h
  | .lst _, .bl _, _, h => by cases h
  | .lst _, .str _, _, h => by cases h
  | .lst _, .ins _ _ _, _, h => by cases h
  | .lst _, .ref _, _, h => by cases h
theorem eqvs_pu : ∀ ds es : List D, D.pus ds = true → D.pus es = true → (PyData.eqvAll (D.pys ds) (D.pys es) = true ↔ ds = es)
  | [], [], _, _ => by simp [D.pys, PyData.eqvAll]
  | [], _ :: _, _, _ => by simp [D.pys, PyData.eqvAll]
  | _ :: _, [], _, _ => by simp [D.pys, PyData.eqvAll]
  | d :: ds, e :: es, h, h' => by
    have h1 : (d.pu && D.pus ds) = true := h
    have h2 : (e.pu && D.pus es) = true := h'
    rw [Bool.and_eq_true] at h1 h2
    have q1 := eqv_pu d e h1.1 h2.1
    have q2 := eqvs_pu ds es h1.2 h2.2
    simp [D.pys, PyData.eqvAll, q1, q2]
end
theorem pus_of {ds : List D} (h : ∀ d ∈ ds, d.pu = true) : D.pus ds = true := by
  induction ds with
  | nil => rfl
  | cons d ds ih =>
    show (d.pu && D.pus ds) = true
    rw [h d (List.mem_cons_self ..), ih fun x hx => h x (List.mem_cons_of_mem _ hx)]; rfl
theorem deps_le {ds : List D} {n : Nat} (h : ∀ d ∈ ds, d.dep ≤ n) : D.deps ds ≤ n := by
  induction ds with
  | nil => exact Nat.zero_le _
  | cons d ds ih =>
    show max d.dep (D.deps ds) ≤ n
    exact Nat.max_le.mpr ⟨h d (List.mem_cons_self ..), ih fun x hx => h x (List.mem_cons_of_mem _ hx)⟩
theorem fr_pu (q : Rat) : (fr q).pu = true := rfl
theorem fr_dep (q : Rat) : (fr q).dep ≤ 1 := by show max 0 (max 0 0) + 1 ≤ 1; decide
theorem fr_ok (q : Rat) : (fr q).ok := D.ok_pu rfl (Nat.le_trans (fr_dep q) (by decide))
theorem bool_eq {a b : Bool} (h : a = true ↔ b = true) : a = b := by cases a <;> cases b <;> simp_all
theorem eqv_fr (x y : Rat) : PyData.eqv (fr x).py (fr y).py = decide (x = y) := by
  refine bool_eq ?_
  rw [eqv_pu _ _ rfl rfl, decide_eq_true_eq]
  exact ⟨fr_inj, fun h => by rw [h]⟩
section
variable {X : Cx} {G : Ent} {M : Md} {N : List Str} {sc : Scope} {fb : Str → Bool} {k : Nat} {δ δ1 δ2 : List Slot} {a b : Expr} {pos : Pos} {x y : Rat}
theorem et_eqF (g : Good X M N sc fb k) (ha : EV X G a δ (.dat (fr x)) δ1) (hb : EV X G b δ1 (.dat (fr y)) δ2) : ET X G (.Compare a [.Eq] [b] pos) δ (decide (x = y)) δ2 := by
  have h := et_eqD (pos := pos) g ha hb (fr_ok x) (fr_ok y)
  rw [eqv_fr] at h
  exact h
theorem et_neF (g : Good X M N sc fb k) (ha : EV X G a δ (.dat (fr x)) δ1) (hb : EV X G b δ1 (.dat (fr y)) δ2) : ET X G (.Compare a [.NotEq] [b] pos) δ (!decide (x = y)) δ2 := by
  have h := et_neD (pos := pos) g ha hb (fr_ok x) (fr_ok y)
  rw [eqv_fr] at h
  exact h
theorem ev_eqF (g : Good X M N sc fb k) (ha : EV X G a δ (.dat (fr x)) δ1) (hb : EV X G b δ1 (.dat (fr y)) δ2) : EV X G (.Compare a [.Eq] [b] pos) δ (.dat (.bl (decide (x = y)))) δ2 := by
  have h := ev_eqD (pos := pos) g ha hb (fr_ok x) (fr_ok y)
  rw [eqv_fr] at h
  exact h
end
theorem kit_tt {ds : List D} : kitB (tyD (.tup ds)) "tuple" = some true := by show kitB "tuple" "tuple" = _; decide +kernel
theorem kit_tl {ds : List D} : kitB (tyD (.tup ds)) "list" = some false := by show kitB "tuple" "list" = _; decide +kernel
theorem kit_ll {ds : List D} : kitB (tyD (.lst ds)) "list" = some true := by show kitB "list" "list" = _; decide +kernel
theorem kit_lt {ds : List D} : kitB (tyD (.lst ds)) "tuple" = some false := by show kitB "list" "tuple" = _; decide +kernel
theorem kit_bb {b : Bool} : kitB (tyD (.bl b)) "bool" = some true := by show kitB "bool" "bool" = _; decide +kernel
theorem mokS {i j : Int} (hi : i.natAbs < 2 ^ 64) (hj : j.natAbs < 2 ^ 64) : MulOk i j := mok (Nat.lt_of_lt_of_le hi (Nat.pow_le_pow_right (by decide) (by decide))) (Nat.lt_of_lt_of_le hj (Nat.pow_le_pow_right (by decide) (by decide)))
theorem cp_ok {i j : Int} (h : 0 ≤ j ∧ j ≤ 1000000 ∧ i.natAbs < 2 ^ 64 := by decide) : CPow i j := h
end DL
namespace DL
open PySem L2
theorem cutD_from (ds : List D) (n : Nat) : cutD ds (some (n : Int)) none = ds.drop n := by
  unfold cutD
  rw [HT.sIx_nat, HT.sIx_none]
  rcases Nat.le_total n ds.length with h | h
  · rw [Nat.min_eq_left h, List.take_of_length_le (by rw [List.length_drop]; omega)]
  · rw [Nat.min_eq_right h, List.drop_eq_nil_of_le (Nat.le_refl _), List.drop_eq_nil_of_le h, List.take_nil]
theorem cutD_to (ds : List D) (n : Nat) : cutD ds none (some (n : Int)) = ds.take n := by
  unfold cutD
  rw [HT.sIx_nat, HT.sIx_none, List.drop_zero, Nat.sub_zero]
  rcases Nat.le_total n ds.length with h | h
  · rw [Nat.min_eq_left h]
  · rw [Nat.min_eq_right h, List.take_of_length_le (Nat.le_refl _), List.take_of_length_le h]
section
variable {X : Cx} {G : Ent} {M : Md} {N : List Str} {sc : Scope} {fb : Str → Bool} {k : Nat} {δ δ1 : List Slot} {pos : Pos} {ds : List D} {js : List Nat}
theorem ei_lt {tg e : Expr} {h : D} (hh : h = .lst ds ∨ h = .tup ds) (ev : EV X G e δ (.dat h) δ1) : EI X G tg e δ ds δ1 := by
  rcases hh with rfl | rfl
  · exact ei_list ev
  · exact ei_tup ev
/-- (a, b, ..) = a list -/
theorem ag_lst (g : Good X M N sc fb k) {es : List Expr} {kk : Nat} (h : AGs X G es ds δ δ1 js) (hn : (assignEach es X.env).length = ds.length := by rfl) (hst : (assignEach es X.env).findIdx? (·.1) = none := by rfl) : AG X G (.Tuple es kk pos) (.lst ds) δ δ1 js := fun σ B H v S r Q q =>
  ⟨_, pg_lst g.calm pgs_cGs hn hst, by
    obtain ⟨a, vs, rfl, h1, h2⟩ := lst_of r
    exact ⟨a, vs, rfl, S.hb.seq h1, h2.length, h σ B H vs S h2 Q q⟩⟩
end
/-! ### comprehensions with one name -/
theorem wipe_one {δ : List Slot} {v : Nat} : wipeS δ [v] = δ.set v .un := rfl
theorem set_two {α : Type} (l : List α) (v : Nat) (a b : α) : (l.set v a).set v b = l.set v b := List.set_set ..
section
variable {X : Cx} {G : Ent} {M : Md} {N : List Str} {sc scope : Scope} {fb : Str → Bool} {k : Nat} {δ δ1 : List Slot} {pos xp : Pos} {elt it c : Expr} {ds : List D} {x : Str}
theorem ev_lcM1 (g : Good X M N sc fb k) (v : Nat) (ys : List D) (hb : v ∉ G.bor.map (·.1)) (hi : EI X G (.Name x xp) it δ ds δ1) (hl : ys.length = ds.length) (hn : ds.length ≤ 100000)
    (hs : ∀ (i : Nat) d, ds[i]? = some d → ∃ y, ys[i]? = some y ∧ Blk M N sc scope k G.bor (fun Y G' => EV Y G' elt (δ1.set v (.dat d)) (.dat y) (δ1.set v (.dat d))))
    (hN : N[v]? = some x := by rfl) (hlo : locB (relS scope sc) (fun x => scope.names.lookup x == some .cell) x = true := by rfl) (ok : blkC N sc scope [(x, v)] = true := by decide +kernel) (hf : ∀ x, foldedSetIterable it X.env x = pure x := by intro _; rfl) : EV X G (.ListComp elt [⟨.Name x xp, it, [], 0⟩] scope pos) δ (.own ys) (δ1.set v .un) := by
  refine ev_lcM g [(x, v)] [v] ys (fun w hw => ?_) hi rfl hl hn (fun i d hd => ?_) (fun j hj => by simpa using hj) ok hf
  · have : w = v := by simpa using hw
    rw [this]; exact hb
  · obtain ⟨y, h1, h2⟩ := hs i d hd
    refine ⟨δ1.set v (.dat d), y, h1, ?_, fun Y G' gy hG => ⟨?_, h2 Y G' gy hG⟩⟩
    · show (δ1.set v (.dat d)).set v .un = δ1.set v .un
      rw [set_two]
    · have := ag_name (pos := xp) (d := d) (δ := δ1.set v .un) gy v (by rw [hG]; exact hb) hN hlo
      rw [set_two] at this
      exact this
theorem ev_lcF1 (g : Good X M N sc fb k) (v : Nat) (f : D → Option D) (hb : v ∉ G.bor.map (·.1)) (hi : EI X G (.Name x xp) it δ ds δ1) (hn : ds.length ≤ 100000)
    (hs : ∀ (i : Nat) d, ds[i]? = some d → Blk M N sc scope k G.bor (fun Y G' => ET Y G' c (δ1.set v (.dat d)) (f d).isSome (δ1.set v (.dat d))) ∧ ∀ y, f d = some y → Blk M N sc scope k G.bor (fun Y G' => EV Y G' elt (δ1.set v (.dat d)) (.dat y) (δ1.set v (.dat d))))
    (hN : N[v]? = some x := by rfl) (hlo : locB (relS scope sc) (fun x => scope.names.lookup x == some .cell) x = true := by rfl) (ok : blkC N sc scope [(x, v)] = true := by decide +kernel) (hf : ∀ x, foldedSetIterable it X.env x = pure x := by intro _; rfl) : EV X G (.ListComp elt [⟨.Name x xp, it, [c], 0⟩] scope pos) δ (.own (ds.filterMap f)) (δ1.set v .un) := by
  refine ev_lcF g [(x, v)] [v] f (fun w hw => ?_) hi rfl hn (fun i d hd => ?_) (fun j hj => by simpa using hj) ok hf
  · have : w = v := by simpa using hw
    rw [this]; exact hb
  · obtain ⟨h1, h2⟩ := hs i d hd
    refine ⟨δ1.set v (.dat d), ?_, fun Y G' gy hG => ⟨?_, h1 Y G' gy hG⟩, h2⟩
    · show (δ1.set v (.dat d)).set v .un = δ1.set v .un
      rw [set_two]
    · have := ag_name (pos := xp) (d := d) (δ := δ1.set v .un) gy v (by rw [hG]; exact hb) hN hlo
      rw [set_two] at this
      exact this
variable {W : WX} {P : Out → Prop} {y : Str} {px spos : Pos}
theorem s_asgLcM1 (g : Good X M N sc fb k) (n v : Nat) (ys : List D) (hbn : ∀ i, i ∉ G.bor.map (·.1)) (p : P (.nx ((δ1.set v .un).set n (.own ys)))) (hi : EI X G (.Name x xp) it δ ds δ1) (hl : ys.length = ds.length) (hn : ds.length ≤ 100000)
    (hs : ∀ (i : Nat) d, ds[i]? = some d → ∃ y, ys[i]? = some y ∧ Blk M N sc scope k G.bor (fun Y G' => EV Y G' elt (δ1.set v (.dat d)) (.dat y) (δ1.set v (.dat d))))
    (hN2 : N[v]? = some x := by rfl) (hlo2 : locB (relS scope sc) (fun x => scope.names.lookup x == some .cell) x = true := by rfl) (ok : blkC N sc scope [(x, v)] = true := by decide +kernel)
    (hN : N[n]? = some y := by rfl) (hk : sc.kind = .function := by rfl) (hlo : sc.names.lookup y = some .local := by rfl) (hli : (px.line == pos.line) = true := by rfl) (ha : (scope.names.any fun (m, k) => m == y && (k == .local || k == .cell)) = false := by decide +kernel) (hsl : spos.line = pos.line := by rfl)
    (hf : ∀ x, foldedSetIterable it X.env x = pure x := by intro _; rfl) : SV1 X W G (.Assign [.Name y px] (.ListComp elt [⟨.Name x xp, it, [], 0⟩] scope pos) spos) δ P := by
  refine s_asgLcM g n [(x, v)] [v] ys (hbn n) p (fun w _ => hbn w) hi rfl hl hn (fun i d hd => ?_) (fun j hj => by simpa using hj) ok hN hk hlo hli ha hsl hf
  obtain ⟨y, h1, h2⟩ := hs i d hd
  refine ⟨δ1.set v (.dat d), y, h1, ?_, fun Y G' gy hG => ⟨?_, h2 Y G' gy hG⟩⟩
  · show (δ1.set v (.dat d)).set v .un = δ1.set v .un
    rw [set_two]
  · have := ag_name (pos := xp) (d := d) (δ := δ1.set v .un) gy v (by rw [hG]; exact hbn v) hN2 hlo2
    rw [set_two] at this
    exact this
end
section
variable {X : Cx} {G : Ent} {M : Md} {N : List Str} {sc scope : Scope} {fb : Str → Bool} {k : Nat} {δ δ1 δ2 : List Slot} {pos xp : Pos} {elt it c a b : Expr} {ds : List D} {x : Str} {i : Int} {d : D} {α : Type}
/-- the row's items stand for xs, one for each; those with q are kept, as y -/
theorem ev_lcFx (g : Good X M N sc fb k) (v : Nat) (xs : List α) (e : α → D) (q : α → Bool) (y : α → D) (inj : ∀ x y, e x = e y → x = y) (hb : v ∉ G.bor.map (·.1)) (hi : EI X G (.Name x xp) it δ (xs.map e) δ1) (hn : xs.length ≤ 100000)
    (hs : ∀ z ∈ xs, Blk M N sc scope k G.bor (fun Y G' => ET Y G' c (δ1.set v (.dat (e z))) (q z) (δ1.set v (.dat (e z)))) ∧ (q z = true → Blk M N sc scope k G.bor (fun Y G' => EV Y G' elt (δ1.set v (.dat (e z))) (.dat (y z)) (δ1.set v (.dat (e z))))))
    (hN : N[v]? = some x := by rfl) (hlo : locB (relS scope sc) (fun x => scope.names.lookup x == some .cell) x = true := by rfl) (ok : blkC N sc scope [(x, v)] = true := by decide +kernel) (hf : ∀ x, foldedSetIterable it X.env x = pure x := by intro _; rfl) : EV X G (.ListComp elt [⟨.Name x xp, it, [c], 0⟩] scope pos) δ (.own ((xs.filter q).map y)) (δ1.set v .un) := by
  classical
  let f : D → Option D := fun d => if h : ∃ z, e z = d then (if q (Classical.choose h) then some (y (Classical.choose h)) else none) else none
  have fe : ∀ z, f (e z) = if q z then some (y z) else none := fun z => by
    have h : ∃ w, e w = e z := ⟨z, rfl⟩
    show (if h : ∃ w, e w = e z then _ else _) = _
    rw [dif_pos h, inj _ _ (Classical.choose_spec h)]
  have key : (xs.map e).filterMap f = (xs.filter q).map y := by
    clear hs hi hn
    induction xs with
    | nil => rfl
    | cons z zs ih =>
      rw [List.map_cons, List.filterMap_cons, fe z]
      by_cases hq : q z = true
      · rw [if_pos hq, List.filter_cons_of_pos hq]; simp only []; rw [ih]; rfl
      · rw [if_neg hq, List.filter_cons_of_neg hq]; exact ih
  have r := ev_lcF1 (elt := elt) (pos := pos) (c := c) (scope := scope) g v f hb hi (by rw [List.length_map]; exact hn) (fun j d hd => by
    rw [List.getElem?_map] at hd
    cases ez : xs[j]? with
    | none => rw [ez] at hd; cases hd
    | some z =>
      rw [ez] at hd
      obtain rfl : e z = d := Option.some.inj hd
      obtain ⟨h1, h2⟩ := hs z (List.mem_of_getElem? ez)
      have es : (f (e z)).isSome = q z := by rw [fe]; by_cases hq : q z = true <;> simp [hq]
      refine ⟨by rw [es]; exact h1, fun w hw => ?_⟩
      rw [fe] at hw
      by_cases hq : q z = true
      · rw [if_pos hq] at hw
        obtain rfl := Option.some.inj hw
        exact h2 hq
      · rw [if_neg hq] at hw; cases hw) hN hlo ok hf
  rw [key] at r
  exact r
/-- an own list's name, read as a value -/
theorem ev_lst_of (g : Good X M N sc fb k) (n : Nat) {x : Str} (hb : n ∉ G.bor.map (·.1)) (hδ : δ[n]? = some (.own ds) := by rfl) (hN : N[n]? = some x := by rfl) (hv : visB sc x = true := by rfl) (hd : (x == ("__debug__" : Str)) = false := by decide) (hc : (x == ("__classdict__" : Str)) = false := by decide) :
    EV X G (.Name x pos) δ (.dat (.lst ds)) (δ.set n (.dat (.lst ds))) := ev_let (s := .own ds) g n hδ hb rfl hN hv hd hc
/-- an item of a list or a tuple -/
theorem ev_ixLT {h : D} (hh : h = .lst ds ∨ h = .tup ds) (ha : EV X G a δ (.dat h) δ1) (hb : EV X G b δ1 (.dat (.int i)) δ2) (hi : atI ds i = some d) (hp : PlainIx b := by exact fun _ _ => rfl) : EV X G (.Subscript a b pos) δ (.dat d) δ2 := by
  rcases hh with rfl | rfl
  · exact ev_ixL ha hb hi hp
  · exact ev_ixT ha hb hi hp
end
/-- a statement in the midst: what holds behind it -/
def MidP (I : List Slot → Prop) (P : Out → Prop) : Out → Prop
  | .nx δ => I δ
  | .rt r δ => P (.rt r δ)
  | .bk δ => P (.bk δ)
  | .ct δ => P (.ct δ)
  | .ex C ns ds δ => P (.ex C ns ds δ)
theorem sv_mid {X : Cx} {W : WX} {G : Ent} {δ : List Slot} {P : Out → Prop} {s : Stmt} {rest : List Stmt} (I : List Slot → Prop) (h : SV1 X W G s δ (MidP I P)) (k : ∀ δ', I δ' → SV X W G rest δ' P) : SV X W G (s :: rest) δ P :=
  sv_cons (h.imp fun o ho => by cases o <;> first | exact ho | exact k _ ho)
end DL

namespace DL
open PySem L2 PySem.Spec PyProof.Rows
section
variable {X : Cx} {C : Addr} {bmB : List Value} {B newId initId : String} {x : Str} {p pos : Pos}
/-- an own error without own __init__, made with nothing -/
theorem pmk_none (FB : ExcBaseFacts B newId initId bmB) (hx : PySem.W.excIn X.K C bmB newId = true) (hm : X.mg x = some (.ref C)) (hk : PySem.W.keepIn X.K (.ref C) = true) (hr : Raises X (.ref C)) (hg : Gl X x) (hd : (x == ("__debug__" : Str)) = false) :
    PMk X (.Call (.Name x p) [] [] pos) (fun _ H Q => Q (.ref C) none H) := fun pins s σ H Q J hq => by
  refine wpAny_Call_Name_kw (ld_glob J hg hm ?_ hd)
  refine PySem.W.callWith_K0 (K := X.K) J.kIn hk ?_
  obtain ⟨_, _, _, _, _, _, _, _, _, _, _, _, _, _, _, _, _, c2, c3, c4, c5⟩ := exc_obj J.kIn hx
  show wpAny _ _ (call (.ref C) []) _ _ _
  exact wpAny_call_exc_subT FB c5 c2 c3 c4 (fun _ _ mk => mk_of J mk hr hq (J.hok.gone mk.new)) (Nat.zero_le _)
end

/-! ### try: the first clause takes what the body raises -/
/-- the clause's wish: it does take it, and the suite runs with the error in slot i -/
def wFirst (K : PySem.W.Frag) (c : Value) (i : Nat) (ts : Addr → Value → Option Addr → TS) (D : Ends) : WX := fun cls d σ H =>
  PySem.W.exmOne K cls c = some true ∧ ∀ a, H a = none → ts a cls d ⟨fun σ1 H1 => D.nx (σ1.set i none) H1, D.rt, fun σ1 H1 => D.bk (σ1.set i none) H1, fun σ1 H1 => D.ct (σ1.set i none) H1⟩ (σ.set i (some (.ref a))) H
section
variable {X : Cx} {x n : Str} {c : Value} {i : Nat} {body suite : List Stmt} {st : Stmt} {np pos cpos : Pos} {tb : WX → TS} {ts : Addr → Value → Option Addr → TS} {more : List ExceptHandler}
theorem ps_try_first (h1 : X.stack = X.env :: X.outer) (h2 : X.env.frame = some X.env.locals) (h3 : X.N.Nodup) (h4 : X.N[i]? = some n) (h5 : X.env.kindOf n = some .local) (h6 : Names X x c)
    (hb : ∀ (W1 : WX) (pn : List (Addr × Obj)) (xe : Value → Shared → Prop), Takes (X.tr pn xe) W1 → PassesOwn (model X.prog X.w) X.A X.env xe → PSs (X.tr pn xe) body (tb W1))
    (hs : ∀ (a : Addr) (oe : Obj) (cls : Value) (d : Option Addr) (pn : List (Addr × Obj)), Zc cls d oe → (∃ vs, oe.data = .fields vs) → PSs (X.suite a ((a, oe) :: pn)) (st :: suite) (ts a cls d)) :
    PS X (.Try body (.ExceptHandler (some (.Name x np)) (some n) (st :: suite) cpos :: more) [] [] pos) (fun D σ H => tb (wFirst X.K c i ts D) D σ H) := by
  refine ⟨fun pins s σ H D J0 hw => wpAny_Try_except ?_⟩
  have okX := J0.ok
  have frm : X.A.frames = some (X.env :: X.outer) := okX.frames.trans (congrArg some h1)
  have run := (hb (wFirst X.K c i ts D) (X.pn ++ pins) (fun e r => wpAny (model X.prog X.w) X.A (noteFrame e X.env) (fun _ r2 => wpAny (model X.prog X.w) X.A (setFlight e none) (fun _ r3 =>
    wpAny (model X.prog X.w) X.A (handleBy e X.env (.ExceptHandler (some (.Name x np)) (some n) (st :: suite) cpos :: more)) (SP X pins D) X.xe r3) X.xe r2) X.xe r) (fun u q ev => ?_) PassesOwn.looking).run [] s σ H D (J0.toTry _) hw
  · refine wpAny_mono run (fun fl t ht => ?_) fun _ _ z => z
    cases fl with
    | ret u => obtain ⟨v, σ1, H1, J1, rv, w⟩ := ht; exact ⟨v, σ1, H1, J1.ofTry okX, rv, w⟩
    | brk => obtain ⟨σ1, H1, J1, w⟩ := ht; exact ⟨σ1, H1, J1.ofTry okX, w⟩
    | cont => obtain ⟨σ1, H1, J1, w⟩ := ht; exact ⟨σ1, H1, J1.ofTry okX, w⟩
    | next => obtain ⟨σ1, H1, J1, w⟩ := ht; exact wpAny_execs_nil ⟨σ1, H1, J1.ofTry okX, w⟩
  · obtain ⟨a, G0, sG, pins1, σ1, H1, cls, d, rfl, J1, nbb, upp, sky, free, oss, ags, yes, goes⟩ := ev
    have K1 : Inv X pins σ1 H1 sG := J1.ofTry okX
    have sky1 : Sky G0 (X.env :: X.outer) a (Zc cls d) X.env.locals q.heap := h1 ▸ sky
    show wpAny (model X.prog X.w) X.A (noteFrame (.ref a) X.env) _ _ _
    refine Sky.land Zc.steady frm h2 sky1 fun hA flA upA => ?_
    have KA : Inv X pins σ1 H1 { q with heap := hA } := K1.landed nbb flA.1 (upp.trans upA) oss ags
    obtain ⟨oA, vA, gA, zA, dA⟩ := flA.there
    have off : a ∉ frs (X.env :: X.outer) := fun hm => by
      obtain ⟨_, o2, g2, nf⟩ := flA.2.2.1.mem hm
      rw [gA] at g2
      cases g2
      exact nf _ dA
    have offL : a ≠ X.env.locals := fun z => off (List.mem_filterMap.mpr ⟨X.env, List.mem_cons_self, by rw [z]; exact h2⟩)
    have offF : a ∉ X.fs := fun hm => by
      obtain ⟨e, he, w⟩ := List.mem_filterMap.mp hm
      exact off (List.mem_filterMap.mpr ⟨e, List.mem_cons_of_mem _ he, w⟩)
    have SA := KA.suite gA dA free offL offF
    refine wpAny_handleBy_cons (codeAny_handlers_test ?_) (fun w => by cases w)
    have look : PySem.W.Looks (model X.prog X.w) hA (typeOf (.ref a)) cls := fun _ _ _ _ k w => wpAny_typeOf_ref (k _ _ gA) (by rw [zA.1]; exact w)
    have named : ∀ {Q E : Value → Shared → Prop}, Q c { q with heap := hA } → wpAny (model X.prog X.w) (X.A.mark (some (.ref a))) (eval (.Name x np) X.env) Q E { q with heap := hA } := fun {_ _} w => by
      rcases h6 with ⟨g1, g2, g3 | ⟨g3, g4, g5⟩⟩
      · exact ld_glob (X := X.suite a ((a, oA) :: (X.pn ++ pins))) SA g1 g3 w g2
      · exact ld_blt (X := X.suite a ((a, oA) :: (X.pn ++ pins))) SA g1 g3 g4 w g5 g2
    refine named ((PySem.W.exm_one (M := model X.prog X.w) KA.kIn look yes).here (codeAny_handlers_suite_as ?_))
    refine HandSPX.lands_againZ flA fun hB flB upB => ?_
    have KB : Inv X pins σ1 H1 { q with heap := hB } := K1.landed nbb flB.1 ((upp.trans upA).trans upB) oss ags
    obtain ⟨oB, vB, gB, zB, dB⟩ := flB.there
    refine store_ok (X := X.suite a ((a, oB) :: (X.pn ++ pins))) (v := .ref a) (KB.suite gB dB free offL offF) h3 h4 (.inl h5) rfl (fun t5 S5 => ?_) (.inr h5)
    refine wpAny_mono ((hs a oB cls d (X.pn ++ pins) zB ⟨_, dB⟩).run [] t5 _ H1 _ S5 (goes a free)) (fun fl t6 ht => ?_) (fun _ _ z => z.elim)
    have fin : ∀ {σ6 : L2.St} {H6 : Hp} {Q : Shared → Prop}, Inv (X.suite a ((a, oB) :: (X.pn ++ pins))) [] σ6 H6 t6 → (∀ t7, Inv X pins (σ6.set i none) H6 t7 → Q t7) →
        wpAny (model X.prog X.w) X.A (do bindName X.env n .none; unbindBehindTheSuite X.env n cpos) (fun _ t7 => Q t7) X.xe t6 := fun {_ _ _} S6 w => gone_ok (S6.unsuite okX) h3 h4 h5 w
    cases fl with
    | ret u => obtain ⟨v6, σ6, H6, S6, r6, w6⟩ := ht; exact fin S6 fun t7 K7 => ⟨_, _, _, K7, r6, w6⟩
    | brk => obtain ⟨σ6, H6, S6, w6⟩ := ht; exact fin S6 fun t7 K7 => ⟨_, _, K7, w6⟩
    | cont => obtain ⟨σ6, H6, S6, w6⟩ := ht; exact fin S6 fun t7 K7 => ⟨_, _, K7, w6⟩
    | next => obtain ⟨σ6, H6, S6, w6⟩ := ht; exact fin S6 fun t7 K7 => ⟨_, _, K7, w6⟩
end

section
variable {X : Cx} {W : WX} {G : Ent} {M : Md} {N : List Str} {sc : Scope} {fb : Str → Bool} {k : Nat} {δ δ1 δ2 : List Slot} {P : Out → Prop} {x n : Str} {e : Expr} {es : List Expr} {pos p px npos rpos cpos : Pos} {S : PSpec} {C : Addr} {ns : List Str} {ds ds' : List D} {os : List Slot} {j : Nat} {body suite : List Stmt} {st : Stmt} {more : List ExceptHandler}
/-- the module's class x is an error of its own without own __init__ that may be raised with nothing -/
structure ErrC (M : Md) (x : Str) (C : Addr) : Prop where
  gl : M.mg x = some (.ref C)
  kp : PySem.W.keepIn M.K (.ref C) = true
  ex : PySem.W.excIn M.K C [.type "ValueError", .type "Exception", .type "BaseException", .type "object"] "ValueError.__new__" = true
  sb : PySem.W.subIn M.K (.ref C) (.type "BaseException") = some true
  ty : PySem.W.typeIn M.K (.ref C) = some (.type "type")
/-- raise X() -/
theorem s_raise0 (g : Good X M N sc fb k) (tk : Takes X W) (c : ErrC M x C) (q : P (.ex C [] [] δ)) (hg : sc.names.lookup x = some .globalImplicit := by rfl) (hd : (x == ("__debug__" : Str)) = false := by decide) : SV1 X W G (.Raise (some (.Call (.Name x p) [] [] pos)) none rpos) δ P := fun σ B H S E F =>
  ⟨_, ps_raise g.calm tk (pmk_none PySem.F.excBase_ValueError (by rw [g.K]; exact c.ex) (mn_of g c.gl) (by rw [g.K]; exact c.kp) (raises_own (by rw [g.K]; exact c.sb) (by rw [g.K]; exact c.ty)) (gl_of g hg) hd), F.ex C [] [] δ σ B H none q S (Same.refl _) (.inl ⟨rfl, rfl, rfl⟩)⟩
/-- f(e, ..), a def that raises -/
theorem s_callX (g : Good X M N sc fb k) (tk : Takes X W) (c : Fn M (L2.CX M.P M.w) x j S) (hj : j ≤ k) (ha : EA X G (e :: es) δ ds δ1) (hs : S (ds.map .dat) (.exc C ns ds' os)) (q : P (.ex C ns ds' δ1))
    (hg : sc.names.lookup x = some .globalImplicit := by rfl) (hdb : (x == ("__debug__" : Str)) = false := by decide)
    (he : starEach (e :: es) X.env = (false, eval e X.env) :: starEach es X.env := by rfl) (hpl : (backTo pos (starEach es X.env)).any (·.1) = false := by rfl) (hsw : swapsWith (.Call (.Name x p) (e :: es) [] pos) none rpos.line X.env = pure false := by rfl) :
    SV1 X W G (.Expr (.Call (.Name x p) (e :: es) [] pos) rpos) δ P := fun σ B H S0 E F => by
  obtain ⟨f, fd, ps, Fk, m1, m2, m3⟩ := c.ex
  have F' : FnOk X.prog X.w X.K X.mg X.base (L2.CX X.prog X.w) j f fd ps (spOf X.K S) := by rw [g.P, g.w, g.K, g.mg, g.base]; exact Fk
  have nb : ∀ n, Arg.bor n ∉ ds.map Arg.val := fun n h => by
    obtain ⟨d, _, e⟩ := List.mem_map.mp h
    cases e
  have ng : ∀ (i n : Nat), (ds.map Arg.val)[i]? ≠ some (.bor n) := fun i n h => nb n (List.mem_of_getElem? h)
  have es1 : (ds.map Arg.val).map (seen δ1) = ds.map .dat := by rw [List.map_map]; rfl
  refine ⟨_, ps_expr (pe_callS (E := WE W) F' (g.room.mono hj) (gl_of g hg) (mn_of g m1) (by rw [g.K]; exact m2) (by rw [g.K]; exact m3) (fun τ => passAt tk τ) pa_cA hdb he hpl) hsw, ha σ B H S0 _ fun vs B1 H1 S1 s1 r1 => ?_⟩
  refine ⟨B1, (ds.map Arg.val).map (seen δ1), .exc C ns ds' os, by rw [es1]; exact hs, start_of S1 (ArgsR.of r1) (fun n h => absurd h (nb n)) (fun i _ n h => absurd h (ng i n)), fun d B' H' po rr => ?_⟩
  have S2 := sat_post (δ2 := δ1) S1 (ArgsR.of r1) po (fun n h => absurd h (nb n)) rfl (fun _ _ => rfl) (fun i n h => absurd h (ng i n))
  exact F.ex C ns ds' δ1 σ B' H' d q S2 (s1.trans po.b) rr
theorem pss_if {X : Cx} {b : List Stmt} {t : TS} {q : Prop} (h : q → PSs X b t) : PSs X b (fun D σ H => q ∧ t D σ H) := ⟨fun pins s σ H E I ⟨hq, ht⟩ => (h hq).run pins s σ H E I ht⟩
theorem Sat.unset (S : Sat M.K G δ σ B H) {i : Nat} (hb : i ∉ G.bor.map (·.1)) : Sat M.K G (δ.set i .un) (σ.set i none) B H := Sat.wipe (vs := [i]) S fun v hv => by rw [List.mem_singleton.mp hv]; exact hb
/-- how the suite's ends go on -/
def UnP (i : Nat) (P : Out → Prop) : Out → Prop
  | .nx δ => P (.nx (δ.set i .un))
  | .rt r δ => P (.rt r δ) ∧ r.mu = false
  | .bk δ => P (.bk (δ.set i .un))
  | .ct δ => P (.ct (δ.set i .un))
  | .ex _ _ _ _ => False
/-- what the body may do -/
def TryP (C : Addr) (R : List Slot → Prop) (P : Out → Prop) : Out → Prop
  | .nx δ => P (.nx δ)
  | .rt r δ => P (.rt r δ)
  | .bk δ => P (.bk δ)
  | .ct δ => P (.ct δ)
  | .ex C' ns _ δ => C' = C ∧ ns = [] ∧ R δ
/-- try: .. except c as n: ..; the body raises nothing but C, which the first clause takes -/
theorem s_try1 (g : Good X M N sc fb k) (hs : X.stack = X.env :: X.outer) (hf : X.env.frame = some X.env.locals) (i : Nat) (c : Value) (C : Addr) (R : List Slot → Prop) (hb : i ∉ G.bor.map (·.1)) (hm : M.mg x = some c) (ym : PySem.W.exmOne M.K (.ref C) c = some true)
    (hbody : ∀ (Y : Cx) (V : WX), Good Y M N sc fb k → Takes Y V → SV Y V G body δ (TryP C R P))
    (hsuite : ∀ (δ' : List Slot) (a : Addr) (oe : Obj) (pn : List (Addr × Obj)) (V : WX), R δ' → Zc (.ref C) none oe → (∃ vs, oe.data = .fields vs) → SV (X.suite a ((a, oe) :: pn)) V G (st :: suite) (δ'.set i (.dat (.ref a))) (UnP i P))
    (hN : N[i]? = some n := by rfl) (hl : sc.names.lookup n = some .local := by rfl) (hg : sc.names.lookup x = some .globalImplicit := by rfl) (hdb : (x == ("__debug__" : Str)) = false := by decide) :
    SV1 X W G (.Try body (.ExceptHandler (some (.Name x npos)) (some n) (st :: suite) cpos :: more) [] [] pos) δ P := fun σ B H S E F => by
  let tb : WX → TS := fun V D σ H => ∀ pn xe, Takes (X.tr pn xe) V → PassesOwn (model X.prog X.w) X.A X.env xe → cB (X.tr pn xe) body D σ H
  let ts : Addr → Value → Option Addr → TS := fun a cls d D σ1 H1 => (cls = .ref C ∧ d = none) ∧ ∀ (oe : Obj) (pn : List (Addr × Obj)), Zc (.ref C) none oe → (∃ vs, oe.data = .fields vs) → cB (X.suite a ((a, oe) :: pn)) (st :: suite) D σ1 H1
  refine ⟨_, ps_try_first (tb := tb) (ts := ts) hs hf (by rw [g.nm]; exact g.nd) (by rw [g.nm]; exact hN) (by unfold Env.kindOf; rw [g.sc]; exact hl) ⟨gl_of g hg, hdb, .inl (mn_of g hm)⟩ (fun V pn xe tk po => ⟨fun pins s σ H E I h => pss_cB.run pins s σ H E I (h pn xe tk po)⟩) (fun a oe cls d pn hz hv => pss_if fun ⟨h1, h2⟩ => ⟨fun pins s σ H E I h => pss_cB.run pins s σ H E I (h oe pn (by rw [← h1, ← h2]; exact hz) hv)⟩), ?_⟩
  intro pn xe tk po
  have gY : Good (X.tr pn xe) M N sc fb k := ⟨g.P, g.w, g.K, g.mg, g.base, g.nm, g.sc, g.calm, g.nd, g.fn, g.room, po⟩
  refine hbody (X.tr pn xe) _ gY tk σ B H S E ⟨fun δ1 σ1 B1 H1 q S1 s1 => F.nx δ1 σ1 B1 H1 q S1 s1, fun r δ1 σ1 B1 H1 v q S1 s1 rr => F.rt r δ1 σ1 B1 H1 v q S1 s1 rr, fun δ1 σ1 B1 H1 q S1 s1 => F.bk δ1 σ1 B1 H1 q S1 s1, fun δ1 σ1 B1 H1 q S1 s1 => F.ct δ1 σ1 B1 H1 q S1 s1, fun C' ns ds δ1 σ1 B1 H1 d q S1 s1 rr => ?_⟩
  obtain ⟨rfl, rfl, hR⟩ := q
  have dn : d = none := by
    rcases rr with ⟨_, _, z⟩ | ⟨z, _⟩
    · exact z
    · exact absurd rfl z
  subst dn
  refine ⟨by show PySem.W.exmOne X.K (.ref C') c = some true; rw [g.K]; exact ym, fun a na => ⟨⟨rfl, rfl⟩, fun oe pn2 hz hv => ?_⟩⟩
  have S2 : Sat X.K G (δ1.set i (.dat (.ref a))) (σ1.set i (some (.ref a))) B1 H1 := S1.setD (.ref a) hb
  refine hsuite δ1 a oe pn2 (fun _ _ _ _ => True) hR hz hv _ B1 H1 S2 _ ⟨fun δ3 σ3 B3 H3 q S3 s3 => ?_, fun r δ3 σ3 B3 H3 v q S3 s3 rr => ?_, fun δ3 σ3 B3 H3 q S3 s3 => ?_, fun δ3 σ3 B3 H3 q S3 s3 => ?_, fun _ _ _ _ _ _ _ _ q _ _ _ => q.elim⟩
  · exact F.nx _ _ B3 H3 q (by have := S3; exact Sat.wipe (vs := [i]) this fun v hv => by rw [List.mem_singleton.mp hv]; exact hb) (s1.trans s3)
  · exact F.rt r δ3 σ3 B3 H3 v q.1 S3 (s1.trans s3) rr
  · exact F.bk _ _ B3 H3 q (by have := S3; exact Sat.wipe (vs := [i]) this fun v hv => by rw [List.mem_singleton.mp hv]; exact hb) (s1.trans s3)
  · exact F.ct _ _ B3 H3 q (by have := S3; exact Sat.wipe (vs := [i]) this fun v hv => by rw [List.mem_singleton.mp hv]; exact hb) (s1.trans s3)
end
end DL

namespace DL
open PySem L2
section
variable {X : Cx} {G : Ent} {M : Md} {N : List Str} {sc : Scope} {fb : Str → Bool} {k : Nat} {δ δ1 δ2 : List Slot} {n T : Str} {e : Expr} {es : List Expr} {pos p p1 p2 : Pos} {C D2 a : Addr} {oe : Obj} {pn : List (Addr × Obj)} {b : Bool} {tn : String}
/-- isinstance(e, T), e the error that was caught, T an own class -/
theorem ev_isEo (g : Good X M N sc fb k) (cc : ExcC M.K C) (hz : Zc (.ref C) none oe) (hf : ∃ vs, oe.data = .fields vs) (i : Nat) (hm : M.mg "isinstance" = none) (hT : M.mg T = some (.ref D2)) (hk : PySem.W.kitOne M.K (.ref C) (.ref D2) = some b)
    (hδ : δ[i]? = some (.dat (.ref a)) := by rfl) (hN : N[i]? = some n := by rfl) (hv : visB sc n = true := by rfl) (hd : (n == ("__debug__" : Str)) = false := by decide) (hc : (n == ("__classdict__" : Str)) = false := by decide)
    (hg : sc.names.lookup ("isinstance" : Str) = some .globalImplicit := by rfl) (hg2 : sc.names.lookup T = some .globalImplicit := by rfl) (hd2 : (T == ("__debug__" : Str)) = false := by decide)
    (he : starEach [.Name n p1, .Name T p2] X.env = (false, eval (.Name n p1) X.env) :: starEach [.Name T p2] X.env := by rfl) (he2 : starEach [.Name T p2] X.env = (false, eval (.Name T p2) X.env) :: starEach [] X.env := by rfl) (hpl : (backTo pos (starEach [.Name T p2] X.env)).any (·.1) = false := by rfl) :
    EV (X.suite a ((a, oe) :: pn)) G (.Call (.Name "isinstance" p) [.Name n p1, .Name T p2] [] pos) δ (.dat (.bl b)) δ := fun σ B H S Q q => by
  obtain ⟨v, h1, h2⟩ := S.dat i _ hδ
  cases h2
  refine ⟨_, pe_callB (call_isE (by show ExcC X.K C; rw [g.K]; exact cc) hz hf) (gl_of g hg) (mn_of g hm) (by decide +kernel) (pa_cons (pe_var (X := X.suite a ((a, oe) :: pn)) (by show X.N[i]? = some n; rw [g.nm]; exact hN) (by show Vis X.env.scope n; rw [g.sc]; exact vis_of hv) hd hc) (pa_cons (pe_glob (v := .ref D2) (gl_of g hg2) (mn_of g hT) rfl hd2) pa_nil he2) he) (by decide) (by decide) he hpl, ?_⟩
  refine ⟨.ref a, h1, .ref D2, .ref D2, b, rfl, fun u r => by cases r; rfl, by show PySem.W.kitOne X.K _ _ = _; rw [g.K]; exact hk, q _ B H S (Same.refl _) (.bl _)⟩
/-- .. T a built-in class -/
theorem ev_isEb (g : Good X M N sc fb k) (cc : ExcC M.K C) (hz : Zc (.ref C) none oe) (hf : ∃ vs, oe.data = .fields vs) (i : Nat) (hm : M.mg "isinstance" = none) (hT : M.mg T = none) (hv2 : bootBuiltins T = some (.type tn)) (hk : PySem.W.kitOne M.K (.ref C) (.type tn) = some b)
    (hδ : δ[i]? = some (.dat (.ref a)) := by rfl) (hN : N[i]? = some n := by rfl) (hv : visB sc n = true := by rfl) (hd : (n == ("__debug__" : Str)) = false := by decide) (hc : (n == ("__classdict__" : Str)) = false := by decide)
    (hg : sc.names.lookup ("isinstance" : Str) = some .globalImplicit := by rfl) (hg2 : sc.names.lookup T = some .globalImplicit := by rfl) (hn2 : T ≠ "__name__" := by decide) (hd2 : (T == ("__debug__" : Str)) = false := by decide)
    (he : starEach [.Name n p1, .Name T p2] X.env = (false, eval (.Name n p1) X.env) :: starEach [.Name T p2] X.env := by rfl) (he2 : starEach [.Name T p2] X.env = (false, eval (.Name T p2) X.env) :: starEach [] X.env := by rfl) (hpl : (backTo pos (starEach [.Name T p2] X.env)).any (·.1) = false := by rfl) :
    EV (X.suite a ((a, oe) :: pn)) G (.Call (.Name "isinstance" p) [.Name n p1, .Name T p2] [] pos) δ (.dat (.bl b)) δ := fun σ B H S Q q => by
  obtain ⟨v, h1, h2⟩ := S.dat i _ hδ
  cases h2
  refine ⟨_, pe_callB (call_isE (by show ExcC X.K C; rw [g.K]; exact cc) hz hf) (gl_of g hg) (mn_of g hm) (by decide +kernel) (pa_cons (pe_var (X := X.suite a ((a, oe) :: pn)) (by show X.N[i]? = some n; rw [g.nm]; exact hN) (by show Vis X.env.scope n; rw [g.sc]; exact vis_of hv) hd hc) (pa_cons (pe_bltn (v := .ty tn) (gl_of g hg2) (mn_of g hT) hv2 rfl hn2 hd2) pa_nil he2) he) (by decide) (by decide) he hpl, ?_⟩
  refine ⟨.ref a, h1, .ty tn, .type tn, b, rfl, fun u r => by cases r; rfl, by show PySem.W.kitOne X.K _ _ = _; rw [g.K]; exact hk, q _ B H S (Same.refl _) (.bl _)⟩
/-- int(a bool) in a suite -/
theorem ev_toIntE (g : Good X M N sc fb k) (hm : M.mg "int" = none) {y : Bool} (ha : EV (X.suite a pn) G e δ (.dat (.bl y)) δ1) (hg : sc.names.lookup ("int" : Str) = some .globalImplicit := by rfl)
    (he : starEach [e] X.env = (false, eval e X.env) :: starEach [] X.env := by rfl) (hpl : (backTo pos (starEach [] X.env)).any (·.1) = false := by rfl) : EV (X.suite a pn) G (.Call (.Name "int" p) [e] [] pos) δ (.dat (.int (if y then 1 else 0))) δ1 := fun σ B H S Q q =>
  ⟨_, pe_callTy call_int1 (gl_of g hg) (mn_of g hm) (by decide +kernel) (pa_cons pe_cE pa_nil he) (by decide) (by decide) he hpl, ha σ B H S _ fun v B1 H1 S1 s1 r1 => by
    cases bl_of r1
    exact .inr ⟨y, rfl, q _ B1 H1 S1 s1 (.int _)⟩⟩
end
section
variable {M : Md} {q x : Str} {st : Stmt} {f : Addr} {fd : FuncData} {N ps : List Str} {j : Nat} {S : PSpec}
/-- a def that raises nothing, and where it stands on the stack: for a try -/
theorem fn_okT (F : Fun M.K x q st f fd) (Sc : FnScope N ps (defScope st)) (hl : ∀ as res, S as res → as.length = ps.length) (hx : ∀ as C ns ds os, ¬ S as (.exc C ns ds os))
    (h : ∀ (X : Cx) (W : WX) (G : Ent) (as : List Slot) (res : Res), Good X M N (defScope st) (fun _ => true) j → X.stack = X.env :: X.outer → X.env.frame = some X.env.locals → S as res → (∀ i ∈ G.bor.map (·.1), i ∈ muIdx as 0) → SV X W G (defBody st) (slots N as) (Ends0 as res)) :
    FnOk M.P M.w M.K M.mg M.base CX0 (j + 1) f fd ps (spOf M.K S) := by
  have hN : ps.length ≤ N.length := by have := congrArg List.length Sc.pre; rw [List.length_take] at this; omega
  refine F.ok Sc (fun vs H Q E ⟨B, as, res, h1, h2, _⟩ => by rw [h2.len]; exact hl as res h1) (fun cdv A outer s H vs Q E hr ⟨B, as, res, h1, h2, h3⟩ => ?_)
  cases res with
  | exc C ns ds os => exact absurd h1 (hx as C ns ds os)
  | ret r os =>
    have S0 := sat_start (N := N) h2 (by rw [hl _ _ h1]; exact hN)
    refine h _ (fun _ _ _ _ => True) ⟨H, B, borOf as vs 0⟩ as (.ret r os) ⟨rfl, rfl, rfl, rfl, rfl, rfl, rfl, rfl, Sc.nd, fun _ _ => rfl, hr, .never⟩ rfl rfl h1 (fun i hi => bor_idx h2 hi) _ B H S0 _ ⟨fun δ σ B' H' p S' e => ?_, fun r' δ σ B' H' v p S' e rr => ?_, fun δ σ B' H' p S' e => p.elim, fun δ σ B' H' p S' e => p.elim, fun _ _ _ _ _ _ _ _ _ _ _ _ => trivial⟩
    · obtain ⟨p1, p2⟩ := p
      subst p1
      exact h3 .non B' H' (post_of h2 S' p2) .non
    · obtain ⟨p1, p2⟩ := p
      subst p1
      exact h3 v B' H' (post_of h2 S' p2) (retR_of rr)
end
section
variable {X : Cx} {G : Ent} {M : Md} {N : List Str} {sc : Scope} {fb : Str → Bool} {k j : Nat} {δ δ1 δ2 : List Slot} {a : Expr} {es : List Expr} {d1 : D} {ds l l' : List D} {pos p py : Pos} {x y : Str} {S : PSpec} {r : Slot} {os : List Slot} {CX : CXT}
/-- f(a, y, ..), y a list that is lent, the others data -/
theorem ev_call_b2 (g : Good X M N sc fb k) (c : Fn M CX x j S) (n : Nat) (ha : EV X G a δ (.dat d1) δ1) (hr : EA X G es δ1 ds δ2) (hs : S (.dat d1 :: .own l :: ds.map .dat) (.ret r os)) (ho : os[1]? = some (.own l'))
    (h0 : ∃ l0, δ1[n]? = some (.own l0)) (h1 : δ2[n]? = some (.own l) := by rfl) (hj : j ≤ k := by decide)
    (hN : N[n]? = some y := by rfl) (hv : visB sc y = true := by rfl) (hd : (y == ("__debug__" : Str)) = false := by decide) (hc : (y == ("__classdict__" : Str)) = false := by decide)
    (hg : sc.names.lookup x = some .globalImplicit := by rfl) (hdb : (x == ("__debug__" : Str)) = false := by decide)
    (he : starEach (a :: .Name y py :: es) X.env = (false, eval a X.env) :: starEach (.Name y py :: es) X.env := by rfl) (he2 : starEach (.Name y py :: es) X.env = (false, eval (.Name y py) X.env) :: starEach es X.env := by rfl) (hpl : (backTo pos (starEach (.Name y py :: es) X.env)).any (·.1) = false := by rfl) :
    EV X G (.Call (.Name x p) (a :: .Name y py :: es) [] pos) δ r (δ2.set n (.own l')) := by
  obtain ⟨l0, h0⟩ := h0
  have nb : ∀ m, Arg.bor m ∉ ds.map Arg.val := fun m h => by
    obtain ⟨d, _, e⟩ := List.mem_map.mp h
    cases e
  have only : ∀ {i m : Nat}, (Arg.val d1 :: Arg.bor n :: ds.map Arg.val)[i]? = some (.bor m) → i = 1 ∧ m = n := fun {i m} h => by
    match i, h with
    | 0, h => simp at h
    | 1, h => simp at h; exact ⟨rfl, h.symm⟩
    | i + 2, h =>
      have h' : (ds.map Arg.val)[i]? = some (.bor m) := by simpa using h
      exact absurd (List.mem_of_getElem? h') (nb m)
  have seen1 : (Arg.val d1 :: Arg.bor n :: ds.map Arg.val).map (seen δ2) = .dat d1 :: .own l :: ds.map .dat := by
    rw [List.map_cons, List.map_cons, List.map_map]
    show Slot.dat d1 :: (δ2[n]?.getD .un) :: _ = _
    rw [h1]; rfl
  have hlen : n < δ2.length := (List.getElem?_eq_some_iff.mp h1).1
  refine ev_callL (os := os) g c hj (el_cons ha (el_bor g n (EL.of hr) h0 rfl hN hv hd hc he2) he) (by rw [seen1]; exact hs) (fun m hm => ?_) (fun i i' m h h' => by rw [(only h).1, (only h').1]) (List.length_set ..) (fun m hm => ?_) (fun i m h => ?_) hg hdb he hpl
  · rcases List.mem_cons.mp hm with e | hm
    · cases e
    · rcases List.mem_cons.mp hm with e | hm
      · cases e; exact ⟨_, h1, rfl⟩
      · exact absurd hm (nb m)
  · have ne : n ≠ m := fun e => hm (by rw [e]; exact List.mem_cons_of_mem _ (List.mem_cons_self ..))
    exact List.getElem?_set_ne ne
  · obtain ⟨rfl, rfl⟩ := only h
    rw [List.getElem?_set_self hlen, ho]
end
end DL
namespace DL
open PySem L2
section
variable {K : PySem.W.Frag} {G : Ent} {δ : List Slot} {σ : St} {B H : Hp}
/-- a list or an instance of one's own may be let go at any time -/
theorem Sat.frz (S : Sat K G δ σ B H) (i : Nat) {s : Slot} (hδ : δ[i]? = some s) (hb : i ∉ G.bor.map (·.1)) (m : s.mu = true) : ∃ B', Same B B' ∧ Sat K G (δ.set i (.dat s.d)) σ B' H := by
  obtain ⟨l, h1, h2, h3, h4⟩ := S.mu i s hδ m
  have n0 : G.H0 l = none := by
    rcases h4 with h4 | h4
    · exact h4
    · exact absurd (List.mem_map.mpr ⟨_, h4, rfl⟩) hb
  obtain ⟨o, ho⟩ := Mu.ex h3 m
  have sB : Same B (upd B l o) := fun b u e => by rw [upd_ne (ne_of_none e h2)]; exact e
  have hi : i < δ.length := (List.getElem?_eq_some_iff.mp hδ).1
  have hr : Rep K (upd B l o) (.ref l) s.d := by
    cases s with
    | un => cases m
    | dat d => cases m
    | own ds =>
      obtain ⟨vs, e, r⟩ := h3
      rw [ho] at e; cases e
      exact .lst (.inl (.inl upd_same)) (r.up sB)
    | obj C ns ds =>
      obtain ⟨dx, fs, e, n, r⟩ := h3
      rw [ho] at e; cases e
      exact .ins upd_same n (r.up sB)
  refine ⟨upd B l o, sB, ⟨fun b u e => ?_, S.b0.trans sB, S.fr, fun a u e => ?_, by rw [List.length_set]; exact S.len, fun j d e => ?_, fun j t e mt => ?_, fun j j2 t t2 l2 ne e mt e2 mt2 => ?_, fun p hp => ?_⟩⟩
  · by_cases z : b = l
    · subst z; rw [upd_same] at e; rw [ho]; exact e
    · rw [upd_ne z] at e; exact S.hb _ _ e
  · rw [upd_ne (ne_of_none e n0)]; exact S.nb a u e
  · by_cases z : j = i
    · subst z
      rw [List.getElem?_set_self hi] at e
      cases e
      exact ⟨_, h1, hr⟩
    · rw [List.getElem?_set_ne (Ne.symm z)] at e
      obtain ⟨v, q, r⟩ := S.dat j d e
      exact ⟨v, q, r.up sB⟩
  · by_cases z : j = i
    · subst z
      rw [List.getElem?_set_self hi] at e
      cases e; cases mt
    · rw [List.getElem?_set_ne (Ne.symm z)] at e
      obtain ⟨l', p1, p2, p3, p4⟩ := S.mu j t e mt
      have ne : l' ≠ l := fun w => S.dis j i t s l z e mt hδ m (by rw [p1, w]) h1
      exact ⟨l', p1, by rw [upd_ne ne]; exact p2, Mu.up p3 sB (fun _ h => h), p4⟩
  · have z1 : j ≠ i := fun w => by
      subst w
      rw [List.getElem?_set_self hi] at e
      cases e; cases mt
    have z2 : j2 ≠ i := fun w => by
      subst w
      rw [List.getElem?_set_self hi] at e2
      cases e2; cases mt2
    rw [List.getElem?_set_ne (Ne.symm z1)] at e
    rw [List.getElem?_set_ne (Ne.symm z2)] at e2
    exact S.dis j j2 t t2 l2 ne e mt e2 mt2
  · obtain ⟨p1, t, p2, p3⟩ := S.bor p hp
    have z : p.1 ≠ i := fun w => hb (List.mem_map.mpr ⟨p, hp, w⟩)
    exact ⟨p1, t, by rw [List.getElem?_set_ne (Ne.symm z)]; exact p2, p3⟩
theorem sv_freeze {X : Cx} {W : WX} {G : Ent} {δ : List Slot} {P : Out → Prop} {ss : List Stmt} {ds : List D} (i : Nat) (hb : i ∉ G.bor.map (·.1)) (h : SV X W G ss (δ.set i (.dat (.lst ds))) P) (hδ : δ[i]? = some (.own ds) := by rfl) : SV X W G ss δ P := fun σ B H S E F => by
  obtain ⟨B', s, S'⟩ := S.frz i hδ hb rfl
  exact h σ B' H S' E (F.up s)
end
end DL
namespace DL
open PySem L2
/-- the same slots, written out -/
theorem sv_at {X : Cx} {W : WX} {G : Ent} {δ δ' : List Slot} {P : Out → Prop} {ss : List Stmt} (e : δ = δ') (h : SV X W G ss δ' P) : SV X W G ss δ P := e ▸ h
end DL
namespace DL
open PySem L2
/-- isinstance's answer about an own class / a built-in class -/
theorem kit_ref {K : PySem.W.Frag} {A C : Addr} {b : Bool} (ne : (Value.ref A == Value.ref C) = false) (hd : PySem.W.hasDictIn K C = true) (ty : PySem.W.typeIn K (.ref C) = some (.type "type")) (sb : PySem.W.subIn K (.ref A) (.ref C) = some b) : PySem.W.kitOne K (.ref A) (.ref C) = some b := by
  obtain ⟨cd, hc, _⟩ := PySem.W.any_some hd
  unfold PySem.W.kitOne PySem.W.kitCls
  rw [if_neg (by rw [ne]; exact Bool.false_ne_true)]
  have e : ((PySem.W.clsIn K C).isSome && PySem.W.typeIn K (.ref C) == some (.type "type")) = true := by rw [hc, ty] <;> rfl
  simp only []
  rw [if_pos e]
  exact sb
theorem kit_typ {K : PySem.W.Frag} {A : Addr} {T : String} {b : Bool} (km : PySem.W.kitMeta T = true) (sb : PySem.W.subIn K (.ref A) (.type T) = some b) : PySem.W.kitOne K (.ref A) (.type T) = some b := by
  unfold PySem.W.kitOne PySem.W.kitCls
  rw [if_neg (by intro h; have := beq_iff_eq.mp h; cases this)]
  simp only []
  rw [if_pos km]
  exact sb
end DL

namespace LW
open PySem L2 DL
def topS (i : Nat) : Stmt := PySem.Challenge.pw_twicewaited_k76_seats.main.body.getD i (.Pass ⟨0, 0, 0, 0⟩)
abbrev s_frozen : Stmt := topS 2
abbrev n_frozen : List Str := ["value", "item"]
theorem sc_frozen : FnScope n_frozen ["value"] (defScope s_frozen) := ⟨rfl, rfl, rfl, by decide +kernel, rfl, by decide +kernel, by decide +kernel⟩
abbrev s_BadAmount___init__ : Stmt := inClass (topS 4) 0
abbrev n_BadAmount___init__ : List Str := ["self", "value"]
theorem sc_BadAmount___init__ : FnScope n_BadAmount___init__ ["self", "value"] (defScope s_BadAmount___init__) := ⟨rfl, rfl, rfl, by decide +kernel, rfl, by decide +kernel, by decide +kernel⟩
abbrev s_BadCount___init__ : Stmt := inClass (topS 5) 0
abbrev n_BadCount___init__ : List Str := ["self", "count"]
theorem sc_BadCount___init__ : FnScope n_BadCount___init__ ["self", "count"] (defScope s_BadCount___init__) := ⟨rfl, rfl, rfl, by decide +kernel, rfl, by decide +kernel, by decide +kernel⟩
abbrev s_is_number : Stmt := topS 10
abbrev n_is_number : List Str := ["value"]
theorem sc_is_number : FnScope n_is_number ["value"] (defScope s_is_number) := ⟨rfl, rfl, rfl, by decide +kernel, rfl, by decide +kernel, by decide +kernel⟩
abbrev s_is_amount : Stmt := topS 11
abbrev n_is_amount : List Str := ["value"]
theorem sc_is_amount : FnScope n_is_amount ["value"] (defScope s_is_amount) := ⟨rfl, rfl, rfl, by decide +kernel, rfl, by decide +kernel, by decide +kernel⟩
abbrev s_lowest : Stmt := topS 12
abbrev n_lowest : List Str := ["top", "bottom", "divisor"]
theorem sc_lowest : FnScope n_lowest ["top", "bottom"] (defScope s_lowest) := ⟨rfl, rfl, rfl, by decide +kernel, rfl, by decide +kernel, by decide +kernel⟩
abbrev s_amount : Stmt := topS 13
abbrev n_amount : List Str := ["value"]
theorem sc_amount : FnScope n_amount ["value"] (defScope s_amount) := ⟨rfl, rfl, rfl, by decide +kernel, rfl, by decide +kernel, by decide +kernel⟩
abbrev s_plus : Stmt := topS 14
abbrev n_plus : List Str := ["one", "two"]
theorem sc_plus : FnScope n_plus ["one", "two"] (defScope s_plus) := ⟨rfl, rfl, rfl, by decide +kernel, rfl, by decide +kernel, by decide +kernel⟩
abbrev s_minus : Stmt := topS 15
abbrev n_minus : List Str := ["one", "two"]
theorem sc_minus : FnScope n_minus ["one", "two"] (defScope s_minus) := ⟨rfl, rfl, rfl, by decide +kernel, rfl, by decide +kernel, by decide +kernel⟩
abbrev s_times : Stmt := topS 16
abbrev n_times : List Str := ["one", "two"]
theorem sc_times : FnScope n_times ["one", "two"] (defScope s_times) := ⟨rfl, rfl, rfl, by decide +kernel, rfl, by decide +kernel, by decide +kernel⟩
abbrev s_less : Stmt := topS 17
abbrev n_less : List Str := ["one", "two"]
theorem sc_less : FnScope n_less ["one", "two"] (defScope s_less) := ⟨rfl, rfl, rfl, by decide +kernel, rfl, by decide +kernel, by decide +kernel⟩
abbrev s_at_most : Stmt := topS 18
abbrev n_at_most : List Str := ["one", "two"]
theorem sc_at_most : FnScope n_at_most ["one", "two"] (defScope s_at_most) := ⟨rfl, rfl, rfl, by decide +kernel, rfl, by decide +kernel, by decide +kernel⟩
abbrev s_lesser : Stmt := topS 19
abbrev n_lesser : List Str := ["one", "two", "chosen"]
theorem sc_lesser : FnScope n_lesser ["one", "two"] (defScope s_lesser) := ⟨rfl, rfl, rfl, by decide +kernel, rfl, by decide +kernel, by decide +kernel⟩
abbrev s_sum_of : Stmt := topS 20
abbrev n_sum_of : List Str := ["row", "total", "part"]
theorem sc_sum_of : FnScope n_sum_of ["row"] (defScope s_sum_of) := ⟨rfl, rfl, rfl, by decide +kernel, rfl, by decide +kernel, by decide +kernel⟩
abbrev s_kept_stretch : Stmt := topS 22
abbrev n_kept_stretch : List Str := ["stretch", "start", "stop", "shares", "share"]
theorem sc_kept_stretch : FnScope n_kept_stretch ["stretch"] (defScope s_kept_stretch) := ⟨rfl, rfl, rfl, by decide +kernel, rfl, by decide +kernel, by decide +kernel⟩
abbrev s_need_shares : Stmt := topS 23
abbrev n_need_shares : List Str := ["shares", "counters", "share"]
theorem sc_need_shares : FnScope n_need_shares ["shares", "counters"] (defScope s_need_shares) := ⟨rfl, rfl, rfl, by decide +kernel, rfl, by decide +kernel, by decide +kernel⟩
abbrev s_seats : Stmt := topS 24
abbrev n_seats : List Str := ["stretch", "counters", "start", "stop", "shares", "rows", "counter", "time", "place", "share", "left", "until"]
theorem sc_seats : FnScope n_seats ["stretch", "counters"] (defScope s_seats) := ⟨rfl, rfl, rfl, by decide +kernel, rfl, by decide +kernel, by decide +kernel⟩
abbrev s_seat_fits : Stmt := topS 25
abbrev n_seat_fits : List Str := ["row", "start", "stop", "count", "counters", "inside"]
theorem sc_seat_fits : FnScope n_seat_fits ["row", "start", "stop", "count", "counters"] (defScope s_seat_fits) := ⟨rfl, rfl, rfl, by decide +kernel, rfl, by decide +kernel, by decide +kernel⟩
abbrev s_clash : Stmt := topS 26
abbrev n_clash : List Str := ["one", "two"]
theorem sc_clash : FnScope n_clash ["one", "two"] (defScope s_clash) := ⟨rfl, rfl, rfl, by decide +kernel, rfl, by decide +kernel, by decide +kernel⟩
abbrev s_is_seating : Stmt := topS 27
abbrev n_is_seating : List Str := ["stretch", "counters", "seating", "start", "stop", "shares", "rows", "row", "at", "later", "place", "share", "served"]
theorem sc_is_seating : FnScope n_is_seating ["stretch", "counters", "seating"] (defScope s_is_seating) := ⟨rfl, rfl, rfl, by decide +kernel, rfl, by decide +kernel, by decide +kernel⟩
abbrev s__law_whole : Stmt := topS 29
abbrev n__law_whole : List Str := ["value"]
theorem sc__law_whole : FnScope n__law_whole ["value"] (defScope s__law_whole) := ⟨rfl, rfl, rfl, by decide +kernel, rfl, by decide +kernel, by decide +kernel⟩
abbrev s__law_cell : Stmt := topS 30
abbrev n__law_cell : List Str := ["script", "k", "seed", "cell"]
theorem sc__law_cell : FnScope n__law_cell ["script", "k"] (defScope s__law_cell) := ⟨rfl, rfl, rfl, by decide +kernel, rfl, by decide +kernel, by decide +kernel⟩
abbrev s__law_digits : Stmt := topS 31
abbrev n__law_digits : List Str := ["cell", "sizes", "row", "rest", "size", "seed", "k", "twice"]
theorem sc__law_digits : FnScope n__law_digits ["cell", "sizes"] (defScope s__law_digits) := ⟨rfl, rfl, rfl, by decide +kernel, rfl, by decide +kernel, by decide +kernel⟩
abbrev s__law_low : Stmt := topS 32
abbrev n__law_low : List Str := ["top", "bottom", "one", "other", "rest"]
theorem sc__law_low : FnScope n__law_low ["top", "bottom"] (defScope s__law_low) := ⟨rfl, rfl, rfl, by decide +kernel, rfl, by decide +kernel, by decide +kernel⟩
abbrev s__law_add : Stmt := topS 33
abbrev n__law_add : List Str := ["a", "b"]
theorem sc__law_add : FnScope n__law_add ["a", "b"] (defScope s__law_add) := ⟨rfl, rfl, rfl, by decide +kernel, rfl, by decide +kernel, by decide +kernel⟩
abbrev s__law_sub : Stmt := topS 34
abbrev n__law_sub : List Str := ["a", "b"]
theorem sc__law_sub : FnScope n__law_sub ["a", "b"] (defScope s__law_sub) := ⟨rfl, rfl, rfl, by decide +kernel, rfl, by decide +kernel, by decide +kernel⟩
abbrev s__law_mul : Stmt := topS 35
abbrev n__law_mul : List Str := ["a", "b"]
theorem sc__law_mul : FnScope n__law_mul ["a", "b"] (defScope s__law_mul) := ⟨rfl, rfl, rfl, by decide +kernel, rfl, by decide +kernel, by decide +kernel⟩
abbrev s__law_div : Stmt := topS 36
abbrev n__law_div : List Str := ["a", "b"]
theorem sc__law_div : FnScope n__law_div ["a", "b"] (defScope s__law_div) := ⟨rfl, rfl, rfl, by decide +kernel, rfl, by decide +kernel, by decide +kernel⟩
abbrev s__law_lt : Stmt := topS 37
abbrev n__law_lt : List Str := ["a", "b"]
theorem sc__law_lt : FnScope n__law_lt ["a", "b"] (defScope s__law_lt) := ⟨rfl, rfl, rfl, by decide +kernel, rfl, by decide +kernel, by decide +kernel⟩
abbrev s__law_le : Stmt := topS 38
abbrev n__law_le : List Str := ["a", "b"]
theorem sc__law_le : FnScope n__law_le ["a", "b"] (defScope s__law_le) := ⟨rfl, rfl, rfl, by decide +kernel, rfl, by decide +kernel, by decide +kernel⟩
abbrev s__law_lesser : Stmt := topS 39
abbrev n__law_lesser : List Str := ["a", "b"]
theorem sc__law_lesser : FnScope n__law_lesser ["a", "b"] (defScope s__law_lesser) := ⟨rfl, rfl, rfl, by decide +kernel, rfl, by decide +kernel, by decide +kernel⟩
abbrev s__law_total : Stmt := topS 40
abbrev n__law_total : List Str := ["row", "total", "part"]
theorem sc__law_total : FnScope n__law_total ["row"] (defScope s__law_total) := ⟨rfl, rfl, rfl, by decide +kernel, rfl, by decide +kernel, by decide +kernel⟩
abbrev s__law_is_fraction : Stmt := topS 41
abbrev n__law_is_fraction : List Str := ["value"]
theorem sc__law_is_fraction : FnScope n__law_is_fraction ["value"] (defScope s__law_is_fraction) := ⟨rfl, rfl, rfl, by decide +kernel, rfl, by decide +kernel, by decide +kernel⟩
abbrev s__law_are_fractions : Stmt := topS 42
abbrev n__law_are_fractions : List Str := ["value", "count", "part"]
theorem sc__law_are_fractions : FnScope n__law_are_fractions ["value", "count"] (defScope s__law_are_fractions) := ⟨rfl, rfl, rfl, by decide +kernel, rfl, by decide +kernel, by decide +kernel⟩
abbrev s__law_digit : Stmt := topS 43
abbrev n__law_digit : List Str := ["row", "at", "size"]
theorem sc__law_digit : FnScope n__law_digit ["row", "at", "size"] (defScope s__law_digit) := ⟨rfl, rfl, rfl, by decide +kernel, rfl, by decide +kernel, by decide +kernel⟩
abbrev s__law_shares_drawn : Stmt := topS 44
abbrev n__law_shares_drawn : List Str := ["row", "at", "tables", "count", "full", "shares", "room", "k", "part", "left"]
theorem sc__law_shares_drawn : FnScope n__law_shares_drawn ["row", "at", "tables", "count", "full"] (defScope s__law_shares_drawn) := ⟨rfl, rfl, rfl, by decide +kernel, rfl, by decide +kernel, by decide +kernel⟩
abbrev s__law_filled : Stmt := topS 45
abbrev n__law_filled : List Str := ["start", "stop", "shares", "order", "cut", "rows", "counter", "now", "place", "left", "turn", "to", "middle"]
theorem sc__law_filled : FnScope n__law_filled ["start", "stop", "shares", "order", "cut"] (defScope s__law_filled) := ⟨rfl, rfl, rfl, by decide +kernel, rfl, by decide +kernel, by decide +kernel⟩
abbrev s__law_seated : Stmt := topS 46
abbrev n__law_seated : List Str := ["start", "stop", "shares", "tables", "rows", "k", "one", "j", "two", "place", "served"]
theorem sc__law_seated : FnScope n__law_seated ["start", "stop", "shares", "tables", "rows"] (defScope s__law_seated) := ⟨rfl, rfl, rfl, by decide +kernel, rfl, by decide +kernel, by decide +kernel⟩
abbrev s__law_spoilt : Stmt := topS 47
abbrev n__law_spoilt : List Str := ["rows", "pick", "place", "start", "stop", "tables", "count", "out", "one", "at", "middle", "changes"]
theorem sc__law_spoilt : FnScope n__law_spoilt ["rows", "pick", "place", "start", "stop", "tables", "count"] (defScope s__law_spoilt) := ⟨rfl, rfl, rfl, by decide +kernel, rfl, by decide +kernel, by decide +kernel⟩
abbrev s__law_refused : Stmt := topS 48
abbrev n__law_refused : List Str := ["stretch", "tables", "e"]
theorem sc__law_refused : FnScope n__law_refused ["stretch", "tables"] (defScope s__law_refused) := ⟨rfl, rfl, rfl, by decide +kernel, rfl, by decide +kernel, by decide +kernel⟩
abbrev s__law_kinds : Stmt := topS 49
abbrev n__law_kinds : List Str := ["told", "one"]
theorem sc__law_kinds : FnScope n__law_kinds ["told"] (defScope s__law_kinds) := ⟨rfl, rfl, rfl, by decide +kernel, rfl, by decide +kernel, by decide +kernel⟩
abbrev s__law_right : Stmt := topS 50
abbrev n__law_right : List Str := ["start", "stop", "shares", "tables", "given", "part", "told", "due", "k"]
theorem sc__law_right : FnScope n__law_right ["start", "stop", "shares", "tables"] (defScope s__law_right) := ⟨rfl, rfl, rfl, by decide +kernel, rfl, by decide +kernel, by decide +kernel⟩
abbrev s_law : Stmt := topS 51
abbrev n_law : List Str := ["script", "row", "at", "tables", "count", "start", "stop", "shares", "even", "k", "shift", "order", "own", "one", "turn", "bad", "told", "place", "wrong", "part", "crowd", "just"]
theorem sc_law : FnScope n_law ["script"] (defScope s_law) := ⟨rfl, rfl, rfl, by decide +kernel, rfl, by decide +kernel, by decide +kernel⟩
end LW

namespace LW
open PySem L2 DL
/-! ### the program's fractions -/
def Sp_lowest : PSpec := fun as res => ∃ a b : Int, as = [.dat (.int a), .dat (.int b)] ∧ 0 < b ∧ b.natAbs < 2 ^ 8900 ∧ res = .ret (.dat (fr (mkRat a b.toNat))) []
theorem sp_lowest {a b : Int} (h : 0 < b) (hs : b.natAbs < 2 ^ 8900) : Sp_lowest [.dat (.int a), .dat (.int b)] (.ret (.dat (fr (mkRat a b.toNat))) []) := ⟨a, b, rfl, h, hs, rfl⟩
theorem gcd_ok {a b : Int} (h0 : 0 < b) (h2 : b.natAbs < 2 ^ 8900) : ∀ z : Int, CDivW z ((Nat.gcd a.natAbs b.natAbs : Nat) : Int) := fun z => by
  have hp := Nat.gcd_pos_of_pos_right a.natAbs (show 0 < b.natAbs by omega)
  refine wide_div (b := 8900) (by omega) ?_ (by decide) (by decide)
  have hl := Nat.gcd_le_right a.natAbs (show 0 < b.natAbs by omega)
  exact Nat.lt_of_le_of_lt (by omega) h2
section
variable {M : Md} (T : Bn M) {f : Addr} {fd : FuncData}
include T
theorem ok_lowest (F : Fun M.K "lowest" "lowest" s_lowest f fd) : FnOk M.P M.w M.K M.mg M.base CX0 1 f fd ["top", "bottom"] (spOf M.K Sp_lowest) := by
  refine fn_ok F sc_lowest ?_ ?_ ?_
  · rintro as res ⟨a, b, rfl, _⟩; rfl
  · rintro as C ns ds os ⟨a, b, _, _, _, h⟩; cases h
  · rintro X W G as res g ⟨a, b, rfl, h0, h2, rfl⟩ hbi
    have hbn := nob hbi rfl
    have hd := gcd_ok (a := a) h0 h2
    obtain ⟨e1, e2⟩ := low_eq (a := a) h0
    refine sv_cons (s_asg g 2 (ev_gcd g T.gcd (ea_cons (ev_var g 0) (ea_cons (ev_var g 1) ea_nil))) (hbn 2) ?_)
    refine sv_one (s_ret (ev_tup (ea_cons (ev_fdiv (ev_var g 0) (ev_var g 2) (hd _)) (ea_cons (ev_fdiv (ev_var g 1) (ev_var g 2) (hd _)) ea_nil))) (endD ?_))
    unfold fr
    rw [e1, e2]
end
def Sp_plus : PSpec := fun as res => ∃ x y : Rat, as = [.dat (fr x), .dat (fr y)] ∧ Sz x ∧ Sz y ∧ res = .ret (.dat (fr (x + y))) []
theorem sp_plus {x y : Rat} (hx : Sz x) (hy : Sz y) : Sp_plus [.dat (fr x), .dat (fr y)] (.ret (.dat (fr (x + y))) []) := ⟨x, y, rfl, hx, hy, rfl⟩
def Sp_minus : PSpec := fun as res => ∃ x y : Rat, as = [.dat (fr x), .dat (fr y)] ∧ Sz x ∧ Sz y ∧ res = .ret (.dat (fr (x - y))) []
theorem sp_minus {x y : Rat} (hx : Sz x) (hy : Sz y) : Sp_minus [.dat (fr x), .dat (fr y)] (.ret (.dat (fr (x - y))) []) := ⟨x, y, rfl, hx, hy, rfl⟩
def Sp_times : PSpec := fun as res => ∃ x y : Rat, as = [.dat (fr x), .dat (fr y)] ∧ Sz x ∧ Sz y ∧ res = .ret (.dat (fr (x * y))) []
theorem sp_times {x y : Rat} (hx : Sz x) (hy : Sz y) : Sp_times [.dat (fr x), .dat (fr y)] (.ret (.dat (fr (x * y))) []) := ⟨x, y, rfl, hx, hy, rfl⟩
def Sp_lt : PSpec := fun as res => ∃ x y : Rat, as = [.dat (fr x), .dat (fr y)] ∧ Sz x ∧ Sz y ∧ res = .ret (.dat (.bl (decide (x < y)))) []
theorem sp_less {x y : Rat} (hx : Sz x) (hy : Sz y) : Sp_lt [.dat (fr x), .dat (fr y)] (.ret (.dat (.bl (decide (x < y)))) []) := ⟨x, y, rfl, hx, hy, rfl⟩
theorem sp__law_lt {x y : Rat} (hx : Sz x) (hy : Sz y) : Sp_lt [.dat (fr x), .dat (fr y)] (.ret (.dat (.bl (decide (x < y)))) []) := ⟨x, y, rfl, hx, hy, rfl⟩
def Sp_le : PSpec := fun as res => ∃ x y : Rat, as = [.dat (fr x), .dat (fr y)] ∧ Sz x ∧ Sz y ∧ res = .ret (.dat (.bl (decide (x ≤ y)))) []
theorem sp_at_most {x y : Rat} (hx : Sz x) (hy : Sz y) : Sp_le [.dat (fr x), .dat (fr y)] (.ret (.dat (.bl (decide (x ≤ y)))) []) := ⟨x, y, rfl, hx, hy, rfl⟩
theorem sp__law_le {x y : Rat} (hx : Sz x) (hy : Sz y) : Sp_le [.dat (fr x), .dat (fr y)] (.ret (.dat (.bl (decide (x ≤ y)))) []) := ⟨x, y, rfl, hx, hy, rfl⟩
/-- the lesser; of equal ones it does not matter which -/
def rmin (x y : Rat) : Rat := if y < x then y else x
def rmax (x y : Rat) : Rat := if x < y then y else x
def Sp_min : PSpec := fun as res => ∃ x y : Rat, as = [.dat (fr x), .dat (fr y)] ∧ Sz x ∧ Sz y ∧ res = .ret (.dat (fr (rmin x y))) []
theorem sp_lesser {x y : Rat} (hx : Sz x) (hy : Sz y) : Sp_min [.dat (fr x), .dat (fr y)] (.ret (.dat (fr (rmin x y))) []) := ⟨x, y, rfl, hx, hy, rfl⟩
theorem sp__law_lesser {x y : Rat} (hx : Sz x) (hy : Sz y) : Sp_min [.dat (fr x), .dat (fr y)] (.ret (.dat (fr (rmin x y))) []) := ⟨x, y, rfl, hx, hy, rfl⟩
def Sp_max : PSpec := fun as res => ∃ x y : Rat, as = [.dat (fr x), .dat (fr y)] ∧ Sz x ∧ Sz y ∧ res = .ret (.dat (fr (rmax x y))) []
theorem sp_greater {x y : Rat} (hx : Sz x) (hy : Sz y) : Sp_max [.dat (fr x), .dat (fr y)] (.ret (.dat (fr (rmax x y))) []) := ⟨x, y, rfl, hx, hy, rfl⟩
theorem bot_ok {x y : Rat} (hx : Sz x) (hy : Sz y) : (0 : Int) < (x.den : Int) * y.den ∧ ((x.den : Int) * y.den).natAbs < 2 ^ 8900 :=
  ⟨Int.mul_pos (den_pos x) (den_pos y), Nat.lt_of_lt_of_le (mul_lt hx.d hy.d) (Nat.pow_le_pow_right (by decide) (by decide))⟩
theorem sz_bot {x : Rat} (hx : Sz x) : ((x.den : Int)).natAbs < 2 ^ 8900 := Nat.lt_of_lt_of_le hx.d (Nat.pow_le_pow_right (by decide) (by decide))
/-- how a def over two fractions begins -/
theorem two_len {S : PSpec} {N ps : List Str} (hp : ps.length = 2) (h : ∀ as res, S as res → ∃ a b, as = [a, b]) : ∀ as res, S as res → as.length = ps.length := fun as res s => by
  obtain ⟨a, b, rfl⟩ := h as res s
  rw [hp]; rfl
section
variable {M : Md} (T : Bn M) {f : Addr} {fd : FuncData}
include T
theorem ok_plus (c_lowest : Fn M CX0 "lowest" 1 Sp_lowest) (F : Fun M.K "plus" "plus" s_plus f fd) : FnOk M.P M.w M.K M.mg M.base CX0 2 f fd ["one", "two"] (spOf M.K Sp_plus) := by
  refine fn_ok F sc_plus ?_ ?_ ?_
  · rintro as res ⟨a, b, rfl, _⟩; rfl
  · rintro as C ns ds os ⟨a, b, _, _, _, h⟩; cases h
  · rintro X W G as res g ⟨x, y, rfl, hx, hy, rfl⟩ hbi
    refine sv_one (s_ret (ev_call2 g c_lowest (ev_add (ev_mul (ev_ixT (ev_var g 0) ev_int rfl) (ev_ixT (ev_var g 1) ev_int rfl) (mok hx.n hy.d)) (ev_mul (ev_ixT (ev_var g 1) ev_int rfl) (ev_ixT (ev_var g 0) ev_int rfl) (mok hy.n hx.d))) (ev_mul (ev_ixT (ev_var g 0) ev_int rfl) (ev_ixT (ev_var g 1) ev_int rfl) (mok hx.d hy.d)) (sp_lowest (bot_ok hx hy).1 (bot_ok hx hy).2)) (endD ?_))
    rw [fr_add]
theorem ok_minus (c_lowest : Fn M CX0 "lowest" 1 Sp_lowest) (F : Fun M.K "minus" "minus" s_minus f fd) : FnOk M.P M.w M.K M.mg M.base CX0 2 f fd ["one", "two"] (spOf M.K Sp_minus) := by
  refine fn_ok F sc_minus ?_ ?_ ?_
  · rintro as res ⟨a, b, rfl, _⟩; rfl
  · rintro as C ns ds os ⟨a, b, _, _, _, h⟩; cases h
  · rintro X W G as res g ⟨x, y, rfl, hx, hy, rfl⟩ hbi
    refine sv_one (s_ret (ev_call2 g c_lowest (ev_sub (ev_mul (ev_ixT (ev_var g 0) ev_int rfl) (ev_ixT (ev_var g 1) ev_int rfl) (mok hx.n hy.d)) (ev_mul (ev_ixT (ev_var g 1) ev_int rfl) (ev_ixT (ev_var g 0) ev_int rfl) (mok hy.n hx.d))) (ev_mul (ev_ixT (ev_var g 0) ev_int rfl) (ev_ixT (ev_var g 1) ev_int rfl) (mok hx.d hy.d)) (sp_lowest (bot_ok hx hy).1 (bot_ok hx hy).2)) (endD ?_))
    rw [fr_sub]
theorem ok_times (c_lowest : Fn M CX0 "lowest" 1 Sp_lowest) (F : Fun M.K "times" "times" s_times f fd) : FnOk M.P M.w M.K M.mg M.base CX0 2 f fd ["one", "two"] (spOf M.K Sp_times) := by
  refine fn_ok F sc_times ?_ ?_ ?_
  · rintro as res ⟨a, b, rfl, _⟩; rfl
  · rintro as C ns ds os ⟨a, b, _, _, _, h⟩; cases h
  · rintro X W G as res g ⟨x, y, rfl, hx, hy, rfl⟩ hbi
    refine sv_one (s_ret (ev_call2 g c_lowest (ev_mul (ev_ixT (ev_var g 0) ev_int rfl) (ev_ixT (ev_var g 1) ev_int rfl) (mok hx.n hy.n)) (ev_mul (ev_ixT (ev_var g 0) ev_int rfl) (ev_ixT (ev_var g 1) ev_int rfl) (mok hx.d hy.d)) (sp_lowest (bot_ok hx hy).1 (bot_ok hx hy).2)) (endD ?_))
    rw [fr_mul]
theorem ok_less (F : Fun M.K "less" "less" s_less f fd) : FnOk M.P M.w M.K M.mg M.base CX0 1 f fd ["one", "two"] (spOf M.K Sp_lt) := by
  refine fn_ok F sc_less ?_ ?_ ?_
  · rintro as res ⟨a, b, rfl, _⟩; rfl
  · rintro as C ns ds os ⟨a, b, _, _, _, h⟩; cases h
  · rintro X W G as res g ⟨x, y, rfl, hx, hy, rfl⟩ hbi
    refine sv_one (s_ret (ev_lt (ev_mul (ev_ixT (ev_var g 0) ev_int rfl) (ev_ixT (ev_var g 1) ev_int rfl) (mok hx.n hy.d)) (ev_mul (ev_ixT (ev_var g 1) ev_int rfl) (ev_ixT (ev_var g 0) ev_int rfl) (mok hy.n hx.d))) (endD ?_))
    rw [fr_lt]
theorem ok_at_most (F : Fun M.K "at_most" "at_most" s_at_most f fd) : FnOk M.P M.w M.K M.mg M.base CX0 1 f fd ["one", "two"] (spOf M.K Sp_le) := by
  refine fn_ok F sc_at_most ?_ ?_ ?_
  · rintro as res ⟨a, b, rfl, _⟩; rfl
  · rintro as C ns ds os ⟨a, b, _, _, _, h⟩; cases h
  · rintro X W G as res g ⟨x, y, rfl, hx, hy, rfl⟩ hbi
    refine sv_one (s_ret (ev_le (ev_mul (ev_ixT (ev_var g 0) ev_int rfl) (ev_ixT (ev_var g 1) ev_int rfl) (mok hx.n hy.d)) (ev_mul (ev_ixT (ev_var g 1) ev_int rfl) (ev_ixT (ev_var g 0) ev_int rfl) (mok hy.n hx.d))) (endD ?_))
    rw [fr_le]
end

end LW

namespace LW
open PySem L2 DL
theorem rmin_frd (x y : Rat) : (if decide (y < x) then fr y else fr x) = fr (rmin x y) := by
  unfold rmin
  by_cases h : y < x
  · rw [if_pos (decide_eq_true h), if_pos h]
  · rw [if_neg (by simp [h]), if_neg h]
theorem rmax_frd (x y : Rat) : (if decide (x < y) then fr y else fr x) = fr (rmax x y) := by
  unfold rmax
  by_cases h : x < y
  · rw [if_pos (decide_eq_true h), if_pos h]
  · rw [if_neg (by simp [h]), if_neg h]
theorem sz_rmin {x y : Rat} (hx : Sz x) (hy : Sz y) : Sz (rmin x y) := by
  unfold rmin
  split <;> assumption
theorem sz_rmax {x y : Rat} (hx : Sz x) (hy : Sz y) : Sz (rmax x y) := by
  unfold rmax
  split <;> assumption
/-- a sum from the left -/
def rsum (xs : List Rat) : Rat := xs.foldl (· + ·) 0
theorem rsum_snoc (xs : List Rat) (x : Rat) : rsum (xs ++ [x]) = rsum xs + x := by unfold rsum; rw [List.foldl_append]; rfl
theorem rsum_nil : rsum [] = 0 := rfl
theorem foldl_add (xs : List Rat) : ∀ a : Rat, xs.foldl (· + ·) a = a + xs.foldl (· + ·) 0 := by
  induction xs with
  | nil => intro a; show a = a + 0; rw [Rat.add_zero]
  | cons x xs ih =>
    intro a
    show xs.foldl (· + ·) (a + x) = a + xs.foldl (· + ·) (0 + x)
    rw [ih (a + x), ih (0 + x), Rat.zero_add, Rat.add_assoc]
theorem rsum_cons (x : Rat) (xs : List Rat) : rsum (x :: xs) = x + rsum xs := by
  show xs.foldl (· + ·) (0 + x) = _
  rw [foldl_add, Rat.zero_add]; rfl
theorem rsum_append (xs ys : List Rat) : rsum (xs ++ ys) = rsum xs + rsum ys := by
  induction xs with
  | nil => show rsum ys = rsum [] + rsum ys; rw [rsum_nil, Rat.zero_add]
  | cons x xs ih => rw [List.cons_append, rsum_cons, rsum_cons, ih, Rat.add_assoc]
/-- every sum of a beginning is small, and so is every part -/
def Sums (xs : List Rat) : Prop := (∀ x ∈ xs, Sz x) ∧ ∀ i, Sz (rsum (xs.take i))
def Sp_sum : PSpec := fun as res => ∃ xs : List Rat, as = [.dat (.lst (xs.map fr))] ∧ Sums xs ∧ xs.length ≤ 100000 ∧ res = .ret (.dat (fr (rsum xs))) []
theorem sp_sum_of {xs : List Rat} (h : Sums xs) (hl : xs.length ≤ 100000) : Sp_sum [.dat (.lst (xs.map fr))] (.ret (.dat (fr (rsum xs))) []) := ⟨xs, rfl, h, hl, rfl⟩
theorem sp__law_total {xs : List Rat} (h : Sums xs) (hl : xs.length ≤ 100000) : Sp_sum [.dat (.lst (xs.map fr))] (.ret (.dat (fr (rsum xs))) []) := ⟨xs, rfl, h, hl, rfl⟩
theorem map_get {α β : Type} {f : α → β} {xs : List α} {i : Nat} {d : β} (h : (xs.map f)[i]? = some d) : ∃ x, xs[i]? = some x ∧ d = f x := by
  rw [List.getElem?_map] at h
  cases e : xs[i]? with
  | none => rw [e] at h; cases h
  | some x => rw [e] at h; exact ⟨x, rfl, (Option.some.inj h).symm⟩
theorem fr_zero : D.tup [.int 0, .int 1] = fr 0 := rfl
theorem fr_one : D.tup [.int 1, .int 1] = fr 1 := rfl
section
variable {M : Md} (T : Bn M) {f : Addr} {fd : FuncData}
include T
theorem ok_lesser (c_less : Fn M CX0 "less" 1 Sp_lt) (c_lowest : Fn M CX0 "lowest" 1 Sp_lowest) (F : Fun M.K "lesser" "lesser" s_lesser f fd) : FnOk M.P M.w M.K M.mg M.base CX0 2 f fd ["one", "two"] (spOf M.K Sp_min) := by
  refine fn_ok F sc_lesser ?_ ?_ ?_
  · rintro as res ⟨a, b, rfl, _⟩; rfl
  · rintro as C ns ds os ⟨a, b, _, _, _, h⟩; cases h
  · rintro X W G as res g ⟨x, y, rfl, hx, hy, rfl⟩ hbi
    have hbn := nob hbi rfl
    refine sv_cons (s_asg g 2 ((ev_ite (et_val (ev_call2 g c_less (ev_var g 1) (ev_var g 0) (sp_less hy hx))) (fun _ => (ev_var g 1)) (fun _ => (ev_var g 0))).eq (rmin_frd x y)) (hbn 2) ?_)
    have hz := sz_rmin hx hy
    refine sv_one (s_ret (ev_call2 g c_lowest (ev_ixT (ev_var g 2) ev_int rfl) (ev_ixT (ev_var g 2) ev_int rfl) (sp_lowest (den_pos _) (sz_bot hz))) (endD ?_))
    rw [fr_self]
theorem ok_sum_of (c_plus : Fn M CX0 "plus" 2 Sp_plus) (gl_ZERO : GlobD M "ZERO" (fr 0)) (F : Fun M.K "sum_of" "sum_of" s_sum_of f fd) : FnOk M.P M.w M.K M.mg M.base CX0 3 f fd ["row"] (spOf M.K Sp_sum) := by
  refine fn_ok F sc_sum_of ?_ ?_ ?_
  · rintro as res ⟨a, rfl, _⟩; rfl
  · rintro as C ns ds os ⟨a, _, _, _, h⟩; cases h
  · rintro X W G as res g ⟨xs, rfl, hs, hl, rfl⟩ hbi
    have hbn := nob hbi rfl
    refine sv_cons (s_asg g 1 (ev_gd g gl_ZERO) (hbn 1) ?_)
    refine sv_cons (s_for g (ei_list (ev_var g 0)) (fun i δ => ∃ s, δ = [.dat (.lst (xs.map fr)), .dat (fr (rsum (xs.take i))), s]) ⟨_, rfl⟩ ?_ ?_)
    · rintro i d δi hd ⟨s, rfl⟩
      obtain ⟨x, hx, rfl⟩ := map_get hd
      refine ⟨_, _, ag_name g 2 (hbn 2), ?_⟩
      refine sv_one (s_asg g 1 (ev_call2 g c_plus (ev_var g 1) (ev_var g 2) (sp_plus (hs.2 i) (hs.1 x (List.mem_of_getElem? hx)))) (hbn 1) ⟨.dat (fr x), ?_⟩)
      rw [take_succ_of hx, rsum_snoc]; rfl
    · rintro δ' ⟨s, rfl⟩
      refine sv_one (s_ret (ev_var g 1) (endD ?_))
      rw [List.length_map, List.take_length]
end

/-! ### the law's own fractions and draws -/
def Sp_low : PSpec := fun as res => ∃ a b : Int, as = [.dat (.int a), .dat (.int b)] ∧ 0 < b ∧ b.natAbs < 2 ^ 8900 ∧ res = .ret (.dat (fr (mkRat a b.toNat))) []
theorem sp__law_low {a b : Int} (h : 0 < b) (hs : b.natAbs < 2 ^ 8900) : Sp_low [.dat (.int a), .dat (.int b)] (.ret (.dat (fr (mkRat a b.toNat))) []) := ⟨a, b, rfl, h, hs, rfl⟩
theorem sp__law_add {x y : Rat} (hx : Sz x) (hy : Sz y) : Sp_plus [.dat (fr x), .dat (fr y)] (.ret (.dat (fr (x + y))) []) := ⟨x, y, rfl, hx, hy, rfl⟩
theorem sp__law_sub {x y : Rat} (hx : Sz x) (hy : Sz y) : Sp_minus [.dat (fr x), .dat (fr y)] (.ret (.dat (fr (x - y))) []) := ⟨x, y, rfl, hx, hy, rfl⟩
theorem sp__law_mul {x y : Rat} (hx : Sz x) (hy : Sz y) : Sp_times [.dat (fr x), .dat (fr y)] (.ret (.dat (fr (x * y))) []) := ⟨x, y, rfl, hx, hy, rfl⟩
section
variable {M : Md} (T : Bn M) {f : Addr} {fd : FuncData}
include T
theorem ok__law_low (F : Fun M.K "_law_low" "_law_low" s__law_low f fd) : FnOk M.P M.w M.K M.mg M.base CX0 1 f fd ["top", "bottom"] (spOf M.K Sp_low) := by
  refine fn_ok F sc__law_low ?_ ?_ ?_
  · rintro as res ⟨a, b, rfl, _⟩; rfl
  · rintro as C ns ds os ⟨a, b, _, _, _, h⟩; cases h
  · rintro X W G as res g ⟨a, b, rfl, h0, h2, rfl⟩ hbi
    have hbn := nob hbi rfl
    have hd := gcd_ok (a := a) h0 h2
    obtain ⟨e1, e2⟩ := low_eq (a := a) h0
    refine sv_cons (s_asg g 2 (ev_abs g T.abs (ev_var g 0)) (hbn 2) ?_)
    refine sv_cons (s_asg g 3 (ev_var g 1) (hbn 3) ?_)
    refine sv_cons (s_while g (fun m δ => ∃ o r : Nat, ∃ s : Slot, δ = [.dat (.int a), .dat (.int b), .dat (.int o), .dat (.int r), s] ∧ m = r ∧ Nat.gcd o r = Nat.gcd a.natAbs b.natAbs) b.natAbs ⟨a.natAbs, b.natAbs, .un, ?_, rfl, rfl⟩ ?_)
    · show [Slot.dat (.int a), Slot.dat (.int b), Slot.dat (.int (if a < 0 then -a else a)), Slot.dat (.int b), Slot.un] = _
      have q1 : (if a < 0 then -a else a) = (a.natAbs : Int) := by split <;> omega
      have q2 : b = (b.natAbs : Int) := by omega
      rw [q1, ← q2]
    · rintro m δi ⟨o, r, s, rfl, hm, hg⟩
      cases hm
      refine ⟨_, _, et_neI (ev_var g 3) ev_int, fun hb => ?_, fun hb => ?_⟩
      · have hr : 0 < m := by simp at hb; omega
        refine sv_cons (s_asg g 4 (ev_mod (ev_toInt g T.int (ev_var g 2)) (ev_var g 3) (by omega)) (hbn 4) ?_)
        refine sv_cons (s_asg g 2 (ev_var g 3) (hbn 2) ?_)
        refine sv_one (s_asg g 3 (ev_var g 4) (hbn 3) ⟨o % m, Nat.mod_lt _ hr, m, o % m, .dat (.int ((o % m : Nat) : Int)), ?_, rfl, ?_⟩)
        · show [Slot.dat (.int a), Slot.dat (.int b), Slot.dat (.int m), Slot.dat (.int ((o : Int) % m)), Slot.dat (.int ((o : Int) % m))] = _
          rw [← Int.natCast_emod]
        · rw [← hg, Nat.gcd_comm m, ← Nat.gcd_rec, Nat.gcd_comm]
      · have hr : m = 0 := by simp at hb; omega
        subst hr
        rw [Nat.gcd_zero_right] at hg
        subst hg
        refine sv_one (s_ret (ev_tup (ea_cons (ev_fdiv (ev_var g 0) (ev_var g 2) (hd _)) (ea_cons (ev_fdiv (ev_var g 1) (ev_var g 2) (hd _)) ea_nil))) (endD ?_))
        unfold fr
        rw [e1, e2]
theorem ok__law_add (c__law_low : Fn M CX0 "_law_low" 1 Sp_low) (F : Fun M.K "_law_add" "_law_add" s__law_add f fd) : FnOk M.P M.w M.K M.mg M.base CX0 2 f fd ["a", "b"] (spOf M.K Sp_plus) := by
  refine fn_ok F sc__law_add ?_ ?_ ?_
  · rintro as res ⟨a, b, rfl, _⟩; rfl
  · rintro as C ns ds os ⟨a, b, _, _, _, h⟩; cases h
  · rintro X W G as res g ⟨x, y, rfl, hx, hy, rfl⟩ hbi
    refine sv_one (s_ret (ev_call2 g c__law_low (ev_add (ev_mul (ev_ixT (ev_var g 0) ev_int rfl) (ev_ixT (ev_var g 1) ev_int rfl) (mok hx.n hy.d)) (ev_mul (ev_ixT (ev_var g 1) ev_int rfl) (ev_ixT (ev_var g 0) ev_int rfl) (mok hy.n hx.d))) (ev_mul (ev_ixT (ev_var g 0) ev_int rfl) (ev_ixT (ev_var g 1) ev_int rfl) (mok hx.d hy.d)) (sp__law_low (bot_ok hx hy).1 (bot_ok hx hy).2)) (endD ?_))
    rw [fr_add]
theorem ok__law_sub (c__law_low : Fn M CX0 "_law_low" 1 Sp_low) (F : Fun M.K "_law_sub" "_law_sub" s__law_sub f fd) : FnOk M.P M.w M.K M.mg M.base CX0 2 f fd ["a", "b"] (spOf M.K Sp_minus) := by
  refine fn_ok F sc__law_sub ?_ ?_ ?_
  · rintro as res ⟨a, b, rfl, _⟩; rfl
  · rintro as C ns ds os ⟨a, b, _, _, _, h⟩; cases h
  · rintro X W G as res g ⟨x, y, rfl, hx, hy, rfl⟩ hbi
    refine sv_one (s_ret (ev_call2 g c__law_low (ev_sub (ev_mul (ev_ixT (ev_var g 0) ev_int rfl) (ev_ixT (ev_var g 1) ev_int rfl) (mok hx.n hy.d)) (ev_mul (ev_ixT (ev_var g 1) ev_int rfl) (ev_ixT (ev_var g 0) ev_int rfl) (mok hy.n hx.d))) (ev_mul (ev_ixT (ev_var g 0) ev_int rfl) (ev_ixT (ev_var g 1) ev_int rfl) (mok hx.d hy.d)) (sp__law_low (bot_ok hx hy).1 (bot_ok hx hy).2)) (endD ?_))
    rw [fr_sub]
theorem ok__law_mul (c__law_low : Fn M CX0 "_law_low" 1 Sp_low) (F : Fun M.K "_law_mul" "_law_mul" s__law_mul f fd) : FnOk M.P M.w M.K M.mg M.base CX0 2 f fd ["a", "b"] (spOf M.K Sp_times) := by
  refine fn_ok F sc__law_mul ?_ ?_ ?_
  · rintro as res ⟨a, b, rfl, _⟩; rfl
  · rintro as C ns ds os ⟨a, b, _, _, _, h⟩; cases h
  · rintro X W G as res g ⟨x, y, rfl, hx, hy, rfl⟩ hbi
    refine sv_one (s_ret (ev_call2 g c__law_low (ev_mul (ev_ixT (ev_var g 0) ev_int rfl) (ev_ixT (ev_var g 1) ev_int rfl) (mok hx.n hy.n)) (ev_mul (ev_ixT (ev_var g 0) ev_int rfl) (ev_ixT (ev_var g 1) ev_int rfl) (mok hx.d hy.d)) (sp__law_low (bot_ok hx hy).1 (bot_ok hx hy).2)) (endD ?_))
    rw [fr_mul]
theorem ok__law_lt (F : Fun M.K "_law_lt" "_law_lt" s__law_lt f fd) : FnOk M.P M.w M.K M.mg M.base CX0 1 f fd ["a", "b"] (spOf M.K Sp_lt) := by
  refine fn_ok F sc__law_lt ?_ ?_ ?_
  · rintro as res ⟨a, b, rfl, _⟩; rfl
  · rintro as C ns ds os ⟨a, b, _, _, _, h⟩; cases h
  · rintro X W G as res g ⟨x, y, rfl, hx, hy, rfl⟩ hbi
    refine sv_one (s_ret (ev_lt (ev_mul (ev_ixT (ev_var g 0) ev_int rfl) (ev_ixT (ev_var g 1) ev_int rfl) (mok hx.n hy.d)) (ev_mul (ev_ixT (ev_var g 1) ev_int rfl) (ev_ixT (ev_var g 0) ev_int rfl) (mok hy.n hx.d))) (endD ?_))
    rw [fr_lt]
theorem ok__law_le (F : Fun M.K "_law_le" "_law_le" s__law_le f fd) : FnOk M.P M.w M.K M.mg M.base CX0 1 f fd ["a", "b"] (spOf M.K Sp_le) := by
  refine fn_ok F sc__law_le ?_ ?_ ?_
  · rintro as res ⟨a, b, rfl, _⟩; rfl
  · rintro as C ns ds os ⟨a, b, _, _, _, h⟩; cases h
  · rintro X W G as res g ⟨x, y, rfl, hx, hy, rfl⟩ hbi
    refine sv_one (s_ret (ev_le (ev_mul (ev_ixT (ev_var g 0) ev_int rfl) (ev_ixT (ev_var g 1) ev_int rfl) (mok hx.n hy.d)) (ev_mul (ev_ixT (ev_var g 1) ev_int rfl) (ev_ixT (ev_var g 0) ev_int rfl) (mok hy.n hx.d))) (endD ?_))
    rw [fr_le]
theorem ok__law_lesser (c__law_lt : Fn M CX0 "_law_lt" 1 Sp_lt) (F : Fun M.K "_law_lesser" "_law_lesser" s__law_lesser f fd) : FnOk M.P M.w M.K M.mg M.base CX0 2 f fd ["a", "b"] (spOf M.K Sp_min) := by
  refine fn_ok F sc__law_lesser ?_ ?_ ?_
  · rintro as res ⟨a, b, rfl, _⟩; rfl
  · rintro as C ns ds os ⟨a, b, _, _, _, h⟩; cases h
  · rintro X W G as res g ⟨x, y, rfl, hx, hy, rfl⟩ hbi
    refine sv_cons (s_if (et_val (ev_call2 g c__law_lt (ev_var g 1) (ev_var g 0) (sp__law_lt hy hx))) (fun hc => ?_) (fun hc => ?_))
    · refine sv_one (s_ret (ev_var g 1) (endD ?_))
      unfold rmin
      rw [if_pos (of_decide_eq_true hc)]
    · refine sv_nil (sv_one (s_ret (ev_var g 0) (endD ?_)))
      unfold rmin
      rw [if_neg (of_decide_eq_false hc)]
theorem ok__law_total (c__law_add : Fn M CX0 "_law_add" 2 Sp_plus) (F : Fun M.K "_law_total" "_law_total" s__law_total f fd) : FnOk M.P M.w M.K M.mg M.base CX0 3 f fd ["row"] (spOf M.K Sp_sum) := by
  refine fn_ok F sc__law_total ?_ ?_ ?_
  · rintro as res ⟨a, rfl, _⟩; rfl
  · rintro as C ns ds os ⟨a, _, _, _, h⟩; cases h
  · rintro X W G as res g ⟨xs, rfl, hs, hl, rfl⟩ hbi
    have hbn := nob hbi rfl
    refine sv_cons (s_asg g 1 ((ev_tup (ea_cons ev_int (ea_cons ev_int ea_nil))).eq fr_zero) (hbn 1) ?_)
    refine sv_cons (s_for g (ei_list (ev_var g 0)) (fun i δ => ∃ s, δ = [.dat (.lst (xs.map fr)), .dat (fr (rsum (xs.take i))), s]) ⟨_, rfl⟩ ?_ ?_)
    · rintro i d δi hd ⟨s, rfl⟩
      obtain ⟨x, hx, rfl⟩ := map_get hd
      refine ⟨_, _, ag_name g 2 (hbn 2), ?_⟩
      refine sv_one (s_asg g 1 (ev_call2 g c__law_add (ev_var g 1) (ev_var g 2) (sp__law_add (hs.2 i) (hs.1 x (List.mem_of_getElem? hx)))) (hbn 1) ⟨.dat (fr x), ?_⟩)
      rw [take_succ_of hx, rsum_snoc]; rfl
    · rintro δ' ⟨s, rfl⟩
      refine sv_one (s_ret (ev_var g 1) (endD ?_))
      rw [List.length_map, List.take_length]
end

end LW

namespace LW
open PySem L2 DL
/-! ### what a number is -/
def isIntD : D → Bool
  | .int _ => true
  | _ => false
def Sp_num : PSpec := fun as res => ∃ d : D, as = [.dat d] ∧ d.noIns = true ∧ res = .ret (.dat (.bl (isIntD d))) []
theorem sp_is_number {d : D} (h : d.noIns = true) : Sp_num [.dat d] (.ret (.dat (.bl (isIntD d))) []) := ⟨d, rfl, h, rfl⟩
theorem sp__law_whole {d : D} (h : d.noIns = true) : Sp_num [.dat d] (.ret (.dat (.bl (isIntD d))) []) := ⟨d, rfl, h, rfl⟩
theorem ki_int (d : D) (h : d.noIns = true) : kitB (tyD d) "int" = some (isIntD d || kitB (tyD d) "bool" == some true) := by
  cases d <;> first | rfl | cases h
theorem ki_bool (d : D) (h : d.noIns = true) : kitB (tyD d) "bool" = some (kitB (tyD d) "bool" == some true) := by
  cases d <;> first | rfl | cases h
theorem ki_num (d : D) (h : d.noIns = true) : ((isIntD d || kitB (tyD d) "bool" == some true) && !(kitB (tyD d) "bool" == some true)) = isIntD d := by
  cases d <;> first | rfl | cases h
def isLTD : D → Bool
  | .tup _ => true
  | .lst _ => true
  | _ => false
theorem atI0 {α : Type} (a : α) (l : List α) : atI (a :: l) 0 = some a := atI_nat (j := 0) rfl
theorem atI1 {α : Type} (a b : α) (l : List α) : atI (a :: b :: l) 1 = some b := atI_nat (j := 1) rfl
/-- is_amount and amount are only asked about fractions -/
def Sp_isam : PSpec := fun as res => ∃ x : Rat, as = [.dat (fr x)] ∧ res = .ret (.dat (.bl true)) []
theorem sp_is_amount {x : Rat} : Sp_isam [.dat (fr x)] (.ret (.dat (.bl true)) []) := ⟨x, rfl, rfl⟩
def Sp_am : PSpec := fun as res => ∃ x : Rat, as = [.dat (fr x)] ∧ Sz x ∧ res = .ret (.dat (fr x)) []
theorem sp_amount {x : Rat} (hx : Sz x) : Sp_am [.dat (fr x)] (.ret (.dat (fr x)) []) := ⟨x, rfl, hx, rfl⟩
section
variable {M : Md} (T : Bn M) {f : Addr} {fd : FuncData}
include T
theorem ok_is_number (F : Fun M.K "is_number" "is_number" s_is_number f fd) : FnOk M.P M.w M.K M.mg M.base CX0 1 f fd ["value"] (spOf M.K Sp_num) := by
  refine fn_ok F sc_is_number ?_ ?_ ?_
  · rintro as res ⟨a, rfl, _⟩; rfl
  · rintro as C ns ds os ⟨a, _, _, h⟩; cases h
  · rintro X W G as res g ⟨d, rfl, hd, rfl⟩ hbi
    refine sv_one (s_ret (ev_and (ev_isi g T.isinstance T.int (by decide +kernel) (ev_var g 0) hd (ki_int d hd)) (fun _ => (ev_b1 (ev_not (ev_isi g T.isinstance T.bool (by decide +kernel) (ev_var g 0) hd (ki_bool d hd)))))) (endD ?_))
    rw [ki_num d hd]
theorem ok__law_whole (F : Fun M.K "_law_whole" "_law_whole" s__law_whole f fd) : FnOk M.P M.w M.K M.mg M.base CX0 1 f fd ["value"] (spOf M.K Sp_num) := by
  refine fn_ok F sc__law_whole ?_ ?_ ?_
  · rintro as res ⟨a, rfl, _⟩; rfl
  · rintro as C ns ds os ⟨a, _, _, h⟩; cases h
  · rintro X W G as res g ⟨d, rfl, hd, rfl⟩ hbi
    refine sv_one (s_ret (ev_and (ev_isi g T.isinstance T.int (by decide +kernel) (ev_var g 0) hd (ki_int d hd)) (fun _ => (ev_b1 (ev_not (ev_isi g T.isinstance T.bool (by decide +kernel) (ev_var g 0) hd (ki_bool d hd)))))) (endD ?_))
    rw [ki_num d hd]
theorem ok_is_amount (c_is_number : Fn M CX0 "is_number" 1 Sp_num) (F : Fun M.K "is_amount" "is_amount" s_is_amount f fd) : FnOk M.P M.w M.K M.mg M.base CX0 2 f fd ["value"] (spOf M.K Sp_isam) := by
  refine fn_ok F sc_is_amount ?_ ?_ ?_
  · rintro as res ⟨a, rfl, _⟩; rfl
  · rintro as C ns ds os ⟨a, _, h⟩; cases h
  · rintro X W G as res g ⟨x, rfl, rfl⟩ hbi
    refine sv_cons (s_if (et_val (ev_call1 g c_is_number (ev_var g 0) (sp_is_number rfl))) (fun hc => by cases hc) (fun hc => sv_nil ?_))
    refine sv_cons (s_if (et_w (ew_or (et_not (et_val (ev_isi2 g (tn := "list") (un := "tuple") T.isinstance T.list T.tuple (by decide +kernel) (by decide +kernel) (ev_var g 0) rfl kit_tl kit_tt))) (fun _ => (ew_o1 (et_neI (ev_lenT g T.len (ev_var g 0)) ev_int))))) (fun hc => by cases hc) (fun hc => sv_nil ?_))
    refine sv_one (s_ret (ev_and (ev_call1 g c_is_number (ev_ixT (ev_var g 0) ev_int rfl) (sp_is_number rfl)) (fun _ => (ev_and (ev_call1 g c_is_number (ev_ixT (ev_var g 0) ev_int rfl) (sp_is_number rfl)) (fun _ => (ev_b1 (ev_ge (ev_ixT (ev_var g 0) ev_int rfl) ev_int)))))) (endD ?_))
    have := den_pos x
    show Slot.dat (.bl true) = Slot.dat (.bl (true && (true && decide ((1 : Int) ≤ x.den))))
    rw [decide_eq_true (by omega)]; rfl
theorem ok_amount (c_is_number : Fn M CX0 "is_number" 1 Sp_num) (c_is_amount : Fn M CX0 "is_amount" 2 Sp_isam) (c_lowest : Fn M CX0 "lowest" 1 Sp_lowest) (F : Fun M.K "amount" "amount" s_amount f fd) : FnOk M.P M.w M.K M.mg M.base CX0 3 f fd ["value"] (spOf M.K Sp_am) := by
  refine fn_ok F sc_amount ?_ ?_ ?_
  · rintro as res ⟨a, rfl, _⟩; rfl
  · rintro as C ns ds os ⟨a, _, _, h⟩; cases h
  · rintro X W G as res g ⟨x, rfl, hx, rfl⟩ hbi
    refine sv_cons (s_if (et_not (et_val (ev_call1 g c_is_amount (ev_var g 0) (sp_is_amount)))) (fun hc => by cases hc) (fun hc => sv_nil ?_))
    refine sv_cons (s_if (et_val (ev_call1 g c_is_number (ev_var g 0) (sp_is_number rfl))) (fun hc => by cases hc) (fun hc => sv_nil ?_))
    refine sv_one (s_ret (ev_call2 g c_lowest (ev_ixT (ev_var g 0) ev_int rfl) (ev_ixT (ev_var g 0) ev_int rfl) (sp_lowest (den_pos _) (sz_bot hx))) (endD ?_))
    rw [fr_self]
end
def Sp_isfr : PSpec := fun as res => ∃ x : Rat, as = [.dat (fr x)] ∧ Sz x ∧ res = .ret (.dat (.bl true)) []
theorem sp__law_is_fraction {x : Rat} (hx : Sz x) : Sp_isfr [.dat (fr x)] (.ret (.dat (.bl true)) []) := ⟨x, rfl, hx, rfl⟩
/-! ### the script -/
def cellSeed (sc : List Int) : Int := sc.foldl (fun s c => (s * 31 + c % 1000003) % 1000003) 17
def cellV (sc : List Int) (k : Nat) : Int := if h : k < sc.length then sc[k] else ((cellSeed sc + 7) * (k + 3) * 69621) % 2147483647
def Sp_cell : PSpec := fun as res => ∃ (sc : List Int) (k : Nat), as = [.dat (.lst (sc.map .int)), .dat (.int k)] ∧ k ≤ 1000 ∧ res = .ret (.dat (.int (cellV sc k))) []
theorem sp__law_cell {sc : List Int} {k : Nat} (h : k ≤ 1000) : Sp_cell [.dat (.lst (sc.map .int)), .dat (.int k)] (.ret (.dat (.int (cellV sc k))) []) := ⟨sc, k, rfl, h, rfl⟩
def digA (st : List Int × Int) (s : Int) : List Int × Int := (st.1 ++ [st.2 % s], st.2 / s)
def seedB (seed : Int) (k : Nat) : Int := (seed * 48271 + 974711 * k + 12345) % 2147483647
def twiceB (seed : Int) : Int := (seed * (seed / 65537 + 3)) % 2147483629
def digB (sizes : List Int) (st : List Int × Int) (k : Nat) : List Int × Int := (st.1 ++ [twiceB (seedB st.2 k) / 19 % sizes.getD k 1], seedB st.2 k)
def digsV (c : Int) (sizes : List Int) : List Int := if (10 : Int) ^ 18 ≤ c then (sizes.foldl digA ([], c - 10 ^ 18)).1 else ((List.range sizes.length).foldl (digB sizes) ([], c % 2147483629)).1
theorem digA_len (l : List Int) : ∀ st : List Int × Int, (l.foldl digA st).1.length = st.1.length + l.length := by
  induction l with
  | nil => intro st; rfl
  | cons s l ih => intro st; show (l.foldl digA (digA st s)).1.length = _; rw [ih]; show (st.1 ++ [_]).length + _ = _; rw [List.length_append]; simp; omega
theorem digB_len (sizes : List Int) (l : List Nat) : ∀ st : List Int × Int, (l.foldl (digB sizes) st).1.length = st.1.length + l.length := by
  induction l with
  | nil => intro st; rfl
  | cons s l ih => intro st; show (l.foldl (digB sizes) (digB sizes st s)).1.length = _; rw [ih]; show (st.1 ++ [_]).length + _ = _; rw [List.length_append]; simp; omega
theorem digsV_len (c : Int) (sizes : List Int) : (digsV c sizes).length = sizes.length := by
  unfold digsV
  split
  · rw [digA_len]; simp
  · rw [digB_len]; simp
def Sp_digs : PSpec := fun as res => ∃ (c : Int) (sizes : List Int), as = [.dat (.int c), .dat (.lst (sizes.map .int))] ∧ (∀ s ∈ sizes, 0 < s ∧ s.natAbs < 2 ^ 8900) ∧ sizes.length ≤ 10000 ∧ res = .ret (.own ((digsV c sizes).map .int)) []
theorem sp__law_digits {c : Int} {sizes : List Int} (h : ∀ s ∈ sizes, 0 < s ∧ s.natAbs < 2 ^ 8900) (hl : sizes.length ≤ 10000) : Sp_digs [.dat (.int c), .dat (.lst (sizes.map .int))] (.ret (.own ((digsV c sizes).map .int)) []) := ⟨c, sizes, rfl, h, hl, rfl⟩
/-- one digit of the row, the next place counted -/
def dg (r : List Int) (k : Nat) (s : Int) : Int := r.getD ((k + 1) % r.length) 0 % s
def Sp_dig : PSpec := fun as res => ∃ (r : List Int) (k : Nat) (s : Int), as = [.dat (.lst (r.map .int)), .own [.int k], .dat (.int s)] ∧ 0 < s ∧ 0 < r.length ∧ res = .ret (.dat (.int (dg r k s))) [.un, .own [.int ((k + 1 : Nat) : Int)], .un]
theorem dg_lo {r : List Int} {k : Nat} {s : Int} (h : 0 < s) : 0 ≤ dg r k s := Int.emod_nonneg _ (by omega)
theorem dg_hi {r : List Int} {k : Nat} {s : Int} (h : 0 < s) : dg r k s < s := Int.emod_lt_of_pos _ h
theorem wd {z s : Int} (h : 0 < s) (h2 : s.natAbs < 2 ^ 8900) : CDivW z s := wide_div (b := 8900) h h2 (by decide) (by decide)
section
variable {M : Md} (T : Bn M) {f : Addr} {fd : FuncData}
include T
theorem ok__law_is_fraction (c__law_whole : Fn M CX0 "_law_whole" 1 Sp_num) (c__law_low : Fn M CX0 "_law_low" 1 Sp_low) (F : Fun M.K "_law_is_fraction" "_law_is_fraction" s__law_is_fraction f fd) : FnOk M.P M.w M.K M.mg M.base CX0 2 f fd ["value"] (spOf M.K Sp_isfr) := by
  refine fn_ok F sc__law_is_fraction ?_ ?_ ?_
  · rintro as res ⟨a, rfl, _⟩; rfl
  · rintro as C ns ds os ⟨a, _, _, h⟩; cases h
  · rintro X W G as res g ⟨x, rfl, hx, rfl⟩ hbi
    have hp := den_pos x
    refine sv_cons (s_if (et_w (ew_or (et_not (et_val (ev_isi g (tn := "tuple") T.isinstance T.tuple (by decide +kernel) (ev_var g 0) rfl kit_tt))) (fun _ => (ew_o1 (et_neI (ev_lenT g T.len (ev_var g 0)) ev_int))))) (fun hc => by cases hc) (fun hc => sv_nil ?_))
    refine sv_cons (s_if (et_w (ew_or (et_not (et_val (ev_call1 g c__law_whole (ev_ixT (ev_var g 0) ev_int rfl) (sp__law_whole rfl)))) (fun _ => (ew_or (et_not (et_val (ev_call1 g c__law_whole (ev_ixT (ev_var g 0) ev_int rfl) (sp__law_whole rfl)))) (fun _ => (ew_o1 (et_lt (ev_ixT (ev_var g 0) ev_int rfl) ev_int))))))) (fun hc => ?_) (fun hc => sv_nil ?_))
    · have hc' : (false || (false || decide ((x.den : Int) < 1))) = true := hc
      rw [decide_eq_false (by omega)] at hc'
      cases hc'
    · refine sv_one (s_ret (ev_eqF g ((ev_call2 g c__law_low (ev_ixT (ev_var g 0) ev_int rfl) (ev_ixT (ev_var g 0) ev_int rfl) (sp__law_low hp (sz_bot hx))).eq (by rw [fr_self])) (ev_var g 0)) (endD ?_))
      rw [decide_eq_true rfl]
theorem ok__law_cell (F : Fun M.K "_law_cell" "_law_cell" s__law_cell f fd) : FnOk M.P M.w M.K M.mg M.base CX0 1 f fd ["script", "k"] (spOf M.K Sp_cell) := by
  refine fn_ok F sc__law_cell ?_ ?_ ?_
  · rintro as res ⟨a, b, rfl, _⟩; rfl
  · rintro as C ns ds os ⟨a, b, _, _, h⟩; cases h
  · rintro X W G as res g ⟨sc, k, rfl, hk, rfl⟩ hbi
    have hbn := nob hbi rfl
    refine sv_cons (s_if (et_lt (ev_var g 1) (ev_lenL g T.len (ev_var g 0))) (fun hc => ?_) (fun hc => sv_nil ?_))
    · have hc' := of_decide_eq_true hc
      rw [List.length_map] at hc'
      have hk' : k < sc.length := by omega
      refine sv_one (s_ret (ev_ixL (ev_var g 0) (ev_var g 1) (atI_nat (v := D.int sc[k]) (by rw [List.getElem?_map, List.getElem?_eq_getElem hk']; rfl))) (endD ?_))
      unfold cellV
      rw [dif_pos hk']
    · have hc' := of_decide_eq_false hc
      rw [List.length_map] at hc'
      have hk' : ¬ k < sc.length := by omega
      refine sv_cons (s_asg g 2 ev_int (hbn 2) ?_)
      refine sv_cons (s_for g (ei_list (ev_var g 0)) (fun i δ => ∃ s, δ = [.dat (.lst (sc.map .int)), .dat (.int k), .dat (.int (cellSeed (sc.take i))), s] ∧ 0 ≤ cellSeed (sc.take i) ∧ cellSeed (sc.take i) < 1000003) ⟨_, rfl, by show (0:Int) ≤ 17; decide, by show (17:Int) < 1000003; decide⟩ ?_ ?_)
      · rintro i d δi hd ⟨s, rfl, h0, h1⟩
        obtain ⟨c, hc, rfl⟩ := map_get hd
        refine ⟨_, _, ag_name g 3 (hbn 3), ?_⟩
        have e : cellSeed (sc.take (i + 1)) = (cellSeed (sc.take i) * 31 + c % 1000003) % 1000003 := by
          rw [take_succ_of hc]; unfold cellSeed; rw [List.foldl_append]; rfl
        refine sv_one (s_asg g 2 (ev_mod (ev_toInt g T.int (ev_add (ev_mul (ev_var g 2) ev_int (mokS (by omega) (by decide))) (ev_mod (ev_toInt g T.int (ev_var g 3)) ev_int (by decide)))) ev_int (by decide)) (hbn 2) ⟨.dat (.int c), ?_, ?_, ?_⟩)
        · rw [e]; rfl
        · rw [e]; omega
        · rw [e]; omega
      · rintro δ' ⟨s, rfl, h0, h1⟩
        rw [List.length_map, List.take_length] at h0 h1 ⊢
        refine sv_one (s_ret (ev_mod (ev_toInt g T.int (ev_mul (ev_mul (ev_add (ev_var g 2) ev_int) (ev_add (ev_var g 1) ev_int) (mokS (by omega) (by omega))) ev_int (mok ?_ (by decide)))) ev_int (by decide)) (endD ?_))
        · refine Nat.lt_of_lt_of_le (mul_lt (a := 30) (b := 30) ?_ ?_) (Nat.pow_le_pow_right (by decide) (by decide)) <;> omega
        · unfold cellV
          rw [dif_neg hk']
theorem ok__law_digits (F : Fun M.K "_law_digits" "_law_digits" s__law_digits f fd) : FnOk M.P M.w M.K M.mg M.base CX0 1 f fd ["cell", "sizes"] (spOf M.K Sp_digs) := by
  refine fn_ok F sc__law_digits ?_ ?_ ?_
  · rintro as res ⟨a, b, rfl, _⟩; rfl
  · rintro as C ns ds os ⟨a, b, _, _, _, h⟩; cases h
  · rintro X W G as res g ⟨c, sizes, rfl, hs, hl, rfl⟩ hbi
    have hbn := nob hbi rfl
    refine sv_cons (s_asgM g 2 (ev_lst ea_nil) (hbn 2) ?_)
    refine sv_cons (s_asg g 3 (ev_toInt g T.int (ev_var g 0)) (hbn 3) ?_)
    refine sv_cons (s_if (et_ge (ev_var g 3) (ev_pow ev_int ev_int cp_ok)) (fun hc => ?_) (fun hc => sv_nil ?_))
    · refine sv_cons (s_asg g 3 (ev_sub (ev_var g 3) (ev_pow ev_int ev_int cp_ok)) (hbn 3) ?_)
      refine sv_cons (s_for g (ei_list (ev_var g 1)) (fun i δ => ∃ s1, δ = [.dat (.int c), .dat (.lst (sizes.map .int)), .own (((sizes.take i).foldl digA ([], c - 10 ^ 18)).1.map .int), .dat (.int ((sizes.take i).foldl digA ([], c - 10 ^ 18)).2), s1, .un, .un, .un]) ⟨_, rfl⟩ ?_ ?_)
      · rintro i d δi hd ⟨s1, rfl⟩
        obtain ⟨s, hsz, rfl⟩ := map_get hd
        have hi := (List.getElem?_eq_some_iff.mp hsz).1
        refine ⟨_, _, ag_name g 4 (hbn 4), ?_⟩
        obtain ⟨p1, p2⟩ := hs s (List.mem_of_getElem? hsz)
        refine sv_cons (s_app g 2 (ev_mod (ev_toInt g T.int (ev_var g 3)) (ev_var g 4) p1) ?_ ?_ ⟨_, rfl⟩)
        · rw [List.length_map, digA_len, List.length_take]; simp; omega
        · refine sv_one (s_asg g 3 (ev_fdiv (ev_toInt g T.int (ev_var g 3)) (ev_var g 4) (wd p1 p2)) (hbn 3) ⟨.dat (.int s), ?_⟩)
          rw [take_succ_of hsz, List.foldl_append]
          simp [digA, List.set]
      · rintro δ' ⟨s1, rfl⟩
        refine sv_one (s_retM g 2 (hbn 2) (endD ?_))
        rw [List.length_map, List.take_length]
        unfold digsV
        have hc' : (10 : Int) ^ 18 ≤ c := of_decide_eq_true hc
        rw [if_pos hc']
    · refine sv_cons (s_asg g 5 (ev_mod (ev_toInt g T.int (ev_var g 3)) ev_int (by decide)) (hbn 5) ?_)
      refine sv_cons (s_for g (ei_range1 g T.range (ev_lenL g T.len (ev_var g 1)) (by rw [List.length_map]; omega)) (fun i δ => ∃ s1 s2, δ = [.dat (.int c), .dat (.lst (sizes.map .int)), .own (((List.range i).foldl (digB sizes) ([], c % 2147483629)).1.map .int), .dat (.int c), .un, .dat (.int ((List.range i).foldl (digB sizes) ([], c % 2147483629)).2), s1, s2] ∧ 0 ≤ ((List.range i).foldl (digB sizes) ([], c % 2147483629)).2 ∧ ((List.range i).foldl (digB sizes) ([], c % 2147483629)).2 < 2147483647) ⟨.un, .un, rfl, ?_, ?_⟩ ?_ ?_)
      · show 0 ≤ c % 2147483629; omega
      · show c % 2147483629 < _; omega
      · rintro i d δi hd ⟨s1, s2, rfl, h0, h1⟩
        obtain ⟨hi, rfl⟩ := rangeD_get hd
        rw [List.length_map] at hi
        have hi2 : i < sizes.length := by omega
        refine ⟨_, _, ag_name g 6 (hbn 6), ?_⟩
        obtain ⟨p1, p2⟩ := hs sizes[i] (List.getElem_mem hi2)
        generalize hS : ((List.range i).foldl (digB sizes) ([], c % 2147483629)) = st at h0 h1 ⊢
        have hlen : st.1.length = i := by rw [← hS, digB_len]; simp
        have e : (List.range (i + 1)).foldl (digB sizes) ([], c % 2147483629) = digB sizes st i := by
          rw [List.range_succ, List.foldl_append, hS]; rfl
        have ez : (0 : Int) + (i : Int) = i := by omega
        rw [ez]
        refine sv_cons (s_asg g 5 ((ev_mod (ev_toInt g T.int (ev_add (ev_add (ev_mul (ev_var g 5) ev_int (mokS (by omega) (by decide))) (ev_mul ev_int (ev_var g 6) (mokS (by decide) (by omega)))) ev_int)) ev_int (by decide)).eq (d' := D.int (seedB st.2 i)) rfl) (hbn 5) ?_)
        have q0 : 0 ≤ seedB st.2 i := by unfold seedB; omega
        have q1 : seedB st.2 i < 2147483647 := by unfold seedB; omega
        refine sv_cons (s_asg g 7 ((ev_mod (ev_toInt g T.int (ev_mul (ev_var g 5) (ev_add (ev_fdiv (ev_var g 5) ev_int (wd (by decide) (by decide))) ev_int) (mokS (by omega) (by omega)))) ev_int (by decide)).eq (d' := D.int (twiceB (seedB st.2 i))) rfl) (hbn 7) ?_)
        refine sv_one (s_app g 2 (ev_mod (ev_fdiv (ev_var g 7) ev_int (wd (by decide) (by decide))) (ev_ixL (ev_var g 1) (ev_var g 6) (atI_nat (v := D.int sizes[i]) (by rw [List.getElem?_map, List.getElem?_eq_getElem hi2]; rfl))) p1) ?_ ⟨.dat (.int i), .dat (.int (twiceB (seedB st.2 i))), ?_, ?_, ?_⟩ ⟨_, rfl⟩)
        · rw [List.length_map, hlen]; omega
        · rw [e]
          unfold digB
          rw [List.getD_eq_getElem?_getD, List.getElem?_eq_getElem hi2]
          simp [List.set]
        · rw [e]; exact q0
        · rw [e]; exact q1
      · rintro δ' ⟨s1, s2, rfl, _⟩
        refine sv_one (s_retM g 2 (hbn 2) (endD ?_))
        rw [rangeD_len, List.length_map, Int.toNat_natCast]
        unfold digsV
        have hc' : ¬ (10 : Int) ^ 18 ≤ c := of_decide_eq_false hc
        rw [if_neg hc']
theorem ok__law_digit (F : Fun M.K "_law_digit" "_law_digit" s__law_digit f fd) : FnOk M.P M.w M.K M.mg M.base CX0 1 f fd ["row", "at", "size"] (spOf M.K Sp_dig) := by
  refine fn_ok F sc__law_digit ?_ ?_ ?_
  · rintro as res ⟨a, b, c, rfl, _⟩; rfl
  · rintro as C ns ds os ⟨a, b, c, _, _, _, h⟩; cases h
  · rintro X W G as res g ⟨r, k, s, rfl, h0, h1, rfl⟩ hbi
    refine sv_cons (s_setI g 1 (ev_add (ev_ixO g 1 ev_int rfl ⟨_, rfl⟩) ev_int) ev_int rfl ?_ ⟨_, rfl⟩)
    have hm : (k + 1) % r.length < r.length := Nat.mod_lt _ h1
    refine sv_one (s_ret (ev_mod (ev_toInt g T.int (ev_ixL (ev_var g 0) ((ev_mod (ev_toInt g T.int (ev_ixO g 1 ev_int rfl ⟨_, rfl⟩)) (ev_lenL g T.len (ev_var g 0)) (by rw [List.length_map]; omega)).eq (show D.int (((k : Int) + 1) % ((r.map D.int).length : Int)) = D.int (((k + 1) % r.length : Nat) : Int) by rw [List.length_map]; simp)) (atI_nat (v := D.int (r.getD ((k + 1) % r.length) 0)) (by rw [List.getElem?_map, List.getD_eq_getElem?_getD, List.getElem?_eq_getElem hm]; rfl)))) (ev_var g 2) h0) ⟨rfl, ?_⟩)
    intro i hi
    have hi' : i ∈ ([1] : List Nat) := hi
    rw [List.mem_singleton] at hi'
    subst hi'
    rfl
end

end LW

namespace LW
open PySem L2 DL
/-! ### amounts on a grid -/
/-- a multiple of 1/n, not above B in size -/
def Am (n B : Nat) (x : Rat) : Prop := (∃ z : Int, x * (n : Rat) = (z : Rat)) ∧ -(B : Rat) ≤ x ∧ x ≤ (B : Rat)
theorem am_int {n B : Nat} (z : Int) (h : z.natAbs ≤ B) : Am n B (z : Rat) := by
  refine ⟨⟨z * n, by rw [Rat.intCast_mul, Rat.intCast_natCast]⟩, ?_, ?_⟩
  · have : (-(B : Int)) ≤ z := by omega
    have := Rat.intCast_le_intCast.mpr this
    rw [Rat.intCast_neg, Rat.intCast_natCast] at this
    exact this
  · have : z ≤ (B : Int) := by omega
    have := Rat.intCast_le_intCast.mpr this
    rw [Rat.intCast_natCast] at this
    exact this
theorem natCast_le' {a b : Nat} (h : a ≤ b) : (a : Rat) ≤ b := Rat.natCast_le_natCast.mpr h
theorem Am.up {n B n' B' : Nat} {x : Rat} (h : Am n B x) (hn : n ∣ n') (hB : B ≤ B') : Am n' B' x := by
  obtain ⟨⟨z, h0⟩, h1, h2⟩ := h
  obtain ⟨c, rfl⟩ := hn
  have hb := natCast_le' hB
  refine ⟨⟨z * c, ?_⟩, by grind, by grind⟩
  rw [Rat.intCast_mul, ← h0, Rat.natCast_mul, Rat.intCast_natCast, Rat.mul_assoc]
theorem Am.add {n B C : Nat} {x y : Rat} (h : Am n B x) (k : Am n C y) : Am n (B + C) (x + y) := by
  obtain ⟨⟨z, h0⟩, h1, h2⟩ := h
  obtain ⟨⟨w, k0⟩, k1, k2⟩ := k
  refine ⟨⟨z + w, ?_⟩, ?_, ?_⟩
  · rw [Rat.intCast_add, ← h0, ← k0, Rat.add_mul]
  · rw [Rat.natCast_add]; grind
  · rw [Rat.natCast_add]; grind
theorem Am.sub {n B C : Nat} {x y : Rat} (h : Am n B x) (k : Am n C y) : Am n (B + C) (x - y) := by
  obtain ⟨⟨z, h0⟩, h1, h2⟩ := h
  obtain ⟨⟨w, k0⟩, k1, k2⟩ := k
  refine ⟨⟨z - w, ?_⟩, ?_, ?_⟩
  · rw [Rat.intCast_sub, ← h0, ← k0]; grind
  · rw [Rat.natCast_add]; grind
  · rw [Rat.natCast_add]; grind
theorem Am.rmin {n B : Nat} {x y : Rat} (h : Am n B x) (k : Am n B y) : Am n B (rmin x y) := by
  unfold LW.rmin; split <;> assumption
theorem mul_bound {x y B C : Rat} (h1 : -B ≤ x) (h2 : x ≤ B) (k1 : -C ≤ y) (k2 : y ≤ C) (hB : 0 ≤ B) (hC : 0 ≤ C) : x * y ≤ B * C := by
  have a1 : 0 ≤ (B - x) * (C + y) := Rat.mul_nonneg (by grind) (by grind)
  have a2 : 0 ≤ (B + x) * (C - y) := Rat.mul_nonneg (by grind) (by grind)
  grind
theorem Am.mul {n m B C : Nat} {x y : Rat} (h : Am n B x) (k : Am m C y) : Am (n * m) (B * C) (x * y) := by
  obtain ⟨⟨z, h0⟩, h1, h2⟩ := h
  obtain ⟨⟨w, k0⟩, k1, k2⟩ := k
  have hB : (0 : Rat) ≤ (B : Rat) := Rat.natCast_nonneg
  have hC : (0 : Rat) ≤ (C : Rat) := Rat.natCast_nonneg
  refine ⟨⟨z * w, ?_⟩, ?_, ?_⟩
  · rw [Rat.intCast_mul, ← h0, ← k0, Rat.natCast_mul]; grind
  · rw [Rat.natCast_mul]
    have := mul_bound (x := -x) (B := B) (by grind) (by grind) k1 k2 hB hC
    grind
  · rw [Rat.natCast_mul]
    exact mul_bound h1 h2 k1 k2 hB hC
theorem Am.sz {n B : Nat} {x : Rat} (h : Am n B x) (hn : 0 < n) (h1 : n < 2 ^ 1000) (h2 : B < 2 ^ 1000) : Sz x := by
  obtain ⟨⟨z, h0⟩, l1, l2⟩ := h
  have hd := x.den_pos
  have e : x.num * n = z * x.den := by
    rw [Rat.mul_def'] at h0
    have e1 : (z : Rat) = mkRat z 1 := (Rat.mkRat_self (z : Rat)).symm
    rw [e1, Rat.mkRat_eq_iff (by show x.den * 1 ≠ 0; omega) (by decide)] at h0
    have h0' : x.num * n * ((1 : Nat) : Int) = z * ((x.den * 1 : Nat) : Int) := h0
    simpa using h0'
  have dv : x.den ∣ n := by
    have q : x.den ∣ x.num.natAbs * n := by
      have := congrArg Int.natAbs e
      rw [Int.natAbs_mul, Int.natAbs_mul, Int.natAbs_natCast, Int.natAbs_natCast] at this
      exact ⟨z.natAbs, by rw [this, Nat.mul_comm]⟩
    exact (Nat.Coprime.symm x.reduced).dvd_of_dvd_mul_left q
  have dl : x.den ≤ n := Nat.le_of_dvd hn dv
  have u1 : x.num ≤ B * x.den := by
    have := (Rat.le_iff _ _).mp l2
    have eB : ((B : Rat)).num = B := rfl
    have eD : ((B : Rat)).den = 1 := rfl
    rw [eB, eD] at this
    omega
  have u2 : -(B * x.den : Int) ≤ x.num := by
    have := (Rat.le_iff _ _).mp l1
    have eB : (-(B : Rat)).num = -B := rfl
    have eD : (-(B : Rat)).den = 1 := rfl
    rw [eB, eD, Int.neg_mul] at this
    omega
  have u3 : x.num.natAbs ≤ B * x.den := by
    have : ((B * x.den : Nat) : Int) = (B : Int) * x.den := by simp
    omega
  have u4 : x.num.natAbs < 2 ^ (1000 + 1000) := by
    have : B * x.den < 2 ^ 1000 * 2 ^ 1000 := Nat.mul_lt_mul_of_lt_of_le h2 (Nat.le_of_lt (Nat.lt_of_le_of_lt dl h1)) (Nat.pow_pos (by decide))
    rw [Nat.pow_add]
    omega
  exact ⟨Nat.lt_of_lt_of_le u4 (Nat.pow_le_pow_right (by decide) (by decide)), Nat.lt_of_lt_of_le (Nat.lt_of_le_of_lt dl h1) (Nat.pow_le_pow_right (by decide) (by decide))⟩

end LW

namespace LW
open PySem L2 DL
/-! ### seatings: the rows -/
def DD : Nat := 8148 * 840 * 96 * 1000000 * 420 * 12
/-- an amount of this law -/
def Aa (x : Rat) : Prop := Am DD 100000 x
theorem dd_lt : DD < 2 ^ 200 := by decide +kernel
theorem p200 : (2 : Nat) ^ 200 < 2 ^ 1000 := Nat.pow_lt_pow_right (by decide) (by decide)
theorem dd_pos : 0 < DD := by decide +kernel
theorem pw1 {n : Nat} (h : n < 2 ^ 200) : n < 2 ^ 1000 := Nat.lt_trans h p200
theorem Aa.sz {x : Rat} (h : Aa x) : Sz x := Am.sz h dd_pos (pw1 dd_lt) (pw1 (by decide +kernel))
theorem Aa.sub {x y : Rat} (h : Aa x) (k : Aa y) : Sz (x - y) := Am.sz (Am.sub h k) dd_pos (pw1 dd_lt) (pw1 (by decide +kernel))
theorem Aa.add {x y : Rat} (h : Aa x) (k : Aa y) : Sz (x + y) := Am.sz (Am.add h k) dd_pos (pw1 dd_lt) (pw1 (by decide +kernel))
theorem dd2 : DD * DD < 2 ^ 1000 := by decide +kernel
theorem Aa.mulS {x y z : Rat} (h : Aa x) (k : Aa y) (l : Aa z) : Sz (x * (y - z)) := Am.sz (Am.mul h (Am.sub k l)) (Nat.mul_pos dd_pos dd_pos) dd2 (pw1 (by decide +kernel))
structure Rw where
  c : Int
  p : Int
  a : Rat
  b : Rat
def Rw.d (r : Rw) : D := .tup [.int r.c, .int r.p, fr r.a, fr r.b]
def Rw.l (r : Rw) : D := .lst [.int r.c, .int r.p, fr r.a, fr r.b]
def RwOk (r : Rw) : Prop := Aa r.a ∧ Aa r.b
/-- a stretch as data -/
def StD (st : D) (S T : Rat) (sh : List Rat) : Prop := ∃ h : D, (h = .lst (sh.map fr) ∨ h = .tup (sh.map fr)) ∧ (st = .tup [fr S, fr T, h] ∨ st = .lst [fr S, fr T, h])
def ShOk (sh : List Rat) : Prop := (∀ x ∈ sh, Aa x) ∧ sh.length ≤ 1000
def Sp_kept : PSpec := fun as res => ∃ st S T sh, as = [.dat st] ∧ StD st S T sh ∧ Aa S ∧ Aa T ∧ ShOk sh ∧ res = .ret (.dat (.tup [fr S, fr T, .lst (sh.map fr)])) []
theorem sp_kept_stretch {st : D} {S T : Rat} {sh : List Rat} (h : StD st S T sh) (hS : Aa S) (hT : Aa T) (hs : ShOk sh) : Sp_kept [.dat st] (.ret (.dat (.tup [fr S, fr T, .lst (sh.map fr)])) []) := ⟨st, S, T, sh, rfl, h, hS, hT, hs, rfl⟩
def fitsB (S T : Rat) (n t : Int) (r : Rw) : Bool := (decide (0 ≤ r.c) && decide (r.c < t)) && ((decide (0 ≤ r.p) && decide (r.p < n)) && (decide (S ≤ r.a) && (decide (r.a < r.b) && decide (r.b ≤ T))))
def Sp_fits : PSpec := fun as res => ∃ S T n t r, as = [.dat (Rw.d r), .dat (fr S), .dat (fr T), .dat (.int n), .dat (.int t)] ∧ Aa S ∧ Aa T ∧ RwOk r ∧ res = .ret (.dat (.bl (fitsB S T n t r))) []
theorem sp_seat_fits {S T : Rat} {n t : Int} {r : Rw} (hS : Aa S) (hT : Aa T) (hr : RwOk r) : Sp_fits [.dat (Rw.d r), .dat (fr S), .dat (fr T), .dat (.int n), .dat (.int t)] (.ret (.dat (.bl (fitsB S T n t r))) []) := ⟨S, T, n, t, r, rfl, hS, hT, hr, rfl⟩
def clashB (r s : Rw) : Bool := (decide (r.c = s.c) || decide (r.p = s.p)) && (decide (r.a < s.b) && decide (s.a < r.b))
def Sp_clash : PSpec := fun as res => ∃ r s, as = [.dat (Rw.d r), .dat (Rw.d s)] ∧ RwOk r ∧ RwOk s ∧ res = .ret (.dat (.bl (clashB r s))) []
theorem sp_clash {r s : Rw} (hr : RwOk r) (hs : RwOk s) : Sp_clash [.dat (Rw.d r), .dat (Rw.d s)] (.ret (.dat (.bl (clashB r s))) []) := ⟨r, s, rfl, hr, hs, rfl⟩
section
variable {M : Md} (T : Bn M) {f : Addr} {fd : FuncData}
include T
theorem ok_kept_stretch (c_amount : Fn M CX0 "amount" 3 Sp_am) (F : Fun M.K "kept_stretch" "kept_stretch" s_kept_stretch f fd) : FnOk M.P M.w M.K M.mg M.base CX0 4 f fd ["stretch"] (spOf M.K Sp_kept) := by
  refine fn_ok F sc_kept_stretch ?_ ?_ ?_
  · rintro as res ⟨a, _, _, _, rfl, _⟩; rfl
  · rintro as C ns ds os ⟨a, _, _, _, _, _, _, _, _, h⟩; cases h
  · rintro X W G as res g ⟨st, S, U, sh, rfl, hst, hS, hU, ⟨hs, hl⟩, rfl⟩ hbi
    have hbn := nob hbi rfl
    obtain ⟨h, hh, hst⟩ := hst
    have fin : ∀ δ, δ = [.dat st, .dat (fr S), .dat (fr U), .dat h, .un] → SV X W G ((defBody s_kept_stretch).drop 1) δ (Ends0 [.dat st] (.ret (.dat (.tup [fr S, fr U, .lst (sh.map fr)])) [])) := by
      rintro δ rfl
      refine sv_one (s_ret (ev_tup (ea_cons (ev_call1 g c_amount (ev_var g 1) (sp_amount hS.sz)) (ea_cons (ev_call1 g c_amount (ev_var g 2) (sp_amount hU.sz)) (ea_cons (EV.ls (ev_lcM1 g 4 (sh.map fr) (hbn 4) (ei_lt hh (ev_var g 3)) rfl (by rw [List.length_map]; omega) ?_)) ea_nil)))) (endD rfl))
      · intro i d hd
        obtain ⟨x, hx, rfl⟩ := map_get hd
        exact ⟨fr x, hd, fun Y G2 gy hG => ev_call1 gy c_amount (ev_var gy 4) (sp_amount (hs x (List.mem_of_getElem? hx)).sz)⟩
    rcases hst with rfl | rfl
    · exact sv_cons (s_asgT g (ev_var g 0) (ag_tup g ((ags_cons (ag_name g 1 (hbn 1)) (ags_cons (ag_name g 2 (hbn 2)) (ags_cons (ag_name g 3 (hbn 3)) ags_nil))))) (fin _ rfl))
    · exact sv_cons (s_asgT g (ev_var g 0) (ag_lst g ((ags_cons (ag_name g 1 (hbn 1)) (ags_cons (ag_name g 2 (hbn 2)) (ags_cons (ag_name g 3 (hbn 3)) ags_nil))))) (fin _ rfl))
theorem ok_seat_fits (c_less : Fn M CX0 "less" 1 Sp_lt) (c_at_most : Fn M CX0 "at_most" 1 Sp_le) (F : Fun M.K "seat_fits" "seat_fits" s_seat_fits f fd) : FnOk M.P M.w M.K M.mg M.base CX0 2 f fd ["row", "start", "stop", "count", "counters"] (spOf M.K Sp_fits) := by
  refine fn_ok F sc_seat_fits ?_ ?_ ?_
  · rintro as res ⟨_, _, _, _, _, rfl, _⟩; rfl
  · rintro as C ns ds os ⟨_, _, _, _, _, _, _, _, _, h⟩; cases h
  · rintro X W G as res g ⟨S, U, n, t, r, rfl, hS, hU, hr, rfl⟩ hbi
    have hbn := nob hbi rfl
    refine sv_cons (s_asg g 5 (ev_and (ev_call2 g c_at_most (ev_var g 1) (ev_ixT (ev_var g 0) ev_int rfl) (sp_at_most hS.sz hr.1.sz)) (fun _ => (ev_and (ev_call2 g c_less (ev_ixT (ev_var g 0) ev_int rfl) (ev_ixT (ev_var g 0) ev_int rfl) (sp_less hr.1.sz hr.2.sz)) (fun _ => (ev_b1 (ev_call2 g c_at_most (ev_ixT (ev_var g 0) ev_int rfl) (ev_var g 2) (sp_at_most hr.2.sz hU.sz))))))) (hbn 5) ?_)
    refine sv_one (s_ret (ev_and (ev_leLt ev_int (ev_ixT (ev_var g 0) ev_int rfl) (fun _ => (ev_var g 4))) (fun _ => (ev_and (ev_leLt ev_int (ev_ixT (ev_var g 0) ev_int rfl) (fun _ => (ev_var g 3))) (fun _ => (ev_b1 (ev_var g 5)))))) (endD rfl))
theorem ok_clash (c_less : Fn M CX0 "less" 1 Sp_lt) (F : Fun M.K "clash" "clash" s_clash f fd) : FnOk M.P M.w M.K M.mg M.base CX0 2 f fd ["one", "two"] (spOf M.K Sp_clash) := by
  refine fn_ok F sc_clash ?_ ?_ ?_
  · rintro as res ⟨_, _, rfl, _⟩; rfl
  · rintro as C ns ds os ⟨_, _, _, _, _, h⟩; cases h
  · rintro X W G as res g ⟨r, s, rfl, hr, hs, rfl⟩ hbi
    refine sv_cons (s_if (et_w (ew_and (et_neI (ev_ixT (ev_var g 0) ev_int rfl) (ev_ixT (ev_var g 1) ev_int rfl)) (fun _ => (ew_a1 (et_neI (ev_ixT (ev_var g 0) ev_int rfl) (ev_ixT (ev_var g 1) ev_int rfl)))))) (fun hc => ?_) (fun hc => sv_nil ?_))
    · refine sv_one (s_ret ev_bl (endD ?_))
      have hc' : (!decide (r.c = s.c) && !decide (r.p = s.p)) = true := hc
      unfold clashB
      by_cases h1 : r.c = s.c <;> by_cases h2 : r.p = s.p <;> simp_all
    · refine sv_one (s_ret (ev_and (ev_call2 g c_less (ev_ixT (ev_var g 0) ev_int rfl) (ev_ixT (ev_var g 1) ev_int rfl) (sp_less hr.1.sz hs.2.sz)) (fun _ => (ev_b1 (ev_call2 g c_less (ev_ixT (ev_var g 1) ev_int rfl) (ev_ixT (ev_var g 0) ev_int rfl) (sp_less hs.1.sz hr.2.sz))))) (endD ?_))
      have hc' : (!decide (r.c = s.c) && !decide (r.p = s.p)) = false := hc
      unfold clashB
      by_cases h1 : r.c = s.c <;> by_cases h2 : r.p = s.p <;> simp_all
end

end LW

namespace LW
open PySem L2 DL
theorem rwd_inj {r s : Rw} (h : Rw.d r = Rw.d s) : r = s := by
  unfold Rw.d at h
  injection h with h
  injection h with h1 h
  injection h with h2 h
  injection h with h3 h
  injection h with h4 _
  injection h1 with h1
  injection h2 with h2
  have h3 := fr_inj h3
  have h4 := fr_inj h4
  cases r; cases s
  subst h1 h2 h3 h4
  rfl
/-- how long the job p is served, row by row -/
def dur (rows : List Rw) (p : Int) : List Rat := (rows.filter (fun r => decide (r.p = p))).map (fun r => r.b - r.a)
def Seated (S T : Rat) (sh : List Rat) (t : Int) (rows : List Rw) : Prop :=
  (∀ r ∈ rows, fitsB S T sh.length t r = true) ∧ (∀ (k l : Nat) r s, k < l → rows[k]? = some r → rows[l]? = some s → clashB r s = false) ∧ ∀ (i : Nat) x, sh[i]? = some x → rsum (dur rows i) = x * (T - S)
def RwsOk (rows : List Rw) : Prop := (∀ r ∈ rows, RwOk r) ∧ rows.length ≤ 1000
theorem am_rsum {n B : Nat} : ∀ {xs : List Rat}, (∀ x ∈ xs, Am n B x) → Am n (B * xs.length) (rsum xs)
  | [], _ => by rw [rsum_nil]; exact am_int (n := n) (B := B * 0) 0 (by simp)
  | x :: xs, h => by
    rw [rsum_cons]
    have := Am.add (h x (List.mem_cons_self ..)) (am_rsum (xs := xs) fun y hy => h y (List.mem_cons_of_mem _ hy))
    rw [List.length_cons, Nat.mul_add, Nat.mul_one, Nat.add_comm]
    exact this
theorem am_sums {n B L : Nat} {xs : List Rat} (h : ∀ x ∈ xs, Am n B x) (hl : xs.length ≤ L) (hn : 0 < n) (h1 : n < 2 ^ 1000) (h2 : B * L < 2 ^ 1000) (hL : 0 < L) : Sums xs := by
  refine ⟨fun x hx => (h x hx).sz hn h1 ?_, fun i => ?_⟩
  · exact Nat.lt_of_le_of_lt (Nat.le_mul_of_pos_right B hL) h2
  · refine (am_rsum (fun x hx => h x (List.mem_of_mem_take hx))).sz hn h1 (Nat.lt_of_le_of_lt (Nat.mul_le_mul_left B ?_) h2)
    rw [List.length_take]; omega
theorem dur_sums {rows : List Rw} (h : RwsOk rows) (p : Int) : Sums (dur rows p) ∧ (dur rows p).length ≤ 1000 := by
  have hl : (dur rows p).length ≤ 1000 := by
    unfold dur
    rw [List.length_map]
    exact Nat.le_trans (List.length_filter_le ..) h.2
  refine ⟨am_sums (n := DD) (B := 100000 + 100000) (L := 1000) (fun x hx => ?_) hl dd_pos (pw1 dd_lt) (pw1 (by decide +kernel)) (by decide), hl⟩
  unfold dur at hx
  obtain ⟨r, hr, rfl⟩ := List.mem_map.mp hx
  have := h.1 r (List.mem_filter.mp hr).1
  exact Am.sub this.2 this.1
def SeatD (seat : D) (rows : List Rw) : Prop := ∃ es : List D, (seat = .lst es ∨ seat = .tup es) ∧ es.length = rows.length ∧ ∀ (i : Nat) e, es[i]? = some e → ∃ r, rows[i]? = some r ∧ (e = .lst [.int r.c, .int r.p, fr r.a, fr r.b] ∨ e = .tup [.int r.c, .int r.p, fr r.a, fr r.b])
def Sp_seating : PSpec := fun as res => ∃ st S T sh t seat rows b, as = [.dat st, .dat (.int t), .dat seat] ∧ StD st S T sh ∧ Aa S ∧ Aa T ∧ ShOk sh ∧ SeatD seat rows ∧ RwsOk rows ∧ (b = true ↔ Seated S T sh t rows) ∧ res = .ret (.dat (.bl b)) []
theorem sp_is_seating {st : D} {S T : Rat} {sh : List Rat} {t : Int} {seat : D} {rows : List Rw} {b : Bool} (h1 : StD st S T sh) (h2 : Aa S) (h3 : Aa T) (h4 : ShOk sh) (h5 : SeatD seat rows) (h6 : RwsOk rows) (h7 : b = true ↔ Seated S T sh t rows) : Sp_seating [.dat st, .dat (.int t), .dat seat] (.ret (.dat (.bl b)) []) := ⟨st, S, T, sh, t, seat, rows, b, rfl, h1, h2, h3, h4, h5, h6, h7, rfl⟩
theorem bfalse {b : Bool} {p : Prop} (h : b = true ↔ p) (n : ¬ p) : Slot.dat (D.bl b) = Slot.dat (D.bl false) := by
  cases b with
  | true => exact absurd (h.mp rfl) n
  | false => rfl
theorem btrue {b : Bool} {p : Prop} (h : b = true ↔ p) (n : p) : Slot.dat (D.bl b) = Slot.dat (D.bl true) := by rw [h.mpr n]
theorem map_bl (l : List Bool) : (l.map D.bl).length = l.length := List.length_map ..
section
variable {M : Md} (T : Bn M) {f : Addr} {fd : FuncData}
include T
theorem ok_is_seating (c_kept_stretch : Fn M CX0 "kept_stretch" 4 Sp_kept) (c_amount : Fn M CX0 "amount" 3 Sp_am) (c_seat_fits : Fn M CX0 "seat_fits" 2 Sp_fits) (c_clash : Fn M CX0 "clash" 2 Sp_clash) (c_minus : Fn M CX0 "minus" 2 Sp_minus) (c_times : Fn M CX0 "times" 2 Sp_times) (c_sum_of : Fn M CX0 "sum_of" 3 Sp_sum)
    (F : Fun M.K "is_seating" "is_seating" s_is_seating f fd) : FnOk M.P M.w M.K M.mg M.base CX0 5 f fd ["stretch", "counters", "seating"] (spOf M.K Sp_seating) := by
  refine fn_ok F sc_is_seating ?_ ?_ ?_
  · rintro as res ⟨_, _, _, _, _, _, _, _, rfl, _⟩; rfl
  · rintro as C ns ds os ⟨_, _, _, _, _, _, _, _, _, _, _, _, _, _, _, _, h⟩; cases h
  · rintro X W G as res g ⟨st, S, U, sh, t, seat, rows, b, rfl, hst, hS, hU, hsh, hseat, hrows, hb, rfl⟩ hbi
    have hbn := nob hbi rfl
    refine sv_cons (s_asgT g (ev_call1 g c_kept_stretch (ev_var g 0) (sp_kept_stretch hst hS hU hsh)) (ag_tup g ((ags_cons (ag_name g 3 (hbn 3)) (ags_cons (ag_name g 4 (hbn 4)) (ags_cons (ag_name g 5 (hbn 5)) ags_nil))))) ?_)
    obtain ⟨es, hes, hel, hev⟩ := hseat
    refine sv_cons (s_asgLcM1 g 6 7 (rows.map Rw.d) hbn ?_ (ei_lt hes (ev_var g 2)) (by rw [List.length_map, hel]) (by rw [hel]; have := hrows.2; omega) ?_)
    · refine sv_cons (s_if (et_not (et_val (ev_all g T.all (EV.ls (ev_lcM1 g 7 ((rows.map (fitsB S U sh.length t)).map D.bl) (hbn 7) (ei_list (ev_lst_of g 6 (hbn 6))) (by simp) (by rw [List.length_map]; have := hrows.2; omega) ?_))))) (fun hc => ?_) (fun hc => sv_nil ?_))
      · intro i d hd
        obtain ⟨r, hr, rfl⟩ := map_get hd
        refine ⟨.bl (fitsB S U sh.length t r), by rw [List.getElem?_map, List.getElem?_map, hr]; rfl, fun Y G2 gy hG => ?_⟩
        exact (ev_call5 gy c_seat_fits (ev_var gy 7) (ev_var gy 3) (ev_var gy 4) ((ev_lenL gy T.len (ev_var gy 5)).eq (d' := .int sh.length) (by rw [List.length_map])) (ev_var gy 1) (sp_seat_fits hS hU (hrows.1 r (List.mem_of_getElem? hr))))
      · refine sv_one (s_ret ev_bl (endD (bfalse hb fun h => ?_)))
        have hc' : (!(rows.map (fitsB S U sh.length t)).all id) = true := hc
        rw [Bool.not_eq_true', List.all_eq_false] at hc'
        obtain ⟨x, hx, hx2⟩ := hc'
        obtain ⟨r, hr, rfl⟩ := List.mem_map.mp hx
        exact hx2 (h.1 r hr)
      · have hc' : (!(rows.map (fitsB S U sh.length t)).all id) = false := hc
        rw [Bool.not_eq_false', List.all_eq_true] at hc'
        have hfit : ∀ r ∈ rows, fitsB S U sh.length t r = true := fun r hr => hc' _ (List.mem_map.mpr ⟨r, hr, rfl⟩)
        refine sv_cons (s_for g (ei_enum g T.enumerate (ev_var g 6)) (fun i δ => ∃ s7 s8 s9, δ = [.dat st, .dat (.int t), .dat seat, .dat (fr S), .dat (fr U), .dat (.lst (sh.map fr)), .dat (.lst (rows.map Rw.d)), s7, s8, s9, .un, .un, .un] ∧ ∀ (k l : Nat) r s, k < i → k < l → rows[k]? = some r → rows[l]? = some s → clashB r s = false) ⟨.un, .un, .un, rfl, fun k l r s h => absurd h (by omega)⟩ ?_ ?_)
        · rintro i d δi hd ⟨s7, s8, s9, rfl, hI⟩
          obtain ⟨e, he, rfl⟩ := enumD_get hd
          obtain ⟨r, hr, rfl⟩ := map_get he
          rw [Nat.zero_add]
          refine ⟨_, _, ag_tup g ((ags_cons (ag_name g 8 (hbn 8)) (ags_cons (ag_name g 7 (hbn 7)) ags_nil))), ?_⟩
          refine sv_one (s_if (et_val (ev_any g T.any (EV.ls (ev_lcM1 g 9 (((rows.drop (i + 1)).map (clashB r)).map D.bl) (hbn 9) (ei_list ((EV.ls (ev_slL (ev_var g 6) (eo_some (ev_add (ev_var g 8) ev_int)) eo_none)).eq (show D.lst (cutD (rows.map Rw.d) (some ((i + 1 : Nat) : Int)) none) = D.lst ((rows.drop (i + 1)).map Rw.d) by rw [cutD_from, List.map_drop]))) (by simp) (by rw [List.length_map, List.length_drop]; have := hrows.2; omega) ?_)))) (fun hc => ?_) (fun hc => sv_nil ?_))
          · intro j d hd
            obtain ⟨s, hs, rfl⟩ := map_get hd
            refine ⟨.bl (clashB r s), by rw [List.getElem?_map, List.getElem?_map, hs]; rfl, fun Y G2 gy hG => ?_⟩
            exact ev_call2 gy c_clash (ev_var gy 7) (ev_var gy 9) (sp_clash (hrows.1 r (List.mem_of_getElem? hr)) (hrows.1 s (List.mem_of_mem_drop (List.mem_of_getElem? hs))))
          · refine sv_one (s_ret ev_bl (endD (bfalse hb fun h => ?_)))
            rw [List.any_eq_true] at hc
            obtain ⟨x, hx, hx2⟩ := hc
            obtain ⟨s, hs, rfl⟩ := List.mem_map.mp hx
            obtain ⟨j, hj⟩ := List.mem_iff_getElem?.mp hs
            rw [List.getElem?_drop] at hj
            have := h.2.1 i (i + 1 + j) r s (by omega) hr hj
            rw [id, this] at hx2; cases hx2
          · rw [List.any_eq_false] at hc
            refine ⟨.dat (Rw.d r), .dat (.int i), .un, rfl, fun k l r' s hk hkl h1 h2 => ?_⟩
            by_cases hki : k = i
            · subst hki
              rw [hr] at h1
              obtain rfl := Option.some.inj h1
              have : s ∈ rows.drop (k + 1) := List.mem_iff_getElem?.mpr ⟨l - (k + 1), by rw [List.getElem?_drop, ← h2]; congr 1; omega⟩
              have := hc _ (List.mem_map.mpr ⟨s, this, rfl⟩)
              simpa using this
            · exact hI k l r' s (by omega) hkl h1 h2
        · rintro δ' ⟨s7, s8, s9, rfl, hI⟩
          rw [enumD_len, List.length_map] at hI
          have hcl : ∀ (k l : Nat) r s, k < l → rows[k]? = some r → rows[l]? = some s → clashB r s = false := fun k l r s hkl h1 h2 => hI k l r s (List.getElem?_eq_some_iff.mp h1).1 hkl h1 h2
          refine sv_cons (s_for g (ei_enum g T.enumerate (ev_var g 5)) (fun i δ => ∃ s7 s8 s9 s10 s11 s12, δ = [.dat st, .dat (.int t), .dat seat, .dat (fr S), .dat (fr U), .dat (.lst (sh.map fr)), .dat (.lst (rows.map Rw.d)), s7, s8, s9, s10, s11, s12] ∧ ∀ (k : Nat) x, k < i → sh[k]? = some x → rsum (dur rows k) = x * (U - S)) ⟨_, _, _, _, _, _, rfl, fun k x h => absurd h (by omega)⟩ ?_ ?_)
          · rintro i d δi hd ⟨s7, s8, s9, s10, s11, s12, rfl, hJ⟩
            obtain ⟨e, he, rfl⟩ := enumD_get hd
            obtain ⟨x, hx, rfl⟩ := map_get he
            rw [Nat.zero_add]
            refine ⟨_, _, ag_tup g ((ags_cons (ag_name g 10 (hbn 10)) (ags_cons (ag_name g 11 (hbn 11)) ags_nil))), ?_⟩
            obtain ⟨q1, q2⟩ := dur_sums hrows i
            refine sv_cons (s_asg g 12 (ev_call1 g c_sum_of ((EV.ls (ev_lcFx g 7 rows Rw.d (fun r => decide (r.p = (i : Int))) (fun r => fr (r.b - r.a)) (fun _ _ => rwd_inj) (hbn 7) (ei_list (ev_var g 6)) (by have := hrows.2; omega) ?_)).eq (show D.lst ((rows.filter (fun r => decide (r.p = (i : Int)))).map (fun r => fr (r.b - r.a))) = D.lst ((dur rows i).map fr) by unfold dur; rw [List.map_map]; rfl)) (sp_sum_of q1 (by omega))) (hbn 12) ?_)
            · intro r hr
              have ok := hrows.1 r hr
              exact ⟨fun Y G2 gy hG => et_eqI (ev_ixT (ev_var gy 7) ev_int rfl) (ev_var gy 10), fun _ Y G2 gy hG => ev_call2 gy c_minus (ev_ixT (ev_var gy 7) ev_int rfl) (ev_ixT (ev_var gy 7) ev_int rfl) (sp_minus ok.2.sz ok.1.sz)⟩
            · have hxa := hsh.1 x (List.mem_of_getElem? hx)
              refine sv_one (s_if (et_neF g (ev_var g 12) (ev_call2 g c_times (ev_var g 11) (ev_call2 g c_minus (ev_var g 4) (ev_var g 3) (sp_minus hU.sz hS.sz)) (sp_times hxa.sz (hU.sub hS)))) (fun hc => ?_) (fun hc => sv_nil ?_))
              · refine sv_one (s_ret ev_bl (endD (bfalse hb fun h => ?_)))
                rw [h.2.2 i x hx] at hc
                simp at hc
              · refine ⟨.un, s8, s9, .dat (.int i), .dat (fr x), .dat (fr (rsum (dur rows i))), rfl, fun k y hk hy => ?_⟩
                by_cases hki : k = i
                · subst hki
                  rw [hx] at hy
                  obtain rfl := Option.some.inj hy
                  simpa using hc
                · exact hJ k y (by omega) hy
          · rintro δ' ⟨s7, s8, s9, s10, s11, s12, rfl, hJ⟩
            rw [enumD_len, List.length_map] at hJ
            refine sv_one (s_ret ev_bl (endD (btrue hb ⟨hfit, hcl, fun i x hx => hJ i x (List.getElem?_eq_some_iff.mp hx).1 hx⟩)))
    · intro i d hd
      obtain ⟨r, hr, hd2⟩ := hev i d hd
      have ok := hrows.1 r (List.mem_of_getElem? hr)
      refine ⟨Rw.d r, by rw [List.getElem?_map, hr]; rfl, fun Y G2 gy hG => ?_⟩
      exact (ev_tup (ea_cons (ev_ixLT hd2 (ev_var gy 7) ev_int rfl) (ea_cons (ev_ixLT hd2 (ev_var gy 7) ev_int rfl) (ea_cons (ev_call1 gy c_amount (ev_ixLT hd2 (ev_var gy 7) ev_int rfl) (sp_amount ok.1.sz)) (ea_cons (ev_call1 gy c_amount (ev_ixLT hd2 (ev_var gy 7) ev_int rfl) (sp_amount ok.2.sz)) ea_nil)))))
end

end LW

namespace LW
open PySem L2 DL
/-! ### filling the counters -/
def Gr (n : Nat) (x : Rat) : Prop := ∃ z : Int, x * (n : Rat) = (z : Rat)
theorem Gr.add {n : Nat} {x y : Rat} : Gr n x → Gr n y → Gr n (x + y) := fun ⟨z, a⟩ ⟨w, b⟩ => ⟨z + w, by rw [Rat.intCast_add, ← a, ← b, Rat.add_mul]⟩
theorem Gr.sub {n : Nat} {x y : Rat} : Gr n x → Gr n y → Gr n (x - y) := fun ⟨z, a⟩ ⟨w, b⟩ => ⟨z - w, by rw [Rat.intCast_sub, ← a, ← b]; grind⟩
theorem Gr.mul {n m : Nat} {x y : Rat} : Gr n x → Gr m y → Gr (n * m) (x * y) := fun ⟨z, a⟩ ⟨w, b⟩ => ⟨z * w, by rw [Rat.intCast_mul, ← a, ← b, Rat.natCast_mul]; grind⟩
theorem Gr.up {n m : Nat} {x : Rat} : Gr n x → n ∣ m → Gr m x := fun ⟨z, a⟩ ⟨c, e⟩ => ⟨z * c, by rw [e, Rat.intCast_mul, ← a, Rat.natCast_mul, Rat.intCast_natCast, Rat.mul_assoc]⟩
theorem Gr.rmin {n : Nat} {x y : Rat} (h : Gr n x) (k : Gr n y) : Gr n (rmin x y) := by unfold LW.rmin; split <;> assumption
theorem Gr.int {n : Nat} (z : Int) : Gr n (z : Rat) := ⟨z * n, by rw [Rat.intCast_mul, Rat.intCast_natCast]⟩
def DDs : Nat := 8148 * 840 * 96 * 1000000
def DDt : Nat := 420
theorem dd_eq : DD = DDs * DDt * 12 := by decide +kernel
theorem gr_half {x : Rat} (h : Gr (DDs * DDt) x) : Gr DD (1 / 2 * x) := by
  have h2 : Gr 2 (1 / 2 : Rat) := ⟨1, by decide +kernel⟩
  exact (h2.mul h).up (by rw [dd_eq]; exact ⟨6, by omega⟩)
theorem Gr.dd {x : Rat} (h : Gr (DDs * DDt) x) : Gr DD x := h.up (by rw [dd_eq]; exact ⟨12, rfl⟩)
structure Fs where
  rows : List Rw
  c : Int
  t : Rat
  l : Rat
def newRows (cut : Bool) (p : Int) (c : Int) (t l u : Rat) : List Rw := if cut && decide (u - t = l) then [⟨c, p, t, 1 / 2 * (t + u)⟩, ⟨c, p, 1 / 2 * (t + u), u⟩] else [⟨c, p, t, u⟩]
def tstep (S U : Rat) (cut : Bool) (p : Int) (s : Fs) : Fs :=
  if 0 < s.l then
    ⟨s.rows ++ newRows cut p s.c s.t s.l (rmin (s.t + s.l) U), if rmin (s.t + s.l) U = U then s.c + 1 else s.c, if rmin (s.t + s.l) U = U then S else rmin (s.t + s.l) U, s.l - (rmin (s.t + s.l) U - s.t)⟩
  else s
def iterT (S U : Rat) (cut : Bool) (p : Int) : Nat → Fs → Fs
  | 0, s => s
  | n + 1, s => tstep S U cut p (iterT S U cut p n s)
theorem tstep_done {S U : Rat} {cut : Bool} {p : Int} {s : Fs} (h : ¬ 0 < s.l) : tstep S U cut p s = s := by unfold tstep; rw [if_neg h]
theorem iterT_done {S U : Rat} {cut : Bool} {p : Int} {s : Fs} {j : Nat} (h : ¬ 0 < (iterT S U cut p j s).l) : ∀ n, iterT S U cut p (j + n) s = iterT S U cut p j s
  | 0 => rfl
  | n + 1 => by show tstep S U cut p (iterT S U cut p (j + n) s) = _; rw [iterT_done h n, tstep_done h]
/-- what a stretch and its shares must be -/
structure FH (S U : Rat) (sh : List Rat) : Prop where
  su : S < U
  gs : Gr DDt S
  gu : Gr DDt U
  s0 : -1000 ≤ S
  u1 : U ≤ 1000
  shx : ∀ x ∈ sh, Gr DDs x ∧ 0 ≤ x ∧ x ≤ 1
  sl : sh.length ≤ 1000
structure Fi (S U : Rat) (s : Fs) : Prop where
  t0 : S ≤ s.t
  t1 : s.t < U
  l0 : 0 ≤ s.l
  l1 : s.l ≤ U - S
  gt : Gr (DDs * DDt) s.t
  gl : Gr (DDs * DDt) s.l
  ok : ∀ r ∈ s.rows, RwOk r
theorem rmin_le (x y : Rat) : rmin x y ≤ x ∧ rmin x y ≤ y ∧ (rmin x y = x ∨ rmin x y = y) := by
  unfold rmin
  split
  · exact ⟨by grind, by grind, .inr rfl⟩
  · exact ⟨by grind, by grind, .inl rfl⟩
theorem aa_of {x : Rat} (g : Gr DD x) (h1 : -100000 ≤ x) (h2 : x ≤ 100000) : Aa x := ⟨g, by show -((100000 : Nat) : Rat) ≤ x; have : ((100000 : Nat) : Rat) = 100000 := rfl; rw [this]; exact h1, by show x ≤ ((100000 : Nat) : Rat); have : ((100000 : Nat) : Rat) = 100000 := rfl; rw [this]; exact h2⟩
section
variable {S U : Rat} {sh : List Rat} {cut : Bool} {p : Int} {s : Fs}
theorem FH.aS (H : FH S U sh) : Aa S := aa_of ((H.gs.up (Nat.dvd_mul_left DDt DDs)).dd) (by have := H.s0; grind) (by have := H.u1; have := H.su; grind)
theorem FH.aU (H : FH S U sh) : Aa U := aa_of ((H.gu.up (Nat.dvd_mul_left DDt DDs)).dd) (by have := H.s0; have := H.su; grind) (by have := H.u1; grind)
theorem FH.aX (H : FH S U sh) {x : Rat} (h : x ∈ sh) : Aa x := by
  obtain ⟨a, b, c⟩ := H.shx x h
  exact aa_of ((a.up (Nat.dvd_mul_right DDs DDt)).dd) (by grind) (by grind)
theorem FH.ok (H : FH S U sh) : ShOk sh := ⟨fun x h => H.aX h, H.sl⟩
theorem Fi.at_ (F : Fi S U s) (H : FH S U sh) : Aa s.t := aa_of F.gt.dd (by have := F.t0; have := H.s0; grind) (by have := F.t1; have := H.u1; grind)
theorem Fi.al (F : Fi S U s) (H : FH S U sh) : Aa s.l := aa_of F.gl.dd (by have := F.l0; grind) (by have := F.l1; have := H.u1; have := H.s0; grind)
/-- the end of the next piece -/
theorem Fi.to (F : Fi S U s) (H : FH S U sh) (hl : 0 < s.l) : Gr (DDs * DDt) (rmin (s.t + s.l) U) ∧ s.t < rmin (s.t + s.l) U ∧ rmin (s.t + s.l) U ≤ U ∧ rmin (s.t + s.l) U - s.t ≤ s.l := by
  obtain ⟨a, b, c⟩ := rmin_le (s.t + s.l) U
  have := F.t1
  refine ⟨(F.gt.add F.gl).rmin (H.gu.up (Nat.dvd_mul_left DDt DDs)), ?_, b, by grind⟩
  rcases c with c | c <;> rw [c] <;> grind
theorem Fi.ato (F : Fi S U s) (H : FH S U sh) (hl : 0 < s.l) : Aa (rmin (s.t + s.l) U) := by
  obtain ⟨a, b, c, d⟩ := F.to H hl
  have := F.t0; have := H.s0; have := H.u1
  exact aa_of a.dd (by grind) (by grind)
theorem Fi.amid (F : Fi S U s) (H : FH S U sh) (hl : 0 < s.l) : Aa (1 / 2 * (s.t + rmin (s.t + s.l) U)) := by
  obtain ⟨a, b, c, d⟩ := F.to H hl
  have := F.t0; have := H.s0; have := H.u1; have := F.t1
  exact aa_of (gr_half (F.gt.add a)) (by grind) (by grind)
theorem newRows_ok (F : Fi S U s) (H : FH S U sh) (hl : 0 < s.l) : ∀ r ∈ newRows cut p s.c s.t s.l (rmin (s.t + s.l) U), RwOk r := by
  unfold newRows
  intro r hr
  split at hr
  · rcases List.mem_cons.mp hr with rfl | hr
    · exact ⟨F.at_ H, F.amid H hl⟩
    · obtain rfl := List.mem_singleton.mp hr
      exact ⟨F.amid H hl, F.ato H hl⟩
  · obtain rfl := List.mem_singleton.mp hr
    exact ⟨F.at_ H, F.ato H hl⟩
theorem Fi.step (F : Fi S U s) (H : FH S U sh) : Fi S U (tstep S U cut p s) := by
  by_cases hl : 0 < s.l
  · obtain ⟨a, b, c, d⟩ := F.to H hl
    have t0 := F.t0; have t1 := F.t1; have l1 := F.l1; have su := H.su
    unfold tstep
    rw [if_pos hl]
    refine ⟨?_, ?_, ?_, ?_, ?_, ?_, ?_⟩
    · show S ≤ if rmin (s.t + s.l) U = U then S else rmin (s.t + s.l) U
      split <;> grind
    · show (if rmin (s.t + s.l) U = U then S else rmin (s.t + s.l) U) < U
      split <;> grind
    · show 0 ≤ s.l - (rmin (s.t + s.l) U - s.t)
      grind
    · show s.l - (rmin (s.t + s.l) U - s.t) ≤ U - S
      grind
    · show Gr (DDs * DDt) (if rmin (s.t + s.l) U = U then S else rmin (s.t + s.l) U)
      split
      · exact H.gs.up (Nat.dvd_mul_left DDt DDs)
      · exact a
    · exact F.gl.sub (a.sub F.gt)
    · intro r hr
      rcases List.mem_append.mp hr with h | h
      · exact F.ok r h
      · exact newRows_ok F H hl r h
  · rw [tstep_done hl]; exact F
theorem Fi.iter (F : Fi S U s) (H : FH S U sh) : ∀ n, Fi S U (iterT S U cut p n s)
  | 0 => F
  | n + 1 => (Fi.iter F H n).step H
theorem tstep_len : (tstep S U cut p s).rows.length ≤ s.rows.length + 2 := by
  unfold tstep
  split
  · show (s.rows ++ newRows cut p s.c s.t s.l (rmin (s.t + s.l) U)).length ≤ _
    rw [List.length_append]
    unfold newRows
    split <;> simp
  · omega
theorem iterT_len : ∀ n, (iterT S U cut p n s).rows.length ≤ s.rows.length + 2 * n
  | 0 => Nat.le_refl _
  | n + 1 => by
    have := iterT_len n
    have := tstep_len (S := S) (U := U) (cut := cut) (p := p) (s := iterT S U cut p n s)
    show (tstep S U cut p (iterT S U cut p n s)).rows.length ≤ _
    omega
/-- two pieces are enough -/
theorem iter_two (F : Fi S U s) (H : FH S U sh) : ¬ 0 < (iterT S U cut p 2 s).l := by
  show ¬ 0 < (tstep S U cut p (tstep S U cut p s)).l
  by_cases hl : 0 < s.l
  · obtain ⟨a, b, c, d⟩ := F.to H hl
    obtain ⟨x, y, z⟩ := rmin_le (s.t + s.l) U
    have t0 := F.t0; have t1 := F.t1; have l1 := F.l1; have su := H.su
    by_cases hz : rmin (s.t + s.l) U = s.t + s.l
    · have e : (tstep S U cut p s).l = 0 := by
        unfold tstep; rw [if_pos hl]; show s.l - (rmin (s.t + s.l) U - s.t) = 0; rw [hz]; grind
      rw [tstep_done (by rw [e]; grind), e]; grind
    · have hz' : rmin (s.t + s.l) U = U := by rcases z with z | z; exact absurd z hz; exact z
      have e1 : (tstep S U cut p s).t = S := by unfold tstep; rw [if_pos hl]; show (if rmin (s.t + s.l) U = U then S else rmin (s.t + s.l) U) = S; rw [if_pos hz']
      have e2 : (tstep S U cut p s).l = s.l - (U - s.t) := by unfold tstep; rw [if_pos hl]; show s.l - (rmin (s.t + s.l) U - s.t) = _; rw [hz']
      generalize tstep S U cut p s = w at e1 e2
      by_cases hw : 0 < w.l
      · unfold tstep
        rw [if_pos hw]
        show ¬ 0 < w.l - (rmin (w.t + w.l) U - w.t)
        have : rmin (w.t + w.l) U = w.t + w.l := by
          unfold rmin
          rw [if_neg (by rw [e1, e2]; grind)]
        rw [this]; grind
      · rw [tstep_done hw]; exact hw
  · rw [tstep_done hl, tstep_done hl]; exact hl
end
def startF (s : Fs) (l : Rat) : Fs := ⟨s.rows, s.c, s.t, l⟩
def jobF (S U : Rat) (cut : Bool) (sh : List Rat) (s : Fs) (p : Nat) : Fs := iterT S U cut p 4 (startF s (sh.getD p 0 * (U - S)))
def fillF (S U : Rat) (cut : Bool) (sh : List Rat) (os : List Nat) : Fs := os.foldl (jobF S U cut sh) ⟨[], 0, S, 0⟩
section
variable {S U : Rat} {sh : List Rat} {cut : Bool} {s : Fs} {p : Nat}
theorem Fi.job (F : Fi S U s) (H : FH S U sh) (hp : p < sh.length) : Fi S U (startF s (sh.getD p 0 * (U - S))) := by
  obtain ⟨g, x0, x1⟩ := H.shx sh[p] (List.getElem_mem hp)
  have e : sh.getD p 0 = sh[p] := by rw [List.getD_eq_getElem?_getD, List.getElem?_eq_getElem hp]; rfl
  have su := H.su
  refine ⟨F.t0, F.t1, ?_, ?_, F.gt, ?_, F.ok⟩
  · show 0 ≤ sh.getD p 0 * (U - S)
    rw [e]; exact Rat.mul_nonneg x0 (by grind)
  · show sh.getD p 0 * (U - S) ≤ U - S
    rw [e]
    have := Rat.mul_nonneg (show 0 ≤ 1 - sh[p] by grind) (show 0 ≤ U - S by grind)
    grind
  · show Gr (DDs * DDt) (sh.getD p 0 * (U - S))
    rw [e]; exact g.mul (H.gu.sub H.gs)
theorem Fi.start (H : FH S U sh) : Fi S U ⟨[], 0, S, 0⟩ := by
  have su := H.su
  exact ⟨by show S ≤ S; grind, su, by show (0 : Rat) ≤ 0; grind, by show 0 ≤ U - S; grind, H.gs.up (Nat.dvd_mul_left DDt DDs), ⟨0, by show (0 : Rat) * _ = 0; grind⟩, fun r h => by cases h⟩
theorem fill_inv (H : FH S U sh) : ∀ (os : List Nat), (∀ p ∈ os, p < sh.length) → Fi S U (fillF S U cut sh os) ∧ (fillF S U cut sh os).rows.length ≤ 8 * os.length := by
  intro os
  suffices h : ∀ (os : List Nat) (s : Fs), (∀ p ∈ os, p < sh.length) → Fi S U s → Fi S U (os.foldl (jobF S U cut sh) s) ∧ (os.foldl (jobF S U cut sh) s).rows.length ≤ s.rows.length + 8 * os.length by
    intro hp
    have := h os ⟨[], 0, S, 0⟩ hp (Fi.start H)
    exact ⟨this.1, by have := this.2; rw [show ([] : List Rw).length = 0 from rfl, Nat.zero_add] at this; exact this⟩
  intro os
  induction os with
  | nil => intro s _ F; exact ⟨F, by simp⟩
  | cons p os ih =>
    intro s hp F
    have F2 := (F.job H (hp p (List.mem_cons_self ..))).iter (cut := cut) (p := p) H 4
    have l2 := iterT_len (S := S) (U := U) (cut := cut) (p := p) (s := startF s (sh.getD p 0 * (U - S))) 4
    obtain ⟨a, b⟩ := ih (jobF S U cut sh s p) (fun q hq => hp q (List.mem_cons_of_mem _ hq)) F2
    refine ⟨a, ?_⟩
    show ((os.foldl (jobF S U cut sh) (jobF S U cut sh s p)).rows.length) ≤ _
    have : (jobF S U cut sh s p).rows.length ≤ s.rows.length + 2 * 4 := l2
    rw [List.length_cons]; omega
theorem fill_rows (H : FH S U sh) {os : List Nat} (h : ∀ p ∈ os, p < sh.length) (hl : os.length ≤ 100) : RwsOk (fillF S U cut sh os).rows := by
  obtain ⟨a, b⟩ := fill_inv (cut := cut) H os h
  exact ⟨a.ok, by omega⟩
end

end LW

namespace LW
open PySem L2 DL
def Sp_filled : PSpec := fun as res => ∃ S U sh os cut, as = [.dat (fr S), .dat (fr U), .dat (.lst (sh.map fr)), .dat (.lst (os.map fun (p : Nat) => D.int p)), .dat (.bl cut)] ∧ FH S U sh ∧ (∀ p ∈ os, p < sh.length) ∧ os.length ≤ 100 ∧ res = .ret (.own ((fillF S U cut sh os).rows.map Rw.d)) []
theorem sp__law_filled {S U : Rat} {sh : List Rat} {os : List Nat} {cut : Bool} (h1 : FH S U sh) (h2 : ∀ p ∈ os, p < sh.length) (h3 : os.length ≤ 100) : Sp_filled [.dat (fr S), .dat (fr U), .dat (.lst (sh.map fr)), .dat (.lst (os.map fun (p : Nat) => D.int p)), .dat (.bl cut)] (.ret (.own ((fillF S U cut sh os).rows.map Rw.d)) []) := ⟨S, U, sh, os, cut, rfl, h1, h2, h3, rfl⟩
theorem sz_half : Sz (1 / 2 : Rat) := by
  refine ⟨Nat.lt_of_lt_of_le (show _ < 2 ^ 1 by decide +kernel) (Nat.pow_le_pow_right (by decide) (by decide)), Nat.lt_of_lt_of_le (show _ < 2 ^ 2 by decide +kernel) (Nat.pow_le_pow_right (by decide) (by decide))⟩
theorem fr_half : D.tup [.int 1, .int 2] = fr (1 / 2 : Rat) := by
  have h1 : (1 / 2 : Rat).num = 1 := by decide +kernel
  have h2 : (1 / 2 : Rat).den = 2 := by decide +kernel
  unfold fr; rw [h1, h2]; rfl
theorem num_pos_iff {q : Rat} : 0 < q.num ↔ 0 < q := by
  rw [Rat.lt_iff]
  have h1 : (0 : Rat).num = 0 := rfl
  have h2 : (0 : Rat).den = 1 := rfl
  rw [h1, h2]
  omega
section
variable {M : Md} (T : Bn M) {f : Addr} {fd : FuncData}
include T
theorem ok__law_filled (c__law_add : Fn M CX0 "_law_add" 2 Sp_plus) (c__law_sub : Fn M CX0 "_law_sub" 2 Sp_minus) (c__law_mul : Fn M CX0 "_law_mul" 2 Sp_times) (c__law_lesser : Fn M CX0 "_law_lesser" 2 Sp_min)
    (F : Fun M.K "_law_filled" "_law_filled" s__law_filled f fd) : FnOk M.P M.w M.K M.mg M.base CX0 3 f fd ["start", "stop", "shares", "order", "cut"] (spOf M.K Sp_filled) := by
  refine fn_ok F sc__law_filled ?_ ?_ ?_
  · rintro as res ⟨_, _, _, _, _, rfl, _⟩; rfl
  · rintro as C ns ds os ⟨_, _, _, _, _, _, _, _, _, h⟩; cases h
  · rintro X W G as res g ⟨S, U, sh, os, cut, rfl, H, hos, hol, rfl⟩ hbi
    have hbn := nob hbi rfl
    refine sv_cons (s_asgM g 5 (ev_lst ea_nil) (hbn 5) ?_)
    refine sv_cons (s_asg g 6 ev_int (hbn 6) ?_)
    refine sv_cons (s_asg g 7 (ev_var g 0) (hbn 7) ?_)
    refine sv_cons (s_for g (ei_list (ev_var g 3)) (fun i δ => ∃ s8 s9 s10 s11 s12, δ = [.dat (fr S), .dat (fr U), .dat (.lst (sh.map fr)), .dat (.lst (os.map fun (p : Nat) => D.int p)), .dat (.bl cut), .own ((fillF S U cut sh (os.take i)).rows.map Rw.d), .dat (.int (fillF S U cut sh (os.take i)).c), .dat (fr (fillF S U cut sh (os.take i)).t), s8, s9, s10, s11, s12]) ⟨_, _, _, _, _, rfl⟩ ?_ ?_)
    · rintro i d δi hd ⟨s8, s9, s10, s11, s12, rfl⟩
      obtain ⟨p, hp, rfl⟩ := map_get hd
      have hpl := hos p (List.mem_of_getElem? hp)
      refine ⟨_, _, ag_name g 8 (hbn 8), ?_⟩
      obtain ⟨FI, FL⟩ := fill_inv (cut := cut) H (os.take i) (fun q hq => hos q (List.mem_of_mem_take hq))
      have et : fillF S U cut sh (os.take (i + 1)) = iterT S U cut p 4 (startF (fillF S U cut sh (os.take i)) (sh.getD p 0 * (U - S))) := by
        rw [take_succ_of hp]; unfold fillF; rw [List.foldl_append]; rfl
      have hrl : (fillF S U cut sh (os.take i)).rows.length ≤ 800 := by rw [List.length_take] at FL; omega
      rw [et]
      generalize fillF S U cut sh (os.take i) = s at FI hrl
      have hx : sh.getD p 0 ∈ sh := by rw [List.getD_eq_getElem?_getD, List.getElem?_eq_getElem hpl]; exact List.getElem_mem hpl
      refine sv_cons (s_asg g 9 (ev_call2 g c__law_mul (ev_ixL (ev_var g 2) (ev_var g 8) (atI_nat (v := fr (sh.getD p 0)) (by rw [List.getElem?_map, List.getD_eq_getElem?_getD, List.getElem?_eq_getElem hpl]; rfl))) (ev_call2 g c__law_sub (ev_var g 1) (ev_var g 0) (sp__law_sub H.aU.sz H.aS.sz)) (sp__law_mul (H.aX hx).sz (H.aU.sub H.aS))) (hbn 9) ?_)
      have FJ := FI.job H hpl
      refine sv_one (s_for g (ei_range1 g T.range ev_int (by decide)) (fun j δ => ∃ s10 s11 s12, δ = [.dat (fr S), .dat (fr U), .dat (.lst (sh.map fr)), .dat (.lst (os.map fun (p : Nat) => D.int p)), .dat (.bl cut), .own ((iterT S U cut p j (startF s (sh.getD p 0 * (U - S)))).rows.map Rw.d), .dat (.int (iterT S U cut p j (startF s (sh.getD p 0 * (U - S)))).c), .dat (fr (iterT S U cut p j (startF s (sh.getD p 0 * (U - S)))).t), .dat (.int p), .dat (fr (iterT S U cut p j (startF s (sh.getD p 0 * (U - S)))).l), s10, s11, s12]) ⟨_, _, _, rfl⟩ ?_ ?_)
      · rintro j d δi hd ⟨s10, s11, s12, rfl⟩
        obtain ⟨hj, rfl⟩ := rangeD_get hd
        have hj4 : j < 4 := hj
        refine ⟨_, _, ag_name g 10 (hbn 10), ?_⟩
        have FK := FJ.iter (cut := cut) (p := p) H j
        have lK := iterT_len (S := S) (U := U) (cut := cut) (p := p) (s := startF s (sh.getD p 0 * (U - S))) j
        have e1 : iterT S U cut p (j + 1) (startF s (sh.getD p 0 * (U - S))) = tstep S U cut p (iterT S U cut p j (startF s (sh.getD p 0 * (U - S)))) := rfl
        rw [e1]
        have hr0 : (startF s (sh.getD p 0 * (U - S))).rows.length ≤ 800 := hrl
        generalize iterT S U cut p j (startF s (sh.getD p 0 * (U - S))) = w at FK lK
        refine sv_one (s_if (et_gt (ev_ixT (ev_var g 9) ev_int rfl) ev_int) (fun hc => ?_) (fun hc => sv_nil ?_))
        · have hl : 0 < w.l := num_pos_iff.mp (of_decide_eq_true hc)
          have aTo := FK.ato H hl
          have aT := FK.at_ H
          have aL := FK.al H
          refine sv_cons (s_asg g 11 (ev_call2 g c__law_lesser (ev_call2 g c__law_add (ev_var g 7) (ev_var g 9) (sp__law_add aT.sz aL.sz)) (ev_var g 1) (sp__law_lesser (aT.add aL) H.aU.sz)) (hbn 11) ?_)
          refine sv_mid (fun δ => ∃ s12, δ = [.dat (fr S), .dat (fr U), .dat (.lst (sh.map fr)), .dat (.lst (os.map fun (p : Nat) => D.int p)), .dat (.bl cut), .own ((w.rows ++ newRows cut p w.c w.t w.l (rmin (w.t + w.l) U)).map Rw.d), .dat (.int w.c), .dat (fr w.t), .dat (.int p), .dat (fr w.l), .dat (.int (0 + (j : Int))), .dat (fr (rmin (w.t + w.l) U)), s12])
            (s_if (et_w (ew_and (et_val (ev_var g 4)) (fun _ => (ew_a1 (et_eqF g (ev_call2 g c__law_sub (ev_var g 11) (ev_var g 7) (sp__law_sub aTo.sz aT.sz)) (ev_var g 9)))))) (fun hc => ?_) (fun hc => ?_)) ?_
          · refine sv_cons (s_asg g 12 (ev_call2 g c__law_mul ((ev_tup (ea_cons ev_int (ea_cons ev_int ea_nil))).eq fr_half) (ev_call2 g c__law_add (ev_var g 7) (ev_var g 11) (sp__law_add aT.sz aTo.sz)) (sp__law_mul sz_half (aT.add aTo))) (hbn 12) ?_)
            refine sv_cons (s_app g 5 (ev_tup (ea_cons (ev_var g 6) (ea_cons (ev_var g 8) (ea_cons (ev_var g 7) (ea_cons (ev_var g 12) ea_nil))))) ?_ ?_ ⟨_, rfl⟩)
            · rw [List.length_map]; omega
            refine sv_one (s_app g 5 (ev_tup (ea_cons (ev_var g 6) (ea_cons (ev_var g 8) (ea_cons (ev_var g 12) (ea_cons (ev_var g 11) ea_nil))))) ?_ ⟨.dat (fr (1 / 2 * (w.t + rmin (w.t + w.l) U))), ?_⟩ ⟨_, rfl⟩)
            · rw [List.length_append, List.length_map]; simp; omega
            unfold newRows
            rw [if_pos hc, List.map_append]
            simp [List.set, Rw.d]
          · refine sv_one (s_app g 5 (ev_tup (ea_cons (ev_var g 6) (ea_cons (ev_var g 8) (ea_cons (ev_var g 7) (ea_cons (ev_var g 11) ea_nil))))) ?_ ⟨s12, ?_⟩ ⟨_, rfl⟩)
            · rw [List.length_map]; omega
            unfold newRows
            rw [if_neg (by rw [hc]; exact Bool.false_ne_true), List.map_append]
            simp [List.set, Rw.d]
          · rintro δ' ⟨s12, rfl⟩
            refine sv_cons (s_asg g 9 (ev_call2 g c__law_sub (ev_var g 9) (ev_call2 g c__law_sub (ev_var g 11) (ev_var g 7) (sp__law_sub aTo.sz aT.sz)) (sp__law_sub aL.sz (aTo.sub aT))) (hbn 9) ?_)
            refine sv_cons (s_asg g 7 (ev_var g 11) (hbn 7) ?_)
            refine sv_one (s_if (et_eqF g (ev_var g 7) (ev_var g 1)) (fun hc => ?_) (fun hc => sv_nil ?_))
            · refine sv_cons (s_asg g 6 (ev_add (ev_var g 6) ev_int) (hbn 6) ?_)
              refine sv_one (s_asg g 7 (ev_var g 0) (hbn 7) ⟨.dat (.int (0 + (j : Int))), .dat (fr (rmin (w.t + w.l) U)), s12, ?_⟩)
              unfold tstep
              rw [if_pos hl, if_pos (of_decide_eq_true hc), if_pos (of_decide_eq_true hc)]
              rfl
            · refine ⟨.dat (.int (0 + (j : Int))), .dat (fr (rmin (w.t + w.l) U)), s12, ?_⟩
              unfold tstep
              rw [if_pos hl, if_neg (of_decide_eq_false hc), if_neg (of_decide_eq_false hc)]
              rfl
        · have hl : ¬ 0 < w.l := fun h => of_decide_eq_false hc (num_pos_iff.mpr h)
          rw [tstep_done hl]
          exact ⟨_, _, _, rfl⟩
      · rintro δ' ⟨s10, s11, s12, rfl⟩
        exact ⟨_, _, _, _, _, rfl⟩
    · rintro δ' ⟨s8, s9, s10, s11, s12, rfl⟩
      refine sv_one (s_retM g 5 (hbn 5) (endD ?_))
      rw [List.length_map, List.take_length]
end
def Sp_kinds : PSpec := fun as res => ∃ rows : List Rw, as = [.dat (.tup (rows.map Rw.d))] ∧ RwsOk rows ∧ res = .ret (.dat (.bl true)) []
theorem sp__law_kinds {rows : List Rw} (h : RwsOk rows) : Sp_kinds [.dat (.tup (rows.map Rw.d))] (.ret (.dat (.bl true)) []) := ⟨rows, rfl, h, rfl⟩
def Sp_seated : PSpec := fun as res => ∃ S U sh t rows b, as = [.dat (fr S), .dat (fr U), .dat (.lst (sh.map fr)), .dat (.int t), .dat (.lst (rows.map Rw.d))] ∧ Aa S ∧ Aa U ∧ ShOk sh ∧ RwsOk rows ∧ (b = true ↔ Seated S U sh t rows) ∧ res = .ret (.dat (.bl b)) []
theorem sp__law_seated {S U : Rat} {sh : List Rat} {t : Int} {rows : List Rw} {b : Bool} (h2 : Aa S) (h3 : Aa U) (h4 : ShOk sh) (h6 : RwsOk rows) (h7 : b = true ↔ Seated S U sh t rows) : Sp_seated [.dat (fr S), .dat (fr U), .dat (.lst (sh.map fr)), .dat (.int t), .dat (.lst (rows.map Rw.d))] (.ret (.dat (.bl b)) []) := ⟨S, U, sh, t, rows, b, rfl, h2, h3, h4, h6, h7, rfl⟩
theorem clash_comm (r s : Rw) : clashB r s = clashB s r := by
  unfold clashB
  by_cases h1 : r.c = s.c <;> by_cases h2 : r.p = s.p <;> simp [h1, h2, eq_comm] <;> simp_all [Bool.and_comm, eq_comm]
section
variable {M : Md} (T : Bn M) {f : Addr} {fd : FuncData}
include T
theorem ok__law_kinds (c__law_whole : Fn M CX0 "_law_whole" 1 Sp_num) (c__law_is_fraction : Fn M CX0 "_law_is_fraction" 2 Sp_isfr) (F : Fun M.K "_law_kinds" "_law_kinds" s__law_kinds f fd) : FnOk M.P M.w M.K M.mg M.base CX0 3 f fd ["told"] (spOf M.K Sp_kinds) := by
  refine fn_ok F sc__law_kinds ?_ ?_ ?_
  · rintro as res ⟨_, rfl, _⟩; rfl
  · rintro as C ns ds os ⟨_, _, _, h⟩; cases h
  · rintro X W G as res g ⟨rows, rfl, hr, rfl⟩ hbi
    have hbn := nob hbi rfl
    refine sv_cons (s_if (et_not (et_val (ev_isi g (tn := "tuple") T.isinstance T.tuple (by decide +kernel) (ev_var g 0) rfl kit_tt))) (fun hc => by cases hc) (fun hc => sv_nil ?_))
    refine sv_cons (s_for g (ei_tup (ev_var g 0)) (fun i δ => ∃ s1, δ = [.dat (.tup (rows.map Rw.d)), s1]) ⟨_, rfl⟩ ?_ ?_)
    · rintro i d δi hd ⟨s1, rfl⟩
      obtain ⟨r, hr2, rfl⟩ := map_get hd
      have ok := hr.1 r (List.mem_of_getElem? hr2)
      refine ⟨_, _, ag_name g 1 (hbn 1), ?_⟩
      refine sv_cons (s_if (et_w (ew_or (et_not (et_val (ev_isi g (tn := "tuple") T.isinstance T.tuple (by decide +kernel) (ev_var g 1) rfl kit_tt))) (fun _ => (ew_or (et_neI (ev_lenT g T.len (ev_var g 1)) ev_int) (fun _ => (ew_or (et_not (et_val (ev_call1 g c__law_whole (ev_ixT (ev_var g 1) ev_int rfl) (sp__law_whole rfl)))) (fun _ => (ew_o1 (et_not (et_val (ev_call1 g c__law_whole (ev_ixT (ev_var g 1) ev_int rfl) (sp__law_whole rfl)))))))))))) (fun hc => by cases hc) (fun hc => sv_nil ?_))
      refine sv_one (s_if (et_w (ew_or (et_not (et_val (ev_call1 g c__law_is_fraction (ev_ixT (ev_var g 1) ev_int rfl) (sp__law_is_fraction ok.1.sz)))) (fun _ => (ew_o1 (et_not (et_val (ev_call1 g c__law_is_fraction (ev_ixT (ev_var g 1) ev_int rfl) (sp__law_is_fraction ok.2.sz)))))))) (fun hc => by cases hc) (fun hc => sv_nil ⟨_, rfl⟩))
    · rintro δ' ⟨s1, rfl⟩
      exact sv_one (s_ret ev_bl (endD rfl))
theorem ok__law_seated (c__law_sub : Fn M CX0 "_law_sub" 2 Sp_minus) (c__law_mul : Fn M CX0 "_law_mul" 2 Sp_times) (c__law_lt : Fn M CX0 "_law_lt" 1 Sp_lt) (c__law_total : Fn M CX0 "_law_total" 3 Sp_sum)
    (F : Fun M.K "_law_seated" "_law_seated" s__law_seated f fd) : FnOk M.P M.w M.K M.mg M.base CX0 4 f fd ["start", "stop", "shares", "tables", "rows"] (spOf M.K Sp_seated) := by
  refine fn_ok F sc__law_seated ?_ ?_ ?_
  · rintro as res ⟨_, _, _, _, _, _, rfl, _⟩; rfl
  · rintro as C ns ds os ⟨_, _, _, _, _, _, _, _, _, _, _, _, h⟩; cases h
  · rintro X W G as res g ⟨S, U, sh, t, rows, b, rfl, hS, hU, hsh, hrows, hb, rfl⟩ hbi
    have hbn := nob hbi rfl
    have hrl := hrows.2
    refine sv_cons (s_for g (ei_range1 g T.range (ev_lenL g T.len (ev_var g 4)) (by rw [List.length_map]; omega)) (fun i δ => ∃ s5 s6 s7 s8, δ = [.dat (fr S), .dat (fr U), .dat (.lst (sh.map fr)), .dat (.int t), .dat (.lst (rows.map Rw.d)), s5, s6, s7, s8, .un, .un] ∧ (∀ (k : Nat) r, k < i → rows[k]? = some r → fitsB S U sh.length t r = true) ∧ ∀ (k l : Nat) r s, l < i → k < l → rows[k]? = some r → rows[l]? = some s → clashB r s = false) ⟨.un, .un, .un, .un, rfl, fun k r h => absurd h (by omega), fun k l r s h => absurd h (by omega)⟩ ?_ ?_)
    · rintro i d δi hd ⟨s5, s6, s7, s8, rfl, hf, hcl⟩
      obtain ⟨hi, rfl⟩ := rangeD_get hd
      rw [List.length_map, Int.toNat_natCast] at hi
      rw [Int.zero_add]
      refine ⟨_, _, ag_name g 5 (hbn 5), ?_⟩
      have hr : rows[i]? = some rows[i] := List.getElem?_eq_getElem hi
      generalize rows[i] = r at hr
      have ok := hrows.1 r (List.mem_of_getElem? hr)
      refine sv_cons (s_asg g 6 (ev_ixL (ev_var g 4) (ev_var g 5) (atI_nat (v := Rw.d r) (by rw [List.getElem?_map, hr]; rfl))) (hbn 6) ?_)
      refine sv_cons (s_if (et_w (ew_or (et_lt (ev_ixT (ev_var g 6) ev_int rfl) ev_int) (fun _ => (ew_or (et_ge (ev_ixT (ev_var g 6) ev_int rfl) (ev_var g 3)) (fun _ => (ew_or (et_lt (ev_ixT (ev_var g 6) ev_int rfl) ev_int) (fun _ => (ew_o1 (et_ge (ev_ixT (ev_var g 6) ev_int rfl) (ev_lenL g T.len (ev_var g 2))))))))))) (fun hc => ?_) (fun hc => sv_nil ?_))
      · refine sv_one (s_ret ev_bl (endD (bfalse hb fun h => ?_)))
        have h1 := h.1 r (List.mem_of_getElem? hr)
        have hc' : (decide (r.c < 0) || (decide (t ≤ r.c) || (decide (r.p < 0) || decide (((sh.map fr).length : Int) ≤ r.p)))) = true := hc
        rw [List.length_map] at hc'
        unfold fitsB at h1
        simp at h1 hc'
        omega
      · refine sv_cons (s_if (et_w (ew_or (et_val (ev_call2 g c__law_lt (ev_ixT (ev_var g 6) ev_int rfl) (ev_var g 0) (sp__law_lt ok.1.sz hS.sz))) (fun _ => (ew_or (et_not (et_val (ev_call2 g c__law_lt (ev_ixT (ev_var g 6) ev_int rfl) (ev_ixT (ev_var g 6) ev_int rfl) (sp__law_lt ok.1.sz ok.2.sz)))) (fun _ => (ew_o1 (et_val (ev_call2 g c__law_lt (ev_var g 1) (ev_ixT (ev_var g 6) ev_int rfl) (sp__law_lt hU.sz ok.2.sz))))))))) (fun hc2 => ?_) (fun hc2 => sv_nil ?_))
        · refine sv_one (s_ret ev_bl (endD (bfalse hb fun h => ?_)))
          have h1 := h.1 r (List.mem_of_getElem? hr)
          have hc' : (decide (r.a < S) || (!decide (r.a < r.b) || decide (U < r.b))) = true := hc2
          unfold fitsB at h1
          simp at h1 hc'
          grind
        · have hfit : fitsB S U sh.length t r = true := by
            have hc' : (decide (r.c < 0) || (decide (t ≤ r.c) || (decide (r.p < 0) || decide (((sh.map fr).length : Int) ≤ r.p)))) = false := hc
            have hc2' : (decide (r.a < S) || (!decide (r.a < r.b) || decide (U < r.b))) = false := hc2
            rw [List.length_map] at hc'
            unfold fitsB
            simp at hc' hc2' ⊢
            refine ⟨⟨by omega, by omega⟩, ⟨by omega, by omega⟩, by grind, by grind, by grind⟩
          refine sv_one (s_for g (ei_range1 g T.range (ev_var g 5) (by omega)) (fun j δ => ∃ s7 s8, δ = [.dat (fr S), .dat (fr U), .dat (.lst (sh.map fr)), .dat (.int t), .dat (.lst (rows.map Rw.d)), .dat (.int i), .dat (Rw.d r), s7, s8, .un, .un] ∧ ∀ (k : Nat) s, k < j → rows[k]? = some s → clashB s r = false) ⟨s7, s8, rfl, fun k s h => absurd h (by omega)⟩ ?_ ?_)
          · rintro j d δi hd ⟨s7, s8, rfl, hcj⟩
            obtain ⟨hj, rfl⟩ := rangeD_get hd
            rw [Int.toNat_natCast] at hj
            rw [Int.zero_add]
            refine ⟨_, _, ag_name g 7 (hbn 7), ?_⟩
            have hs : rows[j]? = some (rows[j]'(by omega)) := List.getElem?_eq_getElem (by omega)
            generalize (rows[j]'(by omega)) = s at hs
            have ok2 := hrows.1 s (List.mem_of_getElem? hs)
            refine sv_cons (s_asg g 8 (ev_ixL (ev_var g 4) (ev_var g 7) (atI_nat (v := Rw.d s) (by rw [List.getElem?_map, hs]; rfl))) (hbn 8) ?_)
            refine sv_one (s_if (et_w (ew_and (et_w (ew_or (et_eqI (ev_ixT (ev_var g 6) ev_int rfl) (ev_ixT (ev_var g 8) ev_int rfl)) (fun _ => (ew_o1 (et_eqI (ev_ixT (ev_var g 6) ev_int rfl) (ev_ixT (ev_var g 8) ev_int rfl)))))) (fun _ => (ew_and (et_val (ev_call2 g c__law_lt (ev_ixT (ev_var g 6) ev_int rfl) (ev_ixT (ev_var g 8) ev_int rfl) (sp__law_lt ok.1.sz ok2.2.sz))) (fun _ => (ew_a1 (et_val (ev_call2 g c__law_lt (ev_ixT (ev_var g 8) ev_int rfl) (ev_ixT (ev_var g 6) ev_int rfl) (sp__law_lt ok2.1.sz ok.2.sz))))))))) (fun hc => ?_) (fun hc => sv_nil ?_))
            · refine sv_one (s_ret ev_bl (endD (bfalse hb fun h => ?_)))
              have hc' : clashB r s = true := hc
              rw [clash_comm, h.2.1 j i s r hj hs hr] at hc'
              cases hc'
            · have hc' : clashB r s = false := hc
              refine ⟨.dat (.int j), .dat (Rw.d s), rfl, fun k s' hk hk2 => ?_⟩
              by_cases hkj : k = j
              · subst hkj
                rw [hs] at hk2
                obtain rfl := Option.some.inj hk2
                rw [clash_comm]; exact hc'
              · exact hcj k s' (by omega) hk2
          · rintro δ' ⟨s7, s8, rfl, hcj⟩
            rw [rangeD_len, Int.toNat_natCast] at hcj
            refine ⟨_, _, _, _, rfl, fun k r' hk hk2 => ?_, fun k l r' s hl hkl h1 h2 => ?_⟩
            · by_cases hki : k = i
              · subst hki
                rw [hr] at hk2
                obtain rfl := Option.some.inj hk2
                exact hfit
              · exact hf k r' (by omega) hk2
            · by_cases hli : l = i
              · subst hli
                rw [hr] at h2
                obtain rfl := Option.some.inj h2
                exact hcj k r' hkl h1
              · exact hcl k l r' s (by omega) hkl h1 h2
    · rintro δ' ⟨s5, s6, s7, s8, rfl, hf, hcl⟩
      rw [rangeD_len, List.length_map, Int.toNat_natCast] at hf hcl
      refine sv_cons (s_for g (ei_range1 g T.range (ev_lenL g T.len (ev_var g 2)) (by rw [List.length_map]; have := hsh.2; omega)) (fun i δ => ∃ s5 s6 s7 s8 s9 s10, δ = [.dat (fr S), .dat (fr U), .dat (.lst (sh.map fr)), .dat (.int t), .dat (.lst (rows.map Rw.d)), s5, s6, s7, s8, s9, s10] ∧ ∀ (k : Nat) x, k < i → sh[k]? = some x → rsum (dur rows k) = x * (U - S)) ⟨_, _, _, _, _, _, rfl, fun k x h => absurd h (by omega)⟩ ?_ ?_)
      · rintro i d δi hd ⟨s5, s6, s7, s8, s9, s10, rfl, hJ⟩
        obtain ⟨hi, rfl⟩ := rangeD_get hd
        rw [List.length_map, Int.toNat_natCast] at hi
        rw [Int.zero_add]
        refine ⟨_, _, ag_name g 9 (hbn 9), ?_⟩
        have hx : sh[i]? = some sh[i] := List.getElem?_eq_getElem hi
        generalize sh[i] = x at hx
        obtain ⟨q1, q2⟩ := dur_sums hrows i
        refine sv_cons (s_asg g 10 (ev_call1 g c__law_total ((EV.ls (ev_lcFx g 6 rows Rw.d (fun r => decide (r.p = (i : Int))) (fun r => fr (r.b - r.a)) (fun _ _ => rwd_inj) (hbn 6) (ei_list (ev_var g 4)) (by omega) ?_)).eq (show D.lst ((rows.filter (fun r => decide (r.p = (i : Int)))).map (fun r => fr (r.b - r.a))) = D.lst ((dur rows i).map fr) by unfold dur; rw [List.map_map]; rfl)) (sp__law_total q1 (by omega))) (hbn 10) ?_)
        · intro r hr
          have ok := hrows.1 r hr
          exact ⟨fun Y G2 gy hG => et_eqI (ev_ixT (ev_var gy 6) ev_int rfl) (ev_var gy 9), fun _ Y G2 gy hG => ev_call2 gy c__law_sub (ev_ixT (ev_var gy 6) ev_int rfl) (ev_ixT (ev_var gy 6) ev_int rfl) (sp__law_sub ok.2.sz ok.1.sz)⟩
        · have hxa := hsh.1 x (List.mem_of_getElem? hx)
          refine sv_one (s_if (et_neF g (ev_var g 10) (ev_call2 g c__law_mul (ev_ixL (ev_var g 2) (ev_var g 9) (atI_nat (v := fr x) (by rw [List.getElem?_map, hx]; rfl))) (ev_call2 g c__law_sub (ev_var g 1) (ev_var g 0) (sp__law_sub hU.sz hS.sz)) (sp__law_mul hxa.sz (hU.sub hS)))) (fun hc => ?_) (fun hc => sv_nil ?_))
          · refine sv_one (s_ret ev_bl (endD (bfalse hb fun h => ?_)))
            rw [h.2.2 i x hx] at hc
            simp at hc
          · refine ⟨_, _, _, _, _, _, rfl, fun k y hk hy => ?_⟩
            by_cases hki : k = i
            · subst hki
              rw [hx] at hy
              obtain rfl := Option.some.inj hy
              simpa using hc
            · exact hJ k y (by omega) hy
      · rintro δ' ⟨s5, s6, s7, s8, s9, s10, rfl, hJ⟩
        rw [rangeD_len, List.length_map, Int.toNat_natCast] at hJ
        refine sv_one (s_ret ev_bl (endD (btrue hb ⟨fun r hr => ?_, fun k l r s hkl h1 h2 => hcl k l r s (List.getElem?_eq_some_iff.mp h2).1 hkl h1 h2, fun i x hx => hJ i x (List.getElem?_eq_some_iff.mp hx).1 hx⟩)))
        obtain ⟨k, hk⟩ := List.mem_iff_getElem?.mp hr
        exact hf k r (List.getElem?_eq_some_iff.mp hk).1 hk
end

end LW

namespace LW
open PySem L2 DL
/-! ### a filling is a seating -/
theorem dur_append (a b : List Rw) (q : Int) : dur (a ++ b) q = dur a q ++ dur b q := by unfold dur; rw [List.filter_append, List.map_append]
theorem dur_none {rows : List Rw} {q : Int} (h : ∀ r ∈ rows, r.p ≠ q) : dur rows q = [] := by
  unfold dur
  rw [List.filter_eq_nil_iff.mpr fun r hr => by simpa using h r hr]; rfl
theorem clash_no {r s : Rw} (h : (r.c = s.c ∨ r.p = s.p) → r.a < s.b → ¬ s.a < r.b) : clashB r s = false := by
  unfold clashB
  by_cases h1 : r.c = s.c ∨ r.p = s.p
  · by_cases h2 : r.a < s.b
    · simp [h h1 h2]
    · simp [h2]
  · rw [not_or] at h1
    simp [h1.1, h1.2]
theorem half_mid {t u : Rat} (h : t < u) : t < 1 / 2 * (t + u) ∧ 1 / 2 * (t + u) < u := by
  constructor <;> grind
theorem nr_mem {cut : Bool} {p c : Int} {t l u : Rat} (h : t < u) : ∀ r ∈ newRows cut p c t l u, r.c = c ∧ r.p = p ∧ t ≤ r.a ∧ r.a < r.b ∧ r.b ≤ u := by
  obtain ⟨m1, m2⟩ := half_mid h
  unfold newRows
  intro r hr
  split at hr
  · rcases List.mem_cons.mp hr with rfl | hr
    · exact ⟨rfl, rfl, Rat.le_refl, m1, Rat.le_of_lt m2⟩
    · obtain rfl := List.mem_singleton.mp hr
      exact ⟨rfl, rfl, Rat.le_of_lt m1, m2, Rat.le_refl⟩
  · obtain rfl := List.mem_singleton.mp hr
    exact ⟨rfl, rfl, Rat.le_refl, h, Rat.le_refl⟩
theorem nr_pw {cut : Bool} {p c : Int} {t l u : Rat} : (newRows cut p c t l u).Pairwise (fun r s => clashB r s = false) := by
  unfold newRows
  split
  · refine List.pairwise_cons.mpr ⟨fun s hs => ?_, List.pairwise_singleton ..⟩
    obtain rfl := List.mem_singleton.mp hs
    exact clash_no fun _ _ => by show ¬ (1 / 2 * (t + u) < 1 / 2 * (t + u)); exact Rat.lt_irrefl
  · exact List.pairwise_singleton ..
theorem nr_dur {cut : Bool} {p c : Int} {t l u : Rat} (q : Int) : rsum (dur (newRows cut p c t l u) q) = if q = p then u - t else 0 := by
  by_cases hq : q = p
  · subst hq
    rw [if_pos rfl]
    unfold newRows dur
    split
    · simp only [List.filter_cons, decide_true, if_true, List.filter_nil, List.map_cons, List.map_nil, rsum_cons, rsum_nil]
      grind
    · simp only [List.filter_cons, decide_true, if_true, List.filter_nil, List.map_cons, List.map_nil, rsum_cons, rsum_nil]
      grind
  · rw [if_neg hq, dur_none, rsum_nil]
    unfold newRows
    intro r hr
    split at hr
    · rcases List.mem_cons.mp hr with rfl | hr
      · exact fun e => hq e.symm
      · obtain rfl := List.mem_singleton.mp hr
        exact fun e => hq e.symm
    · obtain rfl := List.mem_singleton.mp hr
      exact fun e => hq e.symm
def inside (S U : Rat) (n t : Int) (r : Rw) : Prop := 0 ≤ r.c ∧ r.c < t ∧ 0 ≤ r.p ∧ r.p < n ∧ S ≤ r.a ∧ r.a < r.b ∧ r.b ≤ U
/-- in the midst of the job p -/
structure TI (S U : Rat) (n t : Int) (Tot : Rat) (E : Int → Rat) (B : Int → Prop) (p : Int) (s : Fs) : Prop where
  fi : Fi S U s
  fit : ∀ r ∈ s.rows, inside S U n t r
  bef : ∀ r ∈ s.rows, r.c < s.c ∨ (r.c = s.c ∧ r.b ≤ s.t)
  own : 0 < s.l → ∀ r ∈ s.rows, r.p = p → s.t + s.l ≤ r.a
  pl : ∀ r ∈ s.rows, r.p = p ∨ B r.p
  pw : s.rows.Pairwise (fun r s => clashB r s = false)
  sum : ∀ q, rsum (dur s.rows q) + (if q = p then s.l else 0) = E q
  pos : (s.c : Rat) * (U - S) + (s.t - S) + s.l = Tot
  c0 : 0 ≤ s.c
section
variable {S U : Rat} {sh : List Rat} {cut : Bool} {n t p : Int} {Tot : Rat} {E : Int → Rat} {B : Int → Prop} {s : Fs}
theorem lt_of_mul {a b L : Rat} (hL : 0 < L) (h : a * L < b * L) : a < b := by
  by_cases q : a < b
  · exact q
  · have := Rat.mul_nonneg (show 0 ≤ a - b by grind) (Rat.le_of_lt hL)
    grind
theorem TI.step (I : TI S U n t Tot E B p s) (H : FH S U sh) (hT : Tot ≤ (t : Rat) * (U - S)) (hp : 0 ≤ p ∧ p < n) : TI S U n t Tot E B p (tstep S U cut p s) := by
  by_cases hl : 0 < s.l
  · obtain ⟨_, b, c, d⟩ := I.fi.to H hl
    obtain ⟨x1, x2, x3⟩ := rmin_le (s.t + s.l) U
    have t0 := I.fi.t0; have t1 := I.fi.t1; have l1 := I.fi.l1; have su := H.su
    have FS := I.fi.step (cut := cut) (p := p) H
    have hct : s.c < t := by
      have : (s.c : Rat) < (t : Rat) := lt_of_mul (L := U - S) (by grind) (by have := I.pos; grind)
      exact Rat.intCast_lt_intCast.mp this
    have mem := nr_mem (cut := cut) (p := p) (c := s.c) (l := s.l) b
    have e : tstep S U cut p s = ⟨s.rows ++ newRows cut p s.c s.t s.l (rmin (s.t + s.l) U), if rmin (s.t + s.l) U = U then s.c + 1 else s.c, if rmin (s.t + s.l) U = U then S else rmin (s.t + s.l) U, s.l - (rmin (s.t + s.l) U - s.t)⟩ := by
      unfold tstep; rw [if_pos hl]
    rw [e] at FS ⊢
    have cas : (rmin (s.t + s.l) U = U) ∨ (rmin (s.t + s.l) U ≠ U ∧ rmin (s.t + s.l) U = s.t + s.l) := by
      by_cases q : rmin (s.t + s.l) U = U
      · exact .inl q
      · exact .inr ⟨q, by rcases x3 with z | z; exact z; exact absurd z q⟩
    have dsum : ∀ q, rsum (dur (s.rows ++ newRows cut p s.c s.t s.l (rmin (s.t + s.l) U)) q) + (if q = p then s.l - (rmin (s.t + s.l) U - s.t) else 0) = E q := fun q => by
      rw [dur_append, rsum_append, nr_dur, ← I.sum q]
      by_cases hq : q = p
      · rw [if_pos hq, if_pos hq, if_pos hq]; grind
      · rw [if_neg hq, if_neg hq, if_neg hq]; grind
    generalize hto : rmin (s.t + s.l) U = to at *
    refine ⟨FS, ?_, ?_, ?_, ?_, ?_, dsum, ?_, ?_⟩
    · intro r hr
      rcases List.mem_append.mp hr with h | h
      · exact I.fit r h
      · obtain ⟨m1, m2, m3, m4, m5⟩ := mem r h
        exact ⟨by rw [m1]; exact I.c0, by rw [m1]; exact hct, by rw [m2]; exact hp.1, by rw [m2]; exact hp.2, by grind, m4, by grind⟩
    · intro r hr
      rcases cas with q | ⟨q, q2⟩
      · show r.c < (if to = U then s.c + 1 else s.c) ∨ _
        rw [if_pos q]
        rcases List.mem_append.mp hr with h | h
        · rcases I.bef r h with z | z
          · exact .inl (by omega)
          · exact .inl (by omega)
        · exact .inl (by have := (mem r h).1; omega)
      · show r.c < (if to = U then s.c + 1 else s.c) ∨ (r.c = (if to = U then s.c + 1 else s.c) ∧ r.b ≤ (if to = U then S else to))
        rw [if_neg q, if_neg q]
        rcases List.mem_append.mp hr with h | h
        · rcases I.bef r h with z | z
          · exact .inl z
          · exact .inr ⟨z.1, by have := z.2; grind⟩
        · obtain ⟨m1, m2, m3, m4, m5⟩ := mem r h
          exact .inr ⟨m1, m5⟩
    · intro h0 r hr hrp
      have h0' : 0 < s.l - (to - s.t) := h0
      rcases cas with q | ⟨q, q2⟩
      · show (if to = U then S else to) + (s.l - (to - s.t)) ≤ r.a
        rw [if_pos q]
        rcases List.mem_append.mp hr with h | h
        · have z1 := I.own hl r h hrp
          obtain ⟨_, _, _, _, _, z2, z3⟩ := I.fit r h
          grind
        · obtain ⟨m1, m2, m3, m4, m5⟩ := mem r h
          grind
      · grind
    · intro r hr
      rcases List.mem_append.mp hr with h | h
      · exact I.pl r h
      · exact .inl (mem r h).2.1
    · refine List.pairwise_append.mpr ⟨I.pw, nr_pw, fun r hr r2 h2 => clash_no fun hcp hab hba => ?_⟩
      obtain ⟨m1, m2, m3, m4, m5⟩ := mem r2 h2
      rcases hcp with hc | hc
      · rcases I.bef r hr with z | z
        · omega
        · have := z.2; grind
      · have := I.own hl r hr (by omega)
        grind
    · show ((if to = U then s.c + 1 else s.c : Int) : Rat) * (U - S) + ((if to = U then S else to) - S) + (s.l - (to - s.t)) = Tot
      have := I.pos
      rcases cas with q | ⟨q, q2⟩
      · rw [if_pos q, if_pos q, Rat.intCast_add]
        have : ((1 : Int) : Rat) = 1 := rfl
        grind
      · rw [if_neg q, if_neg q]; grind
    · show 0 ≤ (if to = U then s.c + 1 else s.c)
      have := I.c0
      split <;> omega
  · rw [tstep_done hl]; exact I
theorem TI.iter (I : TI S U n t Tot E B p s) (H : FH S U sh) (hT : Tot ≤ (t : Rat) * (U - S)) (hp : 0 ≤ p ∧ p < n) : ∀ k, TI S U n t Tot E B p (iterT S U cut p k s)
  | 0 => I
  | k + 1 => (TI.iter I H hT hp k).step H hT hp
/-- behind the jobs of done -/
structure JI (S U : Rat) (sh : List Rat) (t : Int) (done : List Nat) (s : Fs) : Prop where
  fi : Fi S U s
  fit : ∀ r ∈ s.rows, inside S U sh.length t r
  bef : ∀ r ∈ s.rows, r.c < s.c ∨ (r.c = s.c ∧ r.b ≤ s.t)
  pl : ∀ r ∈ s.rows, ∃ q ∈ done, r.p = (q : Nat)
  pw : s.rows.Pairwise (fun r s => clashB r s = false)
  sum : ∀ q ∈ done, rsum (dur s.rows (q : Nat)) = sh.getD q 0 * (U - S)
  pos : (s.c : Rat) * (U - S) + (s.t - S) = rsum (done.map fun q => sh.getD q 0) * (U - S)
  c0 : 0 ≤ s.c
theorem JI.job {done : List Nat} {p : Nat} (J : JI S U sh t done s) (H : FH S U sh) (hp : p < sh.length) (hn : p ∉ done) (hT : rsum ((done ++ [p]).map fun q => sh.getD q 0) ≤ (t : Rat)) : JI S U sh t (done ++ [p]) (jobF S U cut sh s p) := by
  have su := H.su
  have no : ∀ r ∈ s.rows, r.p ≠ (p : Int) := fun r hr e => by
    obtain ⟨q, hq, e2⟩ := J.pl r hr
    rw [e] at e2
    have : p = q := by omega
    subst this
    exact hn hq
  have I0 : TI S U sh.length t (rsum ((done ++ [p]).map fun q => sh.getD q 0) * (U - S)) (fun q => rsum (dur s.rows q) + (if q = (p : Int) then sh.getD p 0 * (U - S) else 0)) (fun z => ∃ q ∈ done, z = (q : Nat)) p (startF s (sh.getD p 0 * (U - S))) := by
    refine ⟨J.fi.job H hp, J.fit, J.bef, fun _ r hr e => absurd e (no r hr), fun r hr => .inr (J.pl r hr), J.pw, fun q => rfl, ?_, J.c0⟩
    rw [List.map_append, rsum_append]
    have := J.pos
    have e1 : rsum ([p].map fun q => sh.getD q 0) = sh.getD p 0 := by rw [List.map_cons, List.map_nil, rsum_cons, rsum_nil, Rat.add_zero]
    rw [e1]
    show (s.c : Rat) * (U - S) + (s.t - S) + sh.getD p 0 * (U - S) = _
    grind
  have hT2 : rsum ((done ++ [p]).map fun q => sh.getD q 0) * (U - S) ≤ (t : Rat) * (U - S) := Rat.mul_le_mul_of_nonneg_right hT (by grind)
  have I4 := I0.iter (cut := cut) H hT2 (by omega) 4
  have hl0 : (iterT S U cut p 4 (startF s (sh.getD p 0 * (U - S)))).l = 0 := by
    have a := iter_two (cut := cut) (p := p) (J.fi.job H hp) H
    have b : ¬ 0 < (iterT S U cut p (2 + 2) (startF s (sh.getD p 0 * (U - S)))).l := by rw [iterT_done a 2]; exact a
    have c := I4.fi.l0
    have b' : ¬ 0 < (iterT S U cut p 4 (startF s (sh.getD p 0 * (U - S)))).l := b
    grind
  unfold jobF
  generalize iterT S U cut p 4 (startF s (sh.getD p 0 * (U - S))) = w at I4 hl0
  refine ⟨I4.fi, I4.fit, I4.bef, fun r hr => ?_, I4.pw, fun q hq => ?_, ?_, I4.c0⟩
  · rcases I4.pl r hr with h | ⟨q, hq, e⟩
    · exact ⟨p, by simp, h⟩
    · exact ⟨q, by simp [hq], e⟩
  · have := I4.sum q
    rw [hl0] at this
    have this' : rsum (dur w.rows q) = rsum (dur s.rows q) + (if (q : Int) = (p : Int) then sh.getD p 0 * (U - S) else 0) := by
      rw [← this]; split <;> grind
    rw [this']
    rcases List.mem_append.mp hq with h | h
    · have ne : ¬ ((q : Int) = (p : Int)) := fun e => by
        have : q = p := by omega
        subst this
        exact hn h
      rw [if_neg ne, J.sum q h]; grind
    · obtain rfl := List.mem_singleton.mp h
      rw [if_pos rfl, dur_none no, rsum_nil]; grind
  · have := I4.pos
    rw [hl0] at this
    grind
theorem rsum_nonneg : ∀ {xs : List Rat}, (∀ x ∈ xs, 0 ≤ x) → 0 ≤ rsum xs
  | [], _ => by rw [rsum_nil]; exact Rat.le_refl
  | x :: xs, h => by
    rw [rsum_cons]
    have h1 := h x (List.mem_cons_self ..)
    have h2 := rsum_nonneg (xs := xs) fun y hy => h y (List.mem_cons_of_mem _ hy)
    grind
theorem rsum_perm {xs ys : List Rat} (h : xs.Perm ys) : rsum xs = rsum ys := by
  induction h with
  | nil => rfl
  | cons x _ ih => rw [rsum_cons, rsum_cons, ih]
  | swap x y l => rw [rsum_cons, rsum_cons, rsum_cons, rsum_cons]; grind
  | trans _ _ a b => rw [a, b]
theorem fill_JI (H : FH S U sh) (hsh : ∀ x ∈ sh, 0 ≤ x) : ∀ (os done : List Nat) (s : Fs), (∀ p ∈ os, p < sh.length) → (∀ p ∈ done, p < sh.length) → (done ++ os).Nodup → JI S U sh t done s → rsum ((done ++ os).map fun q => sh.getD q 0) ≤ (t : Rat) → JI S U sh t (done ++ os) (os.foldl (jobF S U cut sh) s) := by
  intro os
  induction os with
  | nil => intro done s _ _ _ J _; rw [List.append_nil]; exact J
  | cons p os ih =>
    intro done s hp hd nd J hT
    have e : done ++ p :: os = (done ++ [p]) ++ os := by simp
    rw [e] at nd hT ⊢
    have hpp := hp p (List.mem_cons_self ..)
    have hn : p ∉ done := fun h => by
      have := (List.nodup_append.mp (List.nodup_append.mp nd).1).2.2 p h p (by simp)
      exact this rfl
    have hnn : ∀ x ∈ os.map (fun q => sh.getD q 0), 0 ≤ x := fun x hx => by
      obtain ⟨q, hq, rfl⟩ := List.mem_map.mp hx
      have hq' := hp q (List.mem_cons_of_mem _ hq)
      rw [List.getD_eq_getElem?_getD, List.getElem?_eq_getElem hq']
      exact hsh _ (List.getElem_mem hq')
    have h1 : rsum ((done ++ [p]).map fun q => sh.getD q 0) ≤ (t : Rat) := by
      rw [List.map_append, rsum_append] at hT
      have := rsum_nonneg hnn
      grind
    exact ih (done ++ [p]) _ (fun q hq => hp q (List.mem_cons_of_mem _ hq)) (fun q hq => by rcases List.mem_append.mp hq with h | h; exact hd q h; rw [List.mem_singleton.mp h]; exact hpp) nd (J.job H hpp hn h1) hT
theorem range_getD (sh : List Rat) : (List.range sh.length).map (fun q => sh.getD q 0) = sh := by
  refine List.ext_getElem (by simp) fun i h1 h2 => ?_
  simp [List.getElem?_eq_getElem h2]
theorem fill_seated (H : FH S U sh) {os : List Nat} (hos : os.Perm (List.range sh.length)) (hsum : rsum sh ≤ (t : Rat)) : Seated S U sh t (fillF S U cut sh os).rows := by
  have hp : ∀ p ∈ os, p < sh.length := fun p h => List.mem_range.mp (hos.mem_iff.mp h)
  have J0 : JI S U sh t [] ⟨[], 0, S, 0⟩ := by
    refine ⟨Fi.start H, fun r h => absurd h List.not_mem_nil, fun r h => absurd h List.not_mem_nil, fun r h => absurd h List.not_mem_nil, List.Pairwise.nil, fun q h => absurd h List.not_mem_nil, ?_, Int.le_refl _⟩
    show ((0 : Int) : Rat) * (U - S) + (S - S) = rsum [] * (U - S)
    rw [rsum_nil]
    have : ((0 : Int) : Rat) = 0 := rfl
    grind
  have hT : rsum (([] ++ os).map fun q => sh.getD q 0) ≤ (t : Rat) := by
    rw [List.nil_append, rsum_perm (hos.map _), range_getD]; exact hsum
  have J := fill_JI (cut := cut) H (fun x h => (H.shx x h).2.1) os [] _ hp (fun p h => absurd h List.not_mem_nil) (by rw [List.nil_append]; exact hos.nodup_iff.mpr List.nodup_range) J0 hT
  rw [List.nil_append] at J
  have J' : JI S U sh t os (fillF S U cut sh os) := J
  refine ⟨fun r hr => ?_, fun k l r s hkl h1 h2 => ?_, fun i x hx => ?_⟩
  · obtain ⟨a1, a2, a3, a4, a5, a6, a7⟩ := J'.fit r hr
    unfold fitsB
    simp [a1, a2, a3, a4, a5, a6, a7]
  · have hl := (List.getElem?_eq_some_iff.mp h2).1
    have hk := (List.getElem?_eq_some_iff.mp h1).1
    have := List.pairwise_iff_getElem.mp J'.pw k l hk hl hkl
    rw [List.getElem?_eq_getElem hk] at h1
    rw [List.getElem?_eq_getElem hl] at h2
    obtain rfl := Option.some.inj h1
    obtain rfl := Option.some.inj h2
    exact this
  · have hi := (List.getElem?_eq_some_iff.mp hx).1
    rw [J'.sum i (hos.mem_iff.mpr (List.mem_range.mpr hi)), List.getD_eq_getElem?_getD, hx]; rfl
end

end LW

namespace LW
open PySem L2 DL
/-! ### seats: what the program fills, or refuses -/
def goodB (sh : List Rat) (t : Int) : Bool := sh.all (fun x => decide (0 ≤ x) && decide (x ≤ 1)) && !decide ((t : Rat) < rsum sh)
def Sp_need (CB : Addr) : PSpec := fun as res => ∃ sh t, as = [.dat (.lst (sh.map fr)), .dat (.int t)] ∧ ShOk sh ∧ t.natAbs ≤ 1000 ∧ ((goodB sh t = true ∧ res = .ret (.dat .non) []) ∨ (goodB sh t = false ∧ res = .exc CB [] [] []))
theorem sp_need_ok {CB : Addr} {sh : List Rat} {t : Int} (h1 : ShOk sh) (h2 : t.natAbs ≤ 1000) (h3 : goodB sh t = true) : Sp_need CB [.dat (.lst (sh.map fr)), .dat (.int t)] (.ret (.dat .non) []) := ⟨sh, t, rfl, h1, h2, .inl ⟨h3, rfl⟩⟩
theorem sp_need_no {CB : Addr} {sh : List Rat} {t : Int} (h1 : ShOk sh) (h2 : t.natAbs ≤ 1000) (h3 : goodB sh t = false) : Sp_need CB [.dat (.lst (sh.map fr)), .dat (.int t)] (.exc CB [] [] []) := ⟨sh, t, rfl, h1, h2, .inr ⟨h3, rfl⟩⟩
theorem fr_int (t : Int) : D.tup [.int t, .int 1] = fr (t : Rat) := rfl
theorem sz_int {t : Int} (h : t.natAbs ≤ 100000) : Sz (t : Rat) := (show Aa (t : Rat) from am_int (n := DD) t h).sz
theorem sh_sums {sh : List Rat} (h : ShOk sh) : Sums sh := am_sums (n := DD) (B := 100000) (L := 1000) h.1 h.2 dd_pos (pw1 dd_lt) (pw1 (by decide +kernel)) (by decide)
theorem endX {as os δ : List Slot} {C : Addr} (e : muIdx as 0 = [] := by rfl) : Ends0 as (.exc C [] [] os) (.ex C [] [] δ) := ⟨⟨rfl, rfl, rfl⟩, fun i hi => by rw [e] at hi; cases hi⟩
section
variable {M : Md} (T : Bn M) {f : Addr} {fd : FuncData} {CB : Addr}
include T
theorem ok_need_shares (eB : ErrC M "BadShares" CB) (gl_ZERO : GlobD M "ZERO" (fr 0)) (gl_ONE : GlobD M "ONE" (fr 1)) (c_at_most : Fn M CX0 "at_most" 1 Sp_le) (c_less : Fn M CX0 "less" 1 Sp_lt) (c_sum_of : Fn M CX0 "sum_of" 3 Sp_sum)
    (F : Fun M.K "need_shares" "need_shares" s_need_shares f fd) : FnOk M.P M.w M.K M.mg M.base (L2.CX M.P M.w) 4 f fd ["shares", "counters"] (spOf M.K (Sp_need CB)) := by
  refine fn_okX F sc_need_shares ?_ ?_
  · rintro as res ⟨_, _, rfl, _⟩; rfl
  · rintro X W G as res g tk ⟨sh, t, rfl, hs, ht, hres⟩ hbi
    have hbn := nob hbi rfl
    have s0 : Sz (0 : Rat) := sz_int (t := 0) (by decide)
    have s1 : Sz (1 : Rat) := sz_int (t := 1) (by decide)
    refine sv_cons (s_if (et_not (et_val (ev_all g T.all (EV.ls (ev_lcM1 g 2 ((sh.map fun x => decide (0 ≤ x) && decide (x ≤ 1)).map D.bl) (hbn 2) (ei_list (ev_var g 0)) (by simp) (by rw [List.length_map]; have := hs.2; omega) ?_))))) (fun hc => ?_) (fun hc => sv_nil ?_))
    · intro i d hd
      obtain ⟨x, hx, rfl⟩ := map_get hd
      have ax := (hs.1 x (List.mem_of_getElem? hx)).sz
      refine ⟨.bl (decide (0 ≤ x) && decide (x ≤ 1)), by rw [List.getElem?_map, List.getElem?_map, hx]; rfl, fun Y G2 gy hG => ?_⟩
      exact ev_and (ev_call2 gy c_at_most (ev_gd gy gl_ZERO) (ev_var gy 2) (sp_at_most s0 ax)) (fun _ => ev_b1 (ev_call2 gy c_at_most (ev_var gy 2) (ev_gd gy gl_ONE) (sp_at_most ax s1)))
    · have hc' : (!(sh.map fun x => decide (0 ≤ x) && decide (x ≤ 1)).all id) = true := hc
      have hbad : goodB sh t = false := by
        unfold goodB
        have e : sh.all (fun x => decide (0 ≤ x) && decide (x ≤ 1)) = (sh.map fun x => decide (0 ≤ x) && decide (x ≤ 1)).all id := by rw [List.all_map]; rfl
        rw [e]
        cases h : (sh.map fun x => decide (0 ≤ x) && decide (x ≤ 1)).all id with
        | true => rw [h] at hc'; cases hc'
        | false => rfl
      rcases hres with ⟨h, _⟩ | ⟨_, rfl⟩
      · rw [hbad] at h; cases h
      · exact sv_one (s_raise0 g tk eB endX)
    · have hc' : (!(sh.map fun x => decide (0 ≤ x) && decide (x ≤ 1)).all id) = false := hc
      have e : sh.all (fun x => decide (0 ≤ x) && decide (x ≤ 1)) = (sh.map fun x => decide (0 ≤ x) && decide (x ≤ 1)).all id := by rw [List.all_map]; rfl
      have hall : sh.all (fun x => decide (0 ≤ x) && decide (x ≤ 1)) = true := by
        rw [e]
        cases h : (sh.map fun x => decide (0 ≤ x) && decide (x ≤ 1)).all id with
        | true => rfl
        | false => rw [h] at hc'; cases hc'
      have hg2 : goodB sh t = !decide ((t : Rat) < rsum sh) := by unfold goodB; rw [hall]; rfl
      have ss := sh_sums hs
      have sz2 : Sz (rsum sh) := by have := ss.2 sh.length; rw [List.take_length] at this; exact this
      refine sv_one (s_if (et_val (ev_call2 g c_less ((ev_tup (ea_cons (ev_var g 1) (ea_cons ev_int ea_nil))).eq (fr_int t)) (ev_call1 g c_sum_of (ev_var g 0) (sp_sum_of ss (by have := hs.2; omega))) (sp_less (sz_int (by omega)) sz2))) (fun hc => ?_) (fun hc => sv_nil ?_))
      · rcases hres with ⟨h, _⟩ | ⟨_, rfl⟩
        · rw [hg2, hc] at h; cases h
        · exact sv_one (s_raise0 g tk eB endX)
      · rcases hres with ⟨_, rfl⟩ | ⟨h, _⟩
        · exact endN
        · rw [hg2, hc] at h; cases h
end
/-- a stretch that seats may be asked about -/
structure FG (S U : Rat) (sh : List Rat) : Prop where
  su : S < U
  gs : Gr DDt S
  gu : Gr DDt U
  s0 : -1000 ≤ S
  u1 : U ≤ 1000
  shx : ∀ x ∈ sh, Gr DDs x ∧ Aa x
  sl : sh.length ≤ 100
theorem FG.aS {S U : Rat} {sh : List Rat} (H : FG S U sh) : Aa S := aa_of ((H.gs.up (Nat.dvd_mul_left DDt DDs)).dd) (by have := H.s0; grind) (by have := H.u1; have := H.su; grind)
theorem FG.aU {S U : Rat} {sh : List Rat} (H : FG S U sh) : Aa U := aa_of ((H.gu.up (Nat.dvd_mul_left DDt DDs)).dd) (by have := H.s0; have := H.su; grind) (by have := H.u1; grind)
theorem FG.ok {S U : Rat} {sh : List Rat} (H : FG S U sh) : ShOk sh := ⟨fun x h => (H.shx x h).2, by have := H.sl; omega⟩
theorem FG.fh {S U : Rat} {sh : List Rat} {t : Int} (H : FG S U sh) (h : goodB sh t = true) : FH S U sh ∧ rsum sh ≤ (t : Rat) := by
  unfold goodB at h
  rw [Bool.and_eq_true, List.all_eq_true] at h
  refine ⟨⟨H.su, H.gs, H.gu, H.s0, H.u1, fun x hx => ?_, by have := H.sl; omega⟩, ?_⟩
  · have := h.1 x hx
    rw [Bool.and_eq_true] at this
    exact ⟨(H.shx x hx).1, of_decide_eq_true this.1, of_decide_eq_true this.2⟩
  · have := h.2
    simp at this
    grind
def seatsF (S U : Rat) (sh : List Rat) : List Rw := (fillF S U false sh (List.range sh.length)).rows
def Sp_seats (CB : Addr) : PSpec := fun as res => ∃ st S U sh t, as = [.dat st, .dat (.int t)] ∧ StD st S U sh ∧ FG S U sh ∧ t.natAbs ≤ 1000 ∧ ((goodB sh t = true ∧ res = .ret (.dat (.tup ((seatsF S U sh).map Rw.d))) []) ∨ (goodB sh t = false ∧ res = .exc CB [] [] []))
theorem sp_seats {CB : Addr} {st : D} {S U : Rat} {sh : List Rat} {t : Int} (h : StD st S U sh) (h1 : FG S U sh) (h2 : t.natAbs ≤ 1000) (h3 : goodB sh t = true) : Sp_seats CB [.dat st, .dat (.int t)] (.ret (.dat (.tup ((seatsF S U sh).map Rw.d))) []) := ⟨st, S, U, sh, t, rfl, h, h1, h2, .inl ⟨h3, rfl⟩⟩
theorem sp_seats_no {CB : Addr} {st : D} {S U : Rat} {sh : List Rat} {t : Int} (h : StD st S U sh) (h1 : FG S U sh) (h2 : t.natAbs ≤ 1000) (h3 : goodB sh t = false) : Sp_seats CB [.dat st, .dat (.int t)] (.exc CB [] [] []) := ⟨st, S, U, sh, t, rfl, h, h1, h2, .inr ⟨h3, rfl⟩⟩
theorem rmin_shift (t l U : Rat) : t + rmin l (U - t) = rmin (t + l) U := by
  unfold rmin
  by_cases h : U - t < l
  · rw [if_pos h, if_pos (by grind)]; grind
  · rw [if_neg h, if_neg (by grind)]
section
variable {M : Md} (T : Bn M) {f : Addr} {fd : FuncData} {CB : Addr}
include T
theorem ok_seats (gl_ZERO : GlobD M "ZERO" (fr 0)) (c_kept_stretch : Fn M CX0 "kept_stretch" 4 Sp_kept) (c_need_shares : Fn M (L2.CX M.P M.w) "need_shares" 4 (Sp_need CB)) (c_plus : Fn M CX0 "plus" 2 Sp_plus) (c_minus : Fn M CX0 "minus" 2 Sp_minus) (c_times : Fn M CX0 "times" 2 Sp_times) (c_lesser : Fn M CX0 "lesser" 2 Sp_min)
    (F : Fun M.K "seats" "seats" s_seats f fd) : FnOk M.P M.w M.K M.mg M.base (L2.CX M.P M.w) 5 f fd ["stretch", "counters"] (spOf M.K (Sp_seats CB)) := by
  refine fn_okX F sc_seats ?_ ?_
  · rintro as res ⟨_, _, _, _, _, rfl, _⟩; rfl
  · rintro X W G as res g tk ⟨st, S, U, sh, t, rfl, hst, hG, ht, hres⟩ hbi
    have hbn := nob hbi rfl
    refine sv_cons (s_asgT g (ev_call1 g c_kept_stretch (ev_var g 0) (sp_kept_stretch hst hG.aS hG.aU hG.ok)) (ag_tup g ((ags_cons (ag_name g 2 (hbn 2)) (ags_cons (ag_name g 3 (hbn 3)) (ags_cons (ag_name g 4 (hbn 4)) ags_nil))))) ?_)
    rcases hres with ⟨hgood, rfl⟩ | ⟨hbad, rfl⟩
    · obtain ⟨H, _⟩ := hG.fh hgood
      have hol : (List.range sh.length).length ≤ 100 := by rw [List.length_range]; exact hG.sl
      have hos : ∀ p ∈ List.range sh.length, p < sh.length := fun p h => List.mem_range.mp h
      refine sv_cons (s_expr (ev_call2 g c_need_shares (ev_var g 4) (ev_var g 1) (sp_need_ok hG.ok ht hgood)) ?_)
      refine sv_cons (s_asgM g 5 (ev_lst ea_nil) (hbn 5) ?_)
      refine sv_cons (s_asg g 6 ev_int (hbn 6) ?_)
      refine sv_cons (s_asg g 7 (ev_var g 2) (hbn 7) ?_)
      refine sv_cons (s_for g (ei_enum g T.enumerate (ev_var g 4)) (fun i δ => ∃ s8 s9 s10 s11, δ = [.dat st, .dat (.int t), .dat (fr S), .dat (fr U), .dat (.lst (sh.map fr)), .own ((fillF S U false sh ((List.range sh.length).take i)).rows.map Rw.d), .dat (.int (fillF S U false sh ((List.range sh.length).take i)).c), .dat (fr (fillF S U false sh ((List.range sh.length).take i)).t), s8, s9, s10, s11]) ⟨_, _, _, _, rfl⟩ ?_ ?_)
      · rintro i d δi hd ⟨s8, s9, s10, s11, rfl⟩
        obtain ⟨e, he, rfl⟩ := enumD_get hd
        obtain ⟨x, hx, rfl⟩ := map_get he
        rw [Nat.zero_add]
        refine ⟨_, _, ag_tup g ((ags_cons (ag_name g 8 (hbn 8)) (ags_cons (ag_name g 9 (hbn 9)) ags_nil))), ?_⟩
        have hil := (List.getElem?_eq_some_iff.mp hx).1
        have hp : (List.range sh.length)[i]? = some i := by rw [List.getElem?_range hil]
        have hxm := List.mem_of_getElem? hx
        have exd : x = sh.getD i 0 := by rw [List.getD_eq_getElem?_getD, hx]; rfl
        obtain ⟨FI, FL⟩ := fill_inv (cut := false) H ((List.range sh.length).take i) (fun q hq => hos q (List.mem_of_mem_take hq))
        have et : fillF S U false sh ((List.range sh.length).take (i + 1)) = iterT S U false i 4 (startF (fillF S U false sh ((List.range sh.length).take i)) (sh.getD i 0 * (U - S))) := by
          rw [take_succ_of hp]; unfold fillF; rw [List.foldl_append]; rfl
        have hrl : (fillF S U false sh ((List.range sh.length).take i)).rows.length ≤ 800 := by rw [List.length_take] at FL; omega
        rw [et]
        generalize fillF S U false sh ((List.range sh.length).take i) = s at FI hrl
        have FJ := FI.job H hil
        rw [← exd] at FJ ⊢
        refine sv_cons (s_asg g 10 (ev_call2 g c_times (ev_var g 9) (ev_call2 g c_minus (ev_var g 3) (ev_var g 2) (sp_minus H.aU.sz H.aS.sz)) (sp_times (H.aX hxm).sz (H.aU.sub H.aS))) (hbn 10) ?_)
        refine sv_one (s_while g (fun m δ => ∃ j s11, m = 2 - j ∧ j ≤ 2 ∧ δ = [.dat st, .dat (.int t), .dat (fr S), .dat (fr U), .dat (.lst (sh.map fr)), .own ((iterT S U false i j (startF s (x * (U - S)))).rows.map Rw.d), .dat (.int (iterT S U false i j (startF s (x * (U - S)))).c), .dat (fr (iterT S U false i j (startF s (x * (U - S)))).t), .dat (.int i), .dat (fr x), .dat (fr (iterT S U false i j (startF s (x * (U - S)))).l), s11]) 2 ⟨0, s11, rfl, by omega, rfl⟩ ?_)
        rintro m δi ⟨j, s11, hm, hj, rfl⟩
        have FK := FJ.iter (cut := false) (p := i) H j
        have lK := iterT_len (S := S) (U := U) (cut := false) (p := i) (s := startF s (x * (U - S))) j
        have hr0 : (startF s (x * (U - S))).rows.length ≤ 800 := hrl
        refine ⟨_, _, et_neF g (ev_var g 10) (ev_gd g gl_ZERO), fun hc => ?_, fun hc => ?_⟩
        · have hl : 0 < (iterT S U false i j (startF s (x * (U - S)))).l := by
            have := FK.l0
            have hne : (iterT S U false i j (startF s (x * (U - S)))).l ≠ 0 := by simpa using hc
            grind
          have hj2 : j < 2 := by
            rcases Nat.lt_or_ge j 2 with q | q
            · exact q
            · have : j = 2 := by omega
              subst this
              exact absurd hl (iter_two FJ H)
          have e1 : iterT S U false i (j + 1) (startF s (x * (U - S))) = tstep S U false i (iterT S U false i j (startF s (x * (U - S)))) := rfl
          have fin : ∀ δ' : List DL.Slot, (∃ s11, δ' = [.dat st, .dat (.int t), .dat (fr S), .dat (fr U), .dat (.lst (sh.map fr)), .own ((tstep S U false i (iterT S U false i j (startF s (x * (U - S))))).rows.map Rw.d), .dat (.int (tstep S U false i (iterT S U false i j (startF s (x * (U - S))))).c), .dat (fr (tstep S U false i (iterT S U false i j (startF s (x * (U - S))))).t), .dat (.int i), .dat (fr x), .dat (fr (tstep S U false i (iterT S U false i j (startF s (x * (U - S))))).l), s11]) → ∃ m', m' < m ∧ ∃ j s11, m' = 2 - j ∧ j ≤ 2 ∧ δ' = [.dat st, .dat (.int t), .dat (fr S), .dat (fr U), .dat (.lst (sh.map fr)), .own ((iterT S U false i j (startF s (x * (U - S)))).rows.map Rw.d), .dat (.int (iterT S U false i j (startF s (x * (U - S)))).c), .dat (fr (iterT S U false i j (startF s (x * (U - S)))).t), .dat (.int i), .dat (fr x), .dat (fr (iterT S U false i j (startF s (x * (U - S)))).l), s11] := fun δ' ⟨s11, h⟩ => ⟨2 - (j + 1), by omega, j + 1, s11, rfl, by omega, by rw [e1]; exact h⟩
          generalize iterT S U false i j (startF s (x * (U - S))) = w at FK lK hl fin
          have aTo := FK.ato H hl
          have aT := FK.at_ H
          have aL := FK.al H
          refine sv_cons (s_asg g 11 ((ev_call2 g c_plus (ev_var g 7) (ev_call2 g c_lesser (ev_var g 10) (ev_call2 g c_minus (ev_var g 3) (ev_var g 7) (sp_minus H.aU.sz aT.sz)) (sp_lesser aL.sz (H.aU.sub aT))) (sp_plus aT.sz (sz_rmin aL.sz (H.aU.sub aT)))).eq (congrArg fr (rmin_shift w.t w.l U))) (hbn 11) ?_)
          refine sv_cons (s_app g 5 (ev_tup (ea_cons (ev_var g 6) (ea_cons (ev_var g 8) (ea_cons (ev_var g 7) (ea_cons (ev_var g 11) ea_nil))))) ?_ ?_ ⟨_, rfl⟩)
          · rw [List.length_map]; omega
          refine sv_cons (s_asg g 10 (ev_call2 g c_minus (ev_var g 10) (ev_call2 g c_minus (ev_var g 11) (ev_var g 7) (sp_minus aTo.sz aT.sz)) (sp_minus aL.sz (aTo.sub aT))) (hbn 10) ?_)
          refine sv_cons (s_asg g 7 (ev_var g 11) (hbn 7) ?_)
          have er : (w.rows ++ newRows false i w.c w.t w.l (rmin (w.t + w.l) U)).map Rw.d = w.rows.map Rw.d ++ [.tup [.int w.c, .int i, fr w.t, fr (rmin (w.t + w.l) U)]] := by
            unfold newRows
            rw [List.map_append]; rfl
          refine sv_one (s_if (et_eqF g (ev_var g 7) (ev_var g 3)) (fun hc => ?_) (fun hc => sv_nil (fin _ ?_)))
          · refine sv_cons (s_asg g 6 (ev_add (ev_var g 6) ev_int) (hbn 6) ?_)
            refine sv_one (s_asg g 7 (ev_var g 2) (hbn 7) (fin _ ⟨.dat (fr (rmin (w.t + w.l) U)), ?_⟩))
            unfold tstep
            rw [if_pos hl, if_pos (of_decide_eq_true hc), if_pos (of_decide_eq_true hc)]
            simp only [er]
            rfl
          · refine ⟨.dat (fr (rmin (w.t + w.l) U)), ?_⟩
            unfold tstep
            rw [if_pos hl, if_neg (of_decide_eq_false hc), if_neg (of_decide_eq_false hc)]
            simp only [er]
            rfl
        · have hl : ¬ 0 < (iterT S U false i j (startF s (x * (U - S)))).l := by
            have hne : (iterT S U false i j (startF s (x * (U - S)))).l = 0 := by simpa using hc
            rw [hne]; grind
          have e4 : iterT S U false i 4 (startF s (x * (U - S))) = iterT S U false i j (startF s (x * (U - S))) := by
            have := iterT_done hl (4 - j)
            rw [← this]; congr 1; omega
          rw [← e4]
          exact ⟨_, _, _, _, rfl⟩
      · rintro δ' ⟨s8, s9, s10, s11, rfl⟩
        refine sv_one (s_ret (ev_tuple g T.tuple (ev_lst_of g 5 (hbn 5))) (endD ?_))
        rw [enumD_len, List.length_map, List.take_of_length_le (by rw [List.length_range]; exact Nat.le_refl _)]
        rfl
    · exact sv_cons (s_callX g tk c_need_shares (by decide) (ea_cons (ev_var g 4) (ea_cons (ev_var g 1) ea_nil)) (sp_need_no hG.ok ht hbad) endX)
end
def Sp_refused : PSpec := fun as res => ∃ st S U sh t, as = [.dat st, .dat (.int t)] ∧ StD st S U sh ∧ FG S U sh ∧ t.natAbs ≤ 1000 ∧ res = .ret (.dat (.int (if goodB sh t then 0 else 1))) []
theorem sp__law_refused {st : D} {S U : Rat} {sh : List Rat} {t : Int} (h : StD st S U sh) (h1 : FG S U sh) (h2 : t.natAbs ≤ 1000) : Sp_refused [.dat st, .dat (.int t)] (.ret (.dat (.int (if goodB sh t then 0 else 1))) []) := ⟨st, S, U, sh, t, rfl, h, h1, h2, rfl⟩
section
variable {M : Md} (T : Bn M) {f : Addr} {fd : FuncData} {CB CE CC : Addr}
include T
theorem ok__law_refused (eB : ErrC M "BadShares" CB) (cc : ExcC M.K CB) (ym : PySem.W.exmOne M.K (.ref CB) (.ref CB) = some true) (gE : M.mg "CounterError" = some (.ref CE)) (kE : PySem.W.kitOne M.K (.ref CB) (.ref CE) = some true) (gV : M.mg "ValueError" = none) (kV : PySem.W.kitOne M.K (.ref CB) (.type "ValueError") = some true) (gC : M.mg "BadCount" = some (.ref CC)) (kC : PySem.W.kitOne M.K (.ref CB) (.ref CC) = some false)
    (c_seats : Fn M (L2.CX M.P M.w) "seats" 5 (Sp_seats CB)) (F : Fun M.K "_law_refused" "_law_refused" s__law_refused f fd) : FnOk M.P M.w M.K M.mg M.base CX0 6 f fd ["stretch", "tables"] (spOf M.K Sp_refused) := by
  refine fn_okT F sc__law_refused ?_ ?_ ?_
  · rintro as res ⟨_, _, _, _, _, rfl, _⟩; rfl
  · rintro as C ns ds os ⟨_, _, _, _, _, _, _, _, _, h⟩; cases h
  · rintro X W G as res g hs hf ⟨st, S, U, sh, t, rfl, hst, hG, ht, rfl⟩ hbi
    have hbn := nob hbi rfl
    refine sv_cons (s_try1 g hs hf 2 (.ref CB) CB (fun δ => δ = [.dat st, .dat (.int t), .un] ∧ goodB sh t = false) (hbn 2) eB.gl ym (fun Y V gY tk => ?_) (fun δ' a oe pn V hR hz hv => ?_))
    · cases hb : goodB sh t with
      | true =>
        refine sv_one (s_expr (ev_call2 gY c_seats (ev_var gY 0) (ev_var gY 1) (sp_seats hst hG ht hb)) ?_)
        exact sv_one (s_ret ev_int (endD rfl))
      | false => exact sv_one (s_callX gY tk c_seats (by decide) (ea_cons (ev_var gY 0) (ea_cons (ev_var gY 1) ea_nil)) (sp_seats_no hst hG ht hb) ⟨rfl, rfl, rfl, rfl⟩)
    · obtain ⟨rfl, hb⟩ := hR
      rw [hb]
      exact sv_one (s_ret (ev_ixL (EV.ls (ev_lst (ea_cons ev_int (ea_cons ev_int ea_nil)))) (ev_toIntE g T.int (ev_and (ev_isEo g cc hz hv 2 T.isinstance gE kE) (fun _ => ev_and (ev_isEb g cc hz hv 2 T.isinstance gV (by decide +kernel) kV) (fun _ => ev_b1 (ev_not (ev_isEo g cc hz hv 2 T.isinstance gC kC)))))) rfl) ⟨endD rfl, rfl⟩)
end

end LW

namespace LW
open PySem L2 DL
/-! ### the law's draws of shares -/
theorem nob1 {G : Ent} {as : List DL.Slot} {v : Nat} (h : ∀ i ∈ G.bor.map (·.1), i ∈ muIdx as 0) (e : muIdx as 0 = [v]) : ∀ i, i ≠ v → i ∉ G.bor.map (·.1) := fun i ne hi => by
  have := h i hi
  rw [e, List.mem_singleton] at this
  exact ne this
theorem sp__law_digit (r : List Int) (k : Nat) (s : Int) (h0 : 0 < s) (h1 : 0 < r.length) : Sp_dig [.dat (.lst (r.map .int)), .own [.int k], .dat (.int s)] (.ret (.dat (.int (dg r k s))) [.un, .own [.int ((k + 1 : Nat) : Int)], .un]) := ⟨r, k, s, rfl, h0, h1, rfl⟩
def parts : List Rat := [0, 1, 1 / 2, 2 / 3, 1 / 7, 96 / 97, 3 / 4, 1]
theorem fr_lit {a b : Int} {q : Rat} (h : q.num = a ∧ (q.den : Int) = b) : D.tup [.int a, .int b] = fr q := by unfold fr; rw [h.1, h.2]
theorem parts_d : [D.tup [.int 0, .int 1], D.tup [.int 1, .int 1], D.tup [.int 1, .int 2], D.tup [.int 2, .int 3], D.tup [.int 1, .int 7], D.tup [.int 96, .int 97], D.tup [.int 3, .int 4], D.tup [.int 1, .int 1]] = parts.map fr := by
  unfold parts
  simp only [List.map_cons, List.map_nil]
  rw [← fr_lit (a := 0) (b := 1) (q := 0) (by decide +kernel), ← fr_lit (a := 1) (b := 1) (q := 1) (by decide +kernel), ← fr_lit (a := 1) (b := 2) (q := 1 / 2) (by decide +kernel), ← fr_lit (a := 2) (b := 3) (q := 2 / 3) (by decide +kernel),
    ← fr_lit (a := 1) (b := 7) (q := 1 / 7) (by decide +kernel), ← fr_lit (a := 96) (b := 97) (q := 96 / 97) (by decide +kernel), ← fr_lit (a := 3) (b := 4) (q := 3 / 4) (by decide +kernel)]
theorem parts_ok : ∀ x ∈ parts, Gr DDs x ∧ 0 ≤ x ∧ x ≤ 1 := by
  have h : ∀ x ∈ parts, (x * (DDs : Rat)).den = 1 ∧ 0 ≤ x ∧ x ≤ 1 := by decide +kernel
  intro x hx
  obtain ⟨a, b, c⟩ := h x hx
  refine ⟨⟨(x * (DDs : Rat)).num, ?_⟩, b, c⟩
  refine Rat.ext rfl ?_
  rw [a]; rfl
structure Dw where
  sh : List Rat
  room : Rat
  k : Nat
def cutPart (full : Bool) (p l room : Rat) : Rat := rmin (if full && decide (p < l) then rmin 1 l else p) room
def drawPart (r : List Int) (k : Nat) : Rat := parts.getD (dg r k 8).toNat 0
def dstep (r : List Int) (n : Nat) (full : Bool) (s : Dw) (q : Nat) : Dw :=
  ⟨s.sh ++ [cutPart full (drawPart r s.k) (s.room - ((n : Int) - 1 - q : Int)) s.room], s.room - cutPart full (drawPart r s.k) (s.room - ((n : Int) - 1 - q : Int)) s.room, s.k + 1⟩
def drawnF (r : List Int) (k : Nat) (t : Int) (n : Nat) (full : Bool) : Dw := (List.range n).foldl (dstep r n full) ⟨[], (t : Rat), k⟩
structure Di (t : Int) (i : Nat) (s : Dw) : Prop where
  sh : ∀ x ∈ s.sh, Gr DDs x ∧ 0 ≤ x ∧ x ≤ 1
  gr : Gr DDs s.room
  r0 : 0 ≤ s.room
  rt : s.room ≤ (t : Rat)
  sum : rsum s.sh + s.room = (t : Rat)
  len : s.sh.length = i
theorem draw_mem {r : List Int} {k : Nat} : drawPart r k ∈ parts := by
  unfold drawPart
  have h1 := dg_lo (r := r) (k := k) (s := 8) (by decide)
  have h2 := dg_hi (r := r) (k := k) (s := 8) (by decide)
  have h3 : (dg r k 8).toNat < parts.length := by show _ < 8; omega
  rw [List.getD_eq_getElem?_getD, List.getElem?_eq_getElem h3]
  exact List.getElem_mem h3
theorem cutPart_ok {full : Bool} {p l room : Rat} (hp : Gr DDs p ∧ 0 ≤ p ∧ p ≤ 1) (hl : Gr DDs l) (hr : Gr DDs room) (h0 : 0 ≤ room) : Gr DDs (cutPart full p l room) ∧ 0 ≤ cutPart full p l room ∧ cutPart full p l room ≤ 1 ∧ cutPart full p l room ≤ room := by
  have g1 : Gr DDs (1 : Rat) := Gr.int 1
  obtain ⟨a1, a2, a3⟩ := rmin_le 1 l
  unfold cutPart
  by_cases hc : (full && decide (p < l)) = true
  · rw [if_pos hc]
    rw [Bool.and_eq_true] at hc
    have hpl := of_decide_eq_true hc.2
    obtain ⟨b1, b2, b3⟩ := rmin_le (rmin 1 l) room
    refine ⟨(g1.rmin hl).rmin hr, ?_, by grind, b2⟩
    rcases b3 with b | b <;> rw [b]
    · rcases a3 with a | a <;> rw [a] <;> grind
    · exact h0
  · rw [if_neg hc]
    obtain ⟨b1, b2, b3⟩ := rmin_le p room
    refine ⟨hp.1.rmin hr, ?_, by grind, b2⟩
    rcases b3 with b | b <;> rw [b]
    · exact hp.2.1
    · exact h0
theorem Di.left {t : Int} {i : Nat} {s : Dw} (I : Di t i s) (n q : Nat) : Gr DDs (s.room - ((n : Int) - 1 - q : Int)) := I.gr.sub (Gr.int _)
theorem Di.step {t : Int} {i : Nat} {s : Dw} (I : Di t i s) (r : List Int) (n : Nat) (full : Bool) (q : Nat) : Di t (i + 1) (dstep r n full s q) := by
  obtain ⟨a, b, c, d⟩ := cutPart_ok (full := full) (parts_ok _ (draw_mem (r := r) (k := s.k))) (I.left n q) I.gr I.r0
  have := I.rt
  refine ⟨fun x hx => ?_, I.gr.sub a, by show 0 ≤ s.room - _; grind, by show s.room - _ ≤ _; grind, ?_, ?_⟩
  · rcases List.mem_append.mp hx with h | h
    · exact I.sh x h
    · obtain rfl := List.mem_singleton.mp h
      exact ⟨a, b, c⟩
  · show rsum (s.sh ++ [_]) + (s.room - _) = _
    rw [rsum_snoc]
    have := I.sum
    grind
  · show (s.sh ++ [_]).length = _
    rw [List.length_append, I.len]; rfl
theorem draw_inv {r : List Int} {k : Nat} {t : Int} (ht : 0 ≤ t) (n : Nat) (full : Bool) : ∀ i, Di t i ((List.range i).foldl (dstep r n full) ⟨[], (t : Rat), k⟩) ∧ ((List.range i).foldl (dstep r n full) ⟨[], (t : Rat), k⟩).k = k + i
  | 0 => ⟨⟨fun x hx => absurd hx List.not_mem_nil, Gr.int t, by show (0 : Rat) ≤ (t : Rat); exact Rat.intCast_nonneg.mpr ht, Rat.le_refl, by show rsum [] + (t : Rat) = _; rw [rsum_nil, Rat.zero_add], rfl⟩, rfl⟩
  | i + 1 => by
    obtain ⟨I, K⟩ := draw_inv (r := r) (k := k) ht n full i
    rw [List.range_succ, List.foldl_append]
    exact ⟨I.step r n full i, by show _ + 1 = _; rw [K]; omega⟩
theorem aa_sh {x : Rat} (h : Gr DDs x ∧ 0 ≤ x ∧ x ≤ 1) : Aa x := aa_of ((h.1.up (Nat.dvd_mul_right DDs DDt)).dd) (by have := h.2; grind) (by have := h.2; grind)
def Sp_drawn : PSpec := fun as res => ∃ (r : List Int) (k : Nat) (t : Int) (n : Nat) (full : Bool), as = [.dat (.lst (r.map .int)), .own [.int k], .dat (.int t), .dat (.int n), .dat (.bl full)] ∧ 0 < r.length ∧ 0 ≤ t ∧ t ≤ 1000 ∧ n ≤ 100 ∧ res = .ret (.own ((drawnF r k t n full).sh.map fr)) [.un, .own [.int ((k + n : Nat) : Int)], .un, .un, .un]
theorem sp__law_shares_drawn (r : List Int) (k : Nat) (t : Int) (n : Nat) (full : Bool) (h1 : 0 < r.length) (h2 : 0 ≤ t) (h3 : t ≤ 1000) (h4 : n ≤ 100) : Sp_drawn [.dat (.lst (r.map .int)), .own [.int k], .dat (.int t), .dat (.int n), .dat (.bl full)] (.ret (.own ((drawnF r k t n full).sh.map fr)) [.un, .own [.int ((k + n : Nat) : Int)], .un, .un, .un]) := ⟨r, k, t, n, full, rfl, h1, h2, h3, h4, rfl⟩
section
variable {M : Md} (T : Bn M) {f : Addr} {fd : FuncData}
include T
theorem ok__law_shares_drawn (c__law_digit : Fn M CX0 "_law_digit" 1 Sp_dig) (c__law_sub : Fn M CX0 "_law_sub" 2 Sp_minus) (c__law_lt : Fn M CX0 "_law_lt" 1 Sp_lt) (c__law_lesser : Fn M CX0 "_law_lesser" 2 Sp_min)
    (F : Fun M.K "_law_shares_drawn" "_law_shares_drawn" s__law_shares_drawn f fd) : FnOk M.P M.w M.K M.mg M.base CX0 3 f fd ["row", "at", "tables", "count", "full"] (spOf M.K Sp_drawn) := by
  refine fn_ok F sc__law_shares_drawn ?_ ?_ ?_
  · rintro as res ⟨_, _, _, _, _, rfl, _⟩; rfl
  · rintro as C ns ds os ⟨_, _, _, _, _, _, _, _, _, _, h⟩; cases h
  · rintro X W G as res g ⟨r, k, t, n, full, rfl, hr, ht, ht2, hn, rfl⟩ hbi
    have hbn := nob1 hbi rfl
    have s1 : Sz (1 : Rat) := sz_int (t := 1) (by decide)
    refine sv_cons (s_asgM g 5 (ev_lst ea_nil) (hbn 5 (by decide)) ?_)
    refine sv_cons (s_asg g 6 ((ev_tup (ea_cons (ev_var g 2) (ea_cons ev_int ea_nil))).eq (fr_int t)) (hbn 6 (by decide)) ?_)
    refine sv_cons (s_for g (ei_range1 g T.range (ev_var g 3) (by omega)) (fun i δ => ∃ s7 s8 s9, δ = [.dat (.lst (r.map .int)), .own [.int ((((List.range i).foldl (dstep r n full) ⟨[], (t : Rat), k⟩).k : Nat) : Int)], .dat (.int t), .dat (.int n), .dat (.bl full), .own (((List.range i).foldl (dstep r n full) ⟨[], (t : Rat), k⟩).sh.map fr), .dat (fr ((List.range i).foldl (dstep r n full) ⟨[], (t : Rat), k⟩).room), s7, s8, s9]) ⟨_, _, _, rfl⟩ ?_ ?_)
    · rintro i d δi hd ⟨s7, s8, s9, rfl⟩
      obtain ⟨hi, rfl⟩ := rangeD_get hd
      rw [Int.zero_add]
      rw [Int.toNat_natCast] at hi
      refine ⟨_, _, ag_name g 7 (hbn 7 (by decide)), ?_⟩
      obtain ⟨I, _⟩ := draw_inv (r := r) (k := k) ht n full i
      have e : (List.range (i + 1)).foldl (dstep r n full) ⟨[], (t : Rat), k⟩ = dstep r n full ((List.range i).foldl (dstep r n full) ⟨[], (t : Rat), k⟩) i := by rw [List.range_succ, List.foldl_append]; rfl
      rw [e]
      generalize (List.range i).foldl (dstep r n full) ⟨[], (t : Rat), k⟩ = s at I
      have hp := parts_ok _ (draw_mem (r := r) (k := s.k))
      have hcut := cutPart_ok (full := full) hp (I.left n i) I.gr I.r0
      have tq : (t : Rat) ≤ 1000 := by have := Rat.intCast_le_intCast.mpr ht2; exact this
      have aroom : Aa s.room := aa_of ((I.gr.up (Nat.dvd_mul_right DDs DDt)).dd) (by have := I.r0; grind) (by have := I.rt; grind)
      have aleft : Aa (s.room - ((n : Int) - 1 - i : Int)) := by
        have z1 : (((n : Int) - 1 - i : Int) : Rat) ≤ 1000 := by have := Rat.intCast_le_intCast.mpr (show ((n : Int) - 1 - i : Int) ≤ 1000 by omega); exact this
        have z2 : -1000 ≤ (((n : Int) - 1 - i : Int) : Rat) := by have := Rat.intCast_le_intCast.mpr (show (-1000 : Int) ≤ ((n : Int) - 1 - i : Int) by omega); exact this
        exact aa_of (((I.left n i).up (Nat.dvd_mul_right DDs DDt)).dd) (by have := I.r0; grind) (by have := I.rt; grind)
      have d0 := dg_lo (r := r) (k := s.k) (s := 8) (by decide)
      have d1 := dg_hi (r := r) (k := s.k) (s := 8) (by decide)
      have d3 : (dg r s.k 8).toNat < parts.length := by show _ < 8; omega
      refine sv_cons (s_asg g 8 (ev_ixL ((EV.ls (ev_lst (ea_cons (ev_tup (ea_cons ev_int (ea_cons ev_int ea_nil))) (ea_cons (ev_tup (ea_cons ev_int (ea_cons ev_int ea_nil))) (ea_cons (ev_tup (ea_cons ev_int (ea_cons ev_int ea_nil))) (ea_cons (ev_tup (ea_cons ev_int (ea_cons ev_int ea_nil))) (ea_cons (ev_tup (ea_cons ev_int (ea_cons ev_int ea_nil))) (ea_cons (ev_tup (ea_cons ev_int (ea_cons ev_int ea_nil))) (ea_cons (ev_tup (ea_cons ev_int (ea_cons ev_int ea_nil))) (ea_cons (ev_tup (ea_cons ev_int (ea_cons ev_int ea_nil))) ea_nil)))))))))).eq (congrArg D.lst parts_d))
        (ev_call_b2 g c__law_digit 1 (ev_var g 0) (ea_cons ev_int ea_nil) (sp__law_digit r s.k 8 (by decide) hr) rfl ⟨_, rfl⟩) (show atI (parts.map fr) (dg r s.k 8) = some (fr (drawPart r s.k)) from by
          have : dg r s.k 8 = (((dg r s.k 8).toNat : Nat) : Int) := by omega
          unfold drawPart
          rw [this, Int.toNat_natCast]
          exact atI_nat (by rw [List.getElem?_map, List.getD_eq_getElem?_getD, List.getElem?_eq_getElem d3]; rfl))) (hbn 8 (by decide)) ?_)
      refine sv_cons (s_asg g 9 (ev_call2 g c__law_sub (ev_var g 6) ((ev_tup (ea_cons (ev_sub (ev_sub (ev_var g 3) ev_int) (ev_var g 7)) (ea_cons ev_int ea_nil))).eq (fr_int _)) (sp__law_sub aroom.sz (sz_int (by omega)))) (hbn 9 (by decide)) ?_)
      refine sv_mid (fun δ => δ = [.dat (.lst (r.map .int)), .own [.int ((s.k + 1 : Nat) : Int)], .dat (.int t), .dat (.int n), .dat (.bl full), .own (s.sh.map fr), .dat (fr s.room), .dat (.int i), .dat (fr (if full && decide (drawPart r s.k < s.room - ((n : Int) - 1 - i : Int)) then rmin 1 (s.room - ((n : Int) - 1 - i : Int)) else drawPart r s.k)), .dat (fr (s.room - ((n : Int) - 1 - i : Int)))])
        (s_if (et_w (ew_and (et_val (ev_var g 4)) (fun _ => (ew_a1 (et_val (ev_call2 g c__law_lt (ev_var g 8) (ev_var g 9) (sp__law_lt (aa_sh hp).sz aleft.sz))))))) (fun hc => ?_) (fun hc => ?_)) ?_
      · refine sv_one (s_asg g 8 (ev_call2 g c__law_lesser ((ev_tup (ea_cons ev_int (ea_cons ev_int ea_nil))).eq fr_one) (ev_var g 9) (sp__law_lesser s1 aleft.sz)) (hbn 8 (by decide)) ?_)
        show _ = _
        rw [if_pos hc]; rfl
      · refine sv_nil ?_
        show _ = _
        rw [if_neg (by rw [hc]; exact Bool.false_ne_true)]; rfl
      · rintro δ' rfl
        have aq : Sz (if full && decide (drawPart r s.k < s.room - ((n : Int) - 1 - i : Int)) then rmin 1 (s.room - ((n : Int) - 1 - i : Int)) else drawPart r s.k) := by
          split
          · exact sz_rmin s1 aleft.sz
          · exact (aa_sh hp).sz
        refine sv_cons (s_asg g 8 (ev_call2 g c__law_lesser (ev_var g 8) (ev_var g 6) (sp__law_lesser aq aroom.sz)) (hbn 8 (by decide)) ?_)
        refine sv_cons (s_app g 5 (ev_var g 8) ?_ ?_ ⟨_, rfl⟩)
        · rw [List.length_map, I.len]; omega
        refine sv_one (s_asg g 6 (ev_call2 g c__law_sub (ev_var g 6) (ev_var g 8) (sp__law_sub aroom.sz (sz_rmin aq aroom.sz))) (hbn 6 (by decide)) ⟨.dat (.int i), .dat (fr (cutPart full (drawPart r s.k) (s.room - ((n : Int) - 1 - i : Int)) s.room)), .dat (fr (s.room - ((n : Int) - 1 - i : Int))), ?_⟩)
        have er : (dstep r n full s i).sh.map fr = s.sh.map fr ++ [fr (cutPart full (drawPart r s.k) (s.room - ((n : Int) - 1 - i : Int)) s.room)] := by unfold dstep; rw [List.map_append]; rfl
        rw [er]; rfl
    · rintro δ' ⟨s7, s8, s9, rfl⟩
      have hK := (draw_inv (r := r) (k := k) ht n full n).2
      rw [rangeD_len, Int.toNat_natCast, hK]
      refine sv_one (s_retM g 5 (hbn 5 (by decide)) ⟨rfl, fun i hi => ?_⟩)
      have hi' : i ∈ ([1] : List Nat) := hi
      rw [List.mem_singleton] at hi'
      subst hi'
      rfl
end

end LW

namespace LW
open PySem L2 DL
/-! ### what the law spoils -/
def DD2 : Nat := DDs * DDt * 2
/-- a row of the law's own filling -/
def RwIn (r : Rw) : Prop := (Gr DD2 r.a ∧ -1000 ≤ r.a ∧ r.a ≤ 1000) ∧ (Gr DD2 r.b ∧ -1000 ≤ r.b ∧ r.b ≤ 1000)
theorem gr2_dd {x : Rat} (h : Gr DD2 x) : Gr DD x := h.up (by rw [dd_eq]; exact ⟨6, by unfold DD2; omega⟩)
theorem aa2 {x : Rat} (h : Gr DD2 x ∧ -1000 ≤ x ∧ x ≤ 1000) : Aa x := aa_of (gr2_dd h.1) (by have := h.2; grind) (by have := h.2; grind)
theorem RwIn.ok {r : Rw} (h : RwIn r) : RwOk r := ⟨aa2 h.1, aa2 h.2⟩
def changesF (one : Rw) (t n : Int) : List Rw :=
  [⟨t, one.p, one.a, one.b⟩, ⟨one.c, n, one.a, one.b⟩, ⟨one.c, one.p, one.a, one.a⟩, ⟨one.c, one.p, one.b, one.a⟩, ⟨one.c, one.p, one.a - 1 / 2, one.b⟩, ⟨one.c, one.p, one.a, one.b + 1 / 3⟩, ⟨one.c, one.p, one.a, 1 / 2 * (one.a + one.b)⟩, ⟨(one.c + 1) % t, one.p, one.a, one.b⟩, ⟨one.c, (one.p + 1) % n, one.a, one.b⟩, ⟨-1, one.p, one.a, one.b⟩, ⟨one.c, -1, one.a, one.b⟩]
theorem changes_ok {one : Rw} (h : RwIn one) (t n : Int) : ∀ r ∈ changesF one t n, RwOk r := by
  have A := aa2 h.1
  have B := aa2 h.2
  have h1 := h.1.2; have h2 := h.2.2
  have e1 : Aa (one.a - 1 / 2) := aa_of ((gr2_dd h.1.1).sub (show Gr DD (1 / 2 : Rat) from ⟨(DD / 2 : Nat), by decide +kernel⟩)) (by grind) (by grind)
  have e2 : Aa (one.b + 1 / 3) := aa_of ((gr2_dd h.2.1).add (show Gr DD (1 / 3 : Rat) from ⟨(DD / 3 : Nat), by decide +kernel⟩)) (by grind) (by grind)
  have g2 : Gr 2 (1 / 2 : Rat) := ⟨1, by decide +kernel⟩
  have e3 : Aa (1 / 2 * (one.a + one.b)) := aa_of ((g2.mul (h.1.1.add h.2.1)).up (by rw [dd_eq]; exact ⟨3, by unfold DD2; omega⟩)) (by grind) (by grind)
  intro r hr
  unfold changesF at hr
  simp only [List.mem_cons, List.not_mem_nil, or_false] at hr
  rcases hr with rfl | rfl | rfl | rfl | rfl | rfl | rfl | rfl | rfl | rfl | rfl <;> first | exact ⟨A, B⟩ | exact ⟨A, A⟩ | exact ⟨B, A⟩ | exact ⟨e1, B⟩ | exact ⟨A, e2⟩ | exact ⟨A, e3⟩
def spoilF (rows : List Rw) (pick : Int) (place : Int) (S U : Rat) (t n : Int) : List Rw :=
  match rows with
  | [] => [⟨0, 0, S, U⟩]
  | r0 :: rs =>
    let at_ := (place % (r0 :: rs).length).toNat
    let one := (r0 :: rs).getD at_ r0
    if pick < 11 then (r0 :: rs).set at_ ((changesF one t n).getD pick.toNat one)
    else if pick = 11 then (r0 :: rs).take at_ ++ (r0 :: rs).drop (at_ + 1)
    else if pick = 12 then (r0 :: rs) ++ [one]
    else ((r0 :: rs).set at_ ((r0 :: rs).getD (if at_ = 0 then rs.length else at_ - 1) r0)).set (if at_ = 0 then rs.length else at_ - 1) one
theorem spoil_ok {rows : List Rw} {pick place : Int} {S U : Rat} {t n : Int} (hr : ∀ r ∈ rows, RwIn r) (hl : rows.length ≤ 900) (hS : Aa S) (hU : Aa U) (hp : 0 ≤ pick) : RwsOk (spoilF rows pick place S U t n) := by
  cases rows with
  | nil => exact ⟨fun r h => by rw [show r = ⟨0, 0, S, U⟩ from List.mem_singleton.mp h]; exact ⟨hS, hU⟩, by show 1 ≤ 1000; decide⟩
  | cons r0 rs =>
    have hat : (place % (r0 :: rs).length).toNat < (r0 :: rs).length := by
      have h1 := Int.emod_nonneg place (show ((r0 :: rs).length : Int) ≠ 0 by rw [List.length_cons]; omega)
      have h2 := Int.emod_lt_of_pos place (show 0 < ((r0 :: rs).length : Int) by rw [List.length_cons]; omega)
      omega
    have hone : (r0 :: rs).getD (place % (r0 :: rs).length).toNat r0 ∈ (r0 :: rs) := by
      rw [List.getD_eq_getElem?_getD, List.getElem?_eq_getElem hat]; exact List.getElem_mem hat
    have hgd : ∀ q, (r0 :: rs).getD q r0 ∈ (r0 :: rs) := fun q => by
      rw [List.getD_eq_getElem?_getD]
      by_cases h : q < (r0 :: rs).length
      · rw [List.getElem?_eq_getElem h]; exact List.getElem_mem h
      · rw [List.getElem?_eq_none (by omega)]; exact List.mem_cons_self ..
    unfold spoilF
    simp only []
    split
    · refine ⟨fun r h => ?_, by rw [List.length_set]; omega⟩
      rcases List.mem_or_eq_of_mem_set h with h | h
      · exact (hr r h).ok
      · rw [h, List.getD_eq_getElem?_getD]
        by_cases hq : pick.toNat < (changesF ((r0 :: rs).getD (place % (r0 :: rs).length).toNat r0) t n).length
        · rw [List.getElem?_eq_getElem hq]
          exact changes_ok (hr _ hone) t n _ (List.getElem_mem hq)
        · rw [List.getElem?_eq_none (by omega)]
          exact (hr _ hone).ok
    · split
      · refine ⟨fun r h => ?_, ?_⟩
        · rcases List.mem_append.mp h with h | h
          · exact (hr r (List.mem_of_mem_take h)).ok
          · exact (hr r (List.mem_of_mem_drop h)).ok
        · rw [List.length_append, List.length_take, List.length_drop]; omega
      · split
        · refine ⟨fun r h => ?_, ?_⟩
          · rcases List.mem_append.mp h with h | h
            · exact (hr r h).ok
            · rw [List.mem_singleton.mp h]; exact (hr _ hone).ok
          · rw [List.length_append]; show _ + 1 ≤ _; omega
        · refine ⟨fun r h => ?_, by rw [List.length_set, List.length_set]; omega⟩
          rcases List.mem_or_eq_of_mem_set h with h | h
          · rcases List.mem_or_eq_of_mem_set h with h | h
            · exact (hr r h).ok
            · rw [h]; exact (hr _ (hgd _)).ok
          · rw [h]; exact (hr _ hone).ok
def Sp_spoilt : PSpec := fun as res => ∃ rows pick place S U t n, as = [.dat (.lst (rows.map Rw.d)), .dat (.int pick), .dat (.int place), .dat (fr S), .dat (fr U), .dat (.int t), .dat (.int n)] ∧ (∀ r ∈ rows, RwIn r) ∧ rows.length ≤ 900 ∧ 0 ≤ pick ∧ pick < 14 ∧ 0 < t ∧ 0 < n ∧ res = .ret (.own ((spoilF rows pick place S U t n).map Rw.d)) []
theorem sp__law_spoilt {rows : List Rw} {pick place : Int} {S U : Rat} {t n : Int} (h1 : ∀ r ∈ rows, RwIn r) (h2 : rows.length ≤ 900) (h3 : 0 ≤ pick) (h4 : pick < 14) (h5 : 0 < t) (h6 : 0 < n) : Sp_spoilt [.dat (.lst (rows.map Rw.d)), .dat (.int pick), .dat (.int place), .dat (fr S), .dat (fr U), .dat (.int t), .dat (.int n)] (.ret (.own ((spoilF rows pick place S U t n).map Rw.d)) []) := ⟨rows, pick, place, S, U, t, n, rfl, h1, h2, h3, h4, h5, h6, rfl⟩
theorem fr_third : D.tup [.int 1, .int 3] = fr (1 / 3 : Rat) := fr_lit (by decide +kernel)
theorem aa_half : Aa (1 / 2 : Rat) := aa_of ⟨(DD / 2 : Nat), by decide +kernel⟩ (by decide +kernel) (by decide +kernel)
theorem aa_third : Aa (1 / 3 : Rat) := aa_of ⟨(DD / 3 : Nat), by decide +kernel⟩ (by decide +kernel) (by decide +kernel)
section
variable {M : Md} (T : Bn M) {f : Addr} {fd : FuncData}
include T
theorem ok__law_spoilt (c__law_add : Fn M CX0 "_law_add" 2 Sp_plus) (c__law_sub : Fn M CX0 "_law_sub" 2 Sp_minus) (c__law_mul : Fn M CX0 "_law_mul" 2 Sp_times)
    (F : Fun M.K "_law_spoilt" "_law_spoilt" s__law_spoilt f fd) : FnOk M.P M.w M.K M.mg M.base CX0 3 f fd ["rows", "pick", "place", "start", "stop", "tables", "count"] (spOf M.K Sp_spoilt) := by
  refine fn_ok F sc__law_spoilt ?_ ?_ ?_
  · rintro as res ⟨_, _, _, _, _, _, _, rfl, _⟩; rfl
  · rintro as C ns ds os ⟨_, _, _, _, _, _, _, _, _, _, _, _, _, _, h⟩; cases h
  · rintro X W G as res g ⟨rows, pick, place, S, U, t, n, rfl, hr, hl, hp0, hp1, ht, hn, rfl⟩ hbi
    have hbn := nob hbi rfl
    refine sv_cons (s_asgLcM1 g 7 8 (rows.map Rw.d) hbn ?_ (ei_list (ev_var g 0)) rfl (by rw [List.length_map]; omega) ?_)
    · refine sv_cons (s_if (et_eqI (ev_lenO g T.len 7) ev_int) (fun hc => ?_) (fun hc => sv_nil ?_))
      · have h0 : rows = [] := by
          have hc' := of_decide_eq_true hc
          rw [List.length_map] at hc'
          exact List.eq_nil_of_length_eq_zero (by omega)
        subst h0
        exact sv_one (s_ret (ev_lst (ea_cons (ev_tup (ea_cons ev_int (ea_cons ev_int (ea_cons (ev_var g 3) (ea_cons (ev_var g 4) ea_nil))))) ea_nil)) (endD rfl))
      · have hc' := of_decide_eq_false hc
        rw [List.length_map] at hc'
        cases rows with
        | nil => exact absurd rfl hc'
        | cons r0 rs =>
          have hlen : ((r0 :: rs).map Rw.d).length = (r0 :: rs).length := List.length_map ..
          have hpos : 0 < ((r0 :: rs).length : Int) := by rw [List.length_cons]; omega
          have a0 := Int.emod_nonneg place (show ((r0 :: rs).length : Int) ≠ 0 by omega)
          have a1 := Int.emod_lt_of_pos place hpos
          have ea : place % ((r0 :: rs).length : Int) = (((place % ((r0 :: rs).length : Int)).toNat : Nat) : Int) := by omega
          have hat : (place % ((r0 :: rs).length : Int)).toNat < (r0 :: rs).length := by omega
          have hone : (r0 :: rs).getD (place % ((r0 :: rs).length : Int)).toNat r0 ∈ (r0 :: rs) := by
            rw [List.getD_eq_getElem?_getD, List.getElem?_eq_getElem hat]; exact List.getElem_mem hat
          have gone : ((r0 :: rs).map Rw.d)[(place % ((r0 :: rs).length : Int)).toNat]? = some (Rw.d ((r0 :: rs).getD (place % ((r0 :: rs).length : Int)).toNat r0)) := by
            rw [List.getElem?_map, List.getD_eq_getElem?_getD, List.getElem?_eq_getElem hat]; rfl
          have hspo : spoilF (r0 :: rs) pick place S U t n = (if pick < 11 then (r0 :: rs).set (place % ((r0 :: rs).length : Int)).toNat ((changesF ((r0 :: rs).getD (place % ((r0 :: rs).length : Int)).toNat r0) t n).getD pick.toNat ((r0 :: rs).getD (place % ((r0 :: rs).length : Int)).toNat r0))
            else if pick = 11 then (r0 :: rs).take (place % ((r0 :: rs).length : Int)).toNat ++ (r0 :: rs).drop ((place % ((r0 :: rs).length : Int)).toNat + 1)
            else if pick = 12 then (r0 :: rs) ++ [(r0 :: rs).getD (place % ((r0 :: rs).length : Int)).toNat r0]
            else ((r0 :: rs).set (place % ((r0 :: rs).length : Int)).toNat ((r0 :: rs).getD (if (place % ((r0 :: rs).length : Int)).toNat = 0 then rs.length else (place % ((r0 :: rs).length : Int)).toNat - 1) r0)).set (if (place % ((r0 :: rs).length : Int)).toNat = 0 then rs.length else (place % ((r0 :: rs).length : Int)).toNat - 1) ((r0 :: rs).getD (place % ((r0 :: rs).length : Int)).toNat r0)) := rfl
          rw [hspo]
          have hrl : (r0 :: rs).length = rs.length + 1 := rfl
          refine sv_cons (s_asg g 9 ((ev_mod (ev_toInt g T.int (ev_var g 2)) (ev_lenO g T.len 7) (by rw [hlen]; exact hpos)).eq (show D.int (place % (((r0 :: rs).map Rw.d).length : Int)) = D.int (((place % ((r0 :: rs).length : Int)).toNat : Nat) : Int) by rw [hlen, ← ea])) (hbn 9) ?_)
          generalize hA : (place % ((r0 :: rs).length : Int)).toNat = at_ at *
          refine sv_cons (s_asg g 8 (ev_ixO g 7 (ev_var g 9) (atI_nat gone) ⟨_, rfl⟩) (hbn 8) ?_)
          have hin := hr _ hone
          generalize hO : (r0 :: rs).getD at_ r0 = one at *
          have A := aa2 hin.1
          have B := aa2 hin.2
          refine sv_cons (s_asg g 10 (ev_call2 g c__law_mul ((ev_tup (ea_cons ev_int (ea_cons ev_int ea_nil))).eq fr_half) (ev_call2 g c__law_add (ev_ixT (ev_var g 8) ev_int rfl) (ev_ixT (ev_var g 8) ev_int rfl) (sp__law_add A.sz B.sz)) (sp__law_mul sz_half (A.add B))) (hbn 10) ?_)
          refine sv_cons (s_asgM g 11 (ev_lst (ea_cons (ev_tup (ea_cons (ev_var g 5) (ea_cons (ev_ixT (ev_var g 8) ev_int rfl) (ea_cons (ev_ixT (ev_var g 8) ev_int rfl) (ea_cons (ev_ixT (ev_var g 8) ev_int rfl) ea_nil))))) (ea_cons (ev_tup (ea_cons (ev_ixT (ev_var g 8) ev_int rfl) (ea_cons (ev_var g 6) (ea_cons (ev_ixT (ev_var g 8) ev_int rfl) (ea_cons (ev_ixT (ev_var g 8) ev_int rfl) ea_nil))))) (ea_cons (ev_tup (ea_cons (ev_ixT (ev_var g 8) ev_int rfl) (ea_cons (ev_ixT (ev_var g 8) ev_int rfl) (ea_cons (ev_ixT (ev_var g 8) ev_int rfl) (ea_cons (ev_ixT (ev_var g 8) ev_int rfl) ea_nil))))) (ea_cons (ev_tup (ea_cons (ev_ixT (ev_var g 8) ev_int rfl) (ea_cons (ev_ixT (ev_var g 8) ev_int rfl) (ea_cons (ev_ixT (ev_var g 8) ev_int rfl) (ea_cons (ev_ixT (ev_var g 8) ev_int rfl) ea_nil))))) (ea_cons (ev_tup (ea_cons (ev_ixT (ev_var g 8) ev_int rfl) (ea_cons (ev_ixT (ev_var g 8) ev_int rfl) (ea_cons (ev_call2 g c__law_sub (ev_ixT (ev_var g 8) ev_int rfl) ((ev_tup (ea_cons ev_int (ea_cons ev_int ea_nil))).eq fr_half) (sp__law_sub A.sz aa_half.sz)) (ea_cons (ev_ixT (ev_var g 8) ev_int rfl) ea_nil))))) (ea_cons (ev_tup (ea_cons (ev_ixT (ev_var g 8) ev_int rfl) (ea_cons (ev_ixT (ev_var g 8) ev_int rfl) (ea_cons (ev_ixT (ev_var g 8) ev_int rfl) (ea_cons (ev_call2 g c__law_add (ev_ixT (ev_var g 8) ev_int rfl) ((ev_tup (ea_cons ev_int (ea_cons ev_int ea_nil))).eq fr_third) (sp__law_add B.sz aa_third.sz)) ea_nil))))) (ea_cons (ev_tup (ea_cons (ev_ixT (ev_var g 8) ev_int rfl) (ea_cons (ev_ixT (ev_var g 8) ev_int rfl) (ea_cons (ev_ixT (ev_var g 8) ev_int rfl) (ea_cons (ev_var g 10) ea_nil))))) (ea_cons (ev_tup (ea_cons (ev_mod (ev_toInt g T.int (ev_add (ev_ixT (ev_var g 8) ev_int rfl) ev_int)) (ev_var g 5) ht) (ea_cons (ev_ixT (ev_var g 8) ev_int rfl) (ea_cons (ev_ixT (ev_var g 8) ev_int rfl) (ea_cons (ev_ixT (ev_var g 8) ev_int rfl) ea_nil))))) (ea_cons (ev_tup (ea_cons (ev_ixT (ev_var g 8) ev_int rfl) (ea_cons (ev_mod (ev_toInt g T.int (ev_add (ev_ixT (ev_var g 8) ev_int rfl) ev_int)) (ev_var g 6) hn) (ea_cons (ev_ixT (ev_var g 8) ev_int rfl) (ea_cons (ev_ixT (ev_var g 8) ev_int rfl) ea_nil))))) (ea_cons (ev_tup (ea_cons (ev_neg ev_int) (ea_cons (ev_ixT (ev_var g 8) ev_int rfl) (ea_cons (ev_ixT (ev_var g 8) ev_int rfl) (ea_cons (ev_ixT (ev_var g 8) ev_int rfl) ea_nil))))) (ea_cons (ev_tup (ea_cons (ev_ixT (ev_var g 8) ev_int rfl) (ea_cons (ev_neg ev_int) (ea_cons (ev_ixT (ev_var g 8) ev_int rfl) (ea_cons (ev_ixT (ev_var g 8) ev_int rfl) ea_nil))))) ea_nil)))))))))))) (hbn 11) ?_)
          have ex : ixN ((r0 :: rs).map Rw.d).length (at_ : Int) = some at_ := by rw [hlen]; unfold ixN; rw [if_pos (by omega), if_pos (by omega)]; simp
          have fin : ∀ (δ : List DL.Slot) (out : List Rw), (∃ s8 s9 s10 s11, δ = [.dat (.lst ((r0 :: rs).map Rw.d)), .dat (.int pick), .dat (.int place), .dat (fr S), .dat (fr U), .dat (.int t), .dat (.int n), .own (out.map Rw.d), s8, s9, s10, s11]) → SV X W G [List.getLast (defBody s__law_spoilt) (by decide)] δ (Ends0 [.dat (.lst ((r0 :: rs).map Rw.d)), .dat (.int pick), .dat (.int place), .dat (fr S), .dat (fr U), .dat (.int t), .dat (.int n)] (.ret (.own (out.map Rw.d)) [])) := by
            rintro δ out ⟨s8, s9, s10, s11, rfl⟩
            exact sv_one (s_retM g 7 (hbn 7) (endD rfl))
          refine sv_cons (s_if (et_lt (ev_var g 1) ev_int) (fun hc => ?_) (fun hc => ?_))
          · have hp := of_decide_eq_true hc
            have hpl : pick.toNat < (changesF one t n).length := by show _ < 11; omega
            have ep : pick = ((pick.toNat : Nat) : Int) := by omega
            rw [if_pos hp]
            refine sv_one (s_setI g 7 (d := Rw.d ((changesF one t n).getD pick.toNat one)) (n := at_) (δ1 := [.dat (.lst ((r0 :: rs).map Rw.d)), .dat (.int pick), .dat (.int place), .dat (fr S), .dat (fr U), .dat (.int t), .dat (.int n), .own ((r0 :: rs).map Rw.d), .dat (Rw.d one), .dat (.int at_), .dat (fr (1 / 2 * (one.a + one.b))), .own ((changesF one t n).map Rw.d)]) (ev_ixO g 11 (ev_var g 1) (show atI ((changesF one t n).map Rw.d) pick = some (Rw.d ((changesF one t n).getD pick.toNat one)) from by
              rw [ep, Int.toNat_natCast]
              exact atI_nat (by rw [List.getElem?_map, List.getD_eq_getElem?_getD, List.getElem?_eq_getElem hpl]; rfl)) ⟨_, rfl⟩) (ev_var g 9) ex ?_ ⟨_, rfl⟩)
            exact fin _ _ ⟨_, _, _, _, by rw [List.map_set]; rfl⟩
          · have hp := of_decide_eq_false hc
            rw [if_neg hp]
            refine sv_one (s_if (et_eqI (ev_var g 1) ev_int) (fun hc => ?_) (fun hc => ?_))
            · have hp := of_decide_eq_true hc
              rw [if_pos hp]
              refine sv_one (s_asgM g 7 (ev_cat ((EV.ls (ev_slL (ev_lst_of g 7 (hbn 7)) eo_none (eo_some (ev_var g 9)))).eq (show D.lst (cutD ((r0 :: rs).map Rw.d) none (some (at_ : Int))) = D.lst (((r0 :: rs).take at_).map Rw.d) by rw [cutD_to, List.map_take])) ((EV.ls (ev_slL (ev_var g 7) (eo_some (ev_add (ev_var g 9) ev_int)) eo_none)).eq (show D.lst (cutD ((r0 :: rs).map Rw.d) (some ((at_ + 1 : Nat) : Int)) none) = D.lst (((r0 :: rs).drop (at_ + 1)).map Rw.d) by rw [cutD_from, List.map_drop])) (by rw [List.length_map, List.length_map, List.length_take, List.length_drop]; omega)) (hbn 7) ?_)
              exact fin _ _ ⟨_, _, _, _, by rw [List.map_append]; rfl⟩
            · have hp := of_decide_eq_false hc
              rw [if_neg hp]
              refine sv_one (s_if (et_eqI (ev_var g 1) ev_int) (fun hc => ?_) (fun hc => ?_))
              · have hp := of_decide_eq_true hc
                rw [if_pos hp]
                refine sv_one (s_asgM g 7 (ev_cat (ev_lst_of g 7 (hbn 7)) (EV.ls (ev_lst (ea_cons (ev_var g 8) ea_nil))) (by rw [hlen]; show _ + 1 ≤ _; omega)) (hbn 7) ?_)
                exact fin _ _ ⟨_, _, _, _, by rw [List.map_append]; rfl⟩
              · have hp := of_decide_eq_false hc
                rw [if_neg hp]
                have hpm : (if at_ = 0 then rs.length else at_ - 1) < (r0 :: rs).length := by split <;> omega
                have exm : ∀ L : Nat, L = (r0 :: rs).length → ixN L ((at_ : Int) - 1) = some (if at_ = 0 then rs.length else at_ - 1) := fun L hL => by
                  subst hL
                  unfold ixN
                  by_cases h0 : at_ = 0
                  · rw [if_neg (by omega), if_pos (by omega), if_pos h0]; congr 1; omega
                  · rw [if_pos (by omega), if_pos (by omega), if_neg h0]; congr 1; omega
                have gat : atI ((r0 :: rs).map Rw.d) ((at_ : Int) - 1) = some (Rw.d ((r0 :: rs).getD (if at_ = 0 then rs.length else at_ - 1) r0)) := by
                  unfold atI
                  rw [exm _ hlen]
                  show ((r0 :: rs).map Rw.d)[_]? = _
                  rw [List.getElem?_map, List.getD_eq_getElem?_getD, List.getElem?_eq_getElem hpm]; rfl
                refine sv_cons (s_setI g 7 (ev_ixO g 7 (ev_sub (ev_var g 9) ev_int) gat ⟨_, rfl⟩) (ev_var g 9) ex ?_ ⟨_, rfl⟩)
                have exm2 : ixN (((r0 :: rs).map Rw.d).set at_ (Rw.d ((r0 :: rs).getD (if at_ = 0 then rs.length else at_ - 1) r0))).length ((at_ : Int) - 1) = some (if at_ = 0 then rs.length else at_ - 1) := exm _ (by rw [List.length_set]; exact hlen)
                refine sv_one (s_setI g 7 (ev_var g 8) (ev_sub (ev_var g 9) ev_int) exm2 ?_ ⟨_, rfl⟩)
                exact fin _ _ ⟨_, _, _, _, by rw [List.map_set, List.map_set]; rfl⟩
    · intro i d hd
      exact ⟨d, hd, fun Y G2 gy hG => ev_var gy 8⟩
end

end LW

namespace LW
open PySem L2 DL
theorem seatD_lst (rows : List Rw) : SeatD (.lst (rows.map Rw.d)) rows := ⟨rows.map Rw.d, .inl rfl, List.length_map .., fun i e he => by
  obtain ⟨r, h, rfl⟩ := map_get he
  exact ⟨r, h, .inr rfl⟩⟩
theorem seatD_tup (rows : List Rw) : SeatD (.tup (rows.map Rw.d)) rows := ⟨rows.map Rw.d, .inr rfl, List.length_map .., fun i e he => by
  obtain ⟨r, h, rfl⟩ := map_get he
  exact ⟨r, h, .inr rfl⟩⟩
theorem seatD_ll (rows : List Rw) : SeatD (.lst (rows.map Rw.l)) rows := ⟨rows.map Rw.l, .inl rfl, List.length_map .., fun i e he => by
  obtain ⟨r, h, rfl⟩ := map_get he
  exact ⟨r, h, .inl rfl⟩⟩
theorem stD1 (S U : Rat) (sh : List Rat) : StD (.tup [fr S, fr U, .lst (sh.map fr)]) S U sh := ⟨_, .inl rfl, .inl rfl⟩
theorem stD2 (S U : Rat) (sh : List Rat) : StD (.lst [fr S, fr U, .tup (sh.map fr)]) S U sh := ⟨_, .inr rfl, .inr rfl⟩
theorem rows_ok (rows : List Rw) : (D.tup (rows.map Rw.d)).ok := by
  refine D.ok_pu (pus_of fun d hd => ?_) ?_
  · obtain ⟨r, _, rfl⟩ := List.mem_map.mp hd
    rfl
  · show D.deps _ + 1 ≤ 64
    have : D.deps (rows.map Rw.d) ≤ 2 := deps_le fun d hd => by
      obtain ⟨r, _, rfl⟩ := List.mem_map.mp hd
      show max 0 (max 0 (max (max 0 (max 0 0) + 1) (max (max 0 (max 0 0) + 1) 0))) + 1 ≤ 2
      decide
    omega
theorem frs_ok (sh : List Rat) : (D.tup (sh.map fr)).ok := by
  refine D.ok_pu (pus_of fun d hd => ?_) ?_
  · obtain ⟨r, _, rfl⟩ := List.mem_map.mp hd
    rfl
  · show D.deps _ + 1 ≤ 64
    have : D.deps (sh.map fr) ≤ 1 := deps_le fun d hd => by
      obtain ⟨r, _, rfl⟩ := List.mem_map.mp hd
      exact fr_dep r
    omega
theorem rows_pu (rows : List Rw) : (D.tup (rows.map Rw.d)).pu = true := pus_of fun d hd => by
  obtain ⟨r, _, rfl⟩ := List.mem_map.mp hd
  rfl
theorem frs_pu (sh : List Rat) : (D.tup (sh.map fr)).pu = true := pus_of fun d hd => by
  obtain ⟨r, _, rfl⟩ := List.mem_map.mp hd
  rfl
def Sp_right : PSpec := fun as res => ∃ S U sh t, as = [.dat (fr S), .dat (fr U), .dat (.lst (sh.map fr)), .dat (.int t)] ∧ FG S U sh ∧ t.natAbs ≤ 1000 ∧ goodB sh t = true ∧ res = .ret (.dat (.bl true)) []
theorem sp__law_right {S U : Rat} {sh : List Rat} {t : Int} (h1 : FG S U sh) (h2 : t.natAbs ≤ 1000) (h3 : goodB sh t = true) : Sp_right [.dat (fr S), .dat (fr U), .dat (.lst (sh.map fr)), .dat (.int t)] (.ret (.dat (.bl true)) []) := ⟨S, U, sh, t, rfl, h1, h2, h3, rfl⟩
theorem yes_iff {p : Prop} (h : p) : true = true ↔ p := ⟨fun _ => h, fun _ => rfl⟩
section
variable {M : Md} (T : Bn M) {f : Addr} {fd : FuncData} {CB : Addr}
include T
theorem ok__law_right (c_seats : Fn M (L2.CX M.P M.w) "seats" 5 (Sp_seats CB)) (c_is_seating : Fn M CX0 "is_seating" 5 Sp_seating) (c__law_filled : Fn M CX0 "_law_filled" 3 Sp_filled) (c__law_kinds : Fn M CX0 "_law_kinds" 3 Sp_kinds) (c__law_seated : Fn M CX0 "_law_seated" 4 Sp_seated)
    (F : Fun M.K "_law_right" "_law_right" s__law_right f fd) : FnOk M.P M.w M.K M.mg M.base CX0 6 f fd ["start", "stop", "shares", "tables"] (spOf M.K Sp_right) := by
  refine fn_ok F sc__law_right ?_ ?_ ?_
  · rintro as res ⟨_, _, _, _, rfl, _⟩; rfl
  · rintro as C ns ds os ⟨_, _, _, _, _, _, _, _, h⟩; cases h
  · rintro X W G as res g ⟨S, U, sh, t, rfl, hG, ht, hgood, rfl⟩ hbi
    have hbn := nob hbi rfl
    obtain ⟨H, hsum⟩ := hG.fh hgood
    have hsl := hG.sl
    have hos : ∀ p ∈ List.range sh.length, p < sh.length := fun p h => List.mem_range.mp h
    have hrw : RwsOk (seatsF S U sh) := fill_rows H hos (by rw [List.length_range]; exact hsl)
    have hse : Seated S U sh t (seatsF S U sh) := fill_seated H (List.Perm.refl _) hsum
    refine sv_cons (s_asgLcM1 g 4 5 (sh.map fr) hbn ?_ (ei_list (ev_var g 2)) rfl (by rw [List.length_map]; omega) ?_)
    · refine sv_cons (s_asg g 6 (ev_call2 g c_seats (ev_tup (ea_cons (ev_var g 0) (ea_cons (ev_var g 1) (ea_cons (ev_lst_of g 4 (hbn 4)) ea_nil)))) (ev_var g 3) (sp_seats (stD1 S U sh) hG ht hgood)) (hbn 6) ?_)
      refine sv_cons (s_asgM g 7 (ev_call5 g c__law_filled (ev_var g 0) (ev_var g 1) (ev_var g 2) (EV.ls (ev_lcM1 g 8 ((List.range sh.length).map fun (p : Nat) => D.int p) (hbn 8) (ei_range1 g T.range (ev_lenL g T.len (ev_var g 2)) (by rw [List.length_map]; omega)) (by rw [rangeD_len, List.length_map, List.length_map, List.length_range, Int.toNat_natCast]) (by rw [rangeD_len, List.length_map, Int.toNat_natCast]; omega) ?_)) ev_bl (sp__law_filled H hos (by rw [List.length_range]; exact hsl))) (hbn 7) ?_)
      · intro i d hd
        obtain ⟨hi, rfl⟩ := rangeD_get hd
        rw [List.length_map, Int.toNat_natCast] at hi
        refine ⟨_, by rw [List.getElem?_map, List.getElem?_range hi]; rfl, fun Y G2 gy hG => (ev_var gy 8).eq (by rw [Int.zero_add])⟩
      · refine sv_freeze 7 (hbn 7) ?_
        refine sv_cons (s_if (et_w (ew_or (et_not (et_val (ev_call1 g c__law_kinds (ev_var g 6) (sp__law_kinds hrw)))) (fun _ => (ew_or (et_neD g (ev_var g 6) (ev_tuple g T.tuple (ev_var g 7)) (rows_ok _) (rows_ok _)) (fun _ => (ew_o1 (et_neD g (ev_tuple g T.tuple (ev_var g 4)) (ev_tuple g T.tuple (ev_var g 2)) (frs_ok _) (frs_ok _)))))))) (fun hc => ?_) (fun hc => sv_nil ?_))
        · have e1 : PyData.eqv (D.tup ((seatsF S U sh).map Rw.d)).py (D.tup ((fillF S U false sh (List.range sh.length)).rows.map Rw.d)).py = true := (eqv_pu _ _ (rows_pu _) (rows_pu _)).mpr rfl
          have e2 : PyData.eqv (D.tup (sh.map fr)).py (D.tup (sh.map fr)).py = true := (eqv_pu _ _ (frs_pu _) (frs_pu _)).mpr rfl
          rw [e1, e2] at hc
          cases hc
        · exact sv_one (s_ret (ev_and (ev_isB (ev_call3 g c_is_seating (EV.ls (ev_lst (ea_cons (ev_var g 0) (ea_cons (ev_var g 1) (ea_cons (ev_tuple g T.tuple (ev_var g 2)) ea_nil))))) (ev_var g 3) (EV.ls (ev_list g T.list (ev_var g 6))) (sp_is_seating (stD2 S U sh) H.aS H.aU H.ok (seatD_lst _) hrw (yes_iff hse))) ev_bl) (fun _ => (ev_b1 (ev_call5 g c__law_seated (ev_var g 0) (ev_var g 1) (ev_var g 2) (ev_var g 3) (ev_var g 7) (sp__law_seated H.aS H.aU H.ok hrw (yes_iff hse)))))) (endD rfl))
    · intro i d hd
      exact ⟨d, hd, fun Y G2 gy hG => ev_var gy 5⟩
end
/-! ### the numbers of the law -/
theorem mk_mul {a : Int} {b : Nat} (hb : 0 < b) : mkRat a b * (b : Rat) = (a : Rat) := by
  have e1 : (b : Rat) = mkRat b 1 := (Rat.mkRat_self (b : Rat)).symm
  have e2 : (a : Rat) = mkRat a 1 := (Rat.mkRat_self (a : Rat)).symm
  rw [e1, e2, Rat.mkRat_mul_mkRat, Rat.mkRat_eq_iff (by omega) (by omega)]
  simp
theorem nonneg_of_mul {y b : Rat} (hb : 0 < b) (h : 0 ≤ y * b) : 0 ≤ y := by
  by_cases hy : 0 ≤ y
  · exact hy
  · have := Rat.mul_pos (show 0 < -y by grind) hb
    grind
theorem mk_gr {a : Int} {b n : Nat} (hb : 0 < b) (h : b ∣ n) : Gr n (mkRat a b) := by
  obtain ⟨c, rfl⟩ := h
  refine ⟨a * c, ?_⟩
  rw [Rat.natCast_mul, Rat.intCast_mul, ← mk_mul hb, Rat.intCast_natCast]
  rw [Rat.mul_assoc]
theorem mk_le {a : Int} {b A : Nat} (hb : 0 < b) (h : a ≤ (A * b : Nat)) : mkRat a b ≤ (A : Rat) := by
  have hb' : (0 : Rat) < (b : Rat) := by have := Rat.natCast_lt_natCast.mpr hb; exact this
  have h1 := mk_mul (a := a) hb
  have h2 : (a : Rat) ≤ (A : Rat) * (b : Rat) := by
    have := Rat.intCast_le_intCast.mpr h
    rw [Rat.intCast_natCast, Rat.natCast_mul] at this
    exact this
  have := nonneg_of_mul (y := (A : Rat) - mkRat a b) hb' (by grind)
  grind
theorem mk_nn {a : Int} {b : Nat} (hb : 0 < b) (h : 0 ≤ a) : 0 ≤ mkRat a b := by
  have h1 := mk_mul (a := a) hb
  have hb' : (0 : Rat) < (b : Rat) := by have := Rat.natCast_lt_natCast.mpr hb; exact this
  exact nonneg_of_mul hb' (by rw [h1]; exact Rat.intCast_nonneg.mpr h)
theorem mk_pos {a : Int} {b : Nat} (hb : 0 < b) (h : 0 < a) : 0 < mkRat a b := by
  have h1 := mk_mul (a := a) hb
  have hb' : (0 : Rat) < (b : Rat) := by have := Rat.natCast_lt_natCast.mpr hb; exact this
  have h3 : (0 : Rat) ≤ (a : Rat) := Rat.intCast_nonneg.mpr (by omega)
  have h0 : 0 ≤ mkRat a b := nonneg_of_mul hb' (by rw [h1]; exact h3)
  have h2 : mkRat a b ≠ 0 := fun e => by
    rw [e] at h1
    have : (a : Rat) = ((0 : Int) : Rat) := by rw [← h1]; show (0 : Rat) * _ = 0; grind
    have := Rat.intCast_inj.mp this
    omega
  grind
/-- another order: so many further -/
def turned (n s : Nat) : List Nat := (List.range n).map fun q => (s + q) % n
theorem turned_perm {n s : Nat} (hn : n ≤ 8) (hs : s < n) : (turned n s).Perm (List.range n) := by
  have h : ∀ n ≤ 8, ∀ s < n, ((turned n s).isPerm (List.range n)) = true := by decide +kernel
  exact List.isPerm_iff.mp (h n hn s hs)
theorem fill_in {S U : Rat} {sh : List Rat} {cut : Bool} (H : FH S U sh) {os : List Nat} (hos : ∀ p ∈ os, p < sh.length) : ∀ r ∈ (fillF S U cut sh os).rows, RwIn r := by
  suffices h : ∀ (os : List Nat) (s : Fs), (∀ p ∈ os, p < sh.length) → Fi S U s → (∀ r ∈ s.rows, RwIn r) → ∀ r ∈ (os.foldl (jobF S U cut sh) s).rows, RwIn r from h os ⟨[], 0, S, 0⟩ hos (Fi.start H) (fun r h => absurd h List.not_mem_nil)
  have stp : ∀ (p : Int) (s : Fs), Fi S U s → (∀ r ∈ s.rows, RwIn r) → ∀ r ∈ (tstep S U cut p s).rows, RwIn r := fun p s F h r hr => by
    by_cases hl : 0 < s.l
    · have e : (tstep S U cut p s).rows = s.rows ++ newRows cut p s.c s.t s.l (rmin (s.t + s.l) U) := by unfold tstep; rw [if_pos hl]
      rw [e] at hr
      rcases List.mem_append.mp hr with q | q
      · exact h r q
      · obtain ⟨a, b, c, d⟩ := F.to H hl
        have t0 := F.t0; have t1 := F.t1; have s0 := H.s0; have u1 := H.u1
        have up : ∀ {x : Rat}, Gr (DDs * DDt) x → Gr DD2 x := fun g => g.up ⟨2, rfl⟩
        have mid : Gr DD2 (1 / 2 * (s.t + rmin (s.t + s.l) U)) := ((show Gr 2 (1 / 2 : Rat) from ⟨1, by decide +kernel⟩).mul (F.gt.add a)).up (by unfold DD2; exact ⟨1, by omega⟩)
        have A : Gr DD2 s.t ∧ -1000 ≤ s.t ∧ s.t ≤ 1000 := ⟨up F.gt, by grind, by grind⟩
        have B : Gr DD2 (rmin (s.t + s.l) U) ∧ -1000 ≤ rmin (s.t + s.l) U ∧ rmin (s.t + s.l) U ≤ 1000 := ⟨up a, by grind, by grind⟩
        have C : Gr DD2 (1 / 2 * (s.t + rmin (s.t + s.l) U)) ∧ -1000 ≤ 1 / 2 * (s.t + rmin (s.t + s.l) U) ∧ 1 / 2 * (s.t + rmin (s.t + s.l) U) ≤ 1000 := ⟨mid, by grind, by grind⟩
        unfold newRows at q
        split at q
        · rcases List.mem_cons.mp q with rfl | q
          · exact ⟨A, C⟩
          · obtain rfl := List.mem_singleton.mp q
            exact ⟨C, B⟩
        · obtain rfl := List.mem_singleton.mp q
          exact ⟨A, B⟩
    · rw [tstep_done hl] at hr; exact h r hr
  have itr : ∀ (p : Int) (s : Fs), Fi S U s → (∀ r ∈ s.rows, RwIn r) → ∀ n, ∀ r ∈ (iterT S U cut p n s).rows, RwIn r := fun p s F h n => by
    induction n with
    | zero => exact h
    | succ n ih => exact stp p _ (F.iter H n) ih
  intro os
  induction os with
  | nil => intro s _ _ h; exact h
  | cons p os ih =>
    intro s hp F h
    have hpp := hp p (List.mem_cons_self ..)
    exact ih (jobF S U cut sh s p) (fun q hq => hp q (List.mem_cons_of_mem _ hq)) ((F.job H hpp).iter H 4) (itr p _ (F.job H hpp) h 4)

end LW

namespace LW
open PySem L2 DL
/-! ### the law -/
theorem dvd420 : ∀ b ≤ 7, 0 < b → b ∣ DDt := by decide
theorem dvd_s : ∀ b ≤ 8, 0 < b → b ∣ DDs := by decide +kernel
theorem stretch_ok {a b c d : Int} (ha : 0 ≤ a ∧ a < 30) (hb : 1 ≤ b ∧ b ≤ 5) (hc : 1 ≤ c ∧ c ≤ 30) (hd : 1 ≤ d ∧ d ≤ 7) :
    Gr DDt (mkRat a b.toNat) ∧ 0 ≤ mkRat a b.toNat ∧ mkRat a b.toNat ≤ 30 ∧ Gr DDt (mkRat c d.toNat) ∧ 0 < mkRat c d.toNat ∧ mkRat c d.toNat ≤ 30 := by
  have hb' : 0 < b.toNat := by omega
  have hd' : 0 < d.toNat := by omega
  have l1 : mkRat a b.toNat ≤ ((30 : Nat) : Rat) := mk_le hb' (by rw [Int.natCast_mul, Int.toNat_of_nonneg (by omega)]; omega)
  have l2 : mkRat c d.toNat ≤ ((30 : Nat) : Rat) := mk_le hd' (by rw [Int.natCast_mul, Int.toNat_of_nonneg (by omega)]; omega)
  exact ⟨mk_gr hb' (dvd420 _ (by omega) hb'), mk_nn hb' ha.1, l1, mk_gr hd' (dvd420 _ (by omega) hd'), mk_pos hd' (by omega), l2⟩
theorem good_of {sh : List Rat} {t : Int} (h : ∀ x ∈ sh, 0 ≤ x ∧ x ≤ 1) (hs : rsum sh ≤ (t : Rat)) : goodB sh t = true := by
  unfold goodB
  rw [Bool.and_eq_true, List.all_eq_true]
  refine ⟨fun x hx => by rw [Bool.and_eq_true]; exact ⟨decide_eq_true (h x hx).1, decide_eq_true (h x hx).2⟩, ?_⟩
  rw [Bool.not_eq_true', decide_eq_false_iff_not]
  grind
theorem bad_one {sh : List Rat} {t : Int} {x : Rat} (hx : x ∈ sh) (h : ¬ (0 ≤ x ∧ x ≤ 1)) : goodB sh t = false := by
  unfold goodB
  have : sh.all (fun x => decide (0 ≤ x) && decide (x ≤ 1)) = false := by
    rw [List.all_eq_false]
    exact ⟨x, hx, by simpa using h⟩
  rw [this]; rfl
theorem bad_sum {sh : List Rat} {t : Int} (h : (t : Rat) < rsum sh) : goodB sh t = false := by
  unfold goodB
  rw [decide_eq_true h]; simp
theorem rsum_rep (x : Rat) : ∀ n : Nat, rsum (List.replicate n x) = (n : Rat) * x
  | 0 => by show rsum [] = ((0 : Nat) : Rat) * x; rw [rsum_nil]; have : ((0 : Nat) : Rat) = 0 := rfl; grind
  | n + 1 => by
    rw [List.replicate_succ, rsum_cons, rsum_rep x n, Rat.natCast_add]
    have : ((1 : Nat) : Rat) = 1 := rfl
    grind
def evenF (t : Int) (n : Nat) : Rat := rmin 1 (mkRat t ((n : Int)).toNat)
theorem even_ok {t : Int} {n : Nat} (ht : 1 ≤ t) (hn : 1 ≤ n) (hn8 : n ≤ 8) : Gr DDs (evenF t n) ∧ 0 ≤ evenF t n ∧ evenF t n ≤ 1 ∧ rsum (List.replicate n (evenF t n)) ≤ (t : Rat) := by
  have hp : 0 < ((n : Int)).toNat := by omega
  have e : ((n : Int)).toNat = n := Int.toNat_natCast n
  obtain ⟨a, b, c⟩ := rmin_le 1 (mkRat t ((n : Int)).toNat)
  have h1 := mk_mul (a := t) hp
  have h2 := mk_nn (a := t) hp (by omega)
  have g : Gr DDs (mkRat t ((n : Int)).toNat) := mk_gr hp (dvd_s _ (by omega) hp)
  refine ⟨(Gr.int (n := DDs) 1).rmin g, ?_, a, ?_⟩
  · unfold evenF
    rcases c with c | c <;> rw [c]
    · decide +kernel
    · exact h2
  · rw [rsum_rep]
    rw [e] at h1 b
    have hn0 : (0 : Rat) ≤ (n : Rat) := Rat.natCast_nonneg
    have : evenF t n ≤ mkRat t n := by unfold evenF; rw [e]; exact b
    have := Rat.mul_nonneg hn0 (show 0 ≤ mkRat t n - evenF t n by grind)
    grind
def wrongs : List Rat := [97 / 96, -1 / 97, 2]
theorem wrongs_d : [D.tup [.int 97, .int 96], D.tup [.int (-1), .int 97], D.tup [.int 2, .int 1]] = wrongs.map fr := by
  unfold wrongs
  simp only [List.map_cons, List.map_nil]
  rw [← fr_lit (a := 97) (b := 96) (q := 97 / 96) (by decide +kernel), ← fr_lit (a := -1) (b := 97) (q := -1 / 97) (by decide +kernel), ← fr_lit (a := 2) (b := 1) (q := 2) (by decide +kernel)]
theorem wrongs_ok : ∀ x ∈ wrongs, (Gr DDs x ∧ Aa x) ∧ ¬ (0 ≤ x ∧ x ≤ 1) := by
  have h : ∀ x ∈ wrongs, (x * (DDs : Rat)).den = 1 ∧ -100000 ≤ x ∧ x ≤ 100000 ∧ ¬ (0 ≤ x ∧ x ≤ 1) := by decide +kernel
  intro x hx
  obtain ⟨a, b, c, d⟩ := h x hx
  have g : Gr DDs x := ⟨(x * (DDs : Rat)).num, Rat.ext rfl (by rw [a]; rfl)⟩
  exact ⟨⟨g, aa_of ((g.up (Nat.dvd_mul_right DDs DDt)).dd) b c⟩, d⟩
def crowdF (t : Int) : List Rat := List.replicate t.toNat 1 ++ [1 / 1000000]
def justF (t : Int) : List Rat := List.replicate (t - 1).toNat 1 ++ [1 / 2, 0, 1 / 2]
theorem one_ok : Gr DDs (1 : Rat) ∧ (0 : Rat) ≤ 1 ∧ (1 : Rat) ≤ 1 := ⟨Gr.int 1, by decide +kernel, by decide +kernel⟩
theorem crowd_ok (t : Int) : ∀ x ∈ crowdF t, Gr DDs x ∧ 0 ≤ x ∧ x ≤ 1 := by
  intro x hx
  rcases List.mem_append.mp hx with h | h
  · rw [(List.mem_replicate.mp h).2]; exact one_ok
  · rw [List.mem_singleton.mp h]
    exact ⟨⟨(DDs / 1000000 : Nat), by decide +kernel⟩, by decide +kernel, by decide +kernel⟩
theorem just_ok (t : Int) : ∀ x ∈ justF t, Gr DDs x ∧ 0 ≤ x ∧ x ≤ 1 := by
  intro x hx
  have hh : Gr DDs (1 / 2 : Rat) ∧ (0 : Rat) ≤ 1 / 2 ∧ (1 / 2 : Rat) ≤ 1 := ⟨⟨(DDs / 2 : Nat), by decide +kernel⟩, by decide +kernel, by decide +kernel⟩
  rcases List.mem_append.mp hx with h | h
  · rw [(List.mem_replicate.mp h).2]; exact one_ok
  · simp only [List.mem_cons, List.not_mem_nil, or_false] at h
    rcases h with rfl | rfl | rfl
    · exact hh
    · exact ⟨Gr.int 0, by decide +kernel, by decide +kernel⟩
    · exact hh
theorem cast_toNat {t : Int} (h : 0 ≤ t) : ((t.toNat : Nat) : Rat) = (t : Rat) := by rw [← Rat.intCast_natCast, Int.toNat_of_nonneg h]
theorem crowd_sum {t : Int} (ht : 0 ≤ t) : (t : Rat) < rsum (crowdF t) := by
  unfold crowdF
  rw [rsum_append, rsum_rep, cast_toNat ht, rsum_cons, rsum_nil]
  have : (0 : Rat) < 1 / 1000000 := by decide +kernel
  grind
theorem just_sum {t : Int} (ht : 1 ≤ t) : rsum (justF t) ≤ (t : Rat) := by
  unfold justF
  rw [rsum_append, rsum_rep, cast_toNat (by omega), rsum_cons, rsum_cons, rsum_cons, rsum_nil, Rat.intCast_sub]
  have : ((1 : Int) : Rat) = 1 := rfl
  grind
theorem fg_of {S U : Rat} {sh : List Rat} (su : S < U) (gs : Gr DDt S) (gu : Gr DDt U) (s0 : -1000 ≤ S) (u1 : U ≤ 1000) (h : ∀ x ∈ sh, Gr DDs x ∧ 0 ≤ x ∧ x ≤ 1) (hl : sh.length ≤ 100) : FG S U sh := ⟨su, gs, gu, s0, u1, fun x hx => ⟨(h x hx).1, aa_sh (h x hx)⟩, hl⟩
def Sp_law : PSpec := fun as res => ∃ sc : List Int, as = [.dat (.lst (sc.map .int))] ∧ res = .ret (.dat (.bl true)) []
theorem rep997 : (List.replicate (120 : Int).toNat [D.int 997]).flatten = (List.replicate 120 (997 : Int)).map D.int := rfl
theorem boolOf (p : Prop) : ∃ b : Bool, (b = true ↔ p) := by
  by_cases h : p
  · exact ⟨true, yes_iff h⟩
  · exact ⟨false, fun e => absurd e Bool.false_ne_true, fun e => absurd e h⟩
theorem bl_ok (b : Bool) : (D.bl b).ok := ⟨rfl, by cases b <;> decide +kernel⟩
section
variable {M : Md} (T : Bn M) {f : Addr} {fd : FuncData} {CB : Addr}
include T
theorem ok_law (c__law_cell : Fn M CX0 "_law_cell" 1 Sp_cell) (c__law_digits : Fn M CX0 "_law_digits" 1 Sp_digs) (c__law_digit : Fn M CX0 "_law_digit" 1 Sp_dig) (c__law_low : Fn M CX0 "_law_low" 1 Sp_low) (c__law_add : Fn M CX0 "_law_add" 2 Sp_plus) (c__law_lesser : Fn M CX0 "_law_lesser" 2 Sp_min) (c__law_shares_drawn : Fn M CX0 "_law_shares_drawn" 3 Sp_drawn)
    (c__law_right : Fn M CX0 "_law_right" 6 Sp_right) (c__law_filled : Fn M CX0 "_law_filled" 3 Sp_filled) (c__law_seated : Fn M CX0 "_law_seated" 4 Sp_seated) (c_is_seating : Fn M CX0 "is_seating" 5 Sp_seating) (c__law_spoilt : Fn M CX0 "_law_spoilt" 3 Sp_spoilt) (c__law_refused : Fn M CX0 "_law_refused" 6 Sp_refused) (c_seats : Fn M (L2.CX M.P M.w) "seats" 5 (Sp_seats CB))
    (F : Fun M.K "law" "law" s_law f fd) : FnOk M.P M.w M.K M.mg M.base CX0 7 f fd ["script"] (spOf M.K Sp_law) := by
  refine fn_ok F sc_law ?_ ?_ ?_
  · rintro as res ⟨_, rfl, _⟩; rfl
  · rintro as C ns ds os ⟨_, _, h⟩; cases h
  · rintro X W G as res g ⟨sc, rfl, rfl⟩ hbi
    have hbn := nob hbi rfl
    show SV X W G _ [.dat (.lst (sc.map .int)), .un, .un, .un, .un, .un, .un, .un, .un, .un, .un, .un, .un, .un, .un, .un, .un, .un, .un, .un, .un, .un] _
    refine sv_cons (s_asgM g 1 (ev_call2 g c__law_digits (ev_call2 g c__law_cell (ev_var g 0) ev_int (sp__law_cell (k := 0) (by decide))) ((EV.ls (ev_rep (ev_lst (ea_cons ev_int ea_nil)) (fun _ _ => ev_int) (by decide) (by decide))).eq (congrArg D.lst rep997)) (sp__law_digits (fun s hs => by rw [(List.mem_replicate.mp hs).2]; exact ⟨by decide, Nat.lt_of_lt_of_le (show _ < 2 ^ 10 by decide) (Nat.pow_le_pow_right (by decide) (by decide))⟩) (by rw [List.length_replicate]; decide))) (hbn 1) ?_)
    refine sv_at (by simp only [List.set_cons_succ, List.set_cons_zero]; exact rfl) ?_
    have hR : 0 < (digsV (cellV sc 0) (List.replicate 120 997)).length := by rw [digsV_len, List.length_replicate]; decide
    generalize digsV (cellV sc 0) (List.replicate 120 997) = R at hR
    refine sv_freeze 1 (hbn 1) ?_
    refine sv_at (by simp only [List.set_cons_succ, List.set_cons_zero]; exact rfl) ?_
    have L := fun k s (h : 0 < s) => dg_lo (r := R) (k := k) (s := s) h
    have Hh := fun k s (h : 0 < s) => dg_hi (r := R) (k := k) (s := s) h
    refine sv_cons (s_asgM g 2 (ev_lst (ea_cons ev_int ea_nil)) (hbn 2) ?_)
    refine sv_at (by simp only [List.set_cons_succ, List.set_cons_zero]; exact rfl) ?_
    obtain ⟨t, et, ht1, ht5⟩ : ∃ t : Int, 1 + dg R 0 5 = t ∧ 1 ≤ t ∧ t ≤ 5 := ⟨_, rfl, by have := L 0 5 (by decide); omega, by have := Hh 0 5 (by decide); omega⟩
    obtain ⟨n, en, hn1, hn8⟩ : ∃ n : Nat, 1 + dg R 1 8 = (n : Int) ∧ 1 ≤ n ∧ n ≤ 8 := ⟨(1 + dg R 1 8).toNat, by have := L 1 8 (by decide); omega, by have := L 1 8 (by decide); omega, by have := Hh 1 8 (by decide); omega⟩
    refine sv_cons (s_asg g 3 ((ev_add ev_int (ev_call_b2 g c__law_digit 2 (ev_var g 1) (ea_cons ev_int ea_nil) (sp__law_digit R 0 5 (by decide) hR) rfl ⟨_, rfl⟩)).eq (congrArg D.int et)) (hbn 3) ?_)
    refine sv_at (by simp only [List.set_cons_succ, List.set_cons_zero]; exact rfl) ?_
    refine sv_cons (s_asg g 4 ((ev_add ev_int (ev_call_b2 g c__law_digit 2 (ev_var g 1) (ea_cons ev_int ea_nil) (sp__law_digit R 1 8 (by decide) hR) rfl ⟨_, rfl⟩)).eq (congrArg D.int en)) (hbn 4) ?_)
    refine sv_at (by simp only [List.set_cons_succ, List.set_cons_zero]; exact rfl) ?_
    have a0 := L 2 30 (by decide); have a1 := Hh 2 30 (by decide)
    have b0 := L 3 5 (by decide); have b1 := Hh 3 5 (by decide)
    have c0 := L 4 30 (by decide); have c1 := Hh 4 30 (by decide)
    have d0 := L 5 7 (by decide); have d1 := Hh 5 7 (by decide)
    obtain ⟨q1, q2, q3, q4, q5, q6⟩ := stretch_ok (a := dg R 2 30) (b := 1 + dg R 3 5) (c := 1 + dg R 4 30) (d := 1 + dg R 5 7) ⟨a0, a1⟩ ⟨by omega, by omega⟩ ⟨by omega, by omega⟩ ⟨by omega, by omega⟩
    have lts : ∀ {z : Int}, 0 ≤ z → z ≤ 100 → z.natAbs < 2 ^ 8900 := fun {z} h1 h2 => Nat.lt_of_lt_of_le (show z.natAbs < 2 ^ 10 by omega) (Nat.pow_le_pow_right (by decide) (by decide))
    refine sv_cons (s_asg g 5 (ev_call2 g c__law_low (ev_call_b2 g c__law_digit 2 (ev_var g 1) (ea_cons ev_int ea_nil) (sp__law_digit R 2 30 (by decide) hR) rfl ⟨_, rfl⟩) (ev_add ev_int (ev_call_b2 g c__law_digit 2 (ev_var g 1) (ea_cons ev_int ea_nil) (sp__law_digit R 3 5 (by decide) hR) rfl ⟨_, rfl⟩)) (sp__law_low (by omega) (lts (by omega) (by omega)))) (hbn 5) ?_)
    refine sv_at (by simp only [List.set_cons_succ, List.set_cons_zero]; exact rfl) ?_
    generalize hS : mkRat (dg R 2 30) (1 + dg R 3 5).toNat = S at q1 q2 q3
    have aS : Aa S := aa_of ((q1.up (Nat.dvd_mul_left DDt DDs)).dd) (by grind) (by grind)
    have gE : Aa (mkRat (1 + dg R 4 30) (1 + dg R 5 7).toNat) := aa_of ((q4.up (Nat.dvd_mul_left DDt DDs)).dd) (by grind) (by grind)
    refine sv_cons (s_asg g 6 (ev_call2 g c__law_add (ev_var g 5) (ev_call2 g c__law_low (ev_add ev_int (ev_call_b2 g c__law_digit 2 (ev_var g 1) (ea_cons ev_int ea_nil) (sp__law_digit R 4 30 (by decide) hR) rfl ⟨_, rfl⟩)) (ev_add ev_int (ev_call_b2 g c__law_digit 2 (ev_var g 1) (ea_cons ev_int ea_nil) (sp__law_digit R 5 7 (by decide) hR) rfl ⟨_, rfl⟩)) (sp__law_low (by omega) (lts (by omega) (by omega)))) (sp__law_add aS.sz gE.sz)) (hbn 6) ?_)
    refine sv_at (by simp only [List.set_cons_succ, List.set_cons_zero]; exact rfl) ?_
    generalize mkRat (1 + dg R 4 30) (1 + dg R 5 7).toNat = ee at q4 q5 q6 gE
    obtain ⟨U, hU⟩ : ∃ U, S + ee = U := ⟨_, rfl⟩
    rw [hU]
    have gU : Gr DDt U := by rw [← hU]; exact q1.add q4
    have su : S < U := by rw [← hU]; grind
    have aU : Aa U := aa_of ((gU.up (Nat.dvd_mul_left DDt DDs)).dd) (by grind) (by grind)
    -- shares
    refine sv_cons (s_asgM g 7 (ev_call_b2 g c__law_shares_drawn 2 (ev_var g 1) (ea_cons (ev_var g 3) (ea_cons (ev_var g 4) (ea_cons (ev_eqI (ev_call_b2 g c__law_digit 2 (ev_var g 1) (ea_cons ev_int ea_nil) (sp__law_digit R 6 3 (by decide) hR) rfl ⟨_, rfl⟩) ev_int) ea_nil))) (sp__law_shares_drawn R 7 t n (decide (dg R 6 3 = 0)) hR (by omega) (by omega) (by omega)) rfl ⟨_, rfl⟩) (hbn 7) ?_)
    refine sv_at (by simp only [List.set_cons_succ, List.set_cons_zero]; exact rfl) ?_
    have DI := (draw_inv (r := R) (k := 7) (t := t) (by omega) n (decide (dg R 6 3 = 0)) n).1
    have DI' : Di t n (drawnF R 7 t n (decide (dg R 6 3 = 0))) := DI
    obtain ⟨sh, hsh⟩ : ∃ sh, (drawnF R 7 t n (decide (dg R 6 3 = 0))).sh = sh := ⟨_, rfl⟩
    have hsx : ∀ x ∈ sh, Gr DDs x ∧ 0 ≤ x ∧ x ≤ 1 := by rw [← hsh]; exact DI'.sh
    have hsl : sh.length = n := by rw [← hsh]; exact DI'.len
    have hss : rsum sh ≤ (t : Rat) := by rw [← hsh]; have := DI'.sum; have := DI'.r0; grind
    rw [hsh]
    refine sv_freeze 7 (hbn 7) ?_
    refine sv_at (by simp only [List.set_cons_succ, List.set_cons_zero]; exact rfl) ?_
    have hFG : FG S U sh := fg_of su q1 gU (by grind) (by grind) hsx (by omega)
    have hgood : goodB sh t = true := good_of (fun x hx => (hsx x hx).2) hss
    obtain ⟨hFH, _⟩ := hFG.fh hgood
    -- even
    obtain ⟨v1, v2, v3, v4⟩ := even_ok (t := t) (n := n) ht1 hn1 hn8
    have aev : Sz (mkRat t ((n : Int)).toNat) := by
      have hp : 0 < ((n : Int)).toNat := by omega
      have l1 : mkRat t ((n : Int)).toNat ≤ ((100 : Nat) : Rat) := mk_le hp (by rw [Int.natCast_mul, Int.toNat_of_nonneg (by omega)]; omega)
      have l1' : mkRat t ((n : Int)).toNat ≤ 100 := l1
      have l2 := mk_nn (a := t) hp (by omega)
      exact (aa_of (((mk_gr (a := t) hp (dvd_s _ (by omega) hp)).up (Nat.dvd_mul_right DDs DDt)).dd) (by grind) (by grind)).sz
    have s1 : Sz (1 : Rat) := sz_int (t := 1) (by decide)
    refine sv_cons (s_asgLcM1 g 8 9 ((List.replicate n (evenF t n)).map fr) hbn ?_ (ei_range1 g T.range (ev_var g 4) (by omega)) (by rw [rangeD_len, List.length_map, List.length_replicate, Int.toNat_natCast]) (by rw [rangeD_len, Int.toNat_natCast]; omega) ?_)
    rotate_left
    · intro i d hd
      obtain ⟨hi, rfl⟩ := rangeD_get hd
      rw [Int.toNat_natCast] at hi
      refine ⟨fr (evenF t n), by rw [List.getElem?_map, List.getElem?_replicate, if_pos hi]; rfl, fun Y G2 gy hG => ?_⟩
      exact ev_call2 gy c__law_lesser ((ev_tup (ea_cons ev_int (ea_cons ev_int ea_nil))).eq fr_one) (ev_call2 gy c__law_low (ev_var gy 3) (ev_var gy 4) (sp__law_low (by omega) (lts (by omega) (by omega)))) (sp__law_lesser s1 aev)
    refine sv_freeze 8 (hbn 8) ?_
    refine sv_at (by simp only [List.set_cons_succ, List.set_cons_zero]; exact rfl) ?_
    have hFG2 : decide (0 < S.num) = true → FG U (U + S) (List.replicate n (evenF t n)) := fun h0 => fg_of (by have := num_pos_iff.mp (of_decide_eq_true h0); grind) gU (gU.add q1) (by grind) (by grind) (fun x hx => by rw [(List.mem_replicate.mp hx).2]; exact ⟨v1, v2, v3⟩) (by rw [List.length_replicate]; omega)
    have hgood2 : goodB (List.replicate n (evenF t n)) t = true := good_of (fun x hx => by rw [(List.mem_replicate.mp hx).2]; exact ⟨v2, v3⟩) v4
    refine sv_cons (s_if (et_w (ew_or (et_not (et_val (ev_call4 g c__law_right (ev_var g 5) (ev_var g 6) (ev_var g 7) (ev_var g 3) (sp__law_right hFG (by omega) hgood)))) (fun _ => (ew_o1 (et_w (ew_and (et_gt (ev_ixT (ev_var g 5) ev_int rfl) ev_int) (fun h0 => (ew_a1 (et_not (et_val (ev_call4 g c__law_right (ev_var g 6) (ev_call2 g c__law_add (ev_var g 6) (ev_var g 5) (sp__law_add aU.sz aS.sz)) (ev_var g 8) (ev_var g 3) (sp__law_right (hFG2 h0) (by omega) hgood2)))))))))))) (fun hc => ?_) (fun hc => sv_nil ?_))
    · exfalso
      revert hc
      simp
    -- another order
    obtain ⟨s, es, hs⟩ : ∃ s : Nat, (dg R (7 + n) (n : Int) = (s : Int) ∧ s < n) := ⟨(dg R (7 + n) n).toNat, by have := L (7 + n) n (by omega); omega, by have := L (7 + n) n (by omega); have := Hh (7 + n) n (by omega); omega⟩
    refine sv_cons (s_asg g 10 ((ev_call_b2 g c__law_digit 2 (ev_var g 1) (ea_cons (ev_var g 4) ea_nil) (sp__law_digit R (7 + n) n (by omega) hR) rfl ⟨_, rfl⟩).eq (congrArg D.int es)) (hbn 10) ?_)
    refine sv_at (by simp only [List.set_cons_succ, List.set_cons_zero]; exact rfl) ?_
    refine sv_cons (s_asgLcM1 g 11 9 ((turned n s).map fun (p : Nat) => D.int p) hbn ?_ (ei_range1 g T.range (ev_var g 4) (by omega)) (by unfold turned; rw [rangeD_len, List.length_map, List.length_map, List.length_range, Int.toNat_natCast]) (by rw [rangeD_len, Int.toNat_natCast]; omega) ?_)
    rotate_left
    · intro i d hd
      obtain ⟨hi, rfl⟩ := rangeD_get hd
      rw [Int.toNat_natCast] at hi
      refine ⟨.int (((s + i) % n : Nat) : Int), by unfold turned; rw [List.getElem?_map, List.getElem?_map, List.getElem?_range hi]; rfl, fun Y G2 gy hG => ?_⟩
      exact (ev_mod (ev_toInt gy T.int (ev_add (ev_var gy 10) (ev_var gy 9))) (ev_var gy 4) (by omega)).eq (by rw [Int.zero_add, Int.natCast_emod, Int.natCast_add])
    refine sv_freeze 11 (hbn 11) ?_
    refine sv_at (by simp only [List.set_cons_succ, List.set_cons_zero]; exact rfl) ?_
    have e8 : 7 + n + 1 = 8 + n := by omega
    rw [e8]
    have hperm := turned_perm hn8 hs
    have hpos : (turned n s).Perm (List.range sh.length) := by rw [hsl]; exact hperm
    have hpl : ∀ p ∈ turned n s, p < sh.length := fun p hp => List.mem_range.mp (hpos.mem_iff.mp hp)
    have htl : (turned n s).length ≤ 100 := by unfold turned; rw [List.length_map, List.length_range]; omega
    refine sv_cons (s_asgM g 12 (ev_call5 g c__law_filled (ev_var g 5) (ev_var g 6) (ev_var g 7) (ev_var g 11) (ev_eqI (ev_call_b2 g c__law_digit 2 (ev_var g 1) (ea_cons ev_int ea_nil) (sp__law_digit R (8 + n) 2 (by decide) hR) rfl ⟨_, rfl⟩) ev_int) (sp__law_filled hFH hpl htl)) (hbn 12) ?_)
    refine sv_at (by simp only [List.set_cons_succ, List.set_cons_zero]; exact rfl) ?_
    have e9 : 8 + n + 1 = 9 + n := by omega
    rw [e9]
    obtain ⟨rows, hrw⟩ : ∃ rows, (fillF S U (decide (dg R (8 + n) 2 = 0)) sh (turned n s)).rows = rows := ⟨_, rfl⟩
    rw [hrw]
    refine sv_freeze 12 (hbn 12) ?_
    refine sv_at (by simp only [List.set_cons_succ, List.set_cons_zero]; exact rfl) ?_
    have hse : Seated S U sh t rows := by rw [← hrw]; exact fill_seated hFH hpos hss
    have hri : ∀ r ∈ rows, RwIn r := by rw [← hrw]; exact fill_in hFH hpl
    have hrl : rows.length ≤ 64 := by
      have := (fill_inv (cut := decide (dg R (8 + n) 2 = 0)) hFH _ hpl).2
      rw [hrw] at this
      have e : (turned n s).length = n := by unfold turned; rw [List.length_map, List.length_range]
      omega
    have hok : RwsOk rows := ⟨fun r h => (hri r h).ok, by omega⟩
    refine sv_cons (s_if (et_w (ew_or (et_not (et_val (ev_call5 g c__law_seated (ev_var g 5) (ev_var g 6) (ev_var g 7) (ev_var g 3) (ev_var g 12) (sp__law_seated hFH.aS hFH.aU hFH.ok hok (yes_iff hse))))) (fun _ => (ew_o1 (et_notB (ev_call3 g c_is_seating (ev_tup (ea_cons (ev_var g 5) (ea_cons (ev_var g 6) (ea_cons (ev_var g 7) ea_nil)))) (ev_var g 3) (EV.ls (ev_lcM1 g 13 (rows.map Rw.l) (hbn 13) (ei_list (ev_var g 12)) (by rw [List.length_map, List.length_map]) (by rw [List.length_map]; omega) ?_)) (sp_is_seating (stD1 S U sh) hFH.aS hFH.aU hFH.ok (seatD_ll rows) hok (yes_iff hse))) ev_bl))))) (fun hc => ?_) (fun hc => sv_nil ?_))
    · intro i d hd
      obtain ⟨r, hr, rfl⟩ := map_get hd
      exact ⟨Rw.l r, by rw [List.getElem?_map, hr]; rfl, fun Y G2 gy hG => EV.ls (ev_list gy T.list (ev_var gy 13))⟩
    · exfalso
      revert hc
      simp
    refine sv_cons (s_for g (ei_range1 g T.range ev_int (by decide)) (fun i δ => ∃ s13 s14 s15 s16, δ = [.dat (.lst (sc.map .int)), .dat (.lst (R.map .int)), .own [.int ((9 + n + 2 * i : Nat) : Int)], .dat (.int t), .dat (.int n), .dat (fr S), .dat (fr U), .dat (.lst (sh.map fr)), .dat (.lst ((List.replicate n (evenF t n)).map fr)), .un, .dat (.int s), .dat (.lst ((turned n s).map fun (p : Nat) => D.int p)), .dat (.lst (rows.map Rw.d)), s13, s14, s15, s16, .un, .un, .un, .un, .un]) ⟨_, _, _, _, rfl⟩ ?_ ?_)
    · rintro i d δi hd ⟨s13, s14, s15, s16, rfl⟩
      obtain ⟨hi, rfl⟩ := rangeD_get hd
      refine ⟨_, _, ag_name g 14 (hbn 14), ?_⟩
      refine sv_at (by simp only [List.set_cons_succ, List.set_cons_zero]; exact rfl) ?_
      have p0 := L (9 + n + 2 * i) 14 (by decide)
      have p1 := Hh (9 + n + 2 * i) 14 (by decide)
      refine sv_cons (s_asgM g 15 (ev_call g c__law_spoilt (by decide) (ea_cons (ev_var g 12) (ea_cons (ev_call_b2 g c__law_digit 2 (ev_var g 1) (ea_cons ev_int ea_nil) (sp__law_digit R (9 + n + 2 * i) 14 (by decide) hR) rfl ⟨_, rfl⟩) (ea_cons (ev_call_b2 g c__law_digit 2 (ev_var g 1) (ea_cons ev_int ea_nil) (sp__law_digit R (9 + n + 2 * i + 1) 997 (by decide) hR) rfl ⟨_, rfl⟩) (ea_cons (ev_var g 5) (ea_cons (ev_var g 6) (ea_cons (ev_var g 3) (ea_cons (ev_var g 4) ea_nil))))))) (sp__law_spoilt hri (by omega) p0 p1 (by omega) (by omega))) (hbn 15) ?_)
      refine sv_at (by simp only [List.set_cons_succ, List.set_cons_zero]; exact rfl) ?_
      have hbad : RwsOk (spoilF rows (dg R (9 + n + 2 * i) 14) (dg R (9 + n + 2 * i + 1) 997) S U t n) := spoil_ok hri (by omega) aS aU p0
      generalize spoilF rows (dg R (9 + n + 2 * i) 14) (dg R (9 + n + 2 * i + 1) 997) S U t n = bad at hbad
      refine sv_freeze 15 (hbn 15) ?_
      refine sv_at (by simp only [List.set_cons_succ, List.set_cons_zero]; exact rfl) ?_
      obtain ⟨b, hb⟩ := boolOf (Seated S U sh t bad)
      refine sv_cons (s_asg g 16 (ev_call3 g c_is_seating (ev_tup (ea_cons (ev_var g 5) (ea_cons (ev_var g 6) (ea_cons (EV.ls (ev_listL g T.list (ev_var g 7))) ea_nil)))) (ev_var g 3) (ev_tuple g T.tuple (ev_var g 15)) (sp_is_seating (stD1 S U sh) hFH.aS hFH.aU hFH.ok (seatD_tup bad) hbad hb)) (hbn 16) ?_)
      refine sv_at (by simp only [List.set_cons_succ, List.set_cons_zero]; exact rfl) ?_
      refine sv_one (s_if (et_w (ew_or (et_not (et_val (ev_isi g (tn := "bool") T.isinstance T.bool (by decide +kernel) (ev_var g 16) rfl kit_bb))) (fun _ => (ew_o1 (et_neD g (ev_var g 16) (ev_call5 g c__law_seated (ev_var g 5) (ev_var g 6) (ev_var g 7) (ev_var g 3) (ev_var g 15) (sp__law_seated hFH.aS hFH.aU hFH.ok hbad hb)) (bl_ok b) (bl_ok b)))))) (fun hc => ?_) (fun hc => sv_nil ?_))
      · exfalso
        have hc' : (false || !PyData.eqv (D.bl b).py (D.bl b).py) = true := hc
        cases b <;> simp [D.py, PyData.eqv] at hc'
      · have ei : 9 + n + 2 * i + 1 + 1 = 9 + n + 2 * (i + 1) := by omega
        rw [ei]
        exact ⟨_, _, _, _, rfl⟩
    · rintro δ' ⟨s13, s14, s15, s16, rfl⟩
      have e19 : 9 + n + 2 * (rangeD 0 (Int.toNat 5)).length = 19 + n := by rw [rangeD_len]; show 9 + n + 2 * 5 = _; omega
      rw [e19]
      obtain ⟨pl, epl, hpl2⟩ : ∃ pl : Nat, (dg R (19 + n) (n : Int) = (pl : Int) ∧ pl < n) := ⟨(dg R (19 + n) n).toNat, by have := L (19 + n) n (by omega); omega, by have := L (19 + n) n (by omega); have := Hh (19 + n) n (by omega); omega⟩
      refine sv_cons (s_asg g 17 ((ev_call_b2 g c__law_digit 2 (ev_var g 1) (ea_cons (ev_var g 4) ea_nil) (sp__law_digit R (19 + n) n (by omega) hR) rfl ⟨_, rfl⟩).eq (congrArg D.int epl)) (hbn 17) ?_)
      refine sv_at (by simp only [List.set_cons_succ, List.set_cons_zero]; exact rfl) ?_
      have e20 : 19 + n + 1 = 20 + n := by omega
      rw [e20]
      refine sv_cons (s_asgLcM1 g 18 19 (sh.map fr) hbn ?_ (ei_list (ev_var g 7)) rfl (by rw [List.length_map]; omega) ?_)
      rotate_left
      · intro i d hd
        exact ⟨d, hd, fun Y G2 gy hG => ev_var gy 19⟩
      refine sv_at (by simp only [List.set_cons_succ, List.set_cons_zero]; exact rfl) ?_
      have w0 := L (20 + n) 3 (by decide)
      have w1 := Hh (20 + n) 3 (by decide)
      have w3 : (dg R (20 + n) 3).toNat < wrongs.length := by show _ < 3; omega
      have wm : wrongs.getD (dg R (20 + n) 3).toNat 0 ∈ wrongs := by
        rw [List.getD_eq_getElem?_getD, List.getElem?_eq_getElem w3]; exact List.getElem_mem w3
      have wat : atI (wrongs.map fr) (dg R (20 + n) 3) = some (fr (wrongs.getD (dg R (20 + n) 3).toNat 0)) := by
        have e : dg R (20 + n) 3 = (((dg R (20 + n) 3).toNat : Nat) : Int) := by omega
        rw [e, Int.toNat_natCast]
        exact atI_nat (by rw [List.getElem?_map, List.getD_eq_getElem?_getD, List.getElem?_eq_getElem w3]; rfl)
      have exw : ixN (sh.map fr).length (pl : Int) = some pl := by
        rw [List.length_map]; unfold ixN; rw [if_pos (by omega), if_pos (by omega)]; simp
      refine sv_cons (s_setI g 18 (ev_ixL ((EV.ls (ev_lst (ea_cons (ev_tup (ea_cons ev_int (ea_cons ev_int ea_nil))) (ea_cons (ev_tup (ea_cons (ev_neg ev_int) (ea_cons ev_int ea_nil))) (ea_cons (ev_tup (ea_cons ev_int (ea_cons ev_int ea_nil))) ea_nil))))).eq (congrArg D.lst wrongs_d)) (ev_call_b2 g c__law_digit 2 (ev_var g 1) (ea_cons ev_int ea_nil) (sp__law_digit R (20 + n) 3 (by decide) hR) rfl ⟨_, rfl⟩) wat) (ev_var g 17) exw ?_ ⟨_, rfl⟩)
      refine sv_at (by simp only [List.set_cons_succ, List.set_cons_zero]; exact rfl) ?_
      obtain ⟨⟨wg, wa⟩, wn⟩ := wrongs_ok _ wm
      generalize wrongs.getD (dg R (20 + n) 3).toNat 0 = wx at wg wa wn
      rw [← List.map_set]
      have hFGw : FG S U (sh.set pl wx) := ⟨su, q1, gU, by grind, by grind, fun x hx => by
        rcases List.mem_or_eq_of_mem_set hx with h | h
        · exact ⟨(hsx x h).1, aa_sh (hsx x h)⟩
        · rw [h]; exact ⟨wg, wa⟩, by rw [List.length_set]; omega⟩
      have hbadw : goodB (sh.set pl wx) t = false := bad_one (x := wx) (List.mem_set (by omega) wx) wn
      have pm : D.lst [D.tup [.int 1, .int (10 ^ (6 : Int).toNat)]] = D.lst (([1 / 1000000] : List Rat).map fr) := by
        rw [List.map_cons, List.map_nil, ← fr_lit (a := 1) (b := 1000000) (q := 1 / 1000000) (by decide +kernel)]; rfl
      have ph : D.lst [D.tup [.int 1, .int 2], D.tup [.int 0, .int 1], D.tup [.int 1, .int 2]] = D.lst (([1 / 2, 0, 1 / 2] : List Rat).map fr) := by
        rw [List.map_cons, List.map_cons, List.map_cons, List.map_nil, fr_half, fr_zero]
      refine sv_cons (s_asgM g 20 (ev_cat (EV.ls (ev_lcM1 g 9 ((List.replicate t.toNat (1 : Rat)).map fr) (hbn 9) (ei_range1 g T.range (ev_var g 3) (by omega)) (by rw [rangeD_len, List.length_map, List.length_replicate]) (by rw [rangeD_len]; omega) ?_)) ((EV.ls (ev_lst (ea_cons (ev_tup (ea_cons ev_int (ea_cons (ev_pow ev_int ev_int cp_ok) ea_nil))) ea_nil))).eq pm) (by rw [List.length_map, List.length_replicate]; show _ + 1 ≤ _; omega)) (hbn 20) ?_)
      · intro i d hd
        obtain ⟨hi, rfl⟩ := rangeD_get hd
        exact ⟨fr 1, by rw [List.getElem?_map, List.getElem?_replicate, if_pos hi]; rfl, fun Y G2 gy hG => (ev_tup (ea_cons ev_int (ea_cons ev_int ea_nil))).eq fr_one⟩
      refine sv_at (by simp only [List.set_cons_succ, List.set_cons_zero]; exact rfl) ?_
      rw [← List.map_append]
      refine sv_cons (s_asgM g 21 (ev_cat (EV.ls (ev_lcM1 g 9 ((List.replicate (t - 1).toNat (1 : Rat)).map fr) (hbn 9) (ei_range1 g T.range (ev_sub (ev_var g 3) ev_int) (by omega)) (by rw [rangeD_len, List.length_map, List.length_replicate]) (by rw [rangeD_len]; omega) ?_)) ((EV.ls (ev_lst (ea_cons (ev_tup (ea_cons ev_int (ea_cons ev_int ea_nil))) (ea_cons (ev_tup (ea_cons ev_int (ea_cons ev_int ea_nil))) (ea_cons (ev_tup (ea_cons ev_int (ea_cons ev_int ea_nil))) ea_nil))))).eq ph) (by rw [List.length_map, List.length_replicate]; show _ + 3 ≤ _; omega)) (hbn 21) ?_)
      · intro i d hd
        obtain ⟨hi, rfl⟩ := rangeD_get hd
        exact ⟨fr 1, by rw [List.getElem?_map, List.getElem?_replicate, if_pos hi]; rfl, fun Y G2 gy hG => (ev_tup (ea_cons ev_int (ea_cons ev_int ea_nil))).eq fr_one⟩
      refine sv_at (by simp only [List.set_cons_succ, List.set_cons_zero]; exact rfl) ?_
      rw [← List.map_append]
      have hcr : List.replicate t.toNat (1 : Rat) ++ [1 / 1000000] = crowdF t := rfl
      have hju : List.replicate (t - 1).toNat (1 : Rat) ++ [1 / 2, 0, 1 / 2] = justF t := rfl
      rw [hcr, hju]
      refine sv_freeze 18 (hbn 18) ?_
      refine sv_at (by simp only [List.set_cons_succ, List.set_cons_zero]; exact rfl) ?_
      refine sv_freeze 20 (hbn 20) ?_
      refine sv_at (by simp only [List.set_cons_succ, List.set_cons_zero]; exact rfl) ?_
      refine sv_freeze 21 (hbn 21) ?_
      refine sv_at (by simp only [List.set_cons_succ, List.set_cons_zero]; exact rfl) ?_
      have hFGc : FG S U (crowdF t) := fg_of su q1 gU (by grind) (by grind) (crowd_ok t) (by unfold crowdF; rw [List.length_append, List.length_replicate]; show _ + 1 ≤ _; omega)
      have hFGj : FG S U (justF t) := fg_of su q1 gU (by grind) (by grind) (just_ok t) (by unfold justF; rw [List.length_append, List.length_replicate]; show _ + 3 ≤ _; omega)
      have hFG0 : FG S U [] := fg_of su q1 gU (by grind) (by grind) (fun x hx => absurd hx List.not_mem_nil) (by decide)
      have hbadc : goodB (crowdF t) t = false := bad_sum (crowd_sum (by omega))
      have hgoodj : goodB (justF t) t = true := good_of (fun x hx => (just_ok t x hx).2) (just_sum ht1)
      have hgood0 : goodB [] t = true := good_of (fun x hx => absurd hx List.not_mem_nil) (by rw [rsum_nil]; exact Rat.intCast_nonneg.mpr (by omega))
      refine sv_cons (s_if (et_w (ew_or (et_neI (ev_call2 g c__law_refused (ev_tup (ea_cons (ev_var g 5) (ea_cons (ev_var g 6) (ea_cons (ev_var g 18) ea_nil)))) (ev_var g 3) (sp__law_refused (stD1 S U _) hFGw (by omega))) ev_int) (fun _ => (ew_or (et_neI (ev_call2 g c__law_refused (ev_tup (ea_cons (ev_var g 5) (ea_cons (ev_var g 6) (ea_cons (ev_var g 20) ea_nil)))) (ev_var g 3) (sp__law_refused (stD1 S U _) hFGc (by omega))) ev_int) (fun _ => (ew_o1 (et_neI (ev_call2 g c__law_refused (ev_tup (ea_cons (ev_var g 5) (ea_cons (ev_var g 6) (ea_cons (ev_var g 21) ea_nil)))) (ev_var g 3) (sp__law_refused (stD1 S U _) hFGj (by omega))) ev_int))))))) (fun hc => ?_) (fun hc => sv_nil ?_))
      · exfalso
        rw [hbadw, hbadc, hgoodj] at hc
        revert hc
        simp
      · refine sv_one (s_ret (ev_and (ev_call4 g c__law_right (ev_var g 5) (ev_var g 6) (ev_var g 21) (ev_var g 3) (sp__law_right hFGj (by omega) hgoodj)) (fun _ => (ev_and (ev_call4 g c__law_right (ev_var g 5) (ev_var g 6) (ev_var g 7) (ev_var g 3) (sp__law_right hFG (by omega) hgood)) (fun _ => (ev_b1 (ev_eqD g (ev_call2 g c_seats (ev_tup (ea_cons (ev_var g 5) (ea_cons (ev_var g 6) (ea_cons (EV.ls (ev_lst ea_nil)) ea_nil)))) (ev_var g 3) (sp_seats (stD1 S U []) hFG0 (by omega) hgood0)) (ev_tup ea_nil) (rows_ok _) (D.ok_pu rfl (by decide)))))))) (endD ?_))
        have ez : PyData.eqv (D.tup ((seatsF S U []).map Rw.d)).py (D.tup []).py = true := (eqv_pu _ _ rfl rfl).mpr rfl
        rw [ez]; rfl
end

end LW

namespace LW
open PySem L2 DL
/-! ### what the top has written -/
def Got (K : PySem.W.Frag) (mg : Str → Option Value) (x : Str) (st : Stmt) (ps : List Str) : Prop := ∃ (f : Addr) (fd : FuncData), Fun K x x st f fd ∧ mg x = some (.ref f) ∧ PySem.W.keepIn K (.ref f) = true ∧ Binds K fd ps []
theorem got_of {K : PySem.W.Frag} {h : Heap} {mg : Str → Option Value} {x : Str} {st : Stmt} {ps : List Str} {f : Addr} {oc kV dc pm cd ct : Value} {od an : Option Addr} {sl : Array (Option Value)} (X : K.In h) (G : h.Ns mainGlobals mg) (a : PySem.W.nsIn K mainGlobals x = some (some (.ref f)))
    (l : K.lookup f = some ⟨oc, od, .func (PySem.W.fnOf x x (defArgs st) (defBody st) (defScope st) .none kV dc pm an cd ct), sl⟩) (c : PySem.W.codeIn K cd x = true) (k : PySem.W.keepIn K (.ref f) = true)
    (hb : ∀ (kV doc pm : Value) (an : Option Addr) (cdv ct : Value) (us : List Value), us.length = ps.length → bindArgs (PySem.W.fnOf x x (defArgs st) (defBody st) (defScope st) .none kV doc pm an cdv ct) ⟨us, []⟩ = pure (ps.zip us)) : Got K mg x st ps :=
  ⟨f, _, fun_mk l c k, PySem.W.mg_of X G a, k, (fun_mk l c k).binds hb⟩
theorem glob2_of {K : PySem.W.Frag} {mg : Str → Option Value} {h : Heap} {x : Str} {z : Addr} {i j : Int} {t1 t2 : Nat} {od : Option Addr} {n : Nat} {sl : Array (Option Value)} (X : K.In h) (G : h.Ns mainGlobals mg) (a : PySem.W.nsIn K mainGlobals x = some (some (.ref z)))
    (l : K.lookup z = some ⟨.type "tuple", od, .seq #[.int i t1, .int j t2] n, sl⟩) : ∃ (v : V) (u : Value), mg x = some u ∧ RelV v u ∧ ∀ B, Rep K B v (.tup [.int i, .int j]) :=
  ⟨.ref z, .ref z, PySem.W.mg_of X G a, rfl, fun B => .tup (.inr ⟨_, _, n, l, rfl, rfl, (by show 2 ≤ sizeLine; rw [sizeLine_eq]; omega), .cons (show RelV (.int i) (Value.int i t1) from ⟨_, rfl⟩) (.cons (show RelV (.int j) (Value.int j t2) from ⟨_, rfl⟩) .nil)⟩) (.cons (.int i) (.cons (.int j) .nil))⟩
theorem law_binds {K : PySem.W.Frag} {f : Addr} {fd : FuncData} (F : Fun K "law" "law" s_law f fd) : ∀ (s : Shared) (v : Value), BindsTo s fd ⟨[v], []⟩ [("script", v)] := by
  obtain ⟨_, _, _, _, _, _, _, _, _, rfl, _, _⟩ := F.ex
  exact fun s v => .of_eq rfl
theorem law_start (w : World) (H : Hp) (a : Addr) (ns : List Int) {n : Nat} {K : PySem.W.Frag} (_ : ns.length ≤ n) (_ : L2.Only H) (hS : SqL K H a (ns.map V.int)) : spOf K Sp_law [.ref a] H (fun v _ => v = .bl true) fun _ _ _ => False := by
  refine ⟨H, [.dat (.lst (ns.map .int))], _, ⟨ns, rfl, rfl⟩, ⟨Same.refl _, rfl, fun i d h => ?_, fun i s h m => ?_, fun i j s t l _ h m _ _ _ _ => ?_⟩, fun v B' H' _ r => bl_of r⟩
  · match i, h with
    | 0, h => cases h; exact ⟨.ref a, rfl, .lst hS (RepL.ints ns)⟩
    | i + 1, h => simp at h
  · match i, h with
    | 0, h => cases h; cases m
    | i + 1, h => simp at h
  · match i, h with
    | 0, h => cases h; cases m
    | i + 1, h => simp at h
theorem all_mk {l : PySem.W.OpenLaw} {w : World} {K : PySem.W.Frag} {mg : Str → Option Value} {fa : Addr} {CB CE CC : Addr} (hfa : mg "law" = some (.ref fa))
    (g__law_cell : Got K mg "_law_cell" s__law_cell ["script", "k"])
    (g__law_digits : Got K mg "_law_digits" s__law_digits ["cell", "sizes"])
    (g__law_digit : Got K mg "_law_digit" s__law_digit ["row", "at", "size"])
    (g__law_low : Got K mg "_law_low" s__law_low ["top", "bottom"])
    (g__law_add : Got K mg "_law_add" s__law_add ["a", "b"])
    (g__law_lt : Got K mg "_law_lt" s__law_lt ["a", "b"])
    (g__law_lesser : Got K mg "_law_lesser" s__law_lesser ["a", "b"])
    (g__law_sub : Got K mg "_law_sub" s__law_sub ["a", "b"])
    (g__law_shares_drawn : Got K mg "_law_shares_drawn" s__law_shares_drawn ["row", "at", "tables", "count", "full"])
    (g_is_number : Got K mg "is_number" s_is_number ["value"])
    (g_is_amount : Got K mg "is_amount" s_is_amount ["value"])
    (g_lowest : Got K mg "lowest" s_lowest ["top", "bottom"])
    (g_amount : Got K mg "amount" s_amount ["value"])
    (g_kept_stretch : Got K mg "kept_stretch" s_kept_stretch ["stretch"])
    (g_at_most : Got K mg "at_most" s_at_most ["one", "two"])
    (g_less : Got K mg "less" s_less ["one", "two"])
    (g_plus : Got K mg "plus" s_plus ["one", "two"])
    (g_sum_of : Got K mg "sum_of" s_sum_of ["row"])
    (g_need_shares : Got K mg "need_shares" s_need_shares ["shares", "counters"])
    (g_minus : Got K mg "minus" s_minus ["one", "two"])
    (g_times : Got K mg "times" s_times ["one", "two"])
    (g_lesser : Got K mg "lesser" s_lesser ["one", "two"])
    (g_seats : Got K mg "seats" s_seats ["stretch", "counters"])
    (g_seat_fits : Got K mg "seat_fits" s_seat_fits ["row", "start", "stop", "count", "counters"])
    (g_clash : Got K mg "clash" s_clash ["one", "two"])
    (g_is_seating : Got K mg "is_seating" s_is_seating ["stretch", "counters", "seating"])
    (g__law_mul : Got K mg "_law_mul" s__law_mul ["a", "b"])
    (g__law_filled : Got K mg "_law_filled" s__law_filled ["start", "stop", "shares", "order", "cut"])
    (g__law_whole : Got K mg "_law_whole" s__law_whole ["value"])
    (g__law_is_fraction : Got K mg "_law_is_fraction" s__law_is_fraction ["value"])
    (g__law_kinds : Got K mg "_law_kinds" s__law_kinds ["told"])
    (g__law_total : Got K mg "_law_total" s__law_total ["row"])
    (g__law_seated : Got K mg "_law_seated" s__law_seated ["start", "stop", "shares", "tables", "rows"])
    (g__law_right : Got K mg "_law_right" s__law_right ["start", "stop", "shares", "tables"])
    (g__law_spoilt : Got K mg "_law_spoilt" s__law_spoilt ["rows", "pick", "place", "start", "stop", "tables", "count"])
    (g__law_refused : Got K mg "_law_refused" s__law_refused ["stretch", "tables"])
    (g_law : Got K mg "law" s_law ["script"])
    (q_ZERO : ∃ (v : V) (u : Value), mg "ZERO" = some u ∧ RelV v u ∧ ∀ B, Rep K B v (.tup [.int 0, .int 1]))
    (q_ONE : ∃ (v : V) (u : Value), mg "ONE" = some u ∧ RelV v u ∧ ∀ B, Rep K B v (.tup [.int 1, .int 1]))
    (n_len : mg "len" = none) (n_int : mg "int" = none) (n_abs : mg "abs" = none) (n_min : mg "min" = none) (n_sum : mg "sum" = none) (n_all : mg "all" = none) (n_any : mg "any" = none) (n_tuple : mg "tuple" = none) (n_list : mg "list" = none) (n_bool : mg "bool" = none) (n_str : mg "str" = none) (n_isinstance : mg "isinstance" = none) (n_range : mg "range" = none) (n_enumerate : mg "enumerate" = none) (n_zip : mg "zip" = none) (n_gcd : mg "gcd" = some (.builtin "math.gcd"))
    (e_gl : mg "BadShares" = some (.ref CB)) (e_kp : PySem.W.keepIn K (.ref CB) = true) (e_ex : PySem.W.excIn K CB [.type "ValueError", .type "Exception", .type "BaseException", .type "object"] "ValueError.__new__" = true) (e_sb : PySem.W.subIn K (.ref CB) (.type "BaseException") = some true) (e_ty : PySem.W.typeIn K (.ref CB) = some (.type "type"))
    (cc : ExcC K CB) (ym : PySem.W.exmOne K (.ref CB) (.ref CB) = some true) (gE : mg "CounterError" = some (.ref CE)) (kE : PySem.W.kitOne K (.ref CB) (.ref CE) = some true) (gV : mg "ValueError" = none) (kV : PySem.W.kitOne K (.ref CB) (.type "ValueError") = some true) (gC : mg "BadCount" = some (.ref CC)) (kC : PySem.W.kitOne K (.ref CB) (.ref CC) = some false)
    : ∃ fd : FuncData, (∀ (s : Shared) (v : Value), BindsTo s fd ⟨[v], []⟩ [("script", v)]) ∧ ∀ base : Heap, K.In base → base.Ns mainGlobals mg → FnOk l.prog w K mg base CX0 7 fa fd ["script"] (spOf K Sp_law) := by
  obtain ⟨f0, fd0, F0, m0, k0, b0⟩ := g_law
  have e := hfa.symm.trans m0
  cases e
  refine ⟨fd0, fun s v => (law_binds F0) s v, fun base _ _ => ?_⟩
  let M : Md := ⟨l.prog, w, K, mg, base⟩
  have T : Bn M := ⟨n_len, n_int, n_abs, n_min, n_sum, n_all, n_any, n_tuple, n_list, n_bool, n_str, n_isinstance, n_range, n_enumerate, n_zip, n_gcd⟩
  have gl_ZERO : GlobD M "ZERO" (fr 0) := q_ZERO
  have gl_ONE : GlobD M "ONE" (fr 1) := q_ONE
  have eB : ErrC M "BadShares" CB := ⟨e_gl, e_kp, e_ex, e_sb, e_ty⟩
  obtain ⟨f, fd, F, m, k, b⟩ := g__law_cell
  have c__law_cell : Fn M CX0 "_law_cell" 1 (Sp_cell) := Fn.mk0 (ok__law_cell (M := M) T  F) m k b
  clear F m k b
  obtain ⟨f, fd, F, m, k, b⟩ := g__law_digits
  have c__law_digits : Fn M CX0 "_law_digits" 1 (Sp_digs) := Fn.mk0 (ok__law_digits (M := M) T  F) m k b
  clear F m k b
  obtain ⟨f, fd, F, m, k, b⟩ := g__law_digit
  have c__law_digit : Fn M CX0 "_law_digit" 1 (Sp_dig) := Fn.mk0 (ok__law_digit (M := M) T  F) m k b
  clear F m k b
  obtain ⟨f, fd, F, m, k, b⟩ := g__law_low
  have c__law_low : Fn M CX0 "_law_low" 1 (Sp_low) := Fn.mk0 (ok__law_low (M := M) T  F) m k b
  clear F m k b
  obtain ⟨f, fd, F, m, k, b⟩ := g__law_add
  have c__law_add : Fn M CX0 "_law_add" 2 (Sp_plus) := Fn.mk0 (ok__law_add (M := M) T c__law_low F) m k b
  clear F m k b
  obtain ⟨f, fd, F, m, k, b⟩ := g__law_lt
  have c__law_lt : Fn M CX0 "_law_lt" 1 (Sp_lt) := Fn.mk0 (ok__law_lt (M := M) T  F) m k b
  clear F m k b
  obtain ⟨f, fd, F, m, k, b⟩ := g__law_lesser
  have c__law_lesser : Fn M CX0 "_law_lesser" 2 (Sp_min) := Fn.mk0 (ok__law_lesser (M := M) T c__law_lt F) m k b
  clear F m k b
  obtain ⟨f, fd, F, m, k, b⟩ := g__law_sub
  have c__law_sub : Fn M CX0 "_law_sub" 2 (Sp_minus) := Fn.mk0 (ok__law_sub (M := M) T c__law_low F) m k b
  clear F m k b
  obtain ⟨f, fd, F, m, k, b⟩ := g__law_shares_drawn
  have c__law_shares_drawn : Fn M CX0 "_law_shares_drawn" 3 (Sp_drawn) := Fn.mk0 (ok__law_shares_drawn (M := M) T c__law_digit c__law_sub c__law_lt c__law_lesser F) m k b
  clear F m k b
  obtain ⟨f, fd, F, m, k, b⟩ := g_is_number
  have c_is_number : Fn M CX0 "is_number" 1 (Sp_num) := Fn.mk0 (ok_is_number (M := M) T  F) m k b
  clear F m k b
  obtain ⟨f, fd, F, m, k, b⟩ := g_is_amount
  have c_is_amount : Fn M CX0 "is_amount" 2 (Sp_isam) := Fn.mk0 (ok_is_amount (M := M) T c_is_number F) m k b
  clear F m k b
  obtain ⟨f, fd, F, m, k, b⟩ := g_lowest
  have c_lowest : Fn M CX0 "lowest" 1 (Sp_lowest) := Fn.mk0 (ok_lowest (M := M) T  F) m k b
  clear F m k b
  obtain ⟨f, fd, F, m, k, b⟩ := g_amount
  have c_amount : Fn M CX0 "amount" 3 (Sp_am) := Fn.mk0 (ok_amount (M := M) T c_is_number c_is_amount c_lowest F) m k b
  clear F m k b
  obtain ⟨f, fd, F, m, k, b⟩ := g_kept_stretch
  have c_kept_stretch : Fn M CX0 "kept_stretch" 4 (Sp_kept) := Fn.mk0 (ok_kept_stretch (M := M) T c_amount F) m k b
  clear F m k b
  obtain ⟨f, fd, F, m, k, b⟩ := g_at_most
  have c_at_most : Fn M CX0 "at_most" 1 (Sp_le) := Fn.mk0 (ok_at_most (M := M) T  F) m k b
  clear F m k b
  obtain ⟨f, fd, F, m, k, b⟩ := g_less
  have c_less : Fn M CX0 "less" 1 (Sp_lt) := Fn.mk0 (ok_less (M := M) T  F) m k b
  clear F m k b
  obtain ⟨f, fd, F, m, k, b⟩ := g_plus
  have c_plus : Fn M CX0 "plus" 2 (Sp_plus) := Fn.mk0 (ok_plus (M := M) T c_lowest F) m k b
  clear F m k b
  obtain ⟨f, fd, F, m, k, b⟩ := g_sum_of
  have c_sum_of : Fn M CX0 "sum_of" 3 (Sp_sum) := Fn.mk0 (ok_sum_of (M := M) T c_plus gl_ZERO F) m k b
  clear F m k b
  obtain ⟨f, fd, F, m, k, b⟩ := g_need_shares
  have c_need_shares : Fn M (L2.CX M.P M.w) "need_shares" 4 ((Sp_need CB)) := Fn.mkX (ok_need_shares (M := M) T eB gl_ZERO gl_ONE c_at_most c_less c_sum_of F) m k b
  clear F m k b
  obtain ⟨f, fd, F, m, k, b⟩ := g_minus
  have c_minus : Fn M CX0 "minus" 2 (Sp_minus) := Fn.mk0 (ok_minus (M := M) T c_lowest F) m k b
  clear F m k b
  obtain ⟨f, fd, F, m, k, b⟩ := g_times
  have c_times : Fn M CX0 "times" 2 (Sp_times) := Fn.mk0 (ok_times (M := M) T c_lowest F) m k b
  clear F m k b
  obtain ⟨f, fd, F, m, k, b⟩ := g_lesser
  have c_lesser : Fn M CX0 "lesser" 2 (Sp_min) := Fn.mk0 (ok_lesser (M := M) T c_less c_lowest F) m k b
  clear F m k b
  obtain ⟨f, fd, F, m, k, b⟩ := g_seats
  have c_seats : Fn M (L2.CX M.P M.w) "seats" 5 ((Sp_seats CB)) := Fn.mkX (ok_seats (M := M) T gl_ZERO c_kept_stretch c_need_shares c_plus c_minus c_times c_lesser F) m k b
  clear F m k b
  obtain ⟨f, fd, F, m, k, b⟩ := g_seat_fits
  have c_seat_fits : Fn M CX0 "seat_fits" 2 (Sp_fits) := Fn.mk0 (ok_seat_fits (M := M) T c_less c_at_most F) m k b
  clear F m k b
  obtain ⟨f, fd, F, m, k, b⟩ := g_clash
  have c_clash : Fn M CX0 "clash" 2 (Sp_clash) := Fn.mk0 (ok_clash (M := M) T c_less F) m k b
  clear F m k b
  obtain ⟨f, fd, F, m, k, b⟩ := g_is_seating
  have c_is_seating : Fn M CX0 "is_seating" 5 (Sp_seating) := Fn.mk0 (ok_is_seating (M := M) T c_kept_stretch c_amount c_seat_fits c_clash c_minus c_times c_sum_of F) m k b
  clear F m k b
  obtain ⟨f, fd, F, m, k, b⟩ := g__law_mul
  have c__law_mul : Fn M CX0 "_law_mul" 2 (Sp_times) := Fn.mk0 (ok__law_mul (M := M) T c__law_low F) m k b
  clear F m k b
  obtain ⟨f, fd, F, m, k, b⟩ := g__law_filled
  have c__law_filled : Fn M CX0 "_law_filled" 3 (Sp_filled) := Fn.mk0 (ok__law_filled (M := M) T c__law_add c__law_sub c__law_mul c__law_lesser F) m k b
  clear F m k b
  obtain ⟨f, fd, F, m, k, b⟩ := g__law_whole
  have c__law_whole : Fn M CX0 "_law_whole" 1 (Sp_num) := Fn.mk0 (ok__law_whole (M := M) T  F) m k b
  clear F m k b
  obtain ⟨f, fd, F, m, k, b⟩ := g__law_is_fraction
  have c__law_is_fraction : Fn M CX0 "_law_is_fraction" 2 (Sp_isfr) := Fn.mk0 (ok__law_is_fraction (M := M) T c__law_whole c__law_low F) m k b
  clear F m k b
  obtain ⟨f, fd, F, m, k, b⟩ := g__law_kinds
  have c__law_kinds : Fn M CX0 "_law_kinds" 3 (Sp_kinds) := Fn.mk0 (ok__law_kinds (M := M) T c__law_whole c__law_is_fraction F) m k b
  clear F m k b
  obtain ⟨f, fd, F, m, k, b⟩ := g__law_total
  have c__law_total : Fn M CX0 "_law_total" 3 (Sp_sum) := Fn.mk0 (ok__law_total (M := M) T c__law_add F) m k b
  clear F m k b
  obtain ⟨f, fd, F, m, k, b⟩ := g__law_seated
  have c__law_seated : Fn M CX0 "_law_seated" 4 (Sp_seated) := Fn.mk0 (ok__law_seated (M := M) T c__law_sub c__law_mul c__law_lt c__law_total F) m k b
  clear F m k b
  obtain ⟨f, fd, F, m, k, b⟩ := g__law_right
  have c__law_right : Fn M CX0 "_law_right" 6 (Sp_right) := Fn.mk0 (ok__law_right (M := M) T c_seats c_is_seating c__law_filled c__law_kinds c__law_seated F) m k b
  clear F m k b
  obtain ⟨f, fd, F, m, k, b⟩ := g__law_spoilt
  have c__law_spoilt : Fn M CX0 "_law_spoilt" 3 (Sp_spoilt) := Fn.mk0 (ok__law_spoilt (M := M) T c__law_add c__law_sub c__law_mul F) m k b
  clear F m k b
  obtain ⟨f, fd, F, m, k, b⟩ := g__law_refused
  have c__law_refused : Fn M CX0 "_law_refused" 6 (Sp_refused) := Fn.mk0 (ok__law_refused (M := M) T eB cc ym gE kE gV kV gC kC c_seats F) m k b
  clear F m k b
  exact ok_law (M := M) T c__law_cell c__law_digits c__law_digit c__law_low c__law_add c__law_lesser c__law_shares_drawn c__law_right c__law_filled c__law_seated c_is_seating c__law_spoilt c__law_refused c_seats F0
theorem walk {l : PySem.W.OpenLaw} {q : Program} {loose : List Str} {XP : (Str → Option Value) → Heap → Prop} {YP : World → Heap → Prop} {d : DefRec} {K : Params → PySem.W.Frag} (hn : l.most = some 63) (hdf : d.params.defaults = [])
    (hY : ∀ (w : World) (h : Heap), YP w h → (K w.params).In h)
    (F : ∀ (w : World) (mg : Str → Option Value) (fa : Addr) (h : Heap), (K w.params).In h → h.Ns mainGlobals mg → mg d.name = some (.ref fa) →
      ∃ fd : FuncData, (∀ (s : Shared) (u : Value), BindsTo s fd ⟨[u], []⟩ [("script", u)]) ∧ ∀ base : Heap, (K w.params).In base → base.Ns mainGlobals mg → FnOk l.prog w (K w.params) mg base CX0 7 fa fd ["script"] (spOf (K w.params) Sp_law)) :
    PySem.W.WalkO q loose XP YP l.row.toRowW d [] (fun f vs => PySem.call f vs) :=
  L2.walk_of (n := 63) (k := 7) (x := "script") (CX := fun _ => CX0) (sp := fun w => spOf (K w.params) Sp_law) hn (by decide) hdf ⟨rfl, by decide, by decide⟩ hY F (fun w H a ns h1 h2 h3 => law_start w H a ns h1 h2 h3) fun _ _ _ _ _ z => z

end LW


open PySem PySem.W PyProof.Rows in
set_option maxRecDepth 100000 in
set_option maxHeartbeats 0 in
theorem PySem.Challenge.cw_twicewaited_k76_seats_holds : PySem.Challenge.rw_twicewaited_k76_seats.Holds := by
  w_on; o_law; k_head; (case hw => w_witness2)
  k_fill
  refine LW.walk (l := PySem.Challenge.rw_twicewaited_k76_seats) rfl rfl (fun w h Y => PySem.W.kIn_of Y) ?F
  case F =>
    intro w mg fa h KX G hmg
    refine' LW.all_mk (l := PySem.Challenge.rw_twicewaited_k76_seats) hmg
      (LW.got_of KX G ?a0 ?l0 ?c0 ?k0 (fun _ _ _ _ _ _ us hl => match us, hl with | [_, _], _ => rfl))
      (LW.got_of KX G ?a1 ?l1 ?c1 ?k1 (fun _ _ _ _ _ _ us hl => match us, hl with | [_, _], _ => rfl))
      (LW.got_of KX G ?a2 ?l2 ?c2 ?k2 (fun _ _ _ _ _ _ us hl => match us, hl with | [_, _, _], _ => rfl))
      (LW.got_of KX G ?a3 ?l3 ?c3 ?k3 (fun _ _ _ _ _ _ us hl => match us, hl with | [_, _], _ => rfl))
      (LW.got_of KX G ?a4 ?l4 ?c4 ?k4 (fun _ _ _ _ _ _ us hl => match us, hl with | [_, _], _ => rfl))
      (LW.got_of KX G ?a5 ?l5 ?c5 ?k5 (fun _ _ _ _ _ _ us hl => match us, hl with | [_, _], _ => rfl))
      (LW.got_of KX G ?a6 ?l6 ?c6 ?k6 (fun _ _ _ _ _ _ us hl => match us, hl with | [_, _], _ => rfl))
      (LW.got_of KX G ?a7 ?l7 ?c7 ?k7 (fun _ _ _ _ _ _ us hl => match us, hl with | [_, _], _ => rfl))
      (LW.got_of KX G ?a8 ?l8 ?c8 ?k8 (fun _ _ _ _ _ _ us hl => match us, hl with | [_, _, _, _, _], _ => rfl))
      (LW.got_of KX G ?a9 ?l9 ?c9 ?k9 (fun _ _ _ _ _ _ us hl => match us, hl with | [_], _ => rfl))
      (LW.got_of KX G ?a10 ?l10 ?c10 ?k10 (fun _ _ _ _ _ _ us hl => match us, hl with | [_], _ => rfl))
      (LW.got_of KX G ?a11 ?l11 ?c11 ?k11 (fun _ _ _ _ _ _ us hl => match us, hl with | [_, _], _ => rfl))
      (LW.got_of KX G ?a12 ?l12 ?c12 ?k12 (fun _ _ _ _ _ _ us hl => match us, hl with | [_], _ => rfl))
      (LW.got_of KX G ?a13 ?l13 ?c13 ?k13 (fun _ _ _ _ _ _ us hl => match us, hl with | [_], _ => rfl))
      (LW.got_of KX G ?a14 ?l14 ?c14 ?k14 (fun _ _ _ _ _ _ us hl => match us, hl with | [_, _], _ => rfl))
      (LW.got_of KX G ?a15 ?l15 ?c15 ?k15 (fun _ _ _ _ _ _ us hl => match us, hl with | [_, _], _ => rfl))
      (LW.got_of KX G ?a16 ?l16 ?c16 ?k16 (fun _ _ _ _ _ _ us hl => match us, hl with | [_, _], _ => rfl))
      (LW.got_of KX G ?a17 ?l17 ?c17 ?k17 (fun _ _ _ _ _ _ us hl => match us, hl with | [_], _ => rfl))
      (LW.got_of KX G ?a18 ?l18 ?c18 ?k18 (fun _ _ _ _ _ _ us hl => match us, hl with | [_, _], _ => rfl))
      (LW.got_of KX G ?a19 ?l19 ?c19 ?k19 (fun _ _ _ _ _ _ us hl => match us, hl with | [_, _], _ => rfl))
      (LW.got_of KX G ?a20 ?l20 ?c20 ?k20 (fun _ _ _ _ _ _ us hl => match us, hl with | [_, _], _ => rfl))
      (LW.got_of KX G ?a21 ?l21 ?c21 ?k21 (fun _ _ _ _ _ _ us hl => match us, hl with | [_, _], _ => rfl))
      (LW.got_of KX G ?a22 ?l22 ?c22 ?k22 (fun _ _ _ _ _ _ us hl => match us, hl with | [_, _], _ => rfl))
      (LW.got_of KX G ?a23 ?l23 ?c23 ?k23 (fun _ _ _ _ _ _ us hl => match us, hl with | [_, _, _, _, _], _ => rfl))
      (LW.got_of KX G ?a24 ?l24 ?c24 ?k24 (fun _ _ _ _ _ _ us hl => match us, hl with | [_, _], _ => rfl))
      (LW.got_of KX G ?a25 ?l25 ?c25 ?k25 (fun _ _ _ _ _ _ us hl => match us, hl with | [_, _, _], _ => rfl))
      (LW.got_of KX G ?a26 ?l26 ?c26 ?k26 (fun _ _ _ _ _ _ us hl => match us, hl with | [_, _], _ => rfl))
      (LW.got_of KX G ?a27 ?l27 ?c27 ?k27 (fun _ _ _ _ _ _ us hl => match us, hl with | [_, _, _, _, _], _ => rfl))
      (LW.got_of KX G ?a28 ?l28 ?c28 ?k28 (fun _ _ _ _ _ _ us hl => match us, hl with | [_], _ => rfl))
      (LW.got_of KX G ?a29 ?l29 ?c29 ?k29 (fun _ _ _ _ _ _ us hl => match us, hl with | [_], _ => rfl))
      (LW.got_of KX G ?a30 ?l30 ?c30 ?k30 (fun _ _ _ _ _ _ us hl => match us, hl with | [_], _ => rfl))
      (LW.got_of KX G ?a31 ?l31 ?c31 ?k31 (fun _ _ _ _ _ _ us hl => match us, hl with | [_], _ => rfl))
      (LW.got_of KX G ?a32 ?l32 ?c32 ?k32 (fun _ _ _ _ _ _ us hl => match us, hl with | [_, _, _, _, _], _ => rfl))
      (LW.got_of KX G ?a33 ?l33 ?c33 ?k33 (fun _ _ _ _ _ _ us hl => match us, hl with | [_, _, _, _], _ => rfl))
      (LW.got_of KX G ?a34 ?l34 ?c34 ?k34 (fun _ _ _ _ _ _ us hl => match us, hl with | [_, _, _, _, _, _, _], _ => rfl))
      (LW.got_of KX G ?a35 ?l35 ?c35 ?k35 (fun _ _ _ _ _ _ us hl => match us, hl with | [_, _], _ => rfl))
      (LW.got_of KX G ?a36 ?l36 ?c36 ?k36 (fun _ _ _ _ _ _ us hl => match us, hl with | [_], _ => rfl))
      (LW.glob2_of KX G ?za0 ?zl0)
      (LW.glob2_of KX G ?za1 ?zl1)
      (PySem.W.mg_none_of KX G ?n_len)
      (PySem.W.mg_none_of KX G ?n_int)
      (PySem.W.mg_none_of KX G ?n_abs)
      (PySem.W.mg_none_of KX G ?n_min)
      (PySem.W.mg_none_of KX G ?n_sum)
      (PySem.W.mg_none_of KX G ?n_all)
      (PySem.W.mg_none_of KX G ?n_any)
      (PySem.W.mg_none_of KX G ?n_tuple)
      (PySem.W.mg_none_of KX G ?n_list)
      (PySem.W.mg_none_of KX G ?n_bool)
      (PySem.W.mg_none_of KX G ?n_str)
      (PySem.W.mg_none_of KX G ?n_isinstance)
      (PySem.W.mg_none_of KX G ?n_range)
      (PySem.W.mg_none_of KX G ?n_enumerate)
      (PySem.W.mg_none_of KX G ?n_zip)
      (PySem.W.mg_of KX G ?n_gcd)
      (PySem.W.mg_of KX G ?e_gl) ?e_kp ?e_ex ?e_sb ?e_ty
      ⟨?x_hg, ?x_hk, ?x_hs, ?x_hd, ?x_ha, ?x_hn, ?x_ht, ?x_hm⟩ (PySem.W.exm_ref ?y_1 ?y_2 ?y_3 ?y_4) (PySem.W.mg_of KX G ?g_E) (DL.kit_ref ?k_Ea ?k_Eb ?k_Ec ?k_Ed) (PySem.W.mg_none_of KX G ?g_V) (DL.kit_typ ?k_Va ?k_Vb) (PySem.W.mg_of KX G ?g_C) (DL.kit_ref ?k_Ca ?k_Cb ?k_Cc ?k_Cd)
    (case a0 => k_is)
    (case l0 => k_is)
    (case c0 => k_is)
    (case k0 => k_is)
    (case a1 => k_is)
    (case l1 => k_is)
    (case c1 => k_is)
    (case k1 => k_is)
    (case a2 => k_is)
    (case l2 => k_is)
    (case c2 => k_is)
    (case k2 => k_is)
    (case a3 => k_is)
    (case l3 => k_is)
    (case c3 => k_is)
    (case k3 => k_is)
    (case a4 => k_is)
    (case l4 => k_is)
    (case c4 => k_is)
    (case k4 => k_is)
    (case a5 => k_is)
    (case l5 => k_is)
    (case c5 => k_is)
    (case k5 => k_is)
    (case a6 => k_is)
    (case l6 => k_is)
    (case c6 => k_is)
    (case k6 => k_is)
    (case a7 => k_is)
    (case l7 => k_is)
    (case c7 => k_is)
    (case k7 => k_is)
    (case a8 => k_is)
    (case l8 => k_is)
    (case c8 => k_is)
    (case k8 => k_is)
    (case a9 => k_is)
    (case l9 => k_is)
    (case c9 => k_is)
    (case k9 => k_is)
    (case a10 => k_is)
    (case l10 => k_is)
    (case c10 => k_is)
    (case k10 => k_is)
    (case a11 => k_is)
    (case l11 => k_is)
    (case c11 => k_is)
    (case k11 => k_is)
    (case a12 => k_is)
    (case l12 => k_is)
    (case c12 => k_is)
    (case k12 => k_is)
    (case a13 => k_is)
    (case l13 => k_is)
    (case c13 => k_is)
    (case k13 => k_is)
    (case a14 => k_is)
    (case l14 => k_is)
    (case c14 => k_is)
    (case k14 => k_is)
    (case a15 => k_is)
    (case l15 => k_is)
    (case c15 => k_is)
    (case k15 => k_is)
    (case a16 => k_is)
    (case l16 => k_is)
    (case c16 => k_is)
    (case k16 => k_is)
    (case a17 => k_is)
    (case l17 => k_is)
    (case c17 => k_is)
    (case k17 => k_is)
    (case a18 => k_is)
    (case l18 => k_is)
    (case c18 => k_is)
    (case k18 => k_is)
    (case a19 => k_is)
    (case l19 => k_is)
    (case c19 => k_is)
    (case k19 => k_is)
    (case a20 => k_is)
    (case l20 => k_is)
    (case c20 => k_is)
    (case k20 => k_is)
    (case a21 => k_is)
    (case l21 => k_is)
    (case c21 => k_is)
    (case k21 => k_is)
    (case a22 => k_is)
    (case l22 => k_is)
    (case c22 => k_is)
    (case k22 => k_is)
    (case a23 => k_is)
    (case l23 => k_is)
    (case c23 => k_is)
    (case k23 => k_is)
    (case a24 => k_is)
    (case l24 => k_is)
    (case c24 => k_is)
    (case k24 => k_is)
    (case a25 => k_is)
    (case l25 => k_is)
    (case c25 => k_is)
    (case k25 => k_is)
    (case a26 => k_is)
    (case l26 => k_is)
    (case c26 => k_is)
    (case k26 => k_is)
    (case a27 => k_is)
    (case l27 => k_is)
    (case c27 => k_is)
    (case k27 => k_is)
    (case a28 => k_is)
    (case l28 => k_is)
    (case c28 => k_is)
    (case k28 => k_is)
    (case a29 => k_is)
    (case l29 => k_is)
    (case c29 => k_is)
    (case k29 => k_is)
    (case a30 => k_is)
    (case l30 => k_is)
    (case c30 => k_is)
    (case k30 => k_is)
    (case a31 => k_is)
    (case l31 => k_is)
    (case c31 => k_is)
    (case k31 => k_is)
    (case a32 => k_is)
    (case l32 => k_is)
    (case c32 => k_is)
    (case k32 => k_is)
    (case a33 => k_is)
    (case l33 => k_is)
    (case c33 => k_is)
    (case k33 => k_is)
    (case a34 => k_is)
    (case l34 => k_is)
    (case c34 => k_is)
    (case k34 => k_is)
    (case a35 => k_is)
    (case l35 => k_is)
    (case c35 => k_is)
    (case k35 => k_is)
    (case a36 => k_is)
    (case l36 => k_is)
    (case c36 => k_is)
    (case k36 => k_is)
    (case za0 => k_is)
    (case zl0 => k_is)
    (case za1 => k_is)
    (case zl1 => k_is)
    (case n_len => k_is)
    (case n_int => k_is)
    (case n_abs => k_is)
    (case n_min => k_is)
    (case n_sum => k_is)
    (case n_all => k_is)
    (case n_any => k_is)
    (case n_tuple => k_is)
    (case n_list => k_is)
    (case n_bool => k_is)
    (case n_str => k_is)
    (case n_isinstance => k_is)
    (case n_range => k_is)
    (case n_enumerate => k_is)
    (case n_zip => k_is)
    (case n_gcd => k_is)
    (case e_gl => k_is)
    (case g_E => k_is)
    (case g_C => k_is)
    (case g_V => k_is)
    (case e_kp => k_is)
    (case e_ex => k_exc)
    (case e_sb => k_is)
    (case e_ty => k_is)
    (case x_hg => k_is)
    (case x_hk => k_is)
    (case x_hs => k_is)
    (case x_hd => k_is)
    (case x_ha => k_is)
    (case x_hn => k_is)
    (case x_ht => k_is)
    (case x_hm => k_is)
    (case y_1 => k_is)
    (case y_2 => k_is)
    (case y_3 => k_is)
    (case y_4 => k_is)
    (case k_Ea => first | rfl | decide)
    (case k_Eb => k_is)
    (case k_Ec => k_is)
    (case k_Ed => k_is)
    (case k_Va => decide +kernel)
    (case k_Vb => k_is)
    (case k_Ca => first | rfl | decide)
    (case k_Cb => k_is)
    (case k_Cc => k_is)
    (case k_Cd => k_is)
