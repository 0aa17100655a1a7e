import PyProof.Rows.All
import Wide.All
import OpenK.AllK
import Wide.FinOn
import HandS.ForMost
import HandS.Walk
import HandS.Wide
import HandS.TupAny
import HandS.Style
import HandS.StrMore
import HandS.IsInst
import HandS.Conv
import KE.GoesEnum
import KE.GoesZip
import KE.BitLaws
import KE.OsArith
import HandS.Text
import HandS.NoneIn
import PySem.Challenge.RW_guardedwires_k01_whole_gates_as_tables_o
set_option Elab.async false
set_option linter.all false
set_option maxRecDepth 100000
set_option autoImplicit false
set_option maxHeartbeats 2000000
set_option Elab.async false
set_option linter.all false
set_option maxRecDepth 100000
set_option autoImplicit false
/-! DL1: plain data over the hand layer: values as data (D), mutable objects as numbered cells, expressions in continuation form. -/
namespace DL
open PySem L2

/-- plain data; ref: a thing that is only handed on; cell: a mutable object by its number -/
inductive D where
  | non | bl (b : Bool) | int (i : Int) | str (s : Str) | ty (n : String) | ref (a : Addr)
  | tup (ds : List D) | lst (ds : List D)
  | cell (k : Nat)
  | scr (ns : List Int)

/-- what a cell holds -/
inductive C where
  | lst (ds : List D)
  | dct (kvs : List (Key × D))
  | ins (C : Addr) (fs : List (Str × D))
  | dead

abbrev Om := List C
abbrev Ro := List (Option D)

/-- a list that stays: frozen -/
def SqF (H : Hp) (a : Addr) (xs : List V) : Prop := ∃ o, H a = some (.frz o (.lst xs))
/-- the script: frozen, or of the written part -/
def SqS (K : PySem.W.Frag) (H : Hp) (a : Addr) (xs : List V) : Prop :=
  (∃ o, H a = some (.frz o (.lst xs))) ∨
    ∃ (o : Obj) (its : Array Value) (n : Nat), K.lookup a = some o ∧ o.cls = .type "list" ∧ o.dict = none ∧ o.data = .seq its n ∧ its.size ≤ sizeLine ∧ Vals xs its.toList
theorem SqS.sq {K : PySem.W.Frag} {H : Hp} {a : Addr} {xs : List V} (h : SqS K H a xs) : SqL K H a xs := by
  rcases h with ⟨o, h⟩ | h
  · exact .inl (.inr ⟨o, h⟩)
  · exact .inr h
theorem SqF.sq {K : PySem.W.Frag} {H : Hp} {a : Addr} {xs : List V} (h : SqF H a xs) : SqL K H a xs := .inl (.inr h)

section
variable (K : PySem.W.Frag) (H : Hp) (π : List Addr)
mutual
def Z : D → V → Prop
  | .non, v => v = .non
  | .bl b, v => v = .bl b
  | .int i, v => v = .int i
  | .str s, v => v = .str s
  | .ty n, v => v = .ty n
  | .ref a, v => v = .ref a
  | .tup ds, v => ∃ a vs, v = .ref a ∧ SqT K H a vs ∧ ZL ds vs
  | .lst ds, v => ∃ a vs, v = .ref a ∧ SqF H a vs ∧ ZL ds vs
  | .cell k, v => ∃ a, v = .ref a ∧ π[k]? = some a
  | .scr ns, v => ∃ a, v = .ref a ∧ SqS K H a (ns.map V.int)
def ZL : List D → List V → Prop
  | [], vs => vs = []
  | d :: ds, vs => ∃ v r, vs = v :: r ∧ Z d v ∧ ZL ds r
end
end

/-- one step of the abstract heap and its cells -/
structure Stp (H : Hp) (π : List Addr) (H' : Hp) (π' : List Addr) : Prop where
  tup : ∀ b xs, H b = some (.tup xs) → H' b = some (.tup xs)
  frz : ∀ b o u, H b = some (.frz o u) → H' b = some (.frz o u)
  pre : ∀ (k : Nat) a, π[k]? = some a → π'[k]? = some a
  frm : ∀ b o, H b = some o → b ∉ π → H' b = some o
  new : ∀ b, b ∈ π' → b ∉ π → H b = none
theorem Stp.refl (H : Hp) (π : List Addr) : Stp H π H π := ⟨fun _ _ e => e, fun _ _ _ e => e, fun _ _ e => e, fun _ _ e _ => e, fun _ h n => absurd h n⟩
theorem Stp.trans {H H1 H2 : Hp} {π π1 π2 : List Addr} (a : Stp H π H1 π1) (b : Stp H1 π1 H2 π2) : Stp H π H2 π2 where
  tup := fun c xs e => b.tup c xs (a.tup c xs e)
  frz := fun c o u e => b.frz c o u (a.frz c o u e)
  pre := fun k c e => b.pre k c (a.pre k c e)
  frm := fun c o e n => b.frm c o (a.frm c o e n) fun h1 => by
    have := a.new c h1 n
    rw [e] at this; cases this
  new := fun c h n => by
    by_cases h1 : c ∈ π1
    · exact a.new c h1 n
    · have h2 := b.new c h h1
      cases q : H c with
      | none => rfl
      | some o => rw [a.frm c o q n] at h2; cases h2
/-- a new object, not a cell -/
theorem Stp.obj {H : Hp} {π : List Addr} {p : Addr} {o : HO} (h : H p = none) : Stp H π (upd H p o) π where
  tup := fun b xs e => by rw [upd_ne (ne_of_none e h)]; exact e
  frz := fun b ob u e => by rw [upd_ne (ne_of_none e h)]; exact e
  pre := fun _ _ e => e
  frm := fun b ob e _ => by rw [upd_ne (ne_of_none e h)]; exact e
  new := fun b h1 h2 => absurd h1 h2

theorem ex_rd {H H' : Hp} {a : Addr} {xs : List V} (ht : ∀ b xs, H b = some (.tup xs) → H' b = some (.tup xs)) (hf : ∀ b o u, H b = some (.frz o u) → H' b = some (.frz o u)) (h : Rd H a (.tup xs)) : Rd H' a (.tup xs) := by
  rcases h with h | ⟨o, h⟩
  · exact .inl (ht _ _ h)
  · exact .inr ⟨o, hf _ _ _ h⟩
theorem SqT.stp {K : PySem.W.Frag} {H H' : Hp} {π π' : List Addr} {a : Addr} {xs : List V} (s : Stp H π H' π') (h : SqT K H a xs) : SqT K H' a xs := by
  rcases h with h | h
  · exact .inl (ex_rd s.tup s.frz h)
  · exact .inr h
theorem SqF.stp {H H' : Hp} {π π' : List Addr} {a : Addr} {xs : List V} (s : Stp H π H' π') (h : SqF H a xs) : SqF H' a xs := by
  obtain ⟨o, h⟩ := h
  exact ⟨o, s.frz _ _ _ h⟩
theorem SqS.stp {K : PySem.W.Frag} {H H' : Hp} {π π' : List Addr} {a : Addr} {xs : List V} (s : Stp H π H' π') (h : SqS K H a xs) : SqS K H' a xs := by
  rcases h with ⟨o, h⟩ | h
  · exact .inl ⟨o, s.frz _ _ _ h⟩
  · exact .inr h

section
variable {K : PySem.W.Frag} {H H' : Hp} {π π' : List Addr}
mutual
theorem Z.stp (s : Stp H π H' π') : ∀ (d : D) (v : V), Z K H π d v → Z K H' π' d v
  | .non, _, h => h
  | .bl _, _, h => h
  | .int _, _, h => h
  | .str _, _, h => h
  | .ty _, _, h => h
  | .ref _, _, h => h
  | .tup ds, _, ⟨a, vs, e, q, z⟩ => ⟨a, vs, e, SqT.stp s q, ZL.stp s ds vs z⟩
  | .lst ds, _, ⟨a, vs, e, q, z⟩ => ⟨a, vs, e, SqF.stp s q, ZL.stp s ds vs z⟩
  | .cell k, _, ⟨a, e, q⟩ => ⟨a, e, s.pre k a q⟩
  | .scr ns, _, ⟨a, e, q⟩ => ⟨a, e, SqS.stp s q⟩
theorem ZL.stp (s : Stp H π H' π') : ∀ (ds : List D) (vs : List V), ZL K H π ds vs → ZL K H' π' ds vs
  | [], _, h => h
  | d :: ds, _, ⟨v, r, e, z, zs⟩ => ⟨v, r, e, Z.stp s d v z, ZL.stp s ds r zs⟩
end
theorem ZL.length : ∀ {ds : List D} {vs : List V}, ZL K H π ds vs → vs.length = ds.length
  | [], _, h => by cases h; rfl
  | d :: ds, _, ⟨v, r, e, _, zs⟩ => by subst e; simp [ZL.length zs]
theorem ZL.get : ∀ {ds : List D} {vs : List V} {i : Nat} {d : D}, ZL K H π ds vs → ds[i]? = some d → ∃ v, vs[i]? = some v ∧ Z K H π d v
  | [], _, _, _, _, e => by simp at e
  | d :: ds, _, 0, d', ⟨v, r, e, z, _⟩, h => by subst e; simp at h; subst h; exact ⟨v, rfl, z⟩
  | d :: ds, _, i + 1, d', ⟨v, r, e, _, zs⟩, h => by
    subst e
    obtain ⟨u, h1, h2⟩ := ZL.get (i := i) zs (by simpa using h)
    exact ⟨u, by simpa using h1, h2⟩
theorem ZL.getV : ∀ {ds : List D} {vs : List V} {i : Nat} {v : V}, ZL K H π ds vs → vs[i]? = some v → ∃ d, ds[i]? = some d ∧ Z K H π d v
  | [], _, _, _, h, e => by cases h; simp at e
  | d :: ds, _, 0, v', ⟨v, r, e, z, _⟩, h => by subst e; simp at h; subst h; exact ⟨d, rfl, z⟩
  | d :: ds, _, i + 1, v', ⟨v, r, e, _, zs⟩, h => by
    subst e
    obtain ⟨u, h1, h2⟩ := ZL.getV (i := i) zs (by simpa using h)
    exact ⟨u, by simpa using h1, h2⟩
theorem ZL.append : ∀ {ds es : List D} {vs us : List V}, ZL K H π ds vs → ZL K H π es us → ZL K H π (ds ++ es) (vs ++ us)
  | [], _, _, _, h, h2 => by cases h; exact h2
  | d :: ds, es, _, us, ⟨v, r, e, z, zs⟩, h2 => by subst e; exact ⟨v, r ++ us, rfl, z, ZL.append zs h2⟩
theorem ZL.one {d : D} {v : V} (h : Z K H π d v) : ZL K H π [d] [v] := ⟨v, [], rfl, h, rfl⟩
theorem ZL.set : ∀ {ds : List D} {vs : List V} {d : D} {v : V} (i : Nat), ZL K H π ds vs → Z K H π d v → ZL K H π (ds.set i d) (vs.set i v)
  | [], _, _, _, _, h, _ => by cases h; rfl
  | d :: ds, _, d', v', 0, ⟨v, r, e, z, zs⟩, h => by subst e; exact ⟨v', r, rfl, h, zs⟩
  | d :: ds, _, d', v', i + 1, ⟨v, r, e, z, zs⟩, h => by subst e; exact ⟨v, r.set i v', rfl, z, ZL.set i zs h⟩
theorem ZL.take : ∀ {ds : List D} {vs : List V} (n : Nat), ZL K H π ds vs → ZL K H π (ds.take n) (vs.take n)
  | _, _, 0, _ => rfl
  | [], _, n + 1, h => by cases h; rfl
  | d :: ds, _, n + 1, ⟨v, r, e, z, zs⟩ => by subst e; exact ⟨v, r.take n, rfl, z, ZL.take n zs⟩
theorem ZL.drop : ∀ {ds : List D} {vs : List V} (n : Nat), ZL K H π ds vs → ZL K H π (ds.drop n) (vs.drop n)
  | _, _, 0, h => h
  | [], _, n + 1, h => by cases h; rfl
  | d :: ds, _, n + 1, ⟨v, r, e, z, zs⟩ => by subst e; exact ZL.drop n zs
theorem ZL.eraseIdx : ∀ {ds : List D} {vs : List V} (n : Nat), ZL K H π ds vs → ZL K H π (ds.eraseIdx n) (vs.eraseIdx n)
  | [], _, n, h => by cases h; simp; rfl
  | d :: ds, _, 0, ⟨v, r, e, z, zs⟩ => by subst e; exact zs
  | d :: ds, _, n + 1, ⟨v, r, e, z, zs⟩ => by subst e; exact ⟨v, r.eraseIdx n, rfl, z, ZL.eraseIdx n zs⟩
theorem ZL.reverse : ∀ {ds : List D} {vs : List V}, ZL K H π ds vs → ZL K H π ds.reverse vs.reverse
  | [], _, h => by cases h; rfl
  | d :: ds, _, ⟨v, r, e, z, zs⟩ => by
    subst e
    rw [List.reverse_cons, List.reverse_cons]
    exact ZL.append (ZL.reverse zs) (ZL.one z)
theorem ZL.intsV : ∀ {ns : List Int} {vs : List V}, ZL K H π (ns.map .int) vs → vs = ns.map V.int
  | [], _, h => h
  | n :: ns, _, ⟨v, r, e, z, zs⟩ => by
    have z' : v = V.int n := z
    rw [e, z', ZL.intsV zs]; rfl
theorem ZL.ofInts : ∀ {ns : List Int}, ZL K H π (ns.map .int) (ns.map V.int)
  | [] => rfl
  | n :: ns => ⟨.int n, _, rfl, rfl, ZL.ofInts⟩
theorem ZL.strsV : ∀ {ns : List Str} {vs : List V}, ZL K H π (ns.map .str) vs → vs = ns.map V.str
  | [], _, h => h
  | n :: ns, _, ⟨v, r, e, z, zs⟩ => by
    have z' : v = V.str n := z
    rw [e, z', ZL.strsV zs]; rfl
theorem ZL.ofStrs : ∀ {ns : List Str}, ZL K H π (ns.map .str) (ns.map V.str)
  | [] => rfl
  | n :: ns => ⟨.str n, _, rfl, rfl, ZL.ofStrs⟩
theorem ZL.blsV : ∀ {ns : List Bool} {vs : List V}, ZL K H π (ns.map .bl) vs → vs = ns.map V.bl
  | [], _, h => h
  | n :: ns, _, ⟨v, r, e, z, zs⟩ => by
    have z' : v = V.bl n := z
    rw [e, z', ZL.blsV zs]; rfl
end

/-- a cell's object -/
def CR (K : PySem.W.Frag) (H : Hp) (π : List Addr) (a : Addr) : C → Prop
  | .lst ds => ∃ vs, H a = some (.lst vs) ∧ ZL K H π ds vs
  | .dct kvs => ∃ kvs', H a = some (.dK kvs') ∧ kvs'.map (·.1) = kvs.map (·.1) ∧ ZL K H π (kvs.map (·.2)) (kvs'.map (·.2))
  | .ins C fs => ∃ dx fs', H a = some (.ins C dx fs') ∧ fs'.map (·.1) = fs.map (·.1) ∧ ZL K H π (fs.map (·.2)) (fs'.map (·.2))
  | .dead => True
structure HR (K : PySem.W.Frag) (H : Hp) (π : List Addr) (ω : Om) : Prop where
  len : π.length = ω.length
  nd : π.Nodup
  som : ∀ a ∈ π, H a ≠ none
  cr : ∀ (k : Nat) c, ω[k]? = some c → ∃ a, π[k]? = some a ∧ CR K H π a c

def look : Ro → Nat → Option D
  | [], _ => none
  | d :: _, 0 => d
  | _ :: r, n + 1 => look r n
def put : Ro → Nat → D → Ro
  | [], _, _ => []
  | _ :: r, 0, d => some d :: r
  | x :: r, n + 1, d => x :: put r n d
theorem put_len : ∀ (ρ : Ro) (i : Nat) (d : D), (put ρ i d).length = ρ.length
  | [], _, _ => rfl
  | _ :: r, 0, _ => rfl
  | _ :: r, n + 1, d => by simp [put, put_len r n d]
theorem look_put_ne : ∀ (ρ : Ro) (i j : Nat) (d : D), j ≠ i → look (put ρ i d) j = look ρ j
  | [], _, _, _, _ => rfl
  | _ :: r, 0, 0, _, h => absurd rfl h
  | _ :: r, 0, j + 1, _, _ => rfl
  | _ :: r, i + 1, 0, _, _ => rfl
  | _ :: r, i + 1, j + 1, d, h => by
    show look (put r i d) j = look r j
    exact look_put_ne r i j d (fun e => h (by rw [e]))
theorem look_put_eq : ∀ (ρ : Ro) (i : Nat) (d : D), look (put ρ i d) i = (if i < ρ.length then some d else none)
  | [], i, _ => by simp [put, look]
  | _ :: r, 0, _ => by simp [put, look]
  | _ :: r, i + 1, d => by
    show look (put r i d) i = _
    rw [look_put_eq r i d]
    simp

/-- what the data say of the frame and the heap -/
structure Gd (K : PySem.W.Frag) (ρ : Ro) (ω : Om) (σ : St) (H : Hp) (π : List Addr) : Prop where
  len : ρ.length = σ.length
  env : ∀ i d, look ρ i = some d → ∃ v, σ[i]? = some (some v) ∧ Z K H π d v
  hr : HR K H π ω
theorem Gd.mono {K : PySem.W.Frag} {ρ : Ro} {ω ω' : Om} {σ : St} {H H' : Hp} {π π' : List Addr} (g : Gd K ρ ω σ H π) (s : Stp H π H' π') (h : HR K H' π' ω') : Gd K ρ ω' σ H' π' :=
  ⟨g.len, fun i d e => let ⟨v, e1, z⟩ := g.env i d e; ⟨v, e1, Z.stp s d v z⟩, h⟩
theorem Gd.put {K : PySem.W.Frag} {ρ : Ro} {ω : Om} {σ : St} {H : Hp} {π : List Addr} {i : Nat} {d : D} {v : V} (g : Gd K ρ ω σ H π) (z : Z K H π d v) : Gd K (put ρ i d) ω (σ.set i (some v)) H π := by
  refine ⟨by rw [put_len, List.length_set]; exact g.len, fun j d' e => ?_, g.hr⟩
  by_cases hj : j = i
  · subst hj
    rw [look_put_eq] at e
    split at e
    · rename_i hlt
      cases e
      exact ⟨v, List.getElem?_set_self (by rw [← g.len]; exact hlt), z⟩
    · cases e
  · rw [look_put_ne _ _ _ _ hj] at e
    obtain ⟨u, e1, z1⟩ := g.env j d' e
    exact ⟨u, by rw [List.getElem?_set_ne (Ne.symm hj)]; exact e1, z1⟩

/-! ### the canonical readings -/
def sE (X : Cx) (e : Expr) : TE := fun σ H Q => ∃ t, PE X e t ∧ t σ H Q
def sT (X : Cx) (e : Expr) : TT := fun σ H Q => ∃ t, PT X e t ∧ t σ H Q
def sA (X : Cx) (es : List Expr) : TA := fun σ H Q => ∃ t, PA X es t ∧ t σ H Q
def sS (X : Cx) (st : Stmt) : TS := fun D σ H => ∃ t, PS X st t ∧ t D σ H
def sSs (X : Cx) (st : List Stmt) : TS := fun D σ H => ∃ t, PSs X st t ∧ t D σ H
def sG (X : Cx) (tg : Expr) : TG := fun v σ H Q => ∃ t, PG X tg t ∧ t v σ H Q
def sGs (X : Cx) (tg : List Expr) : TGs := fun v σ H Q => ∃ t, PGs X tg t ∧ t v σ H Q
def sI (X : Cx) (tg e : Expr) : TI := fun σ H R => ∃ t, PI X tg e t ∧ t σ H R
def sO (X : Cx) (e : Option Expr) : TO := fun σ H Q => ∃ t, PO X e t ∧ t σ H Q
theorem pe_s {X : Cx} {e : Expr} : PE X e (sE X e) := ⟨fun pins s σ H Q I ⟨_, p, h⟩ => p.run pins s σ H Q I h⟩
theorem pt_s {X : Cx} {e : Expr} : PT X e (sT X e) := ⟨fun pins s σ H Q I ⟨_, p, h⟩ => p.run pins s σ H Q I h⟩
theorem pa_s {X : Cx} {e : List Expr} : PA X e (sA X e) := ⟨fun pos pins s σ H Q I ⟨_, p, h⟩ => p.run pos pins s σ H Q I h⟩
theorem ps_s {X : Cx} {e : Stmt} : PS X e (sS X e) := ⟨fun pins s σ H D I ⟨_, p, h⟩ => p.run pins s σ H D I h⟩
theorem pss_s {X : Cx} {e : List Stmt} : PSs X e (sSs X e) := ⟨fun pins s σ H D I ⟨_, p, h⟩ => p.run pins s σ H D I h⟩
theorem pg_s {X : Cx} {e : Expr} : PG X e (sG X e) := ⟨fun pins s σ H v u Q I r ⟨_, p, h⟩ => p.run pins s σ H v u Q I r h⟩
theorem pgs_s {X : Cx} {e : List Expr} : PGs X e (sGs X e) := ⟨fun pins s σ H v u Q I r ⟨_, p, h⟩ => p.run pins s σ H v u Q I r h⟩
theorem pi_s {X : Cx} {tg e : Expr} : PI X tg e (sI X tg e) := ⟨fun pins s σ H Q I ⟨_, p, h⟩ => p.run pins s σ H Q I h⟩

/-! ### judgements by data -/
/-- the end of a reading at data -/
def Kt (K : PySem.W.Frag) (H : Hp) (π : List Addr) (Q : D → Om → Prop) (R : VK) : Prop :=
  ∀ v H' π' d ω', Q d ω' → Stp H π H' π' → HR K H' π' ω' → Z K H' π' d v → R v H'
def EV (X : Cx) (e : Expr) (ρ : Ro) (ω : Om) (Q : D → Om → Prop) : Prop :=
  ∀ σ H π R, Gd X.K ρ ω σ H π → Kt X.K H π Q R → sE X e σ H R
def ET (X : Cx) (e : Expr) (ρ : Ro) (ω : Om) (Q : Bool → Om → Prop) : Prop :=
  ∀ σ H π (R : Bool → Hp → Prop), Gd X.K ρ ω σ H π → (∀ b H' π' ω', Q b ω' → Stp H π H' π' → HR X.K H' π' ω' → R b H') → sT X e σ H R
def EA (X : Cx) (es : List Expr) (ρ : Ro) (ω : Om) (Q : List D → Om → Prop) : Prop :=
  ∀ σ H π (R : List V → Hp → Prop), Gd X.K ρ ω σ H π → (∀ vs H' π' ds ω', Q ds ω' → Stp H π H' π' → HR X.K H' π' ω' → ZL X.K H' π' ds vs → R vs H') → sA X es σ H R
/-- a new list, known to nobody yet -/
def EL (X : Cx) (e : Expr) (ρ : Ro) (ω : Om) (Q : List D → Om → Prop) : Prop :=
  ∀ σ H π (R : VK), Gd X.K ρ ω σ H π →
    (∀ p vs H' π' ds ω', Q ds ω' → Stp H π H' π' → HR X.K H' π' ω' → H' p = some (.lst vs) → p ∉ π' → H p = none → ZL X.K H' π' ds vs → R (.ref p) H') → sE X e σ H R
/-- what is wanted behind statements -/
structure Po where
  nx : Ro → Om → Prop
  rt : D → Om → Prop
  bk : Ro → Om → Prop := fun _ _ => False
  ct : Ro → Om → Prop := fun _ _ => False
structure Eok (K : PySem.W.Frag) (H : Hp) (π : List Addr) (P : Po) (E : Ends) : Prop where
  nx : ∀ σ' H' π' ρ' ω', P.nx ρ' ω' → Stp H π H' π' → Gd K ρ' ω' σ' H' π' → E.nx σ' H'
  rt : Kt K H π P.rt E.rt
  bk : ∀ σ' H' π' ρ' ω', P.bk ρ' ω' → Stp H π H' π' → Gd K ρ' ω' σ' H' π' → E.bk σ' H'
  ct : ∀ σ' H' π' ρ' ω', P.ct ρ' ω' → Stp H π H' π' → Gd K ρ' ω' σ' H' π' → E.ct σ' H'
def WS (X : Cx) (sts : List Stmt) (ρ : Ro) (ω : Om) (P : Po) : Prop :=
  ∀ σ H π E, Gd X.K ρ ω σ H π → Eok X.K H π P E → sSs X sts E σ H
def W1 (X : Cx) (st : Stmt) (ρ : Ro) (ω : Om) (P : Po) : Prop :=
  ∀ σ H π E, Gd X.K ρ ω σ H π → Eok X.K H π P E → sS X st E σ H
/-- a target takes data -/
def AG (X : Cx) (tg : Expr) (d : D) (ρ : Ro) (ω : Om) (N : Ro → Om → Prop) : Prop :=
  ∀ σ H π v (R : St → Hp → Prop), Gd X.K ρ ω σ H π → Z X.K H π d v → (∀ σ' H' π' ρ' ω', N ρ' ω' → Stp H π H' π' → Gd X.K ρ' ω' σ' H' π' → R σ' H') → sG X tg v σ H R
def AGs (X : Cx) (tgs : List Expr) (ds : List D) (ρ : Ro) (ω : Om) (N : Ro → Om → Prop) : Prop :=
  ∀ σ H π vs (R : St → Hp → Prop), Gd X.K ρ ω σ H π → ZL X.K H π ds vs → (∀ σ' H' π' ρ' ω', N ρ' ω' → Stp H π H' π' → Gd X.K ρ' ω' σ' H' π' → R σ' H') → sGs X tgs vs σ H R

section
variable {K : PySem.W.Frag} {H H1 : Hp} {π π1 : List Addr} {Q : D → Om → Prop} {R : VK}
theorem Kt.from (k : Kt K H π Q R) (s : Stp H π H1 π1) : Kt K H1 π1 Q R := fun v H' π' d ω' q s' h z => k v H' π' d ω' q (s.trans s') h z
theorem Eok.from {P : Po} {E : Ends} (k : Eok K H π P E) (s : Stp H π H1 π1) : Eok K H1 π1 P E :=
  ⟨fun a b c d e n t g => k.nx a b c d e n (s.trans t) g, k.rt.from s, fun a b c d e n t g => k.bk a b c d e n (s.trans t) g, fun a b c d e n t g => k.ct a b c d e n (s.trans t) g⟩
end

/-! ### reading through cells -/
/-- the data that a reader meets -/
def rd (d : D) (ω : Om) : D :=
  match d with
  | .cell k => match ω[k]? with
    | some (.lst ds) => .lst ds
    | _ => .cell k
  | d => d
theorem rd_of {d : D} {ω : Om} (h : ∀ k, d ≠ .cell k) : rd d ω = d := by
  cases d <;> first | rfl | exact absurd rfl (h _)
theorem rd_cell {k : Nat} {ω : Om} {ds : List D} (h : ω[k]? = some (.lst ds)) : rd (.cell k) ω = .lst ds := by
  simp [rd, h]
/-- a list is read -/
theorem read_lst {K : PySem.W.Frag} {H : Hp} {π : List Addr} {ω : Om} {d : D} {v : V} {ds : List D} (h : HR K H π ω) (z : Z K H π d v) (e : rd d ω = .lst ds) : ∃ a vs, v = .ref a ∧ Rd H a (.lst vs) ∧ ZL K H π ds vs := by
  cases d with
  | cell k =>
    unfold rd at e
    simp only at e
    split at e
    · rename_i ds' q
      cases e
      obtain ⟨a, ha, vs, hv, zs⟩ := h.cr k _ q
      obtain ⟨a', ev, ha'⟩ := z
      rw [ha] at ha'; cases ha'
      exact ⟨a, vs, ev, .inl hv, zs⟩
    · cases e
  | lst es =>
    cases e
    obtain ⟨a, vs, ev, q, zs⟩ := z
    exact ⟨a, vs, ev, .inr q, zs⟩
  | _ => cases e
theorem read_tup {K : PySem.W.Frag} {H : Hp} {π : List Addr} {ω : Om} {d : D} {v : V} {ds : List D} (z : Z K H π d v) (e : rd d ω = .tup ds) : ∃ a vs, v = .ref a ∧ SqT K H a vs ∧ ZL K H π ds vs := by
  cases d with
  | cell k =>
    unfold rd at e
    simp only at e
    split at e <;> cases e
  | tup es => cases e; exact z
  | _ => cases e
theorem read_int {K : PySem.W.Frag} {H : Hp} {π : List Addr} {ω : Om} {d : D} {v : V} {i : Int} (z : Z K H π d v) (e : rd d ω = .int i) : v = .int i := by
  cases d with
  | cell k => unfold rd at e; simp only at e; split at e <;> cases e
  | int j => cases e; exact z
  | _ => cases e
theorem read_str {K : PySem.W.Frag} {H : Hp} {π : List Addr} {ω : Om} {d : D} {v : V} {i : Str} (z : Z K H π d v) (e : rd d ω = .str i) : v = .str i := by
  cases d with
  | cell k => unfold rd at e; simp only at e; split at e <;> cases e
  | str j => cases e; exact z
  | _ => cases e
theorem read_bl {K : PySem.W.Frag} {H : Hp} {π : List Addr} {ω : Om} {d : D} {v : V} {i : Bool} (z : Z K H π d v) (e : rd d ω = .bl i) : v = .bl i := by
  cases d with
  | cell k => unfold rd at e; simp only at e; split at e <;> cases e
  | bl j => cases e; exact z
  | _ => cases e
theorem read_non {K : PySem.W.Frag} {H : Hp} {π : List Addr} {ω : Om} {d : D} {v : V} (z : Z K H π d v) (e : rd d ω = .non) : v = .non := by
  cases d with
  | cell k => unfold rd at e; simp only at e; split at e <;> cases e
  | non => exact z
  | _ => cases e

/-! ### the heap's cells change -/
section
variable {K : PySem.W.Frag} {H : Hp} {π : List Addr} {ω : Om}
theorem CR.stp {H' : Hp} {π' : List Addr} {a : Addr} {c : C} (s : Stp H π H' π') (e : H' a = H a) (h : CR K H π a c) : CR K H' π' a c := by
  cases c with
  | lst ds => obtain ⟨vs, h1, h2⟩ := h; exact ⟨vs, e.trans h1, ZL.stp s _ _ h2⟩
  | dct kvs => obtain ⟨vs, h1, h2, h3⟩ := h; exact ⟨vs, e.trans h1, h2, ZL.stp s _ _ h3⟩
  | ins c fs => obtain ⟨dx, fs', h1, h2, h3⟩ := h; exact ⟨dx, fs', e.trans h1, h2, ZL.stp s _ _ h3⟩
  | dead => trivial
/-- a new object that is no cell -/
theorem HR.obj {p : Addr} {o : HO} (h : HR K H π ω) (hp : H p = none) : HR K (upd H p o) π ω := by
  have hne : ∀ a ∈ π, a ≠ p := fun a ha e => h.som a ha (e ▸ hp)
  refine ⟨h.len, h.nd, fun a ha => by rw [upd_ne (hne a ha)]; exact h.som a ha, fun k c e => ?_⟩
  obtain ⟨a, ha, q⟩ := h.cr k c e
  exact ⟨a, ha, q.stp (Stp.obj hp) (upd_ne (hne a (List.mem_of_getElem? ha)))⟩
/-- a cell is written -/
theorem Stp.cell {k : Nat} {a : Addr} {o : HO} (ha : π[k]? = some a) (ht : ∀ xs, H a ≠ some (.tup xs)) (hf : ∀ b u, H a ≠ some (.frz b u)) : Stp H π (upd H a o) π where
  tup := fun b xs e => by rw [upd_ne (show b ≠ a from fun z => by rw [z] at e; exact ht xs e)]; exact e
  frz := fun b ob u e => by rw [upd_ne (show b ≠ a from fun z => by rw [z] at e; exact hf ob u e)]; exact e
  pre := fun _ _ e => e
  frm := fun b ob e n => by rw [upd_ne (show b ≠ a from fun z => n (by rw [z]; exact List.mem_of_getElem? ha))]; exact e
  new := fun b h1 h2 => absurd h1 h2
theorem nodup_get {α : Type} : ∀ {l : List α} {i j : Nat} {a : α}, l.Nodup → l[i]? = some a → l[j]? = some a → i = j
  | [], _, _, _, _, h, _ => by simp at h
  | x :: l, 0, 0, _, _, _, _ => rfl
  | x :: l, 0, j + 1, a, nd, h1, h2 => by
    simp at h1 h2
    subst h1
    exact absurd (List.mem_of_getElem? h2) (List.nodup_cons.mp nd).1
  | x :: l, i + 1, 0, a, nd, h1, h2 => by
    simp at h1 h2
    subst h2
    exact absurd (List.mem_of_getElem? h1) (List.nodup_cons.mp nd).1
  | x :: l, i + 1, j + 1, a, nd, h1, h2 => by
    have q := nodup_get (i := i) (j := j) (a := a) (List.nodup_cons.mp nd).2 (by simpa using h1) (by simpa using h2)
    rw [q]
theorem HR.cell {k : Nat} {a : Addr} {o : HO} {c : C} (h : HR K H π ω) (ha : π[k]? = some a) (s : Stp H π (upd H a o) π) (q : CR K (upd H a o) π a c) : HR K (upd H a o) π (ω.set k c) := by
  refine ⟨by rw [List.length_set]; exact h.len, h.nd, fun b hb => ?_, fun j c' e => ?_⟩
  · by_cases z : b = a
    · subst z; rw [upd_same]; simp
    · rw [upd_ne z]; exact h.som b hb
  · by_cases hj : j = k
    · subst hj
      have hlt : j < ω.length := by
        rw [← h.len]
        exact (List.getElem?_eq_some_iff.mp ha).1
      rw [List.getElem?_set_self hlt] at e
      cases e
      exact ⟨a, ha, q⟩
    · rw [List.getElem?_set_ne (Ne.symm hj)] at e
      obtain ⟨b, hb, r⟩ := h.cr j c' e
      refine ⟨b, hb, r.stp s (upd_ne fun z => ?_)⟩
      subst z
      exact hj (nodup_get h.nd hb ha)
/-- a new list becomes a cell -/
theorem Stp.newCell {p : Addr} {H0 : Hp} {π0 : List Addr} (s : Stp H0 π0 H π) (h0 : H0 p = none) (np : p ∉ π) : Stp H0 π0 H (π ++ [p]) where
  tup := s.tup
  frz := s.frz
  pre := fun k a e => by
    have := s.pre k a e
    rw [List.getElem?_append_left (List.getElem?_eq_some_iff.mp this).1]; exact this
  frm := s.frm
  new := fun b h1 h2 => by
    rcases List.mem_append.mp h1 with h | h
    · exact s.new b h h2
    · have : b = p := by simpa using h
      subst this; exact h0
theorem Stp.ext {p : Addr} (np : p ∉ π) : ∀ (k : Nat) a, π[k]? = some a → (π ++ [p])[k]? = some a := fun k a e => by
  rw [List.getElem?_append_left (List.getElem?_eq_some_iff.mp e).1]; exact e
mutual
theorem Z.ext {π' : List Addr} (hx : ∀ (k : Nat) a, π[k]? = some a → π'[k]? = some a) : ∀ (d : D) (v : V), Z K H π d v → Z K H π' d v
  | .non, _, h => h
  | .bl _, _, h => h
  | .int _, _, h => h
  | .str _, _, h => h
  | .ty _, _, h => h
  | .ref _, _, h => h
  | .tup ds, _, ⟨a, vs, e, q, z⟩ => ⟨a, vs, e, q, ZL.ext hx ds vs z⟩
  | .lst ds, _, ⟨a, vs, e, q, z⟩ => ⟨a, vs, e, q, ZL.ext hx ds vs z⟩
  | .cell k, _, ⟨a, e, q⟩ => ⟨a, e, hx k a q⟩
  | .scr ns, _, ⟨a, e, q⟩ => ⟨a, e, q⟩
theorem ZL.ext {π' : List Addr} (hx : ∀ (k : Nat) a, π[k]? = some a → π'[k]? = some a) : ∀ (ds : List D) (vs : List V), ZL K H π ds vs → ZL K H π' ds vs
  | [], _, h => h
  | d :: ds, _, ⟨v, r, e, z, zs⟩ => ⟨v, r, e, Z.ext hx d v z, ZL.ext hx ds r zs⟩
end
theorem CR.ext {π' : List Addr} (hx : ∀ (k : Nat) a, π[k]? = some a → π'[k]? = some a) {a : Addr} {c : C} (h : CR K H π a c) : CR K H π' a c := by
  cases c with
  | lst ds => obtain ⟨vs, h1, h2⟩ := h; exact ⟨vs, h1, ZL.ext hx _ _ h2⟩
  | dct kvs => obtain ⟨vs, h1, h2, h3⟩ := h; exact ⟨vs, h1, h2, ZL.ext hx _ _ h3⟩
  | ins c fs => obtain ⟨dx, fs', h1, h2, h3⟩ := h; exact ⟨dx, fs', h1, h2, ZL.ext hx _ _ h3⟩
  | dead => trivial
theorem HR.newCell {p : Addr} {c : C} (h : HR K H π ω) (np : p ∉ π) (hs : H p ≠ none) (q : CR K H (π ++ [p]) p c) : HR K H (π ++ [p]) (ω ++ [c]) := by
  refine ⟨by simp [h.len], ?_, fun a ha => ?_, fun k c' e => ?_⟩
  · rw [List.nodup_append]
    exact ⟨h.nd, by simp, fun a ha b hb e => by simp at hb; subst hb; subst e; exact np ha⟩
  · rcases List.mem_append.mp ha with z | z
    · exact h.som a z
    · have : a = p := by simpa using z
      subst this; exact hs
  · by_cases hk : k < ω.length
    · rw [List.getElem?_append_left hk] at e
      obtain ⟨a, ha, r⟩ := h.cr k c' e
      exact ⟨a, Stp.ext np k a ha, r.ext (Stp.ext np)⟩
    · have hk' : k = ω.length := by
        have := (List.getElem?_eq_some_iff.mp e).1
        simp at this
        omega
      subst hk'
      rw [List.getElem?_append_right (Nat.le_refl _)] at e
      simp at e
      subst e
      exact ⟨p, by rw [← h.len, List.getElem?_append_right (Nat.le_refl _)]; simp, q⟩
end

/-! ### freezing: a list that is never written again -/
theorem inv_freeze {X : Cx} {pins : List (Addr × Obj)} {σ : St} {H : Hp} {s : Shared} {p : Addr} {vs : List V} (I : Inv X pins σ H s) (h : H p = some (.lst vs)) : ∃ o, Inv X pins σ (upd H p (.frz o (.lst vs))) s := I.lock h trivial
/-- the value of e is a list, frozen from here on -/
def tFrz (t : TE) : TE := fun σ H Q => t σ H fun v H1 => ∃ p vs, v = .ref p ∧ H1 p = some (.lst vs) ∧ ∀ o, Q v (upd H1 p (.frz o (.lst vs)))
theorem pe_frz {X : Cx} {e : Expr} {t : TE} (h : PE X e t) : PE X e (tFrz t) := by
  refine ⟨fun pins s σ H Q I hw => ?_⟩
  refine thn (h.run pins s σ H _ I hw) fun u s1 ⟨v, H1, I1, r, p, vs, ev, hp, q⟩ => ?_
  obtain ⟨o, I2⟩ := inv_freeze I1 hp
  exact ⟨v, _, I2, r, q o⟩
/-- or not -/
def tFrz? (t : TE) : TE := fun σ H Q => t σ H fun v H1 => Q v H1 ∨ ∃ p vs, v = .ref p ∧ H1 p = some (.lst vs) ∧ ∀ o, Q v (upd H1 p (.frz o (.lst vs)))
theorem pe_frz? {X : Cx} {e : Expr} {t : TE} (h : PE X e t) : PE X e (tFrz? t) := by
  refine ⟨fun pins s σ H Q I hw => ?_⟩
  refine thn (h.run pins s σ H _ I hw) fun u s1 ⟨v, H1, I1, r, q⟩ => ?_
  rcases q with q | ⟨p, vs, ev, hp, q⟩
  · exact ⟨v, _, I1, r, q⟩
  · obtain ⟨o, I2⟩ := inv_freeze I1 hp
    exact ⟨v, _, I2, r, q o⟩
theorem Stp.frzNew {H0 H : Hp} {π0 π : List Addr} {p : Addr} {o : HO} (s : Stp H0 π0 H π) (h0 : H0 p = none) : Stp H0 π0 (upd H p o) π where
  tup := fun b xs e => by rw [upd_ne (ne_of_none e h0)]; exact s.tup b xs e
  frz := fun b ob u e => by rw [upd_ne (ne_of_none e h0)]; exact s.frz b ob u e
  pre := s.pre
  frm := fun b ob e n => by rw [upd_ne (ne_of_none e h0)]; exact s.frm b ob e n
  new := s.new
/-- an untracked-by-cells list is frozen: what stood, stands -/
theorem Stp.frzAt {H : Hp} {π : List Addr} {p : Addr} {vs : List V} {o : Obj} (hp : H p = some (.lst vs)) : ∀ b xs, H b = some (.tup xs) → (upd H p (.frz o (.lst vs))) b = some (.tup xs) := fun b xs e => by
  rw [upd_ne (fun z => by subst z; rw [hp] at e; cases e)]; exact e
section
variable {X : Cx} {e : Expr} {ρ : Ro} {ω : Om} {Q : D → Om → Prop}
mutual
theorem Z.upd {K : PySem.W.Frag} {H H' : Hp} {π : List Addr} (ht : ∀ b xs, H b = some (.tup xs) → H' b = some (.tup xs)) (hf : ∀ b o u, H b = some (.frz o u) → H' b = some (.frz o u)) : ∀ (d : D) (v : V), Z K H π d v → Z K H' π d v
  | .non, _, h => h
  | .bl _, _, h => h
  | .int _, _, h => h
  | .str _, _, h => h
  | .ty _, _, h => h
  | .ref _, _, h => h
  | .tup ds, _, ⟨a, vs, e, q, z⟩ => ⟨a, vs, e, by
      rcases q with q | q
      · exact .inl (ex_rd ht hf q)
      · exact .inr q, ZL.upd ht hf ds vs z⟩
  | .lst ds, _, ⟨a, vs, e, q, z⟩ => ⟨a, vs, e, by
      obtain ⟨o, q⟩ := q
      exact ⟨o, hf _ _ _ q⟩, ZL.upd ht hf ds vs z⟩
  | .cell k, _, ⟨a, e, q⟩ => ⟨a, e, q⟩
  | .scr ns, _, ⟨a, e, q⟩ => ⟨a, e, by
      rcases q with ⟨o, q⟩ | q
      · exact .inl ⟨o, hf _ _ _ q⟩
      · exact .inr q⟩
theorem ZL.upd {K : PySem.W.Frag} {H H' : Hp} {π : List Addr} (ht : ∀ b xs, H b = some (.tup xs) → H' b = some (.tup xs)) (hf : ∀ b o u, H b = some (.frz o u) → H' b = some (.frz o u)) : ∀ (ds : List D) (vs : List V), ZL K H π ds vs → ZL K H' π ds vs
  | [], _, h => h
  | d :: ds, _, ⟨v, r, e, z, zs⟩ => ⟨v, r, e, Z.upd ht hf d v z, ZL.upd ht hf ds r zs⟩
end
theorem CR.upd {K : PySem.W.Frag} {H H' : Hp} {π : List Addr} {a : Addr} {c : C} (ht : ∀ b xs, H b = some (.tup xs) → H' b = some (.tup xs)) (hf : ∀ b o u, H b = some (.frz o u) → H' b = some (.frz o u)) (e : H' a = H a) (h : CR K H π a c) : CR K H' π a c := by
  cases c with
  | lst ds => obtain ⟨vs, h1, h2⟩ := h; exact ⟨vs, e.trans h1, ZL.upd ht hf _ _ h2⟩
  | dct kvs => obtain ⟨vs, h1, h2, h3⟩ := h; exact ⟨vs, e.trans h1, h2, ZL.upd ht hf _ _ h3⟩
  | ins c fs => obtain ⟨dx, fs', h1, h2, h3⟩ := h; exact ⟨dx, fs', e.trans h1, h2, ZL.upd ht hf _ _ h3⟩
  | dead => trivial
theorem HR.frzNew {K : PySem.W.Frag} {H : Hp} {π : List Addr} {p : Addr} {vs : List V} {o : Obj} (h : HR K H π ω) (hp : H p = some (.lst vs)) (np : p ∉ π) : HR K (upd H p (.frz o (.lst vs))) π ω := by
  have hne : ∀ a ∈ π, a ≠ p := fun a ha e => np (e ▸ ha)
  refine ⟨h.len, h.nd, fun a ha => by rw [upd_ne (hne a ha)]; exact h.som a ha, fun k c e => ?_⟩
  obtain ⟨a, ha, q⟩ := h.cr k c e
  refine ⟨a, ha, q.upd (Stp.frzAt (π := π) hp) (fun b ob u e => ?_) (upd_ne (hne a (List.mem_of_getElem? ha)))⟩
  rw [upd_ne (fun z => by subst z; rw [hp] at e; cases e)]; exact e
/-- a new list as data: frozen -/
theorem ev_frz (h : EL X e ρ ω fun ds ω' => Q (.lst ds) ω') : EV X e ρ ω Q := fun σ H π R g k => by
  refine ⟨tFrz (sE X e), pe_frz pe_s, ?_⟩
  refine h σ H π _ g fun p vs H' π' ds ω' q s hr hp np h0 zs => ⟨p, vs, rfl, hp, fun o => ?_⟩
  refine k (.ref p) _ π' (.lst ds) ω' q (s.frzNew h0) (hr.frzNew hp np) ⟨p, vs, rfl, ⟨o, upd_same⟩, ?_⟩
  exact ZL.upd (Stp.frzAt (π := π') hp) (fun b ob u e => by rw [upd_ne (fun z => by subst z; rw [hp] at e; cases e)]; exact e) ds vs zs
/-- a new list as a new cell -/
theorem ev_new (h : EL X e ρ ω fun ds ω' => Q (.cell ω'.length) (ω' ++ [.lst ds])) : EV X e ρ ω Q := fun σ H π R g k => by
  refine h σ H π _ g fun p vs H' π' ds ω' q s hr hp np h0 zs => ?_
  have hx := Stp.ext (π := π') np
  refine k (.ref p) H' (π' ++ [p]) (.cell ω'.length) _ q (s.newCell h0 np) (hr.newCell np (by rw [hp]; simp) ⟨vs, hp, ZL.ext hx _ _ zs⟩) ⟨p, rfl, ?_⟩
  rw [← hr.len, List.getElem?_append_right (Nat.le_refl _)]; simp
/-- a cell's list is frozen (the cell is dead from here on) -/
theorem ev_die (h : EV X e ρ ω fun d ω' => ∃ k ds, d = .cell k ∧ ω'[k]? = some (.lst ds) ∧ Q (.lst ds) (ω'.set k .dead)) : EV X e ρ ω Q := fun σ H π R g k => by
  refine ⟨tFrz (sE X e), pe_frz pe_s, ?_⟩
  refine h σ H π _ g fun v H' π' d ω' q s hr z => ?_
  obtain ⟨c, ds, rfl, hc, q⟩ := q
  obtain ⟨a, ev, ha⟩ := z
  obtain ⟨a', ha', vs, hv, zs⟩ := hr.cr c _ hc
  rw [ha] at ha'; cases ha'
  refine ⟨a, vs, ev, hv, fun o => ?_⟩
  have s2 : Stp H' π' (upd H' a (.frz o (.lst vs))) π' := Stp.cell ha (fun xs e => by rw [hv] at e; cases e) (fun b u e => by rw [hv] at e; cases e)
  exact k v _ π' (.lst ds) _ q (s.trans s2) (hr.cell ha s2 trivial) ⟨a, vs, ev, ⟨o, upd_same⟩, ZL.stp s2 _ _ zs⟩
end
end DL

set_option Elab.async false
set_option linter.all false
set_option maxRecDepth 100000
set_option autoImplicit false
set_option maxHeartbeats 1000000
/-! DL2: expressions. -/
namespace DL
open PySem PySem.Spec PyProof.Rows L2

section
variable {X : Cx} {ρ : Ro} {ω : Om} {Q : D → Om → Prop} {pos : Pos}

/-! ### names, constants -/
theorem ev_nm {i : Nat} {x : Str} {d : D} (hN : X.N[i]? = some x) (hv : Vis X.env.scope x) (h : look ρ i = some d) (q : Q d ω)
    (hd : (x == ("__debug__" : Str)) = false := by decide) (hcd : (x == ("__classdict__" : Str)) = false := by decide) : EV X (.Name x pos) ρ ω Q := fun σ H π R g k => by
  obtain ⟨v, e, z⟩ := g.env i d h
  exact ⟨_, pe_var hN hv hd hcd, v, e, k v H π d ω q (Stp.refl _ _) g.hr z⟩
theorem ev_int {i : Int} {j : Nat} (q : Q (.int i) ω) : EV X (.Constant (.int i) j pos) ρ ω Q := fun σ H π R g k => ⟨_, pe_int, k _ H π _ ω q (Stp.refl _ _) g.hr rfl⟩
theorem ev_bl {i : Bool} {j : Nat} (q : Q (.bl i) ω) : EV X (.Constant (.bool i) j pos) ρ ω Q := fun σ H π R g k => ⟨_, pe_bl, k _ H π _ ω q (Stp.refl _ _) g.hr rfl⟩
theorem ev_non {j : Nat} (q : Q .non ω) : EV X (.Constant .none j pos) ρ ω Q := fun σ H π R g k => ⟨_, pe_non, k _ H π _ ω q (Stp.refl _ _) g.hr rfl⟩
theorem ev_str {i : Str} {j : Nat} (q : Q (.str i) ω) : EV X (.Constant (.str i) j pos) ρ ω Q := fun σ H π R g k => ⟨_, pe_str, k _ H π _ ω q (Stp.refl _ _) g.hr rfl⟩
/-- a module's name as data -/
def GV (K : PySem.W.Frag) (mg : Str → Option Value) (x : Str) (d : D) : Prop := ∃ u v, mg x = some u ∧ RelV v u ∧ ∀ H π, Z K H π d v
theorem ev_gv {x : Str} {d : D} (G : GV X.K X.mg x d) (hg : Gl X x) (q : Q d ω) (hd : (x == ("__debug__" : Str)) = false := by decide) : EV X (.Name x pos) ρ ω Q := fun σ H π R g k => by
  obtain ⟨u, v, hm, r, z⟩ := G
  exact ⟨_, pe_glob hg hm r hd, k v H π d ω q (Stp.refl _ _) g.hr (z H π)⟩
theorem gv_int {K : PySem.W.Frag} {mg : Str → Option Value} {x : Str} {i : Int} {t : Tok} (h : mg x = some (.int i t)) : GV K mg x (.int i) := ⟨_, .int i, h, ⟨_, rfl⟩, fun _ _ => rfl⟩
theorem gv_str {K : PySem.W.Frag} {mg : Str → Option Value} {x : Str} {i : Str} {t : Tok} (h : mg x = some (.str i t)) : GV K mg x (.str i) := ⟨_, .str i, h, ⟨_, rfl⟩, fun _ _ => rfl⟩

/-! ### weakening -/
theorem EV.imp {e : Expr} {Q' : D → Om → Prop} (h : EV X e ρ ω Q) (i : ∀ d ω', Q d ω' → Q' d ω') : EV X e ρ ω Q' := fun σ H π R g k =>
  h σ H π R g fun v H' π' d ω' q s hr z => k v H' π' d ω' (i d ω' q) s hr z

/-! ### operators -/
def sOp (X : Cx) (f : Value → Value → Sem Value) : R2 := fun x y H Q => ∃ r, OpR X f r ∧ r x y H Q
theorem op_s {f : Value → Value → Sem Value} : OpR X f (sOp X f) := fun pins s σ H x y v u Q I rx ry ⟨_, p, h⟩ => p pins s σ H x y v u Q I rx ry h
def sUn (X : Cx) (f : Value → Sem Value) : V → Hp → VK → Prop := fun x H Q => ∃ r, UnR X f r ∧ r x H Q
theorem un_s {f : Value → Sem Value} : UnR X f (sUn X f) := fun pins s σ H x v Q I rx ⟨_, p, h⟩ => p pins s σ H x v Q I rx h

def strMul (s : Str) (n : Int) : Str := ⟨(List.replicate n.toNat s.cps.toList).flatten.toArray⟩
/-- what an operator makes of data -/
inductive BinV : Operator → D → D → D → Prop
  | addI {i j : Int} : BinV .Add (.int i) (.int j) (.int (i + j))
  | addS {i j : Str} (h : i.length + j.length ≤ sizeLine) : BinV .Add (.str i) (.str j) (.str (i ++ j))
  | addL {a b : List D} (h : a.length + b.length ≤ sizeLine) : BinV .Add (.lst a) (.lst b) (.lst (a ++ b))
  | subI {i j : Int} : BinV .Sub (.int i) (.int j) (.int (i - j))
  | mulI {i j : Int} (h : CMul i j) : BinV .Mult (.int i) (.int j) (.int (i * j))
  | mulS {s : Str} {n : Int} (h0 : 0 ≤ n) (h1 : n < 1000) (h2 : s.length < 1000) : BinV .Mult (.str s) (.int n) (.str (strMul s n))
  | mulL {a : List D} {n : Int} (h0 : 0 ≤ n) (h1 : n < 1000) (h2 : a.length * n.toNat ≤ sizeLine) : BinV .Mult (.lst a) (.int n) (.lst (List.replicate n.toNat a).flatten)
  | div {i j : Int} (h : 0 < j ∧ j < 1073741824) : BinV .FloorDiv (.int i) (.int j) (.int (i / j))
  | mod {i j : Int} (h : 0 < j) : BinV .Mod (.int i) (.int j) (.int (i % j))
  | pow {i j : Int} (h : 0 ≤ j) (h2 : (Builtin.Int.intBits i : Int) * j ≤ 2 ^ 27) : BinV .Pow (.int i) (.int j) (.int (i ^ j.toNat))
  | powS {i j : Int} (h : CPow i j) : BinV .Pow (.int i) (.int j) (.int (i ^ j.toNat))
  | shl {i j : Int} (h : CPow i j) : BinV .LShift (.int i) (.int j) (.int (i * 2 ^ j.toNat))
  | shr {i j : Int} (h : 0 ≤ j) : BinV .RShift (.int i) (.int j) (.int (i / 2 ^ j.toNat))
  | and {i j : Int} : BinV .BitAnd (.int i) (.int j) (.int (Builtin.bitAnd i j))
  | or {i j : Int} : BinV .BitOr (.int i) (.int j) (.int (Builtin.bitOr i j))
  | xor {i j : Int} : BinV .BitXor (.int i) (.int j) (.int (Builtin.bitXor i j))

theorem op_powN : OpR X (binaryOp .Pow) (rI (fun i j => 0 ≤ j ∧ (Builtin.Int.intBits i : Int) * j ≤ 2 ^ 27) fun i j => .int (i ^ j.toNat)) := opI fun _ _ _ _ _ _ _ hc q => PyProof.Rows.pow_int hc.1 hc.2 q
theorem flat_foldl (a : Array Nat) : ∀ (k : Nat) (acc : Array Nat), List.foldl (fun x1 x2 => x1 ++ x2) acc (List.replicate k a) = acc ++ (List.replicate k a.toList).flatten.toArray
  | 0, acc => by simp
  | k + 1, acc => by
    rw [List.replicate_succ, List.foldl_cons, flat_foldl a k, List.replicate_succ, List.flatten_cons]
    apply Array.ext'
    simp
theorem strMul_nil (x : Str) (n : Int) (h : n < 1) : strMul x n = Str.empty := by
  have e : n.toNat = 0 := by omega
  unfold strMul
  rw [e]
  rfl
theorem strMul_one (x : Str) (n : Int) (h : (n == 1 || x.length == 0) = true) : strMul x n = x := by
  unfold strMul
  rw [Bool.or_eq_true] at h
  rcases h with h | h
  · have e : n = 1 := by simpa using h
    subst e
    cases x
    simp
  · have e : x.cps.toList = [] := by
      have : x.cps.size = 0 := by simpa [Str.length] using h
      exact List.length_eq_zero_iff.mp (by simpa using this)
    rw [e]
    cases x
    simp at e
    subst e
    simp
theorem op_mulS : OpR X (binaryOp .Mult) (fun x y H Q => ∃ (s : Str) (n : Int), x = .str s ∧ y = .int n ∧ 0 ≤ n ∧ n < 1000 ∧ s.length < 1000 ∧ Q (.str (strMul s n)) H) := by
  intro pins s σ H x y v u Q I rx ry h
  obtain ⟨i, n, rfl, rfl, h0, h1, h2, q⟩ := h
  obtain ⟨t, rfl⟩ := rx
  obtain ⟨t', rfl⟩ := ry
  have hs : sizeLine = 16777216 := sizeLine_eq
  have small : i.length * n.toNat ≤ 1000000 := by
    have a : i.length ≤ 1000 := by omega
    have b : n.toNat ≤ 1000 := by omega
    calc i.length * n.toNat ≤ 1000 * 1000 := Nat.mul_le_mul a b
      _ = 1000000 := by decide
  refine PySem.P.mul_str (by
      have e1 : decide (n < -(2 ^ 63 : Int)) = false := decide_eq_false (by omega)
      have e2 : decide (n ≥ 2 ^ 63) = false := decide_eq_false (by omega)
      rw [e1, e2] <;> rfl) (fun hn _ => ?_) (fun _ _ => ?_) ?_
  · have hp : 0 < n := by omega
    have : (i.length : Int) ≤ (2 ^ 63 - 1) / n := by
      rw [Int.le_ediv_iff_mul_le hp]
      have b : (i.length : Int) * n ≤ 1000 * 1000 := Int.mul_le_mul (by omega) (by omega) (by omega) (by omega)
      omega
    omega
  · unfold Builtin.Str.tooLong
    exact decide_eq_false (by omega)
  · by_cases hn : n < 1
    · rw [if_pos hn]
      rw [strMul_nil _ _ hn] at q
      exact ⟨by decide, .str _, H, I.tok _, ⟨_, rfl⟩, q⟩
    · rw [if_neg hn]
      by_cases h1' : (n == 1 || i.length == 0) = true
      · rw [if_pos h1']
        rw [strMul_one _ _ h1'] at q
        exact ⟨.str _, H, I, ⟨_, rfl⟩, q⟩
      · rw [if_neg h1']
        have e : (⟨List.foldl (fun x1 x2 => x1 ++ x2) #[] (List.replicate n.toNat i.cps)⟩ : Str) = strMul i n := by
          unfold strMul
          rw [flat_foldl]
          simp
        rw [e]
        refine ⟨?_, .str _, H, I.tok _, ⟨_, rfl⟩, q⟩
        unfold strMul Str.length
        simp
        have : n.toNat * i.cps.size = i.length * n.toNat := Nat.mul_comm _ _
        omega

/-! list + list, list * int where either may be frozen -/
theorem lstR {pins : List (Addr × Obj)} {σ : L2.St} {H : Hp} {s : Shared} {l : Addr} {xs : List V} (I : Inv X pins σ H s) (hH : Rd H l (.lst xs)) : xs.length ≤ sizeLine ∧ ∃ (its : List Value) (n : Nat), Vals xs its ∧ xs.length = its.length ∧ s.heap.get? l = some { cls := .type "list", data := .seq its.toArray n } := by
  obtain ⟨z, its, n, r, e⟩ := hH.ok I.hok
  exact ⟨z, its, n, r, r.length, e⟩
theorem op_catF : OpR X (binaryOp .Add) (fun x y H Q => ∃ l b xs zs, x = .ref l ∧ y = .ref b ∧ Rd H l (.lst xs) ∧ Rd H b (.lst zs) ∧ xs.length + zs.length ≤ sizeLine ∧ ∀ p, H p = none → Q (.ref p) (upd H p (.lst (xs ++ zs)))) := by
  intro pins s σ H x y v u Q I rx ry h
  obtain ⟨l, b, xs, zs, rfl, rfl, hH, hB, hz, q⟩ := h
  cases rx
  cases ry
  obtain ⟨z, its, n, r, hl, e⟩ := lstR I hH
  obtain ⟨z2, its2, n2, r2, hl2, e2⟩ := lstR I hB
  refine PySem.P.add_list e e2 ?_ (by rw [List.size_toArray, List.size_toArray]; omega)
  have ea : its.toArray ++ its2.toArray = (its ++ its2).toArray := by simp
  rw [ea]
  exact ⟨.ref _, _, I.lnew (t' := s.toks) (r.append r2) (by rw [List.length_append]; omega), rfl, q _ I.fresh⟩
theorem op_repF : OpR X (binaryOp .Mult) (fun x y H Q => ∃ l k xs, x = .ref l ∧ y = .int k ∧ Rd H l (.lst xs) ∧ -(2 ^ 63) ≤ k ∧ k < 2 ^ 63 ∧ xs.length * k.toNat ≤ sizeLine ∧
  ∀ p, H p = none → Q (.ref p) (upd H p (.lst (List.replicate k.toNat xs).flatten))) := by
  intro pins s σ H x y v u Q I rx ry h
  obtain ⟨l, k, xs, rfl, rfl, hH, h1, h2, hz, q⟩ := h
  cases rx
  obtain ⟨t, rfl⟩ := ry
  obtain ⟨z, its, n, r, hl, e⟩ := lstR I hH
  have hlen : its.toArray.size * k.toNat ≤ sizeLine := by rw [List.size_toArray, ← hl]; exact hz
  have hcap : ¬ its.toArray.size * k.toNat > (2 ^ 63 - 1) / 8 := by
    have : (sizeLine : Nat) ≤ (2 ^ 63 - 1) / 8 := by decide
    omega
  have hfit : ¬ (!Builtin.List.listFitsIndex k) = true := by
    rw [fitsIndex_both h1 h2]
    exact Bool.false_ne_true
  have hlong : ¬ Builtin.List.listTooLong (its.toArray.size * k.toNat) = true := by
    rw [notLongL hlen]
    exact Bool.false_ne_true
  have hnew : List.foldl (fun x1 x2 => x1 ++ x2) #[] (List.replicate (if its.toArray.isEmpty = true then 0 else k.toNat) its.toArray) = (List.replicate k.toNat its).flatten.toArray := by
    have f0 : ∀ m : Nat, List.foldl (fun x1 x2 => x1 ++ x2) #[] (List.replicate m its.toArray) = (List.replicate m its).flatten.toArray := fun m => by
      have := foldl_rep its m []
      rw [List.nil_append] at this
      exact this
    rw [f0]
    cases its with
    | nil => simp
    | cons a r' => rw [if_neg (by simp)]
  refine wpAny_binaryOp_repeat_ref (T := "list") (U := "int") (by decide) ⟨_, e, rfl⟩ (fun s' => typeIs_int s' k t) noFill_list_mul F.fills_int_mul F.slot_int_rmul repeat_list F.slot_int_index.lookup
    (call_meets F.slot_int_rmul (typeIs_int s k t) F.entry_int_rmul (F.args_int_rmul_2 _ _) (int___rmul___int_list k t l its.toArray n)
      ⟨e, rfl, ⟨_, e, rfl⟩, call_meets F.slot_list_mul ⟨_, e, rfl⟩ F.entry_list_mul (F.args_list_mul_2 _ _) (AutoListH.list___mul___list_int_3 l its.toArray n k t hfit hcap hlong) ⟨e, ?_⟩⟩)
  rw [hnew]
  exact ⟨.ref _, _, I.lnew (t' := s.toks) (r.rep k.toNat) (by rw [PyProof.Rows.lm_len_rep_flat, Nat.mul_comm]; exact hz), rfl, q _ I.fresh⟩
theorem ZL.rep {K : PySem.W.Frag} {H : Hp} {π : List Addr} {ds : List D} {vs : List V} (h : ZL K H π ds vs) : ∀ k : Nat, ZL K H π (List.replicate k ds).flatten (List.replicate k vs).flatten
  | 0 => rfl
  | k + 1 => by
    rw [List.replicate_succ, List.flatten_cons, List.replicate_succ, List.flatten_cons]
    exact ZL.append h (ZL.rep h k)

/-- R, or R behind freezing -/
def fz (R : VK) : VK := fun v H => R v H ∨ ∃ p vs, v = .ref p ∧ H p = some (.lst vs) ∧ ∀ o, R v (upd H p (.frz o (.lst vs)))
theorem fz_l {R : VK} {v : V} {H : Hp} (h : R v H) : fz R v H := .inl h
/-- a new list comes, and is frozen -/
theorem fz_new {K : PySem.W.Frag} {H : Hp} {π : List Addr} {ω : Om} {R : VK} {p : Addr} {vs : List V} {ds : List D} (hr : HR K H π ω) (hp : H p = none) (zs : ZL K H π ds vs) (k : Kt K H π Q R) (q : Q (.lst ds) ω) : fz R (.ref p) (upd H p (.lst vs)) := by
  refine .inr ⟨p, vs, rfl, upd_same, fun o => ?_⟩
  rw [upd_upd]
  have s : Stp H π (upd H p (.frz o (.lst vs))) π := Stp.obj hp
  exact k (.ref p) _ π (.lst ds) ω q s (hr.obj hp) ⟨p, vs, rfl, ⟨o, upd_same⟩, ZL.stp s _ _ zs⟩

theorem bin_ok {K : PySem.W.Frag} {H : Hp} {π : List Addr} {ω : Om} {R : VK} {op : Operator} {x y x' y' z : D} {v u : V} (hr : HR K H π ω) (zx : Z K H π x v) (zy : Z K H π y u) (ex : rd x ω = x') (ey : rd y ω = y') (b : BinV op x' y' z)
    (k : Kt K H π Q R) (q : Q z ω) : sOp X (binaryOp op) v u H (fz R) := by
  have fin : ∀ {w : V}, Z K H π z w → R w H := fun {w} zw => k w H π z ω q (Stp.refl _ _) hr zw
  cases b with
  | addI => cases read_int zx ex; cases read_int zy ey; exact ⟨_, op_add, _, _, rfl, rfl, fz_l (fin rfl)⟩
  | addS h => cases read_str zx ex; cases read_str zy ey; exact ⟨_, op_add_str, _, _, rfl, rfl, h, fz_l (fin rfl)⟩
  | addL h =>
    obtain ⟨a, vs, rfl, ha, za⟩ := read_lst hr zx ex
    obtain ⟨c, us, rfl, hc, zc⟩ := read_lst hr zy ey
    exact ⟨_, op_catF, a, c, vs, us, rfl, rfl, ha, hc, by rw [ZL.length za, ZL.length zc]; exact h, fun p hp => fz_new hr hp (ZL.append za zc) k q⟩
  | subI => cases read_int zx ex; cases read_int zy ey; exact ⟨_, op_sub, _, _, rfl, rfl, fz_l (fin rfl)⟩
  | mulI h => cases read_int zx ex; cases read_int zy ey; exact ⟨_, op_mul, _, _, rfl, rfl, h, fz_l (fin rfl)⟩
  | mulS h0 h1 h2 => cases read_str zx ex; cases read_int zy ey; exact ⟨_, op_mulS, _, _, rfl, rfl, h0, h1, h2, fz_l (fin rfl)⟩
  | mulL h0 h1 h2 =>
    obtain ⟨a, vs, rfl, ha, za⟩ := read_lst hr zx ex
    cases read_int zy ey
    exact ⟨_, op_repF, a, _, vs, rfl, rfl, ha, by omega, by omega, by rw [ZL.length za]; exact h2, fun p hp => fz_new hr hp (ZL.rep za _) k q⟩
  | div h => cases read_int zx ex; cases read_int zy ey; exact ⟨_, op_fdiv, _, _, rfl, rfl, h, fz_l (fin rfl)⟩
  | mod h => cases read_int zx ex; cases read_int zy ey; exact ⟨_, op_mod, _, _, rfl, rfl, h, fz_l (fin rfl)⟩
  | pow h h2 => cases read_int zx ex; cases read_int zy ey; exact ⟨_, op_powN, _, _, rfl, rfl, ⟨h, h2⟩, fz_l (fin rfl)⟩
  | powS h => cases read_int zx ex; cases read_int zy ey; exact ⟨_, op_pow, _, _, rfl, rfl, h, fz_l (fin rfl)⟩
  | shl h => cases read_int zx ex; cases read_int zy ey; exact ⟨_, op_shl, _, _, rfl, rfl, h, fz_l (fin rfl)⟩
  | shr h => cases read_int zx ex; cases read_int zy ey; exact ⟨_, op_shr, _, _, rfl, rfl, h, fz_l (fin rfl)⟩
  | and => cases read_int zx ex; cases read_int zy ey; exact ⟨_, op_and, _, _, rfl, rfl, fz_l (fin rfl)⟩
  | or => cases read_int zx ex; cases read_int zy ey; exact ⟨_, op_or, _, _, rfl, rfl, fz_l (fin rfl)⟩
  | xor => cases read_int zx ex; cases read_int zy ey; exact ⟨_, op_xor, _, _, rfl, rfl, fz_l (fin rfl)⟩
/-- what stands ready at an operator -/
def Bin (op : Operator) (x y : D) (ω : Om) (Q : D → Om → Prop) : Prop := ∃ x' y' z, rd x ω = x' ∧ rd y ω = y' ∧ BinV op x' y' z ∧ Q z ω
theorem ev_bin {a b : Expr} {op : Operator} (h : EV X a ρ ω fun x ω1 => EV X b ρ ω1 fun y ω2 => Bin op x y ω2 Q) : EV X (.BinOp a op b pos) ρ ω Q := fun σ H π R g k => by
  refine ⟨tFrz? (tOp (sOp X (binaryOp op)) (sE X a) (sE X b)), pe_frz? (pe_op op_s pe_s pe_s), ?_⟩
  refine h σ H π _ g fun v H1 π1 x ω1 h1 s1 r1 zx => ?_
  refine h1 σ H1 π1 _ (g.mono s1 r1) fun u H2 π2 y ω2 ⟨x', y', z, ex, ey, b, q⟩ s2 r2 zy => ?_
  exact bin_ok r2 (Z.stp s2 _ _ zx) zy ex ey b ((k.from s1).from s2) q

inductive UnV : UnaryOp → D → D → Prop
  | neg {i : Int} : UnV .USub (.int i) (.int (-i))
  | inv {i : Int} : UnV .Invert (.int i) (.int (Builtin.bitNot i))
theorem ev_un {a : Expr} {op : UnaryOp} (h : EV X a ρ ω fun x ω1 => ∃ z, UnV op x z ∧ Q z ω1) : EV X (.UnaryOp op a pos) ρ ω Q := fun σ H π R g k => by
  refine ⟨tUn (sUn X (unaryOp op)) (sE X a), pe_un un_s pe_s, ?_⟩
  refine h σ H π _ g fun v H1 π1 x ω1 ⟨z, u, q⟩ s1 r1 zx => ?_
  cases u with
  | neg => cases zx; exact ⟨_, un_neg, _, rfl, k _ H1 π1 _ ω1 q s1 r1 rfl⟩
  | inv => cases zx; exact ⟨_, un_inv, _, rfl, k _ H1 π1 _ ω1 q s1 r1 rfl⟩
end
end DL

set_option Elab.async false
set_option linter.all false
set_option maxRecDepth 100000
set_option autoImplicit false
set_option maxHeartbeats 1000000
/-! DL3: comparisons, tests, parts, slices. -/
namespace DL
open PySem PySem.Spec PyProof.Rows L2

/-! ### data for == -/
mutual
def toP : D → Option PyData
  | .non => some .none
  | .bl b => some (.bool b)
  | .int i => some (.int i)
  | .str s => some (.str s)
  | .tup ds => (toPs ds).map .tuple
  | .lst ds => (toPs ds).map .list
  | .ty _ => none
  | .ref _ => none
  | .cell _ => none
  | .scr _ => none
def toPs : List D → Option (List PyData)
  | [] => some []
  | d :: ds => match toP d, toPs ds with
    | some p, some ps => some (p :: ps)
    | _, _ => none
end
section
variable {K : PySem.W.Frag} {H : Hp} {π : List Addr}
mutual
theorem dp_of : ∀ (d : D) (v : V) (p : PyData), Z K H π d v → toP d = some p → Dp K H v p
  | .non, _, _, z, e => by cases z; cases e; exact .non
  | .bl b, _, _, z, e => by cases z; cases e; exact .bl b
  | .int i, _, _, z, e => by cases z; cases e; exact .int i
  | .str s, _, _, z, e => by cases z; cases e; exact .str s
  | .ty _, _, _, z, e => by cases e
  | .ref _, _, _, z, e => by cases e
  | .cell _, _, _, z, e => by cases e
  | .scr _, _, _, z, e => by cases e
  | .tup ds, _, p, ⟨a, vs, ev, q, zs⟩, e => by
    subst ev
    unfold toP at e
    cases h : toPs ds with
    | none => rw [h] at e; cases e
    | some ps => rw [h] at e; cases e; exact .tup q (dps_of ds vs ps zs h)
  | .lst ds, _, p, ⟨a, vs, ev, q, zs⟩, e => by
    subst ev
    unfold toP at e
    cases h : toPs ds with
    | none => rw [h] at e; cases e
    | some ps => rw [h] at e; cases e; exact .lst (SqF.sq q) (dps_of ds vs ps zs h)
theorem dps_of : ∀ (ds : List D) (vs : List V) (ps : List PyData), ZL K H π ds vs → toPs ds = some ps → DpAll K H vs ps
  | [], _, _, z, e => by cases z; cases e; exact .nil
  | d :: ds, _, ps, ⟨v, r, ev, z, zs⟩, e => by
    subst ev
    unfold toPs at e
    cases h1 : toP d with
    | none => rw [h1] at e; cases e
    | some p =>
      cases h2 : toPs ds with
      | none => rw [h1, h2] at e; cases e
      | some qs => rw [h1, h2] at e; cases e; exact .cons (dp_of d v p z h1) (dps_of ds r qs zs h2)
end
/-- through a cell -/
theorem dp_rd {ω : Om} {d x' : D} {v : V} {p : PyData} (hr : HR K H π ω) (z : Z K H π d v) (e : rd d ω = x') (h : toP x' = some p) : Dp K H v p := by
  by_cases hc : ∃ k, d = .cell k
  · obtain ⟨k, rfl⟩ := hc
    cases x' with
    | lst ds =>
      obtain ⟨a, vs, rfl, q, zs⟩ := read_lst hr z e
      unfold toP at h
      cases h2 : toPs ds with
      | none => rw [h2] at h; cases h
      | some ps => rw [h2] at h; cases h; exact .lst (.inl q) (dps_of ds vs ps zs h2)
    | _ =>
      unfold rd at e
      simp only at e
      split at e
      · cases e
      · cases e <;> cases h
  · rw [rd_of fun k q => hc ⟨k, q⟩] at e
    subst e
    exact dp_of d v p z h
end

/-- a flat thing as a value -/
def flatD : D → Option V
  | .non => some .non
  | .bl b => some (.bl b)
  | .int i => some (.int i)
  | .str s => some (.str s)
  | _ => none
def flatDs : List D → Option (List V)
  | [] => some []
  | d :: ds => match flatD d, flatDs ds with
    | some p, some ps => some (p :: ps)
    | _, _ => none
section
variable {K : PySem.W.Frag} {H : Hp} {π : List Addr}
theorem flatD_eq {d : D} {v w : V} (z : Z K H π d v) (e : flatD d = some w) : v = w ∧ flatV w = true := by
  cases d <;> first
    | (cases e; cases z; exact ⟨rfl, rfl⟩)
    | cases e
theorem flatDs_eq : ∀ {ds : List D} {vs ws : List V}, ZL K H π ds vs → flatDs ds = some ws → vs = ws ∧ ws.all flatV = true
  | [], _, _, z, e => by cases z; cases e; exact ⟨rfl, rfl⟩
  | d :: ds, _, ws, ⟨v, r, ev, z, zs⟩, e => by
    subst ev
    unfold flatDs at e
    cases h1 : flatD d with
    | none => rw [h1] at e; cases e
    | some p =>
      cases h2 : flatDs ds with
      | none => rw [h1, h2] at e; cases e
      | some qs =>
        rw [h1, h2] at e; cases e
        obtain ⟨rfl, f1⟩ := flatD_eq z h1
        obtain ⟨rfl, f2⟩ := flatDs_eq zs h2
        exact ⟨rfl, by rw [List.all_cons, f1, f2]; rfl⟩
end

/-- what a comparison makes of data -/
inductive CmpV : CmpOp → D → D → Bool → Prop
  | eqI {i j : Int} : CmpV .Eq (.int i) (.int j) (decide (i = j))
  | neI {i j : Int} : CmpV .NotEq (.int i) (.int j) (!decide (i = j))
  | eqS {i j : Str} : CmpV .Eq (.str i) (.str j) (decide (i = j))
  | neS {i j : Str} : CmpV .NotEq (.str i) (.str j) (!decide (i = j))
  | eqB {i j : Bool} : CmpV .Eq (.bl i) (.bl j) (decide (i = j))
  | neB {i j : Bool} : CmpV .NotEq (.bl i) (.bl j) (!decide (i = j))
  | eqP {x y : D} {p q : PyData} (hp : toP x = some p) (hq : toP y = some q) (sp : SeqAt.shaped p = true) (sq : SeqAt.shaped q = true) : CmpV .Eq x y (PyData.eqv p q)
  | neP {x y : D} {p q : PyData} (hp : toP x = some p) (hq : toP y = some q) (sp : SeqAt.shaped p = true) (sq : SeqAt.shaped q = true) : CmpV .NotEq x y (!PyData.eqv p q)
  | ltI {i j : Int} : CmpV .Lt (.int i) (.int j) (decide (i < j))
  | leI {i j : Int} : CmpV .LtE (.int i) (.int j) (decide (i ≤ j))
  | gtI {i j : Int} : CmpV .Gt (.int i) (.int j) (decide (j < i))
  | geI {i j : Int} : CmpV .GtE (.int i) (.int j) (decide (j ≤ i))
  | isN {x : D} {b : Bool} (h : (match x with | .non => true | _ => false) = b) : CmpV .Is x .non b
  | notN {x : D} {b : Bool} (h : (match x with | .non => false | _ => true) = b) : CmpV .IsNot x .non b
  | isB {i j : Bool} : CmpV .Is (.bl i) (.bl j) (decide (i = j))
  | notB {i j : Bool} : CmpV .IsNot (.bl i) (.bl j) (!decide (i = j))
  | inT {x : D} {ds : List D} {v : V} {vs : List V} (hx : flatD x = some v) (hs : flatDs ds = some vs) : CmpV .In x (.tup ds) (inV v vs)
  | ninT {x : D} {ds : List D} {v : V} {vs : List V} (hx : flatD x = some v) (hs : flatDs ds = some vs) : CmpV .NotIn x (.tup ds) (!inV v vs)
  | inL {x : D} {ds : List D} {v : V} {vs : List V} (hx : flatD x = some v) (hs : flatDs ds = some vs) : CmpV .In x (.lst ds) (inV v vs)
  | ninL {x : D} {ds : List D} {v : V} {vs : List V} (hx : flatD x = some v) (hs : flatDs ds = some vs) : CmpV .NotIn x (.lst ds) (!inV v vs)
  | inS {c : Nat} {z : Str} : CmpV .In (.str ⟨#[c]⟩) (.str z) (decide (c ∈ z.cps.toList))
  | ninS {c : Nat} {z : Str} : CmpV .NotIn (.str ⟨#[c]⟩) (.str z) (!decide (c ∈ z.cps.toList))

section
variable {X : Cx} {ρ : Ro} {ω : Om} {Q : D → Om → Prop} {pos : Pos}
theorem cmp_ok {K : PySem.W.Frag} {H : Hp} {π : List Addr} {R : VK} {op : CmpOp} {x y x' y' : D} {c : Bool} {v u : V} (hK : X.K = K) (hu : X.A.units + 64 < cLine) (hr : HR K H π ω) (zx : Z K H π x v) (zy : Z K H π y u) (ex : rd x ω = x') (ey : rd y ω = y') (b : CmpV op x' y' c)
    (fin : R (.bl c) H) : sOp X (compareOp op) v u H R := by
  subst hK
  have nn : ∀ {d d' : D} {w : V}, Z X.K H π d w → rd d ω = d' → decide (w = V.non) = (match d' with | .non => true | _ => false) := fun {d d' w} z e => by
    cases d with
    | cell k =>
      obtain ⟨a, rfl, _⟩ := z
      unfold rd at e
      simp only at e
      split at e <;> (subst e; simp)
    | non => cases e; cases z; simp [rd]
    | tup ds => cases e; obtain ⟨a, vs, rfl, _⟩ := z; simp [rd]
    | lst ds => cases e; obtain ⟨a, vs, rfl, _⟩ := z; simp [rd]
    | scr ds => cases e; obtain ⟨a, rfl, _⟩ := z; simp [rd]
    | _ => cases e; cases z; simp [rd]
  cases b with
  | eqI => cases read_int zx ex; cases read_int zy ey; exact ⟨_, op_eq, rfl, by simpa using fin⟩
  | neI => cases read_int zx ex; cases read_int zy ey; exact ⟨_, op_ne, rfl, by simpa using fin⟩
  | eqS => cases read_str zx ex; cases read_str zy ey; exact ⟨_, op_eq, rfl, by simpa using fin⟩
  | neS => cases read_str zx ex; cases read_str zy ey; exact ⟨_, op_ne, rfl, by simpa using fin⟩
  | eqB => cases read_bl zx ex; cases read_bl zy ey; exact ⟨_, op_eq, rfl, by simpa using fin⟩
  | neB => cases read_bl zx ex; cases read_bl zy ey; exact ⟨_, op_ne, rfl, by simpa using fin⟩
  | eqP hp hq sp sq => exact ⟨_, op_eqD hu, _, _, dp_rd hr zx ex hp, dp_rd hr zy ey hq, sp, sq, fin⟩
  | neP hp hq sp sq => exact ⟨_, op_neD hu, _, _, dp_rd hr zx ex hp, dp_rd hr zy ey hq, sp, sq, fin⟩
  | ltI => cases read_int zx ex; cases read_int zy ey; exact ⟨_, op_lt, _, _, rfl, rfl, fin⟩
  | leI => cases read_int zx ex; cases read_int zy ey; exact ⟨_, op_le, _, _, rfl, rfl, fin⟩
  | gtI => cases read_int zx ex; cases read_int zy ey; exact ⟨_, op_gt, _, _, rfl, rfl, fin⟩
  | geI => cases read_int zx ex; cases read_int zy ey; exact ⟨_, op_ge, _, _, rfl, rfl, fin⟩
  | isN h => cases read_non zy ey; exact ⟨_, op_isN, rfl, by rw [nn zx ex, h]; exact fin⟩
  | notN h =>
    cases read_non zy ey
    refine ⟨_, op_notN, rfl, ?_⟩
    rw [nn zx ex]
    cases x' <;> (subst h; exact fin)
  | isB => cases read_bl zx ex; cases read_bl zy ey; exact ⟨_, op_isBl, _, _, rfl, rfl, fin⟩
  | notB => cases read_bl zx ex; cases read_bl zy ey; exact ⟨_, op_notBl, _, _, rfl, rfl, fin⟩
  | inT hx hs =>
    have hc : ∀ k, x ≠ .cell k := fun k e => by subst e; unfold rd at ex; simp only at ex; split at ex <;> (subst ex; cases hx)
    rw [rd_of hc] at ex; subst ex
    obtain ⟨rfl, f1⟩ := flatD_eq zx hx
    obtain ⟨a, vs, rfl, q, zs⟩ := read_tup zy ey
    obtain ⟨rfl, f2⟩ := flatDs_eq zs hs
    exact ⟨_, op_in_seq, a, vs, rfl, .inr q, f1, f2, fin⟩
  | ninT hx hs =>
    have hc : ∀ k, x ≠ .cell k := fun k e => by subst e; unfold rd at ex; simp only at ex; split at ex <;> (subst ex; cases hx)
    rw [rd_of hc] at ex; subst ex
    obtain ⟨rfl, f1⟩ := flatD_eq zx hx
    obtain ⟨a, vs, rfl, q, zs⟩ := read_tup zy ey
    obtain ⟨rfl, f2⟩ := flatDs_eq zs hs
    exact ⟨_, op_notIn_seq, a, vs, rfl, .inr q, f1, f2, fin⟩
  | inL hx hs =>
    have hc : ∀ k, x ≠ .cell k := fun k e => by subst e; unfold rd at ex; simp only at ex; split at ex <;> (subst ex; cases hx)
    rw [rd_of hc] at ex; subst ex
    obtain ⟨rfl, f1⟩ := flatD_eq zx hx
    obtain ⟨a, vs, rfl, q, zs⟩ := read_lst hr zy ey
    obtain ⟨rfl, f2⟩ := flatDs_eq zs hs
    exact ⟨_, op_in_seq, a, vs, rfl, .inl (.inl q), f1, f2, fin⟩
  | ninL hx hs =>
    have hc : ∀ k, x ≠ .cell k := fun k e => by subst e; unfold rd at ex; simp only at ex; split at ex <;> (subst ex; cases hx)
    rw [rd_of hc] at ex; subst ex
    obtain ⟨rfl, f1⟩ := flatD_eq zx hx
    obtain ⟨a, vs, rfl, q, zs⟩ := read_lst hr zy ey
    obtain ⟨rfl, f2⟩ := flatDs_eq zs hs
    exact ⟨_, op_notIn_seq, a, vs, rfl, .inl (.inl q), f1, f2, fin⟩
  | inS => cases read_str zx ex; cases read_str zy ey; exact ⟨_, op_in_sign, _, _, rfl, rfl, fin⟩
  | ninS => cases read_str zx ex; cases read_str zy ey; exact ⟨_, op_notIn_sign, _, _, rfl, rfl, fin⟩

def Cmp (op : CmpOp) (x y : D) (ω : Om) (Q : Bool → Om → Prop) : Prop := ∃ x' y' c, rd x ω = x' ∧ rd y ω = y' ∧ CmpV op x' y' c ∧ Q c ω
theorem ev_cmp {a b : Expr} {op : CmpOp} (hu : X.A.units + 64 < cLine) (h : EV X a ρ ω fun x ω1 => EV X b ρ ω1 fun y ω2 => Cmp op x y ω2 fun c ω3 => Q (.bl c) ω3)
    (hm : behindInMarks op b = false := by first | exact nomark _ | rfl) : EV X (.Compare a [op] [b] pos) ρ ω Q := fun σ H π R g k => by
  refine ⟨_, pe_cmpR (r := sOp X (compareOp op)) op_s pe_s pe_s hm, ?_⟩
  refine h σ H π _ g fun v H1 π1 x ω1 h1 s1 r1 zx => ?_
  refine h1 σ H1 π1 _ (g.mono s1 r1) fun u H2 π2 y ω2 ⟨x', y', c, ex, ey, b, q⟩ s2 r2 zy => ?_
  exact cmp_ok rfl hu r2 (Z.stp s2 _ _ zx) zy ex ey b (k _ H2 π2 _ ω2 q (s1.trans s2) r2 rfl)
theorem et_cmp {Q : Bool → Om → Prop} {a b : Expr} {op : CmpOp} (hu : X.A.units + 64 < cLine) (h : EV X a ρ ω fun x ω1 => EV X b ρ ω1 fun y ω2 => Cmp op x y ω2 Q)
    (hm : behindInMarks op b = false := by first | exact nomark _ | rfl) : ET X (.Compare a [op] [b] pos) ρ ω Q := fun σ H π R g k => by
  refine ⟨_, pt_cmpR (r := sOp X (compareOp op)) op_s pe_s pe_s hm, ?_⟩
  refine h σ H π _ g fun v H1 π1 x ω1 h1 s1 r1 zx => ?_
  refine h1 σ H1 π1 _ (g.mono s1 r1) fun u H2 π2 y ω2 ⟨x', y', c, ex, ey, b, q⟩ s2 r2 zy => ?_
  exact cmp_ok rfl hu r2 (Z.stp s2 _ _ zx) zy ex ey b ⟨c, rfl, k c H2 π2 ω2 q (s1.trans s2) r2⟩
theorem ev_chain {a b c : Expr} {op op' : CmpOp} (hu : X.A.units + 64 < cLine)
    (h : EV X a ρ ω fun x ω1 => EV X b ρ ω1 fun y ω2 => Cmp op x y ω2 fun k1 ω3 => (k1 = true → EV X c ρ ω3 fun z ω4 => Cmp op' y z ω4 fun k2 ω5 => Q (.bl k2) ω5) ∧ (k1 = false → Q (.bl false) ω3))
    (hm : lastMarks [op, op'] [b, c] = false := by with_unfolding_all rfl) : EV X (.Compare a [op, op'] [b, c] pos) ρ ω Q := fun σ H π R g k => by
  refine ⟨_, pe_chain (r := sOp X (compareOp op)) (r' := sOp X (compareOp op')) op_s op_s pe_s pe_s pe_s hm, ?_⟩
  refine h σ H π _ g fun v H1 π1 x ω1 h1 s1 r1 zx => ?_
  refine h1 σ H1 π1 _ (g.mono s1 r1) fun u H2 π2 y ω2 ⟨x', y', c1, ex, ey, b1, q⟩ s2 r2 zy => ?_
  refine cmp_ok rfl hu r2 (Z.stp s2 _ _ zx) zy ex ey b1 ⟨c1, rfl, ?_⟩
  cases c1 with
  | true =>
    rw [if_pos rfl]
    refine q.1 rfl σ H2 π2 _ ((g.mono s1 r1).mono s2 r2) fun w H3 π3 z ω3 ⟨y2, z', c2, ey2, ez, b2, q2⟩ s3 r3 zz => ?_
    exact cmp_ok rfl hu r3 (Z.stp s3 _ _ zy) zz ey2 ez b2 (k _ H3 π3 _ ω3 q2 ((s1.trans s2).trans s3) r3 rfl)
  | false =>
    rw [if_neg Bool.false_ne_true]
    exact k _ H2 π2 _ ω2 (q.2 rfl) (s1.trans s2) r2 rfl

/-! ### truth -/
def truD : D → Option Bool
  | .non => some false
  | .bl b => some b
  | .int i => some (i != 0)
  | .str s => if s.length ≤ sizeLine then some ((s.length : Int) != 0) else none
  | .lst ds => some (!ds.isEmpty)
  | .tup ds => some (!ds.isEmpty)
  | _ => none
theorem isEmpty_zl {K : PySem.W.Frag} {H : Hp} {π : List Addr} : ∀ {ds : List D} {vs : List V}, ZL K H π ds vs → vs.isEmpty = ds.isEmpty
  | [], _, h => by cases h; rfl
  | d :: ds, _, ⟨v, r, e, _, _⟩ => by subst e; rfl
theorem tru_ok' {K : PySem.W.Frag} {H : Hp} {π : List Addr} {d x' : D} {v : V} {b : Bool} (hr : HR K H π ω) (z : Z K H π d v) (e : rd d ω = x') (h : truD x' = some b) : TruV K v H b := by
  cases x' with
  | non => cases read_non z e; cases h; rfl
  | bl c => cases read_bl z e; cases h; rfl
  | int c => cases read_int z e; cases h; rfl
  | str c =>
    cases read_str z e
    have h' : (if c.length ≤ sizeLine then some ((c.length : Int) != 0) else none) = some b := h
    by_cases hc : c.length ≤ sizeLine
    · rw [if_pos hc] at h'; cases h'; exact ⟨hc, rfl⟩
    · rw [if_neg hc] at h'; cases h'
  | lst ds =>
    obtain ⟨a, vs, rfl, q, zs⟩ := read_lst hr z e
    cases h
    exact .inl ⟨vs, .inl q, by rw [isEmpty_zl zs]⟩
  | tup ds =>
    obtain ⟨a, vs, rfl, q, zs⟩ := read_tup z e
    cases h
    exact .inr (.inl ⟨vs, q, by rw [isEmpty_zl zs]⟩)
  | _ => cases h
/-- any expression but and, or, not, comparisons -/
theorem et_val {Q : Bool → Om → Prop} {a : Expr} (h : EV X a ρ ω fun x ω1 => ∃ x' b, rd x ω1 = x' ∧ truD x' = some b ∧ Q b ω1)
    (he : ∀ whole, isTrue a X.env whole = (do let v ← whole; standAt a.pos; holding [v] (truthy v)) := by intro _; rfl) : ET X a ρ ω Q := fun σ H π R g k => by
  refine ⟨_, pt_truth pe_s he, ?_⟩
  refine h σ H π _ g fun v H1 π1 x ω1 ⟨x', b, ex, hb, q⟩ s1 r1 zx => ?_
  exact ⟨b, tru_ok' r1 zx ex hb, k b H1 π1 ω1 q s1 r1⟩
theorem et_not {Q : Bool → Om → Prop} {a : Expr} (h : ET X a ρ ω fun b ω1 => Q (!b) ω1) : ET X (.UnaryOp .Not a pos) ρ ω Q := fun σ H π R g k => by
  refine ⟨_, pt_not pt_s, ?_⟩
  exact h σ H π _ g fun b H1 π1 ω1 q s1 r1 => k (!b) H1 π1 ω1 q s1 r1
theorem ev_not {a : Expr} (h : EV X a ρ ω fun x ω1 => ∃ b, x = .bl b ∧ Q (.bl (!b)) ω1) : EV X (.UnaryOp .Not a pos) ρ ω Q := fun σ H π R g k => by
  refine ⟨_, pe_not pe_s, ?_⟩
  refine h σ H π _ g fun v H1 π1 x ω1 ⟨b, ex, q⟩ s1 r1 zx => ?_
  subst ex
  cases zx
  exact ⟨b, rfl, k _ H1 π1 _ ω1 q s1 r1 rfl⟩

/-! ### and, or -/
theorem ev_one {op : BoolOp} {a : Expr} (h : EV X a ρ ω Q) : EV X (.BoolOp op [a] pos) ρ ω Q := fun σ H π R g k => ⟨_, pe_one pe_s, h σ H π R g k⟩
theorem ev_and {a b : Expr} {rest : List Expr} (h : EV X a ρ ω fun x ω1 => ∃ c, x = .bl c ∧ (c = true → EV X (.BoolOp .And (b :: rest) pos) ρ ω1 Q) ∧ (c = false → Q (.bl false) ω1)) : EV X (.BoolOp .And (a :: b :: rest) pos) ρ ω Q := fun σ H π R g k => by
  refine ⟨_, pe_and pe_s pe_s, ?_⟩
  refine h σ H π _ g fun v H1 π1 x ω1 ⟨c, ex, q1, q2⟩ s1 r1 zx => ?_
  subst ex
  cases zx
  refine ⟨c, rfl, ?_⟩
  cases c with
  | true => rw [if_pos rfl]; exact q1 rfl σ H1 π1 R (g.mono s1 r1) (k.from s1)
  | false => rw [if_neg Bool.false_ne_true]; exact k _ H1 π1 _ ω1 (q2 rfl) s1 r1 rfl
theorem ev_or {a b : Expr} {rest : List Expr} (h : EV X a ρ ω fun x ω1 => ∃ c, x = .bl c ∧ (c = false → EV X (.BoolOp .Or (b :: rest) pos) ρ ω1 Q) ∧ (c = true → Q (.bl true) ω1)) : EV X (.BoolOp .Or (a :: b :: rest) pos) ρ ω Q := fun σ H π R g k => by
  refine ⟨_, pe_or pe_s pe_s, ?_⟩
  refine h σ H π _ g fun v H1 π1 x ω1 ⟨c, ex, q1, q2⟩ s1 r1 zx => ?_
  subst ex
  cases zx
  refine ⟨c, rfl, ?_⟩
  cases c with
  | true => rw [if_pos rfl]; exact k _ H1 π1 _ ω1 (q2 rfl) s1 r1 rfl
  | false => rw [if_neg Bool.false_ne_true]; exact q1 rfl σ H1 π1 R (g.mono s1 r1) (k.from s1)
/-- as tests -/
def sW (X : Cx) (e : Expr) : TT := fun σ H Q => ∃ t, PW X e t ∧ t σ H Q
theorem pw_s {e : Expr} : PW X e (sW X e) := ⟨fun w pins s σ H Q I ⟨_, p, h⟩ => p.run w pins s σ H Q I h⟩
def EW (X : Cx) (e : Expr) (ρ : Ro) (ω : Om) (Q : Bool → Om → Prop) : Prop :=
  ∀ σ H π (R : Bool → Hp → Prop), Gd X.K ρ ω σ H π → (∀ b H' π' ω', Q b ω' → Stp H π H' π' → HR X.K H' π' ω' → R b H') → sW X e σ H R
theorem et_w {Q : Bool → Om → Prop} {e : Expr} (h : EW X e ρ ω Q) : ET X e ρ ω Q := fun σ H π R g k => ⟨_, pw_s.pt, h σ H π R g k⟩
theorem ew_and1 {Q : Bool → Om → Prop} {a : Expr} (h : ET X a ρ ω Q) : EW X (.BoolOp .And [a] pos) ρ ω Q := fun σ H π R g k => ⟨_, pw_and1 pt_s, h σ H π R g k⟩
theorem ew_or1 {Q : Bool → Om → Prop} {a : Expr} (h : ET X a ρ ω Q) : EW X (.BoolOp .Or [a] pos) ρ ω Q := fun σ H π R g k => ⟨_, pw_or1 pt_s, h σ H π R g k⟩
theorem ew_and {Q : Bool → Om → Prop} {a b : Expr} {rest : List Expr} (h : ET X a ρ ω fun c ω1 => (c = true → EW X (.BoolOp .And (b :: rest) pos) ρ ω1 Q) ∧ (c = false → Q false ω1)) : EW X (.BoolOp .And (a :: b :: rest) pos) ρ ω Q := fun σ H π R g k => by
  refine ⟨_, pw_and pt_s pw_s, ?_⟩
  refine h σ H π _ g fun c H1 π1 ω1 q s1 r1 => ?_
  cases c with
  | true => rw [if_pos rfl]; exact q.1 rfl σ H1 π1 R (g.mono s1 r1) fun b H' π' ω' q' s' r' => k b H' π' ω' q' (s1.trans s') r'
  | false => rw [if_neg Bool.false_ne_true]; exact k _ H1 π1 ω1 (q.2 rfl) s1 r1
theorem ew_or {Q : Bool → Om → Prop} {a b : Expr} {rest : List Expr} (h : ET X a ρ ω fun c ω1 => (c = false → EW X (.BoolOp .Or (b :: rest) pos) ρ ω1 Q) ∧ (c = true → Q true ω1)) : EW X (.BoolOp .Or (a :: b :: rest) pos) ρ ω Q := fun σ H π R g k => by
  refine ⟨_, pw_or pt_s pw_s, ?_⟩
  refine h σ H π _ g fun c H1 π1 ω1 q s1 r1 => ?_
  cases c with
  | true => rw [if_pos rfl]; exact k _ H1 π1 ω1 (q.2 rfl) s1 r1
  | false => rw [if_neg Bool.false_ne_true]; exact q.1 rfl σ H1 π1 R (g.mono s1 r1) fun b H' π' ω' q' s' r' => k b H' π' ω' q' (s1.trans s') r'
theorem ev_ife {c a b : Expr} (h : ET X c ρ ω fun t ω1 => (t = true → EV X a ρ ω1 Q) ∧ (t = false → EV X b ρ ω1 Q)) : EV X (.IfExp c a b pos) ρ ω Q := fun σ H π R g k => by
  refine ⟨_, pe_ifExp pt_s pe_s pe_s, ?_⟩
  refine h σ H π _ g fun c H1 π1 ω1 q s1 r1 => ?_
  cases c with
  | true => rw [if_pos rfl]; exact q.1 rfl σ H1 π1 R (g.mono s1 r1) (k.from s1)
  | false => rw [if_neg Bool.false_ne_true]; exact q.2 rfl σ H1 π1 R (g.mono s1 r1) (k.from s1)
/-- both ways give ints: one value -/
theorem ev_ifeI {c a b : Expr} (h : ET X c ρ ω fun t ω1 => ∃ i j : Int, (∀ Q', Q' (.int i) ω1 → EV X a ρ ω1 Q') ∧ (∀ Q', Q' (.int j) ω1 → EV X b ρ ω1 Q') ∧ Q (.int (if t = true then i else j)) ω1) : EV X (.IfExp c a b pos) ρ ω Q :=
  ev_ife fun σ H π R g k => h σ H π R g fun t H1 π1 ω1 ⟨i, j, h1, h2, q⟩ s r => k t H1 π1 ω1 ⟨fun e => h1 _ (by subst e; exact q), fun e => h2 _ (by subst e; exact q)⟩ s r
theorem ev_ifeS {c a b : Expr} (h : ET X c ρ ω fun t ω1 => ∃ i j : Str, (∀ Q', Q' (.str i) ω1 → EV X a ρ ω1 Q') ∧ (∀ Q', Q' (.str j) ω1 → EV X b ρ ω1 Q') ∧ Q (.str (if t = true then i else j)) ω1) : EV X (.IfExp c a b pos) ρ ω Q :=
  ev_ife fun σ H π R g k => h σ H π R g fun t H1 π1 ω1 ⟨i, j, h1, h2, q⟩ s r => k t H1 π1 ω1 ⟨fun e => h1 _ (by subst e; exact q), fun e => h2 _ (by subst e; exact q)⟩ s r
end
end DL

set_option Elab.async false
set_option linter.all false
set_option maxRecDepth 100000
set_option autoImplicit false
set_option maxHeartbeats 1000000
/-! DL4: parts, slices, argument lists, displays, calls. -/
namespace DL
open PySem PySem.Spec PyProof.Rows L2

section
variable {X : Cx} {ρ : Ro} {ω : Om} {Q : D → Om → Prop} {pos : Pos}
/-! ### x[i] -/
def sIx (X : Cx) : R2 := fun x y H Q => ∃ r, IxR X r ∧ r x y H Q
theorem ix_s : IxR X (sIx X) := fun a b pins s σ H x y v u Q I rx ry ⟨_, p, h⟩ hs => p a b pins s σ H x y v u Q I rx ry h hs
inductive IxV : D → D → D → Prop
  | lst {ds : List D} {i : Int} {z : D} (h : atI ds i = some z) : IxV (.lst ds) (.int i) z
  | tup {ds : List D} {i : Int} {z : D} (h : atI ds i = some z) : IxV (.tup ds) (.int i) z
  | str {s : Str} {i : Int} {c : Nat} (hl : s.length ≤ sizeLine) (h : atI s.cps.toList i = some c) : IxV (.str s) (.int i) (.str ⟨#[c]⟩)
  | scr {ns : List Int} {i n : Int} (h : atI ns i = some n) : IxV (.scr ns) (.int i) (.int n)
theorem atI_zl {K : PySem.W.Frag} {H : Hp} {π : List Addr} {ds : List D} {vs : List V} {i : Int} {z : D} (zs : ZL K H π ds vs) (h : atI ds i = some z) : ∃ v, atI vs i = some v ∧ Z K H π z v := by
  unfold atI at h ⊢
  rw [ZL.length zs]
  cases e : ixN ds.length i with
  | none => rw [e] at h; cases h
  | some j =>
    rw [e] at h
    obtain ⟨v, h1, h2⟩ := ZL.get zs (show ds[j]? = some z from h)
    exact ⟨v, h1, h2⟩
theorem ev_ix {a b : Expr} (h : EV X a ρ ω fun x ω1 => EV X b ρ ω1 fun y ω2 => ∃ x' z, rd x ω2 = x' ∧ IxV x' y z ∧ Q z ω2) (hs : PlainIx b := by exact fun _ _ => rfl) : EV X (.Subscript a b pos) ρ ω Q := fun σ H π R g k => by
  refine ⟨_, pe_ix (r := sIx X) ix_s pe_s pe_s hs, ?_⟩
  refine h σ H π _ g fun v H1 π1 x ω1 h1 s1 r1 zx => ?_
  refine h1 σ H1 π1 _ (g.mono s1 r1) fun u H2 π2 y ω2 ⟨x', z, ex, b, q⟩ s2 r2 zy => ?_
  have zx2 := Z.stp s2 _ _ zx
  have fin : ∀ {w : V}, Z X.K H2 π2 z w → R w H2 := fun {w} zw => k w H2 π2 z ω2 q (s1.trans s2) r2 zw
  cases b with
  | lst h =>
    obtain ⟨p, vs, rfl, hp, zs⟩ := read_lst r2 zx2 ex
    cases zy
    obtain ⟨w, e, zw⟩ := atI_zl zs h
    exact ⟨_, ix_list, p, vs, _, w, rfl, rfl, .inl hp, e, fin zw⟩
  | tup h =>
    obtain ⟨p, vs, rfl, hp, zs⟩ := read_tup zx2 ex
    cases zy
    obtain ⟨w, e, zw⟩ := atI_zl zs h
    exact ⟨_, ix_tup, p, vs, _, w, rfl, rfl, hp, e, fin zw⟩
  | str hl h =>
    cases read_str zx2 ex
    cases zy
    exact ⟨_, ix_str, _, _, _, rfl, rfl, hl, h, fin rfl⟩
  | @scr ns i n h =>
    have hc : x = .scr ns := by
      cases x with
      | cell k => unfold rd at ex; simp only at ex; split at ex <;> cases ex
      | scr m => exact ex
      | _ => cases ex
    subst hc
    obtain ⟨p, rfl, hp⟩ := zx2
    cases zy
    refine ⟨_, ix_list, p, _, _, .int n, rfl, rfl, SqS.sq hp, ?_, fin rfl⟩
    unfold atI at h ⊢
    rw [List.length_map]
    cases e : ixN ns.length i with
    | none => rw [e] at h; cases h
    | some j =>
      rw [e] at h
      have h' : ns[j]? = some n := h
      simp [h']

/-! ### slices -/
def EO (X : Cx) (e : Option Expr) (ρ : Ro) (ω : Om) (Q : Option Int → Om → Prop) : Prop :=
  ∀ σ H π (R : Option Int → Hp → Prop), Gd X.K ρ ω σ H π → (∀ o H' π' ω', Q o ω' → Stp H π H' π' → HR X.K H' π' ω' → R o H') → sO X e σ H R
theorem po_s {e : Option Expr} : PO X e (sO X e) := ⟨fun pins s σ H Q I ⟨_, p, h⟩ => p.run pins s σ H Q I h⟩
theorem eo_none {Q : Option Int → Om → Prop} (q : Q none ω) : EO X none ρ ω Q := fun σ H π R g k => ⟨_, po_none, k _ H π ω q (Stp.refl _ _) g.hr⟩
theorem eo_some {Q : Option Int → Om → Prop} {e : Expr} (h : EV X e ρ ω fun d ω1 => ∃ i, d = .int i ∧ Q (some i) ω1) : EO X (some e) ρ ω Q := fun σ H π R g k => by
  refine ⟨_, po_some pe_s, ?_⟩
  refine h σ H π _ g fun v H1 π1 x ω1 ⟨i, ex, q⟩ s1 r1 zx => ?_
  subst ex
  cases zx
  exact ⟨i, rfl, k _ H1 π1 ω1 q s1 r1⟩
def sSl (X : Cx) : V → Option Int → Option Int → Hp → VK → Prop := fun x lo hi H Q => ∃ r, SlR X r ∧ r x lo hi H Q
theorem sl_s : SlR X (sSl X) := fun pins s σ H x v vl vu lo hi sl Q I rx hs pl pu ⟨_, p, h⟩ => p pins s σ H x v vl vu lo hi sl Q I rx hs pl pu h
def cutD {α : Type} (xs : List α) (lo hi : Option Int) : List α := (xs.drop (HT.sIx xs.length 0 lo)).take (HT.sIx xs.length xs.length hi - HT.sIx xs.length 0 lo)
theorem cutD_all {α : Type} (xs : List α) (lo hi : Option Int) (h1 : HT.sIx xs.length 0 lo = 0) (h2 : HT.sIx xs.length xs.length hi = xs.length) : cutD xs lo hi = xs := by
  unfold cutD
  rw [h1, h2]
  simp
theorem zl_cut {K : PySem.W.Frag} {H : Hp} {π : List Addr} {ds : List D} {vs : List V} (zs : ZL K H π ds vs) (lo hi : Option Int) : ZL K H π (cutD ds lo hi) (cutV vs lo hi) := by
  unfold cutD cutV
  rw [ZL.length zs]
  exact ZL.take _ (ZL.drop _ zs)
inductive SlV : D → Option Int → Option Int → D → Prop
  | tup {ds : List D} {lo hi : Option Int} : SlV (.tup ds) lo hi (.tup (cutD ds lo hi))
  | lst {ds : List D} {lo hi : Option Int} : SlV (.lst ds) lo hi (.lst (cutD ds lo hi))
  | str {s : Str} {lo hi : Option Int} (hl : s.length ≤ sizeLine) : SlV (.str s) lo hi (.str (cutS s lo hi))
  | scr {ns : List Int} {lo hi : Option Int} : SlV (.scr ns) lo hi (.lst ((cutD ns lo hi).map .int))
theorem cutD_map {α β : Type} (f : α → β) (xs : List α) (lo hi : Option Int) : cutD (xs.map f) lo hi = (cutD xs lo hi).map f := by
  unfold cutD
  rw [List.length_map, List.map_take, List.map_drop]
/-- new lists are frozen -/
theorem ev_sl {a : Expr} {lo hi : Option Expr} {p2 : Pos} (h : EV X a ρ ω fun x ω1 => EO X lo ρ ω1 fun l ω2 => EO X hi ρ ω2 fun u ω3 => ∃ x' z, rd x ω3 = x' ∧ SlV x' l u z ∧ Q z ω3) : EV X (.Subscript a (.Slice lo hi none p2) pos) ρ ω Q := fun σ H π R g k => by
  refine ⟨tFrz? _, pe_frz? (pe_slice (r := sSl X) sl_s pe_s po_s po_s), ?_⟩
  refine h σ H π _ g fun v H1 π1 x ω1 h1 s1 r1 zx => ?_
  refine h1 σ H1 π1 _ (g.mono s1 r1) fun l H2 π2 ω2 h2 s2 r2 => ?_
  refine h2 σ H2 π2 _ ((g.mono s1 r1).mono s2 r2) fun u H3 π3 ω3 ⟨x', z, ex, b, q⟩ s3 r3 => ?_
  have zx3 := Z.stp s3 _ _ (Z.stp s2 _ _ zx)
  have k3 := (k.from s1).from (s2.trans s3)
  cases b with
  | @tup ds =>
    obtain ⟨p, vs, rfl, hp, zs⟩ := read_tup zx3 ex
    refine ⟨_, sl_tupA, p, vs, rfl, hp, fun hw => fz_l ?_, fun _ t ht => fz_l ?_⟩
    · have e : cutD ds l u = ds := cutD_all ds l u (by rw [← ZL.length zs]; exact hw.1) (by rw [← ZL.length zs]; exact hw.2)
      rw [e] at q
      exact k3 _ H3 π3 _ ω3 q (Stp.refl _ _) r3 ⟨p, vs, rfl, hp, zs⟩
    · exact k3 _ _ π3 _ ω3 q (Stp.obj ht) (r3.obj ht) ⟨t, _, rfl, SqT.of upd_same, ZL.stp (Stp.obj ht) _ _ (zl_cut zs l u)⟩
  | lst =>
    obtain ⟨p, vs, rfl, hp, zs⟩ := read_lst r3 zx3 ex
    exact ⟨_, sl_list, p, vs, rfl, .inl hp, fun t ht => fz_new r3 ht (zl_cut zs l u) k3 q⟩
  | str hl =>
    cases read_str zx3 ex
    exact ⟨_, sl_str, _, rfl, hl, fz_l (k3 _ H3 π3 _ ω3 q (Stp.refl _ _) r3 rfl)⟩
  | @scr ns =>
    have hc : x = .scr ns := by
      cases x with
      | cell k => unfold rd at ex; simp only at ex; split at ex <;> cases ex
      | scr m => exact ex
      | _ => cases ex
    subst hc
    obtain ⟨p, rfl, hp⟩ := zx3
    refine ⟨_, sl_list, p, _, rfl, SqS.sq hp, fun t ht => fz_new r3 ht ?_ k3 q⟩
    have e : cutV (ns.map V.int) l u = (cutD ns l u).map V.int := cutD_map V.int ns l u
    rw [e]
    exact ZL.ofInts
/-- xs[::-1] of a list -/
theorem ev_revL {e : Expr} {k : Nat} {p1 p2 p3 : Pos} (h : EV X e ρ ω fun x ω1 => ∃ ds, rd x ω1 = .lst ds ∧ Q (.lst ds.reverse) ω1) : EV X (.Subscript e (.Slice none none (some (.UnaryOp .USub (.Constant (.int 1) k p1) p2)) p3) pos) ρ ω Q := fun σ H π R g kk => by
  refine ⟨tFrz? _, pe_frz? (pe_revL pe_s), ?_⟩
  refine h σ H π _ g fun v H1 π1 x ω1 ⟨ds, ex, q⟩ s1 r1 zx => ?_
  obtain ⟨p, vs, rfl, hp, zs⟩ := read_lst r1 zx ex
  exact ⟨p, vs, rfl, .inl hp, fun t ht => fz_new r1 ht (ZL.reverse zs) (kk.from s1) q⟩

/-! ### argument lists, displays -/
theorem ea_nil {Q : List D → Om → Prop} (q : Q [] ω) : EA X [] ρ ω Q := fun σ H π R g k => ⟨_, pa_nil, k _ H π _ ω q (Stp.refl _ _) g.hr rfl⟩
theorem ea_cons {Q : List D → Om → Prop} {e : Expr} {es : List Expr} (h : EV X e ρ ω fun d ω1 => EA X es ρ ω1 fun ds ω2 => Q (d :: ds) ω2) (hs : starEach (e :: es) X.env = (false, eval e X.env) :: starEach es X.env := by rfl) : EA X (e :: es) ρ ω Q := fun σ H π R g k => by
  refine ⟨_, pa_cons pe_s pa_s hs, ?_⟩
  refine h σ H π _ g fun v H1 π1 d ω1 h1 s1 r1 z1 => ?_
  refine h1 σ H1 π1 _ (g.mono s1 r1) fun vs H2 π2 ds ω2 q s2 r2 z2 => ?_
  exact k _ H2 π2 _ ω2 q (s1.trans s2) r2 ⟨v, vs, rfl, Z.stp s2 _ _ z1, z2⟩
theorem ev_tup {es : List Expr} {x1 : Nat} (h : EA X es ρ ω fun ds ω1 => ds.length ≤ sizeLine ∧ Q (.tup ds) ω1) : EV X (.Tuple es x1 pos) ρ ω Q := fun σ H π R g k => by
  refine ⟨_, pe_tup pa_s, ?_⟩
  refine h σ H π _ g fun vs H1 π1 ds ω1 ⟨hl, q⟩ s1 r1 zs => ?_
  refine ⟨by rw [ZL.length zs]; exact hl, fun t ht => ?_⟩
  exact k _ _ π1 _ ω1 q (s1.trans (Stp.obj ht)) (r1.obj ht) ⟨t, _, rfl, SqT.of upd_same, ZL.stp (Stp.obj ht) _ _ zs⟩
/-- fresh at H is fresh ahead -/
theorem Stp.fresh {H H' : Hp} {π π' : List Addr} {ω' : Om} {K : PySem.W.Frag} {p : Addr} (s : Stp H π H' π') (r : HR K H' π' ω') (hp : H' p = none) : H p = none := by
  cases e : H p with
  | none => rfl
  | some o =>
    by_cases hm : p ∈ π
    · obtain ⟨k, hk⟩ := List.mem_iff_getElem?.mp hm
      exact absurd hp (r.som p (List.mem_of_getElem? (s.pre k p hk)))
    · rw [s.frm p o e hm] at hp; cases hp
theorem el_new {Q : List D → Om → Prop} {H : Hp} {π : List Addr} {R : VK}
    (k : ∀ p vs H' π' ds ω', Q ds ω' → Stp H π H' π' → HR X.K H' π' ω' → H' p = some (.lst vs) → p ∉ π' → H p = none → ZL X.K H' π' ds vs → R (.ref p) H')
    {H1 : Hp} {π1 : List Addr} {ω1 : Om} {ds : List D} {vs : List V} {p : Addr} (s1 : Stp H π H1 π1) (r1 : HR X.K H1 π1 ω1) (hp : H1 p = none) (zs : ZL X.K H1 π1 ds vs) (q : Q ds ω1) : R (.ref p) (upd H1 p (.lst vs)) := by
  refine k p vs _ π1 ds ω1 q (s1.trans (Stp.obj hp)) (r1.obj hp) upd_same (fun hm => r1.som p hm hp) (s1.fresh r1 hp) (ZL.stp (Stp.obj hp) _ _ zs)
theorem el_lst {Q : List D → Om → Prop} {es : List Expr} (h : EA X es ρ ω fun ds ω1 => ds.length ≤ sizeLine ∧ Q ds ω1) : EL X (.List es pos) ρ ω Q := fun σ H π R g k => by
  refine ⟨_, pe_lst pa_s, ?_⟩
  refine h σ H π _ g fun vs H1 π1 ds ω1 ⟨hl, q⟩ s1 r1 zs => ?_
  exact ⟨by rw [ZL.length zs]; exact hl, fun p hp => el_new k s1 r1 hp zs q⟩

/-! ### calls of built-ins -/
def sCl (X : Cx) (f : Value) : List V → Hp → VK → Prop := fun xs H Q => ∃ r, CallR X f r ∧ r xs H Q
theorem cl_s {f : Value} : CallR X f (sCl X f) := fun pins s σ H xs us Q I rx ⟨_, p, h⟩ => p pins s σ H xs us Q I rx h
/-- the type of data -/
def tyD : D → Option String
  | .non => some "NoneType"
  | .bl _ => some "bool"
  | .int _ => some "int"
  | .str _ => some "str"
  | .tup _ => some "tuple"
  | .lst _ => some "list"
  | _ => none
theorem ty_ok {K : PySem.W.Frag} {H : Hp} {π : List Addr} {ω : Om} {d x' : D} {v : V} {t : String} (hr : HR K H π ω) (z : Z K H π d v) (e : rd d ω = x') (h : tyD x' = some t) : TyX K H v (.type t) := by
  cases x' with
  | non => cases read_non z e; cases h; exact .base .non
  | bl c => cases read_bl z e; cases h; exact .base (.bl c)
  | int c => cases read_int z e; cases h; exact .base (.int c)
  | str c => cases read_str z e; cases h; exact .base (.str c)
  | lst ds =>
    obtain ⟨a, vs, rfl, q, zs⟩ := read_lst hr z e
    cases h
    rcases q with q | ⟨o, q⟩
    · exact .base (.lst q)
    · exact .base (.frz q)
  | tup ds =>
    obtain ⟨a, vs, rfl, q, zs⟩ := read_tup z e
    cases h
    rcases q with (q | ⟨o, q⟩) | ⟨o, its, n, hk, hc, _⟩
    · exact .base (.tup q)
    · exact .fTuple q
    · exact .kTuple hk hc
  | _ => cases h
/-- what a built-in makes of data: scalars and tuples out -/
inductive ClV (X : Cx) : Value → List D → D → Prop
  | absI {i : Int} : ClV X (.builtin "abs") [.int i] (.int (if i < 0 then -i else i))
  | intI {i : Int} : ClV X (.type "int") [.int i] (.int i)
  | intB {i : Bool} : ClV X (.type "int") [.bl i] (.int (if i then 1 else 0))
  | intS {s : Str} {n : Int} (h : PySem.intText? s = some n) (hl : s.length ≤ 640) : ClV X (.type "int") [.str s] (.int n)
  | strI {i : Int} (h : i.natAbs.log2 < 1920) : ClV X (.type "str") [.int i] (.str (toString i))
  | max2 {i j : Int} (hc : X.calm = true) : ClV X (.builtin "max") [.int i, .int j] (.int (if j > i then j else i))
  | min2 {i j : Int} (hc : X.calm = true) : ClV X (.builtin "min") [.int i, .int j] (.int (if j < i then j else i))
  | lenS {s : Str} (hl : s.length ≤ sizeLine) : ClV X (.builtin "len") [.str s] (.int s.length)
  | lenT {ds : List D} : ClV X (.builtin "len") [.tup ds] (.int ds.length)
  | lenL {ds : List D} : ClV X (.builtin "len") [.lst ds] (.int ds.length)
  | lenC {ns : List Int} : ClV X (.builtin "len") [.scr ns] (.int ns.length)
  | allB {bs : List Bool} (hc : X.calm = true) : ClV X (.builtin "all") [.lst (bs.map .bl)] (.bl (bs.all id))
  | anyB {bs : List Bool} (hc : X.calm = true) : ClV X (.builtin "any") [.lst (bs.map .bl)] (.bl (bs.any id))
  | sumI {ns : List Int} (hc : X.calm = true) : ClV X (.builtin "sum") [.lst (ns.map .int)] (.int ns.sum)
  | tupL {ds : List D} : ClV X (.type "tuple") [.lst ds] (.tup ds)
  | tupT {ds : List D} : ClV X (.type "tuple") [.tup ds] (.tup ds)
  | isi {x : D} {t n : String} {b : Bool} (ht : tyD x = some t) (hb : kitB t n = some b) : ClV X (.builtin "isinstance") [x, .ty n] (.bl b)
def rds (ds : List D) (ω : Om) : List D := ds.map (rd · ω)
theorem cl_ok {K : PySem.W.Frag} {H : Hp} {π : List Addr} {R : VK} {f : Value} {ds : List D} {z : D} {vs : List V} (hK : X.K = K) (hr : HR K H π ω) (zs : ZL K H π ds vs) (b : ClV X f (rds ds ω) z) (k : Kt K H π Q R) (q : Q z ω) : sCl X f vs H R := by
  subst hK
  have fin : ∀ {w : V}, Z X.K H π z w → R w H := fun {w} zw => k w H π z ω q (Stp.refl _ _) hr zw
  generalize he : rds ds ω = ds' at b
  have one : ∀ {d' : D}, rds ds ω = [d'] → ∃ d v, ds = [d] ∧ vs = [v] ∧ Z X.K H π d v ∧ rd d ω = d' := fun {d'} e => by
    match ds, vs, zs, e with
    | [], _, _, e => cases e
    | [d], _, ⟨v, r, e1, z1, z2⟩, e => cases z2; cases e; exact ⟨d, v, rfl, e1, z1, rfl⟩
    | _ :: _ :: _, _, _, e => cases e
  have two : ∀ {d' d2 : D}, rds ds ω = [d', d2] → ∃ d v e u, ds = [d, e] ∧ vs = [v, u] ∧ Z X.K H π d v ∧ Z X.K H π e u ∧ rd d ω = d' ∧ rd e ω = d2 := fun {d' d2} h => by
    match ds, vs, zs, h with
    | [], _, _, h => cases h
    | [d], _, _, h => cases h
    | [d, e], _, ⟨v, r, e1, z1, u, r2, e2, z2, z3⟩, h => cases z3; subst e2; cases h; exact ⟨d, v, e, u, rfl, e1, z1, z2, rfl, rfl⟩
    | _ :: _ :: _ :: _, _, _, h => cases h
  cases b with
  | absI => obtain ⟨d, v, rfl, rfl, z1, e⟩ := one he; cases read_int z1 e; exact ⟨_, call_abs, _, rfl, fin rfl⟩
  | intI => obtain ⟨d, v, rfl, rfl, z1, e⟩ := one he; cases read_int z1 e; exact ⟨_, call_int1, .inl ⟨_, rfl, fin rfl⟩⟩
  | intB => obtain ⟨d, v, rfl, rfl, z1, e⟩ := one he; cases read_bl z1 e; exact ⟨_, call_int1, .inr ⟨_, rfl, fin rfl⟩⟩
  | intS h hl => obtain ⟨d, v, rfl, rfl, z1, e⟩ := one he; cases read_str z1 e; exact ⟨_, call_int_str, _, _, rfl, h, hl, fin rfl⟩
  | strI h => obtain ⟨d, v, rfl, rfl, z1, e⟩ := one he; cases read_int z1 e; exact ⟨_, call_str_int, _, rfl, h, fin rfl⟩
  | max2 hc => obtain ⟨d, v, d2, u, rfl, rfl, z1, z2, e, e2⟩ := two he; cases read_int z1 e; cases read_int z2 e2; exact ⟨_, call_max2 hc, _, _, rfl, fin rfl⟩
  | min2 hc => obtain ⟨d, v, d2, u, rfl, rfl, z1, z2, e, e2⟩ := two he; cases read_int z1 e; cases read_int z2 e2; exact ⟨_, call_min2 hc, _, _, rfl, fin rfl⟩
  | lenS hl => obtain ⟨d, v, rfl, rfl, z1, e⟩ := one he; cases read_str z1 e; exact ⟨_, call_len, _, _, rfl, ⟨hl, rfl⟩, fin rfl⟩
  | lenT =>
    obtain ⟨d, v, rfl, rfl, z1, e⟩ := one he
    obtain ⟨a, us, rfl, ha, za⟩ := read_tup z1 e
    exact ⟨_, call_len, _, _, rfl, .inr ⟨us, ha, rfl⟩, fin (by rw [ZL.length za]; rfl)⟩
  | lenL =>
    obtain ⟨d, v, rfl, rfl, z1, e⟩ := one he
    obtain ⟨a, us, rfl, ha, za⟩ := read_lst hr z1 e
    exact ⟨_, call_len, _, _, rfl, .inl ⟨us, .inl ha, rfl⟩, fin (by rw [ZL.length za]; rfl)⟩
  | @lenC ns =>
    obtain ⟨d, v, rfl, rfl, z1, e⟩ := one he
    have hc : d = .scr ns := by
      cases d with
      | cell k => unfold rd at e; simp only at e; split at e <;> cases e
      | scr m => exact e
      | _ => cases e
    subst hc
    obtain ⟨a, rfl, ha⟩ := z1
    exact ⟨_, call_len, _, _, rfl, .inl ⟨_, SqS.sq ha, rfl⟩, fin (by rw [List.length_map]; rfl)⟩
  | allB hc =>
    obtain ⟨d, v, rfl, rfl, z1, e⟩ := one he
    obtain ⟨a, us, rfl, ha, za⟩ := read_lst hr z1 e
    cases ZL.blsV za
    exact ⟨_, cr_all hc, a, _, rfl, .inl ha, fin rfl⟩
  | anyB hc =>
    obtain ⟨d, v, rfl, rfl, z1, e⟩ := one he
    obtain ⟨a, us, rfl, ha, za⟩ := read_lst hr z1 e
    cases ZL.blsV za
    exact ⟨_, cr_any hc, a, _, rfl, .inl ha, fin rfl⟩
  | sumI hc =>
    obtain ⟨d, v, rfl, rfl, z1, e⟩ := one he
    obtain ⟨a, us, rfl, ha, za⟩ := read_lst hr z1 e
    cases ZL.intsV za
    exact ⟨_, cr_sum hc, a, _, rfl, .inl ha, fin rfl⟩
  | tupL =>
    obtain ⟨d, v, rfl, rfl, z1, e⟩ := one he
    obtain ⟨a, us, rfl, ha, za⟩ := read_lst hr z1 e
    refine ⟨_, call_tuple_of, a, us, rfl, .inl ⟨.inl ha, fun t ht => ?_⟩⟩
    exact k _ _ π _ ω q (Stp.obj ht) (hr.obj ht) ⟨t, _, rfl, SqT.of upd_same, ZL.stp (Stp.obj ht) _ _ za⟩
  | tupT =>
    obtain ⟨d, v, rfl, rfl, z1, e⟩ := one he
    obtain ⟨a, us, rfl, ha, za⟩ := read_tup z1 e
    exact ⟨_, call_tuple_of, a, us, rfl, .inr ⟨ha, fin ⟨a, us, rfl, ha, za⟩⟩⟩
  | @isi x0 t0 n0 b0 ht hb =>
    obtain ⟨d, v, d2, u, rfl, rfl, z1, z2, e, e2⟩ := two he
    have hu : u = .ty n0 := by
      cases d2 with
      | cell k => unfold rd at e2; simp only at e2; split at e2 <;> cases e2
      | ty m => cases e2; exact z2
      | _ => cases e2
    subst hu
    exact ⟨_, call_isi, v, .ty _, _, _, _, rfl, .ty _, ty_ok hr z1 e ht, kit_ty hb, fin rfl⟩
theorem ev_cb {id : String} {x : Str} {p : Pos} {e : Expr} {es : List Expr} (hm : X.mg x = none) (hv : bootBuiltins x = some (.builtin id)) (h : EA X (e :: es) ρ ω fun ds ω1 => ∃ z, ClV X (.builtin id) (rds ds ω1) z ∧ Q z ω1)
    (hg : Gl X x := by rfl) (hn : x ≠ "__name__" := by decide) (hdb : (x == ("__debug__" : Str)) = false := by decide)
    (he : starEach (e :: es) X.env = (false, eval e X.env) :: starEach es X.env := by rfl) (hpl : (backTo pos (starEach es X.env)).any (·.1) = false := by rfl) : EV X (.Call (.Name x p) (e :: es) [] pos) ρ ω Q := fun σ H π R g k => by
  refine ⟨_, pe_callB (r := sCl X (.builtin id)) cl_s hg hm hv pa_s hn hdb he hpl, ?_⟩
  refine h σ H π _ g fun vs H1 π1 ds ω1 ⟨z, b, q⟩ s1 r1 zs => ?_
  exact cl_ok rfl r1 zs b (k.from s1) q
theorem ev_ct {id : String} {x : Str} {p : Pos} {e : Expr} {es : List Expr} (hm : X.mg x = none) (hv : bootBuiltins x = some (.type id)) (h : EA X (e :: es) ρ ω fun ds ω1 => ∃ z, ClV X (.type id) (rds ds ω1) z ∧ Q z ω1)
    (hg : Gl X x := by rfl) (hn : x ≠ "__name__" := by decide) (hdb : (x == ("__debug__" : Str)) = false := by decide)
    (he : starEach (e :: es) X.env = (false, eval e X.env) :: starEach es X.env := by rfl) (hpl : (backTo pos (starEach es X.env)).any (·.1) = false := by rfl) : EV X (.Call (.Name x p) (e :: es) [] pos) ρ ω Q := fun σ H π R g k => by
  refine ⟨_, pe_callTy (r := sCl X (.type id)) cl_s hg hm hv pa_s hn hdb he hpl, ?_⟩
  refine h σ H π _ g fun vs H1 π1 ds ω1 ⟨z, b, q⟩ s1 r1 zs => ?_
  exact cl_ok rfl r1 zs b (k.from s1) q
/-- list(..): a new list -/
inductive LsV : D → List D → Prop
  | lst {ds : List D} : LsV (.lst ds) ds
  | tup {ds : List D} : LsV (.tup ds) ds
  | str {s : Str} : LsV (.str s) (s.cps.toList.map fun c => .str ⟨#[c]⟩)
theorem call_listS (hc : X.calm = true) : CallR X (.type "list") (fun xs H Q => ∃ z : Str, xs = [.str z] ∧ z.length ≤ sizeLine ∧ ∀ l, H l = none → Q (.ref l) (upd H l (.lst (z.cps.toList.map fun c => .str ⟨#[c]⟩)))) := by
  intro pins s σ H xs us Q I r h
  obtain ⟨z, rfl, hz, q⟩ := h
  obtain ⟨u, rfl, t, rfl⟩ := vals1 r
  refine PySem.call_list_str (I.ok.hd hc) z t (fun h' tk acc c hk hS hI => ?_) hz
  refine ⟨.ref s.heap.objs.size, _, I.laid (t' := tk) hk (Nat.le_refl _) (o := .lst (z.cps.toList.map fun c => .str ⟨#[c]⟩)) ⟨by simpa [Str.length] using hz, acc.toList, c, ?_, ?_⟩, rfl, q _ I.fresh⟩
  · have hl : acc.toList.length = z.cps.toList.length := by simpa using hI.1
    have gen : ∀ (l : List Nat) (vs : List Value), vs.length = l.length → (∀ (i : Nat) v, vs[i]? = some v → ∃ c t, l[i]? = some c ∧ v = .str ⟨#[c]⟩ t) → Vals (l.map fun c => V.str ⟨#[c]⟩) vs := by
      intro l
      induction l with
      | nil => intro vs hv _; cases vs with
        | nil => exact .nil
        | cons => simp at hv
      | cons a l ih => intro vs hv hi; cases vs with
        | nil => simp at hv
        | cons v vs =>
          obtain ⟨c, t, h1, h2⟩ := hi 0 v rfl
          simp at h1
          subst h1
          exact .cons ⟨t, h2⟩ (ih vs (by simpa using hv) fun i w hw => by
            obtain ⟨c, t, h1, h2⟩ := hi (i + 1) w (by simpa using hw)
            exact ⟨c, t, by simpa using h1, h2⟩)
    refine gen _ _ hl fun i v hv => ?_
    have hi : i < acc.size := by
      have := (List.getElem?_eq_some_iff.mp hv).1
      simpa using this
    obtain ⟨c, t, h1, h2⟩ := hI.2 i v (by simpa using hv)
    exact ⟨c, t, by simpa using h1, h2⟩
  · exact hS
theorem el_list {Q : List D → Om → Prop} {p : Pos} {e : Expr} (hc : X.calm = true) (hm : X.mg "list" = none) (h : EV X e ρ ω fun d ω1 => ∃ x' out, rd d ω1 = x' ∧ LsV x' out ∧ out.length ≤ sizeLine ∧ Q out ω1)
    (hg : Gl X "list" := by rfl) (he : starEach (e :: []) X.env = (false, eval e X.env) :: starEach [] X.env := by rfl) (hpl : (backTo pos (starEach [] X.env)).any (·.1) = false := by rfl) : EL X (.Call (.Name "list" p) [e] [] pos) ρ ω Q := fun σ H π R g k => by
  refine ⟨_, pe_callTy (r := sCl X (.type "list")) (x := "list") cl_s hg hm (by decide +kernel) (pa_cons (pe_s (X := X) (e := e)) pa_nil he) (by decide) (by decide) he hpl, ?_⟩
  refine h σ H π _ g fun v H1 π1 d ω1 ⟨x', out, ex, b, hl, q⟩ s1 r1 z1 => ?_
  cases b with
  | lst =>
    obtain ⟨a, us, rfl, ha, za⟩ := read_lst r1 z1 ex
    exact ⟨_, call_list_of, a, us, rfl, .inl (.inl ha), fun t ht => el_new k s1 r1 ht za q⟩
  | tup =>
    obtain ⟨a, us, rfl, ha, za⟩ := read_tup z1 ex
    exact ⟨_, call_list_of, a, us, rfl, .inr ha, fun t ht => el_new k s1 r1 ht za q⟩
  | str =>
    cases read_str z1 ex
    refine ⟨_, call_listS hc, _, rfl, by simpa [Str.length] using hl, fun t ht => el_new k s1 r1 ht ?_ q⟩
    have gen : ∀ l : List Nat, ZL X.K H1 π1 (l.map fun c => D.str ⟨#[c]⟩) (l.map fun c => V.str ⟨#[c]⟩) := by
      intro l
      induction l with
      | nil => rfl
      | cons a l ih => exact ⟨_, _, rfl, rfl, ih⟩
    exact gen _
def rgD (a b : Int) : List D := (List.range (b - a).toNat).map fun i => .int (a + (i : Nat))
theorem zl_rg {K : PySem.W.Frag} {H : Hp} {π : List Addr} (a b : Int) : ZL K H π (rgD a b) (rgV a b) := by
  unfold rgD rgV
  induction (List.range (b - a).toNat) with
  | nil => rfl
  | cons i l ih => exact ⟨_, _, rfl, rfl, ih⟩
theorem el_rng1 {Q : List D → Om → Prop} {p p2 pos2 : Pos} {e : Expr} (hc : X.calm = true) (hm : X.mg "list" = none) (hm2 : X.mg "range" = none) (h : EV X e ρ ω fun d ω1 => ∃ n : Int, d = .int n ∧ 0 ≤ n ∧ n ≤ 16777216 ∧ Q (rgD 0 n) ω1)
    (hg : Gl X "list" := by rfl) (hg2 : Gl X "range" := by rfl) (na : starEach [e] X.env = (false, eval e X.env) :: starEach [] X.env := by rfl)
    (na2 : starEach [(.Call (.Name "range" p2) [e] [] pos2)] X.env = (false, eval (.Call (.Name "range" p2) [e] [] pos2) X.env) :: starEach [] X.env := by rfl) : EL X (.Call (.Name "list" p) [.Call (.Name "range" p2) [e] [] pos2] [] pos) ρ ω Q := fun σ H π R g k => by
  refine ⟨_, pe_listRg hc hg hm (prg_1 hg2 hm2 pe_s na) na2, ?_⟩
  refine h σ H π _ g fun v H1 π1 d ω1 ⟨n, ed, h0, h1, q⟩ s1 r1 z1 => ?_
  subst ed
  cases z1
  exact ⟨n, rfl, .of_le (by omega) (by omega) (by omega) (by omega), fun t ht => el_new k s1 r1 ht (zl_rg 0 n) q⟩
end
end DL

set_option Elab.async false
set_option linter.all false
set_option maxRecDepth 100000
set_option autoImplicit false
set_option maxHeartbeats 1000000
/-! DLI: what is walked, by data: any list, tuple, text; enumerate and zip of them. -/
namespace DL
open PySem PySem.Spec PyProof.Rows L2

inductive Kd | l | t (xs : List V) | s
def SrcK (K : PySem.W.Frag) (H : Hp) : Kd → V → List V → Prop
  | .l, v, xs => ∃ a, v = .ref a ∧ Rd H a (.lst xs)
  | .t ys, v, xs => ∃ a, v = .ref a ∧ xs = ys ∧ SqT K H a ys
  | .s, v, xs => ∃ z : Str, v = .str z ∧ xs = z.cps.toList.map fun c => V.str ⟨#[c]⟩
def ItK : Kd → Value → Addr → Nat → Heap → Prop
  | .l, .ref a, it, i, h => h.IsListIter it a i
  | .t _, .ref a, it, i, h => h.IsTupleIter it a i
  | .s, .str x t, it, i, h => h.IsStrIter it (strIterType x) x t i
  | _, _, _, _, _ => False

theorem srcK_inj {K : PySem.W.Frag} {H : Hp} {k : Kd} {v : V} {xs ys : List V} (h1 : SrcK K H k v xs) (h2 : SrcK K H k v ys) : xs = ys := by
  cases k with
  | l =>
    obtain ⟨a, rfl, q⟩ := h1
    obtain ⟨b, e, q'⟩ := h2
    cases e
    rcases q with q | ⟨o, q⟩ <;> rcases q' with q' | ⟨o', q'⟩ <;> rw [q] at q' <;> cases q' <;> rfl
  | t zs =>
    obtain ⟨a, rfl, rfl, q⟩ := h1
    obtain ⟨b, e, rfl, q'⟩ := h2
    rfl
  | s =>
    obtain ⟨a, rfl, rfl⟩ := h1
    obtain ⟨b, e, rfl⟩ := h2
    cases e
    rfl
section
variable {X : Cx} {pins : List (Addr × Obj)} {σ : L2.St} {H : Hp} {s : Shared}
theorem fp_ne {b a : Addr} (I : Inv X pins σ H s) (f : FpOk X pins H b) (h : H a ≠ none ∨ ∃ o, X.K.lookup a = some o) : a ≠ b := by
  rintro rfl
  obtain ⟨f0, f1, f2, f3, f4, f5⟩ := f
  rcases h with h | ⟨o, h⟩
  · exact h f0
  · have hb := I.ok.mod.kin a o h
    rcases f3 with f3 | f3
    · exact I.ok.noex a o hb f3
    · exact absurd (Nat.lt_of_lt_of_le (Heap.lt_size (I.ok.bs a o hb).1) f3) (Nat.lt_irrefl _)
theorem sqL_k {K : PySem.W.Frag} {a : Addr} {xs : List V} (h : SqL K H a xs) : H a ≠ none ∨ ∃ o, K.lookup a = some o := by
  rcases h with (h | ⟨o, h⟩) | ⟨o, _, _, h, _⟩
  · exact .inl (by rw [h]; simp)
  · exact .inl (by rw [h]; simp)
  · exact .inr ⟨o, h⟩
theorem sqT_k {K : PySem.W.Frag} {a : Addr} {xs : List V} (h : SqT K H a xs) : H a ≠ none ∨ ∃ o, K.lookup a = some o := by
  rcases h with (h | ⟨o, h⟩) | ⟨o, _, _, h, _⟩
  · exact .inl (by rw [h]; simp)
  · exact .inl (by rw [h]; simp)
  · exact .inr ⟨o, h⟩
theorem sqL_lt {a : Addr} {xs : List V} (I : Inv X pins σ H s) (h : SqL X.K H a xs) : a < s.heap.objs.size := by
  obtain ⟨its, r, p, hz⟩ := I.list h
  exact p.lt
theorem sqT_lt {a : Addr} {xs : List V} (I : Inv X pins σ H s) (h : SqT X.K H a xs) : a < s.heap.objs.size := by
  obtain ⟨its, r, p, hz⟩ := I.tuple h
  exact p.lt

/-- the source draws, by an iterator at it -/
theorem src_draws {k : Kd} {v : V} {u : Value} {xs : List V} {it e : Addr} (I : Inv X pins σ H s) (hc : X.calm = true) (S : SrcK X.K H k v xs) (r : RelV v u) (fi : FpOk X pins H it) :
    ∃ (fp : List Addr) (Pd : Nat → Value → Prop) (Sd : Nat → Heap → Prop), Draws X.prog X.w X.A.in1 it fp xs.length Pd Sd ∧ it ∈ fp ∧ (∀ i w, Pd i w → ∃ x, xs[i]? = some x ∧ RelV x w) ∧ (∀ i, ItK k u it i s.heap → Sd i s.heap) ∧ (∀ i h, Sd i h → ItK k u it i h) ∧
      (∀ b, FpOk X pins H b → b ≠ it → b ∉ fp) ∧ (∀ b ∈ fp, b ≠ it → b < s.heap.objs.size ∧ (H b ≠ none ∨ ∃ o, X.K.lookup b = some o)) := by
  have hh : X.A.in1.handled = none := I.ok.hd hc
  cases k with
  | l =>
    obtain ⟨a, rfl, hq⟩ := S
    have hq : SqL X.K H a xs := .inl hq
    cases r
    obtain ⟨its, rv, p, hz⟩ := I.list hq
    have ne : a ≠ it := fp_ne I fi (sqL_k hq)
    have e : its.toArray.size = xs.length := by rw [List.size_toArray]; exact rv.length.symm
    refine ⟨[it, a], _, _, e ▸ Draws.list hh it a ne its.toArray, by simp, fun i w hw => ?_, fun i h => ⟨h, p.isList⟩, fun i h q => q.1, fun b fb hb hm => ?_, fun b hb hne => ?_⟩
    · have hw' : its[i]? = some w := by simpa using hw
      cases q : xs[i]? with
      | none => rw [rv.none_of q] at hw'; cases hw'
      | some x =>
        obtain ⟨u, h1, h2⟩ := rv.get q
        rw [hw'] at h1; cases h1
        exact ⟨x, rfl, h2⟩
    · rcases List.mem_cons.mp hm with z | z
      · exact hb z
      · exact fp_ne I fb (sqL_k hq) (show b = a by simpa using z).symm
    · rcases List.mem_cons.mp hb with z | z
      · exact absurd z hne
      · have z' : b = a := by simpa using z
        subst z'; exact ⟨sqL_lt I hq, sqL_k hq⟩
  | t =>
    obtain ⟨a, rfl, rfl, hq⟩ := S
    cases r
    obtain ⟨its, rv, p, hz⟩ := I.tuple hq
    have ne : a ≠ it := fp_ne I fi (sqT_k hq)
    have e : its.toArray.size = xs.length := by rw [List.size_toArray]; exact rv.length.symm
    refine ⟨[it, a], _, _, e ▸ Draws.tuple hh it a ne its.toArray, by simp, fun i w hw => ?_, fun i h => ⟨h, p⟩, fun i h q => q.1, fun b fb hb hm => ?_, fun b hb hne => ?_⟩
    · have hw' : its[i]? = some w := by simpa using hw
      cases q : xs[i]? with
      | none => rw [rv.none_of q] at hw'; cases hw'
      | some x =>
        obtain ⟨u, h1, h2⟩ := rv.get q
        rw [hw'] at h1; cases h1
        exact ⟨x, rfl, h2⟩
    · rcases List.mem_cons.mp hm with z | z
      · exact hb z
      · exact fp_ne I fb (sqT_k hq) (show b = a by simpa using z).symm
    · rcases List.mem_cons.mp hb with z | z
      · exact absurd z hne
      · have z' : b = a := by simpa using z
        subst z'; exact ⟨sqT_lt I hq, sqT_k hq⟩
  | s =>
    obtain ⟨z, rfl, rfl⟩ := S
    obtain ⟨t, rfl⟩ := r
    have e : z.cps.size = (z.cps.toList.map fun c => V.str ⟨#[c]⟩).length := by simp
    refine ⟨[it], _, _, e ▸ Draws.text hh it z t, by simp, fun i w hw => ?_, fun i h => h, fun i h q => q, fun b fb hb hm => ?_, fun b hb hne => ?_⟩
    · obtain ⟨c, u, h1, h2⟩ := hw
      exact ⟨.str ⟨#[c]⟩, by simp [h1], u, h2⟩
    · exact hb (by simpa using hm)
    · exact absurd (by simpa using hb) hne
/-- .. and begins -/
theorem src_begins {k : Kd} {v : V} {u : Value} {xs : List V} (I : Inv X pins σ H s) (S : SrcK X.K H k v xs) (r : RelV v u) :
    ∃ (o : Obj) (Hc : Heap → Prop), Begins u o Hc ∧ Hc s.heap ∧ ∀ (h : Heap) (it : Addr), h.get? it = some o → ItK k u it 0 h := by
  cases k with
  | l =>
    obtain ⟨a, rfl, hq⟩ := S
    have hq : SqL X.K H a xs := .inl hq
    cases r
    obtain ⟨its, rv, p, hz⟩ := I.list hq
    exact ⟨_, _, begins_list a its.toArray, p.isList, fun h it e => ⟨_, e, rfl, rfl⟩⟩
  | t =>
    obtain ⟨a, rfl, rfl, hq⟩ := S
    cases r
    obtain ⟨its, rv, p, hz⟩ := I.tuple hq
    exact ⟨_, _, begins_tuple a its.toArray, p, fun h it e => ⟨_, e, rfl, rfl⟩⟩
  | s =>
    obtain ⟨z, rfl, rfl⟩ := S
    obtain ⟨t, rfl⟩ := r
    exact ⟨_, _, begins_text z t, trivial, fun h it e => ⟨_, e, rfl, rfl⟩⟩
end

theorem itK_obj {k : Kd} {u : Value} {it : Addr} {i : Nat} {h : Heap} (st : ItK k u it i h) : ∃ o, h.get? it = some o ∧ ∀ v, o.data ≠ .cell v := by
  cases k <;> cases u <;> first
    | exact st.elim
    | (obtain ⟨o, e, c, d⟩ := st; exact ⟨o, e, fun v z => by rw [d] at z; cases z⟩)
theorem itK_keep {k : Kd} {u : Value} {it : Addr} {i : Nat} {h h' : Heap} (st : ItK k u it i h) (e : ∀ o, h.get? it = some o → h'.get? it = some o) : ItK k u it i h' := by
  cases k <;> cases u <;> first
    | exact st.elim
    | (obtain ⟨o, q, r⟩ := st; exact ⟨o, e o q, r⟩)

/-- pairs, by a library's walk of tuples that is told of each state -/
theorem turn_pair {P : Program} {w : World} {K : PySem.W.Frag} {elts : List Expr} {kk : Nat} {tpos : Pos} {J : It} {fp : List Addr} {I0 : Addr} {tn : Nat → Heap → Prop} (mem : I0 ∈ fp)
    (obj : ∀ i h, tn i h → ∀ b ∈ fp, ∃ o, h.get? b = some o ∧ ∀ v, o.data ≠ .cell v) (keep : ∀ i h h', tn i h → (∀ b ∈ fp, ∀ o, h.get? b = some o → h'.get? b = some o) → tn i h')
    (go : ∀ (X : Cx), X.prog = P → X.w = w → X.K = K → X.calm = true → ∀ (i : Nat) (pins : List (Addr × Obj)) (s : Shared) (σ : L2.St) (H : Hp), Inv X pins σ H s → (∀ b ∈ fp, FpOk X pins H b) → tn i s.heap → J.go i H →
      ∃ (fpW wr : List Addr) (n : Nat) (Pt : Nat → Array Value → Prop) (Sd : Nat → Heap → Prop) (Mid : Nat → Addr → Heap → Prop), WalksT P w X.A I0 fpW wr n Pt Sd Mid ∧ (∀ b ∈ wr, b ∈ fp) ∧ i < n ∧ Sd i s.heap ∧ (∀ h, Sd (i + 1) h → tn (i + 1) h) ∧
        ∀ vals, Pt i vals → ∃ x y u v, vals = #[u, v] ∧ RelV x u ∧ RelV y v ∧ ∀ T, H T = none → J.yld i H (.ref T) (upd H T (.tup [x, y])))
    (stop : ∀ (X : Cx), X.prog = P → X.w = w → X.K = K → X.calm = true → ∀ (i : Nat) (pins : List (Addr × Obj)) (s : Shared) (σ : L2.St) (H : Hp), Inv X pins σ H s → (∀ b ∈ fp, FpOk X pins H b) → tn i s.heap → J.stop i H →
      ∃ (fpW wr : List Addr) (n : Nat) (Pt : Nat → Array Value → Prop) (Sd : Nat → Heap → Prop) (Mid : Nat → Addr → Heap → Prop), WalksT P w X.A I0 fpW wr n Pt Sd Mid ∧ (∀ b ∈ wr, b ∈ fp) ∧ Sd n s.heap)
    (self : ∀ (A : Around) (i : Nat) (s : Shared) (Q : Value → Shared → Prop) (E : Value → Shared → Prop), tn i s.heap → Q (.ref I0) s → wpAny (model P w) A (pyIter (.ref I0)) Q E s) :
    Turn P w K (.Tuple elts kk tpos) J fp I0 tn where
  mem := mem
  obj := obj
  keep := keep
  self := self
  item := by
    intro X hP hw hK hc i pins s σ H E I hf st hg
    obtain ⟨fpW, wr, n, Pt, Sd, Mid, W, sub, hi, sd, next, yl⟩ := go X hP hw hK hc i pins s σ H I hf st hg
    subst hP hw hK
    refine W.item i s _ _ hi sd fun T vals h' tk hPt hT hTup mid k1 => ?_
    obtain ⟨x, y, u, v, rfl, rx, ry, hy⟩ := yl vals hPt
    refine ⟨_, rfl, W.go elts kk tpos i T { s with heap := h', toks := tk } _ _ mid fun h'' sd' k2 => ?_⟩
    have hn : H T = none := I.hok.fresh hT
    have k3 : ∀ b o, b ∉ fp → s.heap.get? b = some o → h''.get? b = some o := fun b o hb q => k2 b o (fun z => hb (sub b z)) (k1 b o (fun z => hb (sub b z)) q)
    obtain ⟨oT, eT, cT, nT, dT⟩ := hTup
    have eT2 : h''.get? T = some oT := k2 T oT (W.apart i T h' mid) eT
    have new : ObjOk X.prog X.w (upd H T (.tup [x, y])) h'' T (.tup [x, y]) := ⟨by show 2 ≤ sizeLine; decide, [u, v], .cons rx (.cons ry .nil), ⟨oT, eT2, cT, nT, dT⟩⟩
    have I1 : Inv X pins σ (upd H T (.tup [x, y])) { s with heap := h'', toks := tk } := I.turnedNew (ch := fp) k3 hf hT new
    refine ⟨.ref T, _, I1, rfl, hy T hn, next h'' sd', fun b hb => ?_⟩
    obtain ⟨o, eo, _⟩ := obj i s.heap st b hb
    rw [upd_ne (Nat.ne_of_lt (Nat.lt_of_lt_of_le (Heap.lt_size eo) hT))]
    exact (hf b hb).1
  done := by
    intro X hP hw hK hc i pins s σ H E I hf st hg
    obtain ⟨fpW, wr, n, Pt, Sd, Mid, W, sub, sd⟩ := stop X hP hw hK hc i pins s σ H I hf st hg
    subst hP hw hK
    exact W.done s _ _ sd fun h' tk k => ⟨rfl, I.turnedL (t' := tk) (ch := fp) (fun b o hb q => k b o (fun z => hb (sub b z)) q) hf⟩

/-! ### enumerate -/
def IteK (K : PySem.W.Frag) (k : Kd) (v : V) : It :=
  ⟨fun i H => ∃ xs, SrcK K H k v xs ∧ i < xs.length, fun i H y H' => ∃ T x, y = .ref T ∧ H T = none ∧ H' = upd H T (.tup [.int (i : Nat), x]) ∧ ∃ xs, SrcK K H k v xs ∧ xs[i]? = some x, fun i H => ∃ xs, SrcK K H k v xs ∧ xs.length = i⟩
theorem turn_enumK {P : Program} {w : World} {K : PySem.W.Frag} {elts : List Expr} {kk : Nat} {tpos : Pos} {k : Kd} {v : V} {u : Value} (r : RelV v u) (e it : Addr) :
    Turn P w K (.Tuple elts kk tpos) (IteK K k v) [e, it] e (fun i h => (∃ old, IsEnum h e it ((0 : Int) + (i : Nat)) old) ∧ ItK k u it i h ∧ e ≠ it) := by
  refine turn_pair (by simp) (fun i h st b hb => ?_) (fun i h h' st kp => ?_) (fun X hP hw hK hc i pins s σ H I hf st hg => ?_) (fun X hP hw hK hc i pins s σ H I hf st hg => ?_) (fun A i s Q E st h => ?_)
  · obtain ⟨⟨old, he⟩, hit, hne⟩ := st
    have e' : b = e ∨ b = it := by simpa using hb
    rcases e' with z | z
    · rw [z]; exact ⟨_, he, fun v q => nomatch q⟩
    · rw [z]; exact itK_obj hit
  · obtain ⟨⟨old, he⟩, hit, hne⟩ := st
    exact ⟨⟨old, kp e (by simp) _ he⟩, itK_keep hit fun o q => kp it (by simp) o q, hne⟩
  · subst hP hw hK
    obtain ⟨⟨old, he⟩, hit, hne⟩ := st
    obtain ⟨xs, S, hi⟩ := hg
    obtain ⟨fp, Pd, Sd, D, mi, hP, h1, h2, h3, _⟩ := src_draws (e := e) I hc S r (hf it (by simp))
    refine ⟨_, _, _, _, _, _, WalksT.enumFrom 0 D e hne (h3 e (hf e (by simp)) hne) mi, fun b hb => hb, hi, ⟨⟨old, he⟩, h1 i hit⟩, fun h q => ⟨q.1, h2 _ _ q.2, hne⟩, fun vals hv => ?_⟩
    obtain ⟨t, x, hx, rfl⟩ := hv
    obtain ⟨y, hy, ry⟩ := hP i x hx
    have e0 : (0 : Int) + (i : Int) = (i : Int) := Int.zero_add _
    exact ⟨.int (i : Nat), y, _, _, rfl, ⟨t, by rw [e0]⟩, ry, fun T hT => ⟨T, y, rfl, hT, rfl, xs, S, hy⟩⟩
  · subst hP hw hK
    obtain ⟨⟨old, he⟩, hit, hne⟩ := st
    obtain ⟨xs, S, hi⟩ := hg
    obtain ⟨fp, Pd, Sd, D, mi, hP, h1, h2, h3, _⟩ := src_draws (e := e) I hc S r (hf it (by simp))
    subst hi
    exact ⟨_, _, _, _, _, _, WalksT.enumFrom 0 D e hne (h3 e (hf e (by simp)) hne) mi, fun b hb => hb, ⟨old, he⟩, h1 _ hit⟩
  · obtain ⟨⟨_, he⟩, _⟩ := st
    exact wpAny_pyIter_enum he h

/-! ### zip -/
def ItzK (K : PySem.W.Frag) (k1 k2 : Kd) (v1 v2 : V) : It :=
  ⟨fun i H => ∃ xs ys, SrcK K H k1 v1 xs ∧ SrcK K H k2 v2 ys ∧ i < min xs.length ys.length, fun i H z H' => ∃ T x y, z = .ref T ∧ H T = none ∧ H' = upd H T (.tup [x, y]) ∧ ∃ xs ys, SrcK K H k1 v1 xs ∧ SrcK K H k2 v2 ys ∧ xs[i]? = some x ∧ ys[i]? = some y,
    fun i H => ∃ xs ys, SrcK K H k1 v1 xs ∧ SrcK K H k2 v2 ys ∧ min xs.length ys.length = i⟩
theorem turn_zipK {P : Program} {w : World} {K : PySem.W.Frag} {elts : List Expr} {kk : Nat} {tpos : Pos} {k1 k2 : Kd} {v1 v2 : V} {u1 u2 : Value} (r1 : RelV v1 u1) (r2 : RelV v2 u2) (N : Nat) :
    Turn P w K (.Tuple elts kk tpos) (ItzK K k1 k2 v1 v2) [N + 4, N + 2, N + 3, N, N + 1] (N + 4) (fun i h => IsZip h (N + 4) (N + 2) (N + 3) .none ∧ IsTupOf2 h (N + 2) (.ref N) (.ref (N + 1 : Nat)) ∧ (∃ a b, IsTupOf2 h (N + 3) a b) ∧ ItK k1 u1 N i h ∧ ItK k2 u2 (N + 1) i h) := by
  have nn : ∀ {i j : Nat}, i ≠ j → (N + i : Nat) ≠ N + j := fun h e => h (by omega)
  have sep : ∀ {X : Cx} {pins : List (Addr × Obj)} {σ : L2.St} {H : Hp} {s : Shared} {fp1 fp2 : List Addr}, (∀ b ∈ ([N + 4, N + 2, N + 3, N, N + 1] : List Addr), FpOk X pins H b) → N ∈ fp1 → (N + 1 : Nat) ∈ fp2 → (∀ b, FpOk X pins H b → b ≠ N → b ∉ fp1) → (∀ b, FpOk X pins H b → b ≠ (N + 1 : Nat) → b ∉ fp2) →
      ZipSep2 (N + 4 : Nat) (N + 2 : Nat) (N + 3 : Nat) N (N + 1 : Nat) fp1 fp2 := fun hf m1 m2 h3 h3' =>
    { TIz := nn (i := 2) (j := 4) (by decide), TOz := nn (i := 3) (j := 4) (by decide), TITO := nn (i := 2) (j := 3) (by decide),
      TIi1 := nn (i := 2) (j := 0) (by decide), mem1 := m1, zf1 := h3 _ (hf _ (by simp)) (nn (i := 4) (j := 0) (by decide)), Tf1 := h3 _ (hf _ (by simp)) (nn (i := 3) (j := 0) (by decide)),
      TIi2 := nn (i := 2) (j := 1) (by decide), mem2 := m2, zf2 := h3' _ (hf _ (by simp)) (nn (i := 4) (j := 1) (by decide)), Tf2 := h3' _ (hf _ (by simp)) (nn (i := 3) (j := 1) (by decide)),
      sep1_2 := h3' _ (hf _ (by simp)) (nn (i := 0) (j := 1) (by decide)), sep2_1 := h3 _ (hf _ (by simp)) (nn (i := 1) (j := 0) (by decide)) }
  refine turn_pair (by simp) (fun i h st b hb => ?_) (fun i h h' st kp => ?_) (fun X hP hw hK hc i pins s σ H I hf st hg => ?_) (fun X hP hw hK hc i pins s σ H I hf st hg => ?_) (fun A i s Q E st h => ?_)
  · obtain ⟨hz, hTI, ⟨a, b', hTO⟩, h1, h2⟩ := st
    have e' : b = (N + 4 : Nat) ∨ b = (N + 2 : Nat) ∨ b = (N + 3 : Nat) ∨ b = N ∨ b = (N + 1 : Nat) := by simpa using hb
    rcases e' with q | q | q | q | q
    · rw [q]; exact ⟨_, hz, fun v q => nomatch q⟩
    · rw [q]; exact ⟨_, hTI, fun v q => nomatch q⟩
    · rw [q]; exact ⟨_, hTO, fun v q => nomatch q⟩
    · rw [q]; exact itK_obj h1
    · rw [q]; exact itK_obj h2
  · obtain ⟨hz, hTI, ⟨a, b', hTO⟩, h1, h2⟩ := st
    exact ⟨kp _ (by simp) _ hz, kp _ (by simp) _ hTI, ⟨a, b', kp _ (by simp) _ hTO⟩, itK_keep h1 fun o q => kp _ (by simp) o q, itK_keep h2 fun o q => kp _ (by simp) o q⟩
  · subst hP hw hK
    obtain ⟨hz, hTI, hTO, h1, h2⟩ := st
    obtain ⟨xs, ys, S1, S2, hi⟩ := hg
    obtain ⟨fp1, Pd1, Sd1, D1, m1, hP1, a1, b1, c1, _⟩ := src_draws (e := N) I hc S1 r1 (hf N (by simp))
    obtain ⟨fp2, Pd2, Sd2, D2, m2, hP2, a2, b2, c2, _⟩ := src_draws (e := N) I hc S2 r2 (hf (N + 1 : Nat) (by simp))
    refine ⟨_, _, _, _, _, _, WalksT.zipD2 (sep (s := s) (σ := σ) hf m1 m2 c1 c2) D1 D2, fun b hb => ?_, hi, ⟨hz, hTI, hTO, a1 i h1, a2 i h2⟩, fun h q => ⟨q.1, q.2.1, q.2.2.1, b1 _ _ q.2.2.2.1, b2 _ _ q.2.2.2.2⟩, fun vals hv => ?_⟩
    · have e' : b = (N + 4 : Nat) ∨ b = (N + 3 : Nat) ∨ b = N ∨ b = (N + 1 : Nat) := by simpa using hb
      rcases e' with q | q | q | q <;> (rw [q]; simp)
    · obtain ⟨x, y, hx, hy, rfl⟩ := hv
      obtain ⟨x', hx', rx⟩ := hP1 i x hx
      obtain ⟨y', hy', ry⟩ := hP2 i y hy
      exact ⟨x', y', _, _, rfl, rx, ry, fun T hT => ⟨T, x', y', rfl, hT, rfl, xs, ys, S1, S2, hx', hy'⟩⟩
  · subst hP hw hK
    obtain ⟨hz, hTI, hTO, h1, h2⟩ := st
    obtain ⟨xs, ys, S1, S2, hi⟩ := hg
    obtain ⟨fp1, Pd1, Sd1, D1, m1, hP1, a1, b1, c1, _⟩ := src_draws (e := N) I hc S1 r1 (hf N (by simp))
    obtain ⟨fp2, Pd2, Sd2, D2, m2, hP2, a2, b2, c2, _⟩ := src_draws (e := N) I hc S2 r2 (hf (N + 1 : Nat) (by simp))
    subst hi
    refine ⟨_, _, _, _, _, _, WalksT.zipD2 (sep (s := s) (σ := σ) hf m1 m2 c1 c2) D1 D2, fun b hb => ?_, hz, hTI, hTO, a1 _ h1, a2 _ h2⟩
    have e' : b = (N + 4 : Nat) ∨ b = (N + 3 : Nat) ∨ b = N ∨ b = (N + 1 : Nat) := by simpa using hb
    rcases e' with q | q | q | q <;> (rw [q]; simp)
  · exact wpAny_pyIter_zip st.1 h
end DL

set_option Elab.async false
set_option linter.all false
set_option maxRecDepth 100000
set_option autoImplicit false
set_option maxHeartbeats 1000000
/-! DL5: targets, loops, comprehensions, statements, defs. -/
namespace DL
open PySem PySem.Spec PyProof.Rows L2

/-! ### what is walked -/
end DL
namespace PySem
open Sem (wp)
set_option maxHeartbeats 2000000 in
theorem meets_enumerate_newB1 {v : Value} {o : Obj} {H : Heap → Prop} (B : Begins v o H) :
    Meets (Builtin.«enumerate.__new__» ⟨[.type "enumerate", v], []⟩) (fun _ R s => H s.heap ∧
      R (.ok (.ret (.ref (s.heap.push o).objs.size))) { s with heap := (s.heap.push o).push { cls := .type "enumerate", data := .fields #[.none, .bool false, .ref s.heap.objs.size, rawInt 0, .none, .none] } }) :=
  .of_wp fun prog w A R s h => by
    obtain ⟨hp, g, d, tk, os⟩ := s; obtain ⟨h1, h⟩ := h
    have hsub := sub_enumerate
    have q1 : ∀ {A' : Around} {E : Value → Shared → Prop} {Q : Value → Shared → Prop}, Q (.ref hp.objs.size) ⟨hp.push o, g, d, tk, os⟩ → wpAny (model prog w) A' (pyIter v) Q E ⟨hp, g, d, tk, os⟩ :=
      fun q => B.iter prog w _ _ ⟨hp, g, d, tk, os⟩ _ h1 q
    wp_walk using q1
    refine wpAny_stack_any fun st => wpAny_pure ?_
    split
    · rename_i c _ _ _ _ _
      cases (c == Value.type "enumerate")
      · wp_walk using q1
        exact ⟨_, rfl, h⟩
      · wp_walk using q1
        exact ⟨_, rfl, h⟩
    · wp_walk using q1
      exact ⟨_, rfl, h⟩
theorem call_enumerate_any {prog : Program} {w : World} {A : Around} {E : Value → Shared → Prop} {s : Shared} {v : Value} {o : Obj} {H : Heap → Prop} {Q : Value → Shared → Prop} (B : Begins v o H) (h1 : H s.heap)
    (h : ∀ h', IsEnum h' (s.heap.objs.size + 1) s.heap.objs.size 0 .none → h'.get? s.heap.objs.size = some o → h'.objs.size = s.heap.objs.size + 2 →
      (∀ b o, s.heap.get? b = some o → h'.get? b = some o) → Q (.ref (s.heap.objs.size + 1)) { s with heap := h' }) :
    wpAny (model prog w) A (call (.type "enumerate") [v]) Q E s := by
  refine callType_new F.called_enumerate (by decide) (F.typeCall_enumerate_1 _) (F.newCall_enumerate_1 _) (fun obj => F.args_object_init_2 obj _) F.entry_enumerate_new
    (meets_enumerate_newB1 B) ⟨h1, ?_⟩
  have hz : (s.heap.push o).objs.size = s.heap.objs.size + 1 := Heap.size_push ..
  show _ ∧ _
  rw [hz]
  have he : IsEnum ((s.heap.push o).push { cls := .type "enumerate", data := .fields #[.none, .bool false, .ref s.heap.objs.size, rawInt 0, .none, .none] }) (s.heap.objs.size + 1) s.heap.objs.size 0 .none := by
    have := Heap.get?_push_size (s.heap.push o) (o := { cls := .type "enumerate", data := .fields #[.none, .bool false, .ref s.heap.objs.size, rawInt 0, .none, .none] }) rfl
    rw [hz] at this; exact this
  refine ⟨⟨_, he, rfl⟩, h _ he (Heap.get?_push_of_some _ (Heap.get?_push_size _ B.free)) (by rw [Heap.size_push, hz]) fun b o x => Heap.get?_push_of_some _ (Heap.get?_push_of_some _ x)⟩
end PySem
namespace DL
open PySem PySem.Spec PyProof.Rows L2
section
variable {X : Cx} {tg e e2 : Expr}
def iAny (X : Cx) (te : TE) : TI := fun σ H R => te σ H fun v H1 => (∃ a, v = .ref a ∧ (∃ xs, SqL X.K H1 a xs) ∧ R (Itl X.K a) H1) ∨ (∃ a, v = .ref a ∧ (∃ xs, SqT X.K H1 a xs) ∧ R (Itt X.K a) H1) ∨ (∃ x, v = .str x ∧ R (Its x) H1)
theorem pi_any {te : TE} (he : PE X e te) : PI X tg e (iAny X te) := by
  refine ⟨fun pins s σ H R I h => ?_⟩
  refine thn (he.run pins s σ H _ I h) fun v s1 ⟨y, H1, I1, r1, q⟩ => ?_
  rcases q with ⟨a, rfl, ⟨xs, hq⟩, q⟩ | ⟨a, rfl, ⟨xs, hq⟩, q⟩ | ⟨x, rfl, q⟩
  · cases r1
    obtain ⟨its, rv, p, hz⟩ := I1.list hq
    refine wpAny_pyIter_list p.isList ?_
    refine ⟨s1.heap.objs.size, [s1.heap.objs.size], _, _, H1, rfl, I1.kept (t' := s1.toks) fun b o e => Heap.get?_push_of_some _ e, turn_list a _, ⟨_, Heap.get?_push_size _ rfl, rfl, rfl⟩, fun b hb => ?_, q⟩
    have e : b = s1.heap.objs.size := by simpa using hb
    subst e
    exact I1.fpOk (Nat.le_refl _) (I1.hok.fresh (Nat.le_refl _))
  · cases r1
    obtain ⟨its, rv, p, hz⟩ := I1.tuple hq
    refine wpAny_pyIter_tuple (show s1.heap.IsTuple a its.toArray from p) ?_
    refine ⟨s1.heap.objs.size, [s1.heap.objs.size], _, _, H1, rfl, I1.kept (t' := s1.toks) fun b o e => Heap.get?_push_of_some _ e, turn_tuple a _, ⟨_, Heap.get?_push_size _ rfl, rfl, rfl⟩, fun b hb => ?_, q⟩
    have e : b = s1.heap.objs.size := by simpa using hb
    subst e
    exact I1.fpOk (Nat.le_refl _) (I1.hok.fresh (Nat.le_refl _))
  · obtain ⟨t, rfl⟩ := r1
    cases ha : x.cps.all (· < 128)
    · exact wpAny_pyIter_wide ha (pi_one (tk := s1.toks) I1 _ (turn_str _ x t "str_iterator" (.inr rfl)) ⟨_, Heap.get?_push_size _ rfl, rfl, rfl⟩ q)
    · exact wpAny_pyIter_ascii ha (pi_one (tk := s1.toks) I1 _ (turn_str _ x t "str_ascii_iterator" (.inl rfl)) ⟨_, Heap.get?_push_size _ rfl, rfl, rfl⟩ q)
def iEnumK (X : Cx) (ta : TA) : TI := fun σ H R => ta σ H fun vs H1 => ∃ k v xs, vs = [v] ∧ SrcK X.K H1 k v xs ∧ R (IteK X.K k v) H1
theorem pi_enumK {ta : TA} {p pos tpos : Pos} {elts : List Expr} {kk : Nat} (hg : Gl X "enumerate") (hm : X.mg "enumerate" = none) (ha : PA X [e] ta) (hs : starEach [e] X.env = [(false, eval e X.env)] := by rfl) :
    PI X (.Tuple elts kk tpos) (.Call (.Name "enumerate" p) [e] [] pos) (iEnumK X ta) := by
  refine ⟨fun pins s σ H R I h => ?_⟩
  refine Call_ (ld_blt I hg hm boot_enumerate (PyProof.Rows.callWith_type1 (thn (ha.run pos pins s σ H _ I h) fun us s1 ⟨vs, H1, I1, r1, q1⟩ => ?_) hs rfl))
  obtain ⟨k, v, xs, rfl, S, q⟩ := q1
  obtain ⟨u, rfl, ru⟩ := vals1 r1
  obtain ⟨o, Hc, B, hH, st⟩ := src_begins I1 S ru
  refine PySem.call_enumerate_any B hH fun h' he hit hsz hk => wpAny_pyIter_enum he ?_
  have I2 : Inv X pins σ H1 { s1 with heap := h' } := I1.kept (t' := s1.toks) hk
  refine ⟨s1.heap.objs.size + 1, [s1.heap.objs.size + 1, s1.heap.objs.size], _, _, H1, rfl, I2, turn_enumK ru (s1.heap.objs.size + 1) s1.heap.objs.size, ⟨⟨.none, he⟩, st h' _ hit, Nat.succ_ne_self _⟩, fun b hb => ?_, q⟩
  have e' : b = s1.heap.objs.size + 1 ∨ b = s1.heap.objs.size := by simpa using hb
  have hle : s1.heap.objs.size ≤ b := by
    rcases e' with z | z
    · rw [z]; exact Nat.le_add_right _ _
    · rw [z]; exact Nat.le_refl _
  exact I1.fpOk hle (I1.hok.fresh hle)
def iZipK (X : Cx) (ta : TA) : TI := fun σ H R => ta σ H fun vs H1 => ∃ k1 k2 v1 v2 xs ys, vs = [v1, v2] ∧ SrcK X.K H1 k1 v1 xs ∧ SrcK X.K H1 k2 v2 ys ∧ R (ItzK X.K k1 k2 v1 v2) H1
theorem pi_zipK {ta : TA} {p pos tpos : Pos} {elts : List Expr} {kk : Nat} (hg : Gl X "zip") (hm : X.mg "zip" = none) (ha : PA X [e, e2] ta)
    (hs : starEach [e, e2] X.env = (false, eval e X.env) :: starEach [e2] X.env := by rfl) (hpl : (backTo pos (starEach [e2] X.env)).any (·.1) = false := by rfl) :
    PI X (.Tuple elts kk tpos) (.Call (.Name "zip" p) [e, e2] [] pos) (iZipK X ta) := by
  refine ⟨fun pins s σ H R I h => ?_⟩
  refine Call_ (ld_blt I hg hm PyProof.Rows.boot_zip (PyProof.Rows.callWith_type1 (thn (ha.run pos pins s σ H _ I h) fun us s1 ⟨vs, H1, I1, r1, q1⟩ => ?_) hs hpl))
  obtain ⟨k1, k2, v1, v2, xs, ys, rfl, S1, S2, q⟩ := q1
  obtain ⟨u1, u2, rfl, ru1, ru2⟩ := vals2 r1
  obtain ⟨o1, Hc1, B1, hH1, st1⟩ := src_begins I1 S1 ru1
  obtain ⟨o2, Hc2, B2, hH2, st2⟩ := src_begins I1 S2 ru2
  refine PySem.zip_begins2 B1 B2 hH1 hH2 fun h' hz hTI hTO h1 h2 hsz hk => wpAny_pyIter_zip hz ?_
  have I2 : Inv X pins σ H1 { s1 with heap := h' } := I1.kept (t' := s1.toks) hk
  refine ⟨s1.heap.objs.size + 4, [s1.heap.objs.size + 4, s1.heap.objs.size + 2, s1.heap.objs.size + 3, s1.heap.objs.size, s1.heap.objs.size + 1], _, _, H1, rfl, I2, turn_zipK ru1 ru2 s1.heap.objs.size, ⟨hz, hTI, ⟨_, _, hTO⟩, st1 h' _ h1, st2 h' _ h2⟩, fun c hcm => ?_, q⟩
  have e' : c = s1.heap.objs.size + 4 ∨ c = s1.heap.objs.size + 2 ∨ c = s1.heap.objs.size + 3 ∨ c = s1.heap.objs.size ∨ c = s1.heap.objs.size + 1 := by simpa using hcm
  have hle : s1.heap.objs.size ≤ c := by
    rcases e' with z | z | z | z | z
    · rw [z]; exact Nat.le_add_right _ _
    · rw [z]; exact Nat.le_add_right _ _
    · rw [z]; exact Nat.le_add_right _ _
    · rw [z]; exact Nat.le_refl _
    · rw [z]; exact Nat.le_add_right _ _
  exact I1.fpOk hle (I1.hok.fresh hle)
end

/-! ### walks by data -/
/-- n turns over items, as long as G holds of the cells -/
structure WkD (K : PySem.W.Frag) (H0 : Hp) (π0 : List Addr) (J : It) (items : List D) (G : Om → Prop) : Prop where
  go : ∀ i H π ω, i < items.length → Stp H0 π0 H π → HR K H π ω → G ω → J.go i H
  stop : ∀ H π ω, Stp H0 π0 H π → HR K H π ω → G ω → J.stop items.length H
  yld : ∀ i H π ω x H', i < items.length → Stp H0 π0 H π → HR K H π ω → G ω → J.yld i H x H' → ∃ d, items[i]? = some d ∧ Stp H π H' π ∧ HR K H' π ω ∧ Z K H' π d x ∧ ∀ b o, H b = some o → H' b = some o
def IT (X : Cx) (tg iter : Expr) (ρ : Ro) (ω : Om) (Q : List D → (Om → Prop) → Om → Prop) : Prop :=
  ∀ σ H π (R : It → Hp → Prop), Gd X.K ρ ω σ H π → (∀ J H' π' items G ω', Q items G ω' → Stp H π H' π' → HR X.K H' π' ω' → WkD X.K H' π' J items G → R J H') → sI X tg iter σ H R

/-- what a source holds -/
def srcD : D → Option (List D)
  | .lst ds => some ds
  | .tup ds => some ds
  | .str z => some (z.cps.toList.map fun c => .str ⟨#[c]⟩)
  | _ => none
theorem zl_signs {K : PySem.W.Frag} {H : Hp} {π : List Addr} : ∀ l : List Nat, ZL K H π (l.map fun c => D.str ⟨#[c]⟩) (l.map fun c => V.str ⟨#[c]⟩)
  | [] => rfl
  | a :: l => ⟨_, _, rfl, rfl, zl_signs l⟩
/-- a source, now and later -/
theorem srcK_of {K : PySem.W.Frag} {H0 : Hp} {π0 : List Addr} {ω0 : Om} {d x' : D} {v : V} {items : List D} (hr : HR K H0 π0 ω0) (z : Z K H0 π0 d v) (ex : rd d ω0 = x') (hs : srcD x' = some items) :
    ∃ k, ∀ H π ω, Stp H0 π0 H π → HR K H π ω → rd d ω = x' → ∃ xs, SrcK K H k v xs ∧ ZL K H π items xs := by
  cases x' with
  | lst ds =>
    cases hs
    refine ⟨.l, fun H π ω s hr' e' => ?_⟩
    obtain ⟨a', vs', ev, q', zs'⟩ := read_lst hr' (Z.stp s _ _ z) e'
    exact ⟨vs', ⟨a', ev, q'⟩, zs'⟩
  | tup ds =>
    cases hs
    obtain ⟨a, vs, ev, q, zs⟩ := read_tup z ex
    exact ⟨.t vs, fun H π ω s hr' e' => ⟨vs, ⟨a, ev, rfl, SqT.stp s q⟩, ZL.stp s _ _ zs⟩⟩
  | str w =>
    cases hs
    cases read_str z ex
    exact ⟨.s, fun H π ω s hr' e' => ⟨_, ⟨w, rfl, rfl⟩, zl_signs _⟩⟩
  | _ => cases hs
/-- a plain source -/
theorem it_any {X : Cx} {tg e : Expr} {ρ : Ro} {ω : Om} {Q : List D → (Om → Prop) → Om → Prop} (h : EV X e ρ ω fun d ω1 => ∃ x' items, rd d ω1 = x' ∧ srcD x' = some items ∧ Q items (fun ω' => rd d ω' = x') ω1) : IT X tg e ρ ω Q := fun σ H π R g k => by
  refine ⟨_, pi_any pe_s, ?_⟩
  refine h σ H π _ g fun v H1 π1 d ω1 ⟨x', items, ex, hs, q⟩ s1 r1 z1 => ?_
  obtain ⟨kd, S⟩ := srcK_of r1 z1 ex hs
  obtain ⟨xs0, S0, zs0⟩ := S H1 π1 ω1 (Stp.refl _ _) r1 ex
  cases kd with
  | l =>
    obtain ⟨a, rfl, q0⟩ := S0
    refine .inl ⟨a, rfl, ⟨xs0, .inl q0⟩, k _ H1 π1 items _ ω1 q s1 r1 ⟨fun i H π ω hi s hr hg => ?_, fun H π ω s hr hg => ?_, fun i H π ω x H' hi s hr hg y => ?_⟩⟩
    · obtain ⟨xs, ⟨a', ea, q'⟩, zs⟩ := S H π ω s hr hg
      cases ea
      exact ⟨xs, xs[i]'(by rw [ZL.length zs]; exact hi), .inl q', by simp [ZL.length zs, hi]⟩
    · obtain ⟨xs, ⟨a', ea, q'⟩, zs⟩ := S H π ω s hr hg
      cases ea
      exact ⟨xs, .inl q', Nat.le_of_eq (ZL.length zs)⟩
    · obtain ⟨xs, ⟨a', ea, q'⟩, zs⟩ := S H π ω s hr hg
      cases ea
      obtain ⟨e, y⟩ := y
      subst e
      obtain ⟨d', e1, z'⟩ := ZL.getV zs (y xs (.inl q'))
      exact ⟨d', e1, Stp.refl _ _, hr, z', fun _ _ e => e⟩
  | t ys =>
    obtain ⟨a, rfl, rfl, q0⟩ := S0
    refine .inr (.inl ⟨a, rfl, ⟨xs0, q0⟩, k _ H1 π1 items _ ω1 q s1 r1 ⟨fun i H π ω hi s hr hg => ?_, fun H π ω s hr hg => ?_, fun i H π ω x H' hi s hr hg y => ?_⟩⟩)
    · obtain ⟨xs, ⟨a', ea, e, q'⟩, zs⟩ := S H π ω s hr hg
      cases ea
      subst e
      exact ⟨xs, xs[i]'(by rw [ZL.length zs]; exact hi), q', by simp [ZL.length zs, hi]⟩
    · obtain ⟨xs, ⟨a', ea, e, q'⟩, zs⟩ := S H π ω s hr hg
      cases ea
      subst e
      exact ⟨xs, q', Nat.le_of_eq (ZL.length zs)⟩
    · obtain ⟨xs, ⟨a', ea, e', q'⟩, zs⟩ := S H π ω s hr hg
      cases ea
      subst e'
      obtain ⟨e, y⟩ := y
      subst e
      obtain ⟨d', e1, z'⟩ := ZL.getV zs (y xs q')
      exact ⟨d', e1, Stp.refl _ _, hr, z', fun _ _ e => e⟩
  | s =>
    obtain ⟨w, rfl, e0⟩ := S0
    subst e0
    have hl : w.cps.size = items.length := by simpa using ZL.length zs0
    refine .inr (.inr ⟨w, rfl, k _ H1 π1 items _ ω1 q s1 r1 ⟨fun i H π ω hi s hr hg => ?_, fun H π ω s hr hg => ?_, fun i H π ω x H' hi s hr hg y => ?_⟩⟩)
    · show i < w.cps.size
      rw [hl]; exact hi
    · show w.cps.size ≤ items.length
      rw [hl]; exact Nat.le_refl _
    · obtain ⟨xs, ⟨w', ew, e'⟩, zs⟩ := S H π ω s hr hg
      cases ew
      subst e'
      obtain ⟨e, c, hc, y⟩ := y
      subst e
      subst y
      obtain ⟨d', e1, z'⟩ := ZL.getV zs (show (w.cps.toList.map fun c => V.str ⟨#[c]⟩)[i]? = some (.str ⟨#[c]⟩) by simp [hc])
      exact ⟨d', e1, Stp.refl _ _, hr, z', fun _ _ e => e⟩
def enumD (ds : List D) : List D := (List.range ds.length).map fun i => .tup [.int (i : Nat), ds.getD i .non]
theorem enumD_get {ds : List D} {i : Nat} {d : D} (h : ds[i]? = some d) : (enumD ds)[i]? = some (.tup [.int (i : Nat), d]) := by
  have hi := (List.getElem?_eq_some_iff.mp h).1
  have hg : ds.getD i .non = d := by rw [List.getD_eq_getElem?_getD, h]; rfl
  unfold enumD
  rw [List.getElem?_map, List.getElem?_range hi]
  show some (D.tup [.int (i : Nat), ds.getD i .non]) = _
  rw [hg]
theorem enumD_length (ds : List D) : (enumD ds).length = ds.length := by simp [enumD]
theorem it_enum {X : Cx} {e : Expr} {ρ : Ro} {ω : Om} {p pos tpos : Pos} {elts : List Expr} {kk : Nat} {Q : List D → (Om → Prop) → Om → Prop} (hm : X.mg "enumerate" = none)
    (h : EV X e ρ ω fun d ω1 => ∃ x' items, rd d ω1 = x' ∧ srcD x' = some items ∧ Q (enumD items) (fun ω' => rd d ω' = x') ω1) (hg : Gl X "enumerate" := by rfl) (hst : starEach [e] X.env = [(false, eval e X.env)] := by rfl) :
    IT X (.Tuple elts kk tpos) (.Call (.Name "enumerate" p) [e] [] pos) ρ ω Q := fun σ H π R g k => by
  refine ⟨_, pi_enumK hg hm (pa_cons pe_s pa_nil hst) hst, ?_⟩
  refine h σ H π _ g fun v H1 π1 d ω1 ⟨x', items, ex, hs, q⟩ s1 r1 z1 => ?_
  obtain ⟨kd, S⟩ := srcK_of r1 z1 ex hs
  obtain ⟨xs0, S0, zs0⟩ := S H1 π1 ω1 (Stp.refl _ _) r1 ex
  refine ⟨kd, v, xs0, rfl, S0, k _ H1 π1 (enumD items) _ ω1 q s1 r1 ⟨fun i H π ω hi s hr hg => ?_, fun H π ω s hr hg => ?_, fun i H π ω x H' hi s hr hg y => ?_⟩⟩
  · obtain ⟨xs, S', zs⟩ := S H π ω s hr hg
    exact ⟨xs, S', by rw [ZL.length zs, ← enumD_length]; exact hi⟩
  · obtain ⟨xs, S', zs⟩ := S H π ω s hr hg
    exact ⟨xs, S', by rw [ZL.length zs, enumD_length]⟩
  · obtain ⟨xs, S', zs⟩ := S H π ω s hr hg
    obtain ⟨T, x1, rfl, hT, rfl, ys, S2, hx⟩ := y
    cases srcK_inj S' S2
    obtain ⟨d', e1, z'⟩ := ZL.getV zs hx
    have st := Stp.obj (π := π) (o := .tup [.int (i : Nat), x1]) hT
    exact ⟨_, enumD_get e1, st, hr.obj hT, ⟨T, _, rfl, SqT.of upd_same, ⟨_, _, rfl, rfl, _, _, rfl, Z.stp st _ _ z', rfl⟩⟩, fun b o e => by rw [upd_ne (ne_of_none e hT)]; exact e⟩
def zipD (as bs : List D) : List D := (List.zip as bs).map fun p => .tup [p.1, p.2]
theorem zipD_length (as bs : List D) : (zipD as bs).length = min as.length bs.length := by simp [zipD]
theorem it_zip {X : Cx} {e e2 : Expr} {ρ : Ro} {ω : Om} {p pos tpos : Pos} {elts : List Expr} {kk : Nat} {Q : List D → (Om → Prop) → Om → Prop} (hm : X.mg "zip" = none)
    (h : EV X e ρ ω fun d ω1 => EV X e2 ρ ω1 fun d2 ω2 => ∃ x' y' as bs, rd d ω2 = x' ∧ rd d2 ω2 = y' ∧ srcD x' = some as ∧ srcD y' = some bs ∧ Q (zipD as bs) (fun ω' => rd d ω' = x' ∧ rd d2 ω' = y') ω2)
    (hg : Gl X "zip" := by rfl) (hst : starEach [e, e2] X.env = (false, eval e X.env) :: starEach [e2] X.env := by rfl) (hst2 : starEach [e2] X.env = [(false, eval e2 X.env)] := by rfl) (hpl : (backTo pos (starEach [e2] X.env)).any (·.1) = false := by rfl) :
    IT X (.Tuple elts kk tpos) (.Call (.Name "zip" p) [e, e2] [] pos) ρ ω Q := fun σ H π R g k => by
  refine ⟨_, pi_zipK hg hm (pa_cons pe_s (pa_cons pe_s pa_nil hst2) hst) hst hpl, ?_⟩
  refine h σ H π _ g fun v H1 π1 d ω1 h1 s1 r1 z1 => ?_
  refine h1 σ H1 π1 _ (g.mono s1 r1) fun v2 H2 π2 d2 ω2 ⟨x', y', as, bs, ex, ey, hs, hs2, q⟩ s2 r2 z2 => ?_
  obtain ⟨kd, S⟩ := srcK_of r2 (Z.stp s2 _ _ z1) ex hs
  obtain ⟨kd2, S2⟩ := srcK_of r2 z2 ey hs2
  obtain ⟨xs0, S0, zs0⟩ := S H2 π2 ω2 (Stp.refl _ _) r2 ex
  obtain ⟨ys0, S02, zs02⟩ := S2 H2 π2 ω2 (Stp.refl _ _) r2 ey
  refine ⟨kd, kd2, v, v2, xs0, ys0, rfl, S0, S02, k _ H2 π2 (zipD as bs) _ ω2 q (s1.trans s2) r2 ⟨fun i H π ω hi s hr hg => ?_, fun H π ω s hr hg => ?_, fun i H π ω x H' hi s hr hg y => ?_⟩⟩
  · obtain ⟨xs, S', zs⟩ := S H π ω s hr hg.1
    obtain ⟨ys, S'', zs'⟩ := S2 H π ω s hr hg.2
    exact ⟨xs, ys, S', S'', by rw [ZL.length zs, ZL.length zs', ← zipD_length]; exact hi⟩
  · obtain ⟨xs, S', zs⟩ := S H π ω s hr hg.1
    obtain ⟨ys, S'', zs'⟩ := S2 H π ω s hr hg.2
    exact ⟨xs, ys, S', S'', by rw [ZL.length zs, ZL.length zs', zipD_length]⟩
  · obtain ⟨xs, S', zs⟩ := S H π ω s hr hg.1
    obtain ⟨ys, S'', zs'⟩ := S2 H π ω s hr hg.2
    obtain ⟨T, x1, y1, rfl, hT, rfl, xs', ys', T1, T2, hx, hy⟩ := y
    cases srcK_inj S' T1
    cases srcK_inj S'' T2
    obtain ⟨d', e1, z'⟩ := ZL.getV zs hx
    obtain ⟨d2', e2', z2'⟩ := ZL.getV zs' hy
    have st := Stp.obj (π := π) (o := .tup [x1, y1]) hT
    refine ⟨.tup [d', d2'], ?_, st, hr.obj hT, ⟨T, _, rfl, SqT.of upd_same, ⟨_, _, rfl, Z.stp st _ _ z', _, _, rfl, Z.stp st _ _ z2', rfl⟩⟩, fun b o e => by rw [upd_ne (ne_of_none e hT)]; exact e⟩
    unfold zipD
    have hz : (List.zip as bs)[i]? = some (d', d2') := List.getElem?_zip_eq_some.mpr ⟨e1, e2'⟩
    rw [List.getElem?_map, hz]
    rfl
/-- range(n) -/
theorem it_rng1 {X : Cx} {tg e : Expr} {ρ : Ro} {ω : Om} {p pos : Pos} {Q : List D → (Om → Prop) → Om → Prop} (hm : X.mg "range" = none)
    (h : EV X e ρ ω fun d ω1 => ∃ n : Int, d = .int n ∧ -(2 ^ 62) ≤ n ∧ n < 2 ^ 62 ∧ Q (rgD 0 n) (fun _ => True) ω1) (hg : Gl X "range" := by rfl) (hst : starEach [e] X.env = [(false, eval e X.env)] := by rfl) :
    IT X tg (.Call (.Name "range" p) [e] [] pos) ρ ω Q := fun σ H π R g k => by
  refine ⟨_, pi_range1 hg hm (pa_cons pe_s pa_nil hst) hst, ?_⟩
  refine h σ H π _ g fun v H1 π1 d ω1 ⟨n, ed, h0, h1, q⟩ s1 r1 z1 => ?_
  subst ed
  cases z1
  have hl : (rgD 0 n).length = n.toNat := by simp [rgD]
  refine ⟨n, rfl, h0, h1, k _ H1 π1 (rgD 0 n) _ ω1 q s1 r1 ⟨fun i H π ω hi s hr hg => ?_, fun H π ω s hr hg => ?_, fun i H π ω x H' hi s hr hg y => ?_⟩⟩
  · show i < n.toNat
    omega
  · show n.toNat ≤ (rgD 0 n).length
    omega
  · obtain ⟨e, y⟩ := y
    subst e
    subst y
    exact ⟨.int (0 + (i : Nat)), by rw [hl] at hi; unfold rgD; simp [hi], Stp.refl _ _, hr, rfl, fun _ _ e => e⟩
theorem it_rng2 {X : Cx} {tg e e2 : Expr} {ρ : Ro} {ω : Om} {p pos : Pos} {Q : List D → (Om → Prop) → Om → Prop} (hm : X.mg "range" = none)
    (h : EV X e ρ ω fun d ω1 => EV X e2 ρ ω1 fun d2 ω2 => ∃ a b : Int, d = .int a ∧ d2 = .int b ∧ (-(2 ^ 62) ≤ a ∧ a < 2 ^ 62 ∧ -(2 ^ 62) ≤ b ∧ b < 2 ^ 62) ∧ Q (rgD a b) (fun _ => True) ω2) (hg : Gl X "range" := by rfl) (hst : starEach [e, e2] X.env = [(false, eval e X.env), (false, eval e2 X.env)] := by rfl) (hst2 : starEach [e2] X.env = [(false, eval e2 X.env)] := by rfl) :
    IT X tg (.Call (.Name "range" p) [e, e2] [] pos) ρ ω Q := fun σ H π R g k => by
  refine ⟨_, pi_range2 hg hm (pa_cons pe_s (pa_cons pe_s pa_nil hst2) (by rw [hst, hst2])) hst hst2, ?_⟩
  refine h σ H π _ g fun v H1 π1 d ω1 h1 s1 r1 z1 => ?_
  refine h1 σ H1 π1 _ (g.mono s1 r1) fun v2 H2 π2 d2 ω2 ⟨a, b, ed, ed2, hb, q⟩ s2 r2 z2 => ?_
  subst ed ed2
  cases z1
  cases z2
  have hl : (rgD a b).length = (b - a).toNat := by simp [rgD]
  refine ⟨a, b, rfl, hb, k _ H2 π2 (rgD a b) _ ω2 q (s1.trans s2) r2 ⟨fun i H π ω hi s hr hg => ?_, fun H π ω s hr hg => ?_, fun i H π ω x H' hi s hr hg y => ?_⟩⟩
  · show i < (b - a).toNat
    omega
  · show (b - a).toNat ≤ (rgD a b).length
    omega
  · obtain ⟨e, y⟩ := y
    subst e
    subst y
    exact ⟨.int (a + (i : Nat)), by rw [hl] at hi; unfold rgD; simp [hi], Stp.refl _ _, hr, rfl, fun _ _ e => e⟩
end DL

set_option Elab.async false
set_option linter.all false
set_option maxRecDepth 100000
set_option autoImplicit false
set_option maxHeartbeats 1000000
/-! DL6: targets, statements, loops, comprehensions, defs. -/
namespace DL
open PySem PySem.Spec PyProof.Rows L2

/-! ### targets that are names, or tuples of such -/
inductive Pat | nm (i : Nat) | tp (ps : List Pat)
mutual
def gPat (K : PySem.W.Frag) : Pat → TG
  | .nm i => gName i
  | .tp ps => gTup K ps.length (gPats K ps)
def gPats (K : PySem.W.Frag) : List Pat → TGs
  | [] => gNil
  | p :: ps => gCons (gPat K p) (gPats K ps)
end
mutual
def asg : Pat → D → Ro → Option Ro
  | .nm i, d, ρ => some (put ρ i d)
  | .tp ps, d, ρ => match d with
    | .tup ds => asgs ps ds ρ
    | _ => none
def asgs : List Pat → List D → Ro → Option Ro
  | [], [], ρ => some ρ
  | p :: ps, d :: ds, ρ => match asg p d ρ with
    | some ρ' => asgs ps ds ρ'
    | none => none
  | _, _, _ => none
end
mutual
def slots : Pat → List Nat
  | .nm i => [i]
  | .tp ps => slotss ps
def slotss : List Pat → List Nat
  | [] => []
  | p :: ps => slots p ++ slotss ps
end
theorem wipe_set {σ : L2.St} {i : Nat} {x : Option V} : ∀ {vs : List Nat}, i ∈ vs → wipe (σ.set i x) vs = wipe σ vs
  | v :: vs, h => by
    show (wipe (σ.set i x) vs).set v none = (wipe σ vs).set v none
    by_cases hv : i ∈ vs
    · rw [wipe_set hv]
    · have e : i = v := by
        rcases List.mem_cons.mp h with e | e
        · exact e
        · exact absurd e hv
      subst e
      have gen : ∀ us : List Nat, i ∉ us → wipe (σ.set i x) us = (wipe σ us).set i x := by
        intro us
        induction us with
        | nil => intro _; rfl
        | cons u us ih =>
          intro hn
          have h1 : i ≠ u := fun e => hn (by rw [e]; exact List.mem_cons_self)
          have h2 : i ∉ us := fun e => hn (List.mem_cons_of_mem _ e)
          show (wipe (σ.set i x) us).set u none = ((wipe σ us).set u none).set i x
          rw [ih h2, List.set_comm _ _ h1]
      rw [gen vs hv, List.set_set]
section
variable {K : PySem.W.Frag} {H : Hp} {π : List Addr} {ω : Om}
mutual
theorem pat_ok : ∀ (p : Pat) (d : D) (ρ ρ' : Ro) (v : V) (σ : L2.St) (R : L2.St → Hp → Prop), asg p d ρ = some ρ' → Gd K ρ ω σ H π → Z K H π d v →
    (∀ σ', Gd K ρ' ω σ' H π → (∀ vs, (∀ i ∈ slots p, i ∈ vs) → wipe σ' vs = wipe σ vs) → R σ' H) → gPat K p v σ H R
  | .nm i, d, ρ, ρ', v, σ, R, e, g, z, k => by
    cases e
    exact k _ (g.put z) fun vs hv => wipe_set (hv i (by simp [slots]))
  | .tp ps, d, ρ, ρ', v, σ, R, e, g, z, k => by
    cases d with
    | tup ds =>
      obtain ⟨a, vs, rfl, q, zs⟩ := z
      have e' : asgs ps ds ρ = some ρ' := e
      have hl : ps.length = ds.length := asgs_len ps ds ρ ρ' e'
      exact ⟨a, vs, rfl, q, by rw [ZL.length zs, hl], pats_ok ps ds ρ ρ' vs σ R e' g zs k⟩
    | _ => cases e
theorem pats_ok : ∀ (ps : List Pat) (ds : List D) (ρ ρ' : Ro) (vs : List V) (σ : L2.St) (R : L2.St → Hp → Prop), asgs ps ds ρ = some ρ' → Gd K ρ ω σ H π → ZL K H π ds vs →
    (∀ σ', Gd K ρ' ω σ' H π → (∀ us, (∀ i ∈ slotss ps, i ∈ us) → wipe σ' us = wipe σ us) → R σ' H) → gPats K ps vs σ H R
  | [], [], ρ, ρ', vs, σ, R, e, g, z, k => by
    cases e
    cases z
    exact ⟨rfl, k σ g fun _ _ => rfl⟩
  | p :: ps, d :: ds, ρ, ρ', _, σ, R, e, g, ⟨v, r, ev, z, zs⟩, k => by
    subst ev
    unfold asgs at e
    cases h : asg p d ρ with
    | none => rw [h] at e; cases e
    | some ρ1 =>
      rw [h] at e
      refine ⟨v, r, rfl, pat_ok p d ρ ρ1 v σ _ h g z fun σ1 g1 w1 => ?_⟩
      refine pats_ok ps ds ρ1 ρ' r σ1 R e g1 zs fun σ2 g2 w2 => k σ2 g2 fun us hu => ?_
      rw [w2 us fun i hi => hu i (by unfold slotss; exact List.mem_append_right _ hi), w1 us fun i hi => hu i (by unfold slotss; exact List.mem_append_left _ hi)]
  | [], _ :: _, _, _, _, _, _, e, _, _, _ => by cases e
  | _ :: _, [], _, _, _, _, _, e, _, _, _ => by cases e
theorem asgs_len : ∀ (ps : List Pat) (ds : List D) (ρ ρ' : Ro), asgs ps ds ρ = some ρ' → ps.length = ds.length
  | [], [], _, _, _ => rfl
  | p :: ps, d :: ds, ρ, ρ', e => by
    unfold asgs at e
    cases h : asg p d ρ with
    | none => rw [h] at e; cases e
    | some ρ1 => rw [h] at e; simp [asgs_len ps ds ρ1 ρ' e]
  | [], _ :: _, _, _, e => by cases e
  | _ :: _, [], _, _, e => by cases e
end
end
section
variable {X : Cx} {ρ : Ro} {ω : Om} {P : Po} {pos : Pos}
def PGs' (X : Cx) (ts : List Expr) (ps : List Pat) : Prop := PGs X ts (gPats X.K ps)
theorem gp_nm {i : Nat} {x : Str} {p : Pos} (hN : X.N.Nodup) (hi : X.N[i]? = some x) (hx : Loc X.env.scope x) (hf : X.fn x = true ∨ X.env.scope.names.lookup x = some .local := by first | exact .inl rfl | exact .inr rfl | assumption) : PG X (.Name x p) (gPat X.K (.nm i)) := pg_name hN hi hx hf
theorem gp_tp {es : List Expr} {k : Nat} {ps : List Pat} (hc : X.calm = true) (h : PGs' X es ps) (hn : (assignEach es X.env).length = ps.length := by rfl) (hst : (assignEach es X.env).findIdx? (·.1) = none := by rfl) : PG X (.Tuple es k pos) (gPat X.K (.tp ps)) :=
  pg_tup (pos := pos) (k := k) (n := ps.length) hc h hn hst
theorem gp_nil : PGs' X [] [] := pgs_nil
theorem gp_cons {e : Expr} {es : List Expr} {p : Pat} {ps : List Pat} (h1 : PG X e (gPat X.K p)) (h2 : PGs' X es ps)
    (hs : (assignEach (e :: es) X.env).map (·.2) = assign e X.env :: (assignEach es X.env).map (·.2) := by rfl) : PGs' X (e :: es) (p :: ps) := pgs_cons h1 h2 hs

/-! ### statements -/
theorem ws_nil (h : P.nx ρ ω) : WS X [] ρ ω P := fun σ H π E g k => ⟨_, pss_nil, k.nx σ H π ρ ω h (Stp.refl _ _) g⟩
theorem ws_cons {st : Stmt} {rest : List Stmt} (h : W1 X st ρ ω { P with nx := fun ρ' ω' => WS X rest ρ' ω' P }) : WS X (st :: rest) ρ ω P := fun σ H π E g k => by
  refine ⟨_, pss_cons ps_s pss_s, ?_⟩
  refine h σ H π _ g ⟨fun σ' H' π' ρ' ω' n s g' => n σ' H' π' E g' (k.from s), k.rt, k.bk, k.ct⟩
/-- the last one -/
theorem ws_one {st : Stmt} (h : W1 X st ρ ω P) : WS X [st] ρ ω P := fun σ H π E g k => ⟨_, pss_one ps_s, h σ H π E g k⟩
theorem w1_ret {e : Expr} (h : EV X e ρ ω P.rt) : W1 X (.Return (some e) pos) ρ ω P := fun σ H π E g k => ⟨_, ps_ret pe_s, h σ H π _ g k.rt⟩
theorem w1_retN (h : P.rt .non ω) : W1 X (.Return none pos) ρ ω P := fun σ H π E g k => ⟨_, ps_retN, k.rt .non H π .non ω h (Stp.refl _ _) g.hr rfl⟩
theorem w1_if {c : Expr} {a b : List Stmt} (h : ET X c ρ ω fun t ω1 => (t = true → WS X a ρ ω1 P) ∧ (t = false → WS X b ρ ω1 P)) : W1 X (.If c a b pos) ρ ω P := fun σ H π E g k => by
  refine ⟨_, ps_if pt_s pss_s pss_s, ?_⟩
  refine h σ H π _ g fun t H1 π1 ω1 q s1 r1 => ?_
  cases t with
  | true => rw [if_pos rfl]; exact q.1 rfl σ H1 π1 E (g.mono s1 r1) (k.from s1)
  | false => rw [if_neg Bool.false_ne_true]; exact q.2 rfl σ H1 π1 E (g.mono s1 r1) (k.from s1)
theorem w1_expr {e : Expr} (h : EV X e ρ ω fun _ ω1 => P.nx ρ ω1) (hs : swapsWith e none pos.line X.env = pure false := by rfl) : W1 X (.Expr e pos) ρ ω P := fun σ H π E g k => by
  refine ⟨_, ps_expr pe_s hs, ?_⟩
  exact h σ H π _ g fun v H1 π1 d ω1 q s1 r1 z1 => k.nx σ H1 π1 ρ ω1 q s1 (g.mono s1 r1)
theorem w1_pass (h : P.nx ρ ω) : W1 X (.Pass pos) ρ ω P := fun σ H π E g k => ⟨_, ps_pass, k.nx σ H π ρ ω h (Stp.refl _ _) g⟩
theorem w1_break (h : P.bk ρ ω) : W1 X (.Break pos) ρ ω P := fun σ H π E g k => ⟨_, ps_break, k.bk σ H π ρ ω h (Stp.refl _ _) g⟩
theorem w1_cont (h : P.ct ρ ω) : W1 X (.Continue pos) ρ ω P := fun σ H π E g k => ⟨_, ps_continue, k.ct σ H π ρ ω h (Stp.refl _ _) g⟩
theorem w1_set {i : Nat} {x : Str} {e : Expr} {pos' : Pos} (hN : X.N.Nodup) (hi : X.N[i]? = some x) (hx : Loc X.env.scope x) (h : EV X e ρ ω fun d ω1 => P.nx (put ρ i d) ω1)
    (hs : swapsWith e (some (.Name x pos')) pos.line X.env = pure false := by rfl) (hf : X.fn x = true ∨ X.env.scope.names.lookup x = some .local := by first | exact .inl rfl | exact .inr rfl | assumption) : W1 X (.Assign [.Name x pos'] e pos) ρ ω P := fun σ H π E g k => by
  refine ⟨_, ps_set hN hi hx pe_s hs hf, ?_⟩
  exact h σ H π _ g fun v H1 π1 d ω1 q s1 r1 z1 => k.nx _ H1 π1 _ ω1 q s1 ((g.mono s1 r1).put z1)
/-- a, b = e, e of one value -/
theorem w1_tup {p : Pat} {tg e : Expr} (hp : PG X tg (gPat X.K p)) (h : EV X e ρ ω fun d ω1 => ∃ ρ', asg p d ρ = some ρ' ∧ P.nx ρ' ω1)
    (hs : swapsWithSole [tg] e pos.line X.env = pure false := by rfl) (hw : swappedStores [tg] e X.env = pure none := by rfl) (h1 : (assignEach [tg] X.env).map (·.2) = [assign tg X.env] := by rfl) : W1 X (.Assign [tg] e pos) ρ ω P := fun σ H π E g k => by
  refine ⟨_, ps_asg pe_s hp hs hw h1, ?_⟩
  refine h σ H π _ g fun v H1 π1 d ω1 ⟨ρ', ha, q⟩ s1 r1 z1 => ?_
  exact pat_ok p d ρ ρ' v σ _ ha (g.mono s1 r1) z1 fun σ' g' _ => k.nx σ' H1 π1 ρ' ω1 q s1 g'
/-- o[i] = e, o a list of ours -/
theorem w1_setL {o i e : Expr} {pos' : Pos} (h : EV X e ρ ω fun d ω1 => EV X o ρ ω1 fun od ω2 => EV X i ρ ω2 fun id ω3 => ∃ k ds j n, od = .cell k ∧ ω3[k]? = some (.lst ds) ∧ id = .int j ∧ ixN ds.length j = some n ∧ P.nx ρ (ω3.set k (.lst (ds.set n d))))
    (hs : swapsWithSole [(.Subscript o i pos')] e pos.line X.env = pure false := by rfl) (hw : swappedStores [(.Subscript o i pos')] e X.env = pure none := by rfl)
    (ha : ∀ v, assign (.Subscript o i pos') X.env v = (do
      let ov ← holding [v] (eval o X.env)
      let iv ← holding [v, ov] (eval i X.env)
      standAt pos'
      holding [v, ov, iv] (setItem ov iv v)
      release [v, ov, iv] []) := by intro _; rfl) : W1 X (.Assign [(.Subscript o i pos')] e pos) ρ ω P := fun σ H π E g k => by
  refine ⟨_, ps_asg pe_s (pg_sub pe_s pe_s set_list ha) hs hw, ?_⟩
  refine h σ H π _ g fun v H1 π1 d ω1 h1 s1 r1 z1 => ?_
  refine h1 σ H1 π1 _ (g.mono s1 r1) fun ov H2 π2 od ω2 h2 s2 r2 z2 => ?_
  refine h2 σ H2 π2 _ ((g.mono s1 r1).mono s2 r2) fun iv H3 π3 id ω3 ⟨c, ds, j, n, eo, hc, ei, hn, q⟩ s3 r3 z3 => ?_
  subst eo ei
  obtain ⟨a, ea, hk⟩ := Z.stp s3 _ _ z2
  obtain ⟨a', hk', vs, hv, zs⟩ := r3.cr c _ hc
  rw [hk] at hk'; cases hk'
  cases z3
  have st : Stp H3 π3 (upd H3 a (.lst (vs.set n v))) π3 := Stp.cell hk (fun xs e => by rw [hv] at e; cases e) (fun b u e => by rw [hv] at e; cases e)
  refine ⟨a, vs, j, n, ea, rfl, hv, by rw [ZL.length zs]; exact hn, ?_⟩
  have zd : Z X.K H3 π3 d v := Z.stp s3 _ _ (Z.stp s2 _ _ z1)
  have hr' : HR X.K (upd H3 a (.lst (vs.set n v))) π3 (ω3.set c (.lst (ds.set n d))) := r3.cell hk st ⟨_, upd_same, ZL.stp st _ _ (ZL.set n zs zd)⟩
  exact k.nx σ _ π3 ρ _ q (((s1.trans s2).trans s3).trans st) ((((g.mono s1 r1).mono s2 r2).mono s3 r3).mono st hr')
/-- weaken what is wanted -/
theorem WS.imp {sts : List Stmt} {P' : Po} (h : WS X sts ρ ω P) (hn : ∀ ρ' ω', P.nx ρ' ω' → P'.nx ρ' ω') (hr : ∀ d ω', P.rt d ω' → P'.rt d ω') (hb : ∀ ρ' ω', P.bk ρ' ω' → P'.bk ρ' ω') (hc : ∀ ρ' ω', P.ct ρ' ω' → P'.ct ρ' ω') : WS X sts ρ ω P' := fun σ H π E g k =>
  h σ H π E g ⟨fun a b c d e n => k.nx a b c d e (hn _ _ n), fun v H' π' d ω' q => k.rt v H' π' d ω' (hr _ _ q), fun a b c d e n => k.bk a b c d e (hb _ _ n), fun a b c d e n => k.ct a b c d e (hc _ _ n)⟩

/-! ### for -/
theorem w1_for {p : Pat} {tg iter : Expr} {body : List Stmt} (hp : PassesOwn (model X.prog X.w) X.A X.env X.xe) (hc : X.calm = true) (hpat : PG X tg (gPat X.K p))
    (h : IT X tg iter ρ ω fun items G ω1 => ∃ I : Nat → Ro → Om → Prop, I 0 ρ ω1 ∧ (∀ i ρ2 ω2, i ≤ items.length → I i ρ2 ω2 → G ω2) ∧
      (∀ i d ρ2 ω2, items[i]? = some d → I i ρ2 ω2 → ∃ ρ3, asg p d ρ2 = some ρ3 ∧ WS X body ρ3 ω2 { P with nx := I (i + 1), ct := I (i + 1), bk := P.nx }) ∧ ∀ ρ2 ω2, I items.length ρ2 ω2 → P.nx ρ2 ω2)
    (hs : ∀ x, foldedSetIterable iter X.env x = pure x := by intro _; rfl) : W1 X (.For tg iter body [] pos) ρ ω P := fun σ H π E g k => by
  refine ⟨_, ps_for hp hc pi_s hpat pss_s hs, ?_⟩
  refine h σ H π _ g fun J H1 π1 items G ω1 ⟨I, i0, iG, turn, fin⟩ s1 r1 wk => ?_
  refine ⟨fun i m σ2 H2 => m = items.length - i ∧ i ≤ items.length ∧ ∃ π2 ρ2 ω2, I i ρ2 ω2 ∧ Stp H1 π1 H2 π2 ∧ Gd X.K ρ2 ω2 σ2 H2 π2, ⟨items.length, by simp, Nat.zero_le _, π1, ρ, ω1, i0, Stp.refl _ _, g.mono s1 r1⟩, ?_⟩
  rintro i m σ2 H2 ⟨rfl, hi, π2, ρ2, ω2, iv, s2, g2⟩
  have hG := iG i ρ2 ω2 hi iv
  by_cases hlt : i < items.length
  · refine .inr ⟨wk.go i H2 π2 ω2 hlt s2 g2.hr hG, fun σ' H' => ∃ π' ρ' ω', I (i + 1) ρ' ω' ∧ Stp H1 π1 H' π' ∧ Gd X.K ρ' ω' σ' H' π', fun σ' H' ⟨π', ρ', ω', a, b, c⟩ => ⟨items.length - (i + 1), by omega, rfl, hlt, π', ρ', ω', a, b, c⟩, fun x H3 y => ?_⟩
    obtain ⟨d, hd, s3, r3, z3, _⟩ := wk.yld i H2 π2 ω2 x H3 hlt s2 g2.hr hG y
    obtain ⟨ρ3, ha, hw⟩ := turn i d ρ2 ω2 hd iv
    refine pat_ok p d ρ2 ρ3 x σ2 _ ha (g2.mono s3 r3) z3 fun σ4 g4 _ => ?_
    have kk := k.from (s1.trans (s2.trans s3))
    refine hw σ4 H3 π2 _ g4 ⟨fun σ' H' π' ρ' ω' n s g' => ⟨π', ρ', ω', n, (s2.trans s3).trans s, g'⟩, kk.rt, kk.nx, fun σ' H' π' ρ' ω' n s g' => ⟨π', ρ', ω', n, (s2.trans s3).trans s, g'⟩⟩
  · have e : i = items.length := by omega
    subst e
    exact .inl ⟨wk.stop H2 π2 ω2 s2 g2.hr hG, k.nx σ2 H2 π2 ρ2 ω2 (fin ρ2 ω2 iv) (s1.trans s2) g2⟩
end

/-! ### comprehensions -/
def wipeD (ρ : Ro) : List Nat → Ro
  | [] => ρ
  | v :: vs => (wipeD ρ vs).set v none
theorem wipeD_len (ρ : Ro) : ∀ vs : List Nat, (wipeD ρ vs).length = ρ.length
  | [] => rfl
  | v :: vs => by simp [wipeD, wipeD_len ρ vs]
theorem look_eq : ∀ (ρ : Ro) (i : Nat), look ρ i = (ρ[i]?).join
  | [], _ => by simp [look]
  | d :: r, 0 => by simp [look]
  | d :: r, i + 1 => by simp [look, look_eq r i]
theorem look_wipe {ρ : Ro} {i : Nat} {d : D} : ∀ {vs : List Nat}, look (wipeD ρ vs) i = some d → look ρ i = some d ∧ i ∉ vs
  | [], h => ⟨h, by simp⟩
  | v :: vs, h => by
    have h' : look ((wipeD ρ vs).set v none) i = some d := h
    rw [look_eq] at h'
    by_cases hi : v = i
    · subst hi
      by_cases hv : v < (wipeD ρ vs).length
      · rw [List.getElem?_set_self hv] at h'; cases h'
      · rw [List.getElem?_eq_none (by simpa using hv)] at h'; cases h'
    · rw [List.getElem?_set_ne hi, ← look_eq] at h'
      obtain ⟨h1, h2⟩ := look_wipe h'
      exact ⟨h1, by simp only [List.mem_cons, not_or]; exact ⟨fun e => hi e.symm, h2⟩⟩
theorem wipe_keep {σ : L2.St} {i : Nat} : ∀ {vs : List Nat}, i ∉ vs → (wipe σ vs)[i]? = σ[i]?
  | [], _ => rfl
  | v :: vs, h => by
    show ((wipe σ vs).set v none)[i]? = _
    rw [List.getElem?_set_ne (fun e => h (by rw [e]; exact List.mem_cons_self)), wipe_keep fun hm => h (List.mem_cons_of_mem _ hm)]
theorem Gd.wipe {K : PySem.W.Frag} {ρ : Ro} {ω : Om} {σ : L2.St} {H : Hp} {π : List Addr} (g : Gd K ρ ω σ H π) (vs : List Nat) : Gd K (wipeD ρ vs) ω (wipe σ vs) H π := by
  refine ⟨by rw [wipeD_len, wipe_length]; exact g.len, fun i d e => ?_, g.hr⟩
  obtain ⟨h1, h2⟩ := look_wipe e
  obtain ⟨v, e1, z⟩ := g.env i d h1
  exact ⟨v, by rw [wipe_keep h2]; exact e1, z⟩
/-- a block of X -/
abbrev Bk (X : Cx) (s : Shared) (H : Hp) (scope : Scope) (cl : List (Str × Addr)) (C : Addr) (fp : List Addr) : Cx := X.blk s H scope (compEnvC scope cl C X.env) fp
/-- every block -/
def AB (X : Cx) (scope : Scope) (φ : Cx → Prop) : Prop := ∀ (s : Shared) (H : Hp) (C : Addr) (cl : List (Str × Addr)) (fp : List Addr), φ (Bk X s H scope cl C fp)
def bE (X : Cx) (scope : Scope) (e : Expr) : TE := fun σ H Q => AB X scope fun Y => sE Y e σ H Q
def bTs (X : Cx) (scope : Scope) (ifs : List Expr) : TT := fun σ H Q => AB X scope fun Y => ∃ t, PTs Y ifs t ∧ t σ H Q
/-- the tests of a clause: none or one -/
def ETs (X : Cx) (ifs : List Expr) (ρ : Ro) (ω : Om) (Q : Bool → Om → Prop) : Prop :=
  match ifs with
  | [] => Q true ω
  | [c] => ET X c ρ ω Q
  | _ => False
theorem ets_ok {X : Cx} {ifs : List Expr} {ρ : Ro} {ω : Om} {Q : Bool → Om → Prop} (h : ETs X ifs ρ ω Q) {σ : L2.St} {H : Hp} {π : List Addr} {R : Bool → Hp → Prop} (g : Gd X.K ρ ω σ H π)
    (k : ∀ b H' π' ω', Q b ω' → Stp H π H' π' → HR X.K H' π' ω' → R b H') : ∃ t, PTs X ifs t ∧ t σ H R := by
  match ifs, h with
  | [], h => exact ⟨tYes, pts_nil, k true H π ω h (Stp.refl _ _) g.hr⟩
  | [c], h => exact ⟨_, pts_one pt_s, h σ H π R g k⟩
/-- the reading of a comprehension, by data -/
theorem lc_read {X : Cx} {ρ : Ro} {ω : Om} {p : Pat} {elt tg iter : Expr} {ifs : List Expr} {scope : Scope} {vs : List Nat} {Q : List D → Om → Prop} (hv : ∀ i ∈ slots p, i ∈ vs)
    (h : IT X tg iter ρ ω fun items G ω1 => ∃ I : Nat → List D → Om → Prop, I 0 [] ω1 ∧ (∀ i acc ω2, i ≤ items.length → I i acc ω2 → G ω2) ∧
      (∀ i d acc ω2, items[i]? = some d → I i acc ω2 → ∃ ρ3, asg p d (wipeD ρ vs) = some ρ3 ∧ AB X scope fun Y => ETs Y ifs ρ3 ω2 fun b ω3 =>
        (b = true → AB X scope fun Y => EV Y elt ρ3 ω3 fun y ω4 => acc.length < sizeLine ∧ I (i + 1) (acc ++ [y]) ω4) ∧ (b = false → I (i + 1) acc ω3)) ∧ ∀ acc ω2, I items.length acc ω2 → Q acc ω2)
    {σ : L2.St} {H : Hp} {π : List Addr} {R : VK} (g : Gd X.K ρ ω σ H π)
    (k : ∀ p vs H' π' ds ω', Q ds ω' → Stp H π H' π' → HR X.K H' π' ω' → H' p = some (.lst vs) → p ∉ π' → H p = none → ZL X.K H' π' ds vs → R (.ref p) H') :
    tLc (sI X tg iter) (gPat X.K p) (bTs X scope ifs) (bE X scope elt) vs σ H R := by
  refine h σ H π _ g fun J H1 π1 items G ω1 ⟨I, i0, iG, turn, fin⟩ s1 r1 wk => fun Dl hD => ?_
  have hDH : H Dl = none := s1.fresh r1 hD
  have nD1 : Dl ∉ π1 := fun hm => r1.som Dl hm hD
  refine ⟨fun i m H2 => m = items.length - i ∧ i ≤ items.length ∧ ∃ π2 ω2 acc us, I i acc ω2 ∧ Stp H1 π1 H2 π2 ∧ HR X.K H2 π2 ω2 ∧ H2 Dl = some (.lst us) ∧ Dl ∉ π2 ∧ ZL X.K H2 π2 acc us,
    ⟨items.length, by simp, Nat.zero_le _, π1, ω1, [], [], i0, Stp.obj hD, r1.obj hD, upd_same, nD1, rfl⟩, ?_⟩
  rintro i m H2 ⟨rfl, hi, π2, ω2, acc, us, iv, s2, r2, hD2, nD2, zs⟩
  have hG := iG i acc ω2 hi iv
  by_cases hlt : i < items.length
  · refine .inr ⟨wk.go i H2 π2 ω2 hlt s2 r2 hG, fun H' => ∃ π' ω' acc' us', I (i + 1) acc' ω' ∧ Stp H1 π1 H' π' ∧ HR X.K H' π' ω' ∧ H' Dl = some (.lst us') ∧ Dl ∉ π' ∧ ZL X.K H' π' acc' us',
      fun H' ⟨π', ω', acc', us', a⟩ => ⟨items.length - (i + 1), by omega, rfl, hlt, π', ω', acc', us', a⟩, fun x H3 y => ?_⟩
    obtain ⟨d, hd, s3, r3, z3, sm⟩ := wk.yld i H2 π2 ω2 x H3 hlt s2 r2 hG y
    obtain ⟨ρ3, ha, hw⟩ := turn i d acc ω2 hd iv
    have g3 : Gd X.K (wipeD ρ vs) ω2 (wipe σ vs) H3 π2 := ((g.mono s1 r1).mono (s2.trans s3) r3).wipe vs
    refine pat_ok p d (wipeD ρ vs) ρ3 x (wipe σ vs) _ ha g3 z3 fun σ4 g4 w4 => ⟨?_, ?_⟩
    · rw [w4 vs hv]
      have gen : ∀ us ws : List Nat, (∀ v ∈ us, v ∈ ws) → wipe (wipe σ us) ws = wipe σ ws := by
        intro us
        induction us with
        | nil => intro ws _; rfl
        | cons u us ih =>
          intro ws hw
          show wipe ((wipe σ us).set u none) ws = wipe σ ws
          rw [wipe_set (hw u List.mem_cons_self)]
          exact ih ws fun v hv => hw v (List.mem_cons_of_mem _ hv)
      exact gen vs vs fun v hv => hv
    · intro s' Hs C cl fp
      refine ets_ok (hw s' Hs C cl fp) (σ := σ4) (H := H3) (π := π2) g4 fun b H4 π4 ω4 q s4 r4 => ?_
      have hD4 : H4 Dl = some (.lst us) := s4.frm Dl _ (sm Dl _ hD2) nD2
      have nD4 : Dl ∉ π4 := fun hm => by
        have := s4.new Dl hm nD2
        rw [sm Dl _ hD2] at this; cases this
      have s14 : Stp H1 π1 H4 π4 := (s2.trans s3).trans s4
      cases b with
      | false =>
        rw [if_neg Bool.false_ne_true]
        exact ⟨π4, ω4, acc, us, q.2 rfl, s14, r4, hD4, nD4, ZL.stp s4 _ _ (ZL.stp s3 _ _ zs)⟩
      | true =>
        rw [if_pos rfl]
        intro s'' Hs' C' cl' fp'
        refine q.1 rfl s'' Hs' C' cl' fp' σ4 H4 π4 _ (g4.mono s4 r4) fun u H5 π5 y ω5 ⟨hl, q5⟩ s5 r5 z5 => ?_
        have hD5 : H5 Dl = some (.lst us) := s5.frm Dl _ hD4 nD4
        have nD5 : Dl ∉ π5 := fun hm => by
          have := s5.new Dl hm nD4
          rw [hD4] at this; cases this
        have zs5 : ZL X.K H5 π5 acc us := ZL.stp s5 _ _ (ZL.stp s4 _ _ (ZL.stp s3 _ _ zs))
        refine ⟨us, hD5, by rw [ZL.length zs5]; exact hl, ?_⟩
        have ht : ∀ b xs, H5 b = some (.tup xs) → (upd H5 Dl (.lst (us ++ [u]))) b = some (.tup xs) := fun b xs e => by
          rw [upd_ne (show b ≠ Dl from fun z => by rw [z, hD5] at e; cases e)]; exact e
        have hf : ∀ b o w, H5 b = some (.frz o w) → (upd H5 Dl (.lst (us ++ [u]))) b = some (.frz o w) := fun b o w e => by
          rw [upd_ne (show b ≠ Dl from fun z => by rw [z, hD5] at e; cases e)]; exact e
        have hr' : HR X.K (upd H5 Dl (.lst (us ++ [u]))) π5 ω5 := by
          have hne : ∀ a ∈ π5, a ≠ Dl := fun a ha e => nD5 (e ▸ ha)
          refine ⟨r5.len, r5.nd, fun a ha => by rw [upd_ne (hne a ha)]; exact r5.som a ha, fun k c e => ?_⟩
          obtain ⟨a, ha, q⟩ := r5.cr k c e
          exact ⟨a, ha, q.upd ht hf (upd_ne (hne a (List.mem_of_getElem? ha)))⟩
        exact ⟨π5, ω5, acc ++ [y], us ++ [u], q5, (s14.trans s5).frzNew hD, hr', upd_same, nD5, ZL.append (ZL.upd ht hf _ _ zs5) (ZL.one (Z.upd ht hf _ _ z5))⟩
  · have e : i = items.length := by omega
    subst e
    refine .inl ⟨wk.stop H2 π2 ω2 s2 r2 hG, ?_⟩
    exact k Dl us H2 π2 acc ω2 (fin acc ω2 iv) (s1.trans s2) r2 hD2 nD2 hDH zs
section
variable {X : Cx} {ρ : Ro} {ω : Om} {pos : Pos}
theorem pe_b {scope : Scope} {e : Expr} : ∀ (s : Shared) (H : Hp) (C : Addr) (cl : List (Str × Addr)) (fp : List Addr), PE (X.blk s H scope (compEnvC scope cl C X.env) fp) e (bE X scope e) := fun s H C cl fp =>
  ⟨fun pins s1 σ H1 Q I h => by obtain ⟨t, p, h⟩ := h s H C cl fp; exact p.run pins s1 σ H1 Q I h⟩
theorem pts_b {scope : Scope} {e : List Expr} : ∀ (s : Shared) (H : Hp) (C : Addr) (cl : List (Str × Addr)) (fp : List Addr), PTs (X.blk s H scope (compEnvC scope cl C X.env) fp) e (bTs X scope e) := fun s H C cl fp =>
  ⟨fun pins s1 σ H1 Q I h => by obtain ⟨t, p, h⟩ := h s H C cl fp; exact p.run pins s1 σ H1 Q I h⟩
/-- what a comprehension asks, by data -/
def LC (X : Cx) (elt tg iter : Expr) (ifs : List Expr) (scope : Scope) (vs : List Nat) (p : Pat) (ρ : Ro) (ω : Om) (Q : List D → Om → Prop) : Prop :=
  IT X tg iter ρ ω fun items G ω1 => ∃ I : Nat → List D → Om → Prop, I 0 [] ω1 ∧ (∀ i acc ω2, i ≤ items.length → I i acc ω2 → G ω2) ∧
      (∀ i d acc ω2, items[i]? = some d → I i acc ω2 → ∃ ρ3, asg p d (wipeD ρ vs) = some ρ3 ∧ AB X scope fun Y => ETs Y ifs ρ3 ω2 fun b ω3 =>
        (b = true → AB X scope fun Y => EV Y elt ρ3 ω3 fun y ω4 => acc.length < sizeLine ∧ I (i + 1) (acc ++ [y]) ω4) ∧ (b = false → I (i + 1) acc ω3)) ∧ ∀ acc ω2, I items.length acc ω2 → Q acc ω2
theorem el_lc {Q : List D → Om → Prop} {p : Pat} {elt tg iter : Expr} {ifs : List Expr} {scope : Scope} (own : List (Str × Nat)) (hc : X.calm = true) (hN : X.N.Nodup) (ok : BlkOk X.N X.env.scope scope own)
    (hg : AB X scope fun Y => PG Y tg (gPat X.K p)) (hv : ∀ i ∈ slots p, i ∈ own.map (·.2)) (h : LC X elt tg iter ifs scope (own.map (·.2)) p ρ ω Q) (hs : ∀ x, foldedSetIterable iter X.env x = pure x := by intro _; rfl) :
    EL X (.ListComp elt [⟨tg, iter, ifs, 0⟩] scope pos) ρ ω Q := fun σ H π R g k =>
  ⟨_, pe_lc hc hN pi_s ok hg pts_b pe_b hs, lc_read hv h g k⟩
/-- y = [..] on one line, frozen -/
def tFrzS (t : TS) : TS := fun E σ H => t { E with nx := fun σ' H' => E.nx σ' H' ∨ ∃ p vs, H' p = some (.lst vs) ∧ ∀ o, E.nx σ' (upd H' p (.frz o (.lst vs))) } σ H
theorem ps_frz {st : Stmt} {t : TS} (h : PS X st t) : PS X st (tFrzS t) := by
  refine ⟨fun pins s σ H E I hw => ?_⟩
  refine thn (h.run pins s σ H _ I hw) fun f s1 q => ?_
  cases f with
  | next =>
    obtain ⟨σ', H', I', q⟩ := q
    rcases q with q | ⟨p, vs, hp, q⟩
    · exact ⟨σ', H', I', q⟩
    · obtain ⟨o, I2⟩ := inv_freeze I' hp
      exact ⟨σ', _, I2, q o⟩
  | brk => exact q
  | cont => exact q
  | ret u => exact q
theorem w1_lcF {P : Po} {i : Nat} {y : Str} {py spos : Pos} {p : Pat} {elt tg iter : Expr} {ifs : List Expr} {scope : Scope} (own : List (Str × Nat)) (hc : X.calm = true) (hN : X.N.Nodup) (hy : X.N[i]? = some y) (hyl : X.env.scope.names.lookup y = some .local)
    (hsw : swapsWith (.ListComp elt [⟨tg, iter, ifs, 0⟩] scope pos) (some (.Name y py)) spos.line X.env = pure true) (ok : BlkOk X.N X.env.scope scope own)
    (hg : AB X scope fun Y => PG Y tg (gPat X.K p)) (hv : ∀ i ∈ slots p, i ∈ own.map (·.2)) (h : LC X elt tg iter ifs scope (own.map (·.2)) p ρ ω fun ds ω' => P.nx (put ρ i (.lst ds)) ω') (hs : ∀ x, foldedSetIterable iter X.env x = pure x := by intro _; rfl) :
    W1 X (.Assign [.Name y py] (.ListComp elt [⟨tg, iter, ifs, 0⟩] scope pos) spos) ρ ω P := fun σ H π E g k => by
  refine ⟨_, ps_frz (ps_setLc hc hN hy hyl hsw pi_s ok hg pts_b pe_b hs), ?_⟩
  refine lc_read (R := fun x H1 => E.nx (σ.set i (some x)) H1 ∨ ∃ p vs, H1 p = some (.lst vs) ∧ ∀ o, E.nx (σ.set i (some x)) (upd H1 p (.frz o (.lst vs)))) hv h g fun q vs H' π' ds ω' hq s r hp np h0 zs => .inr ⟨q, vs, hp, fun o => ?_⟩
  have s2 := s.frzNew (o := .frz o (.lst vs)) h0
  have r2 := r.frzNew (o := o) hp np
  have z2 : Z X.K (upd H' q (.frz o (.lst vs))) π' (.lst ds) (.ref q) := ⟨q, vs, rfl, ⟨o, upd_same⟩, ZL.upd (Stp.frzAt (π := π') hp) (fun b ob u e => by rw [upd_ne (show b ≠ q from fun z => by rw [z, hp] at e; cases e)]; exact e) ds vs zs⟩
  exact k.nx _ _ π' _ ω' hq s2 ((g.mono s2 r2).put z2)
/-- .. as a new cell -/
theorem w1_lcC {P : Po} {i : Nat} {y : Str} {py spos : Pos} {p : Pat} {elt tg iter : Expr} {ifs : List Expr} {scope : Scope} (own : List (Str × Nat)) (hc : X.calm = true) (hN : X.N.Nodup) (hy : X.N[i]? = some y) (hyl : X.env.scope.names.lookup y = some .local)
    (hsw : swapsWith (.ListComp elt [⟨tg, iter, ifs, 0⟩] scope pos) (some (.Name y py)) spos.line X.env = pure true) (ok : BlkOk X.N X.env.scope scope own)
    (hg : AB X scope fun Y => PG Y tg (gPat X.K p)) (hv : ∀ i ∈ slots p, i ∈ own.map (·.2)) (h : LC X elt tg iter ifs scope (own.map (·.2)) p ρ ω fun ds ω' => P.nx (put ρ i (.cell ω'.length)) (ω' ++ [.lst ds])) (hs : ∀ x, foldedSetIterable iter X.env x = pure x := by intro _; rfl) :
    W1 X (.Assign [.Name y py] (.ListComp elt [⟨tg, iter, ifs, 0⟩] scope pos) spos) ρ ω P := fun σ H π E g k => by
  refine ⟨_, ps_setLc hc hN hy hyl hsw pi_s ok hg pts_b pe_b hs, ?_⟩
  refine lc_read (R := fun x H1 => E.nx (σ.set i (some x)) H1) hv h g fun q vs H' π' ds ω' hq s r hp np h0 zs => ?_
  have hx := Stp.ext (π := π') np
  have s2 : Stp H π H' (π' ++ [q]) := s.newCell h0 np
  have r2 : HR X.K H' (π' ++ [q]) (ω' ++ [.lst ds]) := r.newCell np (by rw [hp]; simp) ⟨vs, hp, ZL.ext hx _ _ zs⟩
  have z2 : Z X.K H' (π' ++ [q]) (.cell ω'.length) (.ref q) := ⟨q, rfl, by rw [← r.len, List.getElem?_append_right (Nat.le_refl _)]; simp⟩
  exact k.nx _ H' _ _ _ hq s2 ((g.mono s2 r2).put z2)
end

/-! ### defs -/
abbrev Spc := List D → Om → (D → Om → Prop) → Prop
def spD (K : PySem.W.Frag) (n : Nat) (S : Spc) : Sp := fun vs H Q _ => vs.length = n ∧ ∃ π ω ds Qd, HR K H π ω ∧ ZL K H π ds vs ∧ S ds ω Qd ∧ Kt K H π Qd Q
/-- a def of the module keeps S -/
structure Fn (P : Program) (w : World) (K : PySem.W.Frag) (mg : Str → Option Value) (base : Heap) (lvl : Nat) (name : Str) (n : Nat) (S : Spc) : Prop where
  ex : ∃ f fd ps, FnOk P w K mg base CX0 lvl f fd ps (spD K n S) ∧ ps.length = n ∧ mg name = some (.ref f) ∧ PySem.W.keepIn K (.ref f) = true ∧ Binds K fd ps []
theorem ev_call {X : Cx} {ρ : Ro} {ω : Om} {pos p : Pos} {Q : D → Om → Prop} {lvl n : Nat} {x : Str} {S : Spc} {e : Expr} {es : List Expr} (F : Fn X.prog X.w X.K X.mg X.base lvl x n S) (hr : Room lvl X.A)
    (h : EA X (e :: es) ρ ω fun ds ω1 => ds.length = n ∧ S ds ω1 Q) (hg : Gl X x := by rfl) (hdb : (x == ("__debug__" : Str)) = false := by decide)
    (he : starEach (e :: es) X.env = (false, eval e X.env) :: starEach es X.env := by rfl) (hpl : (backTo pos (starEach es X.env)).any (·.1) = false := by rfl) : EV X (.Call (.Name x p) (e :: es) [] pos) ρ ω Q := fun σ H π R g k => by
  obtain ⟨f, fd, ps, ok, hl, hm, kp, b⟩ := F.ex
  refine ⟨_, pe_call ok hr hg hm kp b .nil pass0 pa_s hdb he hpl, ?_⟩
  refine h σ H π _ g fun vs H1 π1 ds ω1 ⟨hn, hS⟩ s1 r1 zs => ?_
  show spD _ _ _ (vs ++ []) _ _ _
  rw [List.append_nil]
  exact ⟨by rw [ZL.length zs]; exact hn, π1, ω1, ds, Q, r1, zs, hS, k.from s1⟩
def startD (n : Nat) (ds : List D) : Ro := ds.map some ++ List.replicate (n - ds.length) none
theorem startD_gd {K : PySem.W.Frag} {H : Hp} {π : List Addr} {ω : Om} {N : List Str} {ds : List D} {vs : List V} (hr : HR K H π ω) (zs : ZL K H π ds vs) : Gd K (startD N.length ds) ω (L2.start N vs) H π := by
  have hl := ZL.length zs
  refine ⟨by simp [startD, L2.start, hl], fun i d e => ?_, hr⟩
  unfold startD at e
  rw [look_eq] at e
  by_cases hi : i < ds.length
  · rw [List.getElem?_append_left (by simpa using hi), List.getElem?_map] at e
    cases q : ds[i]? with
    | none => rw [q] at e; cases e
    | some d' =>
      rw [q] at e
      cases e
      obtain ⟨v, h1, h2⟩ := ZL.get zs q
      refine ⟨v, ?_, h2⟩
      unfold L2.start
      rw [List.getElem?_append_left (by rw [List.length_map, hl]; exact hi), List.getElem?_map, h1]
      rfl
  · rw [List.getElem?_append_right (by simpa using hi), List.getElem?_replicate] at e
    split at e <;> cases e
/-- the context of a def's body -/
abbrev BX (P : Program) (w : World) (K : PySem.W.Frag) (mg : Str → Option Value) (base : Heap) (N : List Str) (qual : Str) (st : Stmt) (f : Addr) (cdv : Value) (A : Around) (outer : List Env) (s : Shared) (H : Hp) (E : XK) : Cx :=
  (cxOf CX0 P w K mg base N qual (defScope st) f cdv A outer s H E).nox
theorem fn_mk' {P : Program} {w : World} {K : PySem.W.Frag} {mg : Str → Option Value} {base : Heap} {x qual : Str} {st : Stmt} {f : Addr} {fd : FuncData} {N ps : List Str} {k n : Nat} {S : Spc} (F : Fun K x qual st f fd) (hm : mg x = some (.ref f)) (b : Binds K fd ps [])
    (Sc : FnScope N ps (defScope st)) (hn : ps.length = n)
    (body : ∀ (cdv : Value) (A : Around) (outer : List Env) (s : Shared) (H : Hp) (E : XK), Room k (BX P w K mg base N qual st f cdv A outer s H E).A → ∀ ds ω Qd, ds.length = n → S ds ω Qd →
      WS (BX P w K mg base N qual st f cdv A outer s H E) (defBody st) (startD N.length ds) ω ⟨fun _ ω' => Qd .non ω', Qd, fun _ _ => False, fun _ _ => False⟩) : Fn P w K mg base (k + 1) x n S := by
  refine ⟨f, fd, ps, F.ok Sc (fun vs H Q E h => by rw [hn]; exact h.1) (fun cdv A outer s H vs Q E hr h => ?_), hn, hm, F.kp, b⟩
  obtain ⟨hl, π, ω, ds, Qd, r, zs, hS, kk⟩ := h
  have := body cdv A outer s H E hr ds ω Qd (by rw [← ZL.length zs]; exact hl) hS (L2.start N vs) H π { nx := fun _ H' => Q .non H', rt := Q } (startD_gd r zs)
    ⟨fun σ' H' π' ρ' ω' q s' g' => kk .non H' π' .non ω' q s' g'.hr rfl, kk, fun _ _ _ _ _ q => q.elim, fun _ _ _ _ _ q => q.elim⟩
  exact ⟨_, pss_s, this⟩
end DL

set_option Elab.async false
set_option linter.all false
set_option maxRecDepth 100000
set_option autoImplicit false
set_option maxHeartbeats 1000000
/-! DL7: methods of texts and lists, pairs stored at once, reversed tuples. -/
namespace PySem
namespace HT
open PyProof.Rows
section
variable {prog : Program} {w : World} {A : Around} {E : Value → Shared → Prop} {s : Shared}
/-- t[::-1] of a tuple of two or more -/
theorem sliceApplied_rev {sl : Addr} {n : Nat} {t : Tok} {Q : Int × Int × Nat → Shared → Prop} (hs : s.heap.IsSliceOf sl .none .none (.int (-1) t))
    (h : Q ((n : Int) - 1, -1, n) s) : wpAny (model prog w) A (Builtin.Slice.sliceApplied (.ref sl) (pure (n : Int))) Q E s := by
  obtain ⟨os, hos, hcs, hds⟩ := id hs
  unfold Builtin.Slice.sliceApplied Builtin.Slice.sliceFields
  refine wpAny_bind (wpAny_bind (wpAny_field hos hds (x := .none) rfl (wpAny_bind (wpAny_field hos hds (x := .none) rfl (wpAny_bind (wpAny_field hos hds (x := .int (-1) t) rfl (wpAny_pure ?_)))))))
  refine wpAny_bind (slicePart_int ?_)
  show wpAny _ _ (if ((-1 : Int) == 0) = true then _ else _) _ _ s
  rw [if_neg (by decide)]
  refine wpAny_bind (slicePart_none (wpAny_bind (slicePart_none (wpAny_bind (wpAny_pure ?_)))))
  show wpAny _ _ (match Builtin.Slice.sliceAdjust none none (-1) (n : Int) with | (lo, hi) => pure (lo, (-1 : Int), Builtin.Slice.slicePlaces lo hi (-1))) _ _ s
  have e : Builtin.Slice.sliceAdjust none none (-1) (n : Int) = ((n : Int) - 1, -1) := by
    unfold Builtin.Slice.sliceAdjust
    simp
  rw [e]
  have e2 : Builtin.Slice.slicePlaces ((n : Int) - 1) (-1) (-1) = n := by
    unfold Builtin.Slice.slicePlaces
    simp
    omega
  show wpAny _ _ (pure ((n : Int) - 1, (-1 : Int), Builtin.Slice.slicePlaces ((n : Int) - 1) (-1) (-1))) _ _ s
  rw [e2]
  exact wpAny_pure h
theorem fm_congr {α β : Type} {f g : α → Option β} : ∀ {l : List α}, (∀ x ∈ l, f x = g x) → l.filterMap f = l.filterMap g
  | [], _ => rfl
  | x :: l, h => by
    rw [List.filterMap_cons, List.filterMap_cons, h x List.mem_cons_self, fm_congr fun y hy => h y (List.mem_cons_of_mem _ hy)]
theorem pick_rev (items : Array Value) : ((List.range items.size).filterMap fun (m : Nat) => items[(((items.size : Nat) : Int) - 1 + (m : Int) * (-1)).toNat]?).toArray = items.toList.reverse.toArray := by
  have e : (List.range items.size).filterMap (fun (m : Nat) => items[(((items.size : Nat) : Int) - 1 + (m : Int) * (-1)).toNat]?) = (List.range items.size).filterMap (fun m => items[items.size - 1 - m]?) := by
    refine fm_congr fun m hm => ?_
    have hm' : m < items.size := List.mem_range.mp hm
    have : (((items.size : Nat) : Int) - 1 + (m : Int) * (-1)).toNat = items.size - 1 - m := by omega
    rw [this]
  rw [e]
  congr 1
  have h1 : (List.range items.size).filterMap (fun m => items[items.size - 1 - m]?) = ((List.range items.size).map fun k => items.size - 1 - k).filterMap (items[·]?) := by
    rw [List.filterMap_map]
    rfl
  rw [h1, PySem.W.krv_range, List.filterMap_reverse, PySem.W.krv_all]
theorem getItem_tuple_rev {t sl : Addr} {items : Array Value} {tk : Tok} {Q : Value → Shared → Prop} (ht : IsTup s.heap t items) (hs : s.heap.IsSliceOf sl .none .none (.int (-1) tk))
    (h : Q (.ref s.heap.objs.size) { s with heap := s.heap.push { cls := .type "tuple", data := .seq items.toList.reverse.toArray } })
    (hsz : items.size ≤ sizeLine) : wpAny (model prog w) A (getItem (.ref t) (.ref sl)) Q E s := by
  have htake : sizeOk (.seq items.toList.reverse.toArray) := by
    show items.toList.reverse.toArray.size ≤ sizeLine
    rw [List.size_toArray, List.length_reverse, Array.length_toList]
    omega
  obtain ⟨os, hos, hcs, hds⟩ := id hs
  have hTs : s.TypeIs (.ref sl) "slice" := ⟨os, hos, hcs⟩
  unfold getItem
  try with_reducible refine wpAny_holding ?_
  first | refine wpAny_bind (wpAny_pure ?_) | skip
  refine wpAny_bind (wpAny_sequenceKey ht.typeIs (by decide) ?_)
  refine wpAny_bind (wpAny_callSpecial?_slot (name := Str.ofString "__getitem__") ht.typeIs PyProof.Rows.slot_tuple_getitem
    (wpAny_call_entry PyProof.Rows.slot_tuple_getitem ht.typeIs entry_tuple_getitem ?_ (args_tuple_getitem _ _)))
  show wpAny _ _ (Builtin.Tuple.tupleItemsOf (.ref t) >>= _) _ _ s
  refine wpAny_bind (tupleItemsOf_ ht ?_)
  refine wpAny_bind (wpAny_typeOf hTs ?_)
  rw [if_pos (by decide)]
  refine wpAny_bind (sliceApplied_rev hs ?_)
  have hno : ¬ ((((items.size : Nat) : Int) - 1 == 0 && (-1 : Int) == 1 && items.size == items.size) = true) := by
    intro q
    rw [Bool.and_eq_true, Bool.and_eq_true] at q
    exact absurd q.1.2 (by decide)
  show wpAny _ _ (if (((items.size : Nat) : Int) - 1 == 0 && (-1 : Int) == 1 && items.size == items.size) = true then _ else _) _ _ s
  rw [if_neg hno, pick_rev]
  first
    | exact wpAny_bind (m := Builtin.Tuple.tupleExact _) (wpAny_newObj_type (wpAny_pure ⟨_, rfl, wpAny_pure h⟩) htake)
    | exact wpAny_bind (m := Builtin.Tuple.tupleExact _) (wpAny_newObj_type (wpAny_bind (wpAny_pure (wpAny_pure ⟨_, rfl, wpAny_pure h⟩))) htake)
    | exact wpAny_bind (wpAny_bind (m := Builtin.Tuple.tupleExact _) (wpAny_newObj_type (wpAny_pure (wpAny_pure ⟨_, rfl, wpAny_pure h⟩)) htake))
    | exact wpAny_bind (wpAny_bind (m := Builtin.Tuple.tupleExact _) (wpAny_newObj_type (wpAny_pure ⟨_, rfl, wpAny_pure h⟩) htake))
end
end HT
end PySem
namespace DL
open PySem PySem.Spec PyProof.Rows L2
section
variable {X : Cx} {ρ : Ro} {ω : Om} {Q : D → Om → Prop} {pos : Pos}
/-- t[::-1]: a new tuple (of none: any tuple of none) -/
def tRevT (K : PySem.W.Frag) (te : TE) : TE := fun σ H Q => te σ H fun x H1 => ∃ a xs, x = .ref a ∧ SqT K H1 a xs ∧ ∀ p, H1 p = none → Q (.ref p) (upd H1 p (.tup xs.reverse))
theorem isPart_neg {v : Value} {i : Int} (p : IsPart v (some i)) : ∃ t, v = .int i t := by
  cases p with
  | int i t => exact ⟨t, rfl⟩
theorem isPart_non {v : Value} (p : IsPart v none) : v = .none := by
  cases p with
  | none => rfl
theorem pe_revT {e : Expr} {te : TE} {k : Nat} {p1 p2 p3 : Pos} (he : PE X e te) : PE X (.Subscript e (.Slice none none (some (.UnaryOp .USub (.Constant (.int 1) k p1) p2)) p3) pos) (tRevT X.K te) := by
  refine ⟨fun pins s σ H Q I h => ?_⟩
  refine Subscript_ (thn (he.run pins s σ H _ I h) fun v s1 ⟨x, H1, I1, r1, q1⟩ => ?_)
  obtain ⟨a, xs, ex, hx, q⟩ := q1
  subst ex
  cases r1
  have hst : PO X (some (.UnaryOp .USub (.Constant (.int 1) k p1) p2)) (tPart (tUn (rU fun i => .int (-i)) (tC (.int 1)))) := po_some (pe_un un_neg pe_int)
  refine wpAny_Slice (thn (po_none.run pins s1 σ H1 (fun o H2 => o = none ∧ H2 = H1) I1 ⟨rfl, rfl⟩) fun vl s2 ⟨l, H2, I2, pl, el, e2⟩ => ?_)
  subst el e2
  refine thn (po_none.run pins s2 σ H2 (fun o H3 => o = none ∧ H3 = H2) I2 ⟨rfl, rfl⟩) fun vu s3 ⟨u, H3, I3, pu, eu, e3⟩ => ?_
  subst eu e3
  refine thn (hst.run pins s3 σ H3 (fun o H4 => o = some (-1) ∧ H4 = H3) I3 ⟨1, rfl, -1, rfl, rfl, rfl⟩) fun vs s4 ⟨o, H4, I4, ps, eo, e4⟩ => ?_
  subst eo e4
  have I5 : Inv X pins σ H4 { s4 with heap := s4.heap.push { cls := .type "slice", data := .fields #[vl, vu, vs] } } := I4.kept (t' := s4.toks) fun b ob q => Heap.get?_push_of_some _ q
  obtain ⟨its, r, ht, hz⟩ := I5.tuple hx
  have hlen := r.length
  have hnew := Heap.IsSliceOf.new s4.heap vl vu vs
  obtain ⟨t, rfl⟩ := isPart_neg ps
  cases isPart_non pl
  cases isPart_non pu
  show wpAny (model X.prog X.w) X.A (subscriptTail e (.Slice none none (some (.UnaryOp .USub (.Constant (.int 1) k p1) p2)) p3) (.ref a) (.ref s4.heap.objs.size)) (EP X pins σ Q) X.xe { s4 with heap := s4.heap.push { cls := .type "slice", data := .fields #[.none, .none, .int (-1) t] } }
  refine tail_any (ops := [.ref a, .ref s4.heap.objs.size]) ht.typeIs (PyProof.Rows.slot_tuple_getitem.lookup) ?_ (by with_unfolding_all rfl)
  refine PySem.HT.getItem_tuple_rev ht hnew ?_ (by rw [List.size_toArray]; omega)
  refine ⟨.ref _, _, I5.laid (t' := s4.toks) (o := .tup xs.reverse) (fun b ob q => Heap.get?_push_of_some _ q) (Nat.le_refl _) ?_, rfl, q _ (I5.hok.fresh (Nat.le_refl _))⟩
  exact ⟨by rw [List.length_reverse]; exact hz, its.reverse, r.reverse, ⟨_, Heap.get?_push_size _ rfl, rfl, _, by simp; rfl⟩⟩
theorem ev_revT {e : Expr} {k : Nat} {p1 p2 p3 : Pos} (h : EV X e ρ ω fun x ω1 => ∃ ds, rd x ω1 = .tup ds ∧ Q (.tup ds.reverse) ω1) : EV X (.Subscript e (.Slice none none (some (.UnaryOp .USub (.Constant (.int 1) k p1) p2)) p3) pos) ρ ω Q := fun σ H π R g kk => by
  refine ⟨_, pe_revT pe_s, ?_⟩
  refine h σ H π _ g fun v H1 π1 x ω1 ⟨ds, ex, q⟩ s1 r1 zx => ?_
  obtain ⟨p, vs, rfl, hp, zs⟩ := read_tup zx ex
  refine ⟨p, vs, rfl, hp, fun t ht => ?_⟩
  exact kk _ _ π1 _ ω1 q (s1.trans (Stp.obj ht)) (r1.obj ht) ⟨t, _, rfl, SqT.of upd_same, ZL.stp (Stp.obj ht) _ _ (ZL.reverse zs)⟩

/-! ### methods -/
theorem ev_join {o e : Expr} {apos : Pos} (h : EV X o ρ ω fun d ω1 => ∃ a, d = .str a ∧ EV X e ρ ω1 fun x ω2 => ∃ x' ys, rd x ω2 = x' ∧ (x' = .lst (ys.map .str) ∨ x' = .tup (ys.map .str)) ∧ (ys.map (·.length)).sum + ys.length * a.length ≤ 16777216 ∧ Q (.str (Txt.join a ys)) ω2)
    (hs : starEach [e] X.env = [(false, eval e X.env)] := by rfl) (hbase : attributeBase o "join" X.env (eval o X.env) = eval o X.env := by rfl) (hline : (apos.endLine == pos.line) = true := by rfl) :
    EV X (.Call (.Attribute o "join" apos) [e] [] pos) ρ ω Q := fun σ H π R g k => by
  refine ⟨_, pe_join pe_s pe_s hs hbase hline, ?_⟩
  refine h σ H π _ g fun v H1 π1 d ω1 ⟨a, ed, h1⟩ s1 r1 z1 => ?_
  subst ed
  cases z1
  refine ⟨⟨a, rfl⟩, ?_⟩
  refine h1 σ H1 π1 _ (g.mono s1 r1) fun u H2 π2 x ω2 ⟨x', ys, ex, hx, hl, q⟩ s2 r2 z2 => ?_
  rcases hx with hx | hx
  · subst hx
    obtain ⟨p, vs, rfl, hp, zs⟩ := read_lst r2 z2 ex
    cases ZL.strsV zs
    exact ⟨a, p, ys, rfl, rfl, .inl (.inl hp), hl, k _ H2 π2 _ ω2 q (s1.trans s2) r2 rfl⟩
  · subst hx
    obtain ⟨p, vs, rfl, hp, zs⟩ := read_tup z2 ex
    cases ZL.strsV zs
    exact ⟨a, p, ys, rfl, rfl, .inr hp, hl, k _ H2 π2 _ ω2 q (s1.trans s2) r2 rfl⟩
theorem el_split {Q : List D → Om → Prop} {o e : Expr} {apos : Pos} (h : EV X o ρ ω fun d ω1 => ∃ a, d = .str a ∧ EV X e ρ ω1 fun x ω2 => ∃ b, x = .str b ∧ (b.length == 0) = false ∧ a.length + 2 ≤ sizeLine ∧ Q ((Txt.split a b).map .str) ω2)
    (hs : starEach [e] X.env = [(false, eval e X.env)] := by rfl) (hbase : attributeBase o "split" X.env (eval o X.env) = eval o X.env := by rfl) (hline : (apos.endLine == pos.line) = true := by rfl) :
    EL X (.Call (.Attribute o "split" apos) [e] [] pos) ρ ω Q := fun σ H π R g k => by
  refine ⟨_, pe_split pe_s pe_s hs hbase hline, ?_⟩
  refine h σ H π _ g fun v H1 π1 d ω1 ⟨a, ed, h1⟩ s1 r1 z1 => ?_
  subst ed
  cases z1
  refine ⟨⟨a, rfl⟩, ?_⟩
  refine h1 σ H1 π1 _ (g.mono s1 r1) fun u H2 π2 x ω2 ⟨b, ex, hb, hl, q⟩ s2 r2 z2 => ?_
  subst ex
  cases z2
  exact ⟨a, b, rfl, rfl, hb, hl, fun p hp => el_new k (s1.trans s2) r2 hp ZL.ofStrs q⟩
theorem ev_starts {o e : Expr} {apos : Pos} (h : EV X o ρ ω fun d ω1 => ∃ a, d = .str a ∧ EV X e ρ ω1 fun x ω2 => ∃ b, x = .str b ∧ Q (.bl (Txt.startswith a b)) ω2)
    (hs : starEach [e] X.env = [(false, eval e X.env)] := by rfl) (hbase : attributeBase o "startswith" X.env (eval o X.env) = eval o X.env := by rfl) (hline : (apos.endLine == pos.line) = true := by rfl) :
    EV X (.Call (.Attribute o "startswith" apos) [e] [] pos) ρ ω Q := fun σ H π R g k => by
  refine ⟨_, pe_m1 F.slot_str_startswith F.type_str_startswith mt_startswith pe_s pe_s hs hbase hline, ?_⟩
  refine h σ H π _ g fun v H1 π1 d ω1 ⟨a, ed, h1⟩ s1 r1 z1 => ?_
  subst ed
  cases z1
  refine ⟨⟨a, rfl⟩, ?_⟩
  refine h1 σ H1 π1 _ (g.mono s1 r1) fun u H2 π2 x ω2 ⟨b, ex, q⟩ s2 r2 z2 => ?_
  subst ex
  cases z2
  exact ⟨a, b, rfl, rfl, k _ H2 π2 _ ω2 q (s1.trans s2) r2 rfl⟩
/-- a list of ours at the receiver -/
theorem cell_at {K : PySem.W.Frag} {H : Hp} {π : List Addr} {ω : Om} {c : Nat} {ds : List D} {v : V} (r : HR K H π ω) (z : Z K H π (.cell c) v) (h : ω[c]? = some (.lst ds)) : ∃ a vs, v = .ref a ∧ π[c]? = some a ∧ H a = some (.lst vs) ∧ ZL K H π ds vs := by
  obtain ⟨a, rfl, ha⟩ := z
  obtain ⟨a', ha', vs, hv, zs⟩ := r.cr c _ h
  rw [ha] at ha'; cases ha'
  exact ⟨a, vs, rfl, ha, hv, zs⟩
/-- .. written -/
theorem cell_put {K : PySem.W.Frag} {H : Hp} {π : List Addr} {ω : Om} {c : Nat} {a : Addr} {vs vs' : List V} {ds' : List D} (r : HR K H π ω) (ha : π[c]? = some a) (hv : H a = some (.lst vs)) (zs : ZL K H π ds' vs') :
    Stp H π (upd H a (.lst vs')) π ∧ HR K (upd H a (.lst vs')) π (ω.set c (.lst ds')) := by
  have st : Stp H π (upd H a (.lst vs')) π := Stp.cell ha (fun xs e => by rw [hv] at e; cases e) (fun b u e => by rw [hv] at e; cases e)
  exact ⟨st, r.cell ha st ⟨_, upd_same, ZL.stp st _ _ zs⟩⟩
theorem ev_append {o e : Expr} {apos : Pos} (h : EV X o ρ ω fun d ω1 => ∃ c ds0, d = .cell c ∧ ω1[c]? = some (.lst ds0) ∧ EV X e ρ ω1 fun x ω2 => ∃ ds, ω2[c]? = some (.lst ds) ∧ ds.length < sizeLine ∧ Q .non (ω2.set c (.lst (ds ++ [x]))))
    (hbase : attributeBase o "append" X.env (eval o X.env) = eval o X.env := by rfl)
    (hfew : ((backTo pos (starEach (e :: []) X.env)).all (fun x => !x.1) && (backToKw pos (keywordEach [] X.env)).all (fun x => x.1.isSome)
      && decide ((e :: []).length + ([] : List Keyword).length + (if ([] : List Keyword).isEmpty then 0 else 1) < 30)) = true := by rfl)
    (hline : (apos.endLine == pos.line) = true := by rfl) (hs : starEach (e :: []) X.env = (false, eval e X.env) :: starEach [] X.env := by rfl) (hplain : (backTo pos (starEach [] X.env)).any (·.1) = false := by rfl) : EV X (.Call (.Attribute o "append" apos) [e] [] pos) ρ ω Q := fun σ H π R g k => by
  refine ⟨_, pe_bm PySem.F.plainAttrs_list PySem.F.slot_list_append PySem.F.type_list_append mt_append pe_s (pa_cons pe_s pa_nil hs) hbase hfew hline hs hplain, ?_⟩
  refine h σ H π _ g fun v H1 π1 d ω1 ⟨c, ds0, ed, h0, h1⟩ s1 r1 z1 => ?_
  subst ed
  obtain ⟨a, vs0, rfl, ha, hv0, zs0⟩ := cell_at r1 z1 h0
  refine ⟨Or.inl ⟨rfl, vs0, .inl (.inl hv0)⟩, ?_⟩
  refine h1 σ H1 π1 _ (g.mono s1 r1) fun u H2 π2 x ω2 ⟨ds, h2, hl, q⟩ s2 r2 z2 => ?_
  obtain ⟨a', vs, ev, ha', hv, zs⟩ := cell_at r2 (Z.stp s2 _ _ z1) h2
  cases ev
  obtain ⟨st, r'⟩ := cell_put r2 ha' hv (ZL.append zs (ZL.one z2))
  exact ⟨a, vs, u, rfl, rfl, hv, by rw [ZL.length zs]; exact hl, k _ _ π2 _ _ q ((s1.trans s2).trans st) r' rfl⟩
/-- xs.pop(i) -/
theorem ev_popAt {o e : Expr} {apos : Pos} (h : EV X o ρ ω fun d ω1 => ∃ c ds0, d = .cell c ∧ ω1[c]? = some (.lst ds0) ∧ EV X e ρ ω1 fun x ω2 => ∃ ds i k z, ω2[c]? = some (.lst ds) ∧ x = .int i ∧ 0 ≤ i ∧ i < 2 ^ 62 ∧ i.toNat = k ∧ ds[k]? = some z ∧ Q z (ω2.set c (.lst (ds.eraseIdx k))))
    (hbase : attributeBase o "pop" X.env (eval o X.env) = eval o X.env := by rfl)
    (hfew : ((backTo pos (starEach (e :: []) X.env)).all (fun x => !x.1) && (backToKw pos (keywordEach [] X.env)).all (fun x => x.1.isSome)
      && decide ((e :: []).length + ([] : List Keyword).length + (if ([] : List Keyword).isEmpty then 0 else 1) < 30)) = true := by rfl)
    (hline : (apos.endLine == pos.line) = true := by rfl) (hs : starEach (e :: []) X.env = (false, eval e X.env) :: starEach [] X.env := by rfl) (hplain : (backTo pos (starEach [] X.env)).any (·.1) = false := by rfl) : EV X (.Call (.Attribute o "pop" apos) [e] [] pos) ρ ω Q := fun σ H π R g kk => by
  refine ⟨_, pe_bm PySem.F.plainAttrs_list PySem.F.slot_list_pop PySem.F.type_list_pop mt_popAt pe_s (pa_cons pe_s pa_nil hs) hbase hfew hline hs hplain, ?_⟩
  refine h σ H π _ g fun v H1 π1 d ω1 ⟨c, ds0, ed, h0, h1⟩ s1 r1 z1 => ?_
  subst ed
  obtain ⟨a, vs0, rfl, ha, hv0, zs0⟩ := cell_at r1 z1 h0
  refine ⟨Or.inl ⟨rfl, vs0, .inl (.inl hv0)⟩, ?_⟩
  refine h1 σ H1 π1 _ (g.mono s1 r1) fun u H2 π2 x ω2 ⟨ds, i, k, z, h2, ex, hi0, hi1, ek, hz, q⟩ s2 r2 z2 => ?_
  subst ex ek
  obtain ⟨a', vs, ev, ha', hv, zs⟩ := cell_at r2 (Z.stp s2 _ _ z1) h2
  cases ev
  cases z2
  obtain ⟨w, hw, zw⟩ := ZL.get zs hz
  have hlt : i < (vs.length : Int) := by
    have := (List.getElem?_eq_some_iff.mp hw).1
    omega
  obtain ⟨st, r'⟩ := cell_put r2 ha' hv (ZL.eraseIdx i.toNat zs)
  exact ⟨a, vs, i, i.toNat, w, rfl, rfl, hv, by omega, by omega, PySem.StrLaws.seqIndex_nonneg hi0 hlt, hw, kk _ _ π2 _ _ q ((s1.trans s2).trans st) r' (Z.stp st _ _ zw)⟩

/-! ### a, b = x, y -/
theorem w1_par {P : Po} {i j : Nat} {x y : Str} {a b : Expr} {px py pt : Pos} {kt k2 : Nat} {pt2 : Pos} (hc : X.calm = true) (hN : X.N.Nodup) (hi : X.N[i]? = some x) (hj : X.N[j]? = some y) (hij : i ≠ j)
    (hx : X.env.scope.names.lookup x = some .local) (hy : X.env.scope.names.lookup y = some .local) (h : EA X [a, b] ρ ω fun ds ω1 => ∃ d e, ds = [d, e] ∧ P.nx (put (put ρ i d) j e) ω1)
    (hw : swappedStores [.Tuple [.Name x px, .Name y py] kt pt] (.Tuple [a, b] k2 pt2) X.env = pure (some [x, y]))
    (hs : swapsWithSole [.Tuple [.Name x px, .Name y py] kt pt] (.Tuple [a, b] k2 pt2) pos.line X.env = pure false := by rfl) :
    W1 X (.Assign [.Tuple [.Name x px, .Name y py] kt pt] (.Tuple [a, b] k2 pt2) pos) ρ ω P := fun σ H π E g k => by
  refine ⟨_, ps_par hc hN hi hj hij hx hy pa_s hw hs, ?_⟩
  refine h σ H π _ g fun vs H1 π1 ds ω1 ⟨d, e, ed, q⟩ s1 r1 zs => ?_
  subst ed
  obtain ⟨v, r, rfl, z1, u, r', rfl, z2, z3⟩ := zs
  cases z3
  exact ⟨v, u, rfl, k.nx _ H1 π1 _ ω1 q s1 (((g.mono s1 r1).put z1).put z2)⟩
end
end DL

set_option Elab.async false
set_option linter.all false
set_option maxRecDepth 100000
set_option autoImplicit false
set_option maxHeartbeats 1000000
/-! DL8: small facts and rules for typed items. -/
namespace DL
open PySem PySem.Spec PyProof.Rows L2

theorem bb_len : bootBuiltins "len" = some (.builtin "len") := by decide +kernel
theorem bb_abs : bootBuiltins "abs" = some (.builtin "abs") := by decide +kernel
theorem bb_max : bootBuiltins "max" = some (.builtin "max") := by decide +kernel
theorem bb_min : bootBuiltins "min" = some (.builtin "min") := by decide +kernel
theorem bb_all : bootBuiltins "all" = some (.builtin "all") := by decide +kernel
theorem bb_any : bootBuiltins "any" = some (.builtin "any") := by decide +kernel
theorem bb_sum : bootBuiltins "sum" = some (.builtin "sum") := by decide +kernel
theorem bb_isinstance : bootBuiltins "isinstance" = some (.builtin "isinstance") := by decide +kernel
theorem bb_int : bootBuiltins "int" = some (.type "int") := by decide +kernel
theorem bb_str : bootBuiltins "str" = some (.type "str") := by decide +kernel
theorem bb_bool : bootBuiltins "bool" = some (.type "bool") := by decide +kernel
theorem bb_list : bootBuiltins "list" = some (.type "list") := by decide +kernel
theorem bb_tuple : bootBuiltins "tuple" = some (.type "tuple") := by decide +kernel
theorem bb_dict : bootBuiltins "dict" = some (.type "dict") := by decide +kernel
theorem bb_set : bootBuiltins "set" = some (.type "set") := by decide +kernel
theorem kb_ss : kitB "str" "str" = some true := by decide +kernel
theorem kb_ii : kitB "int" "int" = some true := by decide +kernel
theorem kb_ib : kitB "int" "bool" = some false := by decide +kernel
theorem kb_tt : kitB "tuple" "tuple" = some true := by decide +kernel
theorem kb_ll : kitB "list" "list" = some true := by decide +kernel

section
variable {X : Cx} {ρ : Ro} {ω : Om} {pos : Pos}
/-- the name of a built-in type -/
theorem ev_blt {Q : D → Om → Prop} {x : Str} {n : String} (hm : X.mg x = none) (hv : bootBuiltins x = some (.type n)) (q : Q (.ty n) ω) (hg : Gl X x := by rfl) (hn : x ≠ "__name__" := by decide) (hd : (x == ("__debug__" : Str)) = false := by decide) : EV X (.Name x pos) ρ ω Q := fun σ H π R g k =>
  ⟨_, pe_bltn hg hm hv (v := .ty n) rfl hn hd, k _ H π _ ω q (Stp.refl _ _) g.hr rfl⟩
end

/-! ### bits from nought -/
theorem band_n (a b : Nat) : Builtin.bitAnd (a : Int) (b : Int) = ((a &&& b : Nat) : Int) := PySem.W.os_band a b
theorem bor_n (a b : Nat) : Builtin.bitOr (a : Int) (b : Int) = ((a ||| b : Nat) : Int) := by
  rw [Bits.bitOr_pp (Int.natCast_nonneg a) (Int.natCast_nonneg b), Int.toNat_natCast, Int.toNat_natCast]
theorem bxor_n (a b : Nat) : Builtin.bitXor (a : Int) (b : Int) = ((a ^^^ b : Nat) : Int) := by
  rw [bitXor_and, band_n]
  have := Bits.nat_xor_add_and a b
  omega
theorem shl_n (a k : Nat) : (a : Int) * 2 ^ ((k : Int)).toNat = ((a <<< k : Nat) : Int) := by
  rw [Int.toNat_natCast, Nat.shiftLeft_eq]
  push_cast
  rfl
theorem shr_n (a k : Nat) : (a : Int) / 2 ^ ((k : Int)).toNat = ((a >>> k : Nat) : Int) := by
  rw [Int.toNat_natCast, Nat.shiftRight_eq_div_pow]
  push_cast
  rfl
theorem bnot_bnot (x : Int) : Builtin.bitNot (Builtin.bitNot x) = x := by unfold Builtin.bitNot; omega

/-! ### operators between numbers from nought -/
section
variable {a b : Nat}
theorem BinV.addN : BinV .Add (.int (a : Int)) (.int (b : Int)) (.int ((a + b : Nat) : Int)) := by
  rw [Int.natCast_add]; exact .addI
theorem BinV.subN (h : b ≤ a := by first | decide | omega | assumption) : BinV .Sub (.int (a : Int)) (.int (b : Int)) (.int ((a - b : Nat) : Int)) := by
  rw [Int.natCast_sub h]; exact .subI
theorem BinV.mulN (h : a < 18446744073709551616 ∨ b < 18446744073709551616 := by first | exact .inl (by decide) | exact .inr (by decide) | omega | assumption) : BinV .Mult (.int (a : Int)) (.int (b : Int)) (.int ((a * b : Nat) : Int)) := by
  rw [Int.natCast_mul]
  refine .mulI ?_
  rcases h with h | h
  · exact .inl ⟨by omega, by omega⟩
  · exact .inr ⟨by omega, by omega⟩
theorem BinV.divN (h : 0 < b := by first | decide | omega | assumption) (h2 : b < 1073741824 := by first | decide | omega | assumption) : BinV .FloorDiv (.int (a : Int)) (.int (b : Int)) (.int ((a / b : Nat) : Int)) := by
  rw [Int.natCast_ediv]; exact .div ⟨by omega, by omega⟩
theorem BinV.modN (h : 0 < b := by first | decide | omega | assumption) : BinV .Mod (.int (a : Int)) (.int (b : Int)) (.int ((a % b : Nat) : Int)) := by
  rw [Int.natCast_emod]; exact .mod (by omega)
theorem BinV.shlN (h : a < 18446744073709551616 := by first | decide | omega | assumption | exact Nat.lt_of_le_of_lt (Bool.toNat_le _) (by decide)) (h2 : b ≤ 1000000 := by first | decide | omega | assumption | (have hxr := List.mem_range.mp ‹_ ∈ List.range _›; omega)) : BinV .LShift (.int (a : Int)) (.int (b : Int)) (.int ((a <<< b : Nat) : Int)) := by
  rw [← shl_n]; exact .shl ⟨by omega, by omega, by omega⟩
theorem BinV.shrN : BinV .RShift (.int (a : Int)) (.int (b : Int)) (.int ((a >>> b : Nat) : Int)) := by
  rw [← shr_n]; exact .shr (by omega)
theorem BinV.andN : BinV .BitAnd (.int (a : Int)) (.int (b : Int)) (.int ((a &&& b : Nat) : Int)) := by
  rw [← band_n]; exact .and
theorem BinV.orN : BinV .BitOr (.int (a : Int)) (.int (b : Int)) (.int ((a ||| b : Nat) : Int)) := by
  rw [← bor_n]; exact .or
theorem BinV.xorN : BinV .BitXor (.int (a : Int)) (.int (b : Int)) (.int ((a ^^^ b : Nat) : Int)) := by
  rw [← bxor_n]; exact .xor
theorem BinV.andNotN : BinV .BitAnd (.int (a : Int)) (.int (Builtin.bitNot (b : Int))) (.int ((a ^^^ (a &&& b) : Nat) : Int)) := by
  have e : Builtin.bitAnd (a : Int) (Builtin.bitNot (b : Int)) = ((a ^^^ (a &&& b) : Nat) : Int) := by
    rw [bitAnd_pn (Int.natCast_nonneg a) (by unfold Builtin.bitNot; omega), bnot_bnot, Int.toNat_natCast, Int.toNat_natCast]
    have := Bits.nat_xor_add_and a (a &&& b)
    have e2 : a &&& (a &&& b) = a &&& b := by rw [← Nat.and_assoc, Nat.and_self]
    rw [e2] at this
    omega
  rw [← e]; exact .and
theorem dec_cast {p q : Prop} [Decidable p] [Decidable q] (h : p ↔ q) : decide p = decide q := by
  by_cases hp : p
  · rw [decide_eq_true hp, decide_eq_true (h.mp hp)]
  · rw [decide_eq_false hp, decide_eq_false (fun hq => hp (h.mpr hq))]
theorem CmpV.eqN : CmpV .Eq (.int (a : Int)) (.int (b : Int)) (decide (a = b)) := by
  have e : decide ((a : Int) = b) = decide (a = b) := dec_cast (by omega)
  rw [← e]; exact .eqI
theorem CmpV.neN : CmpV .NotEq (.int (a : Int)) (.int (b : Int)) (!decide (a = b)) := by
  have e : decide ((a : Int) = b) = decide (a = b) := dec_cast (by omega)
  rw [← e]; exact .neI
theorem CmpV.ltN : CmpV .Lt (.int (a : Int)) (.int (b : Int)) (decide (a < b)) := by
  have e : decide ((a : Int) < b) = decide (a < b) := dec_cast (by omega)
  rw [← e]; exact .ltI
theorem CmpV.leN : CmpV .LtE (.int (a : Int)) (.int (b : Int)) (decide (a ≤ b)) := by
  have e : decide ((a : Int) ≤ b) = decide (a ≤ b) := dec_cast (by omega)
  rw [← e]; exact .leI
theorem CmpV.gtN : CmpV .Gt (.int (a : Int)) (.int (b : Int)) (decide (b < a)) := by
  have e : decide ((b : Int) < a) = decide (b < a) := dec_cast (by omega)
  rw [← e]; exact .gtI
theorem CmpV.geN : CmpV .GtE (.int (a : Int)) (.int (b : Int)) (decide (b ≤ a)) := by
  have e : decide ((b : Int) ≤ a) = decide (b ≤ a) := dec_cast (by omega)
  rw [← e]; exact .geI
end
section
variable {X : Cx} {ρ : Ro} {ω : Om} {Q : D → Om → Prop} {pos : Pos}
/-- a constant from nought -/
theorem ev_n {i : Int} {j : Nat} (n : Nat) (e : i = (n : Int)) (q : Q (.int (n : Int)) ω) : EV X (.Constant (.int i) j pos) ρ ω Q := by
  subst e; exact ev_int q
end
theorem b2n (b : Bool) : (if b = true then (1 : Int) else 0) = ((b.toNat : Nat) : Int) := by cases b <;> rfl
theorem ClV.intBN {X : Cx} {b : Bool} : ClV X (.type "int") [.bl b] (.int ((b.toNat : Nat) : Int)) := by
  rw [← b2n]; exact .intB

/-! ### typed items -/
/-- a string of signs -/
def mkS (l : List Nat) : Str := ⟨l.toArray⟩
theorem mkS_len (l : List Nat) : (mkS l).length = l.length := by simp [mkS, Str.length]
theorem mkS_list (l : List Nat) : (mkS l).cps.toList = l := by simp [mkS]
theorem mkS_eta (s : Str) : mkS s.cps.toList = s := by cases s; simp [mkS]
theorem mkS_add (a b : List Nat) : mkS a ++ mkS b = mkS (a ++ b) := by
  show (⟨_⟩ : Str) = ⟨_⟩
  simp [mkS]
theorem mkS_inj {a b : List Nat} (h : mkS a = mkS b) : a = b := by
  have := congrArg (fun s : Str => s.cps.toList) h
  simpa [mkS] using this
def chD (c : Nat) : D := .str ⟨#[c]⟩
theorem src_str (l : List Nat) : srcD (.str (mkS l)) = some (l.map chD) := by
  show some _ = some _
  rw [mkS_list]
  rfl
theorem enumD_map {α : Type} (enc : α → D) (xs : List α) : enumD (xs.map enc) = xs.zipIdx.map fun p => .tup [.int (p.2 : Nat), enc p.1] := by
  apply List.ext_getElem?
  intro i
  unfold enumD
  rw [List.getElem?_map, List.getElem?_map, List.getElem?_zipIdx]
  by_cases h : i < xs.length
  · rw [List.getElem?_range (by simpa using h), List.getElem?_eq_getElem h]
    simp [h]
  · rw [List.getElem?_eq_none (by simpa using h), List.getElem?_eq_none (by simpa using h)]
    rfl
theorem zipD_map {α β : Type} (e1 : α → D) (e2 : β → D) : ∀ (xs : List α) (ys : List β), zipD (xs.map e1) (ys.map e2) = (xs.zip ys).map fun p => .tup [e1 p.1, e2 p.2]
  | [], _ => by simp [zipD]
  | _ :: _, [] => by simp [zipD]
  | x :: xs, y :: ys => by
    have := zipD_map e1 e2 xs ys
    simp only [zipD] at this ⊢
    simp [this]
theorem rgD_nat (a n : Nat) : rgD (a : Int) ((a + n : Nat) : Int) = (List.range n).map fun i => .int ((a + i : Nat) : Int) := by
  unfold rgD
  have e : (((a + n : Nat) : Int) - (a : Int)).toNat = n := by omega
  rw [e]
  apply List.map_congr_left
  intro i _
  simp
theorem rgD_0 (n : Nat) : rgD 0 (n : Int) = (List.range n).map fun (i : Nat) => .int (i : Int) := by
  have := rgD_nat 0 n
  simpa using this

theorem take_map_succ {α β : Type} (f : α → β) {xs : List α} {i : Nat} {x : α} (h : xs[i]? = some x) : (xs.take (i + 1)).map f = (xs.take i).map f ++ [f x] := by
  rw [List.take_succ, h]
  simp
theorem get_map {α β : Type} {f : α → β} {xs : List α} {i : Nat} {d : β} (h : (xs.map f)[i]? = some d) : ∃ x, xs[i]? = some x ∧ d = f x := by
  rw [List.getElem?_map] at h
  cases e : xs[i]? with
  | none => rw [e] at h; cases h
  | some x => rw [e] at h; exact ⟨x, rfl, by cases h; rfl⟩

section
variable {X : Cx} {ρ : Ro} {ω : Om} {pos : Pos}
/-- [f x for x in xs], nothing written -/
theorem lc_map {α : Type} {Q : List D → Om → Prop} {p : Pat} {elt tg iter : Expr} {scope : Scope} {vs : List Nat}
    (h : IT X tg iter ρ ω fun items G ω1 => ∃ (xs : List α) (enc : α → D) (f : α → D), items = xs.map enc ∧ G ω1 ∧ xs.length ≤ sizeLine ∧
      (∀ x ∈ xs, ∃ ρ3, asg p (enc x) (wipeD ρ vs) = some ρ3 ∧ AB X scope fun Y => EV Y elt ρ3 ω1 fun y ω4 => y = f x ∧ ω4 = ω1) ∧ Q (xs.map f) ω1) : LC X elt tg iter [] scope vs p ρ ω Q := by
  intro σ H π R g k
  refine h σ H π R g fun J H' π' items G ω' ⟨xs, enc, f, e, hG, hl, turn, hQ⟩ s r wk => k J H' π' items G ω' ?_ s r wk
  subst e
  refine ⟨fun i acc ω2 => ω2 = ω' ∧ acc = (xs.take i).map f, ⟨rfl, rfl⟩, ?_, ?_, ?_⟩
  · rintro i acc ω2 hi ⟨rfl, rfl⟩; exact hG
  · rintro i d acc ω2 hd ⟨rfl, rfl⟩
    obtain ⟨x, hx, rfl⟩ := get_map hd
    obtain ⟨ρ3, ha, he⟩ := turn x (List.mem_of_getElem? hx)
    have hi : i < xs.length := (List.getElem?_eq_some_iff.mp hx).1
    refine ⟨ρ3, ha, fun s H C cl fp => ⟨fun _ s' H' C' cl' fp' => (he s' H' C' cl' fp').imp ?_, fun h => by cases h⟩⟩
    rintro y ω4 ⟨rfl, rfl⟩
    refine ⟨?_, rfl, (take_map_succ f hx).symm⟩
    rw [List.length_map, List.length_take]
    omega
  · rintro acc ω2 ⟨rfl, rfl⟩
    rw [List.length_map, List.take_length]
    exact hQ
/-- [e for x in xs if t], nothing written -/
theorem lc_filter {α : Type} {Q : List D → Om → Prop} {p : Pat} {elt tg iter c : Expr} {scope : Scope} {vs : List Nat}
    (h : IT X tg iter ρ ω fun items G ω1 => ∃ (xs : List α) (enc : α → D) (t : α → Bool) (f : α → D), items = xs.map enc ∧ G ω1 ∧ xs.length ≤ sizeLine ∧
      (∀ x ∈ xs, ∃ ρ3, asg p (enc x) (wipeD ρ vs) = some ρ3 ∧ (AB X scope fun Y => ET Y c ρ3 ω1 fun b ω4 => b = t x ∧ ω4 = ω1) ∧ (t x = true → AB X scope fun Y => EV Y elt ρ3 ω1 fun y ω4 => y = f x ∧ ω4 = ω1)) ∧ Q ((xs.filter t).map f) ω1) : LC X elt tg iter [c] scope vs p ρ ω Q := by
  intro σ H π R g k
  refine h σ H π R g fun J H' π' items G ω' ⟨xs, enc, t, f, e, hG, hl, turn, hQ⟩ s r wk => k J H' π' items G ω' ?_ s r wk
  subst e
  refine ⟨fun i acc ω2 => ω2 = ω' ∧ acc = ((xs.take i).filter t).map f, ⟨rfl, rfl⟩, ?_, ?_, ?_⟩
  · rintro i acc ω2 hi ⟨rfl, rfl⟩; exact hG
  · rintro i d acc ω2 hd ⟨rfl, rfl⟩
    obtain ⟨x, hx, rfl⟩ := get_map hd
    obtain ⟨ρ3, ha, ht, he⟩ := turn x (List.mem_of_getElem? hx)
    have hi : i < xs.length := (List.getElem?_eq_some_iff.mp hx).1
    have e1 : (xs.take (i + 1)).filter t = (xs.take i).filter t ++ (if t x then [x] else []) := by
      rw [List.take_succ, hx, List.filter_append]
      cases h : t x <;> simp [h]
    refine ⟨ρ3, ha, fun s H C cl fp => ?_⟩
    show ET _ c ρ3 ω2 _
    intro σ2 H2 π2 R2 g2 k2
    refine ht s H C cl fp σ2 H2 π2 R2 g2 fun b H' π' ω' ⟨hb, hw⟩ s1 r1 => k2 b H' π' ω' ⟨fun hb2 s' H' C' cl' fp' => ?_, fun hb2 => ?_⟩ s1 r1
    · subst hw hb
      refine (he hb2 s' H' C' cl' fp').imp ?_
      rintro y ω4 ⟨rfl, rfl⟩
      refine ⟨?_, rfl, ?_⟩
      · have := List.length_filter_le t (xs.take i)
        rw [List.length_map]
        rw [List.length_take] at this
        omega
      · rw [e1, hb2]; simp
    · subst hw hb
      refine ⟨rfl, ?_⟩
      rw [e1, hb2]; simp
  · rintro acc ω2 ⟨rfl, rfl⟩
    rw [List.length_map, List.take_length]
    exact hQ
/-- [e for x in xs], with something written on the way -/
theorem lc_run {α β : Type} {Q : List D → Om → Prop} {p : Pat} {elt tg iter : Expr} {scope : Scope} {vs : List Nat}
    (h : IT X tg iter ρ ω fun items G ω1 => ∃ (xs : List α) (enc : α → D) (J : Nat → Om → Prop) (P : β → Prop) (eb : β → D), items = xs.map enc ∧ (∀ i ω2, J i ω2 → G ω2) ∧ xs.length ≤ sizeLine ∧ J 0 ω1 ∧
      (∀ i x ω2, xs[i]? = some x → J i ω2 → ∃ ρ3, asg p (enc x) (wipeD ρ vs) = some ρ3 ∧ AB X scope fun Y => EV Y elt ρ3 ω2 fun y ω4 => ∃ b, y = eb b ∧ P b ∧ J (i + 1) ω4) ∧
      ∀ (bs : List β) ω2, bs.length = xs.length → (∀ b ∈ bs, P b) → J xs.length ω2 → Q (bs.map eb) ω2) : LC X elt tg iter [] scope vs p ρ ω Q := by
  intro σ H π R g k
  refine h σ H π R g fun J H' π' items G ω' ⟨xs, enc, J', P, eb, e, hG, hl, j0, turn, hQ⟩ s r wk => k J H' π' items G ω' ?_ s r wk
  subst e
  refine ⟨fun i acc ω2 => J' i ω2 ∧ ∃ bs : List β, bs.length = i ∧ (∀ b ∈ bs, P b) ∧ acc = bs.map eb, ⟨j0, [], rfl, by simp, rfl⟩, ?_, ?_, ?_⟩
  · rintro i acc ω2 hi ⟨hj, _⟩; exact hG i ω2 hj
  · rintro i d acc ω2 hd ⟨hj, bs, hb, hp, rfl⟩
    obtain ⟨x, hx, rfl⟩ := get_map hd
    have hi : i < xs.length := (List.getElem?_eq_some_iff.mp hx).1
    obtain ⟨ρ3, ha, he⟩ := turn i x ω2 hx hj
    refine ⟨ρ3, ha, fun s H C cl fp => ⟨fun _ s' H' C' cl' fp' => EV.imp (he s' H' C' cl' fp') ?_, fun h => by cases h⟩⟩
    rintro y ω4 ⟨b, rfl, pb, hj4⟩
    refine ⟨by rw [List.length_map]; omega, hj4, bs ++ [b], by simp [hb], ?_, by simp⟩
    intro b' hb'
    rcases List.mem_append.mp hb' with h | h
    · exact hp b' h
    · cases List.mem_singleton.mp h; exact pb
  · rintro acc ω2 ⟨hj, bs, hb, hp, rfl⟩
    rw [List.length_map] at hj hb
    exact hQ bs ω2 hb hp hj
/-- for x in xs, a state of Lean's own along -/
theorem w1_fold {α τ : Type} {P : Po} {p : Pat} {tg iter : Expr} {body : List Stmt} (hp : PassesOwn (model X.prog X.w) X.A X.env X.xe) (hc : X.calm = true) (hpat : PG X tg (gPat X.K p))
    (h : IT X tg iter ρ ω fun items G ω1 => ∃ (xs : List α) (enc : α → D) (R : τ → Ro → Om → Prop) (st : τ) (f : τ → α → τ), items = xs.map enc ∧ (∀ t ρ2 ω2, R t ρ2 ω2 → G ω2) ∧ R st ρ ω1 ∧
      (∀ i x ρ2 ω2, xs[i]? = some x → R ((xs.take i).foldl f st) ρ2 ω2 → ∃ ρ3, asg p (enc x) ρ2 = some ρ3 ∧ WS X body ρ3 ω2 { P with nx := R (f ((xs.take i).foldl f st) x), ct := R (f ((xs.take i).foldl f st) x), bk := P.nx }) ∧ ∀ ρ2 ω2, R (xs.foldl f st) ρ2 ω2 → P.nx ρ2 ω2)
    (hs : ∀ x, foldedSetIterable iter X.env x = pure x := by intro _; rfl) : W1 X (.For tg iter body [] pos) ρ ω P := by
  refine w1_for hp hc hpat (fun σ H π R g k => ?_) hs
  refine h σ H π R g fun J H' π' items G ω' ⟨xs, enc, R', st, f, e, hG, r0, turn, fin⟩ s r wk => k J H' π' items G ω' ?_ s r wk
  subst e
  refine ⟨fun i => R' ((xs.take i).foldl f st), r0, fun i ρ2 ω2 _ q => hG _ ρ2 ω2 q, fun i d ρ2 ω2 hd q => ?_, fun ρ2 ω2 q => ?_⟩
  · obtain ⟨x, hx, rfl⟩ := get_map hd
    obtain ⟨ρ3, ha, hw⟩ := turn i x ρ2 ω2 hx q
    have e : (xs.take (i + 1)).foldl f st = f ((xs.take i).foldl f st) x := by
      rw [List.take_succ, hx, List.foldl_append]
      rfl
    refine ⟨ρ3, ha, ?_⟩
    show WS X body ρ3 ω2 { nx := R' ((xs.take (i + 1)).foldl f st), rt := P.rt, bk := P.nx, ct := R' ((xs.take (i + 1)).foldl f st) }
    rw [e]
    exact hw
  · have q' : R' ((xs.take (xs.map enc).length).foldl f st) ρ2 ω2 := q
    rw [List.length_map, List.take_length] at q'
    exact fin ρ2 ω2 q'
/-- for x in xs: something holds from turn to turn -/
theorem w1_run {α : Type} {P : Po} {p : Pat} {tg iter : Expr} {body : List Stmt} (hp : PassesOwn (model X.prog X.w) X.A X.env X.xe) (hc : X.calm = true) (hpat : PG X tg (gPat X.K p))
    (h : IT X tg iter ρ ω fun items G ω1 => ∃ (xs : List α) (enc : α → D) (I : Nat → Ro → Om → Prop), items = xs.map enc ∧ (∀ i ρ2 ω2, I i ρ2 ω2 → G ω2) ∧ I 0 ρ ω1 ∧
      (∀ i x ρ2 ω2, xs[i]? = some x → I i ρ2 ω2 → ∃ ρ3, asg p (enc x) ρ2 = some ρ3 ∧ WS X body ρ3 ω2 { P with nx := I (i + 1), ct := I (i + 1), bk := P.nx }) ∧ ∀ ρ2 ω2, I xs.length ρ2 ω2 → P.nx ρ2 ω2)
    (hs : ∀ x, foldedSetIterable iter X.env x = pure x := by intro _; rfl) : W1 X (.For tg iter body [] pos) ρ ω P := by
  refine w1_for hp hc hpat (fun σ H π R g k => ?_) hs
  refine h σ H π R g fun J H' π' items G ω' ⟨xs, enc, I, e, hG, r0, turn, fin⟩ s r wk => k J H' π' items G ω' ?_ s r wk
  subst e
  refine ⟨I, r0, fun i ρ2 ω2 _ q => hG _ ρ2 ω2 q, fun i d ρ2 ω2 hd q => ?_, fun ρ2 ω2 q => ?_⟩
  · obtain ⟨x, hx, rfl⟩ := get_map hd
    exact turn i x ρ2 ω2 hx q
  · rw [List.length_map] at q
    exact fin ρ2 ω2 q
end

/-! ### the facts of a module's names, ready for rules -/
theorem ixN_nat {n i : Nat} (h : i < n) : ixN n (i : Int) = some i := by
  unfold ixN
  split
  · rename_i h2
    rw [if_pos (by omega)]
    simp
  · rename_i h2
    exfalso
    omega
end DL
namespace DL
open PySem PySem.Spec PyProof.Rows L2
theorem ev_ifeN {X : Cx} {ρ : Ro} {ω : Om} {Q : D → Om → Prop} {pos : Pos} {c a b : Expr} (h : ET X c ρ ω fun t ω1 => ∃ i j : Nat, (∀ Q', Q' (.int (i : Int)) ω1 → EV X a ρ ω1 Q') ∧ (∀ Q', Q' (.int (j : Int)) ω1 → EV X b ρ ω1 Q') ∧ Q (.int ((if t = true then i else j : Nat) : Int)) ω1) : EV X (.IfExp c a b pos) ρ ω Q :=
  ev_ife fun σ H π R g k => h σ H π R g fun t H1 π1 ω1 ⟨i, j, h1, h2, q⟩ s r => k t H1 π1 ω1 ⟨fun e => h1 _ (by subst e; exact q), fun e => h2 _ (by subst e; exact q)⟩ s r
theorem atI_nat {α : Type} {xs : List α} {i : Nat} {x : α} (h : xs[i]? = some x) : atI xs (i : Int) = some x := by
  unfold atI
  rw [ixN_nat (List.getElem?_eq_some_iff.mp h).1]
  exact h
section
variable {X : Cx} {ρ : Ro} {ω : Om} {Q : D → Om → Prop} {P : Po} {pos : Pos}
theorem ev_v {i : Nat} {x : Str} {d : D} (hN : X.N[i]? = some x) (h : look ρ i = some d) (q : Q d ω) (hv : Vis X.env.scope x := by first | exact .inl rfl | exact .inr (.inl rfl) | exact .inr (.inr rfl))
    (hd : (x == ("__debug__" : Str)) = false := by decide) (hcd : (x == ("__classdict__" : Str)) = false := by decide) : EV X (.Name x pos) ρ ω Q := ev_nm hN hv h q hd hcd
theorem gp_v {i : Nat} {x : Str} {p : Pos} (hN : X.N.Nodup) (hi : X.N[i]? = some x) (hx : Loc X.env.scope x := by first | exact .inl rfl | exact .inr rfl | exact .inr (.inl rfl)) (hf : X.fn x = true ∨ X.env.scope.names.lookup x = some .local := by first | exact .inl rfl | exact .inr rfl | assumption) : PG X (.Name x p) (gPat X.K (.nm i)) := gp_nm hN hi hx hf
theorem w1_let {i : Nat} {x : Str} {e : Expr} {pos' : Pos} (hN : X.N.Nodup) (hi : X.N[i]? = some x) (h : EV X e ρ ω fun d ω1 => P.nx (put ρ i d) ω1) (hx : Loc X.env.scope x := by first | exact .inl rfl | exact .inr rfl | exact .inr (.inl rfl))
    (hs : swapsWith e (some (.Name x pos')) pos.line X.env = pure false := by rfl) (hf : X.fn x = true ∨ X.env.scope.names.lookup x = some .local := by first | exact .inl rfl | exact .inr rfl | assumption) : W1 X (.Assign [.Name x pos'] e pos) ρ ω P := w1_set hN hi hx h hs hf
end
theorem ClV.allM {X : Cx} {α : Type} {xs : List α} {t : α → Bool} (hc : X.calm = true) : ClV X (.builtin "all") [.lst (xs.map fun x => .bl (t x))] (.bl (xs.all t)) := by
  have h := ClV.allB (X := X) (bs := xs.map t) hc
  rw [List.map_map, List.all_map] at h
  exact h
theorem ClV.anyM {X : Cx} {α : Type} {xs : List α} {t : α → Bool} (hc : X.calm = true) : ClV X (.builtin "any") [.lst (xs.map fun x => .bl (t x))] (.bl (xs.any t)) := by
  have h := ClV.anyB (X := X) (bs := xs.map t) hc
  rw [List.map_map, List.any_map] at h
  exact h
end DL

set_option Elab.async false
set_option linter.all false
set_option maxRecDepth 100000
set_option autoImplicit false
set_option maxHeartbeats 1000000
/-! DL9: cells that nobody knows any more are dropped at a def's end. -/
namespace DL
open PySem PySem.Spec PyProof.Rows L2

mutual
/-- all cells told are below n -/
def clB (n : Nat) : D → Bool
  | .tup ds => clBs n ds
  | .lst ds => clBs n ds
  | .cell k => decide (k < n)
  | .non => true
  | .bl _ => true
  | .int _ => true
  | .str _ => true
  | .ty _ => true
  | .ref _ => true
  | .scr _ => true
def clBs (n : Nat) : List D → Bool
  | [] => true
  | d :: ds => clB n d && clBs n ds
end
def clC (n : Nat) : C → Bool
  | .lst ds => clBs n ds
  | .dct kvs => clBs n (kvs.map (·.2))
  | .ins _ fs => clBs n (fs.map (·.2))
  | .dead => true
theorem clBs_map {α : Type} {n : Nat} {f : α → D} {xs : List α} (h : ∀ x, clB n (f x) = true) : clBs n (xs.map f) = true := by
  induction xs with
  | nil => rfl
  | cons x xs ih => show (clB n (f x) && clBs n (xs.map f)) = true; rw [h, ih]; rfl
section
variable {K : PySem.W.Frag} {H : Hp} {π : List Addr}
mutual
theorem Z.cl : ∀ (d : D) (v : V), Z K H π d v → clB π.length d = true
  | .non, _, _ => rfl
  | .bl _, _, _ => rfl
  | .int _, _, _ => rfl
  | .str _, _, _ => rfl
  | .ty _, _, _ => rfl
  | .ref _, _, _ => rfl
  | .scr _, _, _ => rfl
  | .cell k, _, ⟨a, _, e⟩ => decide_eq_true (List.getElem?_eq_some_iff.mp e).1
  | .tup ds, _, ⟨a, vs, _, _, z⟩ => ZL.cl ds vs z
  | .lst ds, _, ⟨a, vs, _, _, z⟩ => ZL.cl ds vs z
theorem ZL.cl : ∀ (ds : List D) (vs : List V), ZL K H π ds vs → clBs π.length ds = true
  | [], _, _ => rfl
  | d :: ds, _, ⟨v, r, _, z, zs⟩ => by show (clB _ d && clBs _ ds) = true; rw [Z.cl d v z, ZL.cl ds r zs]; rfl
end
variable {π1 : List Addr} {n : Nat}
mutual
theorem Z.down (hp : ∀ k, k < n → π1[k]? = π[k]?) : ∀ (d : D) (v : V), clB n d = true → Z K H π d v → Z K H π1 d v
  | .non, _, _, h => h
  | .bl _, _, _, h => h
  | .int _, _, _, h => h
  | .str _, _, _, h => h
  | .ty _, _, _, h => h
  | .ref _, _, _, h => h
  | .scr _, _, _, h => h
  | .cell k, _, hc, ⟨a, e, q⟩ => ⟨a, e, by rw [hp k (of_decide_eq_true hc)]; exact q⟩
  | .tup ds, _, hc, ⟨a, vs, e, q, z⟩ => ⟨a, vs, e, q, ZL.down hp ds vs hc z⟩
  | .lst ds, _, hc, ⟨a, vs, e, q, z⟩ => ⟨a, vs, e, q, ZL.down hp ds vs hc z⟩
theorem ZL.down (hp : ∀ k, k < n → π1[k]? = π[k]?) : ∀ (ds : List D) (vs : List V), clBs n ds = true → ZL K H π ds vs → ZL K H π1 ds vs
  | [], _, _, h => h
  | d :: ds, _, hc, ⟨v, r, e, z, zs⟩ => by
    have hc' : (clB n d && clBs n ds) = true := hc
    rw [Bool.and_eq_true] at hc'
    exact ⟨v, r, e, Z.down hp d v hc'.1 z, ZL.down hp ds r hc'.2 zs⟩
end
theorem CR.down (hp : ∀ k, k < n → π1[k]? = π[k]?) {a : Addr} {c : C} (hc : clC n c = true) (h : CR K H π a c) : CR K H π1 a c := by
  cases c with
  | lst ds => obtain ⟨vs, h1, h2⟩ := h; exact ⟨vs, h1, ZL.down hp _ _ hc h2⟩
  | dct kvs => obtain ⟨kv', h1, h2, h3⟩ := h; exact ⟨kv', h1, h2, ZL.down hp _ _ hc h3⟩
  | ins C fs => obtain ⟨dx, fs', h1, h2, h3⟩ := h; exact ⟨dx, fs', h1, h2, ZL.down hp _ _ hc h3⟩
  | dead => trivial
theorem CR.cl {a : Addr} {c : C} (h : CR K H π a c) : clC π.length c = true := by
  cases c with
  | lst ds => obtain ⟨vs, h1, h2⟩ := h; exact ZL.cl _ _ h2
  | dct kvs => obtain ⟨kv', h1, h2, h3⟩ := h; exact ZL.cl _ _ h3
  | ins C fs => obtain ⟨dx, fs', h1, h2, h3⟩ := h; exact ZL.cl _ _ h3
  | dead => rfl
end
mutual
theorem clB_le {m n : Nat} (h : m ≤ n) : ∀ d : D, clB m d = true → clB n d = true
  | .non, _ => rfl
  | .bl _, _ => rfl
  | .int _, _ => rfl
  | .str _, _ => rfl
  | .ty _, _ => rfl
  | .ref _, _ => rfl
  | .scr _, _ => rfl
  | .cell k, e => decide_eq_true (Nat.lt_of_lt_of_le (of_decide_eq_true e) h)
  | .tup ds, e => clBs_le h ds e
  | .lst ds, e => clBs_le h ds e
theorem clBs_le {m n : Nat} (h : m ≤ n) : ∀ ds : List D, clBs m ds = true → clBs n ds = true
  | [], _ => rfl
  | d :: ds, e => by
    have e' : (clB m d && clBs m ds) = true := e
    rw [Bool.and_eq_true] at e'
    show (clB n d && clBs n ds) = true
    rw [clB_le h d e'.1, clBs_le h ds e'.2]; rfl
end
theorem clC_le {m n : Nat} (h : m ≤ n) {c : C} (e : clC m c = true) : clC n c = true := by
  cases c with
  | lst ds => exact clBs_le h _ e
  | dct kvs => exact clBs_le h _ e
  | ins C fs => exact clBs_le h _ e
  | dead => rfl
/-- what holds at a def's end where new cells may be left -/
def Dr (ω : Om) (Q : D → Om → Prop) (d : D) (ω' : Om) : Prop :=
  ∃ ω1 g, ω' = ω1 ++ g ∧ ω.length ≤ ω1.length ∧ clB ω1.length d = true ∧ (∀ (k : Nat) c, ω1[k]? = some c → ω[k]? = some c ∨ clC ω1.length c = true) ∧ Q d ω1
theorem Kt.drop {K : PySem.W.Frag} {H : Hp} {π : List Addr} {ω : Om} {Q : D → Om → Prop} {R : VK} (r : HR K H π ω) (k : Kt K H π Q R) : Kt K H π (Dr ω Q) R := by
  intro v H' π' d ω' ⟨ω1, g, e, hl, hc, hcs, q⟩ s hr z
  have hlen : π'.length = ω1.length + g.length := by rw [hr.len, e, List.length_append]
  have hp : ∀ k, k < ω1.length → (π'.take ω1.length)[k]? = π'[k]? := fun k hk => by rw [List.getElem?_take]; simp [hk]
  have s1 : Stp H π H' (π'.take ω1.length) := ⟨s.tup, s.frz, fun k a h => by
    have h1 := (List.getElem?_eq_some_iff.mp h).1
    rw [r.len] at h1
    rw [hp k (by omega)]
    exact s.pre k a h, s.frm, fun b hb hn => s.new b (List.mem_of_mem_take hb) hn⟩
  refine k v H' _ d ω1 q s1 ⟨by rw [List.length_take]; omega, hr.nd.sublist (List.take_sublist _ _), fun a ha => hr.som a (List.mem_of_mem_take ha), fun k c h => ?_⟩ (Z.down hp d v hc z)
  have hk := (List.getElem?_eq_some_iff.mp h).1
  obtain ⟨a, h1, h2⟩ := hr.cr k c (by rw [e, List.getElem?_append_left hk]; exact h)
  refine ⟨a, by rw [hp k hk]; exact h1, CR.down hp ?_ h2⟩
  rcases hcs k c h with h3 | h3
  · obtain ⟨a0, _, h4⟩ := r.cr k c h3
    exact clC_le (by rw [r.len]; exact hl) h4.cl
  · exact h3
theorem Dr.same {ω : Om} {Q : D → Om → Prop} {d : D} {g : Om} (hd : clB ω.length d = true) (q : Q d ω) : Dr ω Q d (ω ++ g) := ⟨ω, g, rfl, Nat.le_refl _, hd, fun _ _ h => .inl h, q⟩
theorem fn_mkD {P : Program} {w : World} {K : PySem.W.Frag} {mg : Str → Option Value} {base : Heap} {x qual : Str} {st : Stmt} {f : Addr} {fd : FuncData} {N ps : List Str} {k n : Nat} {S : Spc} (F : Fun K x qual st f fd) (hm : mg x = some (.ref f)) (b : Binds K fd ps [])
    (Sc : FnScope N ps (defScope st)) (hn : ps.length = n)
    (body : ∀ (cdv : Value) (A : Around) (outer : List Env) (s : Shared) (H : Hp) (E : XK), Room k (BX P w K mg base N qual st f cdv A outer s H E).A → ∀ ds ω Qd, ds.length = n → S ds ω Qd →
      WS (BX P w K mg base N qual st f cdv A outer s H E) (defBody st) (startD N.length ds) ω ⟨fun _ ω' => Dr ω Qd .non ω', Dr ω Qd, fun _ _ => False, fun _ _ => False⟩) : Fn P w K mg base (k + 1) x n S := by
  refine ⟨f, fd, ps, F.ok Sc (fun vs H Q E h => by rw [hn]; exact h.1) (fun cdv A outer s H vs Q E hr h => ?_), hn, hm, F.kp, b⟩
  obtain ⟨hl, π, ω, ds, Qd, r, zs, hS, kk⟩ := h
  have kd := Kt.drop r kk
  have := body cdv A outer s H E hr ds ω Qd (by rw [← ZL.length zs]; exact hl) hS (L2.start N vs) H π { nx := fun _ H' => Q .non H', rt := Q } (startD_gd r zs)
    ⟨fun σ' H' π' ρ' ω' q s' g' => kd .non H' π' .non ω' q s' g'.hr rfl, kd, fun _ _ _ _ _ q => q.elim, fun _ _ _ _ _ q => q.elim⟩
  exact ⟨_, pss_s, this⟩
/-! ### cells at the end -/
theorem get_new {ω : Om} {c : C} : (ω ++ [c])[ω.length]? = some c := by simp
theorem set_new {ω : Om} {c c' : C} : (ω ++ [c]).set ω.length c' = ω ++ [c'] := by simp
theorem ClV.tupK {X : Cx} {k : Nat} {ω : Om} {ds : List D} (h : ω[k]? = some (.lst ds)) : ClV X (.type "tuple") (rds [.cell k] ω) (.tup ds) := by
  show ClV X _ [rd (.cell k) ω] _
  rw [rd_cell h]
  exact .tupL
theorem ClV.lenK {X : Cx} {k : Nat} {ω : Om} {ds : List D} (h : ω[k]? = some (.lst ds)) : ClV X (.builtin "len") (rds [.cell k] ω) (.int ds.length) := by
  show ClV X _ [rd (.cell k) ω] _
  rw [rd_cell h]
  exact .lenL
end DL
namespace DL
open PySem PySem.Spec PyProof.Rows L2
theorem fn_ok' {P : Program} {w : World} {K : PySem.W.Frag} {mg : Str → Option Value} {base : Heap} {x qual : Str} {st : Stmt} {f : Addr} {fd : FuncData} {N ps : List Str} {k n : Nat} {S : Spc} (F : Fun K x qual st f fd)
    (Sc : FnScope N ps (defScope st)) (hn : ps.length = n)
    (body : ∀ (cdv : Value) (A : Around) (outer : List Env) (s : Shared) (H : Hp) (E : XK), Room k (BX P w K mg base N qual st f cdv A outer s H E).A → ∀ ds ω Qd, ds.length = n → S ds ω Qd →
      WS (BX P w K mg base N qual st f cdv A outer s H E) (defBody st) (startD N.length ds) ω ⟨fun _ ω' => Qd .non ω', Qd, fun _ _ => False, fun _ _ => False⟩) : FnOk P w K mg base CX0 (k + 1) f fd ps (spD K n S) :=
  F.ok Sc (fun vs H Q E h => by rw [hn]; exact h.1) fun cdv A outer s H vs Q E hr h => by
    obtain ⟨hl, π, ω, ds, Qd, r, zs, hS, kk⟩ := h
    have := body cdv A outer s H E hr ds ω Qd (by rw [← ZL.length zs]; exact hl) hS (L2.start N vs) H π { nx := fun _ H' => Q .non H', rt := Q } (startD_gd r zs)
      ⟨fun σ' H' π' ρ' ω' q s' g' => kk .non H' π' .non ω' q s' g'.hr rfl, kk, fun _ _ _ _ _ q => q.elim, fun _ _ _ _ _ q => q.elim⟩
    exact ⟨_, pss_s, this⟩
/-- the promise of a law's def -/
def LawS : Spc := fun ds ω Q => ∃ ns : List Int, ds = [.scr ns] ∧ ns.length ≤ 63 ∧ ∀ ω', Q (.bl true) ω'
theorem law_hsp {K : PySem.W.Frag} {H : Hp} {a : Addr} {ns : List Int} (hl : ns.length ≤ 63) (hO : Only H) (hS : SqL K H a (ns.map V.int)) (E : XK) : spD K 1 LawS [.ref a] H (fun v _ => v = .bl true) E := by
  refine ⟨rfl, [], [], [.scr ns], fun d _ => d = .bl true, ⟨rfl, List.nodup_nil, fun a h => (by cases h), fun k c h => (by simp at h)⟩, ⟨_, _, rfl, ⟨a, rfl, ?_⟩, rfl⟩, ⟨ns, rfl, hl, fun _ => rfl⟩, ?_⟩
  · rcases hS with (h | h) | h
    · rcases hO a with e | ⟨o, xs, e⟩
      · rw [e] at h; cases h
      · rw [e] at h; cases h
    · exact .inl h
    · exact .inr h
  · rintro v H' π' d ω' rfl _ _ z
    exact z
theorem gv_tup {K : PySem.W.Frag} {mg : Str → Option Value} {x : Str} {a : Addr} {od : Option Addr} {its : Array Value} {n : Nat} {sl : Array (Option Value)} {ds : List D} {vs : List V} (h : mg x = some (.ref a)) (l : K.lookup a = some ⟨.type "tuple", od, .seq its n, sl⟩) (hs : its.size ≤ sizeLine) (hv : Vals vs its.toList) (hz : ∀ H π, ZL K H π ds vs) : GV K mg x (.tup ds) :=
  ⟨_, .ref a, h, rfl, fun H π => ⟨a, vs, rfl, .inr ⟨_, its, n, l, rfl, rfl, hs, hv⟩, hz H π⟩⟩
end DL

set_option Elab.async false
set_option linter.all false
set_option maxRecDepth 100000
set_option autoImplicit false
set_option maxHeartbeats 1000000
/-! PL1: words, marks, gates, rows of numbers: plain Lean. -/
namespace GW
open PySem L2 DL

abbrev Lt := Bool × Bool
def cpL : Lt → Nat
  | (false, false) => 73
  | (true, false) => 88
  | (true, true) => 89
  | (false, true) => 90
def chL (l : Lt) : Str := ⟨#[cpL l]⟩
def lS (l : List Lt) : Str := mkS (l.map cpL)
def sgS (n : Bool) : Str := if n = true then "-" else "+"
def sgC (n : Bool) : Nat := if n = true then 45 else 43
def wS (n : Bool) (l : List Lt) : Str := mkS (sgC n :: l.map cpL)
def ltAt (m w : Nat) : Lt := (m.testBit w, m.testBit (6 + w))
def lets (m n : Nat) : List Lt := (List.range n).map (ltAt m)
def mkStep (f : Nat) (p : Lt × Nat) : Nat := (f ||| p.1.1.toNat <<< p.2) ||| p.1.2.toNat <<< (6 + p.2)
def mk (l : List Lt) : Nat := l.zipIdx.foldl mkStep 0
def bx (m w : Nat) : Nat := m >>> w &&& 1
def bz (m w : Nat) : Nat := m >>> (6 + w) &&& 1
def wb (m w x z : Nat) : Nat := ((m ^^^ (m &&& (1 <<< w ||| 1 <<< (6 + w)))) ||| x <<< w) ||| z <<< (6 + w)

inductive N1 | h | s | x | z
inductive N2 | cx | cz | swap
inductive Gt | o (k : N1) (a : Nat) | t (k : N2) (a b : Nat)
def N1.S : N1 → Str
  | .h => "h" | .s => "s" | .x => "x" | .z => "z"
def N2.S : N2 → Str
  | .cx => "cx" | .cz => "cz" | .swap => "swap"
def dgS (a : Nat) : Str := ⟨#[48 + a]⟩
def N1.c : N1 → List Nat
  | .h => [104] | .s => [115] | .x => [120] | .z => [122]
def N2.c : N2 → List Nat
  | .cx => [99, 120] | .cz => [99, 122] | .swap => [115, 119, 97, 112]
def Gt.S : Gt → Str
  | .o k a => mkS (k.c ++ [32, 48 + a])
  | .t k a b => mkS (k.c ++ [32, 48 + a, 32, 48 + b])
def Gt.parts : Gt → List Str
  | .o k a => [k.S, dgS a]
  | .t k a b => [k.S, dgS a, dgS b]
def Gt.ws : Gt → List Nat
  | .o _ a => [a]
  | .t _ a b => [a, b]
def Gt.ok (n : Nat) : Gt → Prop
  | .o _ a => a < n
  | .t _ a b => a < n ∧ b < n ∧ a ≠ b
theorem Gt.split {n : Nat} {g : Gt} (h : g.ok n) (hn : n ≤ 6) : Txt.split g.S " " = g.parts := by
  cases g with
  | o k a =>
    have h' : a < 6 := Nat.lt_of_lt_of_le h hn
    have gen : ∀ a : Fin 6, Txt.split (Gt.o k a).S " " = (Gt.o k a).parts := by cases k <;> decide +kernel
    exact gen ⟨a, h'⟩
  | t k a b =>
    have h1 : a < 6 := Nat.lt_of_lt_of_le h.1 hn
    have h2 : b < 6 := Nat.lt_of_lt_of_le h.2.1 hn
    have gen : ∀ a b : Fin 6, Txt.split (Gt.t k a b).S " " = (Gt.t k a b).parts := by cases k <;> decide +kernel
    exact gen ⟨a, h1⟩ ⟨b, h2⟩
theorem dg_int {a : Nat} (h : a < 6) : PySem.intText? (dgS a) = some (a : Int) := by
  have gen : ∀ a : Fin 6, PySem.intText? (dgS a) = some (a.val : Int) := by decide +kernel
  exact gen ⟨a, h⟩
def gtD (g : Gt) : D := .str g.S

/-- what a gate makes of quarters and marks -/
def lead1 (k : N1) (s : Nat × Nat) (w : Nat) : Nat × Nat :=
  match k with
  | .h => ((s.1 + 2 * (bx s.2 w &&& bz s.2 w)) % 4, wb s.2 w (bz s.2 w) (bx s.2 w))
  | .s => ((s.1 + 2 * (bx s.2 w &&& bz s.2 w)) % 4, wb s.2 w (bx s.2 w) (bx s.2 w ^^^ bz s.2 w))
  | .x => ((s.1 + 2 * bz s.2 w) % 4, s.2)
  | .z => ((s.1 + 2 * bx s.2 w) % 4, s.2)
def lead2 (k : N2) (s : Nat × Nat) (a b : Nat) : Nat × Nat :=
  match k with
  | .swap => (s.1, wb (wb s.2 a (bx s.2 b) (bz s.2 b)) b (bx s.2 a) (bz s.2 a))
  | .cx => ((s.1 + 2 * ((bx s.2 a &&& bz s.2 b) &&& ((bx s.2 b ^^^ bz s.2 a) ^^^ 1))) % 4, wb (wb s.2 a (bx s.2 a) (bz s.2 a ^^^ bz s.2 b)) b (bx s.2 b ^^^ bx s.2 a) (bz s.2 b))
  | .cz => ((s.1 + 2 * ((bx s.2 a &&& bx s.2 b) &&& (bz s.2 a ^^^ bz s.2 b))) % 4, wb (wb s.2 a (bx s.2 a) (bz s.2 a ^^^ bx s.2 b)) b (bx s.2 b) (bz s.2 b ^^^ bx s.2 a))
def lead : Nat × Nat → Gt → Nat × Nat
  | s, .o k a => lead1 k s a
  | s, .t k a b => lead2 k s a b
def ledS (s : Nat × Nat) (gs : List Gt) : Nat × Nat := gs.foldl lead s
def sgD (s : Nat × Nat) : D := .tup [.int (s.1 : Int), .int (s.2 : Int)]
/-- gates back -/
def back1 (g : Gt) : List Gt :=
  match g with
  | .o .s a => [.o .s a, .o .z a]
  | g => [g]
def backG (gs : List Gt) : List Gt := gs.reverse.flatMap back1

/-- rows of numbers -/
abbrev G := Int × Int
abbrev Sf := Nat → G
def gD (g : G) : D := .tup [.int g.1, .int g.2]
def stL (n : Nat) (ψ : Sf) : List D := (List.range (2 ^ n)).map fun p => gD (ψ p)
def spun (g : G) (t : Nat) : G :=
  match t % 4 with
  | 0 => g
  | 1 => (-g.2, g.1)
  | 2 => (-g.1, -g.2)
  | _ => (g.2, -g.1)
def plus (a b : G) : G := (a.1 + b.1, a.2 + b.2)
def mw (n w : Nat) : Nat := 1 <<< (n - 1 - w)
def bt (n p w : Nat) : Bool := !decide (p &&& mw n w = 0)
/-- letters at a place: place and turns -/
def actStep (n at' : Nat) (s : Nat × Nat) (p : Lt × Nat) : Nat × Nat :=
  (if p.1.1 = true then s.1 ^^^ mw n p.2 else s.1, s.2 + (p.1.1 && p.1.2).toNat + 2 * (p.1.2 && bt n at' p.2).toNat)
def actAt (n q : Nat) (l : List Lt) (at' : Nat) : Nat × Nat := l.zipIdx.foldl (actStep n at') (at', q)
/-- the places that the letters exchange -/
def xM (n : Nat) (s : Nat) (p : Lt × Nat) : Nat := if p.1.1 = true then s ^^^ mw n p.2 else s
def XL (n : Nat) (l : List Lt) : Nat := l.zipIdx.foldl (xM n) 0
def actF (n q : Nat) (l : List Lt) (ψ : Sf) : Sf := fun p => spun (ψ (p ^^^ XL n l)) (actAt n q l (p ^^^ XL n l)).2
/-- what gates make of rows -/
def gate1 (k : N1) (n w : Nat) (ψ : Sf) : Sf := fun p =>
  match k with
  | .h => plus (ψ (p ^^^ mw n w)) (spun (ψ p) (2 * (bt n p w).toNat))
  | .x => ψ (p ^^^ mw n w)
  | .s => spun (ψ p) ((bt n p w).toNat * 1)
  | .z => spun (ψ p) ((bt n p w).toNat * 2)
def gate2 (k : N2) (n a b : Nat) (ψ : Sf) : Sf := fun p =>
  match k with
  | .cx => if bt n p a = true then ψ (p ^^^ mw n b) else ψ p
  | .cz => spun (ψ p) (2 * (bt n p a && bt n p b).toNat)
  | .swap => if bt n p a = bt n p b then ψ p else ψ (p ^^^ mw n a ^^^ mw n b)
def gateF (n : Nat) : Gt → Sf → Sf
  | .o k a => gate1 k n a
  | .t k a b => gate2 k n a b
def gatesF (n : Nat) (gs : List Gt) (ψ : Sf) : Sf := gs.foldl (fun f g => gateF n g f) ψ
end GW
namespace GW
theorem bx_le {m w : Nat} : bx m w ≤ 1 := by unfold bx; rw [Nat.and_one_is_mod]; omega
theorem bz_le {m w : Nat} : bz m w ≤ 1 := by unfold bz; rw [Nat.and_one_is_mod]; omega
theorem xor_le {a b : Nat} (h1 : a ≤ 1) (h2 : b ≤ 1) : a ^^^ b ≤ 1 := by
  have ha : a = 0 ∨ a = 1 := by omega
  have hb : b = 0 ∨ b = 1 := by omega
  rcases ha with rfl | rfl <;> rcases hb with rfl | rfl <;> decide
end GW
namespace GW
open PySem L2 DL
/-! strings of words -/
theorem wS_len (g : Bool) (l : List Lt) : (wS g l).length = l.length + 1 := by unfold wS; rw [mkS_len]; simp
theorem lS_len (l : List Lt) : (lS l).length = l.length := by unfold lS; rw [mkS_len]; simp
theorem ln_ok {n : Nat} (h : n ≤ 1000) : n ≤ sizeLine := Nat.le_trans h (Nat.le_of_ble_eq_true rfl)
theorem enum_lS (l : List Lt) : enumD ((lS l).cps.toList.map fun c => D.str ⟨#[c]⟩) = l.zipIdx.map fun p => .tup [.int (p.2 : Nat), .str (chL p.1)] := by
  have e : ((lS l).cps.toList.map fun c => D.str ⟨#[c]⟩) = l.map fun x => .str (chL x) := by
    unfold lS
    rw [mkS_list, List.map_map]
    rfl
  rw [e, enumD_map]
theorem flat_strs : ∀ ss : List Str, flatDs (ss.map .str) = some (ss.map V.str)
  | [] => rfl
  | s :: ss => by
    show (match flatD (.str s), flatDs (ss.map .str) with | some p, some ps => some (p :: ps) | _, _ => none) = _
    rw [flat_strs ss]
    rfl
theorem in_tup (x : Str) (ss : List Str) : CmpV .In (.str x) (.tup (ss.map .str)) (inV (.str x) (ss.map V.str)) := .inT rfl (flat_strs ss)
theorem in_xy (c : Lt) : CmpV .In (.str (chL c)) (.tup [.str "X", .str "Y"]) c.1 := by
  have h := in_tup (chL c) ["X", "Y"]
  rw [show inV (.str (chL c)) ((["X", "Y"] : List Str).map V.str) = c.1 by rcases c with ⟨_ | _, _ | _⟩ <;> decide +kernel] at h
  exact h
theorem in_zy (c : Lt) : CmpV .In (.str (chL c)) (.tup [.str "Z", .str "Y"]) c.2 := by
  have h := in_tup (chL c) ["Z", "Y"]
  rw [show inV (.str (chL c)) ((["Z", "Y"] : List Str).map V.str) = c.2 by rcases c with ⟨_ | _, _ | _⟩ <;> decide +kernel] at h
  exact h
theorem cut_1 {α : Type} (a : α) (l : List α) : cutD (a :: l) (some 1) none = l := by
  unfold cutD HT.sIx
  simp
theorem cutS_mk (l : List Nat) (lo hi : Option Int) : cutS (mkS l) lo hi = mkS (cutD l lo hi) := by
  unfold cutS cutD mkS
  simp [Str.length]
theorem sl_w1 (g : Bool) {l : List Lt} (h : l.length ≤ 900) : SlV (.str (wS g l)) (some 1) none (.str (lS l)) := by
  have e : cutS (wS g l) (some 1) none = lS l := by
    unfold wS
    rw [cutS_mk, cut_1]
    rfl
  rw [← e]
  exact .str (ln_ok (by rw [wS_len]; omega))
theorem sgS_eq (g : Bool) : sgS g = ⟨#[sgC g]⟩ := by cases g <;> rfl
theorem ix_w0 (g : Bool) {l : List Lt} (h : l.length ≤ 900) : IxV (.str (wS g l)) (.int 0) (.str (sgS g)) := by
  rw [sgS_eq]
  have h2 : atI (wS g l).cps.toList 0 = some (sgC g) := by
    unfold wS
    rw [mkS_list]
    exact atI_nat (i := 0) rfl
  exact .str (ln_ok (by rw [wS_len]; omega)) h2
theorem joinL_one : ∀ l : List Nat, TL.joinL [] (l.map fun c => [c]) = l
  | [] => rfl
  | [_] => rfl
  | a :: b :: l => by
    show [a] ++ ([] ++ TL.joinL [] ((b :: l).map fun c => [c])) = a :: b :: l
    rw [joinL_one (b :: l)]
    rfl
theorem join_ch (ls : List Lt) : Txt.join "" (ls.map chL) = lS ls := by
  rw [TL.join_eq, ← mkS_eta (Str.join "" (ls.map chL))]
  have e : (Str.join "" (ls.map chL)).cps.toList = ls.map cpL := by
    have h := TL.tl_join "" (ls.map chL)
    have h2 : (ls.map chL).map TL.tl = (ls.map cpL).map fun c => [c] := by
      rw [List.map_map, List.map_map]; rfl
    rw [h2] at h
    exact h.trans (joinL_one _)
  rw [e]
  rfl
theorem ch_at (x z : Bool) : (if x = true then (if z = true then "Y" else "X") else if z = true then "Z" else "I" : Str) = chL (x, z) := by
  cases x <;> cases z <;> rfl
theorem bx_bit (m w : Nat) : bx m w = (m.testBit w).toNat := by
  unfold bx
  rw [Nat.and_one_is_mod, Nat.shiftRight_eq_div_pow, Nat.toNat_testBit]
theorem bz_bit (m w : Nat) : bz m w = (m.testBit (6 + w)).toNat := bx_bit m (6 + w)
theorem bt_ne (b : Bool) : (((b.toNat : Nat) : Int) != 0) = b := by cases b <;> rfl
theorem sg_word (g : Bool) (l : List Lt) : sgS g ++ lS l = wS g l := by
  rw [sgS_eq]
  show mkS [sgC g] ++ mkS (l.map cpL) = _
  rw [mkS_add]
  rfl
end GW
namespace GW
open PySem L2 DL
theorem lt_of_zipIdx {α : Type} {l : List α} {i j : Nat} {a : α} (h : l.zipIdx[i]? = some (a, j)) : j < l.length := by
  rw [List.getElem?_zipIdx] at h
  cases e : l[i]? with
  | none => rw [e] at h; cases h
  | some b =>
    rw [e] at h
    have h2 := (List.getElem?_eq_some_iff.mp e).1
    simp at h
    omega
theorem join_small {α : Type} {n : Nat} {f : Nat → Str} (h : n ≤ 6) (h1 : ∀ i, (f i).length = 1 := by intro i; rfl) : (((List.range n).map fun i => (f i).length)).sum + ((List.range n).map f).length * (0 : Nat) ≤ 16777216 := by
  have e : ((List.range n).map fun i => (f i).length) = (List.range n).map fun _ => 1 := List.map_congr_left fun i _ => h1 i
  have e2 : ∀ n : Nat, ((List.range n).map fun _ => 1).sum = n := fun n => by
    induction n with
    | zero => rfl
    | succ n ih => rw [List.range_succ, List.map_append, List.sum_append, ih]; rfl
  rw [e, e2]
  omega
theorem sg_sel (g : Bool) : (if decide (sgS g = "+") = true then 0 else 2 : Nat) = if g = true then 2 else 0 := by cases g <;> decide
theorem sg_pick (q : Nat) : (if decide (q = 0) = true then "+" else "-" : Str) = sgS (!decide (q = 0)) := by
  by_cases h : q = 0
  · subst h; rfl
  · rw [decide_eq_false h]; rfl
theorem bt_test (m w : Nat) : ((((m >>> w &&& 1 : Nat)) : Int) != 0) = m.testBit w := by
  have h := bx_bit m w
  unfold bx at h
  rw [h]
  exact bt_ne _
theorem let_at1 {m w : Nat} (h : ((((m >>> w &&& 1 : Nat)) : Int) != 0) = true) : (if ((((m >>> (6 + w) &&& 1 : Nat)) : Int) != 0) = true then "Y" else "X" : Str) = chL (ltAt m w) := by
  rw [bt_test] at h ⊢
  unfold ltAt
  rw [h]
  cases m.testBit (6 + w) <;> rfl
theorem let_at2 {m w : Nat} (h : ((((m >>> w &&& 1 : Nat)) : Int) != 0) = false) : (if ((((m >>> (6 + w) &&& 1 : Nat)) : Int) != 0) = true then "Z" else "I" : Str) = chL (ltAt m w) := by
  rw [bt_test] at h ⊢
  unfold ltAt
  rw [h]
  cases m.testBit (6 + w) <;> rfl
end GW
namespace GW
open PySem L2 DL
theorem join_ch_small {ls : List Lt} (h : ls.length ≤ 1000) : ((ls.map chL).map (·.length)).sum + (ls.map chL).length * ("" : Str).length ≤ 16777216 := by
  have e : ∀ ls : List Lt, ((ls.map chL).map (·.length)).sum = ls.length := fun ls => by
    induction ls with
    | nil => rfl
    | cons a ls ih => rw [List.map_cons, List.map_cons, List.sum_cons, ih, List.length_cons]; show 1 + ls.length = _; omega
  rw [e]
  show ls.length + (ls.map chL).length * 0 ≤ _
  omega
theorem lets_len (m n : Nat) : (lets m n).length = n := by unfold lets; rw [List.length_map, List.length_range]
theorem sgS_len (g : Bool) : (sgS g).length = 1 := by cases g <;> rfl
end GW
namespace GW
open PySem L2 DL
theorem src_lS (l : List Lt) : ((lS l).cps.toList.map fun c => D.str ⟨#[c]⟩) = l.map fun x => .str (chL x) := by
  unfold lS
  rw [mkS_list, List.map_map]
  rfl
theorem in_let (x : Lt) : CmpV .In (.str (chL x)) (.str "IXYZ") true := by
  have h : CmpV .In (.str (chL x)) (.str "IXYZ") (decide (cpL x ∈ ("IXYZ" : Str).cps.toList)) := .inS
  rw [show decide (cpL x ∈ ("IXYZ" : Str).cps.toList) = true by rcases x with ⟨_ | _, _ | _⟩ <;> decide +kernel] at h
  exact h
theorem in_sg (g : Bool) : CmpV .In (.str (sgS g)) (.str "+-") true := by
  rw [sgS_eq]
  have h : CmpV .In (.str ⟨#[sgC g]⟩) (.str "+-") (decide (sgC g ∈ ("+-" : Str).cps.toList)) := .inS
  rw [show decide (sgC g ∈ ("+-" : Str).cps.toList) = true by cases g <;> decide +kernel] at h
  exact h
theorem all_true {α : Type} (l : List α) : (l.all fun _ => true) = true := by simp
theorem dec_succ (a b : Nat) : decide (a + 1 = b + 1) = decide (a = b) := dec_cast (by omega)
end GW
namespace GW
open PySem L2 DL
theorem gt_small (g : Gt) : g.S.length + 2 ≤ sizeLine := by
  have h : g.S.length + 2 ≤ 100 := by
    cases g with
    | o k a => cases k <;> exact Nat.le_of_ble_eq_true rfl
    | t k a b => cases k <;> exact Nat.le_of_ble_eq_true rfl
  exact ln_ok (by omega)
theorem int_dg {X : Cx} {a : Nat} (h : a < 6) : ClV X (.type "int") [.str (dgS a)] (.int (a : Int)) := .intS (dg_int h) (Nat.le_of_ble_eq_true rfl)
theorem in_dig {a : Nat} (h : a < 6) : CmpV .In (.str (dgS a)) (.str "012345") true := by
  have h2 : CmpV .In (.str (dgS a)) (.str "012345") (decide (48 + a ∈ ("012345" : Str).cps.toList)) := .inS
  have gen : ∀ a : Fin 6, decide (48 + a.val ∈ ("012345" : Str).cps.toList) = true := by decide +kernel
  rw [gen ⟨a, h⟩] at h2
  exact h2
theorem gate_ws (g : Gt) : cutD (g.parts.map D.str) (some ((1 : Nat) : Int)) none = g.ws.map fun a => .str (dgS a) := by
  cases g with
  | o k a => exact cut_1 _ _
  | t k a b => exact cut_1 _ _
theorem gate_wl (g : Gt) : g.ws.length ≤ sizeLine := by
  cases g with
  | o k a => exact Nat.le_of_ble_eq_true rfl
  | t k a b => exact Nat.le_of_ble_eq_true rfl
theorem gate_lt {g : Gt} {n : Nat} (h : g.ok n) : ∀ a ∈ g.ws, a < n := by
  cases g with
  | o k a => intro b hb; cases List.mem_singleton.mp hb; exact h
  | t k a c =>
    intro b hb
    rcases List.mem_cons.mp hb with e | hb
    · subst e; exact h.1
    · cases List.mem_singleton.mp hb; exact h.2.1
theorem in_si (k : N1) : CmpV .In (.str k.S) (.tup [.str "h", .str "s", .str "x", .str "z"]) true := by
  have h := in_tup k.S ["h", "s", "x", "z"]
  rw [show inV (.str k.S) ((["h", "s", "x", "z"] : List Str).map V.str) = true by cases k <;> decide +kernel] at h
  exact h
theorem in_si2 (k : N2) : CmpV .In (.str k.S) (.tup [.str "h", .str "s", .str "x", .str "z"]) false := by
  have h := in_tup k.S ["h", "s", "x", "z"]
  rw [show inV (.str k.S) ((["h", "s", "x", "z"] : List Str).map V.str) = false by cases k <;> decide +kernel] at h
  exact h
theorem in_do2 (k : N2) : CmpV .In (.str k.S) (.tup [.str "cx", .str "cz", .str "swap"]) true := by
  have h := in_tup k.S ["cx", "cz", "swap"]
  rw [show inV (.str k.S) ((["cx", "cz", "swap"] : List Str).map V.str) = true by cases k <;> decide +kernel] at h
  exact h
theorem dg_ne {a c : Nat} (h : a ≠ c) : (!decide (dgS a = dgS c)) = true := by
  rw [decide_eq_false, Bool.not_false]
  intro e
  have := congrArg (fun s : Str => s.cps.toList) e
  simp [dgS] at this
  omega
end GW
namespace GW
open PySem L2 DL
theorem fold_app {α β : Type} (f : α → List β) : ∀ (xs : List α) (a : List β), xs.foldl (fun t g => t ++ f g) a = a ++ xs.flatMap f
  | [], a => by simp
  | x :: xs, a => by rw [List.foldl_cons, fold_app f xs, List.flatMap_cons, List.append_assoc]
theorem back_fold (gs : List Gt) : gs.reverse.foldl (fun t g => t ++ back1 g) [] = backG gs := by rw [fold_app]; rfl
theorem back1_len (g : Gt) : (back1 g).length ≤ 2 := by
  cases g with
  | o k a => cases k <;> simp [back1]
  | t k a b => simp [back1]
theorem flat_len : ∀ xs : List Gt, (xs.flatMap back1).length ≤ 2 * xs.length
  | [] => Nat.le_refl _
  | g :: xs => by
    rw [List.flatMap_cons, List.length_append, List.length_cons]
    have := flat_len xs
    have := back1_len g
    omega
theorem back_len (xs : List Gt) (i : Nat) : ((xs.take i).foldl (fun t g => t ++ back1 g) []).length ≤ 2 * i := by
  rw [fold_app, List.nil_append]
  have h := flat_len (xs.take i)
  have h2 : (xs.take i).length ≤ i := List.length_take_le _ _
  omega
theorem starts_s {g : Gt} (h : Txt.startswith g.S "s " = true) : ∃ a, g = .o .s a := by
  cases g with
  | o k a => cases k <;> first | exact ⟨a, rfl⟩ | exact absurd (show false = true from h) (by decide)
  | t k a b => cases k <;> exact absurd (show false = true from h) (by decide)
theorem back1_no {g : Gt} (h : Txt.startswith g.S "s " = false) : back1 g = [g] := by
  cases g with
  | o k a => cases k <;> first | rfl | exact absurd (show true = false from h) (by decide)
  | t k a b => rfl
theorem sl_half (a : Nat) : SlV (.str (Gt.S (.o .s a))) (some ((2 : Nat) : Int)) none (.str (dgS a)) := by
  have e : cutS (Gt.S (.o .s a)) (some ((2 : Nat) : Int)) none = dgS a := by
    show cutS (mkS [115, 32, 48 + a]) _ _ = _
    rw [cutS_mk]
    rfl
  rw [← e]
  exact .str (Nat.le_trans (by omega) (gt_small (.o .s a)))
theorem add_half (a : Nat) : BinV .Add (.str "z ") (.str (dgS a)) (gtD (.o .z a)) := by
  have h : BinV .Add (.str "z ") (.str (dgS a)) (.str ("z " ++ dgS a)) := .addS (Nat.le_of_ble_eq_true rfl)
  rw [show ("z " ++ dgS a : Str) = (Gt.o .z a).S by
    show mkS [122, 32] ++ mkS [48 + a] = _
    rw [mkS_add]; rfl] at h
  exact h
end GW
namespace GW
open PySem L2 DL
def sq (g : Bool) (l : List Lt) : Nat × Nat := (if g = true then 2 else 0, mk l)
def outW (s : Nat × Nat) (n : Nat) : Str := wS (!decide (s.1 = 0)) (lets s.2 n)
theorem Gt.ok_mono {g : Gt} {m n : Nat} (h : g.ok m) (hn : m ≤ n) : g.ok n := by
  cases g with
  | o k a => exact Nat.lt_of_lt_of_le h hn
  | t k a b => exact ⟨Nat.lt_of_lt_of_le h.1 hn, Nat.lt_of_lt_of_le h.2.1 hn, h.2.2⟩
theorem back_ok {gs : List Gt} {n : Nat} (h : ∀ g ∈ gs, g.ok n) : ∀ g ∈ backG gs, g.ok n := by
  intro g hg
  unfold backG at hg
  obtain ⟨a, ha, hb⟩ := List.mem_flatMap.mp hg
  have h1 := h a (List.mem_reverse.mp ha)
  cases a with
  | o k a =>
    cases k with
    | s =>
      rcases List.mem_cons.mp hb with e | hb
      · subst e; exact h1
      · cases List.mem_singleton.mp hb; exact h1
    | _ => cases List.mem_singleton.mp hb; exact h1
  | t k a b => cases List.mem_singleton.mp hb; exact h1
end GW
namespace GW
theorem lt6 {x w : Nat} (h : x ∈ List.range w) (hw : w ≤ 6) : 6 + x ≤ 1000000 := by
  have := List.mem_range.mp h
  omega
end GW

set_option Elab.async false
set_option linter.all false
set_option maxRecDepth 100000
set_option autoImplicit false
set_option maxHeartbeats 1000000
/-! PT: the pot that the laws draw from. -/
namespace DL
open PySem PySem.Spec PyProof.Rows L2
def Pot (k n : Nat) (ω : Om) : Prop := ∃ a b c : Int, ω[k]? = some (.lst [.int a, .int b, .int c]) ∧ 0 ≤ a ∧ 0 ≤ b ∧ b < 2305843009213693952 ∧ 0 ≤ c ∧ c ≤ n
structure PotTo (k n : Nat) (ω ω' : Om) : Prop where
  pot : Pot k n ω'
  len : ω'.length = ω.length
  oth : ∀ j, j ≠ k → ω'[j]? = ω[j]?
theorem Pot.mono {k m n : Nat} {ω : Om} (h : Pot k m ω) (e : m ≤ n) : Pot k n ω := by
  obtain ⟨a, b, c, h1, h2, h3, h4, h5, h6⟩ := h
  exact ⟨a, b, c, h1, h2, h3, h4, h5, by omega⟩
theorem Pot.lt {k m : Nat} {ω : Om} (h : Pot k m ω) : k < ω.length := by
  obtain ⟨a, b, c, h1, _⟩ := h
  exact (List.getElem?_eq_some_iff.mp h1).1
theorem Pot.refl {k m : Nat} {ω : Om} (h : Pot k m ω) : PotTo k m ω ω := ⟨h, rfl, fun _ _ => rfl⟩
theorem PotTo.mono {k m n : Nat} {ω ω' : Om} (h : PotTo k m ω ω') (e : m ≤ n) : PotTo k n ω ω' := ⟨h.pot.mono e, h.len, h.oth⟩
theorem PotTo.trans {k m n : Nat} {ω ω1 ω2 : Om} (a : PotTo k m ω ω1) (b : PotTo k n ω1 ω2) : PotTo k n ω ω2 := ⟨b.pot, b.len.trans a.len, fun j h => (b.oth j h).trans (a.oth j h)⟩
theorem Pot.app {k m : Nat} {ω : Om} (h : Pot k m ω) (g : Om) : Pot k m (ω ++ g) := by
  have hl := h.lt
  obtain ⟨a, b, c, h1, h2⟩ := h
  exact ⟨a, b, c, by rw [List.getElem?_append_left hl]; exact h1, h2⟩
/-- drawn in a longer heap: the rest stays -/
theorem PotTo.split {k n : Nat} {ω g ω' : Om} (h : PotTo k n (ω ++ g) ω') (hk : k < ω.length) : ∃ ω1, ω' = ω1 ++ g ∧ PotTo k n ω ω1 := by
  have hl := h.len
  rw [List.length_append] at hl
  refine ⟨ω'.take ω.length, ?_, ?_, ?_, ?_⟩
  · apply List.ext_getElem?
    intro i
    by_cases hi : i < ω.length
    · rw [List.getElem?_append_left (by rw [List.length_take]; omega), List.getElem?_take]
      simp [hi]
    · rw [h.oth i (by omega), List.getElem?_append_right (by omega), List.getElem?_append_right (by rw [List.length_take]; omega), List.length_take]
      congr 1
      omega
  · obtain ⟨a, b, c, h1, h2⟩ := h.pot
    exact ⟨a, b, c, by rw [List.getElem?_take]; simp [hk]; exact h1, h2⟩
  · rw [List.length_take]; omega
  · intro j hj
    rw [List.getElem?_take]
    by_cases hi : j < ω.length
    · simp only [hi, if_true]
      rw [h.oth j hj, List.getElem?_append_left hi]
    · simp only [hi, if_false]
      rw [List.getElem?_eq_none (by omega)]
/-- new cells are dropped behind draws -/
theorem Dr.pot {k n : Nat} {ω ω1 g : Om} {Q : D → Om → Prop} {d : D} (h : PotTo k n ω ω1) (hd : clB ω.length d = true) (q : Q d ω1) : Dr ω Q d (ω1 ++ g) := by
  refine ⟨ω1, g, rfl, Nat.le_of_eq h.len.symm, by rw [h.len]; exact hd, fun j c hj => ?_, q⟩
  by_cases e : j = k
  · subst e
    obtain ⟨a, b, c', h1, _⟩ := h.pot
    rw [hj] at h1
    cases h1
    exact .inr rfl
  · exact .inl (by rw [← h.oth j e]; exact hj)
theorem Dr.pot0 {k n : Nat} {ω ω1 : Om} {Q : D → Om → Prop} {d : D} (h : PotTo k n ω ω1) (hd : clB ω.length d = true) (q : Q d ω1) : Dr ω Q d ω1 := by
  have := Dr.pot (g := []) h hd q
  rwa [List.append_nil] at this
/-- the numbers of a draw -/

theorem BinV.mulC {i j : Int} (h : CMul i j := by first | exact .inl ⟨by decide, by decide⟩ | exact .inr ⟨by decide, by decide⟩ | exact .inl ⟨by omega, by omega⟩ | exact .inr ⟨by omega, by omega⟩) : BinV .Mult (.int i) (.int j) (.int (i * j)) := .mulI h
theorem mod_nat {x u : Int} (hu : 0 < u) : ∃ r : Nat, x % u = (r : Int) ∧ (r : Int) < u := by
  have h1 := Int.emod_nonneg x (show u ≠ 0 by omega)
  have h2 := Int.emod_lt_of_pos x hu
  exact ⟨(x % u).toNat, by omega, by omega⟩
theorem prime_ix (c : Int) : ∃ p : Int, atI [D.int ((2147483647 : Nat) : Int), .int ((2147483629 : Nat) : Int), .int ((2147483587 : Nat) : Int), .int ((2147483579 : Nat) : Int), .int ((2147483563 : Nat) : Int)] (c % ((5 : Nat) : Int)) = some (.int p) ∧ 0 < p ∧ p < 2147483648 := by
  have h1 := Int.emod_nonneg c (show ((5 : Nat) : Int) ≠ 0 by decide)
  have h2 := Int.emod_lt_of_pos c (show (0 : Int) < ((5 : Nat) : Int) by decide)
  generalize c % ((5 : Nat) : Int) = j at h1 h2 ⊢
  have h2' : j < 5 := h2
  have : j = 0 ∨ j = 1 ∨ j = 2 ∨ j = 3 ∨ j = 4 := by omega
  rcases this with rfl | rfl | rfl | rfl | rfl
  · exact ⟨_, rfl, by decide, by decide⟩
  · exact ⟨_, rfl, by decide, by decide⟩
  · exact ⟨_, rfl, by decide, by decide⟩
  · exact ⟨_, rfl, by decide, by decide⟩
  · exact ⟨_, rfl, by decide, by decide⟩
end DL
namespace DL
open PySem PySem.Spec PyProof.Rows L2
theorem get_set {ω : Om} {k : Nat} {c c' : C} (h : ω[k]? = some c) : (ω.set k c')[k]? = some c' := List.getElem?_set_self (List.getElem?_eq_some_iff.mp h).1
theorem PotTo.of {k n : Nat} {ω : Om} {a b c : Int} {c0 : C} (h : ω[k]? = some c0) (ha : 0 ≤ a) (hb : 0 ≤ b) (hb2 : b < 2305843009213693952) (hc : 0 ≤ c) (hcn : c ≤ n) : PotTo k n ω (ω.set k (.lst [.int a, .int b, .int c])) :=
  ⟨⟨a, b, c, get_set h, ha, hb, hb2, hc, hcn⟩, List.length_set, fun j hj => List.getElem?_set_ne (Ne.symm hj)⟩
theorem BinV.addC {i j : Int} : BinV .Add (.int i) (.int j) (.int (i + j)) := .addI
/-- the number that a draw blends -/
theorem blend_ok {b c : Int} (hb : 0 ≤ b) (hb2 : b < 2305843009213693952) (hc : 0 ≤ c) (hc2 : c ≤ 1000000) : CPow (b + 97385 * c * c + 441) 3 := by
  have h1 : c * c ≤ 1000000 * 1000000 := Int.mul_le_mul hc2 hc2 hc (by decide)
  have h0 : 0 ≤ c * c := Int.mul_nonneg hc hc
  have e : 97385 * c * c = 97385 * (c * c) := Int.mul_assoc ..
  rw [e]
  generalize c * c = d at h0 h1 ⊢
  refine ⟨by decide, by decide, ?_⟩
  omega
end DL
namespace DL
open PySem PySem.Spec PyProof.Rows L2
theorem ev_ifeD {X : Cx} {ρ : Ro} {ω : Om} {Q : D → Om → Prop} {pos : Pos} {c a b : Expr} (h : ET X c ρ ω fun t ω1 => ∃ d : D, (t = true → ∀ Q' : D → Om → Prop, Q' d ω1 → EV X a ρ ω1 Q') ∧ (t = false → ∀ Q' : D → Om → Prop, Q' d ω1 → EV X b ρ ω1 Q') ∧ Q d ω1) : EV X (.IfExp c a b pos) ρ ω Q :=
  ev_ife fun σ H π R g k => h σ H π R g fun t H1 π1 ω1 ⟨d, h1, h2, q⟩ s r => k t H1 π1 ω1 ⟨fun e => h1 e _ q, fun e => h2 e _ q⟩ s r
end DL
namespace DL
theorem b2_lo {b : Bool} : -(2 ^ 64) < ((b.toNat : Nat) : Int) := by cases b <;> decide
theorem b2_hi {b : Bool} : ((b.toNat : Nat) : Int) < 2 ^ 64 := by cases b <;> decide
end DL
namespace DL
open PySem PySem.Spec PyProof.Rows L2
theorem at_map {α : Type} {xs : List α} {enc : α → D} {r : Nat} (h : r < (xs.map enc).length) : atI (xs.map enc) (r : Int) = some (enc (xs[r]'(by simpa using h))) := by
  refine DL.atI_nat ?_
  rw [List.getElem?_map, List.getElem?_eq_getElem (by simpa using h)]
  rfl
theorem rg_of {v : Int} {m : Nat} (h : v = (m : Int)) : rgD 0 v = (List.range m).map fun (i : Nat) => .int (i : Int) := by
  rw [h]; exact rgD_0 m
/-- two new cells behind -/
theorem get_n1 {ω : Om} {c d : C} : (ω ++ [c, d])[ω.length]? = some c := by simp
theorem get_n2 {ω : Om} {c d : C} : (ω ++ [c, d])[ω.length + 1]? = some d := by simp
theorem set_n1 {ω : Om} {c d c' : C} : (ω ++ [c, d]).set ω.length c' = ω ++ [c', d] := by simp
theorem set_n2 {ω : Om} {c d d' : C} : (ω ++ [c, d]).set (ω.length + 1) d' = ω ++ [c, d'] := by simp
end DL
namespace DL
open PySem PySem.Spec PyProof.Rows L2
theorem ln_ok' {n : Nat} (h : n ≤ 1000000) : n < sizeLine := Nat.lt_of_le_of_lt h (Nat.lt_of_succ_le (Nat.le_of_ble_eq_true rfl))
theorem perm_erase {α : Type} : ∀ {l : List α} {i : Nat} (h : i < l.length), ([l[i]] ++ l.eraseIdx i).Perm l
  | a :: l, 0, _ => List.Perm.refl _
  | a :: l, i + 1, h => by
    have h' : i < l.length := by simpa using h
    show (l[i] :: a :: l.eraseIdx i).Perm (a :: l)
    exact (List.Perm.swap a l[i] _).trans (List.Perm.cons a (perm_erase h'))
end DL
theorem List.map_eraseIdx' {α β : Type} (f : α → β) : ∀ (l : List α) (i : Nat), (l.eraseIdx i).map f = (l.map f).eraseIdx i
  | [], i => rfl
  | a :: l, 0 => rfl
  | a :: l, i + 1 => by simp [List.map_eraseIdx' f l i]
namespace GW
open PySem L2 DL
theorem cells_ix (c m : Nat) : (if (if ((m : Nat) : Int) < (c : Int) then ((m : Nat) : Int) else (c : Int)) > ((1 : Nat) : Int) then (if ((m : Nat) : Int) < (c : Int) then ((m : Nat) : Int) else (c : Int)) else ((1 : Nat) : Int)) = ((max 1 (min c m) : Nat) : Int) := by
  split <;> split <;> omega
theorem sl_w01 (g : Bool) {l : List Lt} (h : l.length ≤ 900) : SlV (.str (wS g l)) none (some ((1 : Nat) : Int)) (.str (sgS g)) := by
  have e : cutS (wS g l) none (some ((1 : Nat) : Int)) = sgS g := by
    rw [sgS_eq]
    unfold wS
    rw [cutS_mk]
    unfold cutD HT.sIx
    simp
    rfl
  rw [← e]
  exact .str (ln_ok (by rw [wS_len]; omega))
theorem in_sgt (g : Bool) : CmpV .In (.str (sgS g)) (.tup [.str "+", .str "-"]) true := by
  have h := in_tup (sgS g) ["+", "-"]
  rw [show inV (.str (sgS g)) ((["+", "-"] : List Str).map V.str) = true by cases g <;> decide +kernel] at h
  exact h
theorem spun_ix (g : G) (t : Nat) : atI [D.tup [.int g.1, .int g.2], .tup [.int (-g.2), .int g.1], .tup [.int (-g.1), .int (-g.2)], .tup [.int g.2, .int (-g.1)]] ((t % 4 : Nat) : Int) = some (gD (spun g t)) := by
  have h : t % 4 < 4 := Nat.mod_lt _ (by decide)
  refine DL.atI_nat ?_
  unfold spun
  generalize t % 4 = j at h ⊢
  have : j = 0 ∨ j = 1 ∨ j = 2 ∨ j = 3 := by omega
  rcases this with rfl | rfl | rfl | rfl <;> rfl
def sgl (n w : Nat) (c : Lt) : List Lt := (List.replicate w (false, false) ++ [c]) ++ List.replicate (n - w - 1) (false, false)
theorem mul_I {m : Nat} (h : m ≤ 900) : BinV .Mult (.str "I") (.int (m : Int)) (.str (lS (List.replicate m (false, false)))) := by
  have e : strMul "I" (m : Int) = lS (List.replicate m (false, false)) := by
    unfold strMul lS mkS
    rw [Int.toNat_natCast, List.map_replicate]
    show (⟨_⟩ : Str) = ⟨_⟩
    congr 2
    show (List.replicate m [73]).flatten = List.replicate m 73
    induction m with
    | zero => rfl
    | succ m ih => rw [List.replicate_succ, List.flatten_cons, ih (by omega), List.replicate_succ]; rfl
  rw [← e]
  exact .mulS (by omega) (by omega) (by decide)
theorem add_lS {a c : List Lt} (h : (a ++ c).length ≤ 900) : BinV .Add (.str (lS a)) (.str (lS c)) (.str (lS (a ++ c))) := by
  have e : lS a ++ lS c = lS (a ++ c) := by
    unfold lS
    rw [mkS_add, List.map_append]
  rw [← e]
  exact .addS (by rw [lS_len, lS_len, ← List.length_append]; exact ln_ok (by omega))
theorem chL_lS (c : Lt) : chL c = lS [c] := rfl
theorem add_ch {a : List Lt} {c : Lt} (h : a.length ≤ 800) : BinV .Add (.str (lS a)) (.str (chL c)) (.str (lS (a ++ [c]))) := by
  rw [chL_lS]
  exact add_lS (by rw [List.length_append]; show _ + 1 ≤ _; omega)
end GW
namespace DL
open PySem PySem.Spec PyProof.Rows L2
/-- a, b = e, e a list -/
theorem w1_unl {X : Cx} {ρ : Ro} {ω : Om} {P : Po} {pos tpos : Pos} {ps : List Pat} {es : List Expr} {k : Nat} {e : Expr} (hc : X.calm = true) (hp : PGs' X es ps) (h : EV X e ρ ω fun d ω1 => ∃ ds ρ', rd d ω1 = .lst ds ∧ asgs ps ds ρ = some ρ' ∧ P.nx ρ' ω1)
    (hn : (assignEach es X.env).length = ps.length := by rfl) (hst : (assignEach es X.env).findIdx? (·.1) = none := by rfl)
    (hs : swapsWithSole [.Tuple es k tpos] e pos.line X.env = pure false := by rfl) (hw : swappedStores [.Tuple es k tpos] e X.env = pure none := by rfl) (h1 : (assignEach [.Tuple es k tpos] X.env).map (·.2) = [assign (.Tuple es k tpos) X.env] := by rfl) : W1 X (.Assign [.Tuple es k tpos] e pos) ρ ω P := fun σ H π E g kk => by
  refine ⟨_, ps_asg pe_s (pg_unl (k := k) (pos := tpos) hc hp hn hst) hs hw h1, ?_⟩
  refine h σ H π _ g fun v H1 π1 d ω1 ⟨ds, ρ', hd, ha, q⟩ s1 r1 z1 => ?_
  obtain ⟨a, vs, rfl, hr, zs⟩ := read_lst r1 z1 hd
  refine ⟨a, vs, rfl, .inl hr, by rw [ZL.length zs, asgs_len (K := X.K) (H := H1) (π := π1) (ω := ω1) ps ds ρ ρ' ha], ?_⟩
  exact pats_ok ps ds ρ ρ' vs σ _ ha (g.mono s1 r1) zs fun σ' g' _ => kk.nx σ' H1 π1 ρ' ω1 q s1 g'
end DL
namespace GW
open PySem L2 DL
theorem str_dg {X : Cx} {r : Nat} (h : r < 6) : ClV X (.type "str") [.int (r : Int)] (.str (dgS r)) := by
  have gen : ∀ r : Fin 6, Str.ofString (toString (r.val : Int)) = dgS r.val ∧ ((r.val : Int)).natAbs.log2 < 1920 := by decide +kernel
  have h2 : ClV X (.type "str") [.int (r : Int)] (.str (Str.ofString (toString (r : Int)))) := .strI (gen ⟨r, h⟩).2
  rw [(gen ⟨r, h⟩).1] at h2
  exact h2
theorem add_mk {a b : List Nat} (h : (a ++ b).length ≤ 900) : BinV .Add (.str (mkS a)) (.str (mkS b)) (.str (mkS (a ++ b))) := by
  rw [← mkS_add]
  exact .addS (by rw [mkS_len, mkS_len, ← List.length_append]; exact ln_ok (by omega))
theorem N1.S_mk (k : N1) : k.S = mkS k.c := by cases k <;> rfl
theorem N2.S_mk (k : N2) : k.S = mkS k.c := by cases k <;> rfl
theorem nm1_dg (k : N1) (a : Nat) : BinV .Add (.str k.S) (.str " ") (.str (mkS (k.c ++ [32]))) ∧ BinV .Add (.str (mkS (k.c ++ [32]))) (.str (dgS a)) (gtD (.o k a)) := by
  rw [N1.S_mk]
  refine ⟨add_mk (by cases k <;> decide), ?_⟩
  have h : BinV .Add (.str (mkS (k.c ++ [32]))) (.str (mkS [48 + a])) (.str (mkS (k.c ++ [32] ++ [48 + a]))) := add_mk (by cases k <;> exact Nat.le_of_ble_eq_true rfl)
  rw [List.append_assoc] at h
  exact h
theorem nm2_dg (k : N2) (a b : Nat) : BinV .Add (.str k.S) (.str " ") (.str (mkS (k.c ++ [32]))) ∧ BinV .Add (.str (mkS (k.c ++ [32]))) (.str (dgS a)) (.str (mkS (k.c ++ [32, 48 + a]))) ∧ BinV .Add (.str (mkS (k.c ++ [32, 48 + a]))) (.str " ") (.str (mkS (k.c ++ [32, 48 + a, 32]))) ∧ BinV .Add (.str (mkS (k.c ++ [32, 48 + a, 32]))) (.str (dgS b)) (gtD (.t k a b)) := by
  rw [N2.S_mk]
  refine ⟨add_mk (by cases k <;> decide), ?_, ?_, ?_⟩
  · have h : BinV .Add (.str (mkS (k.c ++ [32]))) (.str (mkS [48 + a])) (.str (mkS (k.c ++ [32] ++ [48 + a]))) := add_mk (by cases k <;> exact Nat.le_of_ble_eq_true rfl)
    rw [List.append_assoc] at h
    exact h
  · have h : BinV .Add (.str (mkS (k.c ++ [32, 48 + a]))) (.str (mkS [32])) (.str (mkS (k.c ++ [32, 48 + a] ++ [32]))) := add_mk (by cases k <;> exact Nat.le_of_ble_eq_true rfl)
    rw [List.append_assoc] at h
    exact h
  · have h : BinV .Add (.str (mkS (k.c ++ [32, 48 + a, 32]))) (.str (mkS [48 + b])) (.str (mkS (k.c ++ [32, 48 + a, 32] ++ [48 + b]))) := add_mk (by cases k <;> exact Nat.le_of_ble_eq_true rfl)
    rw [List.append_assoc] at h
    exact h
def nmD : N1 ⊕ N2 → D
  | .inl k => .str k.S
  | .inr k => .str k.S
def nms : List (N1 ⊕ N2) := [.inl .h, .inl .s, .inl .h, .inl .s, .inr .cx, .inr .cz, .inr .swap, .inl .x, .inl .z]
end GW
namespace DL
open PySem PySem.Spec PyProof.Rows L2
/-- if: both ways meet again -/
theorem w1_ifJ {X : Cx} {ρ : Ro} {ω : Om} {P : Po} {pos : Pos} {c : Expr} {a b : List Stmt} (J : Ro → Om → Prop) (h : ET X c ρ ω fun t ω1 => (t = true → WS X a ρ ω1 { P with nx := J }) ∧ (t = false → WS X b ρ ω1 { P with nx := J })) (hj : ∀ ρ' ω', J ρ' ω' → P.nx ρ' ω') : W1 X (.If c a b pos) ρ ω P :=
  w1_if fun σ H π R g k => h σ H π R g fun t H' π' ω' ⟨q1, q2⟩ s r => k t H' π' ω' ⟨fun e => (q1 e).imp hj (fun _ _ q => q) (fun _ _ q => q) (fun _ _ q => q), fun e => (q2 e).imp hj (fun _ _ q => q) (fun _ _ q => q) (fun _ _ q => q)⟩ s r
theorem ev_andD {X : Cx} {ρ : Ro} {ω : Om} {Q : D → Om → Prop} {pos : Pos} {a b : Expr} {rest : List Expr} (h : EV X a ρ ω fun x ω1 => ∃ c v, x = .bl c ∧ (c = true → ∀ Q' : D → Om → Prop, Q' (.bl v) ω1 → EV X (.BoolOp .And (b :: rest) pos) ρ ω1 Q') ∧ (c = false → v = false) ∧ Q (.bl v) ω1) : EV X (.BoolOp .And (a :: b :: rest) pos) ρ ω Q :=
  ev_and fun σ H π R g k => h σ H π R g fun x H' π' d ω' ⟨c, v, e, h1, h2, q⟩ s r z => k x H' π' d ω' ⟨c, e, fun hc => h1 hc _ q, fun hc => by rw [h2 hc] at q; exact q⟩ s r z
theorem ev_orD {X : Cx} {ρ : Ro} {ω : Om} {Q : D → Om → Prop} {pos : Pos} {a b : Expr} {rest : List Expr} (h : EV X a ρ ω fun x ω1 => ∃ c v, x = .bl c ∧ (c = false → ∀ Q' : D → Om → Prop, Q' (.bl v) ω1 → EV X (.BoolOp .Or (b :: rest) pos) ρ ω1 Q') ∧ (c = true → v = true) ∧ Q (.bl v) ω1) : EV X (.BoolOp .Or (a :: b :: rest) pos) ρ ω Q :=
  ev_or fun σ H π R g k => h σ H π R g fun x H' π' d ω' ⟨c, v, e, h1, h2, q⟩ s r z => k x H' π' d ω' ⟨c, e, fun hc => h1 hc _ q, fun hc => by rw [h2 hc] at q; exact q⟩ s r z
/-- a pure test, told ahead -/
theorem w1_ifT {X : Cx} {ρ : Ro} {ω : Om} {P : Po} {pos : Pos} {c : Expr} {a b : List Stmt} (t : Bool) (h : ET X c ρ ω fun t' ω1 => t' = t ∧ ω1 = ω) (h1 : t = true → WS X a ρ ω P) (h2 : t = false → WS X b ρ ω P) : W1 X (.If c a b pos) ρ ω P :=
  w1_if fun σ H π R g k => h σ H π R g fun t' H' π' ω' ⟨e, e2⟩ s r => k t' H' π' ω' ⟨fun hh => by subst e2; exact h1 (e ▸ hh), fun hh => by subst e2; exact h2 (e ▸ hh)⟩ s r
end DL

namespace GW
open PySem L2 DL
/-! the walk of rows of numbers: facts -/
theorem len_lS {X : Cx} {l : List Lt} (h : l.length ≤ 900) : ClV X (.builtin "len") [.str (lS l)] (.int (l.length : Int)) := by
  have h2 : ClV X (.builtin "len") [.str (lS l)] (.int ((lS l).length : Int)) := .lenS (by rw [lS_len]; exact ln_ok (by omega))
  rw [lS_len] at h2
  exact h2
theorem in_XYs (c : Lt) : CmpV .In (.str (chL c)) (.str "XY") c.1 := by
  have h : CmpV .In (.str (chL c)) (.str "XY") (decide (cpL c ∈ ("XY" : Str).cps.toList)) := .inS
  rw [show decide (cpL c ∈ ("XY" : Str).cps.toList) = c.1 by rcases c with ⟨_ | _, _ | _⟩ <;> decide +kernel] at h
  exact h
theorem in_YZs (c : Lt) : CmpV .In (.str (chL c)) (.str "YZ") c.2 := by
  have h : CmpV .In (.str (chL c)) (.str "YZ") (decide (cpL c ∈ ("YZ" : Str).cps.toList)) := .inS
  rw [show decide (cpL c ∈ ("YZ" : Str).cps.toList) = c.2 by rcases c with ⟨_ | _, _ | _⟩ <;> decide +kernel] at h
  exact h
theorem eq_Y (c : Lt) : CmpV .Eq (.str (chL c)) (.str "Y") (c.1 && c.2) := by
  have h : CmpV .Eq (.str (chL c)) (.str "Y") (decide (chL c = "Y")) := .eqS
  rw [show decide (chL c = "Y") = (c.1 && c.2) by rcases c with ⟨_ | _, _ | _⟩ <;> decide +kernel] at h
  exact h
theorem enum_st (n : Nat) (ψ : Sf) : enumD (stL n ψ) = (List.range (2 ^ n)).map fun p => .tup [.int (p : Nat), gD (ψ p)] := by
  unfold stL
  rw [enumD_map]
  apply List.ext_getElem?
  intro i
  rw [List.getElem?_map, List.getElem?_map, List.getElem?_zipIdx]
  cases h : (List.range (2 ^ n))[i]? with
  | none => rfl
  | some a =>
    have h1 := (List.getElem?_eq_some_iff.mp h).1
    rw [List.length_range] at h1
    rw [List.getElem?_range h1] at h
    cases h
    simp
theorem map_set {N : Nat} {f g : Nat → D} {k : Nat} {d : D} (h1 : ∀ i, i ≠ k → f i = g i) (h2 : g k = d) : ((List.range N).map f).set k d = (List.range N).map g := by
  apply List.ext_getElem?
  intro i
  by_cases e : i = k
  · subst e
    by_cases hi : i < N
    · rw [List.getElem?_set_self (by simpa using hi), List.getElem?_map, List.getElem?_range hi]
      simp [h2]
    · rw [List.getElem?_eq_none (by simpa using hi), List.getElem?_eq_none (by simpa using hi)]
  · rw [List.getElem?_set_ne (Ne.symm e), List.getElem?_map, List.getElem?_map]
    cases hh : (List.range N)[i]? with
    | none => rfl
    | some a =>
      have h3 := (List.getElem?_eq_some_iff.mp hh).1
      rw [List.length_range] at h3
      rw [List.getElem?_range h3] at hh
      cases hh
      simp [h1 i e]
theorem fold_xM (n : Nat) : ∀ (l : List (Lt × Nat)) (s : Nat), l.foldl (xM n) s = s ^^^ l.foldl (xM n) 0
  | [], s => by simp
  | p :: l, s => by
    rw [List.foldl_cons, List.foldl_cons, fold_xM n l, fold_xM n l (xM n 0 p)]
    unfold xM
    split
    · rw [Nat.zero_xor, Nat.xor_assoc]
    · rw [Nat.zero_xor]
theorem actAt_1 (n q at' : Nat) (l : List Lt) : (actAt n q l at').1 = at' ^^^ XL n l := by
  unfold actAt XL
  rw [← fold_xM]
  generalize l.zipIdx = zs
  have gen : ∀ (zs : List (Lt × Nat)) (s : Nat × Nat), (zs.foldl (actStep n at') s).1 = zs.foldl (xM n) s.1 := by
    intro zs
    induction zs with
    | nil => intro s; rfl
    | cons p zs ih => intro s; rw [List.foldl_cons, ih, List.foldl_cons]; rfl
  exact gen zs _
theorem mw_lt {n w : Nat} (h : w < n) : mw n w < 2 ^ n := by
  unfold mw
  rw [Nat.one_shiftLeft]
  exact Nat.pow_lt_pow_right (by decide) (by omega)
theorem XL_lt {n : Nat} {l : List Lt} (h : l.length ≤ n) : XL n l < 2 ^ n := by
  unfold XL
  have gen : ∀ (zs : List (Lt × Nat)) (s : Nat), (∀ p ∈ zs, p.2 < n) → s < 2 ^ n → zs.foldl (xM n) s < 2 ^ n := by
    intro zs
    induction zs with
    | nil => intro s _ hs; exact hs
    | cons p zs ih =>
      intro s hp hs
      rw [List.foldl_cons]
      refine ih _ (fun q hq => hp q (List.mem_cons_of_mem _ hq)) ?_
      unfold xM
      split
      · exact Nat.xor_lt_two_pow hs (mw_lt (hp p List.mem_cons_self))
      · exact hs
  refine gen _ 0 (fun p hp => ?_) (Nat.two_pow_pos n)
  have := List.snd_lt_of_mem_zipIdx hp
  omega
theorem xor_xor (a b : Nat) : a ^^^ b ^^^ b = a := by rw [Nat.xor_assoc, Nat.xor_self, Nat.xor_zero]
end GW
namespace GW
open PySem L2 DL
theorem st_ix {n p : Nat} {ψ : Sf} (h : p < 2 ^ n) : atI (stL n ψ) (p : Int) = some (gD (ψ p)) := by
  refine DL.atI_nat ?_
  unfold stL
  rw [List.getElem?_map, List.getElem?_range h]
  rfl
theorem range_app {f : Nat → D} {i : Nat} {d : D} (h : d = f i) : (List.range i).map f ++ [d] = (List.range (i + 1)).map f := by
  rw [List.range_succ, List.map_append, h]
  rfl
theorem ok_lt {n : Nat} {g : Gt} (h : g.ok n) : ∀ a ∈ g.ws, a < n := gate_lt h
theorem xor_lt {n p w : Nat} (hp : p < 2 ^ n) (hw : w < n) : p ^^^ mw n w < 2 ^ n := Nat.xor_lt_two_pow hp (mw_lt hw)
end GW
namespace GW
open PySem L2 DL
def szB : N1 → Bool
  | .s => true | .z => true | _ => false
theorem in_sz1 (k : N1) : CmpV .In (.str k.S) (.tup [.str "s", .str "z"]) (szB k) := by
  have h := in_tup k.S ["s", "z"]
  rw [show inV (.str k.S) ((["s", "z"] : List Str).map V.str) = szB k by cases k <;> decide +kernel] at h
  exact h
theorem in_sz2 (k : N2) : CmpV .In (.str k.S) (.tup [.str "s", .str "z"]) false := by
  have h := in_tup k.S ["s", "z"]
  rw [show inV (.str k.S) ((["s", "z"] : List Str).map V.str) = false by cases k <;> decide +kernel] at h
  exact h
theorem cx_yes {n p a c : Nat} {ψ : Sf} (h : bt n p a = true) : gateF n (.t .cx a c) ψ p = ψ (p ^^^ mw n c) := by
  show (if bt n p a = true then _ else _) = _
  rw [if_pos h]
theorem cx_no {n p a c : Nat} {ψ : Sf} (h : bt n p a = false) : gateF n (.t .cx a c) ψ p = ψ p := by
  show (if bt n p a = true then _ else _) = _
  rw [if_neg (by rw [h]; decide)]
theorem sw_yes {n p a c : Nat} {ψ : Sf} (h : (!decide (bt n p a = bt n p c)) = true) : gateF n (.t .swap a c) ψ p = ψ (p ^^^ mw n a ^^^ mw n c) := by
  show (if bt n p a = bt n p c then _ else _) = _
  rw [if_neg (by simpa using h)]
theorem sw_no {n p a c : Nat} {ψ : Sf} (h : (!decide (bt n p a = bt n p c)) = false) : gateF n (.t .swap a c) ψ p = ψ p := by
  show (if bt n p a = bt n p c then _ else _) = _
  rw [if_pos (by simpa using h)]
end GW
namespace GW
open PySem L2 DL
theorem app_eq {ω : Om} {f : Nat → D} {i : Nat} {d : D} (h : d = f i) : ω ++ [C.lst ((List.range i).map f ++ [d])] = ω ++ [C.lst ((List.range (i + 1)).map f)] := by rw [range_app h]
end GW
namespace GW
open PySem L2 DL
def unitF (a : Nat) : Sf := fun p => (((decide (p = a)).toNat : Nat), 0)
theorem unit_d (a p : Nat) : D.tup [.int (((decide (p = a)).toNat : Nat) : Int), .int ((0 : Nat) : Int)] = gD ((((decide (p = a)).toNat : Nat) : Int), 0) := rfl
theorem pow6 {n : Nat} (h : n ≤ 6) : 2 ^ n ≤ 64 ∧ 1 ≤ 2 ^ n := ⟨Nat.le_trans (Nat.pow_le_pow_right (by decide) h) (by decide), Nat.one_le_two_pow⟩
end GW
namespace GW
open PySem L2 DL
theorem st_of {w : Nat} {g : G} {gs : List G} (h : gs.length = 2 ^ w - 1) (h1 : 1 ≤ 2 ^ w) : [gD g] ++ gs.map gD = stL w (fun p => (g :: gs).getD p (0, 0)) := by
  show (g :: gs).map gD = _
  unfold stL
  apply List.ext_getElem?
  intro i
  rw [List.getElem?_map, List.getElem?_map]
  by_cases hi : i < 2 ^ w
  · have h2 : i < (g :: gs).length := by rw [List.length_cons, h]; omega
    rw [List.getElem?_range hi, List.getElem?_eq_getElem h2]
    simp only [Option.map_some]
    rw [List.getD_eq_getElem?_getD, List.getElem?_eq_getElem h2]
    rfl
  · rw [List.getElem?_eq_none (by rw [List.length_cons, h]; omega), List.getElem?_eq_none (by rw [List.length_range]; omega)]
    rfl
theorem gate3 (bs : List Gt) : ((bs ++ bs ++ bs).map gtD) = (List.replicate ((3 : Nat) : Int).toNat (bs.map gtD)).flatten := by
  show _ = (List.replicate 3 (bs.map gtD)).flatten
  simp [List.replicate]
theorem g3_len {bs : List Gt} {n : Nat} (h : bs.length = n) (hn : n ≤ 14) : (bs ++ bs ++ bs).length ≤ 42 := by
  simp
  omega
theorem g3_ok {bs : List Gt} {w : Nat} (h : ∀ g ∈ bs, g.ok w) : ∀ g ∈ bs ++ bs ++ bs, g.ok w := by
  intro g hg
  simp at hg
  exact h g hg
end GW
namespace GW
open PySem L2 DL
theorem st_fin {w : Nat} {g : G} {gs : List G} {Q : D → Prop} (h : gs.length = 2 ^ w - 1) (h1 : 1 ≤ 2 ^ w) (hq : ∀ ψ : Sf, Q (.lst (stL w ψ))) : Q (.lst ([gD g] ++ gs.map gD)) := by rw [st_of h h1]; exact hq _
end GW
namespace DL
open PySem PySem.Spec PyProof.Rows L2
/-- x = e, by what holds behind -/
theorem w1_letJ {X : Cx} {ρ : Ro} {ω : Om} {P : Po} {pos : Pos} (J : D → Om → Prop) {i : Nat} {x : Str} {e : Expr} {pos' : Pos} (hN : X.N.Nodup) (hi : X.N[i]? = some x) (h : EV X e ρ ω J) (hj : ∀ d ω', J d ω' → P.nx (put ρ i d) ω') (hx : Loc X.env.scope x := by first | exact .inl rfl | exact .inr rfl | exact .inr (.inl rfl))
    (hs : swapsWith e (some (.Name x pos')) pos.line X.env = pure false := by rfl) (hf : X.fn x = true ∨ X.env.scope.names.lookup x = some .local := by first | exact .inl rfl | exact .inr rfl | assumption) : W1 X (.Assign [.Name x pos'] e pos) ρ ω P := w1_set hN hi hx (h.imp hj) hs hf
end DL

set_option Elab.async false
set_option linter.all false
set_option maxRecDepth 100000
set_option autoImplicit false
set_option maxHeartbeats 1000000
/-! PX: bits. -/
namespace GW
theorem b2_bit (b : Bool) (m : Nat) : b.toNat.testBit m = (b && decide (m = 0)) := by
  cases b with
  | false => simp
  | true =>
    cases m with
    | zero => rfl
    | succ m => simp [Nat.testBit_succ]
theorem shl_bit (b : Bool) (j i : Nat) : (b.toNat <<< j).testBit i = (b && decide (i = j)) := by
  rw [Nat.testBit_shiftLeft, b2_bit]
  by_cases h : i = j
  · subst h; simp
  · rw [decide_eq_false h]
    by_cases h2 : j ≤ i
    · have : i - j ≠ 0 := by omega
      simp [this]
    · simp [h2]
theorem one_bit (j i : Nat) : (1 <<< j).testBit i = decide (i = j) := by
  have := shl_bit true j i
  simpa using this
def lat (l : List Lt) (i : Nat) : Lt := l[i]?.getD (false, false)
theorem mkStep_bit (f : Nat) (c : Lt) (j i : Nat) : (mkStep f (c, j)).testBit i = (f.testBit i || (c.1 && decide (i = j)) || (c.2 && decide (i = 6 + j))) := by
  unfold mkStep
  rw [Nat.testBit_or, Nat.testBit_or, shl_bit, shl_bit]
theorem mk_fold (l : List Lt) : ∀ (k f i : Nat), ((l.zipIdx k).foldl mkStep f).testBit i = (f.testBit i || (decide (k ≤ i) && (lat l (i - k)).1) || (decide (6 + k ≤ i) && (lat l (i - (6 + k))).2)) := by
  induction l with
  | nil => intro k f i; simp [lat]
  | cons c l ih =>
    intro k f i
    rw [List.zipIdx_cons, List.foldl_cons, ih, mkStep_bit]
    have h1 : (decide (k ≤ i) && (lat (c :: l) (i - k)).1) = ((c.1 && decide (i = k)) || (decide (k + 1 ≤ i) && (lat l (i - (k + 1))).1)) := by
      by_cases e : i = k
      · subst e; simp [lat]; omega
      · by_cases h : k ≤ i
        · obtain ⟨d, rfl⟩ : ∃ d, i = k + 1 + d := ⟨i - (k + 1), by omega⟩
          have e1 : k + 1 + d - k = d + 1 := by omega
          have e2 : k + 1 + d - (k + 1) = d := by omega
          rw [e1, e2]
          have : ¬ (k + 1 + d = k) := by omega
          simp [lat, this]
          omega
        · have : ¬ (k + 1 ≤ i) := by omega
          simp [h, this, e]
    have h2 : (decide (6 + k ≤ i) && (lat (c :: l) (i - (6 + k))).2) = ((c.2 && decide (i = 6 + k)) || (decide (6 + (k + 1) ≤ i) && (lat l (i - (6 + (k + 1)))).2)) := by
      by_cases e : i = 6 + k
      · subst e; simp [lat]; omega
      · by_cases h : 6 + k ≤ i
        · obtain ⟨d, rfl⟩ : ∃ d, i = 6 + k + 1 + d := ⟨i - (6 + k + 1), by omega⟩
          have e1 : 6 + k + 1 + d - (6 + k) = d + 1 := by omega
          have e2 : 6 + k + 1 + d - (6 + (k + 1)) = d := by omega
          rw [e1, e2]
          have : ¬ (6 + k + 1 + d = 6 + k) := by omega
          have h3 : 6 + k ≤ 6 + k + 1 + d := by omega
          have h4 : 6 + (k + 1) ≤ 6 + k + 1 + d := by omega
          simp [lat, this, h3, h4]
        · have : ¬ (6 + (k + 1) ≤ i) := by omega
          simp [h, this, e]
    rw [h1, h2]
    cases f.testBit i <;> cases (c.1 && decide (i = k)) <;> cases (c.2 && decide (i = 6 + k)) <;> cases (decide (k + 1 ≤ i) && (lat l (i - (k + 1))).1) <;> rfl
theorem mk_bit (l : List Lt) (i : Nat) : (mk l).testBit i = ((lat l i).1 || (decide (6 ≤ i) && (lat l (i - 6)).2)) := by
  unfold mk
  rw [mk_fold]
  simp
theorem lat_ge {l : List Lt} {i : Nat} (h : l.length ≤ i) : lat l i = (false, false) := by
  unfold lat
  rw [List.getElem?_eq_none h]
  rfl
theorem mk_lt {l : List Lt} (h : l.length ≤ 6) {i : Nat} (hi : i < 6) : ltAt (mk l) i = lat l i := by
  unfold ltAt
  rw [mk_bit, mk_bit]
  have h1 : ¬ 6 ≤ i := by omega
  have h2 : lat l (6 + i) = (false, false) := lat_ge (by omega)
  rw [h2]
  have h3 : 6 ≤ 6 + i := by omega
  have h4 : 6 + i - 6 = i := by omega
  rw [h4]
  simp [h1, h3]
theorem lets_mk {l : List Lt} (h : l.length ≤ 6) : lets (mk l) l.length = l := by
  unfold lets
  apply List.ext_getElem?
  intro i
  rw [List.getElem?_map]
  by_cases hi : i < l.length
  · rw [List.getElem?_range hi]
    simp only [Option.map_some]
    rw [mk_lt h (by omega)]
    unfold lat
    rw [List.getElem?_eq_getElem hi]
    rfl
  · rw [List.getElem?_eq_none (by simpa using hi), List.getElem?_eq_none (by simpa using hi)]
    rfl
theorem lat_sgl {n w : Nat} {c : Lt} (h : w < n) (i : Nat) : lat (sgl n w c) i = if i = w then c else (false, false) := by
  unfold lat sgl
  by_cases h1 : i < w
  · rw [List.getElem?_append_left (by simp; omega), List.getElem?_append_left (by simp; omega), List.getElem?_replicate]
    rw [if_neg (show ¬ i = w by omega)]
    simp [h1]
  · by_cases h2 : i = w
    · subst h2
      rw [List.getElem?_append_left (by simp), List.getElem?_append_right (by simp)]
      simp
    · rw [List.getElem?_append_right (by simp; omega), if_neg h2, List.getElem?_replicate]
      split <;> rfl
theorem mk_sgl {n w : Nat} (c : Lt) (h : w < n) (hn : n ≤ 6) (i : Nat) : (mk (sgl n w c)).testBit i = ((c.1 && decide (i = w)) || (c.2 && decide (i = 6 + w))) := by
  rw [mk_bit, lat_sgl h, lat_sgl h]
  by_cases h1 : i = w
  · subst h1
    have : ¬ 6 ≤ i := by omega
    have h2 : ¬ i = 6 + i := by omega
    simp [this, h2]
  · by_cases h2 : i = 6 + w
    · subst h2
      have h3 : 6 ≤ 6 + w := by omega
      have h4 : 6 + w - 6 = w := by omega
      simp [h1, h3, h4]
    · by_cases h5 : 6 ≤ i
      · have h6 : ¬ i - 6 = w := by omega
        simp [h1, h2, h6]
      · simp [h1, h2, h5]
theorem mk_x {n w : Nat} (h : w < n) (hn : n ≤ 6) : mk (sgl n w (true, false)) = 1 <<< w := by
  apply Nat.eq_of_testBit_eq
  intro i
  rw [mk_sgl _ h hn, one_bit]
  simp
theorem mk_z {n w : Nat} (h : w < n) (hn : n ≤ 6) : mk (sgl n w (false, true)) = 1 <<< (6 + w) := by
  apply Nat.eq_of_testBit_eq
  intro i
  rw [mk_sgl _ h hn, one_bit]
  simp
/-! ### with_bits -/
theorem wb_bit (m w : Nat) (x z : Bool) (hw : w < 6) (i : Nat) : (wb m w x.toNat z.toNat).testBit i = if i = w then x else if i = 6 + w then z else m.testBit i := by
  unfold wb
  rw [Nat.testBit_or, Nat.testBit_or, shl_bit, shl_bit, Nat.testBit_xor, Nat.testBit_and, Nat.testBit_or, one_bit, one_bit]
  by_cases h1 : i = w
  · subst h1
    have : ¬ i = 6 + i := by omega
    simp [this]
  · by_cases h2 : i = 6 + w
    · subst h2
      simp [h1]
    · simp [h1, h2]
theorem wb_lt (m w : Nat) (x z : Bool) (hw : w < 6) {i : Nat} (hi : i < 6) : ltAt (wb m w x.toNat z.toNat) i = if i = w then (x, z) else ltAt m i := by
  unfold ltAt
  rw [wb_bit m w x z hw, wb_bit m w x z hw]
  by_cases h : i = w
  · subst h
    have : ¬ 6 + i = i := by omega
    simp [this]
  · have h1 : ¬ i = 6 + w := by omega
    have h2 : ¬ 6 + i = w := by omega
    have h3 : ¬ 6 + i = 6 + w := by omega
    simp [h, h1, h2, h3]
end GW

set_option Elab.async false
set_option linter.all false
set_option maxRecDepth 100000
set_option autoImplicit false
set_option maxHeartbeats 1000000
/-! PY: gates on rows of numbers. -/
namespace GW
/-! ### places by bits -/
theorem bt_bit (n p w : Nat) : bt n p w = p.testBit (n - 1 - w) := by
  unfold bt mw
  generalize n - 1 - w = k
  cases h : p.testBit k with
  | true =>
    have : p &&& 1 <<< k ≠ 0 := by
      intro e
      have h2 : (p &&& 1 <<< k).testBit k = true := by rw [Nat.testBit_and, h, one_bit]; simp
      rw [e] at h2
      simp at h2
    simp [this]
  | false =>
    have : p &&& 1 <<< k = 0 := by
      apply Nat.eq_of_testBit_eq
      intro i
      rw [Nat.testBit_and, one_bit]
      by_cases e : i = k
      · subst e; simp [h]
      · simp [e]
    simp [this]
theorem bt_xor (n p q w : Nat) : bt n (p ^^^ q) w = (bt n p w ^^ bt n q w) := by
  rw [bt_bit, bt_bit, bt_bit, Nat.testBit_xor]
theorem bt_mw {n w i : Nat} (hw : w < n) (hi : i < n) : bt n (mw n w) i = decide (i = w) := by
  rw [bt_bit]
  unfold mw
  rw [one_bit]
  by_cases e : i = w
  · subst e; simp
  · have : ¬ (n - 1 - i = n - 1 - w) := by omega
    simp [e, this]
theorem bits_ext {n p q : Nat} (hp : p < 2 ^ n) (hq : q < 2 ^ n) (h : ∀ i, i < n → bt n p i = bt n q i) : p = q := by
  apply Nat.eq_of_testBit_eq
  intro j
  by_cases hj : j < n
  · have := h (n - 1 - j) (by omega)
    rw [bt_bit, bt_bit] at this
    have e : n - 1 - (n - 1 - j) = j := by omega
    rw [e] at this
    exact this
  · rw [Nat.testBit_lt_two_pow (Nat.lt_of_lt_of_le hp (Nat.pow_le_pow_right (by decide) (by omega))), Nat.testBit_lt_two_pow (Nat.lt_of_lt_of_le hq (Nat.pow_le_pow_right (by decide) (by omega)))]
/-! ### words by functions -/
def xF (n : Nat) (c : Nat → Lt) : Nat → Nat
  | 0 => 0
  | k + 1 => if (c k).1 = true then xF n c k ^^^ mw n k else xF n c k
def fv (c : Lt) (b : Bool) : Nat := (c.1 && c.2).toNat + 2 * (c.2 && b).toNat
def tF (n : Nat) (c : Nat → Lt) (p : Nat) : Nat → Nat
  | 0 => 0
  | k + 1 => tF n c p k + fv (c k) (bt n p k)
theorem zip_rg (f : Nat → Lt) : ∀ k : Nat, ((List.range k).map f).zipIdx = (List.range k).map fun i => (f i, i) := by
  intro k
  apply List.ext_getElem?
  intro i
  rw [List.getElem?_zipIdx, List.getElem?_map, List.getElem?_map]
  cases h : (List.range k)[i]? with
  | none => rfl
  | some a =>
    have h1 := (List.getElem?_eq_some_iff.mp h).1
    rw [List.length_range] at h1
    rw [List.getElem?_range h1] at h
    cases h
    simp
theorem XL_F (n : Nat) (c : Nat → Lt) : XL n ((List.range n).map c) = xF n c n := by
  unfold XL
  rw [zip_rg]
  have gen : ∀ k, ((List.range k).map fun i => (c i, i)).foldl (xM n) 0 = xF n c k := by
    intro k
    induction k with
    | zero => rfl
    | succ k ih => rw [List.range_succ, List.map_append, List.foldl_append, ih]; rfl
  exact gen n
theorem act_F (n q : Nat) (c : Nat → Lt) (p : Nat) : (actAt n q ((List.range n).map c) p).2 = q + tF n c p n := by
  unfold actAt
  rw [zip_rg]
  have gen : ∀ k s, (((List.range k).map fun i => (c i, i)).foldl (actStep n p) (s, q)).2 = q + tF n c p k := by
    intro k s
    induction k with
    | zero => rfl
    | succ k ih =>
      rw [List.range_succ, List.map_append, List.foldl_append]
      show (_ : Nat × Nat).2 + _ + _ = _
      rw [ih]
      show _ = q + (tF n c p k + fv (c k) (bt n p k))
      unfold fv
      show q + tF n c p k + ((c k).1 && (c k).2).toNat + 2 * ((c k).2 && bt n p k).toNat = _
      omega
  exact gen n p
theorem actF_F (n q : Nat) (c : Nat → Lt) (ψ : Sf) (p : Nat) : actF n q ((List.range n).map c) ψ p = spun (ψ (p ^^^ xF n c n)) (q + tF n c (p ^^^ xF n c n) n) := by
  unfold actF
  rw [XL_F, act_F]
theorem xF_lt (n : Nat) (c : Nat → Lt) : ∀ k, k ≤ n → xF n c k < 2 ^ n
  | 0, _ => Nat.two_pow_pos n
  | k + 1, h => by
    unfold xF
    split
    · exact Nat.xor_lt_two_pow (xF_lt n c k (by omega)) (mw_lt (by omega))
    · exact xF_lt n c k (by omega)
theorem xF_bit (n : Nat) (c : Nat → Lt) {i : Nat} (hi : i < n) : ∀ k, k ≤ n → bt n (xF n c k) i = (decide (i < k) && (c i).1)
  | 0, _ => by
    have : bt n 0 i = false := by rw [bt_bit]; simp
    show bt n 0 i = _
    rw [this]; simp
  | k + 1, h => by
    unfold xF
    have ih := xF_bit n c hi k (by omega)
    by_cases e : i = k
    · subst e
      split
      · rename_i hc
        rw [bt_xor, ih, bt_mw hi hi, hc]; simp
      · rename_i hc
        rw [ih]; simp at hc; simp [hc]
    · have e2 : decide (i < k + 1) = decide (i < k) := by
        by_cases h2 : i < k
        · rw [decide_eq_true h2, decide_eq_true (by omega)]
        · rw [decide_eq_false h2, decide_eq_false (by omega)]
      rw [e2]
      split
      · rw [bt_xor, ih, bt_mw (by omega) hi, decide_eq_false e]; simp
      · exact ih
theorem xF_at (n : Nat) (c : Nat → Lt) {i : Nat} (hi : i < n) : bt n (xF n c n) i = (c i).1 := by
  rw [xF_bit n c hi n (Nat.le_refl _)]; simp [hi]
/-- sums that differ at one place -/
theorem tF_1 {n : Nat} {c c' : Nat → Lt} {u u' a : Nat} (h : ∀ i, i < n → i ≠ a → c i = c' i ∧ bt n u i = bt n u' i) : ∀ k, k ≤ n →
    tF n c u k + (if a < k then fv (c' a) (bt n u' a) else 0) = tF n c' u' k + (if a < k then fv (c a) (bt n u a) else 0)
  | 0, _ => by simp [tF]
  | k + 1, hk => by
    have ih := tF_1 h k (by omega)
    unfold tF
    by_cases e : a = k
    · subst e
      rw [if_neg (by omega), if_neg (by omega)] at ih
      rw [if_pos (by omega), if_pos (by omega)]
      omega
    · obtain ⟨h1, h2⟩ := h k (by omega) (fun e2 => e e2.symm)
      rw [h1, h2]
      by_cases h3 : a < k
      · rw [if_pos h3, if_pos h3] at ih
        rw [if_pos (by omega), if_pos (by omega)]
        omega
      · rw [if_neg h3, if_neg h3] at ih
        rw [if_neg (by omega), if_neg (by omega)]
        omega
theorem tF_2 {n : Nat} {c c' : Nat → Lt} {u u' a b : Nat} (hab : a ≠ b) (h : ∀ i, i < n → i ≠ a → i ≠ b → c i = c' i ∧ bt n u i = bt n u' i) : ∀ k, k ≤ n →
    tF n c u k + (if a < k then fv (c' a) (bt n u' a) else 0) + (if b < k then fv (c' b) (bt n u' b) else 0) = tF n c' u' k + (if a < k then fv (c a) (bt n u a) else 0) + (if b < k then fv (c b) (bt n u b) else 0)
  | 0, _ => by simp [tF]
  | k + 1, hk => by
    have ih := tF_2 hab h k (by omega)
    unfold tF
    by_cases e : a = k
    · subst e
      have e3 : (b < a + 1) ↔ (b < a) := by omega
      simp only [Nat.lt_irrefl, if_false, Nat.lt_add_one, if_true, e3] at ih ⊢
      omega
    · by_cases e2 : b = k
      · subst e2
        have e3 : (a < b + 1) ↔ (a < b) := by omega
        simp only [Nat.lt_irrefl, if_false, Nat.lt_add_one, if_true, e3] at ih ⊢
        omega
      · obtain ⟨h1, h2⟩ := h k (by omega) (fun z => e z.symm) (fun z => e2 z.symm)
        rw [h1, h2]
        have e3 : (a < k + 1) ↔ (a < k) := by omega
        have e4 : (b < k + 1) ↔ (b < k) := by omega
        simp only [e3, e4]
        omega
/-! ### turns -/
theorem spun_mod {g : G} {s t : Nat} (h : s % 4 = t % 4) : spun g s = spun g t := by unfold spun; rw [h]
theorem spun_add (g : G) (s t : Nat) : spun (spun g s) t = spun g (s + t) := by
  rw [spun_mod (show s % 4 = (s % 4) % 4 by omega), spun_mod (show t % 4 = (t % 4) % 4 by omega), spun_mod (show (s + t) % 4 = (s % 4 + t % 4) % 4 by omega)]
  have h1 : s % 4 < 4 := Nat.mod_lt _ (by decide)
  have h2 : t % 4 < 4 := Nat.mod_lt _ (by decide)
  generalize s % 4 = a at h1 ⊢
  generalize t % 4 = b at h2 ⊢
  have ha : a = 0 ∨ a = 1 ∨ a = 2 ∨ a = 3 := by omega
  have hb : b = 0 ∨ b = 1 ∨ b = 2 ∨ b = 3 := by omega
  rcases ha with rfl | rfl | rfl | rfl <;> rcases hb with rfl | rfl | rfl | rfl <;> simp [spun]
theorem spun_plus (g k : G) (t : Nat) : spun (plus g k) t = plus (spun g t) (spun k t) := by
  rw [spun_mod (show t % 4 = (t % 4) % 4 by omega), spun_mod (g := g) (show t % 4 = (t % 4) % 4 by omega), spun_mod (g := k) (show t % 4 = (t % 4) % 4 by omega)]
  have h2 : t % 4 < 4 := Nat.mod_lt _ (by decide)
  generalize t % 4 = b at h2 ⊢
  have hb : b = 0 ∨ b = 1 ∨ b = 2 ∨ b = 3 := by omega
  rcases hb with rfl | rfl | rfl | rfl <;> simp [spun, plus] <;> omega
theorem plus_comm (g k : G) : plus g k = plus k g := by unfold plus; rw [Int.add_comm, Int.add_comm g.2]
end GW

set_option Elab.async false
set_option linter.all false
set_option maxRecDepth 100000
set_option autoImplicit false
set_option maxHeartbeats 1000000
/-! PZ: each gate leads words as it acts. -/
namespace GW
def upd (c : Nat → Lt) (a : Nat) (v : Lt) : Nat → Lt := fun i => if i = a then v else c i
def lead1C (k : N1) (s : Nat × (Nat → Lt)) (a : Nat) : Nat × (Nat → Lt) :=
  match k with
  | .h => ((s.1 + 2 * ((s.2 a).1 && (s.2 a).2).toNat) % 4, upd s.2 a ((s.2 a).2, (s.2 a).1))
  | .s => ((s.1 + 2 * ((s.2 a).1 && (s.2 a).2).toNat) % 4, upd s.2 a ((s.2 a).1, ((s.2 a).1 ^^ (s.2 a).2)))
  | .x => ((s.1 + 2 * (s.2 a).2.toNat) % 4, s.2)
  | .z => ((s.1 + 2 * (s.2 a).1.toNat) % 4, s.2)
def lead2C (k : N2) (s : Nat × (Nat → Lt)) (a b : Nat) : Nat × (Nat → Lt) :=
  match k with
  | .swap => (s.1, upd (upd s.2 a (s.2 b)) b (s.2 a))
  | .cx => ((s.1 + 2 * (((s.2 a).1 && (s.2 b).2) && (((s.2 b).1 ^^ (s.2 a).2) ^^ true)).toNat) % 4, upd (upd s.2 a ((s.2 a).1, ((s.2 a).2 ^^ (s.2 b).2))) b (((s.2 b).1 ^^ (s.2 a).1), (s.2 b).2))
  | .cz => ((s.1 + 2 * (((s.2 a).1 && (s.2 b).1) && ((s.2 a).2 ^^ (s.2 b).2)).toNat) % 4, upd (upd s.2 a ((s.2 a).1, ((s.2 a).2 ^^ (s.2 b).1))) b ((s.2 b).1, ((s.2 b).2 ^^ (s.2 a).1)))
def leadC : Nat × (Nat → Lt) → Gt → Nat × (Nat → Lt)
  | s, .o k a => lead1C k s a
  | s, .t k a b => lead2C k s a b
theorem and_b (a b : Bool) : a.toNat &&& b.toNat = (a && b).toNat := by cases a <;> cases b <;> rfl
theorem xor_b (a b : Bool) : a.toNat ^^^ b.toNat = (a ^^ b).toNat := by cases a <;> cases b <;> rfl
theorem bx_l (m w : Nat) : bx m w = (ltAt m w).1.toNat := bx_bit m w
theorem bz_l (m w : Nat) : bz m w = (ltAt m w).2.toNat := bz_bit m w
theorem wb_u (m w : Nat) (x z : Bool) (hw : w < 6) {i : Nat} (hi : i < 6) : ltAt (wb m w x.toNat z.toNat) i = upd (ltAt m) w (x, z) i := wb_lt m w x z hw hi
theorem wb_u2 (m a b : Nat) (x z x2 z2 : Bool) (ha : a < 6) (hb : b < 6) {i : Nat} (hi : i < 6) : ltAt (wb (wb m a x.toNat z.toNat) b x2.toNat z2.toNat) i = upd (upd (ltAt m) a (x, z)) b (x2, z2) i := by
  rw [wb_u _ b x2 z2 hb hi]
  unfold upd
  split
  · rfl
  · exact wb_u m a x z ha hi
/-- as functions -/
theorem lead_C {g : Gt} (h : g.ok 6) (q m : Nat) : (lead (q, m) g).1 = (leadC (q, ltAt m) g).1 ∧ ∀ i, i < 6 → ltAt (lead (q, m) g).2 i = (leadC (q, ltAt m) g).2 i := by
  cases g with
  | o k a =>
    have ha : a < 6 := h
    cases k with
    | h => exact ⟨by show (q + 2 * (bx m a &&& bz m a)) % 4 = _; rw [bx_l, bz_l, and_b]; rfl, fun i hi => by show ltAt (wb m a (bz m a) (bx m a)) i = _; rw [bx_l, bz_l]; exact wb_u _ _ _ _ ha hi⟩
    | s => exact ⟨by show (q + 2 * (bx m a &&& bz m a)) % 4 = _; rw [bx_l, bz_l, and_b]; rfl, fun i hi => by show ltAt (wb m a (bx m a) (bx m a ^^^ bz m a)) i = _; rw [bx_l, bz_l, xor_b]; exact wb_u _ _ _ _ ha hi⟩
    | x => exact ⟨by show (q + 2 * bz m a) % 4 = _; rw [bz_l]; rfl, fun i hi => rfl⟩
    | z => exact ⟨by show (q + 2 * bx m a) % 4 = _; rw [bx_l]; rfl, fun i hi => rfl⟩
  | t k a b =>
    obtain ⟨ha, hb, hab⟩ : a < 6 ∧ b < 6 ∧ a ≠ b := h
    cases k with
    | swap => exact ⟨rfl, fun i hi => by show ltAt (wb (wb m a (bx m b) (bz m b)) b (bx m a) (bz m a)) i = _; rw [bx_l, bz_l, bx_l, bz_l]; exact wb_u2 _ _ _ _ _ _ _ ha hb hi⟩
    | cx =>
      refine ⟨?_, fun i hi => ?_⟩
      · show (q + 2 * ((bx m a &&& bz m b) &&& ((bx m b ^^^ bz m a) ^^^ true.toNat))) % 4 = _
        rw [bx_l, bz_l, bx_l, bz_l, and_b, xor_b, xor_b, and_b]; rfl
      · show ltAt (wb (wb m a (bx m a) (bz m a ^^^ bz m b)) b (bx m b ^^^ bx m a) (bz m b)) i = _
        rw [bx_l, bz_l, bx_l, bz_l, xor_b, xor_b]; exact wb_u2 _ _ _ _ _ _ _ ha hb hi
    | cz =>
      refine ⟨?_, fun i hi => ?_⟩
      · show (q + 2 * ((bx m a &&& bx m b) &&& (bz m a ^^^ bz m b))) % 4 = _
        rw [bx_l, bz_l, bx_l, bz_l, and_b, xor_b, and_b]; rfl
      · show ltAt (wb (wb m a (bx m a) (bz m a ^^^ bx m b)) b (bx m b) (bz m b ^^^ bx m a)) i = _
        rw [bx_l, bz_l, bx_l, bz_l, xor_b, xor_b]; exact wb_u2 _ _ _ _ _ _ _ ha hb hi
/-- the word acts -/
def A (n q : Nat) (c : Nat → Lt) (ψ : Sf) : Sf := fun p => spun (ψ (p ^^^ xF n c n)) (q + tF n c (p ^^^ xF n c n) n)
theorem xF_same {n : Nat} {c c' : Nat → Lt} (h : ∀ i, i < n → (c i).1 = (c' i).1) : xF n c n = xF n c' n :=
  bits_ext (xF_lt n c n (Nat.le_refl _)) (xF_lt n c' n (Nat.le_refl _)) fun i hi => by rw [xF_at n c hi, xF_at n c' hi, h i hi]
theorem A_congr {n q : Nat} {c c' : Nat → Lt} (h : ∀ i, i < n → c i = c' i) (ψ : Sf) (p : Nat) : A n q c ψ p = A n q c' ψ p := by
  unfold A
  rw [xF_same fun i hi => by rw [h i hi]]
  have : ∀ k, k ≤ n → tF n c (p ^^^ xF n c' n) k = tF n c' (p ^^^ xF n c' n) k := by
    intro k
    induction k with
    | zero => intro _; rfl
    | succ k ih => intro hk; unfold tF; rw [ih (by omega), h k (by omega)]
  rw [this n (Nat.le_refl _)]
theorem xr (p m x : Nat) : p ^^^ m ^^^ x = p ^^^ x ^^^ m := by rw [Nat.xor_assoc, Nat.xor_comm m x, ← Nat.xor_assoc]
theorem fin1 {n q q' s s' a u u' : Nat} {c c' : Nat → Lt} (ha : a < n) (h : ∀ i, i < n → i ≠ a → c i = c' i ∧ bt n u i = bt n u' i)
    (e : (q + fv (c a) (bt n u a) + s) % 4 = (s' + q' + fv (c' a) (bt n u' a)) % 4) : (q + tF n c u n + s) % 4 = (s' + (q' + tF n c' u' n)) % 4 := by
  have := tF_1 h n (Nat.le_refl _)
  rw [if_pos ha, if_pos ha] at this
  omega
theorem fin2 {n q q' s s' a b u u' : Nat} {c c' : Nat → Lt} (hab : a ≠ b) (ha : a < n) (hb : b < n) (h : ∀ i, i < n → i ≠ a → i ≠ b → c i = c' i ∧ bt n u i = bt n u' i)
    (e : (q + fv (c a) (bt n u a) + fv (c b) (bt n u b) + s) % 4 = (s' + q' + fv (c' a) (bt n u' a) + fv (c' b) (bt n u' b)) % 4) : (q + tF n c u n + s) % 4 = (s' + (q' + tF n c' u' n)) % 4 := by
  have := tF_2 hab h n (Nat.le_refl _)
  rw [if_pos ha, if_pos ha, if_pos hb, if_pos hb] at this
  omega
theorem upd_at (c : Nat → Lt) (a : Nat) (v : Lt) : upd c a v a = v := by unfold upd; rw [if_pos rfl]
theorem upd_ne (c : Nat → Lt) {a i : Nat} (v : Lt) (h : i ≠ a) : upd c a v i = c i := by unfold upd; rw [if_neg h]
/-- gates of one wire that turn or exchange -/
theorem step_x {n q a : Nat} (ha : a < n) (c : Nat → Lt) (ψ : Sf) (p : Nat) : gate1 .x n a (A n q c ψ) p = A n (lead1C .x (q, c) a).1 (lead1C .x (q, c) a).2 (gate1 .x n a ψ) p := by
  show A n q c ψ (p ^^^ mw n a) = spun (ψ ((p ^^^ xF n c n) ^^^ mw n a)) _
  unfold A
  rw [xr]
  refine spun_mod ?_
  have := fin1 (q := q) (q' := (q + 2 * (c a).2.toNat) % 4) (s := 0) (s' := 0) (u := p ^^^ xF n c n ^^^ mw n a) (u' := p ^^^ xF n c n) ha (c := c) (c' := c) (fun i hi hia => ⟨rfl, by rw [bt_xor, bt_mw ha hi, decide_eq_false hia, Bool.xor_false]⟩) ?_
  · show _ = ((q + 2 * (c a).2.toNat) % 4 + tF n c (p ^^^ xF n c n) n) % 4
    omega
  · rw [bt_xor n (p ^^^ xF n c n), bt_mw ha ha, decide_eq_true rfl]
    unfold fv
    rcases c a with ⟨_ | _, _ | _⟩ <;> cases bt n (p ^^^ xF n c n) a <;> simp <;> omega
theorem step_z {n q a : Nat} (ha : a < n) (c : Nat → Lt) (ψ : Sf) (p : Nat) : gate1 .z n a (A n q c ψ) p = A n (lead1C .z (q, c) a).1 (lead1C .z (q, c) a).2 (gate1 .z n a ψ) p := by
  show spun (A n q c ψ p) ((bt n p a).toNat * 2) = spun (spun (ψ (p ^^^ xF n c n)) ((bt n (p ^^^ xF n c n) a).toNat * 2)) ((q + 2 * (c a).1.toNat) % 4 + tF n c (p ^^^ xF n c n) n)
  unfold A
  rw [spun_add, spun_add]
  refine spun_mod ?_
  rw [bt_xor n p, xF_at n c ha]
  cases (c a).1 <;> cases bt n p a <;> simp <;> omega
theorem step_s {n q a : Nat} (ha : a < n) (c : Nat → Lt) (ψ : Sf) (p : Nat) : gate1 .s n a (A n q c ψ) p = A n (lead1C .s (q, c) a).1 (lead1C .s (q, c) a).2 (gate1 .s n a ψ) p := by
  have hx : xF n (upd c a ((c a).1, ((c a).1 ^^ (c a).2))) n = xF n c n := xF_same fun i hi => by
    unfold upd
    split
    · rename_i e; subst e; rfl
    · rfl
  show spun (A n q c ψ p) ((bt n p a).toNat * 1) = A n ((q + 2 * ((c a).1 && (c a).2).toNat) % 4) (upd c a ((c a).1, ((c a).1 ^^ (c a).2))) (gate1 .s n a ψ) p
  unfold A
  rw [hx]
  show _ = spun (spun (ψ (p ^^^ xF n c n)) ((bt n (p ^^^ xF n c n) a).toNat * 1)) _
  rw [spun_add, spun_add]
  refine spun_mod ?_
  refine fin1 (a := a) ha (fun i hi hia => ⟨(upd_ne c _ hia).symm, rfl⟩) ?_
  rw [upd_at, bt_xor n p, xF_at n c ha]
  unfold fv
  rcases c a with ⟨_ | _, _ | _⟩ <;> cases bt n p a <;> simp <;> omega
theorem step_h {n q a : Nat} (ha : a < n) (c : Nat → Lt) (ψ : Sf) (p : Nat) : gate1 .h n a (A n q c ψ) p = A n (lead1C .h (q, c) a).1 (lead1C .h (q, c) a).2 (gate1 .h n a ψ) p := by
  show plus (A n q c ψ (p ^^^ mw n a)) (spun (A n q c ψ p) (2 * (bt n p a).toNat)) = A n ((q + 2 * ((c a).1 && (c a).2).toNat) % 4) (upd c a ((c a).2, (c a).1)) (gate1 .h n a ψ) p
  generalize hc' : upd c a ((c a).2, (c a).1) = c'
  have hca : c' a = ((c a).2, (c a).1) := by rw [← hc', upd_at]
  have hco : ∀ i, i ≠ a → c' i = c i := fun i h => by rw [← hc', upd_ne c _ h]
  unfold A
  show _ = spun (plus (ψ (p ^^^ xF n c' n ^^^ mw n a)) (spun (ψ (p ^^^ xF n c' n)) (2 * (bt n (p ^^^ xF n c' n) a).toNat))) _
  rw [spun_plus, spun_add, spun_add]
  have hbit : ∀ i, i < n → i ≠ a → bt n (xF n c' n) i = bt n (xF n c n) i := fun i hi h => by rw [xF_at n c' hi, xF_at n c hi, hco i h]
  by_cases hxz : (c a).1 = (c a).2
  · have hX : xF n c' n = xF n c n := xF_same fun i hi => by
      by_cases h : i = a
      · subst h; rw [hca]; exact hxz.symm
      · rw [hco i h]
    rw [hX, xr]
    congr 1
    · refine spun_mod ?_
      have := fin1 (q := q) (q' := (q + 2 * ((c a).1 && (c a).2).toNat) % 4) (s := 0) (s' := 0) (u := p ^^^ xF n c n ^^^ mw n a) (u' := p ^^^ xF n c n) ha (c := c) (c' := c') (fun i hi hia => ⟨(hco i hia).symm, by rw [bt_xor, bt_mw ha hi, decide_eq_false hia, Bool.xor_false]⟩) ?_
      · omega
      · rw [bt_xor n (p ^^^ xF n c n), bt_mw ha ha, decide_eq_true rfl, hca, bt_xor n p, xF_at n c ha]
        revert hxz
        unfold fv
        rcases c a with ⟨_ | _, _ | _⟩ <;> cases bt n p a <;> simp <;> omega
    · refine spun_mod ?_
      refine fin1 ha (fun i hi hia => ⟨(hco i hia).symm, rfl⟩) ?_
      rw [hca, bt_xor n p, xF_at n c ha]
      revert hxz
      unfold fv
      rcases c a with ⟨_ | _, _ | _⟩ <;> cases bt n p a <;> simp <;> omega
  · have hX : xF n c' n = xF n c n ^^^ mw n a := bits_ext (xF_lt n c' n (Nat.le_refl _)) (Nat.xor_lt_two_pow (xF_lt n c n (Nat.le_refl _)) (mw_lt ha)) fun i hi => by
      rw [bt_xor, bt_mw ha hi, xF_at n c' hi, xF_at n c hi]
      by_cases h : i = a
      · subst h
        rw [hca, decide_eq_true rfl]
        revert hxz
        rcases c i with ⟨_ | _, _ | _⟩ <;> simp
      · rw [hco i h, decide_eq_false h, Bool.xor_false]
    have e1 : p ^^^ (xF n c n ^^^ mw n a) = p ^^^ mw n a ^^^ xF n c n := by rw [xr, Nat.xor_assoc]
    rw [hX, e1]
    have e2 : p ^^^ mw n a ^^^ xF n c n ^^^ mw n a = p ^^^ xF n c n := by rw [xr, xor_xor]
    rw [e2, plus_comm]
    congr 1
    · refine spun_mod ?_
      have := fin1 (q := q) (q' := (q + 2 * ((c a).1 && (c a).2).toNat) % 4) (s := 2 * (bt n p a).toNat) (s' := 0) (u := p ^^^ xF n c n) (u' := p ^^^ mw n a ^^^ xF n c n) ha (c := c) (c' := c') (fun i hi hia => ⟨(hco i hia).symm, by rw [bt_xor, bt_xor n (p ^^^ mw n a), bt_xor n p, bt_mw ha hi, decide_eq_false hia, Bool.xor_false]⟩) ?_
      · omega
      · rw [bt_xor n (p ^^^ mw n a), bt_xor n p (mw n a), bt_xor n p (xF n c n), bt_mw ha ha, decide_eq_true rfl, hca, xF_at n c ha]
        revert hxz
        unfold fv
        rcases c a with ⟨_ | _, _ | _⟩ <;> cases bt n p a <;> simp <;> omega
    · refine spun_mod ?_
      refine fin1 (s := 0) ha (fun i hi hia => ⟨(hco i hia).symm, rfl⟩) ?_
      rw [hca, bt_xor n (p ^^^ mw n a), bt_xor n p, bt_mw ha ha, decide_eq_true rfl, xF_at n c ha]
      revert hxz
      unfold fv
      rcases c a with ⟨_ | _, _ | _⟩ <;> cases bt n p a <;> simp <;> omega
end GW

set_option Elab.async false
set_option linter.all false
set_option maxRecDepth 100000
set_option autoImplicit false
set_option maxHeartbeats 2000000
/-! PV: gates of two wires; rows of gates. -/
namespace GW
theorem step_cz {n q a b : Nat} (ha : a < n) (hb : b < n) (hab : a ≠ b) (c : Nat → Lt) (ψ : Sf) (p : Nat) : gate2 .cz n a b (A n q c ψ) p = A n (lead2C .cz (q, c) a b).1 (lead2C .cz (q, c) a b).2 (gate2 .cz n a b ψ) p := by
  show spun (A n q c ψ p) (2 * (bt n p a && bt n p b).toNat) = A n ((q + 2 * (((c a).1 && (c b).1) && ((c a).2 ^^ (c b).2)).toNat) % 4) (upd (upd c a ((c a).1, ((c a).2 ^^ (c b).1))) b ((c b).1, ((c b).2 ^^ (c a).1))) (gate2 .cz n a b ψ) p
  generalize hc' : upd (upd c a ((c a).1, ((c a).2 ^^ (c b).1))) b ((c b).1, ((c b).2 ^^ (c a).1)) = c'
  have hcb : c' b = ((c b).1, ((c b).2 ^^ (c a).1)) := by rw [← hc', upd_at]
  have hca : c' a = ((c a).1, ((c a).2 ^^ (c b).1)) := by rw [← hc', upd_ne _ _ hab, upd_at]
  have hco : ∀ i, i ≠ a → i ≠ b → c' i = c i := fun i h h2 => by rw [← hc', upd_ne _ _ h2, upd_ne c _ h]
  have hX : xF n c' n = xF n c n := xF_same fun i hi => by
    by_cases h : i = a
    · subst h; rw [hca]
    · by_cases h2 : i = b
      · subst h2; rw [hcb]
      · rw [hco i h h2]
  unfold A
  rw [hX]
  show _ = spun (spun (ψ (p ^^^ xF n c n)) (2 * (bt n (p ^^^ xF n c n) a && bt n (p ^^^ xF n c n) b).toNat)) _
  rw [spun_add, spun_add]
  refine spun_mod ?_
  refine fin2 hab ha hb (fun i hi h h2 => ⟨(hco i h h2).symm, rfl⟩) ?_
  rw [hca, hcb, bt_xor n p, bt_xor n p, xF_at n c ha, xF_at n c hb]
  unfold fv
  rcases c a with ⟨_ | _, _ | _⟩ <;> rcases c b with ⟨_ | _, _ | _⟩ <;> cases bt n p a <;> cases bt n p b <;> simp <;> omega
/-- where cx, swap send a place -/
def sx (n a b p : Nat) : Nat := if bt n p a = true then p ^^^ mw n b else p
theorem sx_bit {n a b p i : Nat} (hb : b < n) (hi : i < n) : bt n (sx n a b p) i = (bt n p i ^^ (bt n p a && decide (i = b))) := by
  unfold sx
  split
  · rename_i h; rw [bt_xor, bt_mw hb hi, h]; simp
  · rename_i h; simp at h; rw [h]; simp
theorem sx_lt {n a b p : Nat} (hb : b < n) (hp : p < 2 ^ n) : sx n a b p < 2 ^ n := by
  unfold sx
  split
  · exact xor_lt hp hb
  · exact hp
theorem cx_sx (n a b : Nat) (ψ : Sf) (p : Nat) : gate2 .cx n a b ψ p = ψ (sx n a b p) := by
  show (if bt n p a = true then ψ (p ^^^ mw n b) else ψ p) = _
  unfold sx
  split <;> rfl
theorem step_cx {n q a b : Nat} (ha : a < n) (hb : b < n) (hab : a ≠ b) (c : Nat → Lt) (ψ : Sf) {p : Nat} (hp : p < 2 ^ n) : gate2 .cx n a b (A n q c ψ) p = A n (lead2C .cx (q, c) a b).1 (lead2C .cx (q, c) a b).2 (gate2 .cx n a b ψ) p := by
  rw [cx_sx]
  show _ = A n ((q + 2 * (((c a).1 && (c b).2) && (((c b).1 ^^ (c a).2) ^^ true)).toNat) % 4) (upd (upd c a ((c a).1, ((c a).2 ^^ (c b).2))) b (((c b).1 ^^ (c a).1), (c b).2)) (gate2 .cx n a b ψ) p
  generalize hc' : upd (upd c a ((c a).1, ((c a).2 ^^ (c b).2))) b (((c b).1 ^^ (c a).1), (c b).2) = c'
  have hcb : c' b = (((c b).1 ^^ (c a).1), (c b).2) := by rw [← hc', upd_at]
  have hca : c' a = ((c a).1, ((c a).2 ^^ (c b).2)) := by rw [← hc', upd_ne _ _ hab, upd_at]
  have hco : ∀ i, i ≠ a → i ≠ b → c' i = c i := fun i h h2 => by rw [← hc', upd_ne _ _ h2, upd_ne c _ h]
  unfold A
  rw [cx_sx]
  have l1 := xF_lt n c n (Nat.le_refl _)
  have l2 := xF_lt n c' n (Nat.le_refl _)
  have e : sx n a b p ^^^ xF n c n = sx n a b (p ^^^ xF n c' n) := bits_ext (Nat.xor_lt_two_pow (sx_lt hb hp) l1) (sx_lt hb (Nat.xor_lt_two_pow hp l2)) fun i hi => by
    rw [bt_xor, sx_bit hb hi, sx_bit hb hi, bt_xor n p, bt_xor n p, xF_at n c hi, xF_at n c' hi, xF_at n c' ha, hca]
    by_cases h : i = a
    · subst h; rw [hca, decide_eq_false hab]; simp
    · by_cases h2 : i = b
      · subst h2; rw [hcb, decide_eq_true rfl]; cases bt n p i <;> cases bt n p a <;> cases (c i).1 <;> cases (c a).1 <;> rfl
      · rw [hco i h h2, decide_eq_false h2]; simp
  rw [← e]
  refine spun_mod ?_
  have := fin2 (q := q) (q' := (q + 2 * (((c a).1 && (c b).2) && (((c b).1 ^^ (c a).2) ^^ true)).toNat) % 4) (s := 0) (s' := 0) (u := sx n a b p ^^^ xF n c n) (u' := p ^^^ xF n c' n) hab ha hb (c := c) (c' := c') (fun i hi h h2 => ⟨(hco i h h2).symm, by rw [bt_xor, bt_xor, sx_bit hb hi, xF_at n c hi, xF_at n c' hi, hco i h h2, decide_eq_false h2]; simp⟩) ?_
  · omega
  · rw [bt_xor, bt_xor, bt_xor, bt_xor, sx_bit hb ha, sx_bit hb hb, xF_at n c ha, xF_at n c hb, xF_at n c' ha, xF_at n c' hb, hca, hcb, decide_eq_false hab, decide_eq_true rfl]
    unfold fv
    rcases c a with ⟨_ | _, _ | _⟩ <;> rcases c b with ⟨_ | _, _ | _⟩ <;> cases bt n p a <;> cases bt n p b <;> simp <;> omega
def sw (n a b p : Nat) : Nat := if bt n p a = bt n p b then p else p ^^^ mw n a ^^^ mw n b
theorem sw_bit {n a b p i : Nat} (ha : a < n) (hb : b < n) (hi : i < n) : bt n (sw n a b p) i = (bt n p i ^^ ((bt n p a ^^ bt n p b) && (decide (i = a) ^^ decide (i = b)))) := by
  unfold sw
  split
  · rename_i h; rw [h]; simp
  · rename_i h
    have h2 : (bt n p a ^^ bt n p b) = true := by revert h; cases bt n p a <;> cases bt n p b <;> simp
    rw [bt_xor, bt_xor, bt_mw ha hi, bt_mw hb hi, h2]; simp
theorem sw_lt {n a b p : Nat} (ha : a < n) (hb : b < n) (hp : p < 2 ^ n) : sw n a b p < 2 ^ n := by
  unfold sw
  split
  · exact hp
  · exact xor_lt (xor_lt hp ha) hb
theorem swap_sw (n a b : Nat) (ψ : Sf) (p : Nat) : gate2 .swap n a b ψ p = ψ (sw n a b p) := by
  show (if bt n p a = bt n p b then ψ p else ψ (p ^^^ mw n a ^^^ mw n b)) = _
  unfold sw
  split <;> rfl
theorem step_swap {n q a b : Nat} (ha : a < n) (hb : b < n) (hab : a ≠ b) (c : Nat → Lt) (ψ : Sf) {p : Nat} (hp : p < 2 ^ n) : gate2 .swap n a b (A n q c ψ) p = A n (lead2C .swap (q, c) a b).1 (lead2C .swap (q, c) a b).2 (gate2 .swap n a b ψ) p := by
  rw [swap_sw]
  show _ = A n q (upd (upd c a (c b)) b (c a)) (gate2 .swap n a b ψ) p
  generalize hc' : upd (upd c a (c b)) b (c a) = c'
  have hcb : c' b = c a := by rw [← hc', upd_at]
  have hca : c' a = c b := by rw [← hc', upd_ne _ _ hab, upd_at]
  have hco : ∀ i, i ≠ a → i ≠ b → c' i = c i := fun i h h2 => by rw [← hc', upd_ne _ _ h2, upd_ne c _ h]
  unfold A
  rw [swap_sw]
  have l1 := xF_lt n c n (Nat.le_refl _)
  have l2 := xF_lt n c' n (Nat.le_refl _)
  have hba : b ≠ a := fun e => hab e.symm
  have e : sw n a b p ^^^ xF n c n = sw n a b (p ^^^ xF n c' n) := bits_ext (Nat.xor_lt_two_pow (sw_lt ha hb hp) l1) (sw_lt ha hb (Nat.xor_lt_two_pow hp l2)) fun i hi => by
    rw [bt_xor, sw_bit ha hb hi, sw_bit ha hb hi, bt_xor n p, bt_xor n p, bt_xor n p, xF_at n c hi, xF_at n c' hi, xF_at n c' ha, xF_at n c' hb, hca, hcb]
    by_cases h : i = a
    · subst h; rw [hca, decide_eq_false hab, decide_eq_true rfl]; cases bt n p i <;> cases bt n p b <;> cases (c i).1 <;> cases (c b).1 <;> rfl
    · by_cases h2 : i = b
      · subst h2; rw [hcb, decide_eq_false h, decide_eq_true rfl]; cases bt n p i <;> cases bt n p a <;> cases (c i).1 <;> cases (c a).1 <;> rfl
      · rw [hco i h h2, decide_eq_false h2, decide_eq_false h]; simp
  rw [← e]
  refine spun_mod ?_
  have := fin2 (q := q) (q' := q) (s := 0) (s' := 0) (u := sw n a b p ^^^ xF n c n) (u' := p ^^^ xF n c' n) hab ha hb (c := c) (c' := c') (fun i hi h h2 => ⟨(hco i h h2).symm, by rw [bt_xor, bt_xor, sw_bit ha hb hi, xF_at n c hi, xF_at n c' hi, hco i h h2, decide_eq_false h2, decide_eq_false h]; simp⟩) ?_
  · omega
  · rw [bt_xor, bt_xor, bt_xor, bt_xor, sw_bit ha hb ha, sw_bit ha hb hb, xF_at n c ha, xF_at n c hb, xF_at n c' ha, xF_at n c' hb, hca, hcb, decide_eq_false hab, decide_eq_false hba, decide_eq_true rfl, decide_eq_true rfl]
    unfold fv
    rcases c a with ⟨_ | _, _ | _⟩ <;> rcases c b with ⟨_ | _, _ | _⟩ <;> cases bt n p a <;> cases bt n p b <;> simp <;> omega
theorem stepC {n q : Nat} {g : Gt} (hg : g.ok n) (c : Nat → Lt) (ψ : Sf) {p : Nat} (hp : p < 2 ^ n) : gateF n g (A n q c ψ) p = A n (leadC (q, c) g).1 (leadC (q, c) g).2 (gateF n g ψ) p := by
  cases g with
  | o k a => cases k with
    | h => exact step_h hg c ψ p
    | s => exact step_s hg c ψ p
    | x => exact step_x hg c ψ p
    | z => exact step_z hg c ψ p
  | t k a b =>
    obtain ⟨ha, hb, hab⟩ : a < n ∧ b < n ∧ a ≠ b := hg
    cases k with
    | cx => exact step_cx ha hb hab c ψ hp
    | cz => exact step_cz ha hb hab c ψ p
    | swap => exact step_swap ha hb hab c ψ hp
/-- the word of quarters and marks acts -/
theorem actF_A (n q m : Nat) (ψ : Sf) (p : Nat) : actF n q (lets m n) ψ p = A n q (ltAt m) ψ p := actF_F n q (ltAt m) ψ p
theorem step_m {n q m : Nat} {g : Gt} (hn : n ≤ 6) (hg : g.ok n) (ψ : Sf) {p : Nat} (hp : p < 2 ^ n) : gateF n g (A n q (ltAt m) ψ) p = A n (lead (q, m) g).1 (ltAt (lead (q, m) g).2) (gateF n g ψ) p := by
  obtain ⟨h1, h2⟩ := lead_C (Gt.ok_mono hg hn) q m
  rw [stepC hg _ ψ hp, h1]
  exact A_congr (fun i hi => (h2 i (by omega)).symm) _ p
theorem gateF_congr {n : Nat} {g : Gt} (hg : g.ok n) {ψ φ : Sf} (h : ∀ p, p < 2 ^ n → ψ p = φ p) {p : Nat} (hp : p < 2 ^ n) : gateF n g ψ p = gateF n g φ p := by
  cases g with
  | o k a =>
    have ha : a < n := hg
    have h1 := h _ (xor_lt hp ha)
    cases k with
    | h => show plus _ (spun _ _) = plus _ (spun _ _); rw [h1, h p hp]
    | x => exact h1
    | s => show spun _ _ = spun _ _; rw [h p hp]
    | z => show spun _ _ = spun _ _; rw [h p hp]
  | t k a b =>
    obtain ⟨ha, hb, hab⟩ : a < n ∧ b < n ∧ a ≠ b := hg
    cases k with
    | cx => show gate2 .cx n a b ψ p = gate2 .cx n a b φ p; rw [cx_sx, cx_sx]; exact h _ (sx_lt hb hp)
    | cz => show spun _ _ = spun _ _; rw [h p hp]
    | swap => show gate2 .swap n a b ψ p = gate2 .swap n a b φ p; rw [swap_sw, swap_sw]; exact h _ (sw_lt ha hb hp)
theorem gatesF_congr {n : Nat} : ∀ {gs : List Gt}, (∀ g ∈ gs, g.ok n) → ∀ {ψ φ : Sf}, (∀ p, p < 2 ^ n → ψ p = φ p) → ∀ p, p < 2 ^ n → gatesF n gs ψ p = gatesF n gs φ p
  | [], _, ψ, φ, h, p, hp => h p hp
  | g :: gs, hg, ψ, φ, h, p, hp => by
    show gatesF n gs (gateF n g ψ) p = gatesF n gs (gateF n g φ) p
    exact gatesF_congr (fun k hk => hg k (List.mem_cons_of_mem _ hk)) (fun p hp => gateF_congr (hg g List.mem_cons_self) h hp) p hp
theorem gates_A {n : Nat} (hn : n ≤ 6) : ∀ (gs : List Gt), (∀ g ∈ gs, g.ok n) → ∀ (q m : Nat) (ψ : Sf) (p : Nat), p < 2 ^ n → gatesF n gs (A n q (ltAt m) ψ) p = A n (ledS (q, m) gs).1 (ltAt (ledS (q, m) gs).2) (gatesF n gs ψ) p
  | [], _, q, m, ψ, p, hp => rfl
  | g :: gs, hg, q, m, ψ, p, hp => by
    have hg2 : ∀ k ∈ gs, k.ok n := fun k hk => hg k (List.mem_cons_of_mem _ hk)
    show gatesF n gs (gateF n g (A n q (ltAt m) ψ)) p = A n (ledS (lead (q, m) g) gs).1 (ltAt (ledS (lead (q, m) g) gs).2) (gatesF n gs (gateF n g ψ)) p
    rw [gatesF_congr hg2 (fun p hp => step_m hn (hg g List.mem_cons_self) ψ hp) p hp]
    exact gates_A hn gs hg2 _ _ _ p hp
end GW

set_option Elab.async false
set_option linter.all false
set_option maxRecDepth 100000
set_option autoImplicit false
set_option maxHeartbeats 1000000
/-! PU: gates and gates back. -/
namespace GW
/-- alike: the same quarters, the same letters -/
def Al (s t : Nat × Nat) : Prop := s.1 = t.1 ∧ ∀ i, i < 6 → ltAt s.2 i = ltAt t.2 i
theorem Al.trans {s t u : Nat × Nat} (a : Al s t) (b : Al t u) : Al s u := ⟨a.1.trans b.1, fun i hi => (a.2 i hi).trans (b.2 i hi)⟩
theorem leadC_congr {q : Nat} {c c' : Nat → Lt} {g : Gt} (hg : g.ok 6) (h : ∀ i, i < 6 → c i = c' i) : (leadC (q, c) g).1 = (leadC (q, c') g).1 ∧ ∀ i, i < 6 → (leadC (q, c) g).2 i = (leadC (q, c') g).2 i := by
  cases g with
  | o k a =>
    have ha := h a hg
    cases k <;> exact ⟨by simp only [leadC, lead1C, ha], fun i hi => by simp only [leadC, lead1C, upd, ha, h i hi]⟩
  | t k a b =>
    obtain ⟨la, lb, hab⟩ : a < 6 ∧ b < 6 ∧ a ≠ b := hg
    have ha := h a la
    have hb := h b lb
    cases k <;> exact ⟨by simp only [leadC, lead2C, ha, hb], fun i hi => by simp only [leadC, lead2C, upd, ha, hb, h i hi]⟩
theorem lead_Al {s t : Nat × Nat} {g : Gt} (hg : g.ok 6) (h : Al s t) : Al (lead s g) (lead t g) := by
  obtain ⟨q, m⟩ := s
  obtain ⟨q', m'⟩ := t
  obtain ⟨h1, h2⟩ := h
  have e : q = q' := h1
  subst e
  have a1 := lead_C hg q m
  have a2 := lead_C hg q m'
  have a3 := leadC_congr (q := q) hg h2
  exact ⟨by rw [a1.1, a2.1, a3.1], fun i hi => by rw [a1.2 i hi, a2.2 i hi, a3.2 i hi]⟩
theorem ledS_Al : ∀ {gs : List Gt} {s t : Nat × Nat}, (∀ g ∈ gs, g.ok 6) → Al s t → Al (ledS s gs) (ledS t gs)
  | [], _, _, _, h => h
  | g :: gs, s, t, hg, h => ledS_Al (gs := gs) (fun k hk => hg k (List.mem_cons_of_mem _ hk)) (lead_Al (hg g List.mem_cons_self) h)
/-- two quarters or none -/
def Ev (q : Nat) : Prop := q = 0 ∨ q = 2
theorem Ev.step {q t : Nat} (h : Ev q) : Ev ((q + 2 * t) % 4) := by
  unfold Ev at h ⊢
  omega
theorem lead_Ev {s : Nat × Nat} {g : Gt} (h : Ev s.1) : Ev (lead s g).1 := by
  cases g with
  | o k a => cases k <;> exact h.step
  | t k a b => cases k <;> first | exact h.step | exact h
theorem ledS_Ev : ∀ {gs : List Gt} {s : Nat × Nat}, Ev s.1 → Ev (ledS s gs).1
  | [], _, h => h
  | g :: gs, s, h => ledS_Ev (gs := gs) (lead_Ev h)
theorem ledC_eq {q m : Nat} {gs : List Gt} (hg : ∀ g ∈ gs, g.ok 6) : (ledS (q, m) gs).1 = (gs.foldl leadC (q, ltAt m)).1 ∧ ∀ i, i < 6 → ltAt (ledS (q, m) gs).2 i = (gs.foldl leadC (q, ltAt m)).2 i := by
  have gen : ∀ (gs : List Gt) (q m : Nat) (c : Nat → Lt), (∀ g ∈ gs, g.ok 6) → (∀ i, i < 6 → ltAt m i = c i) → (ledS (q, m) gs).1 = (gs.foldl leadC (q, c)).1 ∧ ∀ i, i < 6 → ltAt (ledS (q, m) gs).2 i = (gs.foldl leadC (q, c)).2 i := by
    intro gs
    induction gs with
    | nil => intro q m c _ h; exact ⟨rfl, h⟩
    | cons g gs ih =>
      intro q m c hg h
      have a1 := lead_C (hg g List.mem_cons_self) q m
      have a2 := leadC_congr (q := q) (hg g List.mem_cons_self) h
      show (ledS (lead (q, m) g) gs).1 = (gs.foldl leadC (leadC (q, c) g)).1 ∧ _
      have e : lead (q, m) g = ((leadC (q, c) g).1, (lead (q, m) g).2) := by rw [← a2.1, ← a1.1]
      rw [e]
      have := ih (leadC (q, c) g).1 (lead (q, m) g).2 (leadC (q, c) g).2 (fun k hk => hg k (List.mem_cons_of_mem _ hk)) (fun i hi => by rw [a1.2 i hi, a2.2 i hi])
      refine ⟨this.1, fun i hi => ?_⟩
      have h2 := this.2 i hi
      rw [← e] at h2
      exact h2
  exact gen gs q m _ hg fun _ _ => rfl
/-- a gate undone -/
theorem undo_C {q : Nat} (hq : Ev q) {g : Gt} (hg : g.ok 6) (c : Nat → Lt) : ((back1 g ++ [g]).foldl leadC (q, c)).1 = q ∧ ∀ i, ((back1 g ++ [g]).foldl leadC (q, c)).2 i = c i := by
  cases g with
  | o k a =>
    cases k with
    | h =>
      show ((((q + 2 * ((c a).1 && (c a).2).toNat) % 4) + 2 * (((upd c a ((c a).2, (c a).1)) a).1 && ((upd c a ((c a).2, (c a).1)) a).2).toNat) % 4 = q) ∧ ∀ i, upd (upd c a ((c a).2, (c a).1)) a (((upd c a ((c a).2, (c a).1)) a).2, ((upd c a ((c a).2, (c a).1)) a).1) i = c i
      rw [upd_at]
      refine ⟨?_, fun i => ?_⟩
      · rcases hq with rfl | rfl <;> rcases c a with ⟨_ | _, _ | _⟩ <;> rfl
      · by_cases h : i = a
        · subst h; rw [upd_at]
        · rw [upd_ne _ _ h, upd_ne _ _ h]
    | s =>
      show (lead1C .s (lead1C .z (lead1C .s (q, c) a) a) a).1 = q ∧ ∀ i, (lead1C .s (lead1C .z (lead1C .s (q, c) a) a) a).2 i = c i
      show ((((q + 2 * ((c a).1 && (c a).2).toNat) % 4 + 2 * ((upd c a ((c a).1, ((c a).1 ^^ (c a).2))) a).1.toNat) % 4) + 2 * (((upd c a ((c a).1, ((c a).1 ^^ (c a).2))) a).1 && ((upd c a ((c a).1, ((c a).1 ^^ (c a).2))) a).2).toNat) % 4 = q ∧ ∀ i, upd (upd c a ((c a).1, ((c a).1 ^^ (c a).2))) a (((upd c a ((c a).1, ((c a).1 ^^ (c a).2))) a).1, (((upd c a ((c a).1, ((c a).1 ^^ (c a).2))) a).1 ^^ ((upd c a ((c a).1, ((c a).1 ^^ (c a).2))) a).2)) i = c i
      rw [upd_at]
      refine ⟨?_, fun i => ?_⟩
      · rcases hq with rfl | rfl <;> rcases c a with ⟨_ | _, _ | _⟩ <;> rfl
      · by_cases h : i = a
        · subst h; rw [upd_at]; rcases c i with ⟨_ | _, _ | _⟩ <;> rfl
        · rw [upd_ne _ _ h, upd_ne _ _ h]
    | x =>
      refine ⟨?_, fun i => rfl⟩
      show ((q + 2 * (c a).2.toNat) % 4 + 2 * (c a).2.toNat) % 4 = q
      rcases hq with rfl | rfl <;> cases (c a).2 <;> rfl
    | z =>
      refine ⟨?_, fun i => rfl⟩
      show ((q + 2 * (c a).1.toNat) % 4 + 2 * (c a).1.toNat) % 4 = q
      rcases hq with rfl | rfl <;> cases (c a).1 <;> rfl
  | t k a b =>
    obtain ⟨la, lb, hab⟩ : a < 6 ∧ b < 6 ∧ a ≠ b := hg
    have hba : b ≠ a := fun e => hab e.symm
    have two : ∀ (v w : Lt), upd (upd c a v) b w a = v ∧ upd (upd c a v) b w b = w := fun v w => ⟨by rw [upd_ne _ _ hab, upd_at], upd_at _ _ _⟩
    have back2 : ∀ (v w v' w' : Lt), v' = c a → w' = c b → ∀ i, upd (upd (upd (upd c a v) b w) a v') b w' i = c i := fun v w v' w' h1 h2 i => by
      by_cases hb : i = b
      · subst hb; rw [upd_at, h2]
      · rw [upd_ne _ _ hb]
        by_cases ha : i = a
        · subst ha; rw [upd_at, h1]
        · rw [upd_ne _ _ ha, upd_ne _ _ hb, upd_ne _ _ ha]
    cases k with
    | swap =>
      refine ⟨rfl, fun i => ?_⟩
      show upd (upd (upd (upd c a (c b)) b (c a)) a (upd (upd c a (c b)) b (c a) b)) b (upd (upd c a (c b)) b (c a) a) i = c i
      exact back2 _ _ _ _ (two _ _).2 (two _ _).1 i
    | cx =>
      show (lead2C .cx (lead2C .cx (q, c) a b) a b).1 = q ∧ ∀ i, (lead2C .cx (lead2C .cx (q, c) a b) a b).2 i = c i
      have t1 := two ((c a).1, ((c a).2 ^^ (c b).2)) (((c b).1 ^^ (c a).1), (c b).2)
      refine ⟨?_, fun i => ?_⟩
      · show ((q + 2 * (((c a).1 && (c b).2) && (((c b).1 ^^ (c a).2) ^^ true)).toNat) % 4 + 2 * (((upd (upd c a ((c a).1, ((c a).2 ^^ (c b).2))) b (((c b).1 ^^ (c a).1), (c b).2) a).1 && (upd (upd c a ((c a).1, ((c a).2 ^^ (c b).2))) b (((c b).1 ^^ (c a).1), (c b).2) b).2) && (((upd (upd c a ((c a).1, ((c a).2 ^^ (c b).2))) b (((c b).1 ^^ (c a).1), (c b).2) b).1 ^^ (upd (upd c a ((c a).1, ((c a).2 ^^ (c b).2))) b (((c b).1 ^^ (c a).1), (c b).2) a).2) ^^ true)).toNat) % 4 = q
        rw [t1.1, t1.2]
        rcases hq with rfl | rfl <;> rcases c a with ⟨_ | _, _ | _⟩ <;> rcases c b with ⟨_ | _, _ | _⟩ <;> rfl
      · have s1 : (lead2C N2.cx (q, c) a b).2 a = _ := t1.1
        have s2 : (lead2C N2.cx (q, c) a b).2 b = _ := t1.2
        refine back2 _ _ _ _ ?_ ?_ i
        · rw [s1, s2]; rcases c a with ⟨_ | _, _ | _⟩ <;> rcases c b with ⟨_ | _, _ | _⟩ <;> rfl
        · rw [s1, s2]; rcases c a with ⟨_ | _, _ | _⟩ <;> rcases c b with ⟨_ | _, _ | _⟩ <;> rfl
    | cz =>
      show (lead2C .cz (lead2C .cz (q, c) a b) a b).1 = q ∧ ∀ i, (lead2C .cz (lead2C .cz (q, c) a b) a b).2 i = c i
      have t1 := two ((c a).1, ((c a).2 ^^ (c b).1)) ((c b).1, ((c b).2 ^^ (c a).1))
      refine ⟨?_, fun i => ?_⟩
      · show ((q + 2 * (((c a).1 && (c b).1) && ((c a).2 ^^ (c b).2)).toNat) % 4 + 2 * (((upd (upd c a ((c a).1, ((c a).2 ^^ (c b).1))) b ((c b).1, ((c b).2 ^^ (c a).1)) a).1 && (upd (upd c a ((c a).1, ((c a).2 ^^ (c b).1))) b ((c b).1, ((c b).2 ^^ (c a).1)) b).1) && ((upd (upd c a ((c a).1, ((c a).2 ^^ (c b).1))) b ((c b).1, ((c b).2 ^^ (c a).1)) a).2 ^^ (upd (upd c a ((c a).1, ((c a).2 ^^ (c b).1))) b ((c b).1, ((c b).2 ^^ (c a).1)) b).2)).toNat) % 4 = q
        rw [t1.1, t1.2]
        rcases hq with rfl | rfl <;> rcases c a with ⟨_ | _, _ | _⟩ <;> rcases c b with ⟨_ | _, _ | _⟩ <;> rfl
      · have s1 : (lead2C N2.cz (q, c) a b).2 a = _ := t1.1
        have s2 : (lead2C N2.cz (q, c) a b).2 b = _ := t1.2
        refine back2 _ _ _ _ ?_ ?_ i
        · rw [s1, s2]; rcases c a with ⟨_ | _, _ | _⟩ <;> rcases c b with ⟨_ | _, _ | _⟩ <;> rfl
        · rw [s1, s2]; rcases c a with ⟨_ | _, _ | _⟩ <;> rcases c b with ⟨_ | _, _ | _⟩ <;> rfl
theorem back1_ok {g : Gt} (h : g.ok 6) : ∀ k ∈ back1 g, k.ok 6 := by
  have := back_ok (gs := [g]) (n := 6) (fun k hk => by cases List.mem_singleton.mp hk; exact h)
  unfold backG at this
  simpa using this
theorem undo {t : Nat × Nat} (ht : Ev t.1) {g : Gt} (hg : g.ok 6) : Al (lead (ledS t (back1 g)) g) t := by
  obtain ⟨q, m⟩ := t
  have h1 := ledC_eq (q := q) (m := m) (gs := back1 g ++ [g]) (fun k hk => by
    rcases List.mem_append.mp hk with h | h
    · exact back1_ok hg k h
    · cases List.mem_singleton.mp h; exact hg)
  have h2 := undo_C ht hg (ltAt m)
  have e : ledS (q, m) (back1 g ++ [g]) = lead (ledS (q, m) (back1 g)) g := by unfold ledS; rw [List.foldl_append]; rfl
  rw [e] at h1
  exact ⟨h1.1.trans h2.1, fun i hi => (h1.2 i hi).trans (h2.2 i)⟩
theorem undo_all : ∀ (gs : List Gt), (∀ g ∈ gs, g.ok 6) → ∀ {s : Nat × Nat}, Ev s.1 → Al (ledS (ledS s (backG gs)) gs) s
  | [], _, s, _ => ⟨rfl, fun _ _ => rfl⟩
  | g :: gs, hg, s, hs => by
    have hg2 : ∀ k ∈ gs, k.ok 6 := fun k hk => hg k (List.mem_cons_of_mem _ hk)
    have e : backG (g :: gs) = backG gs ++ back1 g := by unfold backG; rw [List.reverse_cons, List.flatMap_append]; simp
    rw [e]
    have e2 : ledS s (backG gs ++ back1 g) = ledS (ledS s (backG gs)) (back1 g) := by unfold ledS; rw [List.foldl_append]
    rw [e2]
    show Al (ledS (lead (ledS (ledS s (backG gs)) (back1 g)) g) gs) s
    exact (ledS_Al hg2 (undo (ledS_Ev hs) (hg g List.mem_cons_self))).trans (undo_all gs hg2 hs)
end GW

set_option Elab.async false
set_option linter.all false
set_option maxRecDepth 100000
set_option autoImplicit false
set_option maxHeartbeats 1000000
/-! PW: what gates make of rows of numbers. -/
namespace GW
open PySem L2 DL
def sgq (g : Bool) : Nat := if g = true then 2 else 0
def ActsSo (n : Nat) (ψ : Sf) (gs : List Gt) (g : Bool) (l : List Lt) (g' : Bool) (l' : List Lt) : Prop :=
  ∀ p, p < 2 ^ n → gatesF n gs (actF n (sgq g) l ψ) p = actF n (sgq g') l' (gatesF n gs ψ) p
theorem sq_ev (g : Bool) (l : List Lt) : Ev (sq g l).1 := by cases g <;> first | exact .inl rfl | exact .inr rfl
theorem sgq_ev {q : Nat} (h : Ev q) : sgq (!decide (q = 0)) = q := by rcases h with rfl | rfl <;> rfl
theorem act_sq {n : Nat} (hn : n ≤ 6) {g : Bool} {l : List Lt} (hl : l.length = n) (ψ : Sf) (p : Nat) : actF n (sgq g) l ψ p = A n (sq g l).1 (ltAt (sq g l).2) ψ p := by
  have e : l = lets (mk l) n := by rw [← hl, lets_mk (by omega)]
  have h := actF_A n (sgq g) (mk l) ψ p
  rw [← e] at h
  exact h
theorem leads {n : Nat} (h1 : 1 ≤ n) (hn : n ≤ 6) {gs : List Gt} (hg : ∀ g ∈ gs, g.ok n) {g : Bool} {l : List Lt} (hl : l.length = n) (ψ : Sf) :
    ActsSo n ψ gs g l (!decide ((ledS (sq g l) gs).1 = 0)) (lets (ledS (sq g l) gs).2 n) := by
  intro p hp
  have e1 : gatesF n gs (actF n (sgq g) l ψ) p = gatesF n gs (A n (sq g l).1 (ltAt (sq g l).2) ψ) p := gatesF_congr hg (fun p _ => act_sq hn hl ψ p) p hp
  rw [e1, gates_A hn gs hg _ _ ψ p hp, sgq_ev (ledS_Ev (sq_ev g l)), actF_A]
theorem backs {n : Nat} (h1 : 1 ≤ n) (hn : n ≤ 6) {gs : List Gt} (hg : ∀ g ∈ gs, g.ok n) {g : Bool} {l : List Lt} (hl : l.length = n) (ψ : Sf) :
    ActsSo n ψ gs (!decide ((ledS (sq g l) (backG gs)).1 = 0)) (lets (ledS (sq g l) (backG gs)).2 n) g l := by
  intro p hp
  have hb := ledS_Ev (gs := backG gs) (sq_ev g l)
  have hu := undo_all gs (fun k hk => Gt.ok_mono (hg k hk) hn) (sq_ev g l)
  have e1 : gatesF n gs (actF n (sgq (!decide ((ledS (sq g l) (backG gs)).1 = 0))) (lets (ledS (sq g l) (backG gs)).2 n) ψ) p = gatesF n gs (A n (ledS (sq g l) (backG gs)).1 (ltAt (ledS (sq g l) (backG gs)).2) ψ) p :=
    gatesF_congr hg (fun p _ => by rw [sgq_ev hb, actF_A]) p hp
  rw [e1, gates_A hn gs hg _ _ ψ p hp, act_sq hn hl]
  show A n (ledS (ledS (sq g l) (backG gs)) gs).1 (ltAt (ledS (ledS (sq g l) (backG gs)) gs).2) (gatesF n gs ψ) p = _
  rw [hu.1]
  exact A_congr (fun i hi => hu.2 i (by omega)) _ p
theorem sgl_len {n w : Nat} (c : Lt) (h : w < n) : (sgl n w c).length = n := by
  unfold sgl
  simp
  omega
theorem sq_x {n w : Nat} (h : w < n) (hn : n ≤ 6) : sq false (sgl n w (true, false)) = (0, 1 <<< w) := by
  show (0, mk (sgl n w (true, false))) = _
  rw [mk_x h hn]
theorem sq_z {n w : Nat} (h : w < n) (hn : n ≤ 6) : sq false (sgl n w (false, true)) = (0, 1 <<< (6 + w)) := by
  show (0, mk (sgl n w (false, true))) = _
  rw [mk_z h hn]
/-! states told alike -/
def pG (g : G) : PyData := .tuple [.int g.1, .int g.2]
theorem toP_gs : ∀ gs : List G, toPs (gs.map gD) = some (gs.map pG)
  | [] => rfl
  | g :: gs => by
    show (match toP (gD g), toPs (gs.map gD) with | some p, some ps => some (p :: ps) | _, _ => none) = _
    rw [toP_gs gs]
    rfl
theorem shp_gs : ∀ gs : List G, PyData.canLayAll0 (gs.map pG) = true
  | [] => by simp [PyData.canLayAll0]
  | g :: gs => by
    rw [List.map_cons, PyData.canLayAll0, shp_gs gs]
    simp [pG, PyData.canLay0, PyData.canLayAll0]
theorem dep_gs : ∀ gs : List G, PyData.depthAll (gs.map pG) ≤ 1
  | [] => by simp [PyData.depthAll]
  | g :: gs => by
    have h := dep_gs gs
    rw [List.map_cons, PyData.depthAll]
    simp [pG, PyData.depth, PyData.depthAll]
    omega
theorem eqv_gs : ∀ gs : List G, PyData.eqvAll (gs.map pG) (gs.map pG) = true
  | [] => by simp [PyData.eqvAll]
  | g :: gs => by
    rw [List.map_cons, PyData.eqvAll, eqv_gs gs]
    simp [pG, PyData.eqv, PyData.eqvAll]
theorem st_eq {n : Nat} {ψ φ : Sf} (h : ∀ p, p < 2 ^ n → ψ p = φ p) : CmpV .Eq (.lst (stL n ψ)) (.lst (stL n φ)) true := by
  have e : stL n ψ = stL n φ := by
    unfold stL
    apply List.map_congr_left
    intro p hp
    rw [h p (List.mem_range.mp hp)]
  have e2 : stL n φ = ((List.range (2 ^ n)).map φ).map gD := by unfold stL; rw [List.map_map]; rfl
  rw [e, e2]
  have h2 : toP (.lst (((List.range (2 ^ n)).map φ).map gD)) = some (.list (((List.range (2 ^ n)).map φ).map pG)) := by
    show (toPs _).map PyData.list = _
    rw [toP_gs]
    rfl
  have h3 : SeqAt.shaped (.list (((List.range (2 ^ n)).map φ).map pG)) = true := by
    unfold SeqAt.shaped
    rw [PyData.canLay0, shp_gs, PyData.depth]
    have := dep_gs ((List.range (2 ^ n)).map φ)
    rw [Bool.true_and]
    exact decide_eq_true (by omega)
  have h4 := CmpV.eqP h2 h2 h3 h3
  rw [PyData.eqv, eqv_gs] at h4
  exact h4
theorem add_plus {l : List Lt} (h : l.length ≤ 900) : BinV .Add (.str "+") (.str (lS l)) (.str (wS false l)) := by
  have e : ("+" : Str) ++ lS l = wS false l := sg_word false l
  rw [← e]
  exact .addS (by rw [lS_len]; show 1 + _ ≤ _; exact ln_ok (by omega))
end GW
namespace GW
open PySem L2 DL
theorem enum_rg (n : Nat) (f : Nat → D) : enumD ((List.range n).map f) = (List.range n).map fun p => .tup [.int (p : Nat), f p] := by
  rw [enumD_map]
  apply List.ext_getElem?
  intro i
  rw [List.getElem?_map, List.getElem?_map, List.getElem?_zipIdx]
  cases h : (List.range n)[i]? with
  | none => rfl
  | some a =>
    have h1 := (List.getElem?_eq_some_iff.mp h).1
    rw [List.length_range] at h1
    rw [List.getElem?_range h1] at h
    cases h
    simp
/-- the two words of a wire in a table -/
def twoW (gs : List Gt) (i : Nat) : List ((Nat × Nat) × Lt) := [(ledS (0, 1 <<< i) gs, (true, false)), (ledS (0, 1 <<< (6 + i)) gs, (false, true))]
theorem two_ok {n : Nat} (h1 : 1 ≤ n) (hn : n ≤ 6) {gs : List Gt} (hg : ∀ g ∈ gs, g.ok n) {i : Nat} (hi : i < n) {p : (Nat × Nat) × Lt} (hp : p ∈ twoW gs i) (ψ : Sf) :
    ActsSo n ψ gs false (sgl n i p.2) (!decide (p.1.1 = 0)) (lets p.1.2 n) := by
  rcases List.mem_cons.mp hp with e | hp
  · subst e
    have := leads h1 hn hg (g := false) (l := sgl n i (true, false)) (sgl_len _ hi) ψ
    rw [sq_x hi hn] at this
    exact this
  · cases List.mem_singleton.mp hp
    have := leads h1 hn hg (g := false) (l := sgl n i (false, true)) (sgl_len _ hi) ψ
    rw [sq_z hi hn] at this
    exact this
end GW

namespace T01
open PySem L2 DL GW
def top (i : Nat) : Stmt := PySem.Challenge.pw_guardedwires_k01_whole_gates_as_tables_o.main.body.getD i (.Pass ⟨0, 0, 0, 0⟩)
abbrev s_mark_of : Stmt := top 8
abbrev N_mark_of : List Str := ["letters", "found", "wire", "letter"]
theorem sc_mark_of : FnScope N_mark_of ["letters"] (defScope s_mark_of) := ⟨rfl, rfl, rfl, by decide +kernel, rfl, by decide +kernel, by decide +kernel⟩
abbrev s_letter_at : Stmt := top 9
abbrev N_letter_at : List Str := ["mark", "wire"]
theorem sc_letter_at : FnScope N_letter_at ["mark", "wire"] (defScope s_letter_at) := ⟨rfl, rfl, rfl, by decide +kernel, rfl, by decide +kernel, by decide +kernel⟩
abbrev s_letters_of : Stmt := top 10
abbrev N_letters_of : List Str := ["mark", "wires", "wire"]
theorem sc_letters_of : FnScope N_letters_of ["mark", "wires"] (defScope s_letters_of) := ⟨rfl, rfl, rfl, by decide +kernel, rfl, by decide +kernel, by decide +kernel⟩
abbrev s_signed_of : Stmt := top 11
abbrev N_signed_of : List Str := ["word"]
theorem sc_signed_of : FnScope N_signed_of ["word"] (defScope s_signed_of) := ⟨rfl, rfl, rfl, by decide +kernel, rfl, by decide +kernel, by decide +kernel⟩
abbrev s_word_of : Stmt := top 12
abbrev N_word_of : List Str := ["signed", "wires"]
theorem sc_word_of : FnScope N_word_of ["signed", "wires"] (defScope s_word_of) := ⟨rfl, rfl, rfl, by decide +kernel, rfl, by decide +kernel, by decide +kernel⟩
abbrev s_is_integer : Stmt := top 26
abbrev N_is_integer : List Str := ["value", "low", "high"]
theorem sc_is_integer : FnScope N_is_integer ["value", "low", "high"] (defScope s_is_integer) := ⟨rfl, rfl, rfl, by decide +kernel, rfl, by decide +kernel, by decide +kernel⟩
abbrev s_is_tuple : Stmt := top 27
abbrev N_is_tuple : List Str := ["value", "low", "high"]
theorem sc_is_tuple : FnScope N_is_tuple ["value", "low", "high"] (defScope s_is_tuple) := ⟨rfl, rfl, rfl, by decide +kernel, rfl, by decide +kernel, by decide +kernel⟩
abbrev s_is_letters : Stmt := top 28
abbrev N_is_letters : List Str := ["value", "wires", "sign"]
theorem sc_is_letters : FnScope N_is_letters ["value", "wires"] (defScope s_is_letters) := ⟨rfl, rfl, rfl, by decide +kernel, rfl, by decide +kernel, by decide +kernel⟩
abbrev s_is_word : Stmt := top 29
abbrev N_is_word : List Str := ["value", "wires"]
theorem sc_is_word : FnScope N_is_word ["value", "wires"] (defScope s_is_word) := ⟨rfl, rfl, rfl, by decide +kernel, rfl, by decide +kernel, by decide +kernel⟩
abbrev s_is_any_word : Stmt := top 30
abbrev N_is_any_word : List Str := ["value"]
theorem sc_is_any_word : FnScope N_is_any_word ["value"] (defScope s_is_any_word) := ⟨rfl, rfl, rfl, by decide +kernel, rfl, by decide +kernel, by decide +kernel⟩
abbrev s_check_number : Stmt := top 31
abbrev N_check_number : List Str := ["value", "low", "high"]
theorem sc_check_number : FnScope N_check_number ["value", "low", "high"] (defScope s_check_number) := ⟨rfl, rfl, rfl, by decide +kernel, rfl, by decide +kernel, by decide +kernel⟩
abbrev s_is_wire_word : Stmt := top 32
abbrev N_is_wire_word : List Str := ["word", "wires"]
theorem sc_is_wire_word : FnScope N_is_wire_word ["word", "wires"] (defScope s_is_wire_word) := ⟨rfl, rfl, rfl, by decide +kernel, rfl, by decide +kernel, by decide +kernel⟩
abbrev s_is_gate : Stmt := top 33
abbrev N_is_gate : List Str := ["value", "wires", "parts", "part"]
theorem sc_is_gate : FnScope N_is_gate ["value", "wires"] (defScope s_is_gate) := ⟨rfl, rfl, rfl, by decide +kernel, rfl, by decide +kernel, by decide +kernel⟩
abbrev s_is_gates : Stmt := top 34
abbrev N_is_gates : List Str := ["value", "wires", "part"]
theorem sc_is_gates : FnScope N_is_gates ["value", "wires"] (defScope s_is_gates) := ⟨rfl, rfl, rfl, by decide +kernel, rfl, by decide +kernel, by decide +kernel⟩
abbrev s_check_gates : Stmt := top 35
abbrev N_check_gates : List Str := ["value", "wires"]
theorem sc_check_gates : FnScope N_check_gates ["value", "wires"] (defScope s_check_gates) := ⟨rfl, rfl, rfl, by decide +kernel, rfl, by decide +kernel, by decide +kernel⟩
abbrev s_wires_of : Stmt := top 37
abbrev N_wires_of : List Str := ["word"]
theorem sc_wires_of : FnScope N_wires_of ["word"] (defScope s_wires_of) := ⟨rfl, rfl, rfl, by decide +kernel, rfl, by decide +kernel, by decide +kernel⟩
abbrev s_check_any_word : Stmt := top 38
abbrev N_check_any_word : List Str := ["value"]
theorem sc_check_any_word : FnScope N_check_any_word ["value"] (defScope s_check_any_word) := ⟨rfl, rfl, rfl, by decide +kernel, rfl, by decide +kernel, by decide +kernel⟩
abbrev s_bit_x : Stmt := top 43
abbrev N_bit_x : List Str := ["mark", "wire"]
theorem sc_bit_x : FnScope N_bit_x ["mark", "wire"] (defScope s_bit_x) := ⟨rfl, rfl, rfl, by decide +kernel, rfl, by decide +kernel, by decide +kernel⟩
abbrev s_bit_z : Stmt := top 44
abbrev N_bit_z : List Str := ["mark", "wire"]
theorem sc_bit_z : FnScope N_bit_z ["mark", "wire"] (defScope s_bit_z) := ⟨rfl, rfl, rfl, by decide +kernel, rfl, by decide +kernel, by decide +kernel⟩
abbrev s_with_bits : Stmt := top 45
abbrev N_with_bits : List Str := ["mark", "wire", "x", "z", "bare"]
theorem sc_with_bits : FnScope N_with_bits ["mark", "wire", "x", "z"] (defScope s_with_bits) := ⟨rfl, rfl, rfl, by decide +kernel, rfl, by decide +kernel, by decide +kernel⟩
abbrev s_lead_one : Stmt := top 46
abbrev N_lead_one : List Str := ["name", "signed", "wire", "quarters", "mark", "x", "z"]
theorem sc_lead_one : FnScope N_lead_one ["name", "signed", "wire"] (defScope s_lead_one) := ⟨rfl, rfl, rfl, by decide +kernel, rfl, by decide +kernel, by decide +kernel⟩
abbrev s_lead_two : Stmt := top 47
abbrev N_lead_two : List Str := ["name", "signed", "one", "other", "quarters", "mark", "x", "z", "far_x", "far_z", "turns"]
theorem sc_lead_two : FnScope N_lead_two ["name", "signed", "one", "other"] (defScope s_lead_two) := ⟨rfl, rfl, rfl, by decide +kernel, rfl, by decide +kernel, by decide +kernel⟩
abbrev s_lead : Stmt := top 48
abbrev N_lead : List Str := ["signed", "gate", "parts"]
theorem sc_lead : FnScope N_lead ["signed", "gate"] (defScope s_lead) := ⟨rfl, rfl, rfl, by decide +kernel, rfl, by decide +kernel, by decide +kernel⟩
abbrev s_led_signed : Stmt := top 49
abbrev N_led_signed : List Str := ["signed", "gates", "gate"]
theorem sc_led_signed : FnScope N_led_signed ["signed", "gates"] (defScope s_led_signed) := ⟨rfl, rfl, rfl, by decide +kernel, rfl, by decide +kernel, by decide +kernel⟩
abbrev s_turned_back : Stmt := top 50
abbrev N_turned_back : List Str := ["gates", "found", "gate"]
theorem sc_turned_back : FnScope N_turned_back ["gates"] (defScope s_turned_back) := ⟨rfl, rfl, rfl, by decide +kernel, rfl, by decide +kernel, by decide +kernel⟩
abbrev s_led : Stmt := top 51
abbrev N_led : List Str := ["word", "gates"]
theorem sc_led : FnScope N_led ["word", "gates"] (defScope s_led) := ⟨rfl, rfl, rfl, by decide +kernel, rfl, by decide +kernel, by decide +kernel⟩
abbrev s_back : Stmt := top 52
abbrev N_back : List Str := ["word", "gates"]
theorem sc_back : FnScope N_back ["word", "gates"] (defScope s_back) := ⟨rfl, rfl, rfl, by decide +kernel, rfl, by decide +kernel, by decide +kernel⟩
abbrev s_single_marks : Stmt := top 53
abbrev N_single_marks : List Str := ["wires", "wire"]
theorem sc_single_marks : FnScope N_single_marks ["wires"] (defScope s_single_marks) := ⟨rfl, rfl, rfl, by decide +kernel, rfl, by decide +kernel, by decide +kernel⟩
abbrev s_rows_by : Stmt := top 54
abbrev N_rows_by : List Str := ["wires", "gates", "x", "z"]
theorem sc_rows_by : FnScope N_rows_by ["wires", "gates"] (defScope s_rows_by) := ⟨rfl, rfl, rfl, by decide +kernel, rfl, by decide +kernel, by decide +kernel⟩
abbrev s_table : Stmt := top 55
abbrev N_table : List Str := ["wires", "gates", "x", "z"]
theorem sc_table : FnScope N_table ["wires", "gates"] (defScope s_table) := ⟨rfl, rfl, rfl, by decide +kernel, rfl, by decide +kernel, by decide +kernel⟩
abbrev s__law_pot : Stmt := top 57
abbrev N__law_pot : List Str := ["script", "place", "cell", "own", "small"]
theorem sc__law_pot : FnScope N__law_pot ["script", "place"] (defScope s__law_pot) := ⟨rfl, rfl, rfl, by decide +kernel, rfl, by decide +kernel, by decide +kernel⟩
abbrev s__law_take : Stmt := top 58
abbrev N__law_take : List Str := ["pot", "upto", "digit", "prime", "blend"]
theorem sc__law_take : FnScope N__law_take ["pot", "upto"] (defScope s__law_take) := ⟨rfl, rfl, rfl, by decide +kernel, rfl, by decide +kernel, by decide +kernel⟩
abbrev s__law_of : Stmt := top 59
abbrev N__law_of : List Str := ["pot", "some"]
theorem sc__law_of : FnScope N__law_of ["pot", "some"] (defScope s__law_of) := ⟨rfl, rfl, rfl, by decide +kernel, rfl, by decide +kernel, by decide +kernel⟩
abbrev s__law_some : Stmt := top 60
abbrev N__law_some : List Str := ["pot", "pool", "many", "left", "found", "lap"]
theorem sc__law_some : FnScope N__law_some ["pot", "pool", "many"] (defScope s__law_some) := ⟨rfl, rfl, rfl, by decide +kernel, rfl, by decide +kernel, by decide +kernel⟩
abbrev s__law_cells : Stmt := top 61
abbrev N__law_cells : List Str := ["script", "most"]
theorem sc__law_cells : FnScope N__law_cells ["script", "most"] (defScope s__law_cells) := ⟨rfl, rfl, rfl, by decide +kernel, rfl, by decide +kernel, by decide +kernel⟩
abbrev s__law_are_letters : Stmt := top 62
abbrev N__law_are_letters : List Str := ["value", "wires", "letter"]
theorem sc__law_are_letters : FnScope N__law_are_letters ["value", "wires"] (defScope s__law_are_letters) := ⟨rfl, rfl, rfl, by decide +kernel, rfl, by decide +kernel, by decide +kernel⟩
abbrev s__law_is_word : Stmt := top 63
abbrev N__law_is_word : List Str := ["value", "wires"]
theorem sc__law_is_word : FnScope N__law_is_word ["value", "wires"] (defScope s__law_is_word) := ⟨rfl, rfl, rfl, by decide +kernel, rfl, by decide +kernel, by decide +kernel⟩
abbrev s__law_read : Stmt := top 64
abbrev N__law_read : List Str := ["word"]
theorem sc__law_read : FnScope N__law_read ["word"] (defScope s__law_read) := ⟨rfl, rfl, rfl, by decide +kernel, rfl, by decide +kernel, by decide +kernel⟩
abbrev s__law_gate : Stmt := top 65
abbrev N__law_gate : List Str := ["pot", "wires", "name", "some", "one", "other"]
theorem sc__law_gate : FnScope N__law_gate ["pot", "wires"] (defScope s__law_gate) := ⟨rfl, rfl, rfl, by decide +kernel, rfl, by decide +kernel, by decide +kernel⟩
abbrev s__law_single : Stmt := top 66
abbrev N__law_single : List Str := ["wires", "wire", "letter"]
theorem sc__law_single : FnScope N__law_single ["wires", "wire", "letter"] (defScope s__law_single) := ⟨rfl, rfl, rfl, by decide +kernel, rfl, by decide +kernel, by decide +kernel⟩
abbrev s__law_any_letters : Stmt := top 67
abbrev N__law_any_letters : List Str := ["pot", "wires", "wire"]
theorem sc__law_any_letters : FnScope N__law_any_letters ["pot", "wires"] (defScope s__law_any_letters) := ⟨rfl, rfl, rfl, by decide +kernel, rfl, by decide +kernel, by decide +kernel⟩
abbrev s__law_any_word : Stmt := top 68
abbrev N__law_any_word : List Str := ["pot", "wires"]
theorem sc__law_any_word : FnScope N__law_any_word ["pot", "wires"] (defScope s__law_any_word) := ⟨rfl, rfl, rfl, by decide +kernel, rfl, by decide +kernel, by decide +kernel⟩
abbrev s__law_power : Stmt := top 69
abbrev N__law_power : List Str := ["many"]
theorem sc__law_power : FnScope N__law_power ["many"] (defScope s__law_power) := ⟨rfl, rfl, rfl, by decide +kernel, rfl, by decide +kernel, by decide +kernel⟩
abbrev s__law_spun : Stmt := top 70
abbrev N__law_spun : List Str := ["one", "turns", "a", "b"]
theorem sc__law_spun : FnScope N__law_spun ["one", "turns"] (defScope s__law_spun) := ⟨rfl, rfl, rfl, by decide +kernel, rfl, by decide +kernel, by decide +kernel⟩
abbrev s__law_plus : Stmt := top 71
abbrev N__law_plus : List Str := ["one", "other"]
theorem sc__law_plus : FnScope N__law_plus ["one", "other"] (defScope s__law_plus) := ⟨rfl, rfl, rfl, by decide +kernel, rfl, by decide +kernel, by decide +kernel⟩
abbrev s__law_acted : Stmt := top 72
abbrev N__law_acted : List Str := ["word", "state", "wires", "told", "at", "one", "place", "turns", "wire", "letter", "mark"]
theorem sc__law_acted : FnScope N__law_acted ["word", "state"] (defScope s__law_acted) := ⟨rfl, rfl, rfl, by decide +kernel, rfl, by decide +kernel, by decide +kernel⟩
abbrev s__law_gate_on : Stmt := top 73
abbrev N__law_gate_on : List Str := ["state", "gate", "wires", "parts", "told", "marks", "at", "one", "bits", "other", "part", "mark"]
theorem sc__law_gate_on : FnScope N__law_gate_on ["state", "gate", "wires"] (defScope s__law_gate_on) := ⟨rfl, rfl, rfl, by decide +kernel, rfl, by decide +kernel, by decide +kernel⟩
abbrev s__law_gates_on : Stmt := top 74
abbrev N__law_gates_on : List Str := ["state", "gates", "wires", "gate"]
theorem sc__law_gates_on : FnScope N__law_gates_on ["state", "gates", "wires"] (defScope s__law_gates_on) := ⟨rfl, rfl, rfl, by decide +kernel, rfl, by decide +kernel, by decide +kernel⟩
abbrev s__law_any_state : Stmt := top 75
abbrev N__law_any_state : List Str := ["pot", "wires", "first", "at"]
theorem sc__law_any_state : FnScope N__law_any_state ["pot", "wires"] (defScope s__law_any_state) := ⟨rfl, rfl, rfl, by decide +kernel, rfl, by decide +kernel, by decide +kernel⟩
abbrev s__law_unit : Stmt := top 76
abbrev N__law_unit : List Str := ["wires", "at", "place"]
theorem sc__law_unit : FnScope N__law_unit ["wires", "at"] (defScope s__law_unit) := ⟨rfl, rfl, rfl, by decide +kernel, rfl, by decide +kernel, by decide +kernel⟩
abbrev s__law_units : Stmt := top 77
abbrev N__law_units : List Str := ["wires", "at"]
theorem sc__law_units : FnScope N__law_units ["wires"] (defScope s__law_units) := ⟨rfl, rfl, rfl, by decide +kernel, rfl, by decide +kernel, by decide +kernel⟩
abbrev s__law_gates : Stmt := top 78
abbrev N__law_gates : List Str := ["pot", "wires", "gates", "lap"]
theorem sc__law_gates : FnScope N__law_gates ["pot", "wires"] (defScope s__law_gates) := ⟨rfl, rfl, rfl, by decide +kernel, rfl, by decide +kernel, by decide +kernel⟩
abbrev s__law_acts_so : Stmt := top 79
abbrev N__law_acts_so : List Str := ["state", "gates", "word", "told", "wires", "one"]
theorem sc__law_acts_so : FnScope N__law_acts_so ["state", "gates", "word", "told"] (defScope s__law_acts_so) := ⟨rfl, rfl, rfl, by decide +kernel, rfl, by decide +kernel, by decide +kernel⟩
abbrev s__law_is_table_right : Stmt := top 80
abbrev N__law_is_table_right : List Str := ["told", "gates", "wires", "states", "at", "pair", "word", "letter", "state"]
theorem sc__law_is_table_right : FnScope N__law_is_table_right ["told", "gates", "wires", "states"] (defScope s__law_is_table_right) := ⟨rfl, rfl, rfl, by decide +kernel, rfl, by decide +kernel, by decide +kernel⟩
abbrev s__law_right : Stmt := top 81
abbrev N__law_right : List Str := ["pot", "wires", "gates", "states", "lap", "word", "told", "ahead", "state"]
theorem sc__law_right : FnScope N__law_right ["pot"] (defScope s__law_right) := ⟨rfl, rfl, rfl, by decide +kernel, rfl, by decide +kernel, by decide +kernel⟩
abbrev s_law : Stmt := top 82
abbrev N_law : List Str := ["script", "place"]
theorem sc_law : FnScope N_law ["script"] (defScope s_law) := ⟨rfl, rfl, rfl, by decide +kernel, rfl, by decide +kernel, by decide +kernel⟩
structure Tx (K : PySem.W.Frag) (mg : Str → Option Value) : Prop where
  c_IDLE : GV K mg "IDLE" (.str "I")
  c_TO_X : GV K mg "TO_X" (.str "X")
  c_TO_Y : GV K mg "TO_Y" (.str "Y")
  c_TO_Z : GV K mg "TO_Z" (.str "Z")
  c_PLUS : GV K mg "PLUS" (.str "+")
  c_MINUS : GV K mg "MINUS" (.str "-")
  c_MOST_WIRES : GV K mg "MOST_WIRES" (.int 6)
  c_LETTERS : GV K mg "LETTERS" (.str "IXYZ")
  c_SIGNS : GV K mg "SIGNS" (.str "+-")
  c_DIGITS : GV K mg "DIGITS" (.str "012345")
  c_BLANK : GV K mg "BLANK" (.str " ")
  c_SINGLES : GV K mg "SINGLES" (.tup [(.str "h"), (.str "s"), (.str "x"), (.str "z")])
  c_DOUBLES : GV K mg "DOUBLES" (.tup [(.str "cx"), (.str "cz"), (.str "swap")])
  c_MOST_GATES : GV K mg "MOST_GATES" (.int 400)
  c_PAIR : GV K mg "PAIR" (.int 2)
  c_QUARTER : GV K mg "QUARTER" (.str "s ")
  c_HALF : GV K mg "HALF" (.str "z ")
  b_len : mg "len" = none
  b_abs : mg "abs" = none
  b_max : mg "max" = none
  b_min : mg "min" = none
  b_all : mg "all" = none
  b_sum : mg "sum" = none
  b_isinstance : mg "isinstance" = none
  b_int : mg "int" = none
  b_str : mg "str" = none
  b_bool : mg "bool" = none
  b_list : mg "list" = none
  b_tuple : mg "tuple" = none
  b_range : mg "range" = none
  b_enumerate : mg "enumerate" = none
  b_zip : mg "zip" = none
  b_ValueError : mg "ValueError" = none
  b_super : mg "super" = none

section
variable {P : Program} {w : World} {K : PySem.W.Frag} {mg : Str → Option Value} {base : Heap}
def Sp_mark_of : Spc := fun ds ω Q => ∃ l : List Lt, ds = [.str (lS l)] ∧ l.length ≤ 6 ∧ Q (.int (mk l : Nat)) ω
theorem ok_mark_of {f : Addr} {fd : FuncData} (F : Fun K "mark_of" "mark_of" s_mark_of f fd) (hm : mg "mark_of" = some (.ref f)) (b : Binds K fd ["letters"] []) (T : Tx K mg)  : Fn P w K mg base 1 "mark_of" 1 Sp_mark_of := by
  refine fn_mk' F hm b sc_mark_of rfl fun cdv A outer s H E hr ds ω Qd hn hS => ?_
  obtain ⟨l, rfl, hl, hQ⟩ := hS
  have hu := hr.units
  refine ws_cons (w1_let (i := 1) sc_mark_of.nd rfl (ev_n 0 rfl (?_)))
  refine ws_cons (w1_fold (p := .tp [.nm 2, .nm 3]) PassesOwn.never rfl (gp_tp rfl (gp_cons (gp_v sc_mark_of.nd rfl) (gp_cons (gp_v sc_mark_of.nd rfl) (gp_nil)))) (it_enum T.b_enumerate (ev_v (i := 0) rfl rfl (⟨_, _, rfl, rfl, ⟨l.zipIdx, (fun p => .tup [.int (p.2 : Nat), .str (chL p.1)]), (fun t ρ2 ω2 => ω2 = ω ∧ ∃ x y, ρ2 = [some (.str (lS l)), some (.int (t : Nat)), x, y]), 0, mkStep, (enum_lS l), (fun _ _ _ _ => rfl), ?_, ?_, ?_⟩⟩))))
  · exact ⟨rfl, none, none, rfl⟩
  · rintro i ⟨c, j⟩ ρ2 ω2 hx ⟨rfl, x, y, rfl⟩
    have hj : j < 6 := by have := lt_of_zipIdx hx; omega
    refine ⟨_, rfl, ?_⟩
    refine ws_one (w1_let (i := 1) sc_mark_of.nd rfl (ev_bin (ev_bin (ev_v (i := 1) rfl rfl (ev_bin (ev_ct T.b_int bb_int (ea_cons (ev_cmp hu (ev_v (i := 3) rfl rfl (ev_tup (ea_cons (ev_gv T.c_TO_X rfl (ea_cons (ev_gv T.c_TO_Y rfl (ea_nil (⟨Nat.le_of_ble_eq_true rfl, ⟨_, _, _, rfl, rfl, (in_xy _), ea_nil (⟨_, .intBN, ev_v (i := 2) rfl rfl (⟨_, _, _, rfl, rfl, .shlN, ⟨_, _, _, rfl, rfl, .orN, ev_bin (ev_ct T.b_int bb_int (ea_cons (ev_cmp hu (ev_v (i := 3) rfl rfl (ev_tup (ea_cons (ev_gv T.c_TO_Z rfl (ea_cons (ev_gv T.c_TO_Y rfl (ea_nil (⟨Nat.le_of_ble_eq_true rfl, ⟨_, _, _, rfl, rfl, (in_zy _), ea_nil (⟨_, .intBN, ev_bin (ev_gv (d := .int ((6 : Nat) : Int)) T.c_MOST_WIRES rfl (ev_v (i := 2) rfl rfl (⟨_, _, _, rfl, rfl, .addN, ⟨_, _, _, rfl, rfl, .shlN, ⟨_, _, _, rfl, rfl, .orN, ?_⟩⟩⟩)))⟩)⟩⟩)))))))))))⟩⟩)⟩)⟩⟩))))))))))))))))
    exact ⟨rfl, _, _, rfl⟩
  · rintro ρ2 ω2 ⟨rfl, x, y, rfl⟩
    refine ws_one (w1_ret (ev_v (i := 1) rfl rfl (hQ)))


def Sp_letter_at : Spc := fun ds ω Q => ∃ m w : Nat, ds = [.int (m : Int), .int (w : Int)] ∧ Q (.str (chL (ltAt m w))) ω
theorem ok_letter_at {f : Addr} {fd : FuncData} (F : Fun K "letter_at" "letter_at" s_letter_at f fd) (hm : mg "letter_at" = some (.ref f)) (b : Binds K fd ["mark", "wire"] []) (T : Tx K mg)  : Fn P w K mg base 1 "letter_at" 2 Sp_letter_at := by
  refine fn_mk' F hm b sc_letter_at rfl fun cdv A outer s H E hr ds ω Qd hn hS => ?_
  obtain ⟨m, w, rfl, hQ⟩ := hS
  have hu := hr.units
  refine ws_cons (w1_if (et_val (ev_bin (ev_bin (ev_v (i := 0) rfl rfl (ev_v (i := 1) rfl rfl (⟨_, _, _, rfl, rfl, .shrN, ev_n 1 rfl (⟨_, _, _, rfl, rfl, .andN, ⟨_, _, rfl, rfl, ⟨fun h1 => ?_, fun h1 => ?_⟩⟩⟩)⟩)))))))
  · -- then
    refine ws_one (w1_ret (ev_ifeS (et_val (ev_bin (ev_bin (ev_v (i := 0) rfl rfl (ev_bin (ev_gv (d := .int ((6 : Nat) : Int)) T.c_MOST_WIRES rfl (ev_v (i := 1) rfl rfl (⟨_, _, _, rfl, rfl, .addN, ⟨_, _, _, rfl, rfl, .shrN, ev_n 1 rfl (⟨_, _, _, rfl, rfl, .andN, ⟨_, _, rfl, rfl, ⟨_, _, fun _ q => ev_gv T.c_TO_Y rfl (q), fun _ q => ev_gv T.c_TO_X rfl (q), (by first | (rw [let_at1 h1]; exact hQ) | (rw [let_at2 h1]; exact hQ))⟩⟩⟩)⟩⟩))))))))))
  · -- else
    refine ws_nil ?_
    refine ws_one (w1_ret (ev_ifeS (et_val (ev_bin (ev_bin (ev_v (i := 0) rfl rfl (ev_bin (ev_gv (d := .int ((6 : Nat) : Int)) T.c_MOST_WIRES rfl (ev_v (i := 1) rfl rfl (⟨_, _, _, rfl, rfl, .addN, ⟨_, _, _, rfl, rfl, .shrN, ev_n 1 rfl (⟨_, _, _, rfl, rfl, .andN, ⟨_, _, rfl, rfl, ⟨_, _, fun _ q => ev_gv T.c_TO_Z rfl (q), fun _ q => ev_gv T.c_IDLE rfl (q), (by first | (rw [let_at1 h1]; exact hQ) | (rw [let_at2 h1]; exact hQ))⟩⟩⟩)⟩⟩))))))))))


def Sp_is_integer : Spc := fun ds ω Q => ∃ a b c : Nat, ds = [.int (a : Int), .int (b : Int), .int (c : Int)] ∧ Q (.bl (decide (b ≤ a) && decide (a ≤ c))) ω
theorem ok_is_integer {f : Addr} {fd : FuncData} (F : Fun K "is_integer" "is_integer" s_is_integer f fd) (hm : mg "is_integer" = some (.ref f)) (b : Binds K fd ["value", "low", "high"] []) (T : Tx K mg)  : Fn P w K mg base 1 "is_integer" 3 Sp_is_integer := by
  refine fn_mk' F hm b sc_is_integer rfl fun cdv A outer sh H E hr ds ω Qd hn hS => ?_
  obtain ⟨a, b, c, rfl, hQ⟩ := hS
  have hu := hr.units
  refine ws_one (w1_ret (ev_and (ev_cb T.b_isinstance bb_isinstance (ea_cons (ev_v (i := 0) rfl rfl (ea_cons (ev_blt T.b_int bb_int (ea_nil (⟨_, .isi rfl (by decide +kernel : kitB "int" "int" = some true), ⟨_, rfl, fun a1 => ev_and (ev_not (ev_cb T.b_isinstance bb_isinstance (ea_cons (ev_v (i := 0) rfl rfl (ea_cons (ev_blt T.b_bool bb_bool (ea_nil (⟨_, .isi rfl (by decide +kernel : kitB "int" "bool" = some false), ⟨_, rfl, ⟨_, rfl, fun a2 => ev_one (ev_chain hu (ev_v (i := 1) rfl rfl (ev_v (i := 0) rfl rfl (⟨_, _, _, rfl, rfl, .leN, fun c1 => ev_v (i := 2) rfl rfl (⟨_, _, _, rfl, rfl, .leN, (by first | exact absurd a1 (by decide) | exact absurd a2 (by decide) | (rw [c1] at hQ; exact hQ))⟩), fun c1 => (by first | exact absurd a1 (by decide) | exact absurd a2 (by decide) | (rw [c1] at hQ; exact hQ))⟩)))), fun a2 => (by first | exact absurd a1 (by decide) | exact absurd a2 (by decide) | (rw [c1] at hQ; exact hQ))⟩⟩⟩)))))))), fun a1 => (by first | exact absurd a1 (by decide) | exact absurd a2 (by decide) | (rw [c1] at hQ; exact hQ))⟩⟩)))))))))


def Sp_is_tuple : Spc := fun ds ω Q => ∃ (ts : List D) (b c : Nat), ds = [.tup ts, .int (b : Int), .int (c : Int)] ∧ Q (.bl (decide (b ≤ ts.length) && decide (ts.length ≤ c))) ω
theorem ok_is_tuple {f : Addr} {fd : FuncData} (F : Fun K "is_tuple" "is_tuple" s_is_tuple f fd) (hm : mg "is_tuple" = some (.ref f)) (b : Binds K fd ["value", "low", "high"] []) (T : Tx K mg)  : Fn P w K mg base 1 "is_tuple" 3 Sp_is_tuple := by
  refine fn_mk' F hm b sc_is_tuple rfl fun cdv A outer sh H E hr ds ω Qd hn hS => ?_
  obtain ⟨ts, b, c, rfl, hQ⟩ := hS
  have hu := hr.units
  refine ws_one (w1_ret (ev_and (ev_cb T.b_isinstance bb_isinstance (ea_cons (ev_v (i := 0) rfl rfl (ea_cons (ev_blt T.b_tuple bb_tuple (ea_nil (⟨_, .isi rfl (by decide +kernel : kitB "tuple" "tuple" = some true), ⟨_, rfl, fun a1 => ev_one (ev_chain hu (ev_v (i := 1) rfl rfl (ev_cb T.b_len bb_len (ea_cons (ev_v (i := 0) rfl rfl (ea_nil (⟨_, .lenT, ⟨_, _, _, rfl, rfl, .leN, fun c1 => ev_v (i := 2) rfl rfl (⟨_, _, _, rfl, rfl, .leN, (by first | exact absurd a1 (by decide) | (rw [c1] at hQ; exact hQ))⟩), fun c1 => (by first | exact absurd a1 (by decide) | (rw [c1] at hQ; exact hQ))⟩⟩))))))), fun a1 => (by first | exact absurd a1 (by decide) | (rw [c1] at hQ; exact hQ))⟩⟩)))))))))


def Sp_is_letters : Spc := fun ds ω Q => ∃ (l : List Lt) (w : Nat), ds = [.str (lS l), .int (w : Int)] ∧ l.length ≤ 100 ∧ Q (.bl (decide (l.length = w))) ω
theorem ok_is_letters {f : Addr} {fd : FuncData} (F : Fun K "is_letters" "is_letters" s_is_letters f fd) (hm : mg "is_letters" = some (.ref f)) (b : Binds K fd ["value", "wires"] []) (T : Tx K mg)  : Fn P w K mg base 1 "is_letters" 2 Sp_is_letters := by
  refine fn_mk' F hm b sc_is_letters rfl fun cdv A outer sh H E hr ds ω Qd hn hS => ?_
  obtain ⟨l, w, rfl, hl, hQ⟩ := hS
  have hu := hr.units
  refine ws_one (w1_ret (ev_and (ev_cb T.b_isinstance bb_isinstance (ea_cons (ev_v (i := 0) rfl rfl (ea_cons (ev_blt T.b_str bb_str (ea_nil (⟨_, .isi rfl (by decide +kernel : kitB "str" "str" = some true), ⟨_, rfl, fun a1 => ev_and (ev_cmp hu (ev_cb T.b_len bb_len (ea_cons (ev_v (i := 0) rfl rfl (ea_nil (⟨_, (.lenS (ln_ok (by rw [lS_len]; omega))), ev_v (i := 1) rfl rfl (⟨_, _, _, rfl, rfl, .eqN, ⟨_, rfl, fun a2 => ev_one (ev_cb T.b_all bb_all (ea_cons (ev_frz (el_lc (p := .nm 2) [("sign", 2)] rfl sc_is_letters.nd (blkOk_by (N := N_is_letters) (sc := defScope s_is_letters) (by decide +kernel)) (fun _ _ _ _ _ => gp_v sc_is_letters.nd rfl) (by decide) (lc_map (it_any (ev_v (i := 0) rfl rfl (⟨_, _, rfl, rfl, ⟨l, (fun x => .str (chL x)), (fun _ => .bl true), (src_lS l), rfl, (ln_ok (by omega)), fun x hx => ⟨_, rfl, fun _ _ _ _ _ => ev_cmp hu (ev_v (i := 2) rfl rfl (ev_gv T.c_LETTERS rfl (⟨_, _, _, rfl, rfl, (in_let _), ⟨rfl, rfl⟩⟩)))⟩, ea_nil (⟨_, .allM rfl, (by first | exact absurd a1 (by decide) | (rw [lS_len] at a2; rw [a2] at hQ; exact hQ) | (rw [lS_len] at a2; rw [a2] at hQ; rw [all_true]; exact hQ))⟩)⟩⟩)))))))), fun a2 => (by first | exact absurd a1 (by decide) | (rw [lS_len] at a2; rw [a2] at hQ; exact hQ) | (rw [lS_len] at a2; rw [a2] at hQ; rw [all_true]; exact hQ))⟩⟩)⟩)))))), fun a1 => (by first | exact absurd a1 (by decide) | (rw [lS_len] at a2; rw [a2] at hQ; exact hQ) | (rw [lS_len] at a2; rw [a2] at hQ; rw [all_true]; exact hQ))⟩⟩)))))))))


def Sp_is_wire_word : Spc := fun ds ω Q => ∃ a w : Nat, ds = [.str (dgS a), .int (w : Int)] ∧ a < 6 ∧ Q (.bl (decide (a < w))) ω
theorem ok_is_wire_word {f : Addr} {fd : FuncData} (F : Fun K "is_wire_word" "is_wire_word" s_is_wire_word f fd) (hm : mg "is_wire_word" = some (.ref f)) (b : Binds K fd ["word", "wires"] []) (T : Tx K mg)  : Fn P w K mg base 1 "is_wire_word" 2 Sp_is_wire_word := by
  refine fn_mk' F hm b sc_is_wire_word rfl fun cdv A outer sh H E hr ds ω Qd hn hS => ?_
  obtain ⟨a, w, rfl, ha, hQ⟩ := hS
  have hu := hr.units
  refine ws_one (w1_ret (ev_and (ev_cmp hu (ev_cb T.b_len bb_len (ea_cons (ev_v (i := 0) rfl rfl (ea_nil (⟨_, .lenS (by first | decide | omega | assumption | exact Nat.le_of_ble_eq_true rfl), ev_n 1 rfl (⟨_, _, _, rfl, rfl, .eqN, ⟨_, rfl, fun a1 => ev_and (ev_cmp hu (ev_v (i := 0) rfl rfl (ev_gv T.c_DIGITS rfl (⟨_, _, _, rfl, rfl, (in_dig ha), ⟨_, rfl, fun a2 => ev_one (ev_cmp hu (ev_ct T.b_int bb_int (ea_cons (ev_v (i := 0) rfl rfl (ea_nil (⟨_, (int_dg ha), ev_v (i := 1) rfl rfl (⟨_, _, _, rfl, rfl, .ltN, (by first | exact absurd (show true = false from a1) (by decide) | exact absurd (show true = false from a2) (by decide) | exact hQ)⟩)⟩)))))), fun a2 => (by first | exact absurd (show true = false from a1) (by decide) | exact absurd (show true = false from a2) (by decide) | exact hQ)⟩⟩)))), fun a1 => (by first | exact absurd (show true = false from a1) (by decide) | exact absurd (show true = false from a2) (by decide) | exact hQ)⟩⟩)⟩))))))))


def Sp_wires_of : Spc := fun ds ω Q => ∃ (g : Bool) (l : List Lt), ds = [.str (wS g l)] ∧ l.length ≤ 100 ∧ Q (.int (l.length : Int)) ω
theorem ok_wires_of {f : Addr} {fd : FuncData} (F : Fun K "wires_of" "wires_of" s_wires_of f fd) (hm : mg "wires_of" = some (.ref f)) (b : Binds K fd ["word"] []) (T : Tx K mg)  : Fn P w K mg base 1 "wires_of" 1 Sp_wires_of := by
  refine fn_mk' F hm b sc_wires_of rfl fun cdv A outer sh H E hr ds ω Qd hn hS => ?_
  obtain ⟨g, l, rfl, hl, hQ⟩ := hS
  have hu := hr.units
  refine ws_one (w1_ret (ev_bin (ev_cb T.b_len bb_len (ea_cons (ev_v (i := 0) rfl rfl (ea_nil (⟨_, (.lenS (ln_ok (by rw [wS_len]; omega))), ev_n 1 rfl (⟨_, _, _, rfl, rfl, (.subN (by rw [wS_len]; omega)), (by rw [wS_len]; exact hQ)⟩)⟩)))))))


def Sp_bit_x : Spc := fun ds ω Q => ∃ m w : Nat, ds = [.int (m : Int), .int (w : Int)] ∧ Q (.int (bx m w : Nat)) ω
theorem ok_bit_x {f : Addr} {fd : FuncData} (F : Fun K "bit_x" "bit_x" s_bit_x f fd) (hm : mg "bit_x" = some (.ref f)) (b : Binds K fd ["mark", "wire"] []) (T : Tx K mg)  : Fn P w K mg base 1 "bit_x" 2 Sp_bit_x := by
  refine fn_mk' F hm b sc_bit_x rfl fun cdv A outer s H E hr ds ω Qd hn hS => ?_
  obtain ⟨m, w, rfl, hQ⟩ := hS
  have hu := hr.units
  refine ws_one (w1_ret (ev_bin (ev_bin (ev_v (i := 0) rfl rfl (ev_v (i := 1) rfl rfl (⟨_, _, _, rfl, rfl, .shrN, ev_n 1 rfl (⟨_, _, _, rfl, rfl, .andN, hQ⟩)⟩))))))


def Sp_bit_z : Spc := fun ds ω Q => ∃ m w : Nat, ds = [.int (m : Int), .int (w : Int)] ∧ Q (.int (bz m w : Nat)) ω
theorem ok_bit_z {f : Addr} {fd : FuncData} (F : Fun K "bit_z" "bit_z" s_bit_z f fd) (hm : mg "bit_z" = some (.ref f)) (b : Binds K fd ["mark", "wire"] []) (T : Tx K mg)  : Fn P w K mg base 1 "bit_z" 2 Sp_bit_z := by
  refine fn_mk' F hm b sc_bit_z rfl fun cdv A outer s H E hr ds ω Qd hn hS => ?_
  obtain ⟨m, w, rfl, hQ⟩ := hS
  have hu := hr.units
  refine ws_one (w1_ret (ev_bin (ev_bin (ev_v (i := 0) rfl rfl (ev_bin (ev_gv (d := .int ((6 : Nat) : Int)) T.c_MOST_WIRES rfl (ev_v (i := 1) rfl rfl (⟨_, _, _, rfl, rfl, .addN, ⟨_, _, _, rfl, rfl, .shrN, ev_n 1 rfl (⟨_, _, _, rfl, rfl, .andN, hQ⟩)⟩⟩))))))))


def Sp_with_bits : Spc := fun ds ω Q => ∃ m w x z : Nat, ds = [.int (m : Int), .int (w : Int), .int (x : Int), .int (z : Int)] ∧ w < 6 ∧ x ≤ 1 ∧ z ≤ 1 ∧ Q (.int (wb m w x z : Nat)) ω
theorem ok_with_bits {f : Addr} {fd : FuncData} (F : Fun K "with_bits" "with_bits" s_with_bits f fd) (hm : mg "with_bits" = some (.ref f)) (b : Binds K fd ["mark", "wire", "x", "z"] []) (T : Tx K mg)  : Fn P w K mg base 1 "with_bits" 4 Sp_with_bits := by
  refine fn_mk' F hm b sc_with_bits rfl fun cdv A outer s H E hr ds ω Qd hn hS => ?_
  obtain ⟨m, w, x, z, rfl, hw, hx, hz, hQ⟩ := hS
  have hu := hr.units
  refine ws_cons (w1_let (i := 4) sc_with_bits.nd rfl (ev_bin (ev_v (i := 0) rfl rfl (ev_un (ev_bin (ev_bin (ev_n 1 rfl (ev_v (i := 1) rfl rfl (⟨_, _, _, rfl, rfl, .shlN, ev_bin (ev_n 1 rfl (ev_bin (ev_gv (d := .int ((6 : Nat) : Int)) T.c_MOST_WIRES rfl (ev_v (i := 1) rfl rfl (⟨_, _, _, rfl, rfl, .addN, ⟨_, _, _, rfl, rfl, .shlN, ⟨_, _, _, rfl, rfl, .orN, ⟨_, .inv, ⟨_, _, _, rfl, rfl, .andNotN, ?_⟩⟩⟩⟩⟩)))))⟩)))))))))
  refine ws_one (w1_ret (ev_bin (ev_bin (ev_v (i := 4) rfl rfl (ev_bin (ev_v (i := 2) rfl rfl (ev_v (i := 1) rfl rfl (⟨_, _, _, rfl, rfl, .shlN, ⟨_, _, _, rfl, rfl, .orN, ev_bin (ev_v (i := 3) rfl rfl (ev_bin (ev_gv (d := .int ((6 : Nat) : Int)) T.c_MOST_WIRES rfl (ev_v (i := 1) rfl rfl (⟨_, _, _, rfl, rfl, .addN, ⟨_, _, _, rfl, rfl, .shlN, ⟨_, _, _, rfl, rfl, .orN, hQ⟩⟩⟩)))))⟩⟩))))))))


def Sp_turned_back : Spc := fun ds ω Q => ∃ gs : List Gt, ds = [.tup (gs.map gtD)] ∧ gs.length ≤ 400 ∧ (∀ g ∈ gs, g.ok 6) ∧ Q (.tup ((backG gs).map gtD)) ω
theorem ok_turned_back {f : Addr} {fd : FuncData} (F : Fun K "turned_back" "turned_back" s_turned_back f fd) (hm : mg "turned_back" = some (.ref f)) (b : Binds K fd ["gates"] []) (T : Tx K mg)  : Fn P w K mg base 1 "turned_back" 1 Sp_turned_back := by
  refine fn_mkD F hm b sc_turned_back rfl fun cdv A outer sh H E hr ds ω Qd hn hS => ?_
  obtain ⟨gs, rfl, hl, hg, hQ⟩ := hS
  have hu := hr.units
  refine ws_cons (w1_let (i := 1) sc_turned_back.nd rfl (ev_new (el_lst (ea_nil (⟨Nat.le_of_ble_eq_true rfl, ?_⟩)))))
  refine ws_cons (w1_fold (p := .nm 2) PassesOwn.never rfl (gp_v sc_turned_back.nd rfl) (it_any (ev_revT (ev_v (i := 0) rfl rfl (⟨_, rfl, ⟨_, _, rfl, rfl, ⟨gs.reverse, gtD, (fun t ρ2 ω2 => ω2 = ω ++ [.lst (t.map gtD)] ∧ ∃ x, ρ2 = [some (.tup (gs.map gtD)), some (.cell ω.length), x]), [], (fun t g => t ++ back1 g), (List.map_reverse ..).symm, (fun _ _ _ _ => rfl), ?_, ?_, ?_⟩⟩⟩)))))
  · exact ⟨rfl, none, rfl⟩
  · rintro i g ρ2 ω2 hx ⟨rfl, x, rfl⟩
    have hi : i < 400 := by have := (List.getElem?_eq_some_iff.mp hx).1; rw [List.length_reverse] at this; omega
    have ht := back_len gs.reverse i
    generalize List.foldl (fun t g => t ++ back1 g) [] (gs.reverse.take i) = t at ht ⊢
    refine ⟨_, rfl, ?_⟩
    refine ws_cons (w1_expr (ev_append (ev_v (i := 1) rfl rfl (⟨_, _, rfl, get_new, ev_v (i := 2) rfl rfl (⟨_, get_new, (by first | decide | omega | assumption | (rw [List.length_map]; exact ln_ok (by omega)) | (rw [List.length_append, List.length_map]; exact ln_ok (by show _ + 1 + 1 ≤ _; omega))), ?_⟩)⟩))))
    rw [set_new]
    refine ws_one (w1_if (et_val (ev_starts (ev_v (i := 2) rfl rfl (⟨_, rfl, ev_gv T.c_QUARTER rfl (⟨_, rfl, ⟨_, _, rfl, rfl, ⟨fun h1 => ?_, fun h1 => ?_⟩⟩⟩)⟩)))))
    · -- then
      obtain ⟨a, rfl⟩ := starts_s h1
      refine ws_one (w1_expr (ev_append (ev_v (i := 1) rfl rfl (⟨_, _, rfl, get_new, ev_bin (ev_gv T.c_HALF rfl (ev_sl (ev_v (i := 2) rfl rfl (eo_some (ev_cb T.b_len bb_len (ea_cons (ev_gv T.c_QUARTER rfl (ea_nil (⟨_, (.lenS (Nat.le_of_ble_eq_true rfl)), ⟨_, rfl, eo_none (⟨_, _, rfl, (sl_half a), ⟨_, _, _, rfl, rfl, (add_half a), ⟨_, get_new, (by first | decide | omega | assumption | (rw [List.length_map]; exact ln_ok (by omega)) | (rw [List.length_append, List.length_map]; exact ln_ok (by show _ + 1 + 1 ≤ _; omega))), ?_⟩⟩⟩)⟩⟩)))))))))⟩))))
      exact ⟨by rw [set_new]; simp [back1], _, rfl⟩
    · -- else
      refine ws_nil ?_
      exact ⟨by simp [back1_no h1], _, rfl⟩
  · rintro ρ2 ω2 ⟨rfl, x, rfl⟩
    refine ws_one (w1_ret (ev_ct T.b_tuple bb_tuple (ea_cons (ev_v (i := 1) rfl rfl (ea_nil (⟨_, (.tupK get_new), (Dr.same (clBs_map fun _ => rfl) (by rw [← back_fold] at hQ; exact hQ))⟩))))))


def Sp_single_marks : Spc := fun ds ω Q => ∃ w : Nat, ds = [.int (w : Int)] ∧ w ≤ 6 ∧ Q (.lst ((List.range w).map fun i => sgD (1 <<< i, 1 <<< (6 + i)))) ω
theorem ok_single_marks {f : Addr} {fd : FuncData} (F : Fun K "single_marks" "single_marks" s_single_marks f fd) (hm : mg "single_marks" = some (.ref f)) (b : Binds K fd ["wires"] []) (T : Tx K mg)  : Fn P w K mg base 1 "single_marks" 1 Sp_single_marks := by
  refine fn_mk' F hm b sc_single_marks rfl fun cdv A outer sh H E hr ds ω Qd hn hS => ?_
  obtain ⟨w, rfl, hw, hQ⟩ := hS
  have hu := hr.units
  refine ws_one (w1_ret (ev_frz (el_lc (p := .nm 1) [("wire", 1)] rfl sc_single_marks.nd (blkOk_by (N := N_single_marks) (sc := defScope s_single_marks) (by decide +kernel)) (fun _ _ _ _ _ => gp_v sc_single_marks.nd rfl) (by decide) (lc_map (it_rng1 T.b_range (ev_v (i := 0) rfl rfl (⟨_, rfl, (by first | decide | omega | assumption | exact lt6 hx hw), (by first | decide | omega | assumption | exact lt6 hx hw), ⟨(List.range w), (fun i : Nat => .int (i : Int)), (fun i => sgD (1 <<< i, 1 <<< (6 + i))), (rgD_0 w), trivial, (by rw [List.length_range]; exact ln_ok (by omega)), fun x hx => ⟨_, rfl, fun _ _ _ _ _ => ev_tup (ea_cons (ev_bin (ev_n 1 rfl (ev_v (i := 1) rfl rfl (⟨_, _, _, rfl, rfl, .shlN, ea_cons (ev_bin (ev_n 1 rfl (ev_bin (ev_gv (d := .int ((6 : Nat) : Int)) T.c_MOST_WIRES rfl (ev_v (i := 1) rfl rfl (⟨_, _, _, rfl, rfl, .addN, ⟨_, _, _, rfl, rfl, .shlN, ea_nil (⟨Nat.le_of_ble_eq_true rfl, ⟨rfl, rfl⟩⟩)⟩⟩))))))⟩)))))⟩, hQ⟩⟩)))))))


def Sp__law_pot : Spc := fun ds ω Q => ∃ (ns : List Int) (p : Nat), ds = [.scr ns, .int (p : Int)] ∧ p ≤ 10 ∧ ∀ a b : Int, 0 ≤ a → 0 ≤ b → b < 2305843009213693952 → Q (.cell ω.length) (ω ++ [.lst [.int a, .int b, .int 0]])
theorem ok__law_pot {f : Addr} {fd : FuncData} (F : Fun K "_law_pot" "_law_pot" s__law_pot f fd) (hm : mg "_law_pot" = some (.ref f)) (b : Binds K fd ["script", "place"] []) (T : Tx K mg)  : Fn P w K mg base 1 "_law_pot" 2 Sp__law_pot := by
  refine fn_mk' F hm b sc__law_pot rfl fun cdv A outer sh H E hr ds ω Qd hn hS => ?_
  obtain ⟨ns, p, rfl, hp, hQ⟩ := hS
  have hu := hr.units
  obtain ⟨c, hc1, hc2⟩ : ∃ c : Int, (decide ((p : Int) < (ns.length : Int)) = true → atI ns (p : Int) = some c) ∧ (decide ((p : Int) < (ns.length : Int)) = false → c = (cutD ns none (some 1)).sum % 1000003 + 1711 * p + 471) := by
    by_cases h : p < ns.length
    · refine ⟨ns[p], fun _ => DL.atI_nat (List.getElem?_eq_getElem h), fun h2 => ?_⟩
      have := of_decide_eq_false h2
      omega
    · refine ⟨(cutD ns none (some 1)).sum % 1000003 + 1711 * p + 471, fun h2 => ?_, fun _ => rfl⟩
      have := of_decide_eq_true h2
      omega
  refine ws_cons (w1_let (i := 2) sc__law_pot.nd rfl (ev_ifeD (et_cmp hu (ev_v (i := 1) rfl rfl (ev_cb T.b_len bb_len (ea_cons (ev_v (i := 0) rfl rfl (ea_nil (⟨_, .lenC, ⟨_, _, _, rfl, rfl, .ltI, ⟨.int c, fun h _ q => ev_ix (ev_v (i := 0) rfl rfl (ev_v (i := 1) rfl rfl (⟨_, _, rfl, .scr (hc1 h), q⟩))), fun h _ q => ev_bin (ev_bin (ev_bin (ev_cb T.b_sum bb_sum (ea_cons (ev_sl (ev_v (i := 0) rfl rfl (eo_none (eo_some (ev_int (⟨_, rfl, ⟨_, _, rfl, .scr, ea_nil (⟨_, .sumI rfl, ev_int (⟨_, _, _, rfl, rfl, .mod (by decide), ev_bin (ev_int (ev_v (i := 1) rfl rfl (⟨_, _, _, rfl, rfl, .mulC, ⟨_, _, _, rfl, rfl, .addI, ev_int (⟨_, _, _, rfl, rfl, .addI, by rw [hc2 h] at q; exact q⟩)⟩⟩)))⟩)⟩)⟩⟩)))))))))), ?_⟩⟩⟩)))))))))
  refine ws_cons (w1_let (i := 3) sc__law_pot.nd rfl (ev_bin (ev_bin (ev_ct T.b_int bb_int (ea_cons (ev_cb T.b_abs bb_abs (ea_cons (ev_v (i := 2) rfl rfl (ea_nil (⟨_, .absI, ea_nil (⟨_, .intI, ev_bin (ev_bin (ev_int (ev_int (⟨_, _, _, rfl, rfl, .powS ⟨by decide, by decide, by decide⟩, ev_int (⟨_, _, _, rfl, rfl, .pow (by decide) (by decide +kernel), ⟨_, _, _, rfl, rfl, .mod (by decide +kernel), ev_ct T.b_int bb_int (ea_cons (ev_cmp hu (ev_cb T.b_abs bb_abs (ea_cons (ev_v (i := 2) rfl rfl (ea_nil (⟨_, .absI, ev_bin (ev_int (ev_int (⟨_, _, _, rfl, rfl, .powS ⟨by decide, by decide, by decide⟩, ⟨_, _, _, rfl, rfl, .geI, ea_nil (⟨_, .intBN, ⟨_, _, _, rfl, rfl, .mulI (.inr ⟨b2_lo, b2_hi⟩), ?_⟩⟩)⟩⟩)))⟩)))))))⟩⟩)⟩))))⟩)⟩))))))))))
  have ha := Int.mul_nonneg (Int.emod_nonneg (if c < 0 then -c else c) (show ((10 : Int) ^ (60 : Int).toNat) ^ (5 : Int).toNat ≠ 0 by decide +kernel)) (show (0 : Int) ≤ ((decide ((10 : Int) ^ (18 : Int).toNat ≤ if c < 0 then -c else c)).toNat : Int) by omega)
  generalize (if c < 0 then -c else c) % ((10 : Int) ^ (60 : Int).toNat) ^ (5 : Int).toNat * ((decide ((10 : Int) ^ (18 : Int).toNat ≤ if c < 0 then -c else c)).toNat : Int) = a at ha ⊢
  refine ws_cons (w1_let (i := 4) sc__law_pot.nd rfl (ev_bin (ev_ct T.b_int bb_int (ea_cons (ev_v (i := 2) rfl rfl (ea_nil (⟨_, .intI, ev_int (⟨_, _, _, rfl, rfl, .mod (by decide), ?_⟩)⟩)))))))
  generalize c % 2305843009213693951 = d
  refine ws_one (w1_ret (ev_new (el_lst (ea_cons (ev_v (i := 3) rfl rfl (ea_cons (ev_bin (ev_ct T.b_int bb_int (ea_cons (ev_bin (ev_bin (ev_bin (ev_v (i := 4) rfl rfl (ev_int (⟨_, _, _, rfl, rfl, .mulC, ev_bin (ev_bin (ev_int (ev_v (i := 1) rfl rfl (⟨_, _, _, rfl, rfl, .mulC, ev_v (i := 1) rfl rfl (⟨_, _, _, rfl, rfl, .mulC, ⟨_, _, _, rfl, rfl, .addI, ev_int (⟨_, _, _, rfl, rfl, .addI, ea_nil (⟨_, .intI, ev_int (⟨_, _, _, rfl, rfl, .mod (by decide), ea_cons (ev_int (ea_nil (⟨Nat.le_of_ble_eq_true rfl, ?_⟩)))⟩)⟩)⟩)⟩⟩)⟩))))⟩)))))))))))))))
  exact hQ _ _ ha (Int.emod_nonneg _ (by decide)) (Int.lt_trans (Int.emod_lt_of_pos _ (by decide)) (by decide))

def Sp__law_take : Spc := fun ds ω Q => ∃ k n u : Nat, ds = [.cell k, .int (u : Int)] ∧ Pot k n ω ∧ n < 1000000 ∧ 0 < u ∧ u < 1073741824 ∧ ∀ (r : Nat) ω', r < u → PotTo k (n + 1) ω ω' → Q (.int (r : Int)) ω'
theorem ok__law_take {f : Addr} {fd : FuncData} (F : Fun K "_law_take" "_law_take" s__law_take f fd) (hm : mg "_law_take" = some (.ref f)) (b : Binds K fd ["pot", "upto"] []) (T : Tx K mg)  : Fn P w K mg base 1 "_law_take" 2 Sp__law_take := by
  refine fn_mk' F hm b sc__law_take rfl fun cdv A outer sh H E hr ds ω Qd hn hS => ?_
  obtain ⟨k, n, u, rfl, ⟨a, b, c, hk, ha, hb, hb2, hc, hcn⟩, hn2, hu0, hu1, hQ⟩ := hS
  have hu := hr.units
  have hui : (0 : Int) < (u : Int) := by omega
  refine ws_cons (w1_if (et_cmp hu (ev_ix (ev_v (i := 0) rfl rfl (ev_int (⟨_, _, (rd_cell hk), .lst rfl, ev_int (⟨_, _, _, rfl, rfl, .gtI, ⟨fun h1 => ?_, fun h1 => ?_⟩⟩)⟩))))))
  · -- then
    refine ws_cons (w1_let (i := 2) sc__law_take.nd rfl (ev_bin (ev_ct T.b_int bb_int (ea_cons (ev_ix (ev_v (i := 0) rfl rfl (ev_int (⟨_, _, (rd_cell hk), .lst rfl, ea_nil (⟨_, .intI, ev_v (i := 1) rfl rfl (⟨_, _, _, rfl, rfl, .mod hui, ?_⟩)⟩)⟩))))))))
    refine ws_cons (w1_setL (ev_bin (ev_ix (ev_v (i := 0) rfl rfl (ev_int (⟨_, _, (rd_cell hk), .lst rfl, ev_v (i := 1) rfl rfl (⟨_, _, _, rfl, rfl, .div ⟨hui, by omega⟩, ev_v (i := 0) rfl rfl (ev_int (⟨_, _, _, _, rfl, hk, rfl, rfl, ?_⟩))⟩)⟩))))))
    obtain ⟨r, hr1, hr2⟩ := mod_nat (x := a) hui
    refine ws_one (w1_ret (ev_v (i := 2) rfl rfl ?_))
    show Qd (.int (a % (u : Int))) _
    rw [hr1]
    exact hQ r _ (by omega) (PotTo.of hk (Int.ediv_nonneg ha (by omega)) hb hb2 hc (by omega))
  · -- else
    refine ws_nil ?_
    refine ws_cons (w1_setL (ev_bin (ev_ix (ev_v (i := 0) rfl rfl (ev_int (⟨_, _, (rd_cell hk), .lst rfl, ev_int (⟨_, _, _, rfl, rfl, .addI, ev_v (i := 0) rfl rfl (ev_int (⟨_, _, _, _, rfl, hk, rfl, rfl, ?_⟩))⟩)⟩))))))
    have hk2 : (ω.set k (.lst [.int a, .int b, .int (c + 1)]))[k]? = some (.lst [.int a, .int b, .int (c + 1)]) := get_set hk
    have hc1 : 0 ≤ c + 1 := by omega
    have hcn1 : c + 1 ≤ 1000000 := by omega
    have hpt : PotTo k (n + 1) ω (ω.set k (.lst [.int a, .int b, .int (c + 1)])) := PotTo.of hk ha hb hb2 hc1 (by omega)
    obtain ⟨p, hp, hp0, hp1⟩ := prime_ix (c + 1)
    have hbl := blend_ok hb hb2 hc1 hcn1
    refine ws_cons (w1_let (i := 3) sc__law_take.nd rfl (ev_ix (ev_frz (el_lst (ea_cons (ev_n 2147483647 rfl (ea_cons (ev_n 2147483629 rfl (ea_cons (ev_n 2147483587 rfl (ea_cons (ev_n 2147483579 rfl (ea_cons (ev_n 2147483563 rfl (ea_nil (⟨Nat.le_of_ble_eq_true rfl, ev_bin (ev_ct T.b_int bb_int (ea_cons (ev_ix (ev_v (i := 0) rfl rfl (ev_int (⟨_, _, (rd_cell hk2), .lst rfl, ea_nil (⟨_, .intI, ev_n 5 rfl (⟨_, _, _, rfl, rfl, .mod (by decide), ⟨_, _, rfl, .lst hp, ?_⟩⟩)⟩)⟩))))))⟩))))))))))))))))
    refine ws_cons (w1_let (i := 4) sc__law_take.nd rfl (ev_bin (ev_ct T.b_int bb_int (ea_cons (ev_bin (ev_ct T.b_int bb_int (ea_cons (ev_bin (ev_bin (ev_ix (ev_v (i := 0) rfl rfl (ev_int (⟨_, _, (rd_cell hk2), .lst rfl, ev_bin (ev_bin (ev_int (ev_ix (ev_v (i := 0) rfl rfl (ev_int (⟨_, _, (rd_cell hk2), .lst rfl, ⟨_, _, _, rfl, rfl, .mulC, ev_ix (ev_v (i := 0) rfl rfl (ev_int (⟨_, _, (rd_cell hk2), .lst rfl, ⟨_, _, _, rfl, rfl, .mulC, ⟨_, _, _, rfl, rfl, .addI, ev_int (⟨_, _, _, rfl, rfl, .addI, ea_nil (⟨_, .intI, ev_int (⟨_, _, _, rfl, rfl, .powS hbl, ea_nil (⟨_, .intI, ev_v (i := 3) rfl rfl (⟨_, _, _, rfl, rfl, .mod hp0, ?_⟩)⟩)⟩)⟩)⟩)⟩⟩⟩)))⟩⟩))))))⟩)))))))))))))
    have hx0 := Int.emod_nonneg ((b + 97385 * (c + 1) * (c + 1) + 441) ^ (3 : Int).toNat) (show p ≠ 0 by omega)
    have hx1 := Int.emod_lt_of_pos ((b + 97385 * (c + 1) * (c + 1) + 441) ^ (3 : Int).toNat) hp0
    generalize (b + 97385 * (c + 1) * (c + 1) + 441) ^ (3 : Int).toNat % p = x at hx0 hx1 ⊢
    refine ws_cons (w1_let (i := 4) sc__law_take.nd rfl (ev_bin (ev_ct T.b_int bb_int (ea_cons (ev_bin (ev_v (i := 4) rfl rfl (ev_bin (ev_bin (ev_ct T.b_int bb_int (ea_cons (ev_v (i := 4) rfl rfl (ea_nil (⟨_, .intI, ev_int (⟨_, _, _, rfl, rfl, .mod (by decide), ev_bin (ev_int (ev_ix (ev_v (i := 0) rfl rfl (ev_int (⟨_, _, (rd_cell hk2), .lst rfl, ⟨_, _, _, rfl, rfl, .mulC, ⟨_, _, _, rfl, rfl, .addI, ⟨_, _, _, rfl, rfl, .mulC (.inl ⟨by omega, by omega⟩), ea_nil (⟨_, .intI, ev_int (⟨_, _, _, rfl, rfl, .mod (by decide), ?_⟩)⟩)⟩⟩⟩⟩)))))⟩)⟩)))))))))))))
    generalize x * (x % 10575 + 429 * (c + 1)) % 2305843009213693907 = y
    refine ws_one (w1_ret (ev_bin (ev_ct T.b_int bb_int (ea_cons (ev_bin (ev_v (i := 4) rfl rfl (ev_int (⟨_, _, _, rfl, rfl, .div ⟨by decide, by decide⟩, ea_nil (⟨_, .intI, ev_v (i := 1) rfl rfl (⟨_, _, _, rfl, rfl, .mod hui, ?_⟩)⟩)⟩))))))))
    obtain ⟨r, hr1, hr2⟩ := mod_nat (x := y / 167) hui
    show Qd (.int (y / 167 % (u : Int))) _
    rw [hr1]
    exact hQ r _ (by omega) hpt

def Sp__law_cells : Spc := fun ds ω Q => ∃ (ns : List Int) (c : Nat), ds = [.scr ns, .int (c : Int)] ∧ 1 ≤ c ∧ c ≤ 100 ∧ ∀ m : Nat, m ≤ c → Q (.lst ((List.range m).map fun (i : Nat) => .int (i : Int))) ω
theorem ok__law_cells {f : Addr} {fd : FuncData} (F : Fun K "_law_cells" "_law_cells" s__law_cells f fd) (hm : mg "_law_cells" = some (.ref f)) (b : Binds K fd ["script", "most"] []) (T : Tx K mg)  : Fn P w K mg base 1 "_law_cells" 2 Sp__law_cells := by
  refine fn_mk' F hm b sc__law_cells rfl fun cdv A outer sh H E hr ds ω Qd hn hS => ?_
  obtain ⟨ns, c, rfl, hc1, hc2, hQ⟩ := hS
  have hu := hr.units
  refine ws_one (w1_ret (ev_frz (el_rng1 rfl T.b_list T.b_range (ev_cb T.b_max bb_max (ea_cons (ev_n 1 rfl (ea_cons (ev_cb T.b_min bb_min (ea_cons (ev_v (i := 1) rfl rfl (ea_cons (ev_cb T.b_len bb_len (ea_cons (ev_v (i := 0) rfl rfl (ea_nil (⟨_, .lenC, ea_nil (⟨_, .min2 rfl, ea_nil (⟨_, .max2 rfl, ⟨_, rfl, (by first | decide | omega | assumption | (split <;> split <;> omega) | (split <;> omega)), (by first | decide | omega | assumption | (split <;> split <;> omega) | (split <;> omega)), (by rw [rg_of (cells_ix c ns.length)]; exact hQ _ (by omega))⟩⟩)⟩)⟩))))))))))))))))


def Sp__law_are_letters : Spc := fun ds ω Q => ∃ (l : List Lt) (w : Nat), ds = [.str (lS l), .int (w : Int)] ∧ l.length ≤ 100 ∧ Q (.bl (decide (l.length = w))) ω
theorem ok__law_are_letters {f : Addr} {fd : FuncData} (F : Fun K "_law_are_letters" "_law_are_letters" s__law_are_letters f fd) (hm : mg "_law_are_letters" = some (.ref f)) (b : Binds K fd ["value", "wires"] []) (T : Tx K mg)  : Fn P w K mg base 1 "_law_are_letters" 2 Sp__law_are_letters := by
  refine fn_mk' F hm b sc__law_are_letters rfl fun cdv A outer sh H E hr ds ω Qd hn hS => ?_
  obtain ⟨l, w, rfl, hl, hQ⟩ := hS
  have hu := hr.units
  refine ws_one (w1_ret (ev_and (ev_cb T.b_isinstance bb_isinstance (ea_cons (ev_v (i := 0) rfl rfl (ea_cons (ev_blt T.b_str bb_str (ea_nil (⟨_, .isi rfl (by decide +kernel : kitB "str" "str" = some true), ⟨_, rfl, fun a1 => ev_and (ev_cmp hu (ev_cb T.b_len bb_len (ea_cons (ev_v (i := 0) rfl rfl (ea_nil (⟨_, (.lenS (ln_ok (by rw [lS_len]; omega))), ev_v (i := 1) rfl rfl (⟨_, _, _, rfl, rfl, .eqN, ⟨_, rfl, fun a2 => ev_one (ev_cb T.b_all bb_all (ea_cons (ev_frz (el_lc (p := .nm 2) [("letter", 2)] rfl sc__law_are_letters.nd (blkOk_by (N := N__law_are_letters) (sc := defScope s__law_are_letters) (by decide +kernel)) (fun _ _ _ _ _ => gp_v sc__law_are_letters.nd rfl) (by decide) (lc_map (it_any (ev_v (i := 0) rfl rfl (⟨_, _, rfl, rfl, ⟨l, (fun x => .str (chL x)), (fun _ => .bl true), (src_lS l), rfl, (ln_ok (by omega)), fun x hx => ⟨_, rfl, fun _ _ _ _ _ => ev_cmp hu (ev_v (i := 2) rfl rfl (ev_str (⟨_, _, _, rfl, rfl, (in_let _), ⟨rfl, rfl⟩⟩)))⟩, ea_nil (⟨_, .allM rfl, (by first | exact absurd a1 (by decide) | (rw [lS_len] at a2; rw [a2] at hQ; exact hQ) | (rw [lS_len] at a2; rw [a2] at hQ; rw [all_true]; exact hQ))⟩)⟩⟩)))))))), fun a2 => (by first | exact absurd a1 (by decide) | (rw [lS_len] at a2; rw [a2] at hQ; exact hQ) | (rw [lS_len] at a2; rw [a2] at hQ; rw [all_true]; exact hQ))⟩⟩)⟩)))))), fun a1 => (by first | exact absurd a1 (by decide) | (rw [lS_len] at a2; rw [a2] at hQ; exact hQ) | (rw [lS_len] at a2; rw [a2] at hQ; rw [all_true]; exact hQ))⟩⟩)))))))))


def Sp__law_read : Spc := fun ds ω Q => ∃ (g : Bool) (l : List Lt), ds = [.str (wS g l)] ∧ l.length ≤ 100 ∧ Q (.tup [.int ((if g = true then 2 else 0 : Nat) : Int), .str (lS l)]) ω
theorem ok__law_read {f : Addr} {fd : FuncData} (F : Fun K "_law_read" "_law_read" s__law_read f fd) (hm : mg "_law_read" = some (.ref f)) (b : Binds K fd ["word"] []) (T : Tx K mg)  : Fn P w K mg base 1 "_law_read" 1 Sp__law_read := by
  refine fn_mk' F hm b sc__law_read rfl fun cdv A outer sh H E hr ds ω Qd hn hS => ?_
  obtain ⟨g, l, rfl, hl, hQ⟩ := hS
  have hu := hr.units
  refine ws_one (w1_ret (ev_tup (ea_cons (ev_ifeN (et_cmp hu (ev_ix (ev_v (i := 0) rfl rfl (ev_n 0 rfl (⟨_, _, rfl, (ix_w0 g (by omega)), ev_str (⟨_, _, _, rfl, rfl, .eqS, ⟨_, _, fun _ q => ev_n 0 rfl (q), fun _ q => ev_n 2 rfl (q), ea_cons (ev_sl (ev_v (i := 0) rfl rfl (eo_some (ev_n 1 rfl (⟨_, rfl, eo_none (⟨_, _, rfl, (sl_w1 g (by omega)), ea_nil (⟨Nat.le_of_ble_eq_true rfl, (by rw [sg_sel]; exact hQ)⟩)⟩)⟩)))))⟩⟩)⟩)))))))))


def Sp__law_single : Spc := fun ds ω Q => ∃ (n w : Nat) (c : Lt), ds = [.int (n : Int), .int (w : Int), .str (chL c)] ∧ w < n ∧ n ≤ 100 ∧ Q (.str (lS (sgl n w c))) ω
theorem ok__law_single {f : Addr} {fd : FuncData} (F : Fun K "_law_single" "_law_single" s__law_single f fd) (hm : mg "_law_single" = some (.ref f)) (b : Binds K fd ["wires", "wire", "letter"] []) (T : Tx K mg)  : Fn P w K mg base 1 "_law_single" 3 Sp__law_single := by
  refine fn_mk' F hm b sc__law_single rfl fun cdv A outer sh H E hr ds ω Qd hn hS => ?_
  obtain ⟨n, w, c, rfl, hwn, hn1, hQ⟩ := hS
  have hu := hr.units
  refine ws_one (w1_ret (ev_bin (ev_bin (ev_bin (ev_str (ev_v (i := 1) rfl rfl (⟨_, _, _, rfl, rfl, (mul_I (by omega)), ev_v (i := 2) rfl rfl (⟨_, _, _, rfl, rfl, (add_ch (by rw [List.length_replicate]; omega)), ev_bin (ev_str (ev_bin (ev_bin (ev_v (i := 0) rfl rfl (ev_v (i := 1) rfl rfl (⟨_, _, _, rfl, rfl, .subN, ev_n 1 rfl (⟨_, _, _, rfl, rfl, .subN, ⟨_, _, _, rfl, rfl, (mul_I (by omega)), ⟨_, _, _, rfl, rfl, (add_lS (by simp; omega)), hQ⟩⟩⟩)⟩))))))⟩)⟩)))))))


def Sp__law_power : Spc := fun ds ω Q => ∃ m : Nat, ds = [.int (m : Int)] ∧ m ≤ 1000 ∧ Q (.int ((2 ^ m : Nat) : Int)) ω
theorem ok__law_power {f : Addr} {fd : FuncData} (F : Fun K "_law_power" "_law_power" s__law_power f fd) (hm : mg "_law_power" = some (.ref f)) (b : Binds K fd ["many"] []) (T : Tx K mg)  : Fn P w K mg base 1 "_law_power" 1 Sp__law_power := by
  refine fn_mk' F hm b sc__law_power rfl fun cdv A outer sh H E hr ds ω Qd hn hS => ?_
  obtain ⟨m, rfl, hm2, hQ⟩ := hS
  have hu := hr.units
  refine ws_one (w1_ret (ev_bin (ev_n 1 rfl (ev_ct T.b_int bb_int (ea_cons (ev_v (i := 0) rfl rfl (ea_nil (⟨_, .intI, ⟨_, _, _, rfl, rfl, .shlN, (by rw [Nat.one_shiftLeft]; exact hQ)⟩⟩))))))))


def Sp__law_spun : Spc := fun ds ω Q => ∃ (g : G) (t : Nat), ds = [gD g, .int (t : Int)] ∧ Q (gD (spun g t)) ω
theorem ok__law_spun {f : Addr} {fd : FuncData} (F : Fun K "_law_spun" "_law_spun" s__law_spun f fd) (hm : mg "_law_spun" = some (.ref f)) (b : Binds K fd ["one", "turns"] []) (T : Tx K mg)  : Fn P w K mg base 1 "_law_spun" 2 Sp__law_spun := by
  refine fn_mk' F hm b sc__law_spun rfl fun cdv A outer sh H E hr ds ω Qd hn hS => ?_
  obtain ⟨g, t, rfl, hQ⟩ := hS
  have hu := hr.units
  refine ws_cons (w1_tup (p := .tp [.nm 2, .nm 3]) (gp_tp rfl (gp_cons (gp_v sc__law_spun.nd rfl) (gp_cons (gp_v sc__law_spun.nd rfl) (gp_nil)))) (ev_v (i := 0) rfl rfl (⟨_, rfl, ?_⟩)))
  refine ws_one (w1_ret (ev_ix (ev_frz (el_lst (ea_cons (ev_tup (ea_cons (ev_v (i := 2) rfl rfl (ea_cons (ev_v (i := 3) rfl rfl (ea_nil (⟨Nat.le_of_ble_eq_true rfl, ea_cons (ev_tup (ea_cons (ev_un (ev_v (i := 3) rfl rfl (⟨_, .neg, ea_cons (ev_v (i := 2) rfl rfl (ea_nil (⟨Nat.le_of_ble_eq_true rfl, ea_cons (ev_tup (ea_cons (ev_un (ev_v (i := 2) rfl rfl (⟨_, .neg, ea_cons (ev_un (ev_v (i := 3) rfl rfl (⟨_, .neg, ea_nil (⟨Nat.le_of_ble_eq_true rfl, ea_cons (ev_tup (ea_cons (ev_v (i := 3) rfl rfl (ea_cons (ev_un (ev_v (i := 2) rfl rfl (⟨_, .neg, ea_nil (⟨Nat.le_of_ble_eq_true rfl, ea_nil (⟨Nat.le_of_ble_eq_true rfl, ev_bin (ev_ct T.b_int bb_int (ea_cons (ev_v (i := 1) rfl rfl (ea_nil (⟨_, .intI, ev_n 4 rfl (⟨_, _, _, rfl, rfl, .modN, ⟨_, _, rfl, (.lst (spun_ix g t)), hQ⟩⟩)⟩)))))⟩)⟩)⟩)))))))⟩)⟩)))⟩)))))⟩)))⟩)))))⟩))))))))))))


def Sp__law_plus : Spc := fun ds ω Q => ∃ a c : G, ds = [gD a, gD c] ∧ Q (gD (plus a c)) ω
theorem ok__law_plus {f : Addr} {fd : FuncData} (F : Fun K "_law_plus" "_law_plus" s__law_plus f fd) (hm : mg "_law_plus" = some (.ref f)) (b : Binds K fd ["one", "other"] []) (T : Tx K mg)  : Fn P w K mg base 1 "_law_plus" 2 Sp__law_plus := by
  refine fn_mk' F hm b sc__law_plus rfl fun cdv A outer sh H E hr ds ω Qd hn hS => ?_
  obtain ⟨a, c, rfl, hQ⟩ := hS
  have hu := hr.units
  refine ws_one (w1_ret (ev_tup (ea_cons (ev_bin (ev_ix (ev_v (i := 0) rfl rfl (ev_n 0 rfl (⟨_, _, rfl, .tup rfl, ev_ix (ev_v (i := 1) rfl rfl (ev_n 0 rfl (⟨_, _, rfl, .tup rfl, ⟨_, _, _, rfl, rfl, .addI, ea_cons (ev_bin (ev_ix (ev_v (i := 0) rfl rfl (ev_n 1 rfl (⟨_, _, rfl, .tup rfl, ev_ix (ev_v (i := 1) rfl rfl (ev_n 1 rfl (⟨_, _, rfl, .tup rfl, ⟨_, _, _, rfl, rfl, .addI, ea_nil (⟨Nat.le_of_ble_eq_true rfl, hQ⟩)⟩⟩)))⟩)))))⟩⟩)))⟩))))))))


def Sp_letters_of : Spc := fun ds ω Q => ∃ m w : Nat, ds = [.int (m : Int), .int (w : Int)] ∧ w ≤ 6 ∧ Q (.str (lS (lets m w))) ω
theorem ok_letters_of {f : Addr} {fd : FuncData} (F : Fun K "letters_of" "letters_of" s_letters_of f fd) (hm : mg "letters_of" = some (.ref f)) (b : Binds K fd ["mark", "wires"] []) (T : Tx K mg) (F_letter_at : Fn P w K mg base 1 "letter_at" 2 Sp_letter_at) : Fn P w K mg base 2 "letters_of" 2 Sp_letters_of := by
  refine fn_mk' F hm b sc_letters_of rfl fun cdv A outer s H E hr ds ω Qd hn hS => ?_
  obtain ⟨m, w, rfl, hw, hQ⟩ := hS
  have hu := hr.units
  refine ws_one (w1_ret (ev_join (ev_str (⟨_, rfl, ev_frz (el_lc (p := .nm 2) [("wire", 2)] rfl sc_letters_of.nd (blkOk_by (N := N_letters_of) (sc := defScope s_letters_of) (by decide +kernel)) (fun _ _ _ _ _ => gp_v sc_letters_of.nd rfl) (by decide) (lc_map (it_rng1 T.b_range (ev_v (i := 1) rfl rfl (⟨_, rfl, (by first | decide | omega | assumption), (by first | decide | omega | assumption), ⟨(List.range w), (fun i : Nat => .int (i : Int)), (fun i => .str (chL (ltAt m i))), (rgD_0 w), trivial, (by rw [List.length_range]; exact Nat.le_trans hw (by decide)), fun x hx => ⟨_, rfl, fun _ _ _ _ _ => ev_call F_letter_at (hr.mono (by decide)) (ea_cons (ev_v (i := 0) rfl rfl (ea_cons (ev_v (i := 2) rfl rfl (ea_nil (⟨rfl, ⟨_, _, rfl, ⟨rfl, rfl⟩⟩⟩))))))⟩, ⟨_, ((lets m w).map chL), rfl, .inl (by unfold lets; rw [List.map_map, List.map_map]; rfl), (join_ch_small (by rw [lets_len]; omega)), (by rw [join_ch]; exact hQ)⟩⟩⟩)))))⟩))))


def Sp_signed_of : Spc := fun ds ω Q => ∃ (g : Bool) (l : List Lt), ds = [.str (wS g l)] ∧ l.length ≤ 6 ∧ Q (sgD (if g = true then 2 else 0, mk l)) ω
theorem ok_signed_of {f : Addr} {fd : FuncData} (F : Fun K "signed_of" "signed_of" s_signed_of f fd) (hm : mg "signed_of" = some (.ref f)) (b : Binds K fd ["word"] []) (T : Tx K mg) (F_mark_of : Fn P w K mg base 1 "mark_of" 1 Sp_mark_of) : Fn P w K mg base 2 "signed_of" 1 Sp_signed_of := by
  refine fn_mk' F hm b sc_signed_of rfl fun cdv A outer s H E hr ds ω Qd hn hS => ?_
  obtain ⟨g, l, rfl, hl, hQ⟩ := hS
  have hu := hr.units
  refine ws_one (w1_ret (ev_tup (ea_cons (ev_ifeN (et_cmp hu (ev_ix (ev_v (i := 0) rfl rfl (ev_n 0 rfl (⟨_, _, rfl, (ix_w0 g (by omega)), ev_gv T.c_PLUS rfl (⟨_, _, _, rfl, rfl, .eqS, ⟨_, _, fun _ q => ev_n 0 rfl (q), fun _ q => ev_n 2 rfl (q), ea_cons (ev_call F_mark_of (hr.mono (by decide)) (ea_cons (ev_sl (ev_v (i := 0) rfl rfl (eo_some (ev_n 1 rfl (⟨_, rfl, eo_none (⟨_, _, rfl, (sl_w1 g (by omega)), ea_nil (⟨rfl, ⟨_, rfl, (by first | decide | omega | assumption), ea_nil (⟨Nat.le_of_ble_eq_true rfl, (by rw [sg_sel]; exact hQ)⟩)⟩⟩)⟩)⟩)))))))⟩⟩)⟩)))))))))


def Sp_is_word : Spc := fun ds ω Q => ∃ (g : Bool) (l : List Lt) (w : Nat), ds = [.str (wS g l), .int (w : Int)] ∧ l.length ≤ 100 ∧ Q (.bl (decide (l.length = w))) ω
theorem ok_is_word {f : Addr} {fd : FuncData} (F : Fun K "is_word" "is_word" s_is_word f fd) (hm : mg "is_word" = some (.ref f)) (b : Binds K fd ["value", "wires"] []) (T : Tx K mg) (F_is_letters : Fn P w K mg base 1 "is_letters" 2 Sp_is_letters) : Fn P w K mg base 2 "is_word" 2 Sp_is_word := by
  refine fn_mk' F hm b sc_is_word rfl fun cdv A outer sh H E hr ds ω Qd hn hS => ?_
  obtain ⟨g, l, w, rfl, hl, hQ⟩ := hS
  have hu := hr.units
  refine ws_one (w1_ret (ev_and (ev_cb T.b_isinstance bb_isinstance (ea_cons (ev_v (i := 0) rfl rfl (ea_cons (ev_blt T.b_str bb_str (ea_nil (⟨_, .isi rfl (by decide +kernel : kitB "str" "str" = some true), ⟨_, rfl, fun a1 => ev_and (ev_cmp hu (ev_cb T.b_len bb_len (ea_cons (ev_v (i := 0) rfl rfl (ea_nil (⟨_, (.lenS (ln_ok (by rw [wS_len]; omega))), ev_bin (ev_v (i := 1) rfl rfl (ev_n 1 rfl (⟨_, _, _, rfl, rfl, .addN, ⟨_, _, _, rfl, rfl, .eqN, ⟨_, rfl, fun a2 => ev_and (ev_cmp hu (ev_ix (ev_v (i := 0) rfl rfl (ev_n 0 rfl (⟨_, _, rfl, (ix_w0 g (by omega)), ev_gv T.c_SIGNS rfl (⟨_, _, _, rfl, rfl, (in_sg g), ⟨_, rfl, fun a3 => ev_one (ev_call F_is_letters (hr.mono (by decide)) (ea_cons (ev_sl (ev_v (i := 0) rfl rfl (eo_some (ev_n 1 rfl (⟨_, rfl, eo_none (⟨_, _, rfl, (sl_w1 g (by omega)), ea_cons (ev_v (i := 1) rfl rfl (ea_nil (⟨rfl, ⟨_, _, rfl, (by first | decide | omega | assumption), (by first | exact absurd a1 (by decide) | exact absurd a3 (by decide) | (rw [wS_len, dec_succ] at a2; rw [a2] at hQ; exact hQ) | exact hQ)⟩⟩)))⟩)⟩))))))), fun a3 => (by first | exact absurd a1 (by decide) | exact absurd a3 (by decide) | (rw [wS_len, dec_succ] at a2; rw [a2] at hQ; exact hQ) | exact hQ)⟩⟩)⟩))))), fun a2 => (by first | exact absurd a1 (by decide) | exact absurd a3 (by decide) | (rw [wS_len, dec_succ] at a2; rw [a2] at hQ; exact hQ) | exact hQ)⟩⟩⟩)))⟩)))))), fun a1 => (by first | exact absurd a1 (by decide) | exact absurd a3 (by decide) | (rw [wS_len, dec_succ] at a2; rw [a2] at hQ; exact hQ) | exact hQ)⟩⟩)))))))))


def Sp_check_number : Spc := fun ds ω Q => ∃ a b c : Nat, ds = [.int (a : Int), .int (b : Int), .int (c : Int)] ∧ b ≤ a ∧ a ≤ c ∧ Q .non ω
theorem ok_check_number {f : Addr} {fd : FuncData} (F : Fun K "check_number" "check_number" s_check_number f fd) (hm : mg "check_number" = some (.ref f)) (b : Binds K fd ["value", "low", "high"] []) (T : Tx K mg) (F_is_integer : Fn P w K mg base 1 "is_integer" 3 Sp_is_integer) : Fn P w K mg base 2 "check_number" 3 Sp_check_number := by
  refine fn_mk' F hm b sc_check_number rfl fun cdv A outer sh H E hr ds ω Qd hn hS => ?_
  obtain ⟨a, b, c, rfl, h1, h2, hQ⟩ := hS
  have hu := hr.units
  refine ws_one (w1_if (et_not (et_val (ev_call F_is_integer (hr.mono (by decide)) (ea_cons (ev_v (i := 0) rfl rfl (ea_cons (ev_v (i := 1) rfl rfl (ea_cons (ev_v (i := 2) rfl rfl (ea_nil (⟨rfl, ⟨_, _, _, rfl, ⟨_, _, rfl, rfl, ⟨fun h1 => ?_, fun h1 => ?_⟩⟩⟩⟩))))))))))))
  · -- then
    exact absurd h1 (by simp [*])
  · -- else
    refine ws_nil ?_
    exact hQ


def Sp_is_gate : Spc := fun ds ω Q => ∃ (g : Gt) (w : Nat), ds = [gtD g, .int (w : Int)] ∧ w ≤ 6 ∧ g.ok w ∧ Q (.bl true) ω
theorem ok_is_gate {f : Addr} {fd : FuncData} (F : Fun K "is_gate" "is_gate" s_is_gate f fd) (hm : mg "is_gate" = some (.ref f)) (b : Binds K fd ["value", "wires"] []) (T : Tx K mg) (F_is_wire_word : Fn P w K mg base 1 "is_wire_word" 2 Sp_is_wire_word) : Fn P w K mg base 2 "is_gate" 2 Sp_is_gate := by
  refine fn_mk' F hm b sc_is_gate rfl fun cdv A outer sh H E hr ds ω Qd hn hS => ?_
  obtain ⟨g, w, rfl, hw, hg, hQ⟩ := hS
  have hu := hr.units
  refine ws_cons (w1_if (et_not (et_val (ev_cb T.b_isinstance bb_isinstance (ea_cons (ev_v (i := 0) rfl rfl (ea_cons (ev_blt T.b_str bb_str (ea_nil (⟨_, .isi rfl (by decide +kernel : kitB "str" "str" = some true), ⟨_, _, rfl, rfl, ⟨fun h1 => ?_, fun h1 => ?_⟩⟩⟩))))))))))
  · -- then
    exact absurd (show false = true from h1) (by decide)
  · -- else
    refine ws_nil ?_
    refine ws_cons (w1_let (i := 2) sc_is_gate.nd rfl (ev_frz (el_split (ev_v (i := 0) rfl rfl (⟨_, rfl, ev_gv T.c_BLANK rfl (⟨_, rfl, rfl, (by first | decide | omega | assumption | exact gt_small _ | exact Nat.lt_of_lt_of_le (gate_lt hg _ hx) hw), ?_⟩)⟩)))))
    rw [Gt.split hg hw]
    rcases g with ⟨k, a⟩ | ⟨k, a, c⟩
    · -- alt
      refine ws_cons (w1_if (et_not (et_val (ev_cb T.b_all bb_all (ea_cons (ev_frz (el_lc (p := .nm 3) [("part", 3)] rfl sc_is_gate.nd (blkOk_by (N := N_is_gate) (sc := defScope s_is_gate) (by decide +kernel)) (fun _ _ _ _ _ => gp_v sc_is_gate.nd rfl) (by decide) (lc_map (it_any (ev_sl (ev_v (i := 2) rfl rfl (eo_some (ev_n 1 rfl (⟨_, rfl, eo_none (⟨_, _, rfl, .lst, ⟨_, _, rfl, rfl, ⟨_, (fun a => .str (dgS a)), (fun _ => .bl true), (by first | exact gate_ws (.o k a) | exact gate_ws (.t k a c)), rfl, (gate_wl _), fun x hx => ⟨_, rfl, fun _ _ _ _ _ => ev_call F_is_wire_word (hr.mono (by decide)) (ea_cons (ev_v (i := 3) rfl rfl (ea_cons (ev_v (i := 1) rfl rfl (ea_nil (⟨rfl, ⟨_, _, rfl, (by first | decide | omega | assumption | exact gt_small _ | exact Nat.lt_of_lt_of_le (gate_lt hg _ hx) hw), ⟨by rw [decide_eq_true (gate_lt hg _ hx)], rfl⟩⟩⟩))))))⟩, ea_nil (⟨_, .allM rfl, ⟨_, _, rfl, rfl, ⟨fun h2 => ?_, fun h2 => ?_⟩⟩⟩)⟩⟩⟩)⟩))))))))))))))
      · -- then
        exact absurd (show false = true from h2) (by decide)
      · -- else
        refine ws_nil ?_
        refine ws_cons (w1_if (et_cmp hu (ev_ix (ev_v (i := 2) rfl rfl (ev_n 0 rfl (⟨_, _, rfl, .lst rfl, ev_gv T.c_SINGLES rfl (⟨_, _, _, rfl, rfl, (in_si k), ⟨fun h3 => ?_, fun h3 => ?_⟩⟩)⟩))))))
        · -- then
          refine ws_one (w1_ret (ev_cmp hu (ev_cb T.b_len bb_len (ea_cons (ev_v (i := 2) rfl rfl (ea_nil (⟨_, .lenL, ev_n 2 rfl (⟨_, _, _, rfl, rfl, .eqN, hQ⟩)⟩)))))))
        · -- else
          exact absurd (show true = false from h3) (by decide)
    · -- alt
      obtain ⟨ha, hc, hac⟩ : a < w ∧ c < w ∧ a ≠ c := id hg
      refine ws_cons (w1_if (et_not (et_val (ev_cb T.b_all bb_all (ea_cons (ev_frz (el_lc (p := .nm 3) [("part", 3)] rfl sc_is_gate.nd (blkOk_by (N := N_is_gate) (sc := defScope s_is_gate) (by decide +kernel)) (fun _ _ _ _ _ => gp_v sc_is_gate.nd rfl) (by decide) (lc_map (it_any (ev_sl (ev_v (i := 2) rfl rfl (eo_some (ev_n 1 rfl (⟨_, rfl, eo_none (⟨_, _, rfl, .lst, ⟨_, _, rfl, rfl, ⟨_, (fun a => .str (dgS a)), (fun _ => .bl true), (by first | exact gate_ws (.o k a) | exact gate_ws (.t k a c)), rfl, (gate_wl _), fun x hx => ⟨_, rfl, fun _ _ _ _ _ => ev_call F_is_wire_word (hr.mono (by decide)) (ea_cons (ev_v (i := 3) rfl rfl (ea_cons (ev_v (i := 1) rfl rfl (ea_nil (⟨rfl, ⟨_, _, rfl, (by first | decide | omega | assumption | exact gt_small _ | exact Nat.lt_of_lt_of_le (gate_lt hg _ hx) hw), ⟨by rw [decide_eq_true (gate_lt hg _ hx)], rfl⟩⟩⟩))))))⟩, ea_nil (⟨_, .allM rfl, ⟨_, _, rfl, rfl, ⟨fun h2 => ?_, fun h2 => ?_⟩⟩⟩)⟩⟩⟩)⟩))))))))))))))
      · -- then
        exact absurd (show false = true from h2) (by decide)
      · -- else
        refine ws_nil ?_
        refine ws_cons (w1_if (et_cmp hu (ev_ix (ev_v (i := 2) rfl rfl (ev_n 0 rfl (⟨_, _, rfl, .lst rfl, ev_gv T.c_SINGLES rfl (⟨_, _, _, rfl, rfl, (in_si2 k), ⟨fun h3 => ?_, fun h3 => ?_⟩⟩)⟩))))))
        · -- then
          exact absurd (show false = true from h3) (by decide)
        · -- else
          refine ws_nil ?_
          refine ws_one (w1_ret (ev_and (ev_cmp hu (ev_ix (ev_v (i := 2) rfl rfl (ev_n 0 rfl (⟨_, _, rfl, .lst rfl, ev_gv T.c_DOUBLES rfl (⟨_, _, _, rfl, rfl, (in_do2 k), ⟨_, rfl, fun a1 => ev_and (ev_cmp hu (ev_cb T.b_len bb_len (ea_cons (ev_v (i := 2) rfl rfl (ea_nil (⟨_, .lenL, ev_n 3 rfl (⟨_, _, _, rfl, rfl, .eqN, ⟨_, rfl, fun a2 => ev_one (ev_cmp hu (ev_ix (ev_v (i := 2) rfl rfl (ev_n 1 rfl (⟨_, _, rfl, .lst rfl, ev_ix (ev_v (i := 2) rfl rfl (ev_un (ev_n 1 rfl (⟨_, .neg, ⟨_, _, rfl, .lst rfl, ⟨_, _, _, rfl, rfl, .neS, (by first | exact absurd (show true = false from a1) (by decide) | exact absurd (show true = false from a2) (by decide) | (rw [dg_ne hac]; exact hQ))⟩⟩⟩))))⟩))))), fun a2 => (by first | exact absurd (show true = false from a1) (by decide) | exact absurd (show true = false from a2) (by decide) | (rw [dg_ne hac]; exact hQ))⟩⟩)⟩)))))), fun a1 => (by first | exact absurd (show true = false from a1) (by decide) | exact absurd (show true = false from a2) (by decide) | (rw [dg_ne hac]; exact hQ))⟩⟩)⟩)))))))


def Sp_lead_one : Spc := fun ds ω Q => ∃ (k : N1) (q m w : Nat), ds = [.str k.S, sgD (q, m), .int (w : Int)] ∧ w < 6 ∧ Q (sgD (lead1 k (q, m) w)) ω
theorem ok_lead_one {f : Addr} {fd : FuncData} (F : Fun K "lead_one" "lead_one" s_lead_one f fd) (hm : mg "lead_one" = some (.ref f)) (b : Binds K fd ["name", "signed", "wire"] []) (T : Tx K mg) (F_bit_x : Fn P w K mg base 1 "bit_x" 2 Sp_bit_x) (F_bit_z : Fn P w K mg base 1 "bit_z" 2 Sp_bit_z) (F_with_bits : Fn P w K mg base 1 "with_bits" 4 Sp_with_bits) : Fn P w K mg base 2 "lead_one" 3 Sp_lead_one := by
  refine fn_mk' F hm b sc_lead_one rfl fun cdv A outer s H E hr ds ω Qd hn hS => ?_
  obtain ⟨k, q, m, w, rfl, hw, hQ⟩ := hS
  have hu := hr.units
  refine ws_cons (w1_tup (p := .tp [.nm 3, .nm 4]) (gp_tp rfl (gp_cons (gp_v sc_lead_one.nd rfl) (gp_cons (gp_v sc_lead_one.nd rfl) (gp_nil)))) (ev_v (i := 1) rfl rfl (⟨_, rfl, ?_⟩)))
  refine ws_cons (w1_par (i := 5) (j := 6) rfl sc_lead_one.nd rfl rfl (by decide) rfl rfl (ea_cons (ev_call F_bit_x (hr.mono (by decide)) (ea_cons (ev_v (i := 4) rfl rfl (ea_cons (ev_v (i := 2) rfl rfl (ea_nil (⟨rfl, ⟨_, _, rfl, ea_cons (ev_call F_bit_z (hr.mono (by decide)) (ea_cons (ev_v (i := 4) rfl rfl (ea_cons (ev_v (i := 2) rfl rfl (ea_nil (⟨rfl, ⟨_, _, rfl, ea_nil (⟨_, _, rfl, ?_⟩)⟩⟩)))))))⟩⟩)))))))) (by rfl))  -- or w1_tup
  refine ws_cons (w1_if (et_cmp hu (ev_v (i := 0) rfl rfl (ev_str (⟨_, _, _, rfl, rfl, .eqS, ⟨fun h1 => ?_, fun h1 => ?_⟩⟩)))))
  · -- then
    refine ws_one (w1_ret (ev_tup (ea_cons (ev_bin (ev_bin (ev_v (i := 3) rfl rfl (ev_bin (ev_n 2 rfl (ev_bin (ev_v (i := 5) rfl rfl (ev_v (i := 6) rfl rfl (⟨_, _, _, rfl, rfl, .andN, ⟨_, _, _, rfl, rfl, .mulN, ⟨_, _, _, rfl, rfl, .addN, ev_n 4 rfl (⟨_, _, _, rfl, rfl, .modN, ea_cons (ev_call F_with_bits (hr.mono (by decide)) (ea_cons (ev_v (i := 4) rfl rfl (ea_cons (ev_v (i := 2) rfl rfl (ea_cons (ev_v (i := 6) rfl rfl (ea_cons (ev_v (i := 5) rfl rfl (ea_nil (⟨rfl, ⟨_, _, _, _, rfl, (by first | decide | omega | assumption), (by first | exact bx_le | exact bz_le | exact xor_le bx_le bz_le | exact xor_le bz_le bz_le | exact xor_le bz_le bx_le | exact xor_le bx_le bx_le), (by first | exact bx_le | exact bz_le | exact xor_le bx_le bz_le | exact xor_le bz_le bz_le | exact xor_le bz_le bx_le | exact xor_le bx_le bx_le), ea_nil (⟨Nat.le_of_ble_eq_true rfl, by cases k <;> first | exact hQ | exact absurd h1 (by decide) | exact absurd h2 (by decide)⟩)⟩⟩)))))))))))⟩)⟩⟩⟩))))))))))))
  · -- else
    refine ws_nil ?_
    refine ws_cons (w1_if (et_cmp hu (ev_v (i := 0) rfl rfl (ev_str (⟨_, _, _, rfl, rfl, .eqS, ⟨fun h2 => ?_, fun h2 => ?_⟩⟩)))))
    · -- then
      refine ws_one (w1_ret (ev_tup (ea_cons (ev_bin (ev_bin (ev_v (i := 3) rfl rfl (ev_bin (ev_n 2 rfl (ev_bin (ev_v (i := 5) rfl rfl (ev_v (i := 6) rfl rfl (⟨_, _, _, rfl, rfl, .andN, ⟨_, _, _, rfl, rfl, .mulN, ⟨_, _, _, rfl, rfl, .addN, ev_n 4 rfl (⟨_, _, _, rfl, rfl, .modN, ea_cons (ev_call F_with_bits (hr.mono (by decide)) (ea_cons (ev_v (i := 4) rfl rfl (ea_cons (ev_v (i := 2) rfl rfl (ea_cons (ev_v (i := 5) rfl rfl (ea_cons (ev_bin (ev_v (i := 5) rfl rfl (ev_v (i := 6) rfl rfl (⟨_, _, _, rfl, rfl, .xorN, ea_nil (⟨rfl, ⟨_, _, _, _, rfl, (by first | decide | omega | assumption), (by first | exact bx_le | exact bz_le | exact xor_le bx_le bz_le | exact xor_le bz_le bz_le | exact xor_le bz_le bx_le | exact xor_le bx_le bx_le), (by first | exact bx_le | exact bz_le | exact xor_le bx_le bz_le | exact xor_le bz_le bz_le | exact xor_le bz_le bx_le | exact xor_le bx_le bx_le), ea_nil (⟨Nat.le_of_ble_eq_true rfl, by cases k <;> first | exact hQ | exact absurd h1 (by decide) | exact absurd h2 (by decide)⟩)⟩⟩)⟩))))))))))))⟩)⟩⟩⟩))))))))))))
    · -- else
      refine ws_nil ?_
      refine ws_one (w1_ret (ev_tup (ea_cons (ev_bin (ev_bin (ev_v (i := 3) rfl rfl (ev_bin (ev_n 2 rfl (ev_ifeN (et_cmp hu (ev_v (i := 0) rfl rfl (ev_str (⟨_, _, _, rfl, rfl, .eqS, ⟨_, _, fun _ q => ev_v (i := 6) rfl rfl (q), fun _ q => ev_v (i := 5) rfl rfl (q), ⟨_, _, _, rfl, rfl, .mulN, ⟨_, _, _, rfl, rfl, .addN, ev_n 4 rfl (⟨_, _, _, rfl, rfl, .modN, ea_cons (ev_v (i := 4) rfl rfl (ea_nil (⟨Nat.le_of_ble_eq_true rfl, by cases k <;> first | exact hQ | exact absurd h1 (by decide) | exact absurd h2 (by decide)⟩)))⟩)⟩⟩⟩⟩)))))))))))))


def Sp_lead_two : Spc := fun ds ω Q => ∃ (k : N2) (q m a c : Nat), ds = [.str k.S, sgD (q, m), .int (a : Int), .int (c : Int)] ∧ a < 6 ∧ c < 6 ∧ Q (sgD (lead2 k (q, m) a c)) ω
theorem ok_lead_two {f : Addr} {fd : FuncData} (F : Fun K "lead_two" "lead_two" s_lead_two f fd) (hm : mg "lead_two" = some (.ref f)) (b : Binds K fd ["name", "signed", "one", "other"] []) (T : Tx K mg) (F_bit_x : Fn P w K mg base 1 "bit_x" 2 Sp_bit_x) (F_bit_z : Fn P w K mg base 1 "bit_z" 2 Sp_bit_z) (F_with_bits : Fn P w K mg base 1 "with_bits" 4 Sp_with_bits) : Fn P w K mg base 2 "lead_two" 4 Sp_lead_two := by
  refine fn_mk' F hm b sc_lead_two rfl fun cdv A outer s H E hr ds ω Qd hn hS => ?_
  obtain ⟨k, q, m, a, c, rfl, ha, hc, hQ⟩ := hS
  have hu := hr.units
  refine ws_cons (w1_tup (p := .tp [.nm 4, .nm 5]) (gp_tp rfl (gp_cons (gp_v sc_lead_two.nd rfl) (gp_cons (gp_v sc_lead_two.nd rfl) (gp_nil)))) (ev_v (i := 1) rfl rfl (⟨_, rfl, ?_⟩)))
  refine ws_cons (w1_par (i := 6) (j := 7) rfl sc_lead_two.nd rfl rfl (by decide) rfl rfl (ea_cons (ev_call F_bit_x (hr.mono (by decide)) (ea_cons (ev_v (i := 5) rfl rfl (ea_cons (ev_v (i := 2) rfl rfl (ea_nil (⟨rfl, ⟨_, _, rfl, ea_cons (ev_call F_bit_z (hr.mono (by decide)) (ea_cons (ev_v (i := 5) rfl rfl (ea_cons (ev_v (i := 2) rfl rfl (ea_nil (⟨rfl, ⟨_, _, rfl, ea_nil (⟨_, _, rfl, ?_⟩)⟩⟩)))))))⟩⟩)))))))) (by rfl))  -- or w1_tup
  refine ws_cons (w1_par (i := 8) (j := 9) rfl sc_lead_two.nd rfl rfl (by decide) rfl rfl (ea_cons (ev_call F_bit_x (hr.mono (by decide)) (ea_cons (ev_v (i := 5) rfl rfl (ea_cons (ev_v (i := 3) rfl rfl (ea_nil (⟨rfl, ⟨_, _, rfl, ea_cons (ev_call F_bit_z (hr.mono (by decide)) (ea_cons (ev_v (i := 5) rfl rfl (ea_cons (ev_v (i := 3) rfl rfl (ea_nil (⟨rfl, ⟨_, _, rfl, ea_nil (⟨_, _, rfl, ?_⟩)⟩⟩)))))))⟩⟩)))))))) (by rfl))  -- or w1_tup
  refine ws_cons (w1_if (et_cmp hu (ev_v (i := 0) rfl rfl (ev_str (⟨_, _, _, rfl, rfl, .eqS, ⟨fun h1 => ?_, fun h1 => ?_⟩⟩)))))
  · -- then
    refine ws_one (w1_ret (ev_tup (ea_cons (ev_v (i := 4) rfl rfl (ea_cons (ev_call F_with_bits (hr.mono (by decide)) (ea_cons (ev_call F_with_bits (hr.mono (by decide)) (ea_cons (ev_v (i := 5) rfl rfl (ea_cons (ev_v (i := 2) rfl rfl (ea_cons (ev_v (i := 8) rfl rfl (ea_cons (ev_v (i := 9) rfl rfl (ea_nil (⟨rfl, ⟨_, _, _, _, rfl, (by first | decide | omega | assumption), (by first | exact bx_le | exact bz_le | exact xor_le bx_le bz_le | exact xor_le bz_le bz_le | exact xor_le bz_le bx_le | exact xor_le bx_le bx_le), (by first | exact bx_le | exact bz_le | exact xor_le bx_le bz_le | exact xor_le bz_le bz_le | exact xor_le bz_le bx_le | exact xor_le bx_le bx_le), ea_cons (ev_v (i := 3) rfl rfl (ea_cons (ev_v (i := 6) rfl rfl (ea_cons (ev_v (i := 7) rfl rfl (ea_nil (⟨rfl, ⟨_, _, _, _, rfl, (by first | decide | omega | assumption), (by first | exact bx_le | exact bz_le | exact xor_le bx_le bz_le | exact xor_le bz_le bz_le | exact xor_le bz_le bx_le | exact xor_le bx_le bx_le), (by first | exact bx_le | exact bz_le | exact xor_le bx_le bz_le | exact xor_le bz_le bz_le | exact xor_le bz_le bx_le | exact xor_le bx_le bx_le), ea_nil (⟨Nat.le_of_ble_eq_true rfl, by cases k <;> first | exact hQ | exact absurd h1 (by decide) | exact absurd h2 (by decide)⟩)⟩⟩)))))))⟩⟩))))))))))))))))))
  · -- else
    refine ws_nil ?_
    refine ws_cons (w1_if (et_cmp hu (ev_v (i := 0) rfl rfl (ev_str (⟨_, _, _, rfl, rfl, .eqS, ⟨fun h2 => ?_, fun h2 => ?_⟩⟩)))))
    · -- then
      refine ws_cons (w1_let (i := 10) sc_lead_two.nd rfl (ev_bin (ev_bin (ev_v (i := 6) rfl rfl (ev_v (i := 9) rfl rfl (⟨_, _, _, rfl, rfl, .andN, ev_bin (ev_bin (ev_v (i := 8) rfl rfl (ev_v (i := 7) rfl rfl (⟨_, _, _, rfl, rfl, .xorN, ev_n 1 rfl (⟨_, _, _, rfl, rfl, .xorN, ⟨_, _, _, rfl, rfl, .andN, ?_⟩⟩)⟩))))⟩))))))
      refine ws_one (w1_let (i := 5) sc_lead_two.nd rfl (ev_call F_with_bits (hr.mono (by decide)) (ea_cons (ev_call F_with_bits (hr.mono (by decide)) (ea_cons (ev_v (i := 5) rfl rfl (ea_cons (ev_v (i := 2) rfl rfl (ea_cons (ev_v (i := 6) rfl rfl (ea_cons (ev_bin (ev_v (i := 7) rfl rfl (ev_v (i := 9) rfl rfl (⟨_, _, _, rfl, rfl, .xorN, ea_nil (⟨rfl, ⟨_, _, _, _, rfl, (by first | decide | omega | assumption), (by first | exact bx_le | exact bz_le | exact xor_le bx_le bz_le | exact xor_le bz_le bz_le | exact xor_le bz_le bx_le | exact xor_le bx_le bx_le), (by first | exact bx_le | exact bz_le | exact xor_le bx_le bz_le | exact xor_le bz_le bz_le | exact xor_le bz_le bx_le | exact xor_le bx_le bx_le), ea_cons (ev_v (i := 3) rfl rfl (ea_cons (ev_bin (ev_v (i := 8) rfl rfl (ev_v (i := 6) rfl rfl (⟨_, _, _, rfl, rfl, .xorN, ea_cons (ev_v (i := 9) rfl rfl (ea_nil (⟨rfl, ⟨_, _, _, _, rfl, (by first | decide | omega | assumption), (by first | exact bx_le | exact bz_le | exact xor_le bx_le bz_le | exact xor_le bz_le bz_le | exact xor_le bz_le bx_le | exact xor_le bx_le bx_le), (by first | exact bx_le | exact bz_le | exact xor_le bx_le bz_le | exact xor_le bz_le bz_le | exact xor_le bz_le bx_le | exact xor_le bx_le bx_le), ?_⟩⟩)))⟩))))))⟩⟩)⟩)))))))))))))))
      refine ws_one (w1_ret (ev_tup (ea_cons (ev_bin (ev_bin (ev_v (i := 4) rfl rfl (ev_bin (ev_n 2 rfl (ev_v (i := 10) rfl rfl (⟨_, _, _, rfl, rfl, .mulN, ⟨_, _, _, rfl, rfl, .addN, ev_n 4 rfl (⟨_, _, _, rfl, rfl, .modN, ea_cons (ev_v (i := 5) rfl rfl (ea_nil (⟨Nat.le_of_ble_eq_true rfl, by cases k <;> first | exact hQ | exact absurd h1 (by decide) | exact absurd h2 (by decide)⟩)))⟩)⟩⟩))))))))))
    · -- else
      refine ws_cons (w1_let (i := 10) sc_lead_two.nd rfl (ev_bin (ev_bin (ev_v (i := 6) rfl rfl (ev_v (i := 8) rfl rfl (⟨_, _, _, rfl, rfl, .andN, ev_bin (ev_v (i := 7) rfl rfl (ev_v (i := 9) rfl rfl (⟨_, _, _, rfl, rfl, .xorN, ⟨_, _, _, rfl, rfl, .andN, ?_⟩⟩)))⟩))))))
      refine ws_one (w1_let (i := 5) sc_lead_two.nd rfl (ev_call F_with_bits (hr.mono (by decide)) (ea_cons (ev_call F_with_bits (hr.mono (by decide)) (ea_cons (ev_v (i := 5) rfl rfl (ea_cons (ev_v (i := 2) rfl rfl (ea_cons (ev_v (i := 6) rfl rfl (ea_cons (ev_bin (ev_v (i := 7) rfl rfl (ev_v (i := 8) rfl rfl (⟨_, _, _, rfl, rfl, .xorN, ea_nil (⟨rfl, ⟨_, _, _, _, rfl, (by first | decide | omega | assumption), (by first | exact bx_le | exact bz_le | exact xor_le bx_le bz_le | exact xor_le bz_le bz_le | exact xor_le bz_le bx_le | exact xor_le bx_le bx_le), (by first | exact bx_le | exact bz_le | exact xor_le bx_le bz_le | exact xor_le bz_le bz_le | exact xor_le bz_le bx_le | exact xor_le bx_le bx_le), ea_cons (ev_v (i := 3) rfl rfl (ea_cons (ev_v (i := 8) rfl rfl (ea_cons (ev_bin (ev_v (i := 9) rfl rfl (ev_v (i := 6) rfl rfl (⟨_, _, _, rfl, rfl, .xorN, ea_nil (⟨rfl, ⟨_, _, _, _, rfl, (by first | decide | omega | assumption), (by first | exact bx_le | exact bz_le | exact xor_le bx_le bz_le | exact xor_le bz_le bz_le | exact xor_le bz_le bx_le | exact xor_le bx_le bx_le), (by first | exact bx_le | exact bz_le | exact xor_le bx_le bz_le | exact xor_le bz_le bz_le | exact xor_le bz_le bx_le | exact xor_le bx_le bx_le), ?_⟩⟩)⟩))))))))⟩⟩)⟩)))))))))))))))
      refine ws_one (w1_ret (ev_tup (ea_cons (ev_bin (ev_bin (ev_v (i := 4) rfl rfl (ev_bin (ev_n 2 rfl (ev_v (i := 10) rfl rfl (⟨_, _, _, rfl, rfl, .mulN, ⟨_, _, _, rfl, rfl, .addN, ev_n 4 rfl (⟨_, _, _, rfl, rfl, .modN, ea_cons (ev_v (i := 5) rfl rfl (ea_nil (⟨Nat.le_of_ble_eq_true rfl, by cases k <;> first | exact hQ | exact absurd h1 (by decide) | exact absurd h2 (by decide)⟩)))⟩)⟩⟩))))))))))


def Sp__law_of : Spc := fun ds ω Q => ∃ (k n : Nat) (α : Type) (xs : List α) (enc : α → D), ds = [.cell k, .lst (xs.map enc)] ∧ Pot k n ω ∧ n < 1000000 ∧ 0 < xs.length ∧ xs.length < 1073741824 ∧ ∀ y ω', y ∈ xs → PotTo k (n + 1) ω ω' → Q (enc y) ω'
theorem ok__law_of {f : Addr} {fd : FuncData} (F : Fun K "_law_of" "_law_of" s__law_of f fd) (hm : mg "_law_of" = some (.ref f)) (b : Binds K fd ["pot", "some"] []) (T : Tx K mg) (F__law_take : Fn P w K mg base 1 "_law_take" 2 Sp__law_take) : Fn P w K mg base 2 "_law_of" 2 Sp__law_of := by
  refine fn_mk' F hm b sc__law_of rfl fun cdv A outer sh H E hr ds ω Qd hn hS => ?_
  obtain ⟨k, n, α, xs, enc, rfl, hp, hn2, hx0, hx1, hQ⟩ := hS
  have hu := hr.units
  refine ws_one (w1_ret (ev_ix (ev_v (i := 1) rfl rfl (ev_call F__law_take (hr.mono (by decide)) (ea_cons (ev_v (i := 0) rfl rfl (ea_cons (ev_cb T.b_len bb_len (ea_cons (ev_v (i := 1) rfl rfl (ea_nil (⟨_, .lenL, ea_nil (⟨rfl, ⟨_, _, _, rfl, hp, (by first | decide | omega | assumption | (rw [List.length_map]; assumption)), (by first | decide | omega | assumption | (rw [List.length_map]; assumption)), (by first | decide | omega | assumption | (rw [List.length_map]; assumption)), fun r1 ω1 hr1 ht1 => ⟨_, _, rfl, (.lst (at_map hr1)), (hQ _ _ (List.getElem_mem _) ht1)⟩⟩⟩)⟩))))))))))))


def Sp__law_some : Spc := fun ds ω Q => ∃ (k n : Nat) (α : Type) (xs : List α) (enc : α → D) (m : Nat), ds = [.cell k, .lst (xs.map enc), .int (m : Int)] ∧ Pot k n ω ∧ n + m < 1000000 ∧ m ≤ xs.length ∧ xs.length < 100000 ∧ (∀ x N, clB N (enc x) = true) ∧ ∀ (ys zs : List α) ω', (ys ++ zs).Perm xs → ys.length = m → PotTo k (n + m) ω ω' → Q (.lst (ys.map enc)) ω'
theorem ok__law_some {f : Addr} {fd : FuncData} (F : Fun K "_law_some" "_law_some" s__law_some f fd) (hm : mg "_law_some" = some (.ref f)) (b : Binds K fd ["pot", "pool", "many"] []) (T : Tx K mg) (F__law_take : Fn P w K mg base 1 "_law_take" 2 Sp__law_take) : Fn P w K mg base 2 "_law_some" 3 Sp__law_some := by
  refine fn_mkD F hm b sc__law_some rfl fun cdv A outer sh H E hr ds ω Qd hn hS => ?_
  obtain ⟨k, n, α, xs, enc, m, rfl, hp, hnm, hmx, hx1, hcl, hQ⟩ := hS
  have hu := hr.units
  have hk := hp.lt
  refine ws_cons (w1_par (i := 3) (j := 4) rfl sc__law_some.nd rfl rfl (by decide) rfl rfl (ea_cons (ev_new (el_list rfl T.b_list (ev_v (i := 1) rfl rfl (⟨_, _, rfl, .lst, (by rw [List.length_map]; exact Nat.le_trans (Nat.le_of_lt hx1) (Nat.le_of_ble_eq_true rfl)), ea_cons (ev_new (el_lst (ea_nil (⟨Nat.le_of_ble_eq_true rfl, ea_nil (⟨_, _, rfl, ?_⟩)⟩))))⟩))))) (by rfl))
  rw [List.append_assoc, List.length_append]
  refine ws_cons (w1_run (p := .nm 5) PassesOwn.never rfl (gp_v sc__law_some.nd rfl) (it_rng1 T.b_range (ev_v (i := 2) rfl rfl (⟨_, rfl, (by omega), (by omega), ⟨List.range m, (fun i : Nat => .int (i : Int)),
    fun i ρ2 ω2 => ∃ (ys zs : List α) (ω1 : Om) (x : Option D), ω2 = ω1 ++ [.lst (zs.map enc), .lst (ys.map enc)] ∧ PotTo k (n + i) ω ω1 ∧ (ys ++ zs).Perm xs ∧ ys.length = i ∧ ρ2 = [some (.cell k), some (.lst (xs.map enc)), some (.int (m : Int)), some (.cell ω.length), some (.cell (ω.length + 1)), x],
    rgD_0 m, (fun _ _ _ _ => trivial), ?_, ?_, ?_⟩⟩))))
  · exact ⟨[], xs, ω, none, rfl, hp.refl, List.Perm.refl _, rfl, rfl⟩
  · rintro i lap ρ2 ω2 hx ⟨ys, zs, ω1, x, rfl, ht, hperm, hyl, rfl⟩
    have hi : i < m := by have := (List.getElem?_eq_some_iff.mp hx).1; simpa using this
    have hlen := hperm.length_eq
    rw [List.length_append] at hlen
    have el := ht.len
    refine ⟨_, rfl, ?_⟩
    rw [← el]
    have hp1 : Pot k (n + i) (ω1 ++ [.lst (zs.map enc), .lst (ys.map enc)]) := ht.pot.app _
    refine ws_one (w1_expr (ev_append (ev_v (i := 4) rfl rfl (⟨_, _, rfl, get_n2, ev_popAt (ev_v (i := 3) rfl rfl (⟨_, _, rfl, get_n1, ev_call F__law_take (hr.mono (by decide)) (ea_cons (ev_v (i := 0) rfl rfl (ea_cons (ev_cb T.b_len bb_len (ea_cons (ev_v (i := 3) rfl rfl (ea_nil (⟨_, (.lenK get_n1), ea_nil (⟨rfl, ⟨_, _, _, rfl, hp1, (by omega), (by rw [List.length_map]; omega), (by rw [List.length_map]; omega), fun r ω3 hr1 ht1 => ?_⟩⟩)⟩))))))))⟩))⟩))))
    rw [List.length_map] at hr1
    obtain ⟨ω4, rfl, ht4⟩ := ht1.split (by rw [el]; exact hk)
    have e4 := ht4.len
    refine ⟨zs.map enc, (r : Int), r, enc (zs[r]'hr1), by rw [← e4]; exact get_n1, rfl, by omega, by omega, by omega, by rw [List.getElem?_map, List.getElem?_eq_getElem hr1]; rfl, ?_⟩
    rw [← e4, set_n1]
    refine ⟨ys.map enc, get_n2, by rw [List.length_map]; exact ln_ok' (by omega), ?_⟩
    rw [set_n2]
    refine ⟨ys ++ [zs[r]'hr1], zs.eraseIdx r, ω4, _, ?_, (ht.trans ht4).mono (by omega), ?_, by rw [List.length_append, hyl]; rfl, by rw [e4, el]; rfl⟩
    · rw [List.map_append, List.map_eraseIdx']; rfl
    · refine List.Perm.trans ?_ hperm
      rw [List.append_assoc]
      refine List.Perm.append_left ys ?_
      exact perm_erase hr1
  · rintro ρ2 ω2 ⟨ys, zs, ω1, x, rfl, ht, hperm, hyl, rfl⟩
    rw [List.length_range] at ht hyl
    rw [← ht.len]
    refine ws_one (w1_ret (ev_die (ev_v (i := 4) rfl rfl ⟨_, _, rfl, get_n2, ?_⟩)))
    rw [set_n2]
    exact Dr.pot ht (clBs_map fun x => hcl x _) (hQ ys zs ω1 hperm hyl ht)

def Sp__law_is_word : Spc := fun ds ω Q => ∃ (g : Bool) (l : List Lt) (w : Nat), ds = [.str (wS g l), .int (w : Int)] ∧ l.length ≤ 100 ∧ Q (.bl (decide (l.length = w))) ω
theorem ok__law_is_word {f : Addr} {fd : FuncData} (F : Fun K "_law_is_word" "_law_is_word" s__law_is_word f fd) (hm : mg "_law_is_word" = some (.ref f)) (b : Binds K fd ["value", "wires"] []) (T : Tx K mg) (F__law_are_letters : Fn P w K mg base 1 "_law_are_letters" 2 Sp__law_are_letters) : Fn P w K mg base 2 "_law_is_word" 2 Sp__law_is_word := by
  refine fn_mk' F hm b sc__law_is_word rfl fun cdv A outer sh H E hr ds ω Qd hn hS => ?_
  obtain ⟨g, l, w, rfl, hl, hQ⟩ := hS
  have hu := hr.units
  refine ws_one (w1_ret (ev_and (ev_cb T.b_isinstance bb_isinstance (ea_cons (ev_v (i := 0) rfl rfl (ea_cons (ev_blt T.b_str bb_str (ea_nil (⟨_, .isi rfl (by decide +kernel : kitB "str" "str" = some true), ⟨_, rfl, fun a1 => ev_and (ev_cmp hu (ev_sl (ev_v (i := 0) rfl rfl (eo_none (eo_some (ev_n 1 rfl (⟨_, rfl, ⟨_, _, rfl, (sl_w01 g (by omega)), ev_tup (ea_cons (ev_str (ea_cons (ev_str (ea_nil (⟨Nat.le_of_ble_eq_true rfl, ⟨_, _, _, rfl, rfl, (in_sgt g), ⟨_, rfl, fun a2 => ev_one (ev_call F__law_are_letters (hr.mono (by decide)) (ea_cons (ev_sl (ev_v (i := 0) rfl rfl (eo_some (ev_n 1 rfl (⟨_, rfl, eo_none (⟨_, _, rfl, (sl_w1 g (by omega)), ea_cons (ev_v (i := 1) rfl rfl (ea_nil (⟨rfl, ⟨_, _, rfl, (by first | decide | omega | assumption), (by first | exact absurd a1 (by decide) | exact absurd a2 (by decide) | exact hQ)⟩⟩)))⟩)⟩))))))), fun a2 => (by first | exact absurd a1 (by decide) | exact absurd a2 (by decide) | exact hQ)⟩⟩⟩))))))⟩⟩))))))), fun a1 => (by first | exact absurd a1 (by decide) | exact absurd a2 (by decide) | exact hQ)⟩⟩)))))))))


def Sp__law_acted : Spc := fun ds ω Q => ∃ (n q : Nat) (l : List Lt) (ψ : Sf), ds = [.tup [.int (q : Int), .str (lS l)], .lst (stL n ψ)] ∧ l.length = n ∧ n ≤ 6 ∧ Q (.lst (stL n (actF n q l ψ))) ω
def toldL (n q : Nat) (l : List Lt) (ψ : Sf) (i : Nat) : List D := (List.range (2 ^ n)).map fun p => gD (if p ^^^ XL n l < i then actF n q l ψ p else (0, 0))
theorem told_set {n q : Nat} {l : List Lt} {ψ : Sf} {i : Nat} : (toldL n q l ψ i).set (i ^^^ XL n l) (gD (spun (ψ i) (actAt n q l i).2)) = toldL n q l ψ (i + 1) := by
  unfold toldL
  refine map_set (fun p hp => ?_) ?_
  · have e : (p ^^^ XL n l < i) ↔ (p ^^^ XL n l < i + 1) := by
      constructor
      · intro h; omega
      · intro h
        by_cases h2 : p ^^^ XL n l = i
        · exact absurd (by rw [← h2, xor_xor]) hp
        · omega
    by_cases h : p ^^^ XL n l < i
    · rw [if_pos h, if_pos (e.mp h)]
    · rw [if_neg h, if_neg (fun h2 => h (e.mpr h2))]
  · rw [xor_xor, if_pos (by omega)]
    unfold actF
    rw [xor_xor]
theorem ok__law_acted {f : Addr} {fd : FuncData} (F : Fun K "_law_acted" "_law_acted" s__law_acted f fd) (hm : mg "_law_acted" = some (.ref f)) (b : Binds K fd ["word", "state"] []) (T : Tx K mg) (F__law_spun : Fn P w K mg base 1 "_law_spun" 2 Sp__law_spun) : Fn P w K mg base 2 "_law_acted" 2 Sp__law_acted := by
  refine fn_mkD F hm b sc__law_acted rfl fun cdv A outer sh H E hr ds ω Qd hn hS => ?_
  obtain ⟨_, q, l, ψ, rfl, rfl, hl, hQ⟩ := hS
  have hu := hr.units
  have hN : 2 ^ l.length ≤ 64 := Nat.le_trans (Nat.pow_le_pow_right (by decide) hl) (by decide)
  have hNl : ((List.range (2 ^ l.length)).map fun _ => gD (0, 0)).length = 2 ^ l.length := by rw [List.length_map, List.length_range]
  generalize hnn : l.length = n at *
  refine ws_cons (w1_par (i := 2) (j := 3) rfl sc__law_acted.nd rfl rfl (by decide) rfl rfl (ea_cons (ev_cb T.b_len bb_len (ea_cons (ev_ix (ev_v (i := 0) rfl rfl (ev_int (⟨_, _, rfl, .tup rfl, ea_nil (⟨_, len_lS (by omega), ea_cons (ev_new (el_lc (p := .nm 5) [("one", 5)] rfl sc__law_acted.nd (blkOk_by (N := N__law_acted) (sc := defScope s__law_acted) (by decide +kernel)) (fun _ _ _ _ _ => gp_v sc__law_acted.nd rfl) (by decide) (lc_map (it_any (ev_v (i := 1) rfl rfl (⟨_, _, rfl, rfl, ⟨List.range (2 ^ n), fun p => gD (ψ p), fun _ => gD (0, 0), rfl, rfl, (by rw [List.length_range]; exact ln_ok (by omega)), fun x hx => ⟨_, rfl, fun _ _ _ _ _ => ev_tup (ea_cons (ev_int (ea_cons (ev_int (ea_nil (⟨Nat.le_of_ble_eq_true rfl, ⟨rfl, rfl⟩⟩))))))⟩, ea_nil (⟨_, _, rfl, ?_⟩)⟩⟩))))))⟩)⟩))))))) (by rfl))
  rw [hnn]
  have e0 : ((List.range (2 ^ n)).map fun _ => gD (0, 0)) = toldL n q l ψ 0 := by
    unfold toldL
    apply List.map_congr_left
    intro p _
    rw [if_neg (by omega)]
  rw [e0]
  refine ws_cons (w1_run (p := .tp [.nm 4, .nm 5]) PassesOwn.never rfl (gp_tp rfl (gp_cons (gp_v sc__law_acted.nd rfl) (gp_cons (gp_v sc__law_acted.nd rfl) (gp_nil)))) (it_enum T.b_enumerate (ev_v (i := 1) rfl rfl (⟨_, _, rfl, rfl, ⟨List.range (2 ^ n), (fun p => .tup [.int (p : Nat), gD (ψ p)]),
    fun i ρ2 ω2 => ω2 = ω ++ [.lst (toldL n q l ψ i)] ∧ ∃ x4 x5 x6 x7 x8 x9 x10, ρ2 = [some (.tup [.int (q : Int), .str (lS l)]), some (.lst (stL n ψ)), some (.int (n : Int)), some (.cell ω.length), x4, x5, x6, x7, x8, x9, x10],
    enum_st n ψ, (fun _ _ _ _ => rfl), ?_, ?_, ?_⟩⟩))))
  · exact ⟨rfl, _, _, _, _, _, _, _, rfl⟩
  · rintro i at' ρ2 ω2 hx ⟨rfl, x4, x5, x6, x7, x8, x9, x10, rfl⟩
    have hi : i < 2 ^ n := by have := (List.getElem?_eq_some_iff.mp hx).1; simpa using this
    have ei : at' = i := by rw [List.getElem?_range hi] at hx; cases hx; rfl
    subst ei
    refine ⟨_, rfl, ?_⟩
    refine ws_cons (w1_par (i := 6) (j := 7) rfl sc__law_acted.nd rfl rfl (by decide) rfl rfl (ea_cons (ev_v (i := 4) rfl rfl (ea_cons (ev_ix (ev_v (i := 0) rfl rfl (ev_int (⟨_, _, rfl, .tup rfl, ea_nil (⟨_, _, rfl, ?_⟩)⟩))))))) (by rfl))
    refine ws_cons (w1_fold (p := .tp [.nm 8, .nm 9]) PassesOwn.never rfl (gp_tp rfl (gp_cons (gp_v sc__law_acted.nd rfl) (gp_cons (gp_v sc__law_acted.nd rfl) (gp_nil)))) (it_enum T.b_enumerate (ev_ix (ev_v (i := 0) rfl rfl (ev_int (⟨_, _, rfl, .tup rfl, ⟨_, _, rfl, rfl, ⟨l.zipIdx, (fun p => .tup [.int (p.2 : Nat), .str (chL p.1)]),
      fun s ρ3 ω3 => ω3 = ω ++ [.lst (toldL n q l ψ at')] ∧ ∃ x8 x9 x10, ρ3 = [some (.tup [.int (q : Int), .str (lS l)]), some (.lst (stL n ψ)), some (.int (n : Int)), some (.cell ω.length), some (.int (at' : Int)), some (gD (ψ at')), some (.int ((s.1 : Nat) : Int)), some (.int ((s.2 : Nat) : Int)), x8, x9, x10],
      ((at', q) : Nat × Nat), actStep n at', enum_lS l, (fun _ _ _ _ => rfl), ?_, ?_, ?_⟩⟩⟩))))))
    · exact ⟨rfl, _, _, _, rfl⟩
    · rintro i2 ⟨c, j⟩ ρ2 ω2 hx ⟨rfl, x8, x9, x10, rfl⟩
      generalize (l.zipIdx.take i2).foldl (actStep n at') (at', q) = s
      have hj : j < n := by have := lt_of_zipIdx hx; omega
      refine ⟨_, rfl, ?_⟩
      refine ws_cons (w1_let (i := 10) sc__law_acted.nd rfl (ev_bin (ev_n 1 rfl (ev_ct T.b_int bb_int (ea_cons (ev_bin (ev_bin (ev_v (i := 2) rfl rfl (ev_n 1 rfl (⟨_, _, _, rfl, rfl, .subN (by omega), ev_v (i := 8) rfl rfl (⟨_, _, _, rfl, rfl, .subN (by omega), ea_nil (⟨_, .intI, ⟨_, _, _, rfl, rfl, .shlN (by decide) (by omega), ?_⟩⟩)⟩)⟩))))))))))
      refine ws_cons (w1_ifJ (fun ρ' ω' => ω' = ω ++ [.lst (toldL n q l ψ at')] ∧ ρ' = [some (.tup [.int (q : Int), .str (lS l)]), some (.lst (stL n ψ)), some (.int (n : Int)), some (.cell ω.length), some (.int (at' : Int)), some (gD (ψ at')), some (.int ((xM n s.1 (c, j) : Nat) : Int)), some (.int ((s.2 : Nat) : Int)), some (.int (j : Int)), some (.str (chL c)), some (.int ((mw n j : Nat) : Int))]) (et_cmp hu (ev_v (i := 9) rfl rfl (ev_str (⟨_, _, _, rfl, rfl, in_XYs c, ⟨fun h1 => ?_, fun h1 => ?_⟩⟩)))) ?_)
      · refine ws_one (w1_let (i := 6) sc__law_acted.nd rfl (ev_bin (ev_v (i := 6) rfl rfl (ev_v (i := 10) rfl rfl (⟨_, _, _, rfl, rfl, .xorN, ?_⟩)))))
        refine ⟨rfl, ?_⟩
        unfold xM
        rw [if_pos (show (c, j).1.1 = true from h1)]
        rfl
      · refine ws_nil ⟨rfl, ?_⟩
        unfold xM
        rw [if_neg (show ¬ (c, j).1.1 = true by rw [show (c, j).1.1 = false from h1]; decide)]
        rfl
      · rintro ρ' ω' ⟨rfl, rfl⟩
        refine ws_one (w1_let (i := 7) sc__law_acted.nd rfl (ev_bin (ev_bin (ev_v (i := 7) rfl rfl (ev_ct T.b_int bb_int (ea_cons (ev_cmp hu (ev_v (i := 9) rfl rfl (ev_str (⟨_, _, _, rfl, rfl, eq_Y c, ea_nil (⟨_, .intBN, ⟨_, _, _, rfl, rfl, .addN, ev_bin (ev_n 2 rfl (ev_ct T.b_int bb_int (ea_cons (ev_andD (ev_cmp hu (ev_v (i := 9) rfl rfl (ev_str (⟨_, _, _, rfl, rfl, in_YZs c, ⟨_, c.2 && bt n at' j, rfl, fun a1 _ q1 => ev_one (ev_cmp hu (ev_bin (ev_v (i := 4) rfl rfl (ev_v (i := 10) rfl rfl (⟨_, _, _, rfl, rfl, .andN, ev_n 0 rfl (⟨_, _, _, rfl, rfl, .neN, (by rw [a1] at q1; exact q1)⟩)⟩))))), fun a1 => (by rw [a1]; rfl), ea_nil (⟨_, .intBN, ⟨_, _, _, rfl, rfl, .mulN, ⟨_, _, _, rfl, rfl, .addN, ?_⟩⟩⟩)⟩⟩))))))))⟩⟩)⟩))))))))))
        exact ⟨rfl, _, _, _, rfl⟩
    · rintro ρ2 ω2 ⟨rfl, x8, x9, x10, rfl⟩
      have e1 : l.zipIdx.foldl (actStep n at') (at', q) = (at' ^^^ XL n l, (actAt n q l at').2) := by
        rw [← actAt_1 n q at' l]
        rfl
      rw [e1]
      have hlt : at' ^^^ XL n l < (toldL n q l ψ at').length := by
        unfold toldL
        rw [List.length_map, List.length_range]
        exact Nat.xor_lt_two_pow hi (XL_lt (by omega))
      refine ws_one (w1_setL (ev_call F__law_spun (hr.mono (by decide)) (ea_cons (ev_v (i := 5) rfl rfl (ea_cons (ev_v (i := 7) rfl rfl (ea_nil (⟨rfl, ⟨_, _, rfl, ev_v (i := 3) rfl rfl (ev_v (i := 6) rfl rfl (⟨_, _, _, _, rfl, get_new, rfl, ixN_nat hlt, ?_⟩))⟩⟩))))))))
      rw [set_new, told_set]
      exact ⟨rfl, _, _, _, _, _, _, _, rfl⟩
  · rintro ρ2 ω2 ⟨rfl, x4, x5, x6, x7, x8, x9, x10, rfl⟩
    rw [List.length_range]
    refine ws_one (w1_ret (ev_die (ev_v (i := 3) rfl rfl ⟨_, _, rfl, get_new, ?_⟩)))
    rw [set_new]
    have e2 : toldL n q l ψ (2 ^ n) = stL n (actF n q l ψ) := by
      unfold toldL stL
      apply List.map_congr_left
      intro p hp
      rw [if_pos (Nat.xor_lt_two_pow (List.mem_range.mp hp) (XL_lt (by omega)))]
    rw [e2]
    exact Dr.same (clBs_map fun _ => rfl) hQ

def Sp__law_gate_on : Spc := fun ds ω Q => ∃ (n : Nat) (ψ : Sf) (g : Gt), ds = [.lst (stL n ψ), gtD g, .int (n : Int)] ∧ g.ok n ∧ 1 ≤ n ∧ n ≤ 6 ∧ Q (.lst (stL n (gateF n g ψ))) ω
theorem ok__law_gate_on {f : Addr} {fd : FuncData} (F : Fun K "_law_gate_on" "_law_gate_on" s__law_gate_on f fd) (hm : mg "_law_gate_on" = some (.ref f)) (b : Binds K fd ["state", "gate", "wires"] []) (T : Tx K mg) (F__law_spun : Fn P w K mg base 1 "_law_spun" 2 Sp__law_spun) (F__law_plus : Fn P w K mg base 1 "_law_plus" 2 Sp__law_plus) : Fn P w K mg base 2 "_law_gate_on" 3 Sp__law_gate_on := by
  refine fn_mkD F hm b sc__law_gate_on rfl fun cdv A outer sh H E hr ds ω Qd hn hS => ?_
  obtain ⟨n, ψ, g, rfl, hg, hn1, hn6, hQ⟩ := hS
  have hu := hr.units
  have hN : 2 ^ n ≤ 64 := Nat.le_trans (Nat.pow_le_pow_right (by decide) hn6) (by decide)
  refine ws_cons (w1_par (i := 3) (j := 4) rfl sc__law_gate_on.nd rfl rfl (by decide) rfl rfl (ea_cons (ev_frz (el_split (ev_v (i := 1) rfl rfl (⟨_, rfl, ev_str (⟨_, rfl, rfl, gt_small g, ea_cons (ev_new (el_lst (ea_nil (⟨Nat.le_of_ble_eq_true rfl, ea_nil (⟨_, _, rfl, ?_⟩)⟩))))⟩)⟩))))) (by rfl))
  rw [Gt.split hg hn6]
  rcases g with ⟨k, a⟩ | ⟨k, a, c⟩
  · have h1a : a < n := hg
    refine ws_cons (w1_lcF (i := 5) (p := .nm 10) [("part", 10)] rfl sc__law_gate_on.nd rfl rfl (sw_true rfl rfl rfl (by decide +kernel)) (blkOk_by (N := N__law_gate_on) (sc := defScope s__law_gate_on) (by decide +kernel)) (fun _ _ _ _ _ => gp_v sc__law_gate_on.nd rfl) (by decide) (lc_map (it_any (ev_sl (ev_v (i := 3) rfl rfl (eo_some (ev_n 1 rfl (⟨_, rfl, eo_none (⟨_, _, rfl, .lst, ⟨_, _, rfl, rfl, ⟨Gt.ws (.o k a), (fun a => .str (dgS a)), (fun a => .int ((mw n a : Nat) : Int)), gate_ws (.o k a), rfl, (gate_wl _), fun x hx => ⟨_, rfl, fun _ _ _ _ _ => ev_bin (ev_n 1 rfl (ev_ct T.b_int bb_int (ea_cons (ev_bin (ev_bin (ev_v (i := 2) rfl rfl (ev_n 1 rfl (⟨_, _, _, rfl, rfl, .subN (by omega), ev_ct T.b_int bb_int (ea_cons (ev_v (i := 10) rfl rfl (ea_nil (⟨_, int_dg (Nat.lt_of_lt_of_le (gate_lt hg _ hx) hn6), ⟨_, _, _, rfl, rfl, .subN (by have := gate_lt hg _ hx; omega), ea_nil (⟨_, .intI, ⟨_, _, _, rfl, rfl, .shlN (by decide) (by omega), ⟨rfl, rfl⟩⟩⟩)⟩⟩))))⟩))))))))⟩, ?_⟩⟩⟩)⟩))))))))
    refine ws_cons (w1_run (p := .tp [.nm 6, .nm 7]) PassesOwn.never rfl (gp_tp rfl (gp_cons (gp_v sc__law_gate_on.nd rfl) (gp_cons (gp_v sc__law_gate_on.nd rfl) (gp_nil)))) (it_enum T.b_enumerate (ev_v (i := 0) rfl rfl (⟨_, _, rfl, rfl, ⟨List.range (2 ^ n), (fun p => .tup [.int (p : Nat), gD (ψ p)]),
      fun i ρ2 ω2 => ω2 = ω ++ [.lst ((List.range i).map fun p => gD (gateF n (.o k a) ψ p))] ∧ ∃ x6 x7 x8 x9 x10 x11, ρ2 = [some (.lst (stL n ψ)), some (gtD (.o k a)), some (.int (n : Int)), some (.lst ((Gt.parts (.o k a)).map D.str)), some (.cell ω.length), some (.lst ((Gt.ws (.o k a)).map fun a => .int ((mw n a : Nat) : Int))), x6, x7, x8, x9, x10, x11],
      enum_st n ψ, (fun _ _ _ _ => rfl), ?_, ?_, ?_⟩⟩))))
    · exact ⟨rfl, _, _, _, _, _, _, rfl⟩
    · rintro i at' ρ2 ω2 hx ⟨rfl, x6, x7, x8, x9, x10, x11, rfl⟩
      have hi : i < 2 ^ n := by have := (List.getElem?_eq_some_iff.mp hx).1; simpa using this
      have ei : at' = i := by rw [List.getElem?_range hi] at hx; cases hx; rfl
      subst ei
      refine ⟨_, rfl, ?_⟩
      refine ws_cons (w1_lcF (i := 8) (p := .nm 11) [("mark", 11)] rfl sc__law_gate_on.nd rfl rfl (sw_true rfl rfl rfl (by decide +kernel)) (blkOk_by (N := N__law_gate_on) (sc := defScope s__law_gate_on) (by decide +kernel)) (fun _ _ _ _ _ => gp_v sc__law_gate_on.nd rfl) (by decide) (lc_map (it_any (ev_v (i := 5) rfl rfl (⟨_, _, rfl, rfl, ⟨Gt.ws (.o k a), (fun a => .int ((mw n a : Nat) : Int)), (fun a => .bl (bt n at' a)), rfl, rfl, (gate_wl _), fun x hx => ⟨_, rfl, fun _ _ _ _ _ => ev_cmp hu (ev_bin (ev_v (i := 6) rfl rfl (ev_v (i := 11) rfl rfl (⟨_, _, _, rfl, rfl, .andN, ev_n 0 rfl (⟨_, _, _, rfl, rfl, .neN, ⟨rfl, rfl⟩⟩)⟩))))⟩, ?_⟩⟩)))))
      cases k
      · -- h
        refine ws_cons (w1_if (et_cmp hu (ev_ix (ev_v (i := 3) rfl rfl (ev_int (⟨_, _, rfl, .lst rfl, ev_str (⟨_, _, _, rfl, rfl, .eqS, ⟨fun h1 => ?_, fun h1 => absurd h1 (by decide)⟩⟩)⟩))))))
        refine ws_cons (w1_let (i := 9) sc__law_gate_on.nd rfl (ev_ix (ev_v (i := 0) rfl rfl (ev_bin (ev_v (i := 6) rfl rfl (ev_ix (ev_v (i := 5) rfl rfl (ev_int (⟨_, _, rfl, .lst rfl, ⟨_, _, _, rfl, rfl, .xorN, ⟨_, _, rfl, .lst (st_ix (xor_lt hi h1a)), ?_⟩⟩⟩)))))))))
        refine ws_one (w1_let (i := 7) sc__law_gate_on.nd rfl (ev_call F__law_plus (hr.mono (by decide)) (ea_cons (ev_v (i := 9) rfl rfl (ea_cons (ev_call F__law_spun (hr.mono (by decide)) (ea_cons (ev_v (i := 7) rfl rfl (ea_cons (ev_bin (ev_n 2 rfl (ev_ct T.b_int bb_int (ea_cons (ev_ix (ev_v (i := 8) rfl rfl (ev_int (⟨_, _, rfl, .lst rfl, ea_nil (⟨_, .intBN, ⟨_, _, _, rfl, rfl, .mulN, ea_nil (⟨rfl, ⟨_, _, rfl, ea_nil (⟨rfl, ⟨_, _, rfl, ?_⟩⟩)⟩⟩)⟩⟩)⟩)))))))))))))))))
        refine ws_one (w1_expr (ev_append (ev_v (i := 4) rfl rfl (⟨_, _, rfl, get_new, ev_v (i := 7) rfl rfl (⟨_, get_new, (by rw [List.length_map, List.length_range]; exact ln_ok' (by omega)), ?_⟩)⟩))))
        rw [set_new]
        exact ⟨app_eq rfl, _, _, _, _, _, _, rfl⟩
      · -- s
        refine ws_cons (w1_if (et_cmp hu (ev_ix (ev_v (i := 3) rfl rfl (ev_int (⟨_, _, rfl, .lst rfl, ev_str (⟨_, _, _, rfl, rfl, .eqS, ⟨fun h1 => absurd h1 (by decide), fun h1 => ?_⟩⟩)⟩))))))
        refine ws_one (w1_if (et_cmp hu (ev_ix (ev_v (i := 3) rfl rfl (ev_int (⟨_, _, rfl, .lst rfl, ev_str (⟨_, _, _, rfl, rfl, .eqS, ⟨fun h1 => absurd h1 (by decide), fun h1 => ?_⟩⟩)⟩))))))
        refine ws_one (w1_if (et_cmp hu (ev_ix (ev_v (i := 3) rfl rfl (ev_int (⟨_, _, rfl, .lst rfl, ev_tup (ea_cons (ev_str (ea_cons (ev_str (ea_nil (⟨Nat.le_of_ble_eq_true rfl, ⟨_, _, _, rfl, rfl, in_sz1 .s, ⟨fun h1 => ?_, fun h1 => absurd h1 (by decide)⟩⟩⟩))))))⟩))))))
        refine ws_one (w1_let (i := 7) sc__law_gate_on.nd rfl (ev_call F__law_spun (hr.mono (by decide)) (ea_cons (ev_v (i := 7) rfl rfl (ea_cons (ev_bin (ev_ct T.b_int bb_int (ea_cons (ev_ix (ev_v (i := 8) rfl rfl (ev_int (⟨_, _, rfl, .lst rfl, ea_nil (⟨_, .intBN, ev_ifeD (et_cmp hu (ev_ix (ev_v (i := 3) rfl rfl (ev_int (⟨_, _, rfl, .lst rfl, ev_str (⟨_, _, _, rfl, rfl, .eqS, ⟨.int ((1 : Nat) : Int), fun _ _ q => ev_n 1 rfl q, fun h _ _ => absurd h (by decide), ⟨_, _, _, rfl, rfl, .mulN (.inr (by decide)), ea_nil (⟨rfl, ⟨_, _, rfl, ?_⟩⟩)⟩⟩⟩)⟩)))))⟩)⟩))))))))))))
        refine ws_one (w1_expr (ev_append (ev_v (i := 4) rfl rfl (⟨_, _, rfl, get_new, ev_v (i := 7) rfl rfl (⟨_, get_new, (by rw [List.length_map, List.length_range]; exact ln_ok' (by omega)), ?_⟩)⟩))))
        rw [set_new]
        exact ⟨app_eq rfl, _, _, _, _, _, _, rfl⟩
      · -- x
        refine ws_cons (w1_if (et_cmp hu (ev_ix (ev_v (i := 3) rfl rfl (ev_int (⟨_, _, rfl, .lst rfl, ev_str (⟨_, _, _, rfl, rfl, .eqS, ⟨fun h1 => absurd h1 (by decide), fun h1 => ?_⟩⟩)⟩))))))
        refine ws_one (w1_if (et_cmp hu (ev_ix (ev_v (i := 3) rfl rfl (ev_int (⟨_, _, rfl, .lst rfl, ev_str (⟨_, _, _, rfl, rfl, .eqS, ⟨fun h1 => ?_, fun h1 => absurd h1 (by decide)⟩⟩)⟩))))))
        refine ws_one (w1_let (i := 7) sc__law_gate_on.nd rfl (ev_ix (ev_v (i := 0) rfl rfl (ev_bin (ev_v (i := 6) rfl rfl (ev_ix (ev_v (i := 5) rfl rfl (ev_int (⟨_, _, rfl, .lst rfl, ⟨_, _, _, rfl, rfl, .xorN, ⟨_, _, rfl, .lst (st_ix (xor_lt hi h1a)), ?_⟩⟩⟩)))))))))
        refine ws_one (w1_expr (ev_append (ev_v (i := 4) rfl rfl (⟨_, _, rfl, get_new, ev_v (i := 7) rfl rfl (⟨_, get_new, (by rw [List.length_map, List.length_range]; exact ln_ok' (by omega)), ?_⟩)⟩))))
        rw [set_new]
        exact ⟨app_eq rfl, _, _, _, _, _, _, rfl⟩
      · -- z
        refine ws_cons (w1_if (et_cmp hu (ev_ix (ev_v (i := 3) rfl rfl (ev_int (⟨_, _, rfl, .lst rfl, ev_str (⟨_, _, _, rfl, rfl, .eqS, ⟨fun h1 => absurd h1 (by decide), fun h1 => ?_⟩⟩)⟩))))))
        refine ws_one (w1_if (et_cmp hu (ev_ix (ev_v (i := 3) rfl rfl (ev_int (⟨_, _, rfl, .lst rfl, ev_str (⟨_, _, _, rfl, rfl, .eqS, ⟨fun h1 => absurd h1 (by decide), fun h1 => ?_⟩⟩)⟩))))))
        refine ws_one (w1_if (et_cmp hu (ev_ix (ev_v (i := 3) rfl rfl (ev_int (⟨_, _, rfl, .lst rfl, ev_tup (ea_cons (ev_str (ea_cons (ev_str (ea_nil (⟨Nat.le_of_ble_eq_true rfl, ⟨_, _, _, rfl, rfl, in_sz1 .z, ⟨fun h1 => ?_, fun h1 => absurd h1 (by decide)⟩⟩⟩))))))⟩))))))
        refine ws_one (w1_let (i := 7) sc__law_gate_on.nd rfl (ev_call F__law_spun (hr.mono (by decide)) (ea_cons (ev_v (i := 7) rfl rfl (ea_cons (ev_bin (ev_ct T.b_int bb_int (ea_cons (ev_ix (ev_v (i := 8) rfl rfl (ev_int (⟨_, _, rfl, .lst rfl, ea_nil (⟨_, .intBN, ev_ifeD (et_cmp hu (ev_ix (ev_v (i := 3) rfl rfl (ev_int (⟨_, _, rfl, .lst rfl, ev_str (⟨_, _, _, rfl, rfl, .eqS, ⟨.int ((2 : Nat) : Int), fun h _ _ => absurd h (by decide), fun _ _ q => ev_n 2 rfl q, ⟨_, _, _, rfl, rfl, .mulN (.inr (by decide)), ea_nil (⟨rfl, ⟨_, _, rfl, ?_⟩⟩)⟩⟩⟩)⟩)))))⟩)⟩))))))))))))
        refine ws_one (w1_expr (ev_append (ev_v (i := 4) rfl rfl (⟨_, _, rfl, get_new, ev_v (i := 7) rfl rfl (⟨_, get_new, (by rw [List.length_map, List.length_range]; exact ln_ok' (by omega)), ?_⟩)⟩))))
        rw [set_new]
        exact ⟨app_eq rfl, _, _, _, _, _, _, rfl⟩
    · rintro ρ2 ω2 ⟨rfl, x6, x7, x8, x9, x10, x11, rfl⟩
      rw [List.length_range]
      refine ws_one (w1_ret (ev_die (ev_v (i := 4) rfl rfl ⟨_, _, rfl, get_new, ?_⟩)))
      rw [set_new]
      exact Dr.same (clBs_map fun _ => rfl) hQ
  · obtain ⟨h1a, h2a, hac⟩ : a < n ∧ c < n ∧ a ≠ c := id hg
    refine ws_cons (w1_lcF (i := 5) (p := .nm 10) [("part", 10)] rfl sc__law_gate_on.nd rfl rfl (sw_true rfl rfl rfl (by decide +kernel)) (blkOk_by (N := N__law_gate_on) (sc := defScope s__law_gate_on) (by decide +kernel)) (fun _ _ _ _ _ => gp_v sc__law_gate_on.nd rfl) (by decide) (lc_map (it_any (ev_sl (ev_v (i := 3) rfl rfl (eo_some (ev_n 1 rfl (⟨_, rfl, eo_none (⟨_, _, rfl, .lst, ⟨_, _, rfl, rfl, ⟨Gt.ws (.t k a c), (fun a => .str (dgS a)), (fun a => .int ((mw n a : Nat) : Int)), gate_ws (.t k a c), rfl, (gate_wl _), fun x hx => ⟨_, rfl, fun _ _ _ _ _ => ev_bin (ev_n 1 rfl (ev_ct T.b_int bb_int (ea_cons (ev_bin (ev_bin (ev_v (i := 2) rfl rfl (ev_n 1 rfl (⟨_, _, _, rfl, rfl, .subN (by omega), ev_ct T.b_int bb_int (ea_cons (ev_v (i := 10) rfl rfl (ea_nil (⟨_, int_dg (Nat.lt_of_lt_of_le (gate_lt hg _ hx) hn6), ⟨_, _, _, rfl, rfl, .subN (by have := gate_lt hg _ hx; omega), ea_nil (⟨_, .intI, ⟨_, _, _, rfl, rfl, .shlN (by decide) (by omega), ⟨rfl, rfl⟩⟩⟩)⟩⟩))))⟩))))))))⟩, ?_⟩⟩⟩)⟩))))))))
    refine ws_cons (w1_run (p := .tp [.nm 6, .nm 7]) PassesOwn.never rfl (gp_tp rfl (gp_cons (gp_v sc__law_gate_on.nd rfl) (gp_cons (gp_v sc__law_gate_on.nd rfl) (gp_nil)))) (it_enum T.b_enumerate (ev_v (i := 0) rfl rfl (⟨_, _, rfl, rfl, ⟨List.range (2 ^ n), (fun p => .tup [.int (p : Nat), gD (ψ p)]),
      fun i ρ2 ω2 => ω2 = ω ++ [.lst ((List.range i).map fun p => gD (gateF n (.t k a c) ψ p))] ∧ ∃ x6 x7 x8 x9 x10 x11, ρ2 = [some (.lst (stL n ψ)), some (gtD (.t k a c)), some (.int (n : Int)), some (.lst ((Gt.parts (.t k a c)).map D.str)), some (.cell ω.length), some (.lst ((Gt.ws (.t k a c)).map fun a => .int ((mw n a : Nat) : Int))), x6, x7, x8, x9, x10, x11],
      enum_st n ψ, (fun _ _ _ _ => rfl), ?_, ?_, ?_⟩⟩))))
    · exact ⟨rfl, _, _, _, _, _, _, rfl⟩
    · rintro i at' ρ2 ω2 hx ⟨rfl, x6, x7, x8, x9, x10, x11, rfl⟩
      have hi : i < 2 ^ n := by have := (List.getElem?_eq_some_iff.mp hx).1; simpa using this
      have ei : at' = i := by rw [List.getElem?_range hi] at hx; cases hx; rfl
      subst ei
      refine ⟨_, rfl, ?_⟩
      refine ws_cons (w1_lcF (i := 8) (p := .nm 11) [("mark", 11)] rfl sc__law_gate_on.nd rfl rfl (sw_true rfl rfl rfl (by decide +kernel)) (blkOk_by (N := N__law_gate_on) (sc := defScope s__law_gate_on) (by decide +kernel)) (fun _ _ _ _ _ => gp_v sc__law_gate_on.nd rfl) (by decide) (lc_map (it_any (ev_v (i := 5) rfl rfl (⟨_, _, rfl, rfl, ⟨Gt.ws (.t k a c), (fun a => .int ((mw n a : Nat) : Int)), (fun a => .bl (bt n at' a)), rfl, rfl, (gate_wl _), fun x hx => ⟨_, rfl, fun _ _ _ _ _ => ev_cmp hu (ev_bin (ev_v (i := 6) rfl rfl (ev_v (i := 11) rfl rfl (⟨_, _, _, rfl, rfl, .andN, ev_n 0 rfl (⟨_, _, _, rfl, rfl, .neN, ⟨rfl, rfl⟩⟩)⟩))))⟩, ?_⟩⟩)))))
      cases k
      · -- cx
        refine ws_cons (w1_if (et_cmp hu (ev_ix (ev_v (i := 3) rfl rfl (ev_int (⟨_, _, rfl, .lst rfl, ev_str (⟨_, _, _, rfl, rfl, .eqS, ⟨fun h1 => absurd h1 (by decide), fun h1 => ?_⟩⟩)⟩))))))
        refine ws_one (w1_if (et_cmp hu (ev_ix (ev_v (i := 3) rfl rfl (ev_int (⟨_, _, rfl, .lst rfl, ev_str (⟨_, _, _, rfl, rfl, .eqS, ⟨fun h1 => absurd h1 (by decide), fun h1 => ?_⟩⟩)⟩))))))
        refine ws_one (w1_if (et_cmp hu (ev_ix (ev_v (i := 3) rfl rfl (ev_int (⟨_, _, rfl, .lst rfl, ev_tup (ea_cons (ev_str (ea_cons (ev_str (ea_nil (⟨Nat.le_of_ble_eq_true rfl, ⟨_, _, _, rfl, rfl, in_sz2 .cx, ⟨fun h1 => absurd h1 (by decide), fun h1 => ?_⟩⟩⟩))))))⟩))))))
        refine ws_one (w1_if (et_cmp hu (ev_ix (ev_v (i := 3) rfl rfl (ev_int (⟨_, _, rfl, .lst rfl, ev_str (⟨_, _, _, rfl, rfl, .eqS, ⟨fun h1 => ?_, fun h1 => absurd h1 (by decide)⟩⟩)⟩))))))
        refine ws_one (w1_let (i := 7) sc__law_gate_on.nd rfl (ev_ifeD (et_val (ev_ix (ev_v (i := 8) rfl rfl (ev_int (⟨_, _, rfl, .lst rfl, ⟨_, _, rfl, rfl, ⟨gD (gateF n (.t .cx a c) ψ at'), fun h _ q => ev_ix (ev_v (i := 0) rfl rfl (ev_bin (ev_v (i := 6) rfl rfl (ev_ix (ev_v (i := 5) rfl rfl (ev_int (⟨_, _, rfl, .lst rfl, ⟨_, _, _, rfl, rfl, .xorN, ⟨_, _, rfl, .lst (st_ix (xor_lt hi h2a)), by rw [cx_yes h] at q; exact q⟩⟩⟩))))))), fun h _ q => ev_v (i := 7) rfl rfl (by rw [cx_no h] at q; exact q), ?_⟩⟩⟩)))))))
        refine ws_one (w1_expr (ev_append (ev_v (i := 4) rfl rfl (⟨_, _, rfl, get_new, ev_v (i := 7) rfl rfl (⟨_, get_new, (by rw [List.length_map, List.length_range]; exact ln_ok' (by omega)), ?_⟩)⟩))))
        rw [set_new]
        exact ⟨app_eq rfl, _, _, _, _, _, _, rfl⟩
      · -- cz
        refine ws_cons (w1_if (et_cmp hu (ev_ix (ev_v (i := 3) rfl rfl (ev_int (⟨_, _, rfl, .lst rfl, ev_str (⟨_, _, _, rfl, rfl, .eqS, ⟨fun h1 => absurd h1 (by decide), fun h1 => ?_⟩⟩)⟩))))))
        refine ws_one (w1_if (et_cmp hu (ev_ix (ev_v (i := 3) rfl rfl (ev_int (⟨_, _, rfl, .lst rfl, ev_str (⟨_, _, _, rfl, rfl, .eqS, ⟨fun h1 => absurd h1 (by decide), fun h1 => ?_⟩⟩)⟩))))))
        refine ws_one (w1_if (et_cmp hu (ev_ix (ev_v (i := 3) rfl rfl (ev_int (⟨_, _, rfl, .lst rfl, ev_tup (ea_cons (ev_str (ea_cons (ev_str (ea_nil (⟨Nat.le_of_ble_eq_true rfl, ⟨_, _, _, rfl, rfl, in_sz2 .cz, ⟨fun h1 => absurd h1 (by decide), fun h1 => ?_⟩⟩⟩))))))⟩))))))
        refine ws_one (w1_if (et_cmp hu (ev_ix (ev_v (i := 3) rfl rfl (ev_int (⟨_, _, rfl, .lst rfl, ev_str (⟨_, _, _, rfl, rfl, .eqS, ⟨fun h1 => absurd h1 (by decide), fun h1 => ?_⟩⟩)⟩))))))
        refine ws_one (w1_if (et_cmp hu (ev_ix (ev_v (i := 3) rfl rfl (ev_int (⟨_, _, rfl, .lst rfl, ev_str (⟨_, _, _, rfl, rfl, .eqS, ⟨fun h1 => ?_, fun h1 => absurd h1 (by decide)⟩⟩)⟩))))))
        refine ws_one (w1_let (i := 7) sc__law_gate_on.nd rfl (ev_call F__law_spun (hr.mono (by decide)) (ea_cons (ev_v (i := 7) rfl rfl (ea_cons (ev_bin (ev_n 2 rfl (ev_ct T.b_int bb_int (ea_cons (ev_andD (ev_ix (ev_v (i := 8) rfl rfl (ev_int (⟨_, _, rfl, .lst rfl, ⟨_, bt n at' a && bt n at' c, rfl, fun a1 _ q1 => ev_one (ev_ix (ev_v (i := 8) rfl rfl (ev_int (⟨_, _, rfl, .lst rfl, by rw [a1] at q1; exact q1⟩)))), fun a1 => (by rw [a1]; rfl), ea_nil (⟨_, .intBN, ⟨_, _, _, rfl, rfl, .mulN, ea_nil (⟨rfl, ⟨_, _, rfl, ?_⟩⟩)⟩⟩)⟩⟩))))))))))))))
        refine ws_one (w1_expr (ev_append (ev_v (i := 4) rfl rfl (⟨_, _, rfl, get_new, ev_v (i := 7) rfl rfl (⟨_, get_new, (by rw [List.length_map, List.length_range]; exact ln_ok' (by omega)), ?_⟩)⟩))))
        rw [set_new]
        exact ⟨app_eq rfl, _, _, _, _, _, _, rfl⟩
      · -- swap
        refine ws_cons (w1_if (et_cmp hu (ev_ix (ev_v (i := 3) rfl rfl (ev_int (⟨_, _, rfl, .lst rfl, ev_str (⟨_, _, _, rfl, rfl, .eqS, ⟨fun h1 => absurd h1 (by decide), fun h1 => ?_⟩⟩)⟩))))))
        refine ws_one (w1_if (et_cmp hu (ev_ix (ev_v (i := 3) rfl rfl (ev_int (⟨_, _, rfl, .lst rfl, ev_str (⟨_, _, _, rfl, rfl, .eqS, ⟨fun h1 => absurd h1 (by decide), fun h1 => ?_⟩⟩)⟩))))))
        refine ws_one (w1_if (et_cmp hu (ev_ix (ev_v (i := 3) rfl rfl (ev_int (⟨_, _, rfl, .lst rfl, ev_tup (ea_cons (ev_str (ea_cons (ev_str (ea_nil (⟨Nat.le_of_ble_eq_true rfl, ⟨_, _, _, rfl, rfl, in_sz2 .swap, ⟨fun h1 => absurd h1 (by decide), fun h1 => ?_⟩⟩⟩))))))⟩))))))
        refine ws_one (w1_if (et_cmp hu (ev_ix (ev_v (i := 3) rfl rfl (ev_int (⟨_, _, rfl, .lst rfl, ev_str (⟨_, _, _, rfl, rfl, .eqS, ⟨fun h1 => absurd h1 (by decide), fun h1 => ?_⟩⟩)⟩))))))
        refine ws_one (w1_if (et_cmp hu (ev_ix (ev_v (i := 3) rfl rfl (ev_int (⟨_, _, rfl, .lst rfl, ev_str (⟨_, _, _, rfl, rfl, .eqS, ⟨fun h1 => absurd h1 (by decide), fun h1 => ?_⟩⟩)⟩))))))
        refine ws_one (w1_let (i := 7) sc__law_gate_on.nd rfl (ev_ifeD (et_cmp hu (ev_ix (ev_v (i := 8) rfl rfl (ev_int (⟨_, _, rfl, .lst rfl, ev_ix (ev_v (i := 8) rfl rfl (ev_int (⟨_, _, rfl, .lst rfl, ⟨_, _, _, rfl, rfl, .neB, ⟨gD (gateF n (.t .swap a c) ψ at'), fun h _ q => ev_ix (ev_v (i := 0) rfl rfl (ev_bin (ev_bin (ev_v (i := 6) rfl rfl (ev_ix (ev_v (i := 5) rfl rfl (ev_int (⟨_, _, rfl, .lst rfl, ⟨_, _, _, rfl, rfl, .xorN, ev_ix (ev_v (i := 5) rfl rfl (ev_int (⟨_, _, rfl, .lst rfl, ⟨_, _, _, rfl, rfl, .xorN, ⟨_, _, rfl, .lst (st_ix (xor_lt (xor_lt hi h1a) h2a)), by rw [sw_yes h] at q; exact q⟩⟩⟩)))⟩⟩)))))))), fun h _ q => ev_v (i := 7) rfl rfl (by rw [sw_no h] at q; exact q), ?_⟩⟩⟩)))⟩)))))))
        refine ws_one (w1_expr (ev_append (ev_v (i := 4) rfl rfl (⟨_, _, rfl, get_new, ev_v (i := 7) rfl rfl (⟨_, get_new, (by rw [List.length_map, List.length_range]; exact ln_ok' (by omega)), ?_⟩)⟩))))
        rw [set_new]
        exact ⟨app_eq rfl, _, _, _, _, _, _, rfl⟩
    · rintro ρ2 ω2 ⟨rfl, x6, x7, x8, x9, x10, x11, rfl⟩
      rw [List.length_range]
      refine ws_one (w1_ret (ev_die (ev_v (i := 4) rfl rfl ⟨_, _, rfl, get_new, ?_⟩)))
      rw [set_new]
      exact Dr.same (clBs_map fun _ => rfl) hQ

def Sp__law_any_state : Spc := fun ds ω Q => ∃ k n w : Nat, ds = [.cell k, .int (w : Int)] ∧ Pot k n ω ∧ n + 200 < 1000000 ∧ w ≤ 6 ∧ ∀ (ψ : Sf) ω', PotTo k (n + 200) ω ω' → Q (.lst (stL w ψ)) ω'
theorem ok__law_any_state {f : Addr} {fd : FuncData} (F : Fun K "_law_any_state" "_law_any_state" s__law_any_state f fd) (hm : mg "_law_any_state" = some (.ref f)) (b : Binds K fd ["pot", "wires"] []) (T : Tx K mg) (F__law_take : Fn P w K mg base 1 "_law_take" 2 Sp__law_take) (F__law_power : Fn P w K mg base 1 "_law_power" 1 Sp__law_power) : Fn P w K mg base 2 "_law_any_state" 2 Sp__law_any_state := by
  refine fn_mk' F hm b sc__law_any_state rfl fun cdv A outer sh H E hr ds ω Qd hn hS => ?_
  obtain ⟨k, n, w, rfl, hp, hn2, hw, hQ⟩ := hS
  have hu := hr.units
  refine ws_cons (w1_let (i := 2) sc__law_any_state.nd rfl (ev_frz (el_lst (ea_cons (ev_tup (ea_cons (ev_bin (ev_n 1 rfl (ev_call F__law_take (hr.mono (by decide)) (ea_cons (ev_v (i := 0) rfl rfl (ea_cons (ev_n 9 rfl (ea_nil (⟨rfl, ⟨_, _, _, rfl, hp, (by first | decide | omega | assumption | (have hN := pow6 hw; omega) | (have hN := pow6 hw; have h0 := (List.getElem?_eq_some_iff.mp hx).1; rw [List.length_range] at h0; omega)), (by first | decide | omega | assumption | (have hN := pow6 hw; omega) | (have hN := pow6 hw; have h0 := (List.getElem?_eq_some_iff.mp hx).1; rw [List.length_range] at h0; omega)), (by first | decide | omega | assumption | (have hN := pow6 hw; omega) | (have hN := pow6 hw; have h0 := (List.getElem?_eq_some_iff.mp hx).1; rw [List.length_range] at h0; omega)), fun r1 ω1 hr1 ht1 => ⟨_, _, _, rfl, rfl, .addN, ea_cons (ev_bin (ev_call F__law_take (hr.mono (by decide)) (ea_cons (ev_v (i := 0) rfl rfl (ea_cons (ev_n 19 rfl (ea_nil (⟨rfl, ⟨_, _, _, rfl, ht1.pot, (by first | decide | omega | assumption | (have hN := pow6 hw; omega) | (have hN := pow6 hw; have h0 := (List.getElem?_eq_some_iff.mp hx).1; rw [List.length_range] at h0; omega)), (by first | decide | omega | assumption | (have hN := pow6 hw; omega) | (have hN := pow6 hw; have h0 := (List.getElem?_eq_some_iff.mp hx).1; rw [List.length_range] at h0; omega)), (by first | decide | omega | assumption | (have hN := pow6 hw; omega) | (have hN := pow6 hw; have h0 := (List.getElem?_eq_some_iff.mp hx).1; rw [List.length_range] at h0; omega)), fun r2 ω2 hr2 ht2 => ev_n 9 rfl (⟨_, _, _, rfl, rfl, .subI, ea_nil (⟨Nat.le_of_ble_eq_true rfl, ea_nil (⟨Nat.le_of_ble_eq_true rfl, ?_⟩)⟩)⟩)⟩⟩))))))))⟩⟩⟩)))))))))))))))
  refine ws_one (w1_ret (ev_bin (ev_v (i := 2) rfl rfl (ev_frz (el_lc (p := .nm 3) [("at", 3)] rfl sc__law_any_state.nd (blkOk_by (N := N__law_any_state) (sc := defScope s__law_any_state) (by decide +kernel)) (fun _ _ _ _ _ => gp_v sc__law_any_state.nd rfl) (by decide) (lc_run (it_rng1 T.b_range (ev_bin (ev_call F__law_power (hr.mono (by decide)) (ea_cons (ev_v (i := 1) rfl rfl (ea_nil (⟨rfl, ⟨_, rfl, (by first | decide | omega | assumption | (have hN := pow6 hw; omega) | (have hN := pow6 hw; have h0 := (List.getElem?_eq_some_iff.mp hx).1; rw [List.length_range] at h0; omega)), ev_n 1 rfl (⟨_, _, _, rfl, rfl, (.subN (pow6 hw).2), ⟨_, rfl, (by first | decide | omega | assumption | (have hN := pow6 hw; omega) | (have hN := pow6 hw; have h0 := (List.getElem?_eq_some_iff.mp hx).1; rw [List.length_range] at h0; omega)), (by first | decide | omega | assumption | (have hN := pow6 hw; omega) | (have hN := pow6 hw; have h0 := (List.getElem?_eq_some_iff.mp hx).1; rw [List.length_range] at h0; omega)), ⟨(List.range (2 ^ w - 1)), (fun i : Nat => .int (i : Int)), (fun i ω2 => PotTo k (n + 2 + 2 * i) ω ω2), (fun _ : G => True), gD, (rgD_0 _), (fun _ _ _ => trivial), (by rw [List.length_range]; exact ln_ok (by have hN := pow6 hw; omega)), (ht1.trans ht2), fun i x ω2 hx hJ => ⟨_, rfl, fun _ _ _ _ _ => ev_tup (ea_cons (ev_bin (ev_call F__law_take (hr.mono (by decide)) (ea_cons (ev_v (i := 0) rfl rfl (ea_cons (ev_n 19 rfl (ea_nil (⟨rfl, ⟨_, _, _, rfl, hJ.pot, (by first | decide | omega | assumption | (have hN := pow6 hw; omega) | (have hN := pow6 hw; have h0 := (List.getElem?_eq_some_iff.mp hx).1; rw [List.length_range] at h0; omega)), (by first | decide | omega | assumption | (have hN := pow6 hw; omega) | (have hN := pow6 hw; have h0 := (List.getElem?_eq_some_iff.mp hx).1; rw [List.length_range] at h0; omega)), (by first | decide | omega | assumption | (have hN := pow6 hw; omega) | (have hN := pow6 hw; have h0 := (List.getElem?_eq_some_iff.mp hx).1; rw [List.length_range] at h0; omega)), fun r3 ω3 hr3 ht3 => ev_n 9 rfl (⟨_, _, _, rfl, rfl, .subI, ea_cons (ev_bin (ev_call F__law_take (hr.mono (by decide)) (ea_cons (ev_v (i := 0) rfl rfl (ea_cons (ev_n 19 rfl (ea_nil (⟨rfl, ⟨_, _, _, rfl, ht3.pot, (by first | decide | omega | assumption | (have hN := pow6 hw; omega) | (have hN := pow6 hw; have h0 := (List.getElem?_eq_some_iff.mp hx).1; rw [List.length_range] at h0; omega)), (by first | decide | omega | assumption | (have hN := pow6 hw; omega) | (have hN := pow6 hw; have h0 := (List.getElem?_eq_some_iff.mp hx).1; rw [List.length_range] at h0; omega)), (by first | decide | omega | assumption | (have hN := pow6 hw; omega) | (have hN := pow6 hw; have h0 := (List.getElem?_eq_some_iff.mp hx).1; rw [List.length_range] at h0; omega)), fun r4 ω4 hr4 ht4 => ev_n 9 rfl (⟨_, _, _, rfl, rfl, .subI, ea_nil (⟨Nat.le_of_ble_eq_true rfl, ⟨(_, _), rfl, trivial, (((hJ.trans ht3).trans ht4)).mono (by omega)⟩⟩)⟩)⟩⟩))))))))⟩)⟩⟩)))))))))⟩, fun bs ωb hbl hbp hJf => have hbl : bs.length = 2 ^ w - 1 := hbl.trans List.length_range; have hJf : (fun i ω2 => PotTo k (n + 2 + 2 * i) ω ω2) (2 ^ w - 1) ωb := (by rw [List.length_range] at hJf; exact hJf); ⟨_, _, _, rfl, rfl, (.addL (by rw [List.length_map, hbl]; exact ln_ok (by have hN := pow6 hw; show 1 + _ ≤ _; omega))), (st_fin (g := (_, _)) (Q := fun d => Qd d ωb) hbl (pow6 hw).2 (fun ψ => hQ ψ _ (hJf.mono (by have hN := pow6 hw; omega))))⟩⟩⟩⟩)⟩⟩)))))))))))))


def Sp__law_unit : Spc := fun ds ω Q => ∃ n a : Nat, ds = [.int (n : Int), .int (a : Int)] ∧ n ≤ 6 ∧ Q (.lst (stL n (unitF a))) ω
theorem ok__law_unit {f : Addr} {fd : FuncData} (F : Fun K "_law_unit" "_law_unit" s__law_unit f fd) (hm : mg "_law_unit" = some (.ref f)) (b : Binds K fd ["wires", "at"] []) (T : Tx K mg) (F__law_power : Fn P w K mg base 1 "_law_power" 1 Sp__law_power) : Fn P w K mg base 2 "_law_unit" 2 Sp__law_unit := by
  refine fn_mk' F hm b sc__law_unit rfl fun cdv A outer sh H E hr ds ω Qd hn hS => ?_
  obtain ⟨n, a, rfl, hn6, hQ⟩ := hS
  have hu := hr.units
  refine ws_one (w1_ret (ev_frz (el_lc (p := .nm 2) [("place", 2)] rfl sc__law_unit.nd (blkOk_by (N := N__law_unit) (sc := defScope s__law_unit) (by decide +kernel)) (fun _ _ _ _ _ => gp_v sc__law_unit.nd rfl) (by decide) (lc_map (it_rng1 T.b_range (ev_call F__law_power (hr.mono (by decide)) (ea_cons (ev_v (i := 0) rfl rfl (ea_nil (⟨rfl, ⟨_, rfl, (by first | decide | omega | assumption | (have hN := pow6 hn6; omega)), ⟨_, rfl, (by first | decide | omega | assumption | (have hN := pow6 hn6; omega)), (by first | decide | omega | assumption | (have hN := pow6 hn6; omega)), ⟨(List.range (2 ^ n)), (fun i : Nat => .int (i : Int)), (fun p => gD (unitF a p)), (rgD_0 _), trivial, (by rw [List.length_range]; exact ln_ok (by have hN := pow6 hn6; omega)), fun x hx => ⟨_, rfl, fun _ _ _ _ _ => ev_tup (ea_cons (ev_ct T.b_int bb_int (ea_cons (ev_cmp hu (ev_v (i := 2) rfl rfl (ev_v (i := 1) rfl rfl (⟨_, _, _, rfl, rfl, .eqN, ea_nil (⟨_, .intBN, ea_cons (ev_n 0 rfl (ea_nil (⟨Nat.le_of_ble_eq_true rfl, ⟨by unfold unitF; rw [unit_d], rfl⟩⟩)))⟩)⟩)))))))⟩, hQ⟩⟩⟩⟩))))))))))


def Sp_word_of : Spc := fun ds ω Q => ∃ q m w : Nat, ds = [sgD (q, m), .int (w : Int)] ∧ w ≤ 6 ∧ Q (.str (wS (!decide (q = 0)) (lets m w))) ω
theorem ok_word_of {f : Addr} {fd : FuncData} (F : Fun K "word_of" "word_of" s_word_of f fd) (hm : mg "word_of" = some (.ref f)) (b : Binds K fd ["signed", "wires"] []) (T : Tx K mg) (F_letters_of : Fn P w K mg base 2 "letters_of" 2 Sp_letters_of) : Fn P w K mg base 3 "word_of" 2 Sp_word_of := by
  refine fn_mk' F hm b sc_word_of rfl fun cdv A outer s H E hr ds ω Qd hn hS => ?_
  obtain ⟨q, m, w, rfl, hw, hQ⟩ := hS
  have hu := hr.units
  refine ws_one (w1_ret (ev_bin (ev_ifeS (et_cmp hu (ev_ix (ev_v (i := 0) rfl rfl (ev_n 0 rfl (⟨_, _, rfl, .tup rfl, ev_n 0 rfl (⟨_, _, _, rfl, rfl, .eqN, ⟨_, _, fun _ q => ev_gv T.c_PLUS rfl (q), fun _ q => ev_gv T.c_MINUS rfl (q), ev_call F_letters_of (hr.mono (by decide)) (ea_cons (ev_ix (ev_v (i := 0) rfl rfl (ev_n 1 rfl (⟨_, _, rfl, .tup rfl, ea_cons (ev_v (i := 1) rfl rfl (ea_nil (⟨rfl, ⟨_, _, rfl, (by first | decide | omega | assumption), ⟨_, _, _, rfl, rfl, (.addS (by rw [sg_pick, sgS_len, lS_len, lets_len]; exact ln_ok (by omega))), (by rw [sg_pick, sg_word]; exact hQ)⟩⟩⟩)))⟩)))))⟩⟩)⟩))))))))


def Sp_is_any_word : Spc := fun ds ω Q => ∃ (g : Bool) (l : List Lt), ds = [.str (wS g l)] ∧ 1 ≤ l.length ∧ l.length ≤ 6 ∧ Q (.bl true) ω
theorem ok_is_any_word {f : Addr} {fd : FuncData} (F : Fun K "is_any_word" "is_any_word" s_is_any_word f fd) (hm : mg "is_any_word" = some (.ref f)) (b : Binds K fd ["value"] []) (T : Tx K mg) (F_is_word : Fn P w K mg base 2 "is_word" 2 Sp_is_word) : Fn P w K mg base 3 "is_any_word" 1 Sp_is_any_word := by
  refine fn_mk' F hm b sc_is_any_word rfl fun cdv A outer sh H E hr ds ω Qd hn hS => ?_
  obtain ⟨g, l, rfl, h1, hl, hQ⟩ := hS
  have hu := hr.units
  refine ws_one (w1_ret (ev_and (ev_cb T.b_isinstance bb_isinstance (ea_cons (ev_v (i := 0) rfl rfl (ea_cons (ev_blt T.b_str bb_str (ea_nil (⟨_, .isi rfl (by decide +kernel : kitB "str" "str" = some true), ⟨_, rfl, fun a1 => ev_and (ev_chain hu (ev_n 1 rfl (ev_cb T.b_len bb_len (ea_cons (ev_v (i := 0) rfl rfl (ea_nil (⟨_, (.lenS (ln_ok (by rw [wS_len]; omega))), ⟨_, _, _, rfl, rfl, .ltN, fun c1 => ev_bin (ev_gv (d := .int ((6 : Nat) : Int)) T.c_MOST_WIRES rfl (ev_n 1 rfl (⟨_, _, _, rfl, rfl, .addN, ⟨_, _, _, rfl, rfl, .leN, ⟨_, rfl, fun a2 => ev_one (ev_call F_is_word (hr.mono (by decide)) (ea_cons (ev_v (i := 0) rfl rfl (ea_cons (ev_bin (ev_cb T.b_len bb_len (ea_cons (ev_v (i := 0) rfl rfl (ea_nil (⟨_, (.lenS (ln_ok (by rw [wS_len]; omega))), ev_n 1 rfl (⟨_, _, _, rfl, rfl, (.subN (by rw [wS_len]; omega)), ea_nil (⟨rfl, ⟨_, _, _, rfl, (by first | decide | omega | assumption), (by first | exact absurd a1 (by decide) | (exfalso; have c2 := of_decide_eq_false c1; rw [wS_len] at c2; omega) | (exfalso; have c2 := of_decide_eq_false a2; rw [wS_len] at c2; omega) | (rw [wS_len]; simpa using hQ))⟩⟩)⟩)⟩)))))))))), fun a2 => (by first | exact absurd a1 (by decide) | (exfalso; have c2 := of_decide_eq_false c1; rw [wS_len] at c2; omega) | (exfalso; have c2 := of_decide_eq_false a2; rw [wS_len] at c2; omega) | (rw [wS_len]; simpa using hQ))⟩⟩⟩))), fun c1 => ⟨_, rfl, fun a2 => ev_one (ev_call F_is_word (hr.mono (by decide)) (ea_cons (ev_v (i := 0) rfl rfl (ea_cons (ev_bin (ev_cb T.b_len bb_len (ea_cons (ev_v (i := 0) rfl rfl (ea_nil (⟨_, (.lenS (ln_ok (by rw [wS_len]; omega))), ev_n 1 rfl (⟨_, _, _, rfl, rfl, (.subN (by rw [wS_len]; omega)), ea_nil (⟨rfl, ⟨_, _, _, rfl, (by first | decide | omega | assumption), (by first | exact absurd a1 (by decide) | (exfalso; have c2 := of_decide_eq_false c1; rw [wS_len] at c2; omega) | (exfalso; have c2 := of_decide_eq_false a2; rw [wS_len] at c2; omega) | (rw [wS_len]; simpa using hQ))⟩⟩)⟩)⟩)))))))))), fun a2 => (by first | exact absurd a1 (by decide) | (exfalso; have c2 := of_decide_eq_false c1; rw [wS_len] at c2; omega) | (exfalso; have c2 := of_decide_eq_false a2; rw [wS_len] at c2; omega) | (rw [wS_len]; simpa using hQ))⟩⟩⟩))))))), fun a1 => (by first | exact absurd a1 (by decide) | (exfalso; have c2 := of_decide_eq_false c1; rw [wS_len] at c2; omega) | (exfalso; have c2 := of_decide_eq_false a2; rw [wS_len] at c2; omega) | (rw [wS_len]; simpa using hQ))⟩⟩)))))))))


def Sp_is_gates : Spc := fun ds ω Q => ∃ (gs : List Gt) (w : Nat), ds = [.tup (gs.map gtD), .int (w : Int)] ∧ w ≤ 6 ∧ gs.length ≤ 400 ∧ (∀ g ∈ gs, g.ok w) ∧ Q (.bl true) ω
theorem ok_is_gates {f : Addr} {fd : FuncData} (F : Fun K "is_gates" "is_gates" s_is_gates f fd) (hm : mg "is_gates" = some (.ref f)) (b : Binds K fd ["value", "wires"] []) (T : Tx K mg) (F_is_tuple : Fn P w K mg base 1 "is_tuple" 3 Sp_is_tuple) (F_is_gate : Fn P w K mg base 2 "is_gate" 2 Sp_is_gate) : Fn P w K mg base 3 "is_gates" 2 Sp_is_gates := by
  refine fn_mk' F hm b sc_is_gates rfl fun cdv A outer sh H E hr ds ω Qd hn hS => ?_
  obtain ⟨gs, w, rfl, hw, hl, hg, hQ⟩ := hS
  have hu := hr.units
  refine ws_one (w1_ret (ev_and (ev_call F_is_tuple (hr.mono (by decide)) (ea_cons (ev_v (i := 0) rfl rfl (ea_cons (ev_n 0 rfl (ea_cons (ev_gv (d := .int ((400 : Nat) : Int)) T.c_MOST_GATES rfl (ea_nil (⟨rfl, ⟨_, _, _, rfl, ⟨_, rfl, fun a1 => ev_one (ev_cb T.b_all bb_all (ea_cons (ev_frz (el_lc (p := .nm 2) [("part", 2)] rfl sc_is_gates.nd (blkOk_by (N := N_is_gates) (sc := defScope s_is_gates) (by decide +kernel)) (fun _ _ _ _ _ => gp_v sc_is_gates.nd rfl) (by decide) (lc_map (it_any (ev_v (i := 0) rfl rfl (⟨_, _, rfl, rfl, ⟨gs, gtD, (fun _ => .bl true), rfl, rfl, (ln_ok (by omega)), fun x hx => ⟨_, rfl, fun _ _ _ _ _ => ev_call F_is_gate (hr.mono (by decide)) (ea_cons (ev_v (i := 2) rfl rfl (ea_cons (ev_v (i := 1) rfl rfl (ea_nil (⟨rfl, ⟨_, _, rfl, (by first | decide | omega | assumption | exact hg _ hx), (by first | decide | omega | assumption | exact hg _ hx), ⟨rfl, rfl⟩⟩⟩))))))⟩, ea_nil (⟨_, .allM rfl, (by first | (rw [all_true]; exact hQ) | (exfalso; simp at a1; omega))⟩)⟩⟩)))))))), fun a1 => (by first | (rw [all_true]; exact hQ) | (exfalso; simp at a1; omega))⟩⟩⟩)))))))))))


def Sp_lead : Spc := fun ds ω Q => ∃ (s : Nat × Nat) (g : Gt), ds = [sgD s, gtD g] ∧ g.ok 6 ∧ Q (sgD (lead s g)) ω
theorem ok_lead {f : Addr} {fd : FuncData} (F : Fun K "lead" "lead" s_lead f fd) (hm : mg "lead" = some (.ref f)) (b : Binds K fd ["signed", "gate"] []) (T : Tx K mg) (F_lead_one : Fn P w K mg base 2 "lead_one" 3 Sp_lead_one) (F_lead_two : Fn P w K mg base 2 "lead_two" 4 Sp_lead_two) : Fn P w K mg base 3 "lead" 2 Sp_lead := by
  refine fn_mk' F hm b sc_lead rfl fun cdv A outer sh H E hr ds ω Qd hn hS => ?_
  obtain ⟨s, g, rfl, hg, hQ⟩ := hS
  have hu := hr.units
  refine ws_cons (w1_let (i := 2) sc_lead.nd rfl (ev_frz (el_split (ev_v (i := 1) rfl rfl (⟨_, rfl, ev_gv T.c_BLANK rfl (⟨_, rfl, rfl, (by first | decide | omega | assumption | exact gt_small _), ?_⟩)⟩)))))
  rw [Gt.split hg (Nat.le_refl 6)]
  rcases g with ⟨k, a⟩ | ⟨k, a, c⟩
  · -- alt
    refine ws_cons (w1_if (et_cmp hu (ev_cb T.b_len bb_len (ea_cons (ev_v (i := 2) rfl rfl (ea_nil (⟨_, .lenL, ev_gv (d := .int ((2 : Nat) : Int)) T.c_PAIR rfl (⟨_, _, _, rfl, rfl, .eqN, ⟨fun h1 => ?_, fun h1 => ?_⟩⟩)⟩)))))))
    · -- then
      refine ws_one (w1_ret (ev_call F_lead_one (hr.mono (by decide)) (ea_cons (ev_ix (ev_v (i := 2) rfl rfl (ev_n 0 rfl (⟨_, _, rfl, .lst rfl, ea_cons (ev_v (i := 0) rfl rfl (ea_cons (ev_ct T.b_int bb_int (ea_cons (ev_ix (ev_v (i := 2) rfl rfl (ev_n 1 rfl (⟨_, _, rfl, .lst rfl, ea_nil (⟨_, (int_dg hg), ea_nil (⟨rfl, ⟨_, _, _, _, rfl, (by first | decide | omega | assumption | exact gt_small _), hQ⟩⟩)⟩)⟩))))))))⟩)))))))
    · -- else
      exact absurd (show true = false from h1) (by decide)
  · -- alt
    obtain ⟨ha, hc, hac⟩ : a < 6 ∧ c < 6 ∧ a ≠ c := hg
    refine ws_cons (w1_if (et_cmp hu (ev_cb T.b_len bb_len (ea_cons (ev_v (i := 2) rfl rfl (ea_nil (⟨_, .lenL, ev_gv (d := .int ((2 : Nat) : Int)) T.c_PAIR rfl (⟨_, _, _, rfl, rfl, .eqN, ⟨fun h1 => ?_, fun h1 => ?_⟩⟩)⟩)))))))
    · -- then
      exact absurd (show false = true from h1) (by decide)
    · -- else
      refine ws_nil ?_
      refine ws_one (w1_ret (ev_call F_lead_two (hr.mono (by decide)) (ea_cons (ev_ix (ev_v (i := 2) rfl rfl (ev_n 0 rfl (⟨_, _, rfl, .lst rfl, ea_cons (ev_v (i := 0) rfl rfl (ea_cons (ev_ct T.b_int bb_int (ea_cons (ev_ix (ev_v (i := 2) rfl rfl (ev_n 1 rfl (⟨_, _, rfl, .lst rfl, ea_nil (⟨_, (int_dg ha), ea_cons (ev_ct T.b_int bb_int (ea_cons (ev_ix (ev_v (i := 2) rfl rfl (ev_un (ev_n 1 rfl (⟨_, .neg, ⟨_, _, rfl, .lst rfl, ea_nil (⟨_, (int_dg hc), ea_nil (⟨rfl, ⟨_, _, _, _, _, rfl, (by first | decide | omega | assumption | exact gt_small _), (by first | decide | omega | assumption | exact gt_small _), hQ⟩⟩)⟩)⟩⟩)))))))⟩)⟩))))))))⟩)))))))


def Sp__law_gate : Spc := fun ds ω Q => ∃ k n w : Nat, ds = [.cell k, .int (w : Int)] ∧ Pot k n ω ∧ n + 3 < 1000000 ∧ 1 ≤ w ∧ w ≤ 6 ∧ ∀ (g : Gt) ω', g.ok w → PotTo k (n + 3) ω ω' → Q (gtD g) ω'
theorem ok__law_gate {f : Addr} {fd : FuncData} (F : Fun K "_law_gate" "_law_gate" s__law_gate f fd) (hm : mg "_law_gate" = some (.ref f)) (b : Binds K fd ["pot", "wires"] []) (T : Tx K mg) (F__law_take : Fn P w K mg base 1 "_law_take" 2 Sp__law_take) (F__law_of : Fn P w K mg base 2 "_law_of" 2 Sp__law_of) (F__law_some : Fn P w K mg base 2 "_law_some" 3 Sp__law_some) : Fn P w K mg base 3 "_law_gate" 2 Sp__law_gate := by
  refine fn_mk' F hm b sc__law_gate rfl fun cdv A outer sh H E hr ds ω Qd hn hS => ?_
  obtain ⟨k, n, w, rfl, hp, hn2, hw1, hw, hQ⟩ := hS
  have hu := hr.units
  refine ws_cons (w1_par (i := 2) (j := 3) rfl sc__law_gate.nd rfl rfl (by decide) rfl rfl (ea_cons (ev_call F__law_of (hr.mono (by decide)) (ea_cons (ev_v (i := 0) rfl rfl (ea_cons (ev_frz (el_lst (ea_cons (ev_str (ea_cons (ev_str (ea_cons (ev_str (ea_cons (ev_str (ea_cons (ev_str (ea_cons (ev_str (ea_cons (ev_str (ea_cons (ev_str (ea_cons (ev_str (ea_nil (⟨Nat.le_of_ble_eq_true rfl, ea_nil (⟨rfl, ⟨_, _, N1 ⊕ N2, nms, nmD, rfl, hp, (by omega), (by decide), (by decide), fun y1 ω1 hy1 ht1 => ea_cons (ev_frz (el_rng1 rfl T.b_list T.b_range (ev_v (i := 1) rfl rfl (⟨_, rfl, (by omega), (by omega), ea_nil (⟨_, _, rfl, ?_⟩)⟩))))⟩⟩)⟩))))))))))))))))))))))))))) (by rfl))
  rcases y1 with c | c
  · refine ws_cons (w1_if (et_w (ew_or (et_cmp hu (ev_v (i := 2) rfl rfl (ev_tup (ea_cons (ev_str (ea_cons (ev_str (ea_cons (ev_str (ea_cons (ev_str (ea_nil (⟨Nat.le_of_ble_eq_true rfl, ⟨_, _, _, rfl, rfl, in_si c, ⟨fun a1 => absurd a1 (by decide), fun a1 => ⟨fun h1 => ?_, fun h1 => absurd h1 (by decide)⟩⟩⟩⟩))))))))))))))))
    refine ws_one (w1_ret (ev_bin (ev_bin (ev_ifeD (et_cmp hu (ev_v (i := 2) rfl rfl (ev_tup (ea_cons (ev_str (ea_cons (ev_str (ea_cons (ev_str (ea_cons (ev_str (ea_nil (⟨Nat.le_of_ble_eq_true rfl, ⟨_, _, _, rfl, rfl, in_si c, ⟨.str c.S, fun _ _ q => ev_v (i := 2) rfl rfl (q), fun h _ q => absurd h (by decide), ev_str (⟨_, _, _, rfl, rfl, (nm1_dg c 0).1, ev_ct T.b_str bb_str (ea_cons (ev_call F__law_take (hr.mono (by decide)) (ea_cons (ev_v (i := 0) rfl rfl (ea_cons (ev_v (i := 1) rfl rfl (ea_nil (⟨rfl, ⟨_, _, _, rfl, ht1.pot, (by omega), (by omega), (by omega), fun r4 ω4 hr4 ht4 => ea_nil (⟨_, str_dg (by omega), ⟨_, _, _, rfl, rfl, (nm1_dg c r4).2, ?_⟩⟩)⟩⟩))))))))⟩)⟩⟩⟩)))))))))))))))))
    exact hQ (.o c r4) _ hr4 ((ht1.trans ht4).mono (by omega))
  · by_cases hw2 : w < 2
    · refine ws_cons (w1_if (et_w (ew_or (et_cmp hu (ev_v (i := 2) rfl rfl (ev_tup (ea_cons (ev_str (ea_cons (ev_str (ea_cons (ev_str (ea_cons (ev_str (ea_nil (⟨Nat.le_of_ble_eq_true rfl, ⟨_, _, _, rfl, rfl, in_si2 c, ⟨fun a1 => ew_or1 (et_cmp hu (ev_v (i := 1) rfl rfl (ev_n 2 rfl (⟨_, _, _, rfl, rfl, .ltN, ⟨fun h1 => ?_, fun h1 => absurd (of_decide_eq_false h1) (by omega)⟩⟩)))), fun a1 => absurd a1 (by decide)⟩⟩⟩))))))))))))))))
      refine ws_one (w1_ret (ev_bin (ev_bin (ev_ifeD (et_cmp hu (ev_v (i := 2) rfl rfl (ev_tup (ea_cons (ev_str (ea_cons (ev_str (ea_cons (ev_str (ea_cons (ev_str (ea_nil (⟨Nat.le_of_ble_eq_true rfl, ⟨_, _, _, rfl, rfl, in_si2 c, ⟨.str N1.h.S, fun h _ q => absurd h (by decide), fun _ _ q => ev_str (q), ev_str (⟨_, _, _, rfl, rfl, (nm1_dg .h 0).1, ev_ct T.b_str bb_str (ea_cons (ev_call F__law_take (hr.mono (by decide)) (ea_cons (ev_v (i := 0) rfl rfl (ea_cons (ev_v (i := 1) rfl rfl (ea_nil (⟨rfl, ⟨_, _, _, rfl, ht1.pot, (by omega), (by omega), (by omega), fun r4 ω4 hr4 ht4 => ea_nil (⟨_, str_dg (by omega), ⟨_, _, _, rfl, rfl, (nm1_dg .h r4).2, ?_⟩⟩)⟩⟩))))))))⟩)⟩⟩⟩)))))))))))))))))
      exact hQ (.o .h r4) _ hr4 ((ht1.trans ht4).mono (by omega))
    · refine ws_cons (w1_if (et_w (ew_or (et_cmp hu (ev_v (i := 2) rfl rfl (ev_tup (ea_cons (ev_str (ea_cons (ev_str (ea_cons (ev_str (ea_cons (ev_str (ea_nil (⟨Nat.le_of_ble_eq_true rfl, ⟨_, _, _, rfl, rfl, in_si2 c, ⟨fun a1 => ew_or1 (et_cmp hu (ev_v (i := 1) rfl rfl (ev_n 2 rfl (⟨_, _, _, rfl, rfl, .ltN, ⟨fun h1 => absurd (of_decide_eq_true h1) (by omega), fun h1 => ?_⟩⟩)))), fun a1 => absurd a1 (by decide)⟩⟩⟩))))))))))))))))
      refine ws_nil ?_
      refine ws_cons (w1_unl (ps := [.nm 4, .nm 5]) rfl (gp_cons (gp_v sc__law_gate.nd rfl) (gp_cons (gp_v sc__law_gate.nd rfl) (gp_nil))) (ev_call F__law_some (hr.mono (by decide)) (ea_cons (ev_v (i := 0) rfl rfl (ea_cons (ev_v (i := 3) rfl rfl (ea_cons (ev_n 2 rfl (ea_nil (⟨rfl, ⟨_, _, Nat, List.range w, (fun i => .int (i : Int)), _, by rw [rgD_0], ht1.pot, (by omega), (by rw [List.length_range]; omega), (by rw [List.length_range]; omega), fun _ _ => rfl, fun ys zs ω4 hys hyl ht4 => ?_⟩⟩))))))))))
      obtain ⟨r, s, rfl⟩ : ∃ r s, ys = [r, s] := by
        match ys, hyl with
        | [r, s], _ => exact ⟨r, s, rfl⟩
      have hmem : ∀ x, x ∈ [r, s] → x < w := fun x hx => List.mem_range.mp ((hys.mem_iff).mp (List.mem_append_left _ hx))
      have hr1 : r < w := hmem r (by simp)
      have hs1 : s < w := hmem s (by simp)
      have hne : r ≠ s := by
        have h := hys.nodup_iff.mpr List.nodup_range
        rw [List.cons_append, List.nodup_cons] at h
        intro e
        subst e
        exact h.1 (by simp)
      refine ⟨[.int (r : Int), .int (s : Int)], _, rfl, rfl, ?_⟩
      refine ws_one (w1_ret (ev_bin (ev_bin (ev_bin (ev_bin (ev_v (i := 2) rfl rfl (ev_str (⟨_, _, _, rfl, rfl, (nm2_dg c r s).1, ev_ct T.b_str bb_str (ea_cons (ev_ct T.b_int bb_int (ea_cons (ev_v (i := 4) rfl rfl (ea_nil (⟨_, .intI, ea_nil (⟨_, str_dg (by omega), ⟨_, _, _, rfl, rfl, (nm2_dg c r s).2.1, ev_str (⟨_, _, _, rfl, rfl, (nm2_dg c r s).2.2.1, ev_ct T.b_str bb_str (ea_cons (ev_ct T.b_int bb_int (ea_cons (ev_v (i := 5) rfl rfl (ea_nil (⟨_, .intI, ea_nil (⟨_, str_dg (by omega), ⟨_, _, _, rfl, rfl, (nm2_dg c r s).2.2.2, ?_⟩⟩)⟩))))))⟩)⟩⟩)⟩))))))⟩))))))))
      exact hQ (.t c r s) _ ⟨hr1, hs1, hne⟩ ((ht1.trans ht4).mono (by omega))

def Sp__law_any_letters : Spc := fun ds ω Q => ∃ k n w : Nat, ds = [.cell k, .int (w : Int)] ∧ Pot k n ω ∧ n + w < 1000000 ∧ w ≤ 100 ∧ ∀ (l : List Lt) ω', l.length = w → PotTo k (n + w) ω ω' → Q (.str (lS l)) ω'
theorem ok__law_any_letters {f : Addr} {fd : FuncData} (F : Fun K "_law_any_letters" "_law_any_letters" s__law_any_letters f fd) (hm : mg "_law_any_letters" = some (.ref f)) (b : Binds K fd ["pot", "wires"] []) (T : Tx K mg) (F__law_of : Fn P w K mg base 2 "_law_of" 2 Sp__law_of) : Fn P w K mg base 3 "_law_any_letters" 2 Sp__law_any_letters := by
  refine fn_mk' F hm b sc__law_any_letters rfl fun cdv A outer sh H E hr ds ω Qd hn hS => ?_
  obtain ⟨k, n, w, rfl, hp, hn2, hw, hQ⟩ := hS
  have hu := hr.units
  refine ws_one (w1_ret (ev_join (ev_str (⟨_, rfl, ev_frz (el_lc (p := .nm 2) [("wire", 2)] rfl sc__law_any_letters.nd (blkOk_by (N := N__law_any_letters) (sc := defScope s__law_any_letters) (by decide +kernel)) (fun _ _ _ _ _ => gp_v sc__law_any_letters.nd rfl) (by decide) (lc_run (it_rng1 T.b_range (ev_v (i := 1) rfl rfl (⟨_, rfl, (by first | decide | omega | assumption), (by first | decide | omega | assumption), ⟨(List.range w), (fun i : Nat => .int (i : Int)), (fun i ω2 => PotTo k (n + i) ω ω2), (fun _ : Lt => True), (fun c => .str (chL c)), (rgD_0 w), (fun _ _ _ => trivial), (by rw [List.length_range]; exact ln_ok (by omega)), hp.refl, fun i x ω2 hx hJ => ⟨_, rfl, fun _ _ _ _ _ => ev_call F__law_of (hr.mono (by decide)) (ea_cons (ev_v (i := 0) rfl rfl (ea_cons (ev_frz (el_list rfl T.b_list (ev_str (⟨_, _, rfl, .str, (by first | decide | omega | assumption), ea_nil (⟨rfl, ⟨_, _, Lt, [(false, false), (true, false), (true, true), (false, true)], (fun c => .str (chL c)), rfl, hJ.pot, (by have h0 := (List.getElem?_eq_some_iff.mp hx).1; rw [List.length_range] at h0; omega), by decide, by decide, fun y1 ω1 hy1 ht1 => ⟨y1, rfl, trivial, ((hJ.trans ht1)).mono (by omega)⟩⟩⟩)⟩)))))))⟩, fun bs ω2 hbl hbp hJ => ⟨_, (bs.map chL), rfl, .inl (by rw [List.map_map]; rfl), (join_ch_small (by rw [hbl, List.length_range]; omega)), (by rw [join_ch]; exact hQ _ _ (by rw [hbl, List.length_range]) (by rw [List.length_range] at hJ; exact hJ))⟩⟩⟩)))))⟩))))


def Sp__law_gates_on : Spc := fun ds ω Q => ∃ (n : Nat) (ψ : Sf) (gs : List Gt), ds = [.lst (stL n ψ), .tup (gs.map gtD), .int (n : Int)] ∧ (∀ g ∈ gs, g.ok n) ∧ 1 ≤ n ∧ n ≤ 6 ∧ Q (.lst (stL n (gatesF n gs ψ))) ω
theorem ok__law_gates_on {f : Addr} {fd : FuncData} (F : Fun K "_law_gates_on" "_law_gates_on" s__law_gates_on f fd) (hm : mg "_law_gates_on" = some (.ref f)) (b : Binds K fd ["state", "gates", "wires"] []) (T : Tx K mg) (F__law_gate_on : Fn P w K mg base 2 "_law_gate_on" 3 Sp__law_gate_on) : Fn P w K mg base 3 "_law_gates_on" 3 Sp__law_gates_on := by
  refine fn_mk' F hm b sc__law_gates_on rfl fun cdv A outer sh H E hr ds ω Qd hn hS => ?_
  obtain ⟨n, ψ, gs, rfl, hg, hn1, hn6, hQ⟩ := hS
  have hu := hr.units
  refine ws_cons (w1_fold (p := .nm 3) PassesOwn.never rfl (gp_v sc__law_gates_on.nd rfl) (it_any (ev_v (i := 1) rfl rfl (⟨_, _, rfl, rfl, ⟨gs, gtD, (fun (t : Sf) ρ2 ω2 => ω2 = ω ∧ ∃ x, ρ2 = [some (.lst (stL n t)), some (.tup (gs.map gtD)), some (.int (n : Int)), x]), ψ, (fun f g => gateF n g f), rfl, (fun _ _ _ _ => rfl), ?_, ?_, ?_⟩⟩))))
  · exact ⟨rfl, none, rfl⟩
  · rintro i g ρ2 ω2 hx ⟨rfl, x, rfl⟩
    have hg1 := hg _ (List.mem_of_getElem? hx)
    refine ⟨_, rfl, ?_⟩
    refine ws_one (w1_let (i := 0) sc__law_gates_on.nd rfl (ev_call F__law_gate_on (hr.mono (by decide)) (ea_cons (ev_v (i := 0) rfl rfl (ea_cons (ev_v (i := 3) rfl rfl (ea_cons (ev_v (i := 2) rfl rfl (ea_nil (⟨rfl, ⟨_, _, _, rfl, (by first | decide | omega | assumption), (by first | decide | omega | assumption), (by first | decide | omega | assumption), ?_⟩⟩))))))))))
    exact ⟨rfl, _, rfl⟩
  · rintro ρ2 ω2 ⟨rfl, x, rfl⟩
    refine ws_one (w1_ret (ev_v (i := 0) rfl rfl (hQ)))


def Sp__law_units : Spc := fun ds ω Q => ∃ n : Nat, ds = [.int (n : Int)] ∧ n ≤ 6 ∧ Q (.lst ((List.range (2 ^ n)).map fun a => .lst (stL n (unitF a)))) ω
theorem ok__law_units {f : Addr} {fd : FuncData} (F : Fun K "_law_units" "_law_units" s__law_units f fd) (hm : mg "_law_units" = some (.ref f)) (b : Binds K fd ["wires"] []) (T : Tx K mg) (F__law_power : Fn P w K mg base 1 "_law_power" 1 Sp__law_power) (F__law_unit : Fn P w K mg base 2 "_law_unit" 2 Sp__law_unit) : Fn P w K mg base 3 "_law_units" 1 Sp__law_units := by
  refine fn_mk' F hm b sc__law_units rfl fun cdv A outer sh H E hr ds ω Qd hn hS => ?_
  obtain ⟨n, rfl, hn6, hQ⟩ := hS
  have hu := hr.units
  refine ws_one (w1_ret (ev_frz (el_lc (p := .nm 1) [("at", 1)] rfl sc__law_units.nd (blkOk_by (N := N__law_units) (sc := defScope s__law_units) (by decide +kernel)) (fun _ _ _ _ _ => gp_v sc__law_units.nd rfl) (by decide) (lc_map (it_rng1 T.b_range (ev_call F__law_power (hr.mono (by decide)) (ea_cons (ev_v (i := 0) rfl rfl (ea_nil (⟨rfl, ⟨_, rfl, (by first | decide | omega | assumption | (have hN := pow6 hn6; omega)), ⟨_, rfl, (by first | decide | omega | assumption | (have hN := pow6 hn6; omega)), (by first | decide | omega | assumption | (have hN := pow6 hn6; omega)), ⟨(List.range (2 ^ n)), (fun i : Nat => .int (i : Int)), (fun a => .lst (stL n (unitF a))), (rgD_0 _), trivial, (by rw [List.length_range]; exact ln_ok (by have hN := pow6 hn6; omega)), fun x hx => ⟨_, rfl, fun _ _ _ _ _ => ev_call F__law_unit (hr.mono (by decide)) (ea_cons (ev_v (i := 0) rfl rfl (ea_cons (ev_v (i := 1) rfl rfl (ea_nil (⟨rfl, ⟨_, _, rfl, (by first | decide | omega | assumption | (have hN := pow6 hn6; omega)), ⟨rfl, rfl⟩⟩⟩))))))⟩, hQ⟩⟩⟩⟩))))))))))


def Sp_check_gates : Spc := fun ds ω Q => ∃ (gs : List Gt) (w : Nat), ds = [.tup (gs.map gtD), .int (w : Int)] ∧ w ≤ 6 ∧ gs.length ≤ 400 ∧ (∀ g ∈ gs, g.ok w) ∧ Q .non ω
theorem ok_check_gates {f : Addr} {fd : FuncData} (F : Fun K "check_gates" "check_gates" s_check_gates f fd) (hm : mg "check_gates" = some (.ref f)) (b : Binds K fd ["value", "wires"] []) (T : Tx K mg) (F_is_gates : Fn P w K mg base 3 "is_gates" 2 Sp_is_gates) : Fn P w K mg base 4 "check_gates" 2 Sp_check_gates := by
  refine fn_mk' F hm b sc_check_gates rfl fun cdv A outer sh H E hr ds ω Qd hn hS => ?_
  obtain ⟨gs, w, rfl, hw, hl, hg, hQ⟩ := hS
  have hu := hr.units
  refine ws_one (w1_if (et_not (et_val (ev_call F_is_gates (hr.mono (by decide)) (ea_cons (ev_v (i := 0) rfl rfl (ea_cons (ev_v (i := 1) rfl rfl (ea_nil (⟨rfl, ⟨_, _, rfl, (by first | decide | omega | assumption), (by first | decide | omega | assumption), (by first | decide | omega | assumption), ⟨_, _, rfl, rfl, ⟨fun h1 => ?_, fun h1 => ?_⟩⟩⟩⟩))))))))))
  · -- then
    exact absurd h1 (by decide)
  · -- else
    refine ws_nil ?_
    exact hQ


def Sp_check_any_word : Spc := fun ds ω Q => ∃ (g : Bool) (l : List Lt), ds = [.str (wS g l)] ∧ 1 ≤ l.length ∧ l.length ≤ 6 ∧ Q .non ω
theorem ok_check_any_word {f : Addr} {fd : FuncData} (F : Fun K "check_any_word" "check_any_word" s_check_any_word f fd) (hm : mg "check_any_word" = some (.ref f)) (b : Binds K fd ["value"] []) (T : Tx K mg) (F_is_any_word : Fn P w K mg base 3 "is_any_word" 1 Sp_is_any_word) : Fn P w K mg base 4 "check_any_word" 1 Sp_check_any_word := by
  refine fn_mk' F hm b sc_check_any_word rfl fun cdv A outer sh H E hr ds ω Qd hn hS => ?_
  obtain ⟨g, l, rfl, h1, hl, hQ⟩ := hS
  have hu := hr.units
  refine ws_one (w1_if (et_not (et_val (ev_call F_is_any_word (hr.mono (by decide)) (ea_cons (ev_v (i := 0) rfl rfl (ea_nil (⟨rfl, ⟨_, _, rfl, (by first | decide | omega | assumption), (by first | decide | omega | assumption), ⟨_, _, rfl, rfl, ⟨fun h1 => ?_, fun h1 => ?_⟩⟩⟩⟩))))))))
  · -- then
    exact absurd h1 (by decide)
  · -- else
    refine ws_nil ?_
    exact hQ


def Sp_led_signed : Spc := fun ds ω Q => ∃ (s : Nat × Nat) (gs : List Gt), ds = [sgD s, .tup (gs.map gtD)] ∧ (∀ g ∈ gs, g.ok 6) ∧ Q (sgD (ledS s gs)) ω
theorem ok_led_signed {f : Addr} {fd : FuncData} (F : Fun K "led_signed" "led_signed" s_led_signed f fd) (hm : mg "led_signed" = some (.ref f)) (b : Binds K fd ["signed", "gates"] []) (T : Tx K mg) (F_lead : Fn P w K mg base 3 "lead" 2 Sp_lead) : Fn P w K mg base 4 "led_signed" 2 Sp_led_signed := by
  refine fn_mk' F hm b sc_led_signed rfl fun cdv A outer sh H E hr ds ω Qd hn hS => ?_
  obtain ⟨s, gs, rfl, hg, hQ⟩ := hS
  have hu := hr.units
  refine ws_cons (w1_fold (p := .nm 2) PassesOwn.never rfl (gp_v sc_led_signed.nd rfl) (it_any (ev_v (i := 1) rfl rfl (⟨_, _, rfl, rfl, ⟨gs, gtD, (fun t ρ2 ω2 => ω2 = ω ∧ ∃ x, ρ2 = [some (sgD t), some (.tup (gs.map gtD)), x]), s, lead, rfl, (fun _ _ _ _ => rfl), ?_, ?_, ?_⟩⟩))))
  · exact ⟨rfl, none, rfl⟩
  · rintro i g ρ2 ω2 hx ⟨rfl, x, rfl⟩
    have hg1 := hg _ (List.mem_of_getElem? hx)
    refine ⟨_, rfl, ?_⟩
    refine ws_one (w1_let (i := 0) sc_led_signed.nd rfl (ev_call F_lead (hr.mono (by decide)) (ea_cons (ev_v (i := 0) rfl rfl (ea_cons (ev_v (i := 2) rfl rfl (ea_nil (⟨rfl, ⟨_, _, rfl, (by first | decide | omega | assumption), ?_⟩⟩))))))))
    exact ⟨rfl, _, rfl⟩
  · rintro ρ2 ω2 ⟨rfl, x, rfl⟩
    refine ws_one (w1_ret (ev_v (i := 0) rfl rfl (hQ)))


def Sp__law_any_word : Spc := fun ds ω Q => ∃ k n w : Nat, ds = [.cell k, .int (w : Int)] ∧ Pot k n ω ∧ n + w + 1 < 1000000 ∧ w ≤ 100 ∧ ∀ (g : Bool) (l : List Lt) ω', l.length = w → PotTo k (n + w + 1) ω ω' → Q (.str (wS g l)) ω'
theorem ok__law_any_word {f : Addr} {fd : FuncData} (F : Fun K "_law_any_word" "_law_any_word" s__law_any_word f fd) (hm : mg "_law_any_word" = some (.ref f)) (b : Binds K fd ["pot", "wires"] []) (T : Tx K mg) (F__law_of : Fn P w K mg base 2 "_law_of" 2 Sp__law_of) (F__law_any_letters : Fn P w K mg base 3 "_law_any_letters" 2 Sp__law_any_letters) : Fn P w K mg base 4 "_law_any_word" 2 Sp__law_any_word := by
  refine fn_mk' F hm b sc__law_any_word rfl fun cdv A outer sh H E hr ds ω Qd hn hS => ?_
  obtain ⟨k, n, w, rfl, hp, hn2, hw, hQ⟩ := hS
  have hu := hr.units
  refine ws_one (w1_ret (ev_bin (ev_call F__law_of (hr.mono (by decide)) (ea_cons (ev_v (i := 0) rfl rfl (ea_cons (ev_frz (el_lst (ea_cons (ev_str (ea_cons (ev_str (ea_nil (⟨Nat.le_of_ble_eq_true rfl, ea_nil (⟨rfl, ⟨_, _, Bool, [false, true], (fun g => .str (sgS g)), rfl, hp, (by first | decide | omega | assumption), by decide, by decide, fun y1 ω1 hy1 ht1 => ev_call F__law_any_letters (hr.mono (by decide)) (ea_cons (ev_v (i := 0) rfl rfl (ea_cons (ev_v (i := 1) rfl rfl (ea_nil (⟨rfl, ⟨_, _, _, rfl, ht1.pot, (by first | decide | omega | assumption), (by first | decide | omega | assumption), fun l2 ω2 hl2 ht2 => ⟨_, _, _, rfl, rfl, (.addS (by rw [sgS_len, lS_len]; exact ln_ok (by omega))), (by rw [sg_word]; exact hQ _ _ _ hl2 (((ht1.trans ht2)).mono (by omega)))⟩⟩⟩))))))⟩⟩)⟩))))))))))))))


def Sp__law_gates : Spc := fun ds ω Q => ∃ k n w : Nat, ds = [.cell k, .int (w : Int)] ∧ Pot k n ω ∧ n + 100 < 1000000 ∧ 1 ≤ w ∧ w ≤ 6 ∧ ∀ (gs : List Gt) ω', gs.length ≤ 42 → (∀ g ∈ gs, g.ok w) → PotTo k (n + 100) ω ω' → Q (.tup (gs.map gtD)) ω'
theorem ok__law_gates {f : Addr} {fd : FuncData} (F : Fun K "_law_gates" "_law_gates" s__law_gates f fd) (hm : mg "_law_gates" = some (.ref f)) (b : Binds K fd ["pot", "wires"] []) (T : Tx K mg) (F__law_take : Fn P w K mg base 1 "_law_take" 2 Sp__law_take) (F__law_gate : Fn P w K mg base 3 "_law_gate" 2 Sp__law_gate) : Fn P w K mg base 4 "_law_gates" 2 Sp__law_gates := by
  refine fn_mk' F hm b sc__law_gates rfl fun cdv A outer sh H E hr ds ω Qd hn hS => ?_
  obtain ⟨k, n, w, rfl, hp, hn2, hw1, hw, hQ⟩ := hS
  have hu := hr.units
  refine ws_cons (w1_lcF (i := 2) (p := .nm 3) [("lap", 3)] rfl sc__law_gates.nd rfl rfl (sw_true rfl rfl rfl (by decide +kernel)) (blkOk_by (N := N__law_gates) (sc := defScope s__law_gates) (by decide +kernel)) (fun _ _ _ _ _ => gp_v sc__law_gates.nd rfl) (by decide) (lc_run (it_rng1 T.b_range (ev_bin (ev_n 1 rfl (ev_call F__law_take (hr.mono (by decide)) (ea_cons (ev_v (i := 0) rfl rfl (ea_cons (ev_n 14 rfl (ea_nil (⟨rfl, ⟨_, _, _, rfl, hp, (by first | decide | omega | assumption), (by first | decide | omega | assumption), (by first | decide | omega | assumption), fun r1 ω1 hr1 ht1 => ⟨_, _, _, rfl, rfl, .addN, ⟨_, rfl, (by first | decide | omega | assumption), (by first | decide | omega | assumption), ⟨(List.range (1 + r1)), (fun i : Nat => .int (i : Int)), (fun i ω2 => PotTo k (n + 1 + 3 * i) ω ω2), (fun g : Gt => g.ok w), gtD, (rgD_0 _), (fun _ _ _ => trivial), (by rw [List.length_range]; exact ln_ok (by omega)), ht1, fun i x ω2 hx hJ => ⟨_, rfl, fun _ _ _ _ _ => ev_call F__law_gate (hr.mono (by decide)) (ea_cons (ev_v (i := 0) rfl rfl (ea_cons (ev_v (i := 1) rfl rfl (ea_nil (⟨rfl, ⟨_, _, _, rfl, hJ.pot, (by have h0 := (List.getElem?_eq_some_iff.mp hx).1; rw [List.length_range] at h0; omega), (by first | decide | omega | assumption), (by first | decide | omega | assumption), fun g2 ω2 hg2 ht2 => ⟨_, rfl, hg2, ((hJ.trans ht2)).mono (by omega)⟩⟩⟩))))))⟩, fun bs ωb hbl hbp hJf => have hbl : bs.length = 1 + r1 := hbl.trans List.length_range; have hJf : (fun i ω2 => PotTo k (n + 1 + 3 * i) ω ω2) (1 + r1) ωb := (by rw [List.length_range] at hJf; exact hJf); ?_⟩⟩⟩⟩⟩))))))))))))
  refine ws_one (w1_ret (ev_ct T.b_tuple bb_tuple (ea_cons (ev_ife (et_cmp hu (ev_call F__law_take (hr.mono (by decide)) (ea_cons (ev_v (i := 0) rfl rfl (ea_cons (ev_n 4 rfl (ea_nil (⟨rfl, ⟨_, _, _, rfl, hJf.pot, (by first | decide | omega | assumption), (by first | decide | omega | assumption), (by first | decide | omega | assumption), fun r3 ω3 hr3 ht3 => ev_n 0 rfl (⟨_, _, _, rfl, rfl, .eqN, ⟨fun h => ev_bin (ev_v (i := 2) rfl rfl (ev_n 3 rfl (⟨_, _, _, rfl, rfl, (.mulL (by decide) (by decide) (by rw [List.length_map, hbl]; show _ * 3 ≤ _; exact ln_ok (by omega))), ea_nil (⟨_, .tupL, (by first | (rw [← gate3]; exact hQ _ _ (g3_len hbl (by omega)) (g3_ok hbp) (((hJf.trans ht3)).mono (by omega))) | exact hQ bs _ (by omega) hbp (((hJf.trans ht3)).mono (by omega)))⟩)⟩))), fun h => ev_v (i := 2) rfl rfl (ea_nil (⟨_, .tupL, (by first | (rw [← gate3]; exact hQ _ _ (g3_len hbl (by omega)) (g3_ok hbp) (((hJf.trans ht3)).mono (by omega))) | exact hQ bs _ (by omega) hbp (((hJf.trans ht3)).mono (by omega)))⟩))⟩⟩)⟩⟩))))))))))))


def Sp__law_acts_so : Spc := fun ds ω Q => ∃ (n : Nat) (ψ : Sf) (gs : List Gt) (g : Bool) (l : List Lt) (g' : Bool) (l' : List Lt), ds = [.lst (stL n ψ), .tup (gs.map gtD), .str (wS g l), .str (wS g' l')] ∧ l.length = n ∧ l'.length = n ∧ 1 ≤ n ∧ n ≤ 6 ∧ (∀ g ∈ gs, g.ok n) ∧ ActsSo n ψ gs g l g' l' ∧ Q (.bl true) ω
theorem ok__law_acts_so {f : Addr} {fd : FuncData} (F : Fun K "_law_acts_so" "_law_acts_so" s__law_acts_so f fd) (hm : mg "_law_acts_so" = some (.ref f)) (b : Binds K fd ["state", "gates", "word", "told"] []) (T : Tx K mg) (F__law_is_word : Fn P w K mg base 2 "_law_is_word" 2 Sp__law_is_word) (F__law_read : Fn P w K mg base 1 "_law_read" 1 Sp__law_read) (F__law_acted : Fn P w K mg base 2 "_law_acted" 2 Sp__law_acted) (F__law_gates_on : Fn P w K mg base 3 "_law_gates_on" 3 Sp__law_gates_on) : Fn P w K mg base 4 "_law_acts_so" 4 Sp__law_acts_so := by
  refine fn_mk' F hm b sc__law_acts_so rfl fun cdv A outer sh H E hr ds ω Qd hn hS => ?_
  obtain ⟨n, ψ, gs, g, l, g', l', rfl, hl, hl2, hn1, hn6, hg, ha, hQ⟩ := hS
  have hu := hr.units
  refine ws_cons (w1_let (i := 4) sc__law_acts_so.nd rfl (ev_bin (ev_cb T.b_len bb_len (ea_cons (ev_v (i := 2) rfl rfl (ea_nil (⟨_, (.lenS (ln_ok (by rw [wS_len]; omega))), ev_n 1 rfl (⟨_, _, _, rfl, rfl, (.subN (by rw [wS_len]; omega)), ?_⟩)⟩)))))))
  rw [show (wS g l).length - 1 = n by rw [wS_len]; omega]
  refine ws_cons (w1_if (et_not (et_val (ev_call F__law_is_word (hr.mono (by decide)) (ea_cons (ev_v (i := 3) rfl rfl (ea_cons (ev_v (i := 4) rfl rfl (ea_nil (⟨rfl, ⟨_, _, _, rfl, (by first | decide | omega | assumption), ⟨_, _, rfl, rfl, ⟨fun h1 => ?_, fun h1 => ?_⟩⟩⟩⟩))))))))))
  · -- then
    exact absurd h1 (by rw [hl2]; simp)
  · -- else
    refine ws_nil ?_
    refine ws_cons (w1_let (i := 5) sc__law_acts_so.nd rfl (ev_call F__law_gates_on (hr.mono (by decide)) (ea_cons (ev_call F__law_acted (hr.mono (by decide)) (ea_cons (ev_call F__law_read (hr.mono (by decide)) (ea_cons (ev_v (i := 2) rfl rfl (ea_nil (⟨rfl, ⟨_, _, rfl, (by first | decide | omega | assumption), ea_cons (ev_v (i := 0) rfl rfl (ea_nil (⟨rfl, ⟨_, _, _, _, rfl, (by first | decide | omega | assumption), (by first | decide | omega | assumption), ea_cons (ev_v (i := 1) rfl rfl (ea_cons (ev_v (i := 4) rfl rfl (ea_nil (⟨rfl, ⟨_, _, _, rfl, (by first | decide | omega | assumption), (by first | decide | omega | assumption), (by first | decide | omega | assumption), ?_⟩⟩)))))⟩⟩)))⟩⟩))))))))))
    refine ws_one (w1_ret (ev_cmp hu (ev_v (i := 5) rfl rfl (ev_call F__law_acted (hr.mono (by decide)) (ea_cons (ev_call F__law_read (hr.mono (by decide)) (ea_cons (ev_v (i := 3) rfl rfl (ea_nil (⟨rfl, ⟨_, _, rfl, (by first | decide | omega | assumption), ea_cons (ev_call F__law_gates_on (hr.mono (by decide)) (ea_cons (ev_v (i := 0) rfl rfl (ea_cons (ev_v (i := 1) rfl rfl (ea_cons (ev_v (i := 4) rfl rfl (ea_nil (⟨rfl, ⟨_, _, _, rfl, (by first | decide | omega | assumption), (by first | decide | omega | assumption), (by first | decide | omega | assumption), ea_nil (⟨rfl, ⟨_, _, _, _, rfl, (by first | decide | omega | assumption), (by first | decide | omega | assumption), ⟨_, _, _, rfl, rfl, (st_eq ha), hQ⟩⟩⟩)⟩⟩)))))))))⟩⟩))))))))))


def Sp_led : Spc := fun ds ω Q => ∃ (g : Bool) (l : List Lt) (gs : List Gt), ds = [.str (wS g l), .tup (gs.map gtD)] ∧ 1 ≤ l.length ∧ l.length ≤ 6 ∧ gs.length ≤ 400 ∧ (∀ g ∈ gs, g.ok l.length) ∧ Q (.str (outW (ledS (sq g l) gs) l.length)) ω
theorem ok_led {f : Addr} {fd : FuncData} (F : Fun K "led" "led" s_led f fd) (hm : mg "led" = some (.ref f)) (b : Binds K fd ["word", "gates"] []) (T : Tx K mg) (F_signed_of : Fn P w K mg base 2 "signed_of" 1 Sp_signed_of) (F_word_of : Fn P w K mg base 3 "word_of" 2 Sp_word_of) (F_check_gates : Fn P w K mg base 4 "check_gates" 2 Sp_check_gates) (F_wires_of : Fn P w K mg base 1 "wires_of" 1 Sp_wires_of) (F_check_any_word : Fn P w K mg base 4 "check_any_word" 1 Sp_check_any_word) (F_led_signed : Fn P w K mg base 4 "led_signed" 2 Sp_led_signed) : Fn P w K mg base 5 "led" 2 Sp_led := by
  refine fn_mk' F hm b sc_led rfl fun cdv A outer sh H E hr ds ω Qd hn hS => ?_
  obtain ⟨g, l, gs, rfl, h1, hl, hgl, hg, hQ⟩ := hS
  have hu := hr.units
  refine ws_cons (w1_expr (ev_call F_check_any_word (hr.mono (by decide)) (ea_cons (ev_v (i := 0) rfl rfl (ea_nil (⟨rfl, ⟨_, _, rfl, (by first | decide | omega | assumption | exact (fun g h => Gt.ok_mono (hg g h) hl)), (by first | decide | omega | assumption | exact (fun g h => Gt.ok_mono (hg g h) hl)), ?_⟩⟩))))))
  refine ws_cons (w1_expr (ev_call F_check_gates (hr.mono (by decide)) (ea_cons (ev_v (i := 1) rfl rfl (ea_cons (ev_call F_wires_of (hr.mono (by decide)) (ea_cons (ev_v (i := 0) rfl rfl (ea_nil (⟨rfl, ⟨_, _, rfl, (by first | decide | omega | assumption | exact (fun g h => Gt.ok_mono (hg g h) hl)), ea_nil (⟨rfl, ⟨_, _, rfl, (by first | decide | omega | assumption | exact (fun g h => Gt.ok_mono (hg g h) hl)), (by first | decide | omega | assumption | exact (fun g h => Gt.ok_mono (hg g h) hl)), (by first | decide | omega | assumption | exact (fun g h => Gt.ok_mono (hg g h) hl)), ?_⟩⟩)⟩⟩))))))))))
  refine ws_one (w1_ret (ev_call F_word_of (hr.mono (by decide)) (ea_cons (ev_call F_led_signed (hr.mono (by decide)) (ea_cons (ev_call F_signed_of (hr.mono (by decide)) (ea_cons (ev_v (i := 0) rfl rfl (ea_nil (⟨rfl, ⟨_, _, rfl, (by first | decide | omega | assumption | exact (fun g h => Gt.ok_mono (hg g h) hl)), ea_cons (ev_v (i := 1) rfl rfl (ea_nil (⟨rfl, ⟨(_, _), _, rfl, (by first | decide | omega | assumption | exact (fun g h => Gt.ok_mono (hg g h) hl)), ea_cons (ev_call F_wires_of (hr.mono (by decide)) (ea_cons (ev_v (i := 0) rfl rfl (ea_nil (⟨rfl, ⟨_, _, rfl, (by first | decide | omega | assumption | exact (fun g h => Gt.ok_mono (hg g h) hl)), ea_nil (⟨rfl, ⟨_, _, _, rfl, (by first | decide | omega | assumption | exact (fun g h => Gt.ok_mono (hg g h) hl)), hQ⟩⟩)⟩⟩)))))⟩⟩)))⟩⟩))))))))))


def Sp_back : Spc := fun ds ω Q => ∃ (g : Bool) (l : List Lt) (gs : List Gt), ds = [.str (wS g l), .tup (gs.map gtD)] ∧ 1 ≤ l.length ∧ l.length ≤ 6 ∧ gs.length ≤ 400 ∧ (∀ g ∈ gs, g.ok l.length) ∧ Q (.str (outW (ledS (sq g l) (backG gs)) l.length)) ω
theorem ok_back {f : Addr} {fd : FuncData} (F : Fun K "back" "back" s_back f fd) (hm : mg "back" = some (.ref f)) (b : Binds K fd ["word", "gates"] []) (T : Tx K mg) (F_signed_of : Fn P w K mg base 2 "signed_of" 1 Sp_signed_of) (F_word_of : Fn P w K mg base 3 "word_of" 2 Sp_word_of) (F_check_gates : Fn P w K mg base 4 "check_gates" 2 Sp_check_gates) (F_wires_of : Fn P w K mg base 1 "wires_of" 1 Sp_wires_of) (F_check_any_word : Fn P w K mg base 4 "check_any_word" 1 Sp_check_any_word) (F_led_signed : Fn P w K mg base 4 "led_signed" 2 Sp_led_signed) (F_turned_back : Fn P w K mg base 1 "turned_back" 1 Sp_turned_back) : Fn P w K mg base 5 "back" 2 Sp_back := by
  refine fn_mk' F hm b sc_back rfl fun cdv A outer sh H E hr ds ω Qd hn hS => ?_
  obtain ⟨g, l, gs, rfl, h1, hl, hgl, hg, hQ⟩ := hS
  have hu := hr.units
  refine ws_cons (w1_expr (ev_call F_check_any_word (hr.mono (by decide)) (ea_cons (ev_v (i := 0) rfl rfl (ea_nil (⟨rfl, ⟨_, _, rfl, (by first | decide | omega | assumption | exact (fun g h => Gt.ok_mono (hg g h) hl) | exact back_ok (fun g h => Gt.ok_mono (hg g h) hl)), (by first | decide | omega | assumption | exact (fun g h => Gt.ok_mono (hg g h) hl) | exact back_ok (fun g h => Gt.ok_mono (hg g h) hl)), ?_⟩⟩))))))
  refine ws_cons (w1_expr (ev_call F_check_gates (hr.mono (by decide)) (ea_cons (ev_v (i := 1) rfl rfl (ea_cons (ev_call F_wires_of (hr.mono (by decide)) (ea_cons (ev_v (i := 0) rfl rfl (ea_nil (⟨rfl, ⟨_, _, rfl, (by first | decide | omega | assumption | exact (fun g h => Gt.ok_mono (hg g h) hl) | exact back_ok (fun g h => Gt.ok_mono (hg g h) hl)), ea_nil (⟨rfl, ⟨_, _, rfl, (by first | decide | omega | assumption | exact (fun g h => Gt.ok_mono (hg g h) hl) | exact back_ok (fun g h => Gt.ok_mono (hg g h) hl)), (by first | decide | omega | assumption | exact (fun g h => Gt.ok_mono (hg g h) hl) | exact back_ok (fun g h => Gt.ok_mono (hg g h) hl)), (by first | decide | omega | assumption | exact (fun g h => Gt.ok_mono (hg g h) hl) | exact back_ok (fun g h => Gt.ok_mono (hg g h) hl)), ?_⟩⟩)⟩⟩))))))))))
  refine ws_one (w1_ret (ev_call F_word_of (hr.mono (by decide)) (ea_cons (ev_call F_led_signed (hr.mono (by decide)) (ea_cons (ev_call F_signed_of (hr.mono (by decide)) (ea_cons (ev_v (i := 0) rfl rfl (ea_nil (⟨rfl, ⟨_, _, rfl, (by first | decide | omega | assumption | exact (fun g h => Gt.ok_mono (hg g h) hl) | exact back_ok (fun g h => Gt.ok_mono (hg g h) hl)), ea_cons (ev_call F_turned_back (hr.mono (by decide)) (ea_cons (ev_v (i := 1) rfl rfl (ea_nil (⟨rfl, ⟨_, rfl, (by first | decide | omega | assumption | exact (fun g h => Gt.ok_mono (hg g h) hl) | exact back_ok (fun g h => Gt.ok_mono (hg g h) hl)), (by first | decide | omega | assumption | exact (fun g h => Gt.ok_mono (hg g h) hl) | exact back_ok (fun g h => Gt.ok_mono (hg g h) hl)), ea_nil (⟨rfl, ⟨(_, _), _, rfl, (by first | decide | omega | assumption | exact (fun g h => Gt.ok_mono (hg g h) hl) | exact back_ok (fun g h => Gt.ok_mono (hg g h) hl)), ea_cons (ev_call F_wires_of (hr.mono (by decide)) (ea_cons (ev_v (i := 0) rfl rfl (ea_nil (⟨rfl, ⟨_, _, rfl, (by first | decide | omega | assumption | exact (fun g h => Gt.ok_mono (hg g h) hl) | exact back_ok (fun g h => Gt.ok_mono (hg g h) hl)), ea_nil (⟨rfl, ⟨_, _, _, rfl, (by first | decide | omega | assumption | exact (fun g h => Gt.ok_mono (hg g h) hl) | exact back_ok (fun g h => Gt.ok_mono (hg g h) hl)), hQ⟩⟩)⟩⟩)))))⟩⟩)⟩⟩)))))⟩⟩))))))))))


def Sp_rows_by : Spc := fun ds ω Q => ∃ (w : Nat) (gs : List Gt), ds = [.int (w : Int), .tup (gs.map gtD)] ∧ w ≤ 6 ∧ (∀ g ∈ gs, g.ok 6) ∧ Q (.lst ((List.range w).map fun i => .tup [sgD (ledS (0, 1 <<< i) gs), sgD (ledS (0, 1 <<< (6 + i)) gs)])) ω
theorem ok_rows_by {f : Addr} {fd : FuncData} (F : Fun K "rows_by" "rows_by" s_rows_by f fd) (hm : mg "rows_by" = some (.ref f)) (b : Binds K fd ["wires", "gates"] []) (T : Tx K mg) (F_led_signed : Fn P w K mg base 4 "led_signed" 2 Sp_led_signed) (F_single_marks : Fn P w K mg base 1 "single_marks" 1 Sp_single_marks) : Fn P w K mg base 5 "rows_by" 2 Sp_rows_by := by
  refine fn_mk' F hm b sc_rows_by rfl fun cdv A outer sh H E hr ds ω Qd hn hS => ?_
  obtain ⟨w, gs, rfl, hw, hg, hQ⟩ := hS
  have hu := hr.units
  refine ws_one (w1_ret (ev_frz (el_lc (p := .tp [.nm 2, .nm 3]) [("x", 2), ("z", 3)] rfl sc_rows_by.nd (blkOk_by (N := N_rows_by) (sc := defScope s_rows_by) (by decide +kernel)) (fun _ _ _ _ _ => gp_tp rfl (gp_cons (gp_v sc_rows_by.nd rfl) (gp_cons (gp_v sc_rows_by.nd rfl) (gp_nil)))) (by decide) (lc_map (it_any (ev_call F_single_marks (hr.mono (by decide)) (ea_cons (ev_v (i := 0) rfl rfl (ea_nil (⟨rfl, ⟨_, rfl, (by first | decide | omega | assumption), ⟨_, _, rfl, rfl, ⟨(List.range w), (fun i => sgD (1 <<< i, 1 <<< (6 + i))), (fun i => .tup [sgD (ledS (0, 1 <<< i) gs), sgD (ledS (0, 1 <<< (6 + i)) gs)]), rfl, rfl, (by rw [List.length_range]; exact ln_ok (by omega)), fun i hx => ⟨_, rfl, fun _ _ _ _ _ => ev_tup (ea_cons (ev_call F_led_signed (hr.mono (by decide)) (ea_cons (ev_tup (ea_cons (ev_n 0 rfl (ea_cons (ev_v (i := 2) rfl rfl (ea_nil (⟨Nat.le_of_ble_eq_true rfl, ea_cons (ev_v (i := 1) rfl rfl (ea_nil (⟨rfl, ⟨(_, _), _, rfl, (by first | decide | omega | assumption), ea_cons (ev_call F_led_signed (hr.mono (by decide)) (ea_cons (ev_tup (ea_cons (ev_n 0 rfl (ea_cons (ev_v (i := 3) rfl rfl (ea_nil (⟨Nat.le_of_ble_eq_true rfl, ea_cons (ev_v (i := 1) rfl rfl (ea_nil (⟨rfl, ⟨(_, _), _, rfl, (by first | decide | omega | assumption), ea_nil (⟨Nat.le_of_ble_eq_true rfl, ⟨rfl, rfl⟩⟩)⟩⟩)))⟩)))))))))⟩⟩)))⟩))))))))))⟩, hQ⟩⟩⟩⟩))))))))))


def Sp__law_is_table_right : Spc := fun ds ω Q => ∃ (n : Nat) (gs : List Gt) (ψs : List Sf), ds = [.tup ((List.range n).map fun i => .tup [.str (outW (ledS (0, 1 <<< i) gs) n), .str (outW (ledS (0, 1 <<< (6 + i)) gs) n)]), .tup (gs.map gtD), .int (n : Int), .lst (ψs.map fun ψ => .lst (stL n ψ))] ∧ 1 ≤ n ∧ n ≤ 6 ∧ ψs.length ≤ 100 ∧ (∀ g ∈ gs, g.ok n) ∧ Q (.bl true) ω
theorem ok__law_is_table_right {f : Addr} {fd : FuncData} (F : Fun K "_law_is_table_right" "_law_is_table_right" s__law_is_table_right f fd) (hm : mg "_law_is_table_right" = some (.ref f)) (b : Binds K fd ["told", "gates", "wires", "states"] []) (T : Tx K mg) (F__law_single : Fn P w K mg base 1 "_law_single" 3 Sp__law_single) (F__law_acts_so : Fn P w K mg base 4 "_law_acts_so" 4 Sp__law_acts_so) : Fn P w K mg base 5 "_law_is_table_right" 4 Sp__law_is_table_right := by
  refine fn_mk' F hm b sc__law_is_table_right rfl fun cdv A outer sh H E hr ds ω Qd hn hS => ?_
  obtain ⟨n, gs, ψs, rfl, hn1, hn6, hψ, hg, hQ⟩ := hS
  have hu := hr.units
  refine ws_cons (w1_ifT (false) (et_w (ew_or (et_not (et_val (ev_cb T.b_isinstance bb_isinstance (ea_cons (ev_v (i := 0) rfl rfl (ea_cons (ev_blt T.b_tuple bb_tuple (ea_nil (⟨_, .isi rfl (by decide +kernel : kitB "tuple" "tuple" = some true), ⟨_, _, rfl, rfl, ⟨fun a1 => ew_or1 (et_cmp hu (ev_cb T.b_len bb_len (ea_cons (ev_v (i := 0) rfl rfl (ea_nil (⟨_, .lenT, ev_v (i := 2) rfl rfl (⟨_, _, _, rfl, rfl, .neN, (by first | exact absurd a1 (by decide) | exact ⟨by rw [List.length_map, List.length_range]; simp, rfl⟩)⟩)⟩)))))), fun a1 => (by first | exact absurd a1 (by decide) | exact ⟨by rw [List.length_map, List.length_range]; simp, rfl⟩)⟩⟩⟩))))))))))) (fun h1 => ?_) (fun h1 => ?_))
  · -- then
    exact absurd h1 (by decide)
  · -- else
    refine ws_nil ?_
    refine ws_cons (w1_run (p := .tp [.nm 4, .nm 5]) PassesOwn.never rfl (gp_tp rfl (gp_cons (gp_v sc__law_is_table_right.nd rfl) (gp_cons (gp_v sc__law_is_table_right.nd rfl) (gp_nil)))) (it_enum T.b_enumerate (ev_v (i := 0) rfl rfl (⟨_, _, rfl, rfl, ⟨(List.range n), (fun i => .tup [.int (i : Int), .tup [.str (outW (ledS (0, 1 <<< i) gs) n), .str (outW (ledS (0, 1 <<< (6 + i)) gs) n)]]), (fun _ ρ2 ω2 => ω2 = ω ∧ ∃ x4 x5 x6 x7 x8, ρ2 = [some (.tup ((List.range n).map fun i => .tup [.str (outW (ledS (0, 1 <<< i) gs) n), .str (outW (ledS (0, 1 <<< (6 + i)) gs) n)])), some (.tup (gs.map gtD)), some (.int (n : Int)), some (.lst (ψs.map fun ψ => .lst (stL n ψ))), x4, x5, x6, x7, x8]), (enum_rg n _), (fun _ _ _ _ => rfl), ?_, ?_, ?_⟩⟩))))
    · exact ⟨rfl, _, _, _, _, _, rfl⟩
    · rintro i at1 ρ2 ω2 hx ⟨rfl, x4, x5, x6, x7, x8, rfl⟩
      have hat : at1 < n := List.mem_range.mp (List.mem_of_getElem? hx)
      refine ⟨_, rfl, ?_⟩
      refine ws_cons (w1_ifT (false) (et_w (ew_or (et_not (et_val (ev_cb T.b_isinstance bb_isinstance (ea_cons (ev_v (i := 5) rfl rfl (ea_cons (ev_blt T.b_tuple bb_tuple (ea_nil (⟨_, .isi rfl (by decide +kernel : kitB "tuple" "tuple" = some true), ⟨_, _, rfl, rfl, ⟨fun a1 => ew_or1 (et_cmp hu (ev_cb T.b_len bb_len (ea_cons (ev_v (i := 5) rfl rfl (ea_nil (⟨_, .lenT, ev_n 2 rfl (⟨_, _, _, rfl, rfl, .neN, (by first | exact absurd a1 (by decide) | exact ⟨rfl, rfl⟩)⟩)⟩)))))), fun a1 => (by first | exact absurd a1 (by decide) | exact ⟨rfl, rfl⟩)⟩⟩⟩))))))))))) (fun h2 => ?_) (fun h2 => ?_))
      · -- then
        exact absurd h2 (by decide)
      · -- else
        refine ws_nil ?_
        refine ws_one (w1_run (p := .tp [.nm 6, .nm 7]) PassesOwn.never rfl (gp_tp rfl (gp_cons (gp_v sc__law_is_table_right.nd rfl) (gp_cons (gp_v sc__law_is_table_right.nd rfl) (gp_nil)))) (it_zip T.b_zip (ev_v (i := 5) rfl rfl (ev_str (⟨_, _, _, _, rfl, rfl, rfl, rfl, ⟨(twoW gs at1), (fun p => .tup [.str (outW p.1 n), .str (chL p.2)]), (fun _ ρ3 ω3 => ω3 = ω2 ∧ ∃ x6 x7 x8, ρ3 = [some (.tup ((List.range n).map fun i => .tup [.str (outW (ledS (0, 1 <<< i) gs) n), .str (outW (ledS (0, 1 <<< (6 + i)) gs) n)])), some (.tup (gs.map gtD)), some (.int (n : Int)), some (.lst (ψs.map fun ψ => .lst (stL n ψ))), some (.int (at1 : Int)), some (.tup [.str (outW (ledS (0, 1 <<< at1) gs) n), .str (outW (ledS (0, 1 <<< (6 + at1)) gs) n)]), x6, x7, x8]), rfl, (fun _ _ _ _ => ⟨rfl, rfl⟩), ?_, ?_, ?_⟩⟩)))))
        · exact ⟨rfl, _, _, _, rfl⟩
        · rintro i p1 ρ2 ω2 hx ⟨rfl, x6, x7, x8, rfl⟩
          have hp1 := List.mem_of_getElem? hx
          refine ⟨_, rfl, ?_⟩
          refine ws_one (w1_if (et_not (et_val (ev_cb T.b_all bb_all (ea_cons (ev_frz (el_lc (p := .nm 8) [("state", 8)] rfl sc__law_is_table_right.nd (blkOk_by (N := N__law_is_table_right) (sc := defScope s__law_is_table_right) (by decide +kernel)) (fun _ _ _ _ _ => gp_v sc__law_is_table_right.nd rfl) (by decide) (lc_map (it_any (ev_v (i := 3) rfl rfl (⟨_, _, rfl, rfl, ⟨ψs, (fun ψ => .lst (stL n ψ)), (fun _ => .bl true), rfl, rfl, (ln_ok (by omega)), fun ψ hx => ⟨_, rfl, fun _ _ _ _ _ => ev_call F__law_acts_so (hr.mono (by decide)) (ea_cons (ev_v (i := 8) rfl rfl (ea_cons (ev_v (i := 1) rfl rfl (ea_cons (ev_bin (ev_str (ev_call F__law_single (hr.mono (by decide)) (ea_cons (ev_v (i := 2) rfl rfl (ea_cons (ev_v (i := 4) rfl rfl (ea_cons (ev_v (i := 7) rfl rfl (ea_nil (⟨rfl, ⟨_, _, _, rfl, (by first | decide | omega | assumption | (rw [sgl_len _ hat]; omega)), (by first | decide | omega | assumption | (rw [sgl_len _ hat]; omega)), ⟨_, _, _, rfl, rfl, (add_plus (by rw [sgl_len _ hat]; omega)), ea_cons (ev_v (i := 6) rfl rfl (ea_nil (⟨rfl, ⟨_, _, _, _, _, _, _, rfl, sgl_len _ hat, lets_len _ _, (by first | decide | omega | assumption | (rw [sgl_len _ hat]; omega)), (by first | decide | omega | assumption | (rw [sgl_len _ hat]; omega)), (by first | decide | omega | assumption | (rw [sgl_len _ hat]; omega)), two_ok hn1 hn6 hg hat hp1 ψ, ⟨rfl, rfl⟩⟩⟩)))⟩⟩⟩))))))))))))))))⟩, ea_nil (⟨_, .allM rfl, ⟨_, _, rfl, rfl, ⟨fun h3 => ?_, fun h3 => ?_⟩⟩⟩)⟩⟩)))))))))))
          · -- then
            exact absurd h3 (by rw [all_true]; decide)
          · -- else
            refine ws_nil ?_
            exact ⟨rfl, _, _, _, rfl⟩
        · rintro ρ2 ω2 ⟨rfl, x6, x7, x8, rfl⟩
          exact ⟨rfl, _, _, _, _, _, rfl⟩
    · rintro ρ2 ω2 ⟨rfl, x4, x5, x6, x7, x8, rfl⟩
      refine ws_one (w1_ret (ev_bl (hQ)))


def Sp_table : Spc := fun ds ω Q => ∃ (w : Nat) (gs : List Gt), ds = [.int (w : Int), .tup (gs.map gtD)] ∧ 1 ≤ w ∧ w ≤ 6 ∧ gs.length ≤ 400 ∧ (∀ g ∈ gs, g.ok w) ∧ Q (.tup ((List.range w).map fun i => .tup [.str (outW (ledS (0, 1 <<< i) gs) w), .str (outW (ledS (0, 1 <<< (6 + i)) gs) w)])) ω
theorem ok_table {f : Addr} {fd : FuncData} (F : Fun K "table" "table" s_table f fd) (hm : mg "table" = some (.ref f)) (b : Binds K fd ["wires", "gates"] []) (T : Tx K mg) (F_word_of : Fn P w K mg base 3 "word_of" 2 Sp_word_of) (F_check_number : Fn P w K mg base 2 "check_number" 3 Sp_check_number) (F_check_gates : Fn P w K mg base 4 "check_gates" 2 Sp_check_gates) (F_rows_by : Fn P w K mg base 5 "rows_by" 2 Sp_rows_by) : Fn P w K mg base 6 "table" 2 Sp_table := by
  refine fn_mk' F hm b sc_table rfl fun cdv A outer sh H E hr ds ω Qd hn hS => ?_
  obtain ⟨w, gs, rfl, h1, hw, hgl, hg, hQ⟩ := hS
  have hu := hr.units
  refine ws_cons (w1_expr (ev_call F_check_number (hr.mono (by decide)) (ea_cons (ev_v (i := 0) rfl rfl (ea_cons (ev_n 1 rfl (ea_cons (ev_gv (d := .int ((6 : Nat) : Int)) T.c_MOST_WIRES rfl (ea_nil (⟨rfl, ⟨_, _, _, rfl, (by first | decide | omega | assumption | exact (fun g h => Gt.ok_mono (hg g h) hw)), (by first | decide | omega | assumption | exact (fun g h => Gt.ok_mono (hg g h) hw)), ?_⟩⟩))))))))))
  refine ws_cons (w1_expr (ev_call F_check_gates (hr.mono (by decide)) (ea_cons (ev_v (i := 1) rfl rfl (ea_cons (ev_v (i := 0) rfl rfl (ea_nil (⟨rfl, ⟨_, _, rfl, (by first | decide | omega | assumption | exact (fun g h => Gt.ok_mono (hg g h) hw)), (by first | decide | omega | assumption | exact (fun g h => Gt.ok_mono (hg g h) hw)), (by first | decide | omega | assumption | exact (fun g h => Gt.ok_mono (hg g h) hw)), ?_⟩⟩))))))))
  refine ws_one (w1_ret (ev_ct T.b_tuple bb_tuple (ea_cons (ev_frz (el_lc (p := .tp [.nm 2, .nm 3]) [("x", 2), ("z", 3)] rfl sc_table.nd (blkOk_by (N := N_table) (sc := defScope s_table) (by decide +kernel)) (fun _ _ _ _ _ => gp_tp rfl (gp_cons (gp_v sc_table.nd rfl) (gp_cons (gp_v sc_table.nd rfl) (gp_nil)))) (by decide) (lc_map (it_any (ev_call F_rows_by (hr.mono (by decide)) (ea_cons (ev_v (i := 0) rfl rfl (ea_cons (ev_v (i := 1) rfl rfl (ea_nil (⟨rfl, ⟨_, _, rfl, (by first | decide | omega | assumption | exact (fun g h => Gt.ok_mono (hg g h) hw)), (by first | decide | omega | assumption | exact (fun g h => Gt.ok_mono (hg g h) hw)), ⟨_, _, rfl, rfl, ⟨(List.range w), (fun i => .tup [sgD (ledS (0, 1 <<< i) gs), sgD (ledS (0, 1 <<< (6 + i)) gs)]), (fun i => .tup [.str (outW (ledS (0, 1 <<< i) gs) w), .str (outW (ledS (0, 1 <<< (6 + i)) gs) w)]), rfl, rfl, (by rw [List.length_range]; exact ln_ok (by omega)), fun i hx => ⟨_, rfl, fun _ _ _ _ _ => ev_tup (ea_cons (ev_call F_word_of (hr.mono (by decide)) (ea_cons (ev_v (i := 2) rfl rfl (ea_cons (ev_v (i := 0) rfl rfl (ea_nil (⟨rfl, ⟨_, _, _, rfl, (by first | decide | omega | assumption | exact (fun g h => Gt.ok_mono (hg g h) hw)), ea_cons (ev_call F_word_of (hr.mono (by decide)) (ea_cons (ev_v (i := 3) rfl rfl (ea_cons (ev_v (i := 0) rfl rfl (ea_nil (⟨rfl, ⟨_, _, _, rfl, (by first | decide | omega | assumption | exact (fun g h => Gt.ok_mono (hg g h) hw)), ea_nil (⟨Nat.le_of_ble_eq_true rfl, ⟨rfl, rfl⟩⟩)⟩⟩)))))))⟩⟩))))))))⟩, ea_nil (⟨_, .tupL, hQ⟩)⟩⟩⟩⟩))))))))))))))


def Sp__law_right : Spc := fun ds ω Q => ∃ k : Nat, ds = [.cell k] ∧ Pot k 0 ω ∧ ∀ ω', Q (.bl true) ω'
theorem ok__law_right {f : Addr} {fd : FuncData} (F : Fun K "_law_right" "_law_right" s__law_right f fd) (hm : mg "_law_right" = some (.ref f)) (b : Binds K fd ["pot"] []) (T : Tx K mg) (F_led : Fn P w K mg base 5 "led" 2 Sp_led) (F_back : Fn P w K mg base 5 "back" 2 Sp_back) (F_table : Fn P w K mg base 6 "table" 2 Sp_table) (F__law_take : Fn P w K mg base 1 "_law_take" 2 Sp__law_take) (F__law_is_word : Fn P w K mg base 2 "_law_is_word" 2 Sp__law_is_word) (F__law_any_word : Fn P w K mg base 4 "_law_any_word" 2 Sp__law_any_word) (F__law_power : Fn P w K mg base 1 "_law_power" 1 Sp__law_power) (F__law_any_state : Fn P w K mg base 2 "_law_any_state" 2 Sp__law_any_state) (F__law_unit : Fn P w K mg base 2 "_law_unit" 2 Sp__law_unit) (F__law_units : Fn P w K mg base 3 "_law_units" 1 Sp__law_units) (F__law_gates : Fn P w K mg base 4 "_law_gates" 2 Sp__law_gates) (F__law_acts_so : Fn P w K mg base 4 "_law_acts_so" 4 Sp__law_acts_so) (F__law_is_table_right : Fn P w K mg base 5 "_law_is_table_right" 4 Sp__law_is_table_right) : Fn P w K mg base 7 "_law_right" 1 Sp__law_right := by
  refine fn_mk' F hm b sc__law_right rfl fun cdv A outer sh H E hr ds ω Qd hn hS => ?_
  obtain ⟨k, rfl, hp, hQ⟩ := hS
  have hu := hr.units
  refine ws_cons (w1_let (i := 1) sc__law_right.nd rfl (ev_bin (ev_n 1 rfl (ev_call F__law_take (hr.mono (by decide)) (ea_cons (ev_v (i := 0) rfl rfl (ea_cons (ev_n 4 rfl (ea_nil (⟨rfl, ⟨_, _, _, rfl, hp, (by omega), (by first | decide | omega | assumption), (by first | decide | omega | assumption), fun r1 ω1 hr1 ht1 => ⟨_, _, _, rfl, rfl, .addN, ?_⟩⟩⟩))))))))))
  obtain ⟨w, hw⟩ : ∃ w, w = 1 + r1 := ⟨_, rfl⟩
  rw [← hw]
  have h1 : 1 ≤ w := by omega
  have h6 : w ≤ 6 := by omega
  have hN := pow6 h6
  clear hw
  refine ws_cons (w1_tup (p := .tp [.nm 2, .nm 3]) (gp_tp rfl (gp_cons (gp_v sc__law_right.nd rfl) (gp_cons (gp_v sc__law_right.nd rfl) (gp_nil)))) (ev_tup (ea_cons (ev_call F__law_gates (hr.mono (by decide)) (ea_cons (ev_v (i := 0) rfl rfl (ea_cons (ev_v (i := 1) rfl rfl (ea_nil (⟨rfl, ⟨_, _, _, rfl, ht1.pot, (by first | decide | omega | assumption), (by first | decide | omega | assumption), (by first | decide | omega | assumption), fun gs2 ω2 hl2 hg2 ht2 => ea_cons (ev_frz (el_lst (ea_cons (ev_call F__law_any_state (hr.mono (by decide)) (ea_cons (ev_v (i := 0) rfl rfl (ea_cons (ev_v (i := 1) rfl rfl (ea_nil (⟨rfl, ⟨_, _, _, rfl, ht2.pot, (by first | decide | omega | assumption), (by first | decide | omega | assumption), fun ψ3 ω3 ht3 => ea_cons (ev_call F__law_any_state (hr.mono (by decide)) (ea_cons (ev_v (i := 0) rfl rfl (ea_cons (ev_v (i := 1) rfl rfl (ea_nil (⟨rfl, ⟨_, _, _, rfl, ht3.pot, (by first | decide | omega | assumption), (by first | decide | omega | assumption), fun ψ4 ω4 ht4 => ea_nil (⟨Nat.le_of_ble_eq_true rfl, ea_nil (⟨Nat.le_of_ble_eq_true rfl, ⟨_, rfl, ?_⟩⟩)⟩)⟩⟩)))))))⟩⟩))))))))))⟩⟩))))))))))
  refine ws_cons (w1_letJ (fun d ω' => ∃ ψs : List Sf, d = .lst (ψs.map fun ψ => .lst (stL w ψ)) ∧ ψs.length ≤ 66 ∧ PotTo k 600 ω ω') (i := 3) sc__law_right.nd rfl (ev_bin (ev_v (i := 3) rfl rfl (ev_ife (et_cmp hu (ev_v (i := 1) rfl rfl (ev_n 3 rfl (⟨_, _, _, rfl, rfl, .ltN, ⟨fun h => ev_call F__law_units (hr.mono (by decide)) (ea_cons (ev_v (i := 1) rfl rfl (ea_nil (⟨rfl, ⟨_, rfl, (by first | decide | omega | assumption), ⟨_, _, _, rfl, rfl, .addL (by rw [List.length_map, List.length_range]; show 2 + _ ≤ _; exact ln_ok (by omega)), ⟨ψ3 :: ψ4 :: (List.range (2 ^ w)).map unitF, (by rw [List.map_cons, List.map_cons, List.map_map]; rfl), (by rw [List.length_cons, List.length_cons, List.length_map, List.length_range]; omega), (((ht1.trans ht2).trans ht3).trans ht4).mono (by omega)⟩⟩⟩⟩)))), fun h => ev_frz (el_lst (ea_cons (ev_call F__law_unit (hr.mono (by decide)) (ea_cons (ev_v (i := 1) rfl rfl (ea_cons (ev_call F__law_take (hr.mono (by decide)) (ea_cons (ev_v (i := 0) rfl rfl (ea_cons (ev_call F__law_power (hr.mono (by decide)) (ea_cons (ev_v (i := 1) rfl rfl (ea_nil (⟨rfl, ⟨_, rfl, (by first | decide | omega | assumption), ea_nil (⟨rfl, ⟨_, _, _, rfl, ht4.pot, (by first | decide | omega | assumption), (by first | decide | omega | assumption), (by first | decide | omega | assumption), fun r6 ω6 hr6 ht6 => ea_nil (⟨rfl, ⟨_, _, rfl, (by first | decide | omega | assumption), ea_nil (⟨Nat.le_of_ble_eq_true rfl, ⟨_, _, _, rfl, rfl, .addL (Nat.le_of_ble_eq_true rfl), ⟨[ψ3, ψ4, unitF r6], rfl, Nat.le_of_ble_eq_true rfl, ((((ht1.trans ht2).trans ht3).trans ht4).trans ht6).mono (by omega)⟩⟩⟩)⟩⟩)⟩⟩)⟩⟩)))))))))))))))⟩⟩))))))) ?_)
  rintro _ ω5 ⟨ψs, rfl, hψ, ht5⟩
  refine ws_cons (w1_run (p := .nm 4) PassesOwn.never rfl (gp_v sc__law_right.nd rfl) (it_rng1 T.b_range (ev_n 3 rfl (⟨_, rfl, (by first | decide | omega | assumption), (by first | decide | omega | assumption), ⟨List.range 3, (fun i : Nat => .int (i : Int)), (fun i ρ2 ω2 => PotTo k (600 + 10 * i) ω ω2 ∧ ∃ x4 x5 x6 x7 x8, ρ2 = [some (.cell k), some (.int (w : Int)), some (.tup (gs2.map gtD)), some (.lst (ψs.map fun ψ => .lst (stL w ψ))), x4, x5, x6, x7, x8]), rgD_0 3, (fun _ _ _ _ => trivial), ?_, ?_, ?_⟩⟩))))
  · exact ⟨ht5, _, _, _, _, _, rfl⟩
  · rintro i x ρ2 ω2 hx ⟨htj, x4, x5, x6, x7, x8, rfl⟩
    have hi : i < 3 := by have := (List.getElem?_eq_some_iff.mp hx).1; simpa using this
    refine ⟨_, rfl, ?_⟩
    refine ws_cons (w1_let (i := 5) sc__law_right.nd rfl (ev_call F__law_any_word (hr.mono (by decide)) (ea_cons (ev_v (i := 0) rfl rfl (ea_cons (ev_v (i := 1) rfl rfl (ea_nil (⟨rfl, ⟨_, _, _, rfl, htj.pot, (by first | decide | omega | assumption), (by first | decide | omega | assumption), fun g7 l7 ω7 hl7 ht7 => ?_⟩⟩))))))))
    subst hl7
    refine ws_cons (w1_tup (p := .tp [.nm 6, .nm 7]) (gp_tp rfl (gp_cons (gp_v sc__law_right.nd rfl) (gp_cons (gp_v sc__law_right.nd rfl) (gp_nil)))) (ev_tup (ea_cons (ev_call F_led (hr.mono (by decide)) (ea_cons (ev_v (i := 5) rfl rfl (ea_cons (ev_v (i := 2) rfl rfl (ea_nil (⟨rfl, ⟨_, _, _, rfl, h1, h6, (by omega), hg2, ea_cons (ev_call F_back (hr.mono (by decide)) (ea_cons (ev_v (i := 5) rfl rfl (ea_cons (ev_v (i := 2) rfl rfl (ea_nil (⟨rfl, ⟨_, _, _, rfl, h1, h6, (by omega), hg2, ea_nil (⟨Nat.le_of_ble_eq_true rfl, ⟨_, rfl, ?_⟩⟩)⟩⟩)))))))⟩⟩))))))))))
    refine ws_cons (w1_ifT false (et_not (et_val (ev_cb T.b_all bb_all (ea_cons (ev_frz (el_lc (p := .nm 8) [("state", 8)] rfl sc__law_right.nd (blkOk_by (N := N__law_right) (sc := defScope s__law_right) (by decide +kernel)) (fun _ _ _ _ _ => gp_v sc__law_right.nd rfl) (by decide) (lc_map (it_any (ev_v (i := 3) rfl rfl (⟨_, _, rfl, rfl, ⟨ψs, (fun ψ => .lst (stL l7.length ψ)), (fun _ => .bl true), rfl, rfl, (ln_ok (by omega)), fun ψ hx => ⟨_, rfl, fun _ _ _ _ _ => ev_call F__law_acts_so (hr.mono (by decide)) (ea_cons (ev_v (i := 8) rfl rfl (ea_cons (ev_v (i := 2) rfl rfl (ea_cons (ev_v (i := 5) rfl rfl (ea_cons (ev_v (i := 6) rfl rfl (ea_nil (⟨rfl, ⟨_, _, _, _, _, _, _, rfl, rfl, lets_len _ _, h1, h6, hg2, leads h1 h6 hg2 rfl ψ, ⟨rfl, rfl⟩⟩⟩))))))))))⟩, ea_nil (⟨_, .allM rfl, ⟨_, _, rfl, rfl, (by exact ⟨by rw [all_true]; rfl, rfl⟩)⟩⟩)⟩⟩)))))))))) (fun h => absurd h (by decide)) (fun _ => ?_))
    refine ws_nil ?_
    refine ws_one (w1_ifT false (et_w (ew_or (et_not (et_val (ev_call F__law_is_word (hr.mono (by decide)) (ea_cons (ev_v (i := 7) rfl rfl (ea_cons (ev_v (i := 1) rfl rfl (ea_nil (⟨rfl, ⟨_, _, _, rfl, (by rw [lets_len]; omega), ⟨_, _, rfl, rfl, ⟨fun a1 => ew_or1 (et_not (et_val (ev_cb T.b_all bb_all (ea_cons (ev_frz (el_lc (p := .nm 8) [("state", 8)] rfl sc__law_right.nd (blkOk_by (N := N__law_right) (sc := defScope s__law_right) (by decide +kernel)) (fun _ _ _ _ _ => gp_v sc__law_right.nd rfl) (by decide) (lc_map (it_any (ev_v (i := 3) rfl rfl (⟨_, _, rfl, rfl, ⟨ψs, (fun ψ => .lst (stL l7.length ψ)), (fun _ => .bl true), rfl, rfl, (ln_ok (by omega)), fun ψ hx => ⟨_, rfl, fun _ _ _ _ _ => ev_call F__law_acts_so (hr.mono (by decide)) (ea_cons (ev_v (i := 8) rfl rfl (ea_cons (ev_v (i := 2) rfl rfl (ea_cons (ev_v (i := 7) rfl rfl (ea_cons (ev_v (i := 5) rfl rfl (ea_nil (⟨rfl, ⟨_, _, _, _, _, _, _, rfl, lets_len _ _, rfl, h1, h6, hg2, backs h1 h6 hg2 rfl ψ, ⟨rfl, rfl⟩⟩⟩))))))))))⟩, ea_nil (⟨_, .allM rfl, ⟨_, _, rfl, rfl, (by first | (exfalso; rw [lets_len] at a1; simp at a1; done) | exact ⟨by rw [all_true]; rfl, rfl⟩)⟩⟩)⟩⟩)))))))))), fun a1 => (by first | (exfalso; rw [lets_len] at a1; simp at a1; done) | exact ⟨by rw [all_true]; rfl, rfl⟩)⟩⟩⟩⟩))))))))))) (fun h => absurd h (by decide)) (fun _ => ?_))
    exact ws_nil ⟨(htj.trans ht7).mono (by omega), _, _, _, _, _, rfl⟩
  · rintro ρ2 ω2 ⟨htj, x4, x5, x6, x7, x8, rfl⟩
    refine ws_one (w1_ret (ev_call F__law_is_table_right (hr.mono (by decide)) (ea_cons (ev_call F_table (hr.mono (by decide)) (ea_cons (ev_v (i := 1) rfl rfl (ea_cons (ev_v (i := 2) rfl rfl (ea_nil (⟨rfl, ⟨_, _, rfl, h1, h6, (by omega), hg2, ea_cons (ev_v (i := 2) rfl rfl (ea_cons (ev_v (i := 1) rfl rfl (ea_cons (ev_v (i := 3) rfl rfl (ea_nil (⟨rfl, ⟨_, _, _, rfl, h1, h6, (by omega), hg2, (hQ _)⟩⟩)))))))⟩⟩))))))))))

theorem ok_law {f : Addr} {fd : FuncData} (F : Fun K "law" "law" s_law f fd) (hm : mg "law" = some (.ref f)) (b : Binds K fd ["script"] []) (T : Tx K mg) (F__law_pot : Fn P w K mg base 1 "_law_pot" 2 Sp__law_pot) (F__law_cells : Fn P w K mg base 1 "_law_cells" 2 Sp__law_cells) (F__law_right : Fn P w K mg base 7 "_law_right" 1 Sp__law_right) : FnOk P w K mg base CX0 8 f fd ["script"] (spD K 1 LawS) := by
  refine fn_ok' F sc_law rfl fun cdv A outer sh H E hr ds ω Qd hn hS => ?_
  obtain ⟨ns, rfl, hns, hQ⟩ := hS
  have hu := hr.units
  refine ws_one (w1_ret (ev_cb T.b_all bb_all (ea_cons (ev_frz (el_lc (p := .nm 1) [("place", 1)] rfl sc_law.nd (blkOk_by (N := N_law) (sc := defScope s_law) (by decide +kernel)) (fun _ _ _ _ _ => gp_v sc_law.nd rfl) (by decide) (lc_run (it_any (ev_call F__law_cells (hr.mono (by decide)) (ea_cons (ev_v (i := 0) rfl rfl (ea_cons (ev_n 2 rfl (ea_nil (⟨rfl, ⟨_, _, rfl, (by decide), (by decide), fun m hm => ⟨_, _, rfl, rfl, ⟨List.range m, (fun i : Nat => .int (i : Int)), (fun _ _ => True), (fun b : Bool => b = true), (fun b => .bl b), rfl, (fun _ _ _ => rfl), (by rw [List.length_range]; exact ln_ok (by omega)), trivial, fun i x ω2 hx hJ => ⟨_, rfl, fun _ _ _ _ _ => ev_call F__law_right (hr.mono (by decide)) (ea_cons (ev_call F__law_pot (hr.mono (by decide)) (ea_cons (ev_v (i := 0) rfl rfl (ea_cons (ev_v (i := 1) rfl rfl (ea_nil (⟨rfl, ⟨_, _, rfl, (by have h0 := (List.getElem?_eq_some_iff.mp hx).1; have h2 := List.mem_range.mp (List.mem_of_getElem? hx); omega), fun a c ha hc hc2 => ea_nil (⟨rfl, ⟨_, rfl, ⟨a, c, 0, get_new, ha, hc, hc2, by decide, by decide⟩, fun _ => ⟨true, rfl, rfl, trivial⟩⟩⟩)⟩⟩))))))))⟩, fun bs ωb hbl hbp hJ => ea_nil (⟨_, .allM rfl, ?_⟩)⟩⟩⟩⟩))))))))))))))
  have e : (bs.all fun b => b) = true := by
    rw [List.all_eq_true]
    exact hbp
  show Qd (.bl (bs.all fun b => b)) _
  rw [e]
  exact hQ _

end
theorem all_mk {l : PySem.W.OpenLaw} {w : World} {K : PySem.W.Frag} {h : Heap} {mg : Str → Option Value} {fa : Addr} (X : K.In h) (G : h.Ns mainGlobals mg) (hfa : mg "law" = some (.ref fa))
    {t_IDLE : Tok}
    {t_TO_X : Tok}
    {t_TO_Y : Tok}
    {t_TO_Z : Tok}
    {t_PLUS : Tok}
    {t_MINUS : Tok}
    {t_MOST_WIRES : Tok}
    {t_LETTERS : Tok}
    {t_SIGNS : Tok}
    {t_DIGITS : Tok}
    {t_BLANK : Tok}
    {A_SINGLES : Addr} {od_SINGLES : Option Addr} {n_n_SINGLES : Nat} {sl_SINGLES : Array (Option Value)} {t0_SINGLES t1_SINGLES t2_SINGLES t3_SINGLES : Tok}
    {A_DOUBLES : Addr} {od_DOUBLES : Option Addr} {n_n_DOUBLES : Nat} {sl_DOUBLES : Array (Option Value)} {t0_DOUBLES t1_DOUBLES t2_DOUBLES : Tok}
    {t_MOST_GATES : Tok}
    {t_PAIR : Tok}
    {t_QUARTER : Tok}
    {t_HALF : Tok}
    {A_mark_of : Addr} {od_mark_of an_mark_of : Option Addr} {sl_mark_of : Array (Option Value)} {oc_mark_of kV_mark_of dc_mark_of pm_mark_of cd_mark_of ct_mark_of : Value}
    {A_letter_at : Addr} {od_letter_at an_letter_at : Option Addr} {sl_letter_at : Array (Option Value)} {oc_letter_at kV_letter_at dc_letter_at pm_letter_at cd_letter_at ct_letter_at : Value}
    {A_is_integer : Addr} {od_is_integer an_is_integer : Option Addr} {sl_is_integer : Array (Option Value)} {oc_is_integer kV_is_integer dc_is_integer pm_is_integer cd_is_integer ct_is_integer : Value}
    {A_is_tuple : Addr} {od_is_tuple an_is_tuple : Option Addr} {sl_is_tuple : Array (Option Value)} {oc_is_tuple kV_is_tuple dc_is_tuple pm_is_tuple cd_is_tuple ct_is_tuple : Value}
    {A_is_letters : Addr} {od_is_letters an_is_letters : Option Addr} {sl_is_letters : Array (Option Value)} {oc_is_letters kV_is_letters dc_is_letters pm_is_letters cd_is_letters ct_is_letters : Value}
    {A_is_wire_word : Addr} {od_is_wire_word an_is_wire_word : Option Addr} {sl_is_wire_word : Array (Option Value)} {oc_is_wire_word kV_is_wire_word dc_is_wire_word pm_is_wire_word cd_is_wire_word ct_is_wire_word : Value}
    {A_wires_of : Addr} {od_wires_of an_wires_of : Option Addr} {sl_wires_of : Array (Option Value)} {oc_wires_of kV_wires_of dc_wires_of pm_wires_of cd_wires_of ct_wires_of : Value}
    {A_bit_x : Addr} {od_bit_x an_bit_x : Option Addr} {sl_bit_x : Array (Option Value)} {oc_bit_x kV_bit_x dc_bit_x pm_bit_x cd_bit_x ct_bit_x : Value}
    {A_bit_z : Addr} {od_bit_z an_bit_z : Option Addr} {sl_bit_z : Array (Option Value)} {oc_bit_z kV_bit_z dc_bit_z pm_bit_z cd_bit_z ct_bit_z : Value}
    {A_with_bits : Addr} {od_with_bits an_with_bits : Option Addr} {sl_with_bits : Array (Option Value)} {oc_with_bits kV_with_bits dc_with_bits pm_with_bits cd_with_bits ct_with_bits : Value}
    {A_turned_back : Addr} {od_turned_back an_turned_back : Option Addr} {sl_turned_back : Array (Option Value)} {oc_turned_back kV_turned_back dc_turned_back pm_turned_back cd_turned_back ct_turned_back : Value}
    {A_single_marks : Addr} {od_single_marks an_single_marks : Option Addr} {sl_single_marks : Array (Option Value)} {oc_single_marks kV_single_marks dc_single_marks pm_single_marks cd_single_marks ct_single_marks : Value}
    {A__law_pot : Addr} {od__law_pot an__law_pot : Option Addr} {sl__law_pot : Array (Option Value)} {oc__law_pot kV__law_pot dc__law_pot pm__law_pot cd__law_pot ct__law_pot : Value}
    {A__law_take : Addr} {od__law_take an__law_take : Option Addr} {sl__law_take : Array (Option Value)} {oc__law_take kV__law_take dc__law_take pm__law_take cd__law_take ct__law_take : Value}
    {A__law_cells : Addr} {od__law_cells an__law_cells : Option Addr} {sl__law_cells : Array (Option Value)} {oc__law_cells kV__law_cells dc__law_cells pm__law_cells cd__law_cells ct__law_cells : Value}
    {A__law_are_letters : Addr} {od__law_are_letters an__law_are_letters : Option Addr} {sl__law_are_letters : Array (Option Value)} {oc__law_are_letters kV__law_are_letters dc__law_are_letters pm__law_are_letters cd__law_are_letters ct__law_are_letters : Value}
    {A__law_read : Addr} {od__law_read an__law_read : Option Addr} {sl__law_read : Array (Option Value)} {oc__law_read kV__law_read dc__law_read pm__law_read cd__law_read ct__law_read : Value}
    {A__law_single : Addr} {od__law_single an__law_single : Option Addr} {sl__law_single : Array (Option Value)} {oc__law_single kV__law_single dc__law_single pm__law_single cd__law_single ct__law_single : Value}
    {A__law_power : Addr} {od__law_power an__law_power : Option Addr} {sl__law_power : Array (Option Value)} {oc__law_power kV__law_power dc__law_power pm__law_power cd__law_power ct__law_power : Value}
    {A__law_spun : Addr} {od__law_spun an__law_spun : Option Addr} {sl__law_spun : Array (Option Value)} {oc__law_spun kV__law_spun dc__law_spun pm__law_spun cd__law_spun ct__law_spun : Value}
    {A__law_plus : Addr} {od__law_plus an__law_plus : Option Addr} {sl__law_plus : Array (Option Value)} {oc__law_plus kV__law_plus dc__law_plus pm__law_plus cd__law_plus ct__law_plus : Value}
    {A_letters_of : Addr} {od_letters_of an_letters_of : Option Addr} {sl_letters_of : Array (Option Value)} {oc_letters_of kV_letters_of dc_letters_of pm_letters_of cd_letters_of ct_letters_of : Value}
    {A_signed_of : Addr} {od_signed_of an_signed_of : Option Addr} {sl_signed_of : Array (Option Value)} {oc_signed_of kV_signed_of dc_signed_of pm_signed_of cd_signed_of ct_signed_of : Value}
    {A_is_word : Addr} {od_is_word an_is_word : Option Addr} {sl_is_word : Array (Option Value)} {oc_is_word kV_is_word dc_is_word pm_is_word cd_is_word ct_is_word : Value}
    {A_check_number : Addr} {od_check_number an_check_number : Option Addr} {sl_check_number : Array (Option Value)} {oc_check_number kV_check_number dc_check_number pm_check_number cd_check_number ct_check_number : Value}
    {A_is_gate : Addr} {od_is_gate an_is_gate : Option Addr} {sl_is_gate : Array (Option Value)} {oc_is_gate kV_is_gate dc_is_gate pm_is_gate cd_is_gate ct_is_gate : Value}
    {A_lead_one : Addr} {od_lead_one an_lead_one : Option Addr} {sl_lead_one : Array (Option Value)} {oc_lead_one kV_lead_one dc_lead_one pm_lead_one cd_lead_one ct_lead_one : Value}
    {A_lead_two : Addr} {od_lead_two an_lead_two : Option Addr} {sl_lead_two : Array (Option Value)} {oc_lead_two kV_lead_two dc_lead_two pm_lead_two cd_lead_two ct_lead_two : Value}
    {A__law_of : Addr} {od__law_of an__law_of : Option Addr} {sl__law_of : Array (Option Value)} {oc__law_of kV__law_of dc__law_of pm__law_of cd__law_of ct__law_of : Value}
    {A__law_some : Addr} {od__law_some an__law_some : Option Addr} {sl__law_some : Array (Option Value)} {oc__law_some kV__law_some dc__law_some pm__law_some cd__law_some ct__law_some : Value}
    {A__law_is_word : Addr} {od__law_is_word an__law_is_word : Option Addr} {sl__law_is_word : Array (Option Value)} {oc__law_is_word kV__law_is_word dc__law_is_word pm__law_is_word cd__law_is_word ct__law_is_word : Value}
    {A__law_acted : Addr} {od__law_acted an__law_acted : Option Addr} {sl__law_acted : Array (Option Value)} {oc__law_acted kV__law_acted dc__law_acted pm__law_acted cd__law_acted ct__law_acted : Value}
    {A__law_gate_on : Addr} {od__law_gate_on an__law_gate_on : Option Addr} {sl__law_gate_on : Array (Option Value)} {oc__law_gate_on kV__law_gate_on dc__law_gate_on pm__law_gate_on cd__law_gate_on ct__law_gate_on : Value}
    {A__law_any_state : Addr} {od__law_any_state an__law_any_state : Option Addr} {sl__law_any_state : Array (Option Value)} {oc__law_any_state kV__law_any_state dc__law_any_state pm__law_any_state cd__law_any_state ct__law_any_state : Value}
    {A__law_unit : Addr} {od__law_unit an__law_unit : Option Addr} {sl__law_unit : Array (Option Value)} {oc__law_unit kV__law_unit dc__law_unit pm__law_unit cd__law_unit ct__law_unit : Value}
    {A_word_of : Addr} {od_word_of an_word_of : Option Addr} {sl_word_of : Array (Option Value)} {oc_word_of kV_word_of dc_word_of pm_word_of cd_word_of ct_word_of : Value}
    {A_is_any_word : Addr} {od_is_any_word an_is_any_word : Option Addr} {sl_is_any_word : Array (Option Value)} {oc_is_any_word kV_is_any_word dc_is_any_word pm_is_any_word cd_is_any_word ct_is_any_word : Value}
    {A_is_gates : Addr} {od_is_gates an_is_gates : Option Addr} {sl_is_gates : Array (Option Value)} {oc_is_gates kV_is_gates dc_is_gates pm_is_gates cd_is_gates ct_is_gates : Value}
    {A_lead : Addr} {od_lead an_lead : Option Addr} {sl_lead : Array (Option Value)} {oc_lead kV_lead dc_lead pm_lead cd_lead ct_lead : Value}
    {A__law_gate : Addr} {od__law_gate an__law_gate : Option Addr} {sl__law_gate : Array (Option Value)} {oc__law_gate kV__law_gate dc__law_gate pm__law_gate cd__law_gate ct__law_gate : Value}
    {A__law_any_letters : Addr} {od__law_any_letters an__law_any_letters : Option Addr} {sl__law_any_letters : Array (Option Value)} {oc__law_any_letters kV__law_any_letters dc__law_any_letters pm__law_any_letters cd__law_any_letters ct__law_any_letters : Value}
    {A__law_gates_on : Addr} {od__law_gates_on an__law_gates_on : Option Addr} {sl__law_gates_on : Array (Option Value)} {oc__law_gates_on kV__law_gates_on dc__law_gates_on pm__law_gates_on cd__law_gates_on ct__law_gates_on : Value}
    {A__law_units : Addr} {od__law_units an__law_units : Option Addr} {sl__law_units : Array (Option Value)} {oc__law_units kV__law_units dc__law_units pm__law_units cd__law_units ct__law_units : Value}
    {A_check_gates : Addr} {od_check_gates an_check_gates : Option Addr} {sl_check_gates : Array (Option Value)} {oc_check_gates kV_check_gates dc_check_gates pm_check_gates cd_check_gates ct_check_gates : Value}
    {A_check_any_word : Addr} {od_check_any_word an_check_any_word : Option Addr} {sl_check_any_word : Array (Option Value)} {oc_check_any_word kV_check_any_word dc_check_any_word pm_check_any_word cd_check_any_word ct_check_any_word : Value}
    {A_led_signed : Addr} {od_led_signed an_led_signed : Option Addr} {sl_led_signed : Array (Option Value)} {oc_led_signed kV_led_signed dc_led_signed pm_led_signed cd_led_signed ct_led_signed : Value}
    {A__law_any_word : Addr} {od__law_any_word an__law_any_word : Option Addr} {sl__law_any_word : Array (Option Value)} {oc__law_any_word kV__law_any_word dc__law_any_word pm__law_any_word cd__law_any_word ct__law_any_word : Value}
    {A__law_gates : Addr} {od__law_gates an__law_gates : Option Addr} {sl__law_gates : Array (Option Value)} {oc__law_gates kV__law_gates dc__law_gates pm__law_gates cd__law_gates ct__law_gates : Value}
    {A__law_acts_so : Addr} {od__law_acts_so an__law_acts_so : Option Addr} {sl__law_acts_so : Array (Option Value)} {oc__law_acts_so kV__law_acts_so dc__law_acts_so pm__law_acts_so cd__law_acts_so ct__law_acts_so : Value}
    {A_led : Addr} {od_led an_led : Option Addr} {sl_led : Array (Option Value)} {oc_led kV_led dc_led pm_led cd_led ct_led : Value}
    {A_back : Addr} {od_back an_back : Option Addr} {sl_back : Array (Option Value)} {oc_back kV_back dc_back pm_back cd_back ct_back : Value}
    {A_rows_by : Addr} {od_rows_by an_rows_by : Option Addr} {sl_rows_by : Array (Option Value)} {oc_rows_by kV_rows_by dc_rows_by pm_rows_by cd_rows_by ct_rows_by : Value}
    {A__law_is_table_right : Addr} {od__law_is_table_right an__law_is_table_right : Option Addr} {sl__law_is_table_right : Array (Option Value)} {oc__law_is_table_right kV__law_is_table_right dc__law_is_table_right pm__law_is_table_right cd__law_is_table_right ct__law_is_table_right : Value}
    {A_table : Addr} {od_table an_table : Option Addr} {sl_table : Array (Option Value)} {oc_table kV_table dc_table pm_table cd_table ct_table : Value}
    {A__law_right : Addr} {od__law_right an__law_right : Option Addr} {sl__law_right : Array (Option Value)} {oc__law_right kV__law_right dc__law_right pm__law_right cd__law_right ct__law_right : Value}
    {A_law : Addr} {od_law an_law : Option Addr} {sl_law : Array (Option Value)} {oc_law kV_law dc_law pm_law cd_law ct_law : Value}
    (n_IDLE : PySem.W.nsIn K mainGlobals "IDLE" = some (some (.str "I" t_IDLE)))
    (n_TO_X : PySem.W.nsIn K mainGlobals "TO_X" = some (some (.str "X" t_TO_X)))
    (n_TO_Y : PySem.W.nsIn K mainGlobals "TO_Y" = some (some (.str "Y" t_TO_Y)))
    (n_TO_Z : PySem.W.nsIn K mainGlobals "TO_Z" = some (some (.str "Z" t_TO_Z)))
    (n_PLUS : PySem.W.nsIn K mainGlobals "PLUS" = some (some (.str "+" t_PLUS)))
    (n_MINUS : PySem.W.nsIn K mainGlobals "MINUS" = some (some (.str "-" t_MINUS)))
    (n_MOST_WIRES : PySem.W.nsIn K mainGlobals "MOST_WIRES" = some (some (.int 6 t_MOST_WIRES)))
    (n_LETTERS : PySem.W.nsIn K mainGlobals "LETTERS" = some (some (.str "IXYZ" t_LETTERS)))
    (n_SIGNS : PySem.W.nsIn K mainGlobals "SIGNS" = some (some (.str "+-" t_SIGNS)))
    (n_DIGITS : PySem.W.nsIn K mainGlobals "DIGITS" = some (some (.str "012345" t_DIGITS)))
    (n_BLANK : PySem.W.nsIn K mainGlobals "BLANK" = some (some (.str " " t_BLANK)))
    (n_SINGLES : PySem.W.nsIn K mainGlobals "SINGLES" = some (some (.ref A_SINGLES)))
    (l_SINGLES : K.lookup A_SINGLES = some ⟨.type "tuple", od_SINGLES, .seq #[.str "h" t0_SINGLES, .str "s" t1_SINGLES, .str "x" t2_SINGLES, .str "z" t3_SINGLES] n_n_SINGLES, sl_SINGLES⟩)
    (n_DOUBLES : PySem.W.nsIn K mainGlobals "DOUBLES" = some (some (.ref A_DOUBLES)))
    (l_DOUBLES : K.lookup A_DOUBLES = some ⟨.type "tuple", od_DOUBLES, .seq #[.str "cx" t0_DOUBLES, .str "cz" t1_DOUBLES, .str "swap" t2_DOUBLES] n_n_DOUBLES, sl_DOUBLES⟩)
    (n_MOST_GATES : PySem.W.nsIn K mainGlobals "MOST_GATES" = some (some (.int 400 t_MOST_GATES)))
    (n_PAIR : PySem.W.nsIn K mainGlobals "PAIR" = some (some (.int 2 t_PAIR)))
    (n_QUARTER : PySem.W.nsIn K mainGlobals "QUARTER" = some (some (.str "s " t_QUARTER)))
    (n_HALF : PySem.W.nsIn K mainGlobals "HALF" = some (some (.str "z " t_HALF)))
    (z_len : PySem.W.nsIn K mainGlobals "len" = some none)
    (z_abs : PySem.W.nsIn K mainGlobals "abs" = some none)
    (z_max : PySem.W.nsIn K mainGlobals "max" = some none)
    (z_min : PySem.W.nsIn K mainGlobals "min" = some none)
    (z_all : PySem.W.nsIn K mainGlobals "all" = some none)
    (z_sum : PySem.W.nsIn K mainGlobals "sum" = some none)
    (z_isinstance : PySem.W.nsIn K mainGlobals "isinstance" = some none)
    (z_int : PySem.W.nsIn K mainGlobals "int" = some none)
    (z_str : PySem.W.nsIn K mainGlobals "str" = some none)
    (z_bool : PySem.W.nsIn K mainGlobals "bool" = some none)
    (z_list : PySem.W.nsIn K mainGlobals "list" = some none)
    (z_tuple : PySem.W.nsIn K mainGlobals "tuple" = some none)
    (z_range : PySem.W.nsIn K mainGlobals "range" = some none)
    (z_enumerate : PySem.W.nsIn K mainGlobals "enumerate" = some none)
    (z_zip : PySem.W.nsIn K mainGlobals "zip" = some none)
    (z_ValueError : PySem.W.nsIn K mainGlobals "ValueError" = some none)
    (z_super : PySem.W.nsIn K mainGlobals "super" = some none)
    (a_mark_of : PySem.W.nsIn K mainGlobals "mark_of" = some (some (.ref A_mark_of)))
    (l_mark_of : K.lookup A_mark_of = some ⟨oc_mark_of, od_mark_of, .func (PySem.W.fnOf "mark_of" "mark_of" (defArgs s_mark_of) (defBody s_mark_of) (defScope s_mark_of) .none kV_mark_of dc_mark_of pm_mark_of an_mark_of cd_mark_of ct_mark_of), sl_mark_of⟩)
    (k1_mark_of : PySem.W.codeIn K cd_mark_of "mark_of" = true)
    (k2_mark_of : PySem.W.keepIn K (.ref A_mark_of) = true)
    (a_letter_at : PySem.W.nsIn K mainGlobals "letter_at" = some (some (.ref A_letter_at)))
    (l_letter_at : K.lookup A_letter_at = some ⟨oc_letter_at, od_letter_at, .func (PySem.W.fnOf "letter_at" "letter_at" (defArgs s_letter_at) (defBody s_letter_at) (defScope s_letter_at) .none kV_letter_at dc_letter_at pm_letter_at an_letter_at cd_letter_at ct_letter_at), sl_letter_at⟩)
    (k1_letter_at : PySem.W.codeIn K cd_letter_at "letter_at" = true)
    (k2_letter_at : PySem.W.keepIn K (.ref A_letter_at) = true)
    (a_is_integer : PySem.W.nsIn K mainGlobals "is_integer" = some (some (.ref A_is_integer)))
    (l_is_integer : K.lookup A_is_integer = some ⟨oc_is_integer, od_is_integer, .func (PySem.W.fnOf "is_integer" "is_integer" (defArgs s_is_integer) (defBody s_is_integer) (defScope s_is_integer) .none kV_is_integer dc_is_integer pm_is_integer an_is_integer cd_is_integer ct_is_integer), sl_is_integer⟩)
    (k1_is_integer : PySem.W.codeIn K cd_is_integer "is_integer" = true)
    (k2_is_integer : PySem.W.keepIn K (.ref A_is_integer) = true)
    (a_is_tuple : PySem.W.nsIn K mainGlobals "is_tuple" = some (some (.ref A_is_tuple)))
    (l_is_tuple : K.lookup A_is_tuple = some ⟨oc_is_tuple, od_is_tuple, .func (PySem.W.fnOf "is_tuple" "is_tuple" (defArgs s_is_tuple) (defBody s_is_tuple) (defScope s_is_tuple) .none kV_is_tuple dc_is_tuple pm_is_tuple an_is_tuple cd_is_tuple ct_is_tuple), sl_is_tuple⟩)
    (k1_is_tuple : PySem.W.codeIn K cd_is_tuple "is_tuple" = true)
    (k2_is_tuple : PySem.W.keepIn K (.ref A_is_tuple) = true)
    (a_is_letters : PySem.W.nsIn K mainGlobals "is_letters" = some (some (.ref A_is_letters)))
    (l_is_letters : K.lookup A_is_letters = some ⟨oc_is_letters, od_is_letters, .func (PySem.W.fnOf "is_letters" "is_letters" (defArgs s_is_letters) (defBody s_is_letters) (defScope s_is_letters) .none kV_is_letters dc_is_letters pm_is_letters an_is_letters cd_is_letters ct_is_letters), sl_is_letters⟩)
    (k1_is_letters : PySem.W.codeIn K cd_is_letters "is_letters" = true)
    (k2_is_letters : PySem.W.keepIn K (.ref A_is_letters) = true)
    (a_is_wire_word : PySem.W.nsIn K mainGlobals "is_wire_word" = some (some (.ref A_is_wire_word)))
    (l_is_wire_word : K.lookup A_is_wire_word = some ⟨oc_is_wire_word, od_is_wire_word, .func (PySem.W.fnOf "is_wire_word" "is_wire_word" (defArgs s_is_wire_word) (defBody s_is_wire_word) (defScope s_is_wire_word) .none kV_is_wire_word dc_is_wire_word pm_is_wire_word an_is_wire_word cd_is_wire_word ct_is_wire_word), sl_is_wire_word⟩)
    (k1_is_wire_word : PySem.W.codeIn K cd_is_wire_word "is_wire_word" = true)
    (k2_is_wire_word : PySem.W.keepIn K (.ref A_is_wire_word) = true)
    (a_wires_of : PySem.W.nsIn K mainGlobals "wires_of" = some (some (.ref A_wires_of)))
    (l_wires_of : K.lookup A_wires_of = some ⟨oc_wires_of, od_wires_of, .func (PySem.W.fnOf "wires_of" "wires_of" (defArgs s_wires_of) (defBody s_wires_of) (defScope s_wires_of) .none kV_wires_of dc_wires_of pm_wires_of an_wires_of cd_wires_of ct_wires_of), sl_wires_of⟩)
    (k1_wires_of : PySem.W.codeIn K cd_wires_of "wires_of" = true)
    (k2_wires_of : PySem.W.keepIn K (.ref A_wires_of) = true)
    (a_bit_x : PySem.W.nsIn K mainGlobals "bit_x" = some (some (.ref A_bit_x)))
    (l_bit_x : K.lookup A_bit_x = some ⟨oc_bit_x, od_bit_x, .func (PySem.W.fnOf "bit_x" "bit_x" (defArgs s_bit_x) (defBody s_bit_x) (defScope s_bit_x) .none kV_bit_x dc_bit_x pm_bit_x an_bit_x cd_bit_x ct_bit_x), sl_bit_x⟩)
    (k1_bit_x : PySem.W.codeIn K cd_bit_x "bit_x" = true)
    (k2_bit_x : PySem.W.keepIn K (.ref A_bit_x) = true)
    (a_bit_z : PySem.W.nsIn K mainGlobals "bit_z" = some (some (.ref A_bit_z)))
    (l_bit_z : K.lookup A_bit_z = some ⟨oc_bit_z, od_bit_z, .func (PySem.W.fnOf "bit_z" "bit_z" (defArgs s_bit_z) (defBody s_bit_z) (defScope s_bit_z) .none kV_bit_z dc_bit_z pm_bit_z an_bit_z cd_bit_z ct_bit_z), sl_bit_z⟩)
    (k1_bit_z : PySem.W.codeIn K cd_bit_z "bit_z" = true)
    (k2_bit_z : PySem.W.keepIn K (.ref A_bit_z) = true)
    (a_with_bits : PySem.W.nsIn K mainGlobals "with_bits" = some (some (.ref A_with_bits)))
    (l_with_bits : K.lookup A_with_bits = some ⟨oc_with_bits, od_with_bits, .func (PySem.W.fnOf "with_bits" "with_bits" (defArgs s_with_bits) (defBody s_with_bits) (defScope s_with_bits) .none kV_with_bits dc_with_bits pm_with_bits an_with_bits cd_with_bits ct_with_bits), sl_with_bits⟩)
    (k1_with_bits : PySem.W.codeIn K cd_with_bits "with_bits" = true)
    (k2_with_bits : PySem.W.keepIn K (.ref A_with_bits) = true)
    (a_turned_back : PySem.W.nsIn K mainGlobals "turned_back" = some (some (.ref A_turned_back)))
    (l_turned_back : K.lookup A_turned_back = some ⟨oc_turned_back, od_turned_back, .func (PySem.W.fnOf "turned_back" "turned_back" (defArgs s_turned_back) (defBody s_turned_back) (defScope s_turned_back) .none kV_turned_back dc_turned_back pm_turned_back an_turned_back cd_turned_back ct_turned_back), sl_turned_back⟩)
    (k1_turned_back : PySem.W.codeIn K cd_turned_back "turned_back" = true)
    (k2_turned_back : PySem.W.keepIn K (.ref A_turned_back) = true)
    (a_single_marks : PySem.W.nsIn K mainGlobals "single_marks" = some (some (.ref A_single_marks)))
    (l_single_marks : K.lookup A_single_marks = some ⟨oc_single_marks, od_single_marks, .func (PySem.W.fnOf "single_marks" "single_marks" (defArgs s_single_marks) (defBody s_single_marks) (defScope s_single_marks) .none kV_single_marks dc_single_marks pm_single_marks an_single_marks cd_single_marks ct_single_marks), sl_single_marks⟩)
    (k1_single_marks : PySem.W.codeIn K cd_single_marks "single_marks" = true)
    (k2_single_marks : PySem.W.keepIn K (.ref A_single_marks) = true)
    (a__law_pot : PySem.W.nsIn K mainGlobals "_law_pot" = some (some (.ref A__law_pot)))
    (l__law_pot : K.lookup A__law_pot = some ⟨oc__law_pot, od__law_pot, .func (PySem.W.fnOf "_law_pot" "_law_pot" (defArgs s__law_pot) (defBody s__law_pot) (defScope s__law_pot) .none kV__law_pot dc__law_pot pm__law_pot an__law_pot cd__law_pot ct__law_pot), sl__law_pot⟩)
    (k1__law_pot : PySem.W.codeIn K cd__law_pot "_law_pot" = true)
    (k2__law_pot : PySem.W.keepIn K (.ref A__law_pot) = true)
    (a__law_take : PySem.W.nsIn K mainGlobals "_law_take" = some (some (.ref A__law_take)))
    (l__law_take : K.lookup A__law_take = some ⟨oc__law_take, od__law_take, .func (PySem.W.fnOf "_law_take" "_law_take" (defArgs s__law_take) (defBody s__law_take) (defScope s__law_take) .none kV__law_take dc__law_take pm__law_take an__law_take cd__law_take ct__law_take), sl__law_take⟩)
    (k1__law_take : PySem.W.codeIn K cd__law_take "_law_take" = true)
    (k2__law_take : PySem.W.keepIn K (.ref A__law_take) = true)
    (a__law_cells : PySem.W.nsIn K mainGlobals "_law_cells" = some (some (.ref A__law_cells)))
    (l__law_cells : K.lookup A__law_cells = some ⟨oc__law_cells, od__law_cells, .func (PySem.W.fnOf "_law_cells" "_law_cells" (defArgs s__law_cells) (defBody s__law_cells) (defScope s__law_cells) .none kV__law_cells dc__law_cells pm__law_cells an__law_cells cd__law_cells ct__law_cells), sl__law_cells⟩)
    (k1__law_cells : PySem.W.codeIn K cd__law_cells "_law_cells" = true)
    (k2__law_cells : PySem.W.keepIn K (.ref A__law_cells) = true)
    (a__law_are_letters : PySem.W.nsIn K mainGlobals "_law_are_letters" = some (some (.ref A__law_are_letters)))
    (l__law_are_letters : K.lookup A__law_are_letters = some ⟨oc__law_are_letters, od__law_are_letters, .func (PySem.W.fnOf "_law_are_letters" "_law_are_letters" (defArgs s__law_are_letters) (defBody s__law_are_letters) (defScope s__law_are_letters) .none kV__law_are_letters dc__law_are_letters pm__law_are_letters an__law_are_letters cd__law_are_letters ct__law_are_letters), sl__law_are_letters⟩)
    (k1__law_are_letters : PySem.W.codeIn K cd__law_are_letters "_law_are_letters" = true)
    (k2__law_are_letters : PySem.W.keepIn K (.ref A__law_are_letters) = true)
    (a__law_read : PySem.W.nsIn K mainGlobals "_law_read" = some (some (.ref A__law_read)))
    (l__law_read : K.lookup A__law_read = some ⟨oc__law_read, od__law_read, .func (PySem.W.fnOf "_law_read" "_law_read" (defArgs s__law_read) (defBody s__law_read) (defScope s__law_read) .none kV__law_read dc__law_read pm__law_read an__law_read cd__law_read ct__law_read), sl__law_read⟩)
    (k1__law_read : PySem.W.codeIn K cd__law_read "_law_read" = true)
    (k2__law_read : PySem.W.keepIn K (.ref A__law_read) = true)
    (a__law_single : PySem.W.nsIn K mainGlobals "_law_single" = some (some (.ref A__law_single)))
    (l__law_single : K.lookup A__law_single = some ⟨oc__law_single, od__law_single, .func (PySem.W.fnOf "_law_single" "_law_single" (defArgs s__law_single) (defBody s__law_single) (defScope s__law_single) .none kV__law_single dc__law_single pm__law_single an__law_single cd__law_single ct__law_single), sl__law_single⟩)
    (k1__law_single : PySem.W.codeIn K cd__law_single "_law_single" = true)
    (k2__law_single : PySem.W.keepIn K (.ref A__law_single) = true)
    (a__law_power : PySem.W.nsIn K mainGlobals "_law_power" = some (some (.ref A__law_power)))
    (l__law_power : K.lookup A__law_power = some ⟨oc__law_power, od__law_power, .func (PySem.W.fnOf "_law_power" "_law_power" (defArgs s__law_power) (defBody s__law_power) (defScope s__law_power) .none kV__law_power dc__law_power pm__law_power an__law_power cd__law_power ct__law_power), sl__law_power⟩)
    (k1__law_power : PySem.W.codeIn K cd__law_power "_law_power" = true)
    (k2__law_power : PySem.W.keepIn K (.ref A__law_power) = true)
    (a__law_spun : PySem.W.nsIn K mainGlobals "_law_spun" = some (some (.ref A__law_spun)))
    (l__law_spun : K.lookup A__law_spun = some ⟨oc__law_spun, od__law_spun, .func (PySem.W.fnOf "_law_spun" "_law_spun" (defArgs s__law_spun) (defBody s__law_spun) (defScope s__law_spun) .none kV__law_spun dc__law_spun pm__law_spun an__law_spun cd__law_spun ct__law_spun), sl__law_spun⟩)
    (k1__law_spun : PySem.W.codeIn K cd__law_spun "_law_spun" = true)
    (k2__law_spun : PySem.W.keepIn K (.ref A__law_spun) = true)
    (a__law_plus : PySem.W.nsIn K mainGlobals "_law_plus" = some (some (.ref A__law_plus)))
    (l__law_plus : K.lookup A__law_plus = some ⟨oc__law_plus, od__law_plus, .func (PySem.W.fnOf "_law_plus" "_law_plus" (defArgs s__law_plus) (defBody s__law_plus) (defScope s__law_plus) .none kV__law_plus dc__law_plus pm__law_plus an__law_plus cd__law_plus ct__law_plus), sl__law_plus⟩)
    (k1__law_plus : PySem.W.codeIn K cd__law_plus "_law_plus" = true)
    (k2__law_plus : PySem.W.keepIn K (.ref A__law_plus) = true)
    (a_letters_of : PySem.W.nsIn K mainGlobals "letters_of" = some (some (.ref A_letters_of)))
    (l_letters_of : K.lookup A_letters_of = some ⟨oc_letters_of, od_letters_of, .func (PySem.W.fnOf "letters_of" "letters_of" (defArgs s_letters_of) (defBody s_letters_of) (defScope s_letters_of) .none kV_letters_of dc_letters_of pm_letters_of an_letters_of cd_letters_of ct_letters_of), sl_letters_of⟩)
    (k1_letters_of : PySem.W.codeIn K cd_letters_of "letters_of" = true)
    (k2_letters_of : PySem.W.keepIn K (.ref A_letters_of) = true)
    (a_signed_of : PySem.W.nsIn K mainGlobals "signed_of" = some (some (.ref A_signed_of)))
    (l_signed_of : K.lookup A_signed_of = some ⟨oc_signed_of, od_signed_of, .func (PySem.W.fnOf "signed_of" "signed_of" (defArgs s_signed_of) (defBody s_signed_of) (defScope s_signed_of) .none kV_signed_of dc_signed_of pm_signed_of an_signed_of cd_signed_of ct_signed_of), sl_signed_of⟩)
    (k1_signed_of : PySem.W.codeIn K cd_signed_of "signed_of" = true)
    (k2_signed_of : PySem.W.keepIn K (.ref A_signed_of) = true)
    (a_is_word : PySem.W.nsIn K mainGlobals "is_word" = some (some (.ref A_is_word)))
    (l_is_word : K.lookup A_is_word = some ⟨oc_is_word, od_is_word, .func (PySem.W.fnOf "is_word" "is_word" (defArgs s_is_word) (defBody s_is_word) (defScope s_is_word) .none kV_is_word dc_is_word pm_is_word an_is_word cd_is_word ct_is_word), sl_is_word⟩)
    (k1_is_word : PySem.W.codeIn K cd_is_word "is_word" = true)
    (k2_is_word : PySem.W.keepIn K (.ref A_is_word) = true)
    (a_check_number : PySem.W.nsIn K mainGlobals "check_number" = some (some (.ref A_check_number)))
    (l_check_number : K.lookup A_check_number = some ⟨oc_check_number, od_check_number, .func (PySem.W.fnOf "check_number" "check_number" (defArgs s_check_number) (defBody s_check_number) (defScope s_check_number) .none kV_check_number dc_check_number pm_check_number an_check_number cd_check_number ct_check_number), sl_check_number⟩)
    (k1_check_number : PySem.W.codeIn K cd_check_number "check_number" = true)
    (k2_check_number : PySem.W.keepIn K (.ref A_check_number) = true)
    (a_is_gate : PySem.W.nsIn K mainGlobals "is_gate" = some (some (.ref A_is_gate)))
    (l_is_gate : K.lookup A_is_gate = some ⟨oc_is_gate, od_is_gate, .func (PySem.W.fnOf "is_gate" "is_gate" (defArgs s_is_gate) (defBody s_is_gate) (defScope s_is_gate) .none kV_is_gate dc_is_gate pm_is_gate an_is_gate cd_is_gate ct_is_gate), sl_is_gate⟩)
    (k1_is_gate : PySem.W.codeIn K cd_is_gate "is_gate" = true)
    (k2_is_gate : PySem.W.keepIn K (.ref A_is_gate) = true)
    (a_lead_one : PySem.W.nsIn K mainGlobals "lead_one" = some (some (.ref A_lead_one)))
    (l_lead_one : K.lookup A_lead_one = some ⟨oc_lead_one, od_lead_one, .func (PySem.W.fnOf "lead_one" "lead_one" (defArgs s_lead_one) (defBody s_lead_one) (defScope s_lead_one) .none kV_lead_one dc_lead_one pm_lead_one an_lead_one cd_lead_one ct_lead_one), sl_lead_one⟩)
    (k1_lead_one : PySem.W.codeIn K cd_lead_one "lead_one" = true)
    (k2_lead_one : PySem.W.keepIn K (.ref A_lead_one) = true)
    (a_lead_two : PySem.W.nsIn K mainGlobals "lead_two" = some (some (.ref A_lead_two)))
    (l_lead_two : K.lookup A_lead_two = some ⟨oc_lead_two, od_lead_two, .func (PySem.W.fnOf "lead_two" "lead_two" (defArgs s_lead_two) (defBody s_lead_two) (defScope s_lead_two) .none kV_lead_two dc_lead_two pm_lead_two an_lead_two cd_lead_two ct_lead_two), sl_lead_two⟩)
    (k1_lead_two : PySem.W.codeIn K cd_lead_two "lead_two" = true)
    (k2_lead_two : PySem.W.keepIn K (.ref A_lead_two) = true)
    (a__law_of : PySem.W.nsIn K mainGlobals "_law_of" = some (some (.ref A__law_of)))
    (l__law_of : K.lookup A__law_of = some ⟨oc__law_of, od__law_of, .func (PySem.W.fnOf "_law_of" "_law_of" (defArgs s__law_of) (defBody s__law_of) (defScope s__law_of) .none kV__law_of dc__law_of pm__law_of an__law_of cd__law_of ct__law_of), sl__law_of⟩)
    (k1__law_of : PySem.W.codeIn K cd__law_of "_law_of" = true)
    (k2__law_of : PySem.W.keepIn K (.ref A__law_of) = true)
    (a__law_some : PySem.W.nsIn K mainGlobals "_law_some" = some (some (.ref A__law_some)))
    (l__law_some : K.lookup A__law_some = some ⟨oc__law_some, od__law_some, .func (PySem.W.fnOf "_law_some" "_law_some" (defArgs s__law_some) (defBody s__law_some) (defScope s__law_some) .none kV__law_some dc__law_some pm__law_some an__law_some cd__law_some ct__law_some), sl__law_some⟩)
    (k1__law_some : PySem.W.codeIn K cd__law_some "_law_some" = true)
    (k2__law_some : PySem.W.keepIn K (.ref A__law_some) = true)
    (a__law_is_word : PySem.W.nsIn K mainGlobals "_law_is_word" = some (some (.ref A__law_is_word)))
    (l__law_is_word : K.lookup A__law_is_word = some ⟨oc__law_is_word, od__law_is_word, .func (PySem.W.fnOf "_law_is_word" "_law_is_word" (defArgs s__law_is_word) (defBody s__law_is_word) (defScope s__law_is_word) .none kV__law_is_word dc__law_is_word pm__law_is_word an__law_is_word cd__law_is_word ct__law_is_word), sl__law_is_word⟩)
    (k1__law_is_word : PySem.W.codeIn K cd__law_is_word "_law_is_word" = true)
    (k2__law_is_word : PySem.W.keepIn K (.ref A__law_is_word) = true)
    (a__law_acted : PySem.W.nsIn K mainGlobals "_law_acted" = some (some (.ref A__law_acted)))
    (l__law_acted : K.lookup A__law_acted = some ⟨oc__law_acted, od__law_acted, .func (PySem.W.fnOf "_law_acted" "_law_acted" (defArgs s__law_acted) (defBody s__law_acted) (defScope s__law_acted) .none kV__law_acted dc__law_acted pm__law_acted an__law_acted cd__law_acted ct__law_acted), sl__law_acted⟩)
    (k1__law_acted : PySem.W.codeIn K cd__law_acted "_law_acted" = true)
    (k2__law_acted : PySem.W.keepIn K (.ref A__law_acted) = true)
    (a__law_gate_on : PySem.W.nsIn K mainGlobals "_law_gate_on" = some (some (.ref A__law_gate_on)))
    (l__law_gate_on : K.lookup A__law_gate_on = some ⟨oc__law_gate_on, od__law_gate_on, .func (PySem.W.fnOf "_law_gate_on" "_law_gate_on" (defArgs s__law_gate_on) (defBody s__law_gate_on) (defScope s__law_gate_on) .none kV__law_gate_on dc__law_gate_on pm__law_gate_on an__law_gate_on cd__law_gate_on ct__law_gate_on), sl__law_gate_on⟩)
    (k1__law_gate_on : PySem.W.codeIn K cd__law_gate_on "_law_gate_on" = true)
    (k2__law_gate_on : PySem.W.keepIn K (.ref A__law_gate_on) = true)
    (a__law_any_state : PySem.W.nsIn K mainGlobals "_law_any_state" = some (some (.ref A__law_any_state)))
    (l__law_any_state : K.lookup A__law_any_state = some ⟨oc__law_any_state, od__law_any_state, .func (PySem.W.fnOf "_law_any_state" "_law_any_state" (defArgs s__law_any_state) (defBody s__law_any_state) (defScope s__law_any_state) .none kV__law_any_state dc__law_any_state pm__law_any_state an__law_any_state cd__law_any_state ct__law_any_state), sl__law_any_state⟩)
    (k1__law_any_state : PySem.W.codeIn K cd__law_any_state "_law_any_state" = true)
    (k2__law_any_state : PySem.W.keepIn K (.ref A__law_any_state) = true)
    (a__law_unit : PySem.W.nsIn K mainGlobals "_law_unit" = some (some (.ref A__law_unit)))
    (l__law_unit : K.lookup A__law_unit = some ⟨oc__law_unit, od__law_unit, .func (PySem.W.fnOf "_law_unit" "_law_unit" (defArgs s__law_unit) (defBody s__law_unit) (defScope s__law_unit) .none kV__law_unit dc__law_unit pm__law_unit an__law_unit cd__law_unit ct__law_unit), sl__law_unit⟩)
    (k1__law_unit : PySem.W.codeIn K cd__law_unit "_law_unit" = true)
    (k2__law_unit : PySem.W.keepIn K (.ref A__law_unit) = true)
    (a_word_of : PySem.W.nsIn K mainGlobals "word_of" = some (some (.ref A_word_of)))
    (l_word_of : K.lookup A_word_of = some ⟨oc_word_of, od_word_of, .func (PySem.W.fnOf "word_of" "word_of" (defArgs s_word_of) (defBody s_word_of) (defScope s_word_of) .none kV_word_of dc_word_of pm_word_of an_word_of cd_word_of ct_word_of), sl_word_of⟩)
    (k1_word_of : PySem.W.codeIn K cd_word_of "word_of" = true)
    (k2_word_of : PySem.W.keepIn K (.ref A_word_of) = true)
    (a_is_any_word : PySem.W.nsIn K mainGlobals "is_any_word" = some (some (.ref A_is_any_word)))
    (l_is_any_word : K.lookup A_is_any_word = some ⟨oc_is_any_word, od_is_any_word, .func (PySem.W.fnOf "is_any_word" "is_any_word" (defArgs s_is_any_word) (defBody s_is_any_word) (defScope s_is_any_word) .none kV_is_any_word dc_is_any_word pm_is_any_word an_is_any_word cd_is_any_word ct_is_any_word), sl_is_any_word⟩)
    (k1_is_any_word : PySem.W.codeIn K cd_is_any_word "is_any_word" = true)
    (k2_is_any_word : PySem.W.keepIn K (.ref A_is_any_word) = true)
    (a_is_gates : PySem.W.nsIn K mainGlobals "is_gates" = some (some (.ref A_is_gates)))
    (l_is_gates : K.lookup A_is_gates = some ⟨oc_is_gates, od_is_gates, .func (PySem.W.fnOf "is_gates" "is_gates" (defArgs s_is_gates) (defBody s_is_gates) (defScope s_is_gates) .none kV_is_gates dc_is_gates pm_is_gates an_is_gates cd_is_gates ct_is_gates), sl_is_gates⟩)
    (k1_is_gates : PySem.W.codeIn K cd_is_gates "is_gates" = true)
    (k2_is_gates : PySem.W.keepIn K (.ref A_is_gates) = true)
    (a_lead : PySem.W.nsIn K mainGlobals "lead" = some (some (.ref A_lead)))
    (l_lead : K.lookup A_lead = some ⟨oc_lead, od_lead, .func (PySem.W.fnOf "lead" "lead" (defArgs s_lead) (defBody s_lead) (defScope s_lead) .none kV_lead dc_lead pm_lead an_lead cd_lead ct_lead), sl_lead⟩)
    (k1_lead : PySem.W.codeIn K cd_lead "lead" = true)
    (k2_lead : PySem.W.keepIn K (.ref A_lead) = true)
    (a__law_gate : PySem.W.nsIn K mainGlobals "_law_gate" = some (some (.ref A__law_gate)))
    (l__law_gate : K.lookup A__law_gate = some ⟨oc__law_gate, od__law_gate, .func (PySem.W.fnOf "_law_gate" "_law_gate" (defArgs s__law_gate) (defBody s__law_gate) (defScope s__law_gate) .none kV__law_gate dc__law_gate pm__law_gate an__law_gate cd__law_gate ct__law_gate), sl__law_gate⟩)
    (k1__law_gate : PySem.W.codeIn K cd__law_gate "_law_gate" = true)
    (k2__law_gate : PySem.W.keepIn K (.ref A__law_gate) = true)
    (a__law_any_letters : PySem.W.nsIn K mainGlobals "_law_any_letters" = some (some (.ref A__law_any_letters)))
    (l__law_any_letters : K.lookup A__law_any_letters = some ⟨oc__law_any_letters, od__law_any_letters, .func (PySem.W.fnOf "_law_any_letters" "_law_any_letters" (defArgs s__law_any_letters) (defBody s__law_any_letters) (defScope s__law_any_letters) .none kV__law_any_letters dc__law_any_letters pm__law_any_letters an__law_any_letters cd__law_any_letters ct__law_any_letters), sl__law_any_letters⟩)
    (k1__law_any_letters : PySem.W.codeIn K cd__law_any_letters "_law_any_letters" = true)
    (k2__law_any_letters : PySem.W.keepIn K (.ref A__law_any_letters) = true)
    (a__law_gates_on : PySem.W.nsIn K mainGlobals "_law_gates_on" = some (some (.ref A__law_gates_on)))
    (l__law_gates_on : K.lookup A__law_gates_on = some ⟨oc__law_gates_on, od__law_gates_on, .func (PySem.W.fnOf "_law_gates_on" "_law_gates_on" (defArgs s__law_gates_on) (defBody s__law_gates_on) (defScope s__law_gates_on) .none kV__law_gates_on dc__law_gates_on pm__law_gates_on an__law_gates_on cd__law_gates_on ct__law_gates_on), sl__law_gates_on⟩)
    (k1__law_gates_on : PySem.W.codeIn K cd__law_gates_on "_law_gates_on" = true)
    (k2__law_gates_on : PySem.W.keepIn K (.ref A__law_gates_on) = true)
    (a__law_units : PySem.W.nsIn K mainGlobals "_law_units" = some (some (.ref A__law_units)))
    (l__law_units : K.lookup A__law_units = some ⟨oc__law_units, od__law_units, .func (PySem.W.fnOf "_law_units" "_law_units" (defArgs s__law_units) (defBody s__law_units) (defScope s__law_units) .none kV__law_units dc__law_units pm__law_units an__law_units cd__law_units ct__law_units), sl__law_units⟩)
    (k1__law_units : PySem.W.codeIn K cd__law_units "_law_units" = true)
    (k2__law_units : PySem.W.keepIn K (.ref A__law_units) = true)
    (a_check_gates : PySem.W.nsIn K mainGlobals "check_gates" = some (some (.ref A_check_gates)))
    (l_check_gates : K.lookup A_check_gates = some ⟨oc_check_gates, od_check_gates, .func (PySem.W.fnOf "check_gates" "check_gates" (defArgs s_check_gates) (defBody s_check_gates) (defScope s_check_gates) .none kV_check_gates dc_check_gates pm_check_gates an_check_gates cd_check_gates ct_check_gates), sl_check_gates⟩)
    (k1_check_gates : PySem.W.codeIn K cd_check_gates "check_gates" = true)
    (k2_check_gates : PySem.W.keepIn K (.ref A_check_gates) = true)
    (a_check_any_word : PySem.W.nsIn K mainGlobals "check_any_word" = some (some (.ref A_check_any_word)))
    (l_check_any_word : K.lookup A_check_any_word = some ⟨oc_check_any_word, od_check_any_word, .func (PySem.W.fnOf "check_any_word" "check_any_word" (defArgs s_check_any_word) (defBody s_check_any_word) (defScope s_check_any_word) .none kV_check_any_word dc_check_any_word pm_check_any_word an_check_any_word cd_check_any_word ct_check_any_word), sl_check_any_word⟩)
    (k1_check_any_word : PySem.W.codeIn K cd_check_any_word "check_any_word" = true)
    (k2_check_any_word : PySem.W.keepIn K (.ref A_check_any_word) = true)
    (a_led_signed : PySem.W.nsIn K mainGlobals "led_signed" = some (some (.ref A_led_signed)))
    (l_led_signed : K.lookup A_led_signed = some ⟨oc_led_signed, od_led_signed, .func (PySem.W.fnOf "led_signed" "led_signed" (defArgs s_led_signed) (defBody s_led_signed) (defScope s_led_signed) .none kV_led_signed dc_led_signed pm_led_signed an_led_signed cd_led_signed ct_led_signed), sl_led_signed⟩)
    (k1_led_signed : PySem.W.codeIn K cd_led_signed "led_signed" = true)
    (k2_led_signed : PySem.W.keepIn K (.ref A_led_signed) = true)
    (a__law_any_word : PySem.W.nsIn K mainGlobals "_law_any_word" = some (some (.ref A__law_any_word)))
    (l__law_any_word : K.lookup A__law_any_word = some ⟨oc__law_any_word, od__law_any_word, .func (PySem.W.fnOf "_law_any_word" "_law_any_word" (defArgs s__law_any_word) (defBody s__law_any_word) (defScope s__law_any_word) .none kV__law_any_word dc__law_any_word pm__law_any_word an__law_any_word cd__law_any_word ct__law_any_word), sl__law_any_word⟩)
    (k1__law_any_word : PySem.W.codeIn K cd__law_any_word "_law_any_word" = true)
    (k2__law_any_word : PySem.W.keepIn K (.ref A__law_any_word) = true)
    (a__law_gates : PySem.W.nsIn K mainGlobals "_law_gates" = some (some (.ref A__law_gates)))
    (l__law_gates : K.lookup A__law_gates = some ⟨oc__law_gates, od__law_gates, .func (PySem.W.fnOf "_law_gates" "_law_gates" (defArgs s__law_gates) (defBody s__law_gates) (defScope s__law_gates) .none kV__law_gates dc__law_gates pm__law_gates an__law_gates cd__law_gates ct__law_gates), sl__law_gates⟩)
    (k1__law_gates : PySem.W.codeIn K cd__law_gates "_law_gates" = true)
    (k2__law_gates : PySem.W.keepIn K (.ref A__law_gates) = true)
    (a__law_acts_so : PySem.W.nsIn K mainGlobals "_law_acts_so" = some (some (.ref A__law_acts_so)))
    (l__law_acts_so : K.lookup A__law_acts_so = some ⟨oc__law_acts_so, od__law_acts_so, .func (PySem.W.fnOf "_law_acts_so" "_law_acts_so" (defArgs s__law_acts_so) (defBody s__law_acts_so) (defScope s__law_acts_so) .none kV__law_acts_so dc__law_acts_so pm__law_acts_so an__law_acts_so cd__law_acts_so ct__law_acts_so), sl__law_acts_so⟩)
    (k1__law_acts_so : PySem.W.codeIn K cd__law_acts_so "_law_acts_so" = true)
    (k2__law_acts_so : PySem.W.keepIn K (.ref A__law_acts_so) = true)
    (a_led : PySem.W.nsIn K mainGlobals "led" = some (some (.ref A_led)))
    (l_led : K.lookup A_led = some ⟨oc_led, od_led, .func (PySem.W.fnOf "led" "led" (defArgs s_led) (defBody s_led) (defScope s_led) .none kV_led dc_led pm_led an_led cd_led ct_led), sl_led⟩)
    (k1_led : PySem.W.codeIn K cd_led "led" = true)
    (k2_led : PySem.W.keepIn K (.ref A_led) = true)
    (a_back : PySem.W.nsIn K mainGlobals "back" = some (some (.ref A_back)))
    (l_back : K.lookup A_back = some ⟨oc_back, od_back, .func (PySem.W.fnOf "back" "back" (defArgs s_back) (defBody s_back) (defScope s_back) .none kV_back dc_back pm_back an_back cd_back ct_back), sl_back⟩)
    (k1_back : PySem.W.codeIn K cd_back "back" = true)
    (k2_back : PySem.W.keepIn K (.ref A_back) = true)
    (a_rows_by : PySem.W.nsIn K mainGlobals "rows_by" = some (some (.ref A_rows_by)))
    (l_rows_by : K.lookup A_rows_by = some ⟨oc_rows_by, od_rows_by, .func (PySem.W.fnOf "rows_by" "rows_by" (defArgs s_rows_by) (defBody s_rows_by) (defScope s_rows_by) .none kV_rows_by dc_rows_by pm_rows_by an_rows_by cd_rows_by ct_rows_by), sl_rows_by⟩)
    (k1_rows_by : PySem.W.codeIn K cd_rows_by "rows_by" = true)
    (k2_rows_by : PySem.W.keepIn K (.ref A_rows_by) = true)
    (a__law_is_table_right : PySem.W.nsIn K mainGlobals "_law_is_table_right" = some (some (.ref A__law_is_table_right)))
    (l__law_is_table_right : K.lookup A__law_is_table_right = some ⟨oc__law_is_table_right, od__law_is_table_right, .func (PySem.W.fnOf "_law_is_table_right" "_law_is_table_right" (defArgs s__law_is_table_right) (defBody s__law_is_table_right) (defScope s__law_is_table_right) .none kV__law_is_table_right dc__law_is_table_right pm__law_is_table_right an__law_is_table_right cd__law_is_table_right ct__law_is_table_right), sl__law_is_table_right⟩)
    (k1__law_is_table_right : PySem.W.codeIn K cd__law_is_table_right "_law_is_table_right" = true)
    (k2__law_is_table_right : PySem.W.keepIn K (.ref A__law_is_table_right) = true)
    (a_table : PySem.W.nsIn K mainGlobals "table" = some (some (.ref A_table)))
    (l_table : K.lookup A_table = some ⟨oc_table, od_table, .func (PySem.W.fnOf "table" "table" (defArgs s_table) (defBody s_table) (defScope s_table) .none kV_table dc_table pm_table an_table cd_table ct_table), sl_table⟩)
    (k1_table : PySem.W.codeIn K cd_table "table" = true)
    (k2_table : PySem.W.keepIn K (.ref A_table) = true)
    (a__law_right : PySem.W.nsIn K mainGlobals "_law_right" = some (some (.ref A__law_right)))
    (l__law_right : K.lookup A__law_right = some ⟨oc__law_right, od__law_right, .func (PySem.W.fnOf "_law_right" "_law_right" (defArgs s__law_right) (defBody s__law_right) (defScope s__law_right) .none kV__law_right dc__law_right pm__law_right an__law_right cd__law_right ct__law_right), sl__law_right⟩)
    (k1__law_right : PySem.W.codeIn K cd__law_right "_law_right" = true)
    (k2__law_right : PySem.W.keepIn K (.ref A__law_right) = true)
    (a_law : PySem.W.nsIn K mainGlobals "law" = some (some (.ref A_law)))
    (l_law : K.lookup A_law = some ⟨oc_law, od_law, .func (PySem.W.fnOf "law" "law" (defArgs s_law) (defBody s_law) (defScope s_law) .none kV_law dc_law pm_law an_law cd_law ct_law), sl_law⟩)
    (k1_law : PySem.W.codeIn K cd_law "law" = true)
    (k2_law : PySem.W.keepIn K (.ref A_law) = true)
    : ∃ fd : FuncData, (∀ (s : Shared) (v : Value), BindsTo s fd ⟨[v], []⟩ [("script", v)]) ∧ ∀ base : Heap, K.In base → base.Ns mainGlobals mg → FnOk l.prog w K mg base CX0 8 fa fd ["script"] (spD K 1 LawS) := by
  have e := hfa.symm.trans (PySem.W.mg_of X G a_law)
  cases e
  have T : Tx K mg := { c_IDLE := gv_str (PySem.W.mg_of X G n_IDLE), c_TO_X := gv_str (PySem.W.mg_of X G n_TO_X), c_TO_Y := gv_str (PySem.W.mg_of X G n_TO_Y), c_TO_Z := gv_str (PySem.W.mg_of X G n_TO_Z), c_PLUS := gv_str (PySem.W.mg_of X G n_PLUS), c_MINUS := gv_str (PySem.W.mg_of X G n_MINUS), c_MOST_WIRES := gv_int (PySem.W.mg_of X G n_MOST_WIRES), c_LETTERS := gv_str (PySem.W.mg_of X G n_LETTERS), c_SIGNS := gv_str (PySem.W.mg_of X G n_SIGNS), c_DIGITS := gv_str (PySem.W.mg_of X G n_DIGITS), c_BLANK := gv_str (PySem.W.mg_of X G n_BLANK), c_SINGLES := gv_tup (vs := [.str "h", .str "s", .str "x", .str "z"]) (PySem.W.mg_of X G n_SINGLES) l_SINGLES (Nat.le_of_ble_eq_true rfl) (.cons ⟨_, rfl⟩ (.cons ⟨_, rfl⟩ (.cons ⟨_, rfl⟩ (.cons ⟨_, rfl⟩ (.nil))))) (fun _ _ => ⟨_, _, rfl, rfl, ⟨_, _, rfl, rfl, ⟨_, _, rfl, rfl, ⟨_, _, rfl, rfl, rfl⟩⟩⟩⟩), c_DOUBLES := gv_tup (vs := [.str "cx", .str "cz", .str "swap"]) (PySem.W.mg_of X G n_DOUBLES) l_DOUBLES (Nat.le_of_ble_eq_true rfl) (.cons ⟨_, rfl⟩ (.cons ⟨_, rfl⟩ (.cons ⟨_, rfl⟩ (.nil)))) (fun _ _ => ⟨_, _, rfl, rfl, ⟨_, _, rfl, rfl, ⟨_, _, rfl, rfl, rfl⟩⟩⟩), c_MOST_GATES := gv_int (PySem.W.mg_of X G n_MOST_GATES), c_PAIR := gv_int (PySem.W.mg_of X G n_PAIR), c_QUARTER := gv_str (PySem.W.mg_of X G n_QUARTER), c_HALF := gv_str (PySem.W.mg_of X G n_HALF), b_len := PySem.W.mg_none_of X G z_len, b_abs := PySem.W.mg_none_of X G z_abs, b_max := PySem.W.mg_none_of X G z_max, b_min := PySem.W.mg_none_of X G z_min, b_all := PySem.W.mg_none_of X G z_all, b_sum := PySem.W.mg_none_of X G z_sum, b_isinstance := PySem.W.mg_none_of X G z_isinstance, b_int := PySem.W.mg_none_of X G z_int, b_str := PySem.W.mg_none_of X G z_str, b_bool := PySem.W.mg_none_of X G z_bool, b_list := PySem.W.mg_none_of X G z_list, b_tuple := PySem.W.mg_none_of X G z_tuple, b_range := PySem.W.mg_none_of X G z_range, b_enumerate := PySem.W.mg_none_of X G z_enumerate, b_zip := PySem.W.mg_none_of X G z_zip, b_ValueError := PySem.W.mg_none_of X G z_ValueError, b_super := PySem.W.mg_none_of X G z_super }
  have Fu_mark_of := fun_mk (st := s_mark_of) l_mark_of k1_mark_of k2_mark_of
  have bi_mark_of := Fu_mark_of.binds (ps := ["letters"]) fun _ _ _ _ _ _ us hl => match us, hl with | [_], _ => rfl
  have hm_mark_of := PySem.W.mg_of X G a_mark_of
  have Fu_letter_at := fun_mk (st := s_letter_at) l_letter_at k1_letter_at k2_letter_at
  have bi_letter_at := Fu_letter_at.binds (ps := ["mark", "wire"]) fun _ _ _ _ _ _ us hl => match us, hl with | [_, _], _ => rfl
  have hm_letter_at := PySem.W.mg_of X G a_letter_at
  have Fu_is_integer := fun_mk (st := s_is_integer) l_is_integer k1_is_integer k2_is_integer
  have bi_is_integer := Fu_is_integer.binds (ps := ["value", "low", "high"]) fun _ _ _ _ _ _ us hl => match us, hl with | [_, _, _], _ => rfl
  have hm_is_integer := PySem.W.mg_of X G a_is_integer
  have Fu_is_tuple := fun_mk (st := s_is_tuple) l_is_tuple k1_is_tuple k2_is_tuple
  have bi_is_tuple := Fu_is_tuple.binds (ps := ["value", "low", "high"]) fun _ _ _ _ _ _ us hl => match us, hl with | [_, _, _], _ => rfl
  have hm_is_tuple := PySem.W.mg_of X G a_is_tuple
  have Fu_is_letters := fun_mk (st := s_is_letters) l_is_letters k1_is_letters k2_is_letters
  have bi_is_letters := Fu_is_letters.binds (ps := ["value", "wires"]) fun _ _ _ _ _ _ us hl => match us, hl with | [_, _], _ => rfl
  have hm_is_letters := PySem.W.mg_of X G a_is_letters
  have Fu_is_wire_word := fun_mk (st := s_is_wire_word) l_is_wire_word k1_is_wire_word k2_is_wire_word
  have bi_is_wire_word := Fu_is_wire_word.binds (ps := ["word", "wires"]) fun _ _ _ _ _ _ us hl => match us, hl with | [_, _], _ => rfl
  have hm_is_wire_word := PySem.W.mg_of X G a_is_wire_word
  have Fu_wires_of := fun_mk (st := s_wires_of) l_wires_of k1_wires_of k2_wires_of
  have bi_wires_of := Fu_wires_of.binds (ps := ["word"]) fun _ _ _ _ _ _ us hl => match us, hl with | [_], _ => rfl
  have hm_wires_of := PySem.W.mg_of X G a_wires_of
  have Fu_bit_x := fun_mk (st := s_bit_x) l_bit_x k1_bit_x k2_bit_x
  have bi_bit_x := Fu_bit_x.binds (ps := ["mark", "wire"]) fun _ _ _ _ _ _ us hl => match us, hl with | [_, _], _ => rfl
  have hm_bit_x := PySem.W.mg_of X G a_bit_x
  have Fu_bit_z := fun_mk (st := s_bit_z) l_bit_z k1_bit_z k2_bit_z
  have bi_bit_z := Fu_bit_z.binds (ps := ["mark", "wire"]) fun _ _ _ _ _ _ us hl => match us, hl with | [_, _], _ => rfl
  have hm_bit_z := PySem.W.mg_of X G a_bit_z
  have Fu_with_bits := fun_mk (st := s_with_bits) l_with_bits k1_with_bits k2_with_bits
  have bi_with_bits := Fu_with_bits.binds (ps := ["mark", "wire", "x", "z"]) fun _ _ _ _ _ _ us hl => match us, hl with | [_, _, _, _], _ => rfl
  have hm_with_bits := PySem.W.mg_of X G a_with_bits
  have Fu_turned_back := fun_mk (st := s_turned_back) l_turned_back k1_turned_back k2_turned_back
  have bi_turned_back := Fu_turned_back.binds (ps := ["gates"]) fun _ _ _ _ _ _ us hl => match us, hl with | [_], _ => rfl
  have hm_turned_back := PySem.W.mg_of X G a_turned_back
  have Fu_single_marks := fun_mk (st := s_single_marks) l_single_marks k1_single_marks k2_single_marks
  have bi_single_marks := Fu_single_marks.binds (ps := ["wires"]) fun _ _ _ _ _ _ us hl => match us, hl with | [_], _ => rfl
  have hm_single_marks := PySem.W.mg_of X G a_single_marks
  have Fu__law_pot := fun_mk (st := s__law_pot) l__law_pot k1__law_pot k2__law_pot
  have bi__law_pot := Fu__law_pot.binds (ps := ["script", "place"]) fun _ _ _ _ _ _ us hl => match us, hl with | [_, _], _ => rfl
  have hm__law_pot := PySem.W.mg_of X G a__law_pot
  have Fu__law_take := fun_mk (st := s__law_take) l__law_take k1__law_take k2__law_take
  have bi__law_take := Fu__law_take.binds (ps := ["pot", "upto"]) fun _ _ _ _ _ _ us hl => match us, hl with | [_, _], _ => rfl
  have hm__law_take := PySem.W.mg_of X G a__law_take
  have Fu__law_cells := fun_mk (st := s__law_cells) l__law_cells k1__law_cells k2__law_cells
  have bi__law_cells := Fu__law_cells.binds (ps := ["script", "most"]) fun _ _ _ _ _ _ us hl => match us, hl with | [_, _], _ => rfl
  have hm__law_cells := PySem.W.mg_of X G a__law_cells
  have Fu__law_are_letters := fun_mk (st := s__law_are_letters) l__law_are_letters k1__law_are_letters k2__law_are_letters
  have bi__law_are_letters := Fu__law_are_letters.binds (ps := ["value", "wires"]) fun _ _ _ _ _ _ us hl => match us, hl with | [_, _], _ => rfl
  have hm__law_are_letters := PySem.W.mg_of X G a__law_are_letters
  have Fu__law_read := fun_mk (st := s__law_read) l__law_read k1__law_read k2__law_read
  have bi__law_read := Fu__law_read.binds (ps := ["word"]) fun _ _ _ _ _ _ us hl => match us, hl with | [_], _ => rfl
  have hm__law_read := PySem.W.mg_of X G a__law_read
  have Fu__law_single := fun_mk (st := s__law_single) l__law_single k1__law_single k2__law_single
  have bi__law_single := Fu__law_single.binds (ps := ["wires", "wire", "letter"]) fun _ _ _ _ _ _ us hl => match us, hl with | [_, _, _], _ => rfl
  have hm__law_single := PySem.W.mg_of X G a__law_single
  have Fu__law_power := fun_mk (st := s__law_power) l__law_power k1__law_power k2__law_power
  have bi__law_power := Fu__law_power.binds (ps := ["many"]) fun _ _ _ _ _ _ us hl => match us, hl with | [_], _ => rfl
  have hm__law_power := PySem.W.mg_of X G a__law_power
  have Fu__law_spun := fun_mk (st := s__law_spun) l__law_spun k1__law_spun k2__law_spun
  have bi__law_spun := Fu__law_spun.binds (ps := ["one", "turns"]) fun _ _ _ _ _ _ us hl => match us, hl with | [_, _], _ => rfl
  have hm__law_spun := PySem.W.mg_of X G a__law_spun
  have Fu__law_plus := fun_mk (st := s__law_plus) l__law_plus k1__law_plus k2__law_plus
  have bi__law_plus := Fu__law_plus.binds (ps := ["one", "other"]) fun _ _ _ _ _ _ us hl => match us, hl with | [_, _], _ => rfl
  have hm__law_plus := PySem.W.mg_of X G a__law_plus
  have Fu_letters_of := fun_mk (st := s_letters_of) l_letters_of k1_letters_of k2_letters_of
  have bi_letters_of := Fu_letters_of.binds (ps := ["mark", "wires"]) fun _ _ _ _ _ _ us hl => match us, hl with | [_, _], _ => rfl
  have hm_letters_of := PySem.W.mg_of X G a_letters_of
  have Fu_signed_of := fun_mk (st := s_signed_of) l_signed_of k1_signed_of k2_signed_of
  have bi_signed_of := Fu_signed_of.binds (ps := ["word"]) fun _ _ _ _ _ _ us hl => match us, hl with | [_], _ => rfl
  have hm_signed_of := PySem.W.mg_of X G a_signed_of
  have Fu_is_word := fun_mk (st := s_is_word) l_is_word k1_is_word k2_is_word
  have bi_is_word := Fu_is_word.binds (ps := ["value", "wires"]) fun _ _ _ _ _ _ us hl => match us, hl with | [_, _], _ => rfl
  have hm_is_word := PySem.W.mg_of X G a_is_word
  have Fu_check_number := fun_mk (st := s_check_number) l_check_number k1_check_number k2_check_number
  have bi_check_number := Fu_check_number.binds (ps := ["value", "low", "high"]) fun _ _ _ _ _ _ us hl => match us, hl with | [_, _, _], _ => rfl
  have hm_check_number := PySem.W.mg_of X G a_check_number
  have Fu_is_gate := fun_mk (st := s_is_gate) l_is_gate k1_is_gate k2_is_gate
  have bi_is_gate := Fu_is_gate.binds (ps := ["value", "wires"]) fun _ _ _ _ _ _ us hl => match us, hl with | [_, _], _ => rfl
  have hm_is_gate := PySem.W.mg_of X G a_is_gate
  have Fu_lead_one := fun_mk (st := s_lead_one) l_lead_one k1_lead_one k2_lead_one
  have bi_lead_one := Fu_lead_one.binds (ps := ["name", "signed", "wire"]) fun _ _ _ _ _ _ us hl => match us, hl with | [_, _, _], _ => rfl
  have hm_lead_one := PySem.W.mg_of X G a_lead_one
  have Fu_lead_two := fun_mk (st := s_lead_two) l_lead_two k1_lead_two k2_lead_two
  have bi_lead_two := Fu_lead_two.binds (ps := ["name", "signed", "one", "other"]) fun _ _ _ _ _ _ us hl => match us, hl with | [_, _, _, _], _ => rfl
  have hm_lead_two := PySem.W.mg_of X G a_lead_two
  have Fu__law_of := fun_mk (st := s__law_of) l__law_of k1__law_of k2__law_of
  have bi__law_of := Fu__law_of.binds (ps := ["pot", "some"]) fun _ _ _ _ _ _ us hl => match us, hl with | [_, _], _ => rfl
  have hm__law_of := PySem.W.mg_of X G a__law_of
  have Fu__law_some := fun_mk (st := s__law_some) l__law_some k1__law_some k2__law_some
  have bi__law_some := Fu__law_some.binds (ps := ["pot", "pool", "many"]) fun _ _ _ _ _ _ us hl => match us, hl with | [_, _, _], _ => rfl
  have hm__law_some := PySem.W.mg_of X G a__law_some
  have Fu__law_is_word := fun_mk (st := s__law_is_word) l__law_is_word k1__law_is_word k2__law_is_word
  have bi__law_is_word := Fu__law_is_word.binds (ps := ["value", "wires"]) fun _ _ _ _ _ _ us hl => match us, hl with | [_, _], _ => rfl
  have hm__law_is_word := PySem.W.mg_of X G a__law_is_word
  have Fu__law_acted := fun_mk (st := s__law_acted) l__law_acted k1__law_acted k2__law_acted
  have bi__law_acted := Fu__law_acted.binds (ps := ["word", "state"]) fun _ _ _ _ _ _ us hl => match us, hl with | [_, _], _ => rfl
  have hm__law_acted := PySem.W.mg_of X G a__law_acted
  have Fu__law_gate_on := fun_mk (st := s__law_gate_on) l__law_gate_on k1__law_gate_on k2__law_gate_on
  have bi__law_gate_on := Fu__law_gate_on.binds (ps := ["state", "gate", "wires"]) fun _ _ _ _ _ _ us hl => match us, hl with | [_, _, _], _ => rfl
  have hm__law_gate_on := PySem.W.mg_of X G a__law_gate_on
  have Fu__law_any_state := fun_mk (st := s__law_any_state) l__law_any_state k1__law_any_state k2__law_any_state
  have bi__law_any_state := Fu__law_any_state.binds (ps := ["pot", "wires"]) fun _ _ _ _ _ _ us hl => match us, hl with | [_, _], _ => rfl
  have hm__law_any_state := PySem.W.mg_of X G a__law_any_state
  have Fu__law_unit := fun_mk (st := s__law_unit) l__law_unit k1__law_unit k2__law_unit
  have bi__law_unit := Fu__law_unit.binds (ps := ["wires", "at"]) fun _ _ _ _ _ _ us hl => match us, hl with | [_, _], _ => rfl
  have hm__law_unit := PySem.W.mg_of X G a__law_unit
  have Fu_word_of := fun_mk (st := s_word_of) l_word_of k1_word_of k2_word_of
  have bi_word_of := Fu_word_of.binds (ps := ["signed", "wires"]) fun _ _ _ _ _ _ us hl => match us, hl with | [_, _], _ => rfl
  have hm_word_of := PySem.W.mg_of X G a_word_of
  have Fu_is_any_word := fun_mk (st := s_is_any_word) l_is_any_word k1_is_any_word k2_is_any_word
  have bi_is_any_word := Fu_is_any_word.binds (ps := ["value"]) fun _ _ _ _ _ _ us hl => match us, hl with | [_], _ => rfl
  have hm_is_any_word := PySem.W.mg_of X G a_is_any_word
  have Fu_is_gates := fun_mk (st := s_is_gates) l_is_gates k1_is_gates k2_is_gates
  have bi_is_gates := Fu_is_gates.binds (ps := ["value", "wires"]) fun _ _ _ _ _ _ us hl => match us, hl with | [_, _], _ => rfl
  have hm_is_gates := PySem.W.mg_of X G a_is_gates
  have Fu_lead := fun_mk (st := s_lead) l_lead k1_lead k2_lead
  have bi_lead := Fu_lead.binds (ps := ["signed", "gate"]) fun _ _ _ _ _ _ us hl => match us, hl with | [_, _], _ => rfl
  have hm_lead := PySem.W.mg_of X G a_lead
  have Fu__law_gate := fun_mk (st := s__law_gate) l__law_gate k1__law_gate k2__law_gate
  have bi__law_gate := Fu__law_gate.binds (ps := ["pot", "wires"]) fun _ _ _ _ _ _ us hl => match us, hl with | [_, _], _ => rfl
  have hm__law_gate := PySem.W.mg_of X G a__law_gate
  have Fu__law_any_letters := fun_mk (st := s__law_any_letters) l__law_any_letters k1__law_any_letters k2__law_any_letters
  have bi__law_any_letters := Fu__law_any_letters.binds (ps := ["pot", "wires"]) fun _ _ _ _ _ _ us hl => match us, hl with | [_, _], _ => rfl
  have hm__law_any_letters := PySem.W.mg_of X G a__law_any_letters
  have Fu__law_gates_on := fun_mk (st := s__law_gates_on) l__law_gates_on k1__law_gates_on k2__law_gates_on
  have bi__law_gates_on := Fu__law_gates_on.binds (ps := ["state", "gates", "wires"]) fun _ _ _ _ _ _ us hl => match us, hl with | [_, _, _], _ => rfl
  have hm__law_gates_on := PySem.W.mg_of X G a__law_gates_on
  have Fu__law_units := fun_mk (st := s__law_units) l__law_units k1__law_units k2__law_units
  have bi__law_units := Fu__law_units.binds (ps := ["wires"]) fun _ _ _ _ _ _ us hl => match us, hl with | [_], _ => rfl
  have hm__law_units := PySem.W.mg_of X G a__law_units
  have Fu_check_gates := fun_mk (st := s_check_gates) l_check_gates k1_check_gates k2_check_gates
  have bi_check_gates := Fu_check_gates.binds (ps := ["value", "wires"]) fun _ _ _ _ _ _ us hl => match us, hl with | [_, _], _ => rfl
  have hm_check_gates := PySem.W.mg_of X G a_check_gates
  have Fu_check_any_word := fun_mk (st := s_check_any_word) l_check_any_word k1_check_any_word k2_check_any_word
  have bi_check_any_word := Fu_check_any_word.binds (ps := ["value"]) fun _ _ _ _ _ _ us hl => match us, hl with | [_], _ => rfl
  have hm_check_any_word := PySem.W.mg_of X G a_check_any_word
  have Fu_led_signed := fun_mk (st := s_led_signed) l_led_signed k1_led_signed k2_led_signed
  have bi_led_signed := Fu_led_signed.binds (ps := ["signed", "gates"]) fun _ _ _ _ _ _ us hl => match us, hl with | [_, _], _ => rfl
  have hm_led_signed := PySem.W.mg_of X G a_led_signed
  have Fu__law_any_word := fun_mk (st := s__law_any_word) l__law_any_word k1__law_any_word k2__law_any_word
  have bi__law_any_word := Fu__law_any_word.binds (ps := ["pot", "wires"]) fun _ _ _ _ _ _ us hl => match us, hl with | [_, _], _ => rfl
  have hm__law_any_word := PySem.W.mg_of X G a__law_any_word
  have Fu__law_gates := fun_mk (st := s__law_gates) l__law_gates k1__law_gates k2__law_gates
  have bi__law_gates := Fu__law_gates.binds (ps := ["pot", "wires"]) fun _ _ _ _ _ _ us hl => match us, hl with | [_, _], _ => rfl
  have hm__law_gates := PySem.W.mg_of X G a__law_gates
  have Fu__law_acts_so := fun_mk (st := s__law_acts_so) l__law_acts_so k1__law_acts_so k2__law_acts_so
  have bi__law_acts_so := Fu__law_acts_so.binds (ps := ["state", "gates", "word", "told"]) fun _ _ _ _ _ _ us hl => match us, hl with | [_, _, _, _], _ => rfl
  have hm__law_acts_so := PySem.W.mg_of X G a__law_acts_so
  have Fu_led := fun_mk (st := s_led) l_led k1_led k2_led
  have bi_led := Fu_led.binds (ps := ["word", "gates"]) fun _ _ _ _ _ _ us hl => match us, hl with | [_, _], _ => rfl
  have hm_led := PySem.W.mg_of X G a_led
  have Fu_back := fun_mk (st := s_back) l_back k1_back k2_back
  have bi_back := Fu_back.binds (ps := ["word", "gates"]) fun _ _ _ _ _ _ us hl => match us, hl with | [_, _], _ => rfl
  have hm_back := PySem.W.mg_of X G a_back
  have Fu_rows_by := fun_mk (st := s_rows_by) l_rows_by k1_rows_by k2_rows_by
  have bi_rows_by := Fu_rows_by.binds (ps := ["wires", "gates"]) fun _ _ _ _ _ _ us hl => match us, hl with | [_, _], _ => rfl
  have hm_rows_by := PySem.W.mg_of X G a_rows_by
  have Fu__law_is_table_right := fun_mk (st := s__law_is_table_right) l__law_is_table_right k1__law_is_table_right k2__law_is_table_right
  have bi__law_is_table_right := Fu__law_is_table_right.binds (ps := ["told", "gates", "wires", "states"]) fun _ _ _ _ _ _ us hl => match us, hl with | [_, _, _, _], _ => rfl
  have hm__law_is_table_right := PySem.W.mg_of X G a__law_is_table_right
  have Fu_table := fun_mk (st := s_table) l_table k1_table k2_table
  have bi_table := Fu_table.binds (ps := ["wires", "gates"]) fun _ _ _ _ _ _ us hl => match us, hl with | [_, _], _ => rfl
  have hm_table := PySem.W.mg_of X G a_table
  have Fu__law_right := fun_mk (st := s__law_right) l__law_right k1__law_right k2__law_right
  have bi__law_right := Fu__law_right.binds (ps := ["pot"]) fun _ _ _ _ _ _ us hl => match us, hl with | [_], _ => rfl
  have hm__law_right := PySem.W.mg_of X G a__law_right
  have Fu_law := fun_mk (st := s_law) l_law k1_law k2_law
  have bi_law := Fu_law.binds (ps := ["script"]) fun _ _ _ _ _ _ us hl => match us, hl with | [_], _ => rfl
  have hm_law := PySem.W.mg_of X G a_law
  refine ⟨PySem.W.fnOf "law" "law" (defArgs s_law) (defBody s_law) (defScope s_law) .none kV_law dc_law pm_law an_law cd_law ct_law, fun s v => .of_eq rfl, fun base _ _ => ?_⟩
  have F_mark_of := ok_mark_of (P := l.prog) (w := w) (base := base) Fu_mark_of hm_mark_of bi_mark_of T 
  have F_letter_at := ok_letter_at (P := l.prog) (w := w) (base := base) Fu_letter_at hm_letter_at bi_letter_at T 
  have F_is_integer := ok_is_integer (P := l.prog) (w := w) (base := base) Fu_is_integer hm_is_integer bi_is_integer T 
  have F_is_tuple := ok_is_tuple (P := l.prog) (w := w) (base := base) Fu_is_tuple hm_is_tuple bi_is_tuple T 
  have F_is_letters := ok_is_letters (P := l.prog) (w := w) (base := base) Fu_is_letters hm_is_letters bi_is_letters T 
  have F_is_wire_word := ok_is_wire_word (P := l.prog) (w := w) (base := base) Fu_is_wire_word hm_is_wire_word bi_is_wire_word T 
  have F_wires_of := ok_wires_of (P := l.prog) (w := w) (base := base) Fu_wires_of hm_wires_of bi_wires_of T 
  have F_bit_x := ok_bit_x (P := l.prog) (w := w) (base := base) Fu_bit_x hm_bit_x bi_bit_x T 
  have F_bit_z := ok_bit_z (P := l.prog) (w := w) (base := base) Fu_bit_z hm_bit_z bi_bit_z T 
  have F_with_bits := ok_with_bits (P := l.prog) (w := w) (base := base) Fu_with_bits hm_with_bits bi_with_bits T 
  have F_turned_back := ok_turned_back (P := l.prog) (w := w) (base := base) Fu_turned_back hm_turned_back bi_turned_back T 
  have F_single_marks := ok_single_marks (P := l.prog) (w := w) (base := base) Fu_single_marks hm_single_marks bi_single_marks T 
  have F__law_pot := ok__law_pot (P := l.prog) (w := w) (base := base) Fu__law_pot hm__law_pot bi__law_pot T 
  have F__law_take := ok__law_take (P := l.prog) (w := w) (base := base) Fu__law_take hm__law_take bi__law_take T 
  have F__law_cells := ok__law_cells (P := l.prog) (w := w) (base := base) Fu__law_cells hm__law_cells bi__law_cells T 
  have F__law_are_letters := ok__law_are_letters (P := l.prog) (w := w) (base := base) Fu__law_are_letters hm__law_are_letters bi__law_are_letters T 
  have F__law_read := ok__law_read (P := l.prog) (w := w) (base := base) Fu__law_read hm__law_read bi__law_read T 
  have F__law_single := ok__law_single (P := l.prog) (w := w) (base := base) Fu__law_single hm__law_single bi__law_single T 
  have F__law_power := ok__law_power (P := l.prog) (w := w) (base := base) Fu__law_power hm__law_power bi__law_power T 
  have F__law_spun := ok__law_spun (P := l.prog) (w := w) (base := base) Fu__law_spun hm__law_spun bi__law_spun T 
  have F__law_plus := ok__law_plus (P := l.prog) (w := w) (base := base) Fu__law_plus hm__law_plus bi__law_plus T 
  have F_letters_of := ok_letters_of (P := l.prog) (w := w) (base := base) Fu_letters_of hm_letters_of bi_letters_of T F_letter_at
  have F_signed_of := ok_signed_of (P := l.prog) (w := w) (base := base) Fu_signed_of hm_signed_of bi_signed_of T F_mark_of
  have F_is_word := ok_is_word (P := l.prog) (w := w) (base := base) Fu_is_word hm_is_word bi_is_word T F_is_letters
  have F_check_number := ok_check_number (P := l.prog) (w := w) (base := base) Fu_check_number hm_check_number bi_check_number T F_is_integer
  have F_is_gate := ok_is_gate (P := l.prog) (w := w) (base := base) Fu_is_gate hm_is_gate bi_is_gate T F_is_wire_word
  have F_lead_one := ok_lead_one (P := l.prog) (w := w) (base := base) Fu_lead_one hm_lead_one bi_lead_one T F_bit_x F_bit_z F_with_bits
  have F_lead_two := ok_lead_two (P := l.prog) (w := w) (base := base) Fu_lead_two hm_lead_two bi_lead_two T F_bit_x F_bit_z F_with_bits
  have F__law_of := ok__law_of (P := l.prog) (w := w) (base := base) Fu__law_of hm__law_of bi__law_of T F__law_take
  have F__law_some := ok__law_some (P := l.prog) (w := w) (base := base) Fu__law_some hm__law_some bi__law_some T F__law_take
  have F__law_is_word := ok__law_is_word (P := l.prog) (w := w) (base := base) Fu__law_is_word hm__law_is_word bi__law_is_word T F__law_are_letters
  have F__law_acted := ok__law_acted (P := l.prog) (w := w) (base := base) Fu__law_acted hm__law_acted bi__law_acted T F__law_spun
  have F__law_gate_on := ok__law_gate_on (P := l.prog) (w := w) (base := base) Fu__law_gate_on hm__law_gate_on bi__law_gate_on T F__law_spun F__law_plus
  have F__law_any_state := ok__law_any_state (P := l.prog) (w := w) (base := base) Fu__law_any_state hm__law_any_state bi__law_any_state T F__law_take F__law_power
  have F__law_unit := ok__law_unit (P := l.prog) (w := w) (base := base) Fu__law_unit hm__law_unit bi__law_unit T F__law_power
  have F_word_of := ok_word_of (P := l.prog) (w := w) (base := base) Fu_word_of hm_word_of bi_word_of T F_letters_of
  have F_is_any_word := ok_is_any_word (P := l.prog) (w := w) (base := base) Fu_is_any_word hm_is_any_word bi_is_any_word T F_is_word
  have F_is_gates := ok_is_gates (P := l.prog) (w := w) (base := base) Fu_is_gates hm_is_gates bi_is_gates T F_is_tuple F_is_gate
  have F_lead := ok_lead (P := l.prog) (w := w) (base := base) Fu_lead hm_lead bi_lead T F_lead_one F_lead_two
  have F__law_gate := ok__law_gate (P := l.prog) (w := w) (base := base) Fu__law_gate hm__law_gate bi__law_gate T F__law_take F__law_of F__law_some
  have F__law_any_letters := ok__law_any_letters (P := l.prog) (w := w) (base := base) Fu__law_any_letters hm__law_any_letters bi__law_any_letters T F__law_of
  have F__law_gates_on := ok__law_gates_on (P := l.prog) (w := w) (base := base) Fu__law_gates_on hm__law_gates_on bi__law_gates_on T F__law_gate_on
  have F__law_units := ok__law_units (P := l.prog) (w := w) (base := base) Fu__law_units hm__law_units bi__law_units T F__law_power F__law_unit
  have F_check_gates := ok_check_gates (P := l.prog) (w := w) (base := base) Fu_check_gates hm_check_gates bi_check_gates T F_is_gates
  have F_check_any_word := ok_check_any_word (P := l.prog) (w := w) (base := base) Fu_check_any_word hm_check_any_word bi_check_any_word T F_is_any_word
  have F_led_signed := ok_led_signed (P := l.prog) (w := w) (base := base) Fu_led_signed hm_led_signed bi_led_signed T F_lead
  have F__law_any_word := ok__law_any_word (P := l.prog) (w := w) (base := base) Fu__law_any_word hm__law_any_word bi__law_any_word T F__law_of F__law_any_letters
  have F__law_gates := ok__law_gates (P := l.prog) (w := w) (base := base) Fu__law_gates hm__law_gates bi__law_gates T F__law_take F__law_gate
  have F__law_acts_so := ok__law_acts_so (P := l.prog) (w := w) (base := base) Fu__law_acts_so hm__law_acts_so bi__law_acts_so T F__law_is_word F__law_read F__law_acted F__law_gates_on
  have F_led := ok_led (P := l.prog) (w := w) (base := base) Fu_led hm_led bi_led T F_signed_of F_word_of F_check_gates F_wires_of F_check_any_word F_led_signed
  have F_back := ok_back (P := l.prog) (w := w) (base := base) Fu_back hm_back bi_back T F_signed_of F_word_of F_check_gates F_wires_of F_check_any_word F_led_signed F_turned_back
  have F_rows_by := ok_rows_by (P := l.prog) (w := w) (base := base) Fu_rows_by hm_rows_by bi_rows_by T F_led_signed F_single_marks
  have F__law_is_table_right := ok__law_is_table_right (P := l.prog) (w := w) (base := base) Fu__law_is_table_right hm__law_is_table_right bi__law_is_table_right T F__law_single F__law_acts_so
  have F_table := ok_table (P := l.prog) (w := w) (base := base) Fu_table hm_table bi_table T F_word_of F_check_number F_check_gates F_rows_by
  have F__law_right := ok__law_right (P := l.prog) (w := w) (base := base) Fu__law_right hm__law_right bi__law_right T F_led F_back F_table F__law_take F__law_is_word F__law_any_word F__law_power F__law_any_state F__law_unit F__law_units F__law_gates F__law_acts_so F__law_is_table_right
  exact ok_law Fu_law hm_law bi_law T F__law_pot F__law_cells F__law_right
theorem walk {l : PySem.W.OpenLaw} {q : Program} {loose : List Str} {XP : (Str → Option Value) → Heap → Prop} {YP : World → Heap → Prop} {d : DefRec} {K : Params → PySem.W.Frag} (hn : l.most = some 63) (hdf : d.params.defaults = [])
    (hY : ∀ (w : World) (h : Heap), YP w h → (K w.params).In h)
    (F : ∀ (w : World) (mg : Str → Option Value) (fa : Addr) (h : Heap), (K w.params).In h → h.Ns mainGlobals mg → mg d.name = some (.ref fa) →
      ∃ fd : FuncData, (∀ (s : Shared) (u : Value), BindsTo s fd ⟨[u], []⟩ [("script", u)]) ∧ ∀ base : Heap, (K w.params).In base → base.Ns mainGlobals mg → FnOk l.prog w (K w.params) mg base CX0 8 fa fd ["script"] (spD (K w.params) 1 LawS)) :
    PySem.W.WalkO q loose XP YP l.row.toRowW d [] (fun f vs => PySem.call f vs) :=
  L2.walk_of (n := 63) (k := 8) (x := "script") (CX := fun _ => CX0) (sp := fun w => spD (K w.params) 1 LawS) hn (Nat.le_of_ble_eq_true rfl) hdf ⟨rfl, by decide, by decide⟩ hY F (fun _ _ _ _ hl hO hS => law_hsp hl hO hS _) fun _ _ _ _ _ z => z
end T01
open PySem PySem.W PyProof.Rows
set_option maxRecDepth 100000 in
set_option maxHeartbeats 0 in
theorem PySem.Challenge.cw_guardedwires_k01_whole_gates_as_tables_o_holds : PySem.Challenge.rw_guardedwires_k01_whole_gates_as_tables_o.Holds := by
  w_on; o_law; k_head; (case hw => w_witness2)
  k_fill
  refine T01.walk (l := PySem.Challenge.rw_guardedwires_k01_whole_gates_as_tables_o) rfl rfl (fun w h Y => PySem.W.kIn_of Y) ?F
  case F =>
    intro w mg fa h KX G hmg
    refine' T01.all_mk KX G hmg ?n_IDLE ?n_TO_X ?n_TO_Y ?n_TO_Z ?n_PLUS ?n_MINUS ?n_MOST_WIRES ?n_LETTERS ?n_SIGNS ?n_DIGITS ?n_BLANK ?n_SINGLES ?l_SINGLES ?n_DOUBLES ?l_DOUBLES ?n_MOST_GATES ?n_PAIR ?n_QUARTER ?n_HALF ?z_len ?z_abs ?z_max ?z_min ?z_all ?z_sum ?z_isinstance ?z_int ?z_str ?z_bool ?z_list ?z_tuple ?z_range ?z_enumerate ?z_zip ?z_ValueError ?z_super ?a_mark_of ?l_mark_of ?k1_mark_of ?k2_mark_of ?a_letter_at ?l_letter_at ?k1_letter_at ?k2_letter_at ?a_is_integer ?l_is_integer ?k1_is_integer ?k2_is_integer ?a_is_tuple ?l_is_tuple ?k1_is_tuple ?k2_is_tuple ?a_is_letters ?l_is_letters ?k1_is_letters ?k2_is_letters ?a_is_wire_word ?l_is_wire_word ?k1_is_wire_word ?k2_is_wire_word ?a_wires_of ?l_wires_of ?k1_wires_of ?k2_wires_of ?a_bit_x ?l_bit_x ?k1_bit_x ?k2_bit_x ?a_bit_z ?l_bit_z ?k1_bit_z ?k2_bit_z ?a_with_bits ?l_with_bits ?k1_with_bits ?k2_with_bits ?a_turned_back ?l_turned_back ?k1_turned_back ?k2_turned_back ?a_single_marks ?l_single_marks ?k1_single_marks ?k2_single_marks ?a__law_pot ?l__law_pot ?k1__law_pot ?k2__law_pot ?a__law_take ?l__law_take ?k1__law_take ?k2__law_take ?a__law_cells ?l__law_cells ?k1__law_cells ?k2__law_cells ?a__law_are_letters ?l__law_are_letters ?k1__law_are_letters ?k2__law_are_letters ?a__law_read ?l__law_read ?k1__law_read ?k2__law_read ?a__law_single ?l__law_single ?k1__law_single ?k2__law_single ?a__law_power ?l__law_power ?k1__law_power ?k2__law_power ?a__law_spun ?l__law_spun ?k1__law_spun ?k2__law_spun ?a__law_plus ?l__law_plus ?k1__law_plus ?k2__law_plus ?a_letters_of ?l_letters_of ?k1_letters_of ?k2_letters_of ?a_signed_of ?l_signed_of ?k1_signed_of ?k2_signed_of ?a_is_word ?l_is_word ?k1_is_word ?k2_is_word ?a_check_number ?l_check_number ?k1_check_number ?k2_check_number ?a_is_gate ?l_is_gate ?k1_is_gate ?k2_is_gate ?a_lead_one ?l_lead_one ?k1_lead_one ?k2_lead_one ?a_lead_two ?l_lead_two ?k1_lead_two ?k2_lead_two ?a__law_of ?l__law_of ?k1__law_of ?k2__law_of ?a__law_some ?l__law_some ?k1__law_some ?k2__law_some ?a__law_is_word ?l__law_is_word ?k1__law_is_word ?k2__law_is_word ?a__law_acted ?l__law_acted ?k1__law_acted ?k2__law_acted ?a__law_gate_on ?l__law_gate_on ?k1__law_gate_on ?k2__law_gate_on ?a__law_any_state ?l__law_any_state ?k1__law_any_state ?k2__law_any_state ?a__law_unit ?l__law_unit ?k1__law_unit ?k2__law_unit ?a_word_of ?l_word_of ?k1_word_of ?k2_word_of ?a_is_any_word ?l_is_any_word ?k1_is_any_word ?k2_is_any_word ?a_is_gates ?l_is_gates ?k1_is_gates ?k2_is_gates ?a_lead ?l_lead ?k1_lead ?k2_lead ?a__law_gate ?l__law_gate ?k1__law_gate ?k2__law_gate ?a__law_any_letters ?l__law_any_letters ?k1__law_any_letters ?k2__law_any_letters ?a__law_gates_on ?l__law_gates_on ?k1__law_gates_on ?k2__law_gates_on ?a__law_units ?l__law_units ?k1__law_units ?k2__law_units ?a_check_gates ?l_check_gates ?k1_check_gates ?k2_check_gates ?a_check_any_word ?l_check_any_word ?k1_check_any_word ?k2_check_any_word ?a_led_signed ?l_led_signed ?k1_led_signed ?k2_led_signed ?a__law_any_word ?l__law_any_word ?k1__law_any_word ?k2__law_any_word ?a__law_gates ?l__law_gates ?k1__law_gates ?k2__law_gates ?a__law_acts_so ?l__law_acts_so ?k1__law_acts_so ?k2__law_acts_so ?a_led ?l_led ?k1_led ?k2_led ?a_back ?l_back ?k1_back ?k2_back ?a_rows_by ?l_rows_by ?k1_rows_by ?k2_rows_by ?a__law_is_table_right ?l__law_is_table_right ?k1__law_is_table_right ?k2__law_is_table_right ?a_table ?l_table ?k1_table ?k2_table ?a__law_right ?l__law_right ?k1__law_right ?k2__law_right ?a_law ?l_law ?k1_law ?k2_law
    (case n_IDLE => k_is); (case n_TO_X => k_is); (case n_TO_Y => k_is); (case n_TO_Z => k_is); (case n_PLUS => k_is); (case n_MINUS => k_is); (case n_MOST_WIRES => k_is); (case n_LETTERS => k_is)
    (case n_SIGNS => k_is); (case n_DIGITS => k_is); (case n_BLANK => k_is); (case n_SINGLES => k_is); (case l_SINGLES => k_is); (case n_DOUBLES => k_is); (case l_DOUBLES => k_is); (case n_MOST_GATES => k_is)
    (case n_PAIR => k_is); (case n_QUARTER => k_is); (case n_HALF => k_is); (case z_len => k_is); (case z_abs => k_is); (case z_max => k_is); (case z_min => k_is); (case z_all => k_is)
    (case z_sum => k_is); (case z_isinstance => k_is); (case z_int => k_is); (case z_str => k_is); (case z_bool => k_is); (case z_list => k_is); (case z_tuple => k_is); (case z_range => k_is)
    (case z_enumerate => k_is); (case z_zip => k_is); (case z_ValueError => k_is); (case z_super => k_is); (case a_mark_of => k_is); (case l_mark_of => k_is); (case k1_mark_of => k_is); (case k2_mark_of => k_is)
    (case a_letter_at => k_is); (case l_letter_at => k_is); (case k1_letter_at => k_is); (case k2_letter_at => k_is); (case a_is_integer => k_is); (case l_is_integer => k_is); (case k1_is_integer => k_is); (case k2_is_integer => k_is)
    (case a_is_tuple => k_is); (case l_is_tuple => k_is); (case k1_is_tuple => k_is); (case k2_is_tuple => k_is); (case a_is_letters => k_is); (case l_is_letters => k_is); (case k1_is_letters => k_is); (case k2_is_letters => k_is)
    (case a_is_wire_word => k_is); (case l_is_wire_word => k_is); (case k1_is_wire_word => k_is); (case k2_is_wire_word => k_is); (case a_wires_of => k_is); (case l_wires_of => k_is); (case k1_wires_of => k_is); (case k2_wires_of => k_is)
    (case a_bit_x => k_is); (case l_bit_x => k_is); (case k1_bit_x => k_is); (case k2_bit_x => k_is); (case a_bit_z => k_is); (case l_bit_z => k_is); (case k1_bit_z => k_is); (case k2_bit_z => k_is)
    (case a_with_bits => k_is); (case l_with_bits => k_is); (case k1_with_bits => k_is); (case k2_with_bits => k_is); (case a_turned_back => k_is); (case l_turned_back => k_is); (case k1_turned_back => k_is); (case k2_turned_back => k_is)
    (case a_single_marks => k_is); (case l_single_marks => k_is); (case k1_single_marks => k_is); (case k2_single_marks => k_is); (case a__law_pot => k_is); (case l__law_pot => k_is); (case k1__law_pot => k_is); (case k2__law_pot => k_is)
    (case a__law_take => k_is); (case l__law_take => k_is); (case k1__law_take => k_is); (case k2__law_take => k_is); (case a__law_cells => k_is); (case l__law_cells => k_is); (case k1__law_cells => k_is); (case k2__law_cells => k_is)
    (case a__law_are_letters => k_is); (case l__law_are_letters => k_is); (case k1__law_are_letters => k_is); (case k2__law_are_letters => k_is); (case a__law_read => k_is); (case l__law_read => k_is); (case k1__law_read => k_is); (case k2__law_read => k_is)
    (case a__law_single => k_is); (case l__law_single => k_is); (case k1__law_single => k_is); (case k2__law_single => k_is); (case a__law_power => k_is); (case l__law_power => k_is); (case k1__law_power => k_is); (case k2__law_power => k_is)
    (case a__law_spun => k_is); (case l__law_spun => k_is); (case k1__law_spun => k_is); (case k2__law_spun => k_is); (case a__law_plus => k_is); (case l__law_plus => k_is); (case k1__law_plus => k_is); (case k2__law_plus => k_is)
    (case a_letters_of => k_is); (case l_letters_of => k_is); (case k1_letters_of => k_is); (case k2_letters_of => k_is); (case a_signed_of => k_is); (case l_signed_of => k_is); (case k1_signed_of => k_is); (case k2_signed_of => k_is)
    (case a_is_word => k_is); (case l_is_word => k_is); (case k1_is_word => k_is); (case k2_is_word => k_is); (case a_check_number => k_is); (case l_check_number => k_is); (case k1_check_number => k_is); (case k2_check_number => k_is)
    (case a_is_gate => k_is); (case l_is_gate => k_is); (case k1_is_gate => k_is); (case k2_is_gate => k_is); (case a_lead_one => k_is); (case l_lead_one => k_is); (case k1_lead_one => k_is); (case k2_lead_one => k_is)
    (case a_lead_two => k_is); (case l_lead_two => k_is); (case k1_lead_two => k_is); (case k2_lead_two => k_is); (case a__law_of => k_is); (case l__law_of => k_is); (case k1__law_of => k_is); (case k2__law_of => k_is)
    (case a__law_some => k_is); (case l__law_some => k_is); (case k1__law_some => k_is); (case k2__law_some => k_is); (case a__law_is_word => k_is); (case l__law_is_word => k_is); (case k1__law_is_word => k_is); (case k2__law_is_word => k_is)
    (case a__law_acted => k_is); (case l__law_acted => k_is); (case k1__law_acted => k_is); (case k2__law_acted => k_is); (case a__law_gate_on => k_is); (case l__law_gate_on => k_is); (case k1__law_gate_on => k_is); (case k2__law_gate_on => k_is)
    (case a__law_any_state => k_is); (case l__law_any_state => k_is); (case k1__law_any_state => k_is); (case k2__law_any_state => k_is); (case a__law_unit => k_is); (case l__law_unit => k_is); (case k1__law_unit => k_is); (case k2__law_unit => k_is)
    (case a_word_of => k_is); (case l_word_of => k_is); (case k1_word_of => k_is); (case k2_word_of => k_is); (case a_is_any_word => k_is); (case l_is_any_word => k_is); (case k1_is_any_word => k_is); (case k2_is_any_word => k_is)
    (case a_is_gates => k_is); (case l_is_gates => k_is); (case k1_is_gates => k_is); (case k2_is_gates => k_is); (case a_lead => k_is); (case l_lead => k_is); (case k1_lead => k_is); (case k2_lead => k_is)
    (case a__law_gate => k_is); (case l__law_gate => k_is); (case k1__law_gate => k_is); (case k2__law_gate => k_is); (case a__law_any_letters => k_is); (case l__law_any_letters => k_is); (case k1__law_any_letters => k_is); (case k2__law_any_letters => k_is)
    (case a__law_gates_on => k_is); (case l__law_gates_on => k_is); (case k1__law_gates_on => k_is); (case k2__law_gates_on => k_is); (case a__law_units => k_is); (case l__law_units => k_is); (case k1__law_units => k_is); (case k2__law_units => k_is)
    (case a_check_gates => k_is); (case l_check_gates => k_is); (case k1_check_gates => k_is); (case k2_check_gates => k_is); (case a_check_any_word => k_is); (case l_check_any_word => k_is); (case k1_check_any_word => k_is); (case k2_check_any_word => k_is)
    (case a_led_signed => k_is); (case l_led_signed => k_is); (case k1_led_signed => k_is); (case k2_led_signed => k_is); (case a__law_any_word => k_is); (case l__law_any_word => k_is); (case k1__law_any_word => k_is); (case k2__law_any_word => k_is)
    (case a__law_gates => k_is); (case l__law_gates => k_is); (case k1__law_gates => k_is); (case k2__law_gates => k_is); (case a__law_acts_so => k_is); (case l__law_acts_so => k_is); (case k1__law_acts_so => k_is); (case k2__law_acts_so => k_is)
    (case a_led => k_is); (case l_led => k_is); (case k1_led => k_is); (case k2_led => k_is); (case a_back => k_is); (case l_back => k_is); (case k1_back => k_is); (case k2_back => k_is)
    (case a_rows_by => k_is); (case l_rows_by => k_is); (case k1_rows_by => k_is); (case k2_rows_by => k_is); (case a__law_is_table_right => k_is); (case l__law_is_table_right => k_is); (case k1__law_is_table_right => k_is); (case k2__law_is_table_right => k_is)
    (case a_table => k_is); (case l_table => k_is); (case k1_table => k_is); (case k2_table => k_is); (case a__law_right => k_is); (case l__law_right => k_is); (case k1__law_right => k_is); (case k2__law_right => k_is)
    (case a_law => k_is); (case l_law => k_is); (case k1_law => k_is); (case k2_law => k_is)
